import PyProof.Rows.All
import Wide.All
import OpenK.AllK
import Wide.FinOn
import HandS.ForMost
import KE.GoesMore
import KE.GoesEnum
import HandS.Codes
import HandS.RaiseMore
import PyProof.ReprRoads
import HandS.SetFor
import HandS.SortInts
import HandS.Strs
import HandS.More
import HandS.ListItems
import KE.KDictZip
import KE.KItemsList
import HandS.SetKeys
import HandS.Style
import HandS.Star
import HandS.TupAny
import HandS.Conv
import HandS.Wide
import PySem.Challenge.RW_suretrips_k56_whole_main_all_numbers_of
import HandS.Walk
import HandS.Evl
import KE.KEqSeq
import PyProof.Rows.ReprShort
set_option Elab.async false
set_option linter.all false
set_option maxRecDepth 100000
set_option maxHeartbeats 8000000
/-! plain mathematics: sums, paths, pieces joined -/
namespace K56

/-! ### sums -/
def sm {α : Type} (f : α → Int) : List α → Int
  | [] => 0
  | x :: r => f x + sm f r
theorem sm_app {α : Type} (f : α → Int) : ∀ (l m : List α), sm f (l ++ m) = sm f l + sm f m
  | [], m => by simp [sm]
  | x :: l, m => by simp only [List.cons_append, sm, sm_app f l m]; omega
theorem sm_perm {α : Type} (f : α → Int) {l m : List α} (h : l.Perm m) : sm f l = sm f m := by
  induction h with
  | nil => rfl
  | cons x _ ih => simp only [sm, ih]
  | swap x y l => simp only [sm]; omega
  | trans _ _ ih1 ih2 => rw [ih1, ih2]
theorem sm_congr {α : Type} {f g : α → Int} : ∀ {l : List α}, (∀ x ∈ l, f x = g x) → sm f l = sm g l
  | [], _ => rfl
  | x :: l, h => by
    simp only [sm]
    rw [h x List.mem_cons_self, sm_congr fun y hy => h y (List.mem_cons_of_mem _ hy)]
theorem sm_le {α : Type} {f g : α → Int} : ∀ {l : List α}, (∀ x ∈ l, f x ≤ g x) → sm f l ≤ sm g l
  | [], _ => Int.le_refl _
  | x :: l, h => by
    have h1 := h x List.mem_cons_self
    have h2 := sm_le (f := f) (g := g) (l := l) fun y hy => h y (List.mem_cons_of_mem _ hy)
    simp only [sm]; omega
theorem sm_nn {α : Type} {f : α → Int} : ∀ {l : List α}, (∀ x ∈ l, 0 ≤ f x) → 0 ≤ sm f l
  | [], _ => Int.le_refl _
  | x :: l, h => by
    have h1 := h x List.mem_cons_self
    have h2 := sm_nn (f := f) (l := l) fun y hy => h y (List.mem_cons_of_mem _ hy)
    simp only [sm]; omega
theorem sm_zero {α : Type} {f : α → Int} {l : List α} (h : ∀ x ∈ l, f x = 0) : sm f l = 0 := by
  induction l with
  | nil => rfl
  | cons x l ih =>
    simp only [sm]
    rw [h x List.mem_cons_self, ih fun y hy => h y (List.mem_cons_of_mem _ hy)]; rfl
theorem sm_add {α : Type} (f g : α → Int) : ∀ (l : List α), sm (fun x => f x + g x) l = sm f l + sm g l
  | [] => rfl
  | x :: l => by simp only [sm, sm_add f g l]; omega
theorem sm_sub {α : Type} (f g : α → Int) : ∀ (l : List α), sm (fun x => f x - g x) l = sm f l - sm g l
  | [] => rfl
  | x :: l => by simp only [sm, sm_sub f g l]; omega
theorem sm_mulr {α : Type} (f : α → Int) (c : Int) : ∀ (l : List α), sm (fun x => f x * c) l = sm f l * c
  | [] => by simp [sm]
  | x :: l => by simp only [sm, sm_mulr f c l, Int.add_mul]
theorem sm_flatMap {α β : Type} (f : β → Int) (g : α → List β) : ∀ (l : List α), sm f (l.flatMap g) = sm (fun x => sm f (g x)) l
  | [] => rfl
  | x :: l => by simp only [List.flatMap_cons, sm_app, sm, sm_flatMap f g l]
theorem sm_map {α β : Type} (f : β → Int) (g : α → β) : ∀ (l : List α), sm f (l.map g) = sm (fun x => f (g x)) l
  | [] => rfl
  | x :: l => by simp only [List.map_cons, sm, sm_map f g l]
theorem sm_swap {α β : Type} (f : α → β → Int) (l : List α) : ∀ (m : List β), sm (fun x => sm (f x) m) l = sm (fun y => sm (fun x => f x y) l) m
  | [] => by
    simp only [sm]
    exact sm_zero fun _ _ => rfl
  | y :: m => by
    simp only [sm]
    rw [sm_add, sm_swap f l m]
theorem sm_one {α : Type} : ∀ (l : List α), sm (fun _ => 1) l = l.length
  | [] => rfl
  | x :: l => by simp only [sm, sm_one l, List.length_cons]; omega
theorem sm_pos {α : Type} {f : α → Int} {l : List α} (h : 0 < sm f l) : ∃ x ∈ l, 0 < f x := by
  induction l with
  | nil => exact absurd h (by simp [sm])
  | cons x l ih =>
    by_cases hx : 0 < f x
    · exact ⟨x, List.mem_cons_self, hx⟩
    · simp only [sm] at h
      obtain ⟨y, hy, h2⟩ := ih (by omega)
      exact ⟨y, List.mem_cons_of_mem _ hy, h2⟩
theorem sm_mem {α : Type} {f : α → Int} {l : List α} {x : α} (hx : x ∈ l) (h : ∀ y ∈ l, 0 ≤ f y) : f x ≤ sm f l := by
  induction l with
  | nil => cases hx
  | cons z l ih =>
    simp only [sm]
    have h0 := h z List.mem_cons_self
    rcases List.mem_cons.mp hx with rfl | hx
    · have := sm_nn (f := f) (l := l) fun y hy => h y (List.mem_cons_of_mem _ hy)
      omega
    · have := ih hx fun y hy => h y (List.mem_cons_of_mem _ hy)
      omega
/-- one if true -/
def b1 (p : Bool) : Int := if p then 1 else 0
theorem b1_t : b1 true = 1 := rfl
theorem b1_f : b1 false = 0 := rfl
theorem b1_nn (p : Bool) : 0 ≤ b1 p := by cases p <;> decide
theorem b1_le (p : Bool) : b1 p ≤ 1 := by cases p <;> decide
theorem sm_count (a : Nat) : ∀ (l : List Nat), sm (fun x => b1 (x == a)) l = l.count a
  | [] => rfl
  | x :: l => by
    simp only [sm, sm_count a l, List.count_cons]
    by_cases h : (x == a) = true
    · rw [h]; simp [b1]; omega
    · rw [Bool.not_eq_true _ |>.mp h]; simp [b1]

/-! ### paths -/
abbrev Arcs := List (Int × Int)
def ft (A : Arcs) (r : Nat) : Int := (A.getD r (0, 0)).1
def hd (A : Arcs) (r : Nat) : Int := (A.getD r (0, 0)).2
def IsPath (A : Arcs) : Int → List Nat → Int → Prop
  | p, [], q => p = q
  | p, r :: t, q => r < A.length ∧ ft A r = p ∧ IsPath A (hd A r) t q
/-- arcs lead to places of greater rank -/
def Up (rk : Int → Int) (A : Arcs) : Prop := ∀ r, r < A.length → rk (ft A r) < rk (hd A r)

variable {A : Arcs} {rk : Int → Int}
theorem path_app : ∀ {s t : List Nat} {p q : Int}, IsPath A p (s ++ t) q ↔ ∃ m, IsPath A p s m ∧ IsPath A m t q
  | [], t, p, q => by simp [IsPath]
  | r :: s, t, p, q => by
    simp only [List.cons_append, IsPath, path_app (s := s)]
    constructor
    · rintro ⟨h1, h2, m, h3, h4⟩
      exact ⟨m, ⟨h1, h2, h3⟩, h4⟩
    · rintro ⟨m, ⟨h1, h2, h3⟩, h4⟩
      exact ⟨h1, h2, m, h3, h4⟩
theorem path_le (U : Up rk A) : ∀ {t : List Nat} {p q : Int}, IsPath A p t q → rk p ≤ rk q
  | [], p, q, h => by rw [show p = q from h]; exact Int.le_refl _
  | r :: t, p, q, ⟨h1, h2, h3⟩ => by
    have a := U r h1
    have b := path_le U h3
    rw [h2] at a; omega
theorem path_lt (U : Up rk A) : ∀ {t : List Nat} {p q : Int}, IsPath A p t q → t ≠ [] → rk p < rk q
  | [], p, q, h, n => absurd rfl n
  | r :: t, p, q, ⟨h1, h2, h3⟩, _ => by
    have a := U r h1
    have b := path_le U h3
    rw [h2] at a; omega
theorem path_nil (U : Up rk A) {t : List Nat} {p : Int} (h : IsPath A p t p) : t = [] := by
  cases t with
  | nil => rfl
  | cons r t => exact absurd (path_lt U h (by simp)) (Int.lt_irrefl _)
theorem path_mem (U : Up rk A) : ∀ {t : List Nat} {p q : Int} {r : Nat}, IsPath A p t q → r ∈ t → r < A.length ∧ rk p ≤ rk (ft A r) ∧ rk (hd A r) ≤ rk q
  | [], _, _, _, _, m => by cases m
  | s :: t, p, q, r, ⟨h1, h2, h3⟩, m => by
    rcases List.mem_cons.mp m with rfl | m
    · exact ⟨h1, by rw [h2]; exact Int.le_refl _, path_le U h3⟩
    · obtain ⟨a, b, c⟩ := path_mem U h3 m
      have d := U s h1
      rw [h2] at d
      exact ⟨a, by omega, c⟩
theorem path_split : ∀ {t : List Nat} {p q : Int} {r : Nat}, IsPath A p t q → r ∈ t → ∃ h s, t = h ++ r :: s ∧ IsPath A p h (ft A r) ∧ IsPath A (hd A r) s q ∧ r < A.length
  | [], _, _, _, _, m => by cases m
  | s :: t, p, q, r, ⟨h1, h2, h3⟩, m => by
    rcases List.mem_cons.mp m with rfl | m
    · exact ⟨[], t, rfl, h2.symm, h3, h1⟩
    · obtain ⟨h, u, rfl, a, b, c⟩ := path_split h3 m
      exact ⟨s :: h, u, rfl, ⟨h1, h2, a⟩, b, c⟩
theorem path_ends : ∀ {t : List Nat} {p q q' : Int}, IsPath A p t q → IsPath A p t q' → q = q'
  | [], _, _, _, h, h' => h.symm.trans h'
  | _ :: _, _, _, _, h, h' => path_ends h.2.2 h'.2.2
theorem path_foot (U : Up rk A) : ∀ {t : List Nat} {p q : Int} {r s : Nat}, IsPath A p t q → r ∈ t → s ∈ t → ft A r = ft A s → r = s
  | [], _, _, _, _, _, m, _, _ => by cases m
  | x :: t, p, q, r, s, ⟨h1, h2, h3⟩, m, m', e => by
    have d := U x h1
    rcases List.mem_cons.mp m with e1 | m1
    · rcases List.mem_cons.mp m' with e2 | m2
      · rw [e1, e2]
      · obtain ⟨_, b, _⟩ := path_mem U h3 m2
        rw [e1] at e
        rw [e] at d; omega
    · rcases List.mem_cons.mp m' with e2 | m2
      · obtain ⟨_, b, _⟩ := path_mem U h3 m1
        rw [e2] at e
        rw [← e] at d; omega
      · exact path_foot U h3 m1 m2 e
theorem path_count (U : Up rk A) : ∀ {t : List Nat} {p q : Int} (r : Nat), IsPath A p t q → t.count r ≤ 1
  | [], _, _, _, _ => by simp
  | x :: t, p, q, r, ⟨h1, h2, h3⟩ => by
    rw [List.count_cons]
    by_cases e : x = r
    · subst e
      have : x ∉ t := fun m => by
        obtain ⟨_, b, _⟩ := path_mem U h3 m
        have d := U x h1
        omega
      rw [List.count_eq_zero.mpr this]; simp
    · have := path_count U r h3
      have e' : (x == r) = false := beq_eq_false_iff_ne.mpr e
      rw [e']; simpa using this
/-- a path's balance at a place -/
theorem path_bal (z : Int) : ∀ {t : List Nat} {p q : Int}, IsPath A p t q → sm (fun r => b1 (ft A r == z) - b1 (hd A r == z)) t = b1 (p == z) - b1 (q == z)
  | [], p, q, h => by rw [show p = q from h]; simp [sm]
  | r :: t, p, q, ⟨h1, h2, h3⟩ => by
    simp only [sm]
    rw [path_bal z h3, h2]; omega

/-! ### pieces: paths with a weight, joined -/
structure Pc where
  st : Int
  rd : List Nat
  en : Int
  wt : Int
def Pc.Ok (A : Arcs) (x : Pc) : Prop := IsPath A x.st x.rd x.en ∧ x.rd ≠ []
def Pc.join (x y : Pc) : Pc := ⟨x.st, x.rd ++ y.rd, y.en, x.wt + y.wt⟩
theorem Pc.join_ok {x y : Pc} (hx : x.Ok A) (hy : y.Ok A) (e : x.en = y.st) : (x.join y).Ok A := by
  refine ⟨path_app.mpr ⟨x.en, hx.1, ?_⟩, ?_⟩
  · rw [e]; exact hy.1
  · simp [Pc.join, hx.2]
abbrev flat (X : List Pc) : List Nat := X.flatMap (·.rd)
abbrev wsum (X : List Pc) : Int := sm (·.wt) X
def nS (z : Int) (X : List Pc) : Int := sm (fun x => b1 (x.st == z)) X
def nE (z : Int) (X : List Pc) : Int := sm (fun x => b1 (x.en == z)) X
theorem flat_bal (z : Int) : ∀ {X : List Pc}, (∀ x ∈ X, x.Ok A) → sm (fun r => b1 (ft A r == z) - b1 (hd A r == z)) (flat X) = nS z X - nE z X
  | [], _ => rfl
  | x :: X, h => by
    have ih := flat_bal z fun y hy => h y (List.mem_cons_of_mem _ hy)
    have a := path_bal z (h x List.mem_cons_self).1
    simp only [flat, nS, nE, List.flatMap_cons, sm_app, sm] at ih ⊢
    rw [ih, a]; omega
theorem pos_mem {α : Type} {g : α → Bool} {X : List α} (h : 0 < sm (fun x => b1 (g x)) X) : ∃ x ∈ X, g x = true := by
  obtain ⟨x, hx, hp⟩ := sm_pos h
  refine ⟨x, hx, ?_⟩
  cases e : g x
  · rw [e] at hp; exact absurd hp (by decide)
  · rfl
theorem mem_pos {α : Type} {g : α → Bool} {X : List α} {x : α} (hx : x ∈ X) (e : g x = true) : 0 < sm (fun x => b1 (g x)) X := by
  have := sm_mem (f := fun x => b1 (g x)) hx fun _ _ => b1_nn _
  simp only [e, b1_t] at this; omega

theorem join_all (U : Up rk A) (inn : Int → Bool) (inv : Pc → Prop) (hinv : ∀ x y : Pc, x.Ok A → y.Ok A → inv x → inv y → x.en = y.st → inn y.st = true → inv (x.join y)) :
    ∀ (n : Nat) (X : List Pc), X.length = n → (∀ x ∈ X, x.Ok A ∧ inv x) → (∀ z, inn z = true → nS z X = nE z X) →
      ∃ Y : List Pc, (∀ y ∈ Y, y.Ok A ∧ inv y ∧ inn y.st = false ∧ inn y.en = false) ∧ (flat Y).Perm (flat X) ∧ wsum Y = wsum X ∧ ∀ z, inn z = false → nS z Y = nS z X ∧ nE z Y = nE z X := by
  intro n
  induction n with
  | zero =>
    intro X hl _ _
    have : X = [] := List.length_eq_zero_iff.mp hl
    subst this
    exact ⟨[], by simp, List.Perm.refl _, rfl, fun _ _ => ⟨rfl, rfl⟩⟩
  | succ n ih =>
    intro X hl hok hb
    by_cases hs : ∃ x ∈ X, inn x.st = true
    · obtain ⟨y, hy, iy⟩ := hs
      have h1 : 0 < nE y.st X := by
        rw [← hb _ iy]
        exact mem_pos (g := fun x => x.st == y.st) hy (by simp)
      obtain ⟨x, hx, ex⟩ := pos_mem h1
      have ex' : x.en = y.st := by simpa using ex
      obtain ⟨l1, l2, el⟩ := List.append_of_mem hy
      have p1 : X.Perm (y :: (l1 ++ l2)) := by rw [el]; exact List.perm_middle
      have hx2 : x ∈ l1 ++ l2 := by
        rcases List.mem_cons.mp (p1.mem_iff.mp hx) with e | m
        · exfalso
          rw [e] at ex'
          have := path_lt U (hok y hy).1.1 (hok y hy).1.2
          rw [ex'] at this; exact Int.lt_irrefl _ this
        · exact m
      obtain ⟨m1, m2, em⟩ := List.append_of_mem hx2
      have p2 : X.Perm (y :: x :: (m1 ++ m2)) := p1.trans (by rw [em]; exact List.Perm.cons _ List.perm_middle)
      have hsub : ∀ z ∈ m1 ++ m2, z ∈ X := fun z hz => p2.mem_iff.mpr (by simp at hz ⊢; rcases hz with h | h <;> simp [h])
      have jok := Pc.join_ok (hok x hx).1 (hok y hy).1 ex'
      have nSe : ∀ z, nS z X = nS z (x.join y :: (m1 ++ m2)) + b1 (y.st == z) := fun z => by
        unfold nS; rw [sm_perm _ p2]; simp only [sm, Pc.join]; omega
      have nEe : ∀ z, nE z X = nE z (x.join y :: (m1 ++ m2)) + b1 (y.st == z) := fun z => by
        unfold nE; rw [sm_perm _ p2]; simp only [sm, Pc.join, ex']; omega
      obtain ⟨Y, h1, h2, h3, h4⟩ := ih (x.join y :: (m1 ++ m2)) (by
          have := p2.length_eq
          simp only [List.length_cons] at this ⊢; omega) (fun z hz => by
          rcases List.mem_cons.mp hz with rfl | hz
          · exact ⟨jok, hinv x y (hok x hx).1 (hok y hy).1 (hok x hx).2 (hok y hy).2 ex' iy⟩
          · exact hok z (hsub z hz)) (fun z hz => by
          have a := hb z hz
          rw [nSe, nEe] at a; omega)
      refine ⟨Y, h1, h2.trans ?_, h3.trans ?_, fun z hz => ?_⟩
      · refine List.Perm.trans ?_ (List.Perm.flatMap_right _ p2).symm
        simp only [List.flatMap_cons, Pc.join, List.append_assoc]
        rw [← List.append_assoc, ← List.append_assoc]
        exact List.Perm.append_right _ List.perm_append_comm
      · unfold wsum; rw [sm_perm _ p2]; simp only [sm, Pc.join]; omega
      · have hne : (y.st == z) = false := beq_eq_false_iff_ne.mpr fun e => by rw [e, hz] at iy; cases iy
        obtain ⟨a, b⟩ := h4 z hz
        have c := nSe z
        have d := nEe z
        rw [hne, b1_f] at c d
        omega
    · have hs' : ∀ x ∈ X, inn x.st = false := fun x hx => by
        cases e : inn x.st
        · rfl
        · exact absurd ⟨x, hx, e⟩ hs
      refine ⟨X, fun x hx => ⟨(hok x hx).1, (hok x hx).2, hs' x hx, ?_⟩, List.Perm.refl _, rfl, fun _ _ => ⟨rfl, rfl⟩⟩
      cases e : inn x.en
      · rfl
      · exfalso
        have h1 : 0 < nS x.en X := by
          rw [hb _ e]
          exact mem_pos (g := fun y => y.en == x.en) hx (by simp)
        obtain ⟨y, hy, ey⟩ := pos_mem h1
        have ey' : y.st = x.en := by simpa using ey
        have := hs' y hy
        rw [ey', e] at this; cases this
end K56

/-! plain mathematics: exchanges of tails; no number is left out -/
namespace K56
variable {A : Arcs} {rk : Int → Int}
def Trips (A : Arcs) (a b : Int) (X : List (List Nat)) : Prop := ∀ t ∈ X, IsPath A a t b
def Betw (u v k : Int) : Prop := (u ≤ k ∧ k ≤ v) ∨ (v ≤ k ∧ k ≤ u)
/-- an exchange of tails changes the number by one at most -/
def Mild (A : Arcs) (a b : Int) (f : List Nat → Int) : Prop := ∀ (p : Int) (h1 h2 t1 t2 : List Nat), IsPath A a h1 p → IsPath A a h2 p → IsPath A p t1 b → IsPath A p t2 b →
  f (h1 ++ t1) + f (h2 ++ t2) - f (h1 ++ t2) - f (h2 ++ t1) ≤ 1 ∧ -1 ≤ f (h1 ++ t1) + f (h2 ++ t2) - f (h1 ++ t2) - f (h2 ++ t1)
theorem Trips.perm {a b : Int} {X Y : List (List Nat)} (h : Trips A a b X) (p : X.Perm Y) : Trips A a b Y := fun t ht => h t (p.mem_iff.mpr ht)
theorem mem_fl {X : List (List Nat)} {t : List Nat} {r : Nat} (ht : t ∈ X) (hr : r ∈ t) : r ∈ X.flatten := List.mem_flatten.mpr ⟨t, ht, hr⟩

/-- from X, with a trip h ++ s, to some X' with the trip h ++ t, all numbers between -/
theorem reach_trip (U : Up rk A) {a b : Int} {f : List Nat → Int} (M : Mild A a b f) : ∀ (t h s : List Nat) (p : Int) (X1 : List (List Nat)), IsPath A a h p → IsPath A p t b → IsPath A p s b → Trips A a b X1 →
    (∀ r ∈ t, r ∈ ((h ++ s) :: X1).flatten) →
    ∃ X2, Trips A a b X2 ∧ ((h ++ t) :: X2).flatten.Perm ((h ++ s) :: X1).flatten ∧
      ∀ k, Betw (sm f ((h ++ s) :: X1)) (sm f ((h ++ t) :: X2)) k → ∃ Z, Trips A a b Z ∧ Z.flatten.Perm ((h ++ s) :: X1).flatten ∧ sm f Z = k := by
  intro t
  induction t with
  | nil =>
    intro h s p X1 hh ht hs hX _
    obtain rfl : p = b := ht
    obtain rfl := path_nil U hs
    refine ⟨X1, hX, List.Perm.refl _, fun k hk => ⟨(h ++ []) :: X1, ?_, List.Perm.refl _, ?_⟩⟩
    · intro x hx
      rcases List.mem_cons.mp hx with rfl | hx
      · exact path_app.mpr ⟨p, hh, rfl⟩
      · exact hX x hx
    · unfold Betw at hk; omega
  | cons r t ih =>
    intro h s p X1 hh ht hs hX hm
    obtain ⟨hr, hf, ht'⟩ := ht
    have hhr : IsPath A a (h ++ [r]) (hd A r) := path_app.mpr ⟨p, hh, hr, hf, rfl⟩
    have eht : ∀ u : List Nat, h ++ r :: u = (h ++ [r]) ++ u := fun u => by simp
    by_cases hsr : ∃ s', s = r :: s'
    · obtain ⟨s', rfl⟩ := hsr
      have hs' : IsPath A (hd A r) s' b := hs.2.2
      obtain ⟨X2, q1, q2, q3⟩ := ih (h ++ [r]) s' (hd A r) X1 hhr ht' hs' hX (fun x hx => by
        rw [← eht]; exact hm x (List.mem_cons_of_mem _ hx))
      rw [← eht, ← eht] at q2 q3
      exact ⟨X2, q1, q2, q3⟩
    · -- r stands in another trip
      have r1 : r ∈ X1.flatten := by
        have := hm r List.mem_cons_self
        simp only [List.flatten_cons, List.mem_append] at this
        rcases this with (m | m) | m
        · have := (path_mem U hh m).2.2
          have u := U r hr
          rw [hf] at u; omega
        · exfalso
          cases s with
          | nil => cases m
          | cons x s' =>
            obtain ⟨x1, x2, x3⟩ := hs
            rcases List.mem_cons.mp m with e | m
            · exact hsr ⟨s', by rw [e]⟩
            · have := (path_mem U x3 m).2.1
              have u := U x x1
              rw [x2] at u; rw [hf] at this; omega
        · exact m
      obtain ⟨x', hx', hrx⟩ := List.mem_flatten.mp r1
      obtain ⟨h', s', rfl, hh', hs', _⟩ := path_split (hX x' hx') hrx
      rw [hf] at hh'
      obtain ⟨l1, l2, rfl⟩ := List.append_of_mem hx'
      have hX2 : Trips A a b (l1 ++ l2) := fun z hz => hX z (by simp at hz ⊢; rcases hz with z | z <;> simp [z])
      have hX3 : Trips A a b ((h' ++ s) :: (l1 ++ l2)) := fun z hz => by
        rcases List.mem_cons.mp hz with rfl | hz
        · exact path_app.mpr ⟨p, hh', hs⟩
        · exact hX2 z hz
      have pf : (((h ++ [r]) ++ s') :: (h' ++ s) :: (l1 ++ l2)).flatten.Perm ((h ++ s) :: (l1 ++ (h' ++ r :: s') :: l2)).flatten := by
        refine List.Perm.trans ?_ (List.Perm.flatten (List.Perm.cons (h ++ s) (List.perm_middle (a := h' ++ r :: s') (l₁ := l1) (l₂ := l2)).symm))
        simp only [List.flatten_cons]
        rw [List.perm_iff_count]
        intro z
        simp only [List.count_append, List.count_cons, List.count_nil]
        omega
      have ef : sm f ((h ++ s) :: (l1 ++ (h' ++ r :: s') :: l2)) = f (h ++ s) + f (h' ++ r :: s') + sm f (l1 ++ l2) := by
        simp only [sm, sm_app]; omega
      have eg : sm f (((h ++ [r]) ++ s') :: (h' ++ s) :: (l1 ++ l2)) = f (h ++ r :: s') + f (h' ++ s) + sm f (l1 ++ l2) := by
        rw [← eht]; simp only [sm]; omega
      have mild := M p h h' s (r :: s') hh hh' hs ⟨hr, hf, hs'⟩
      obtain ⟨X2, q1, q2, q3⟩ := ih (h ++ [r]) s' (hd A r) ((h' ++ s) :: (l1 ++ l2)) hhr ht' hs' hX3 (fun x hx => by
        exact pf.mem_iff.mpr (hm x (List.mem_cons_of_mem _ hx)))
      refine ⟨X2, q1, ?_, fun k hk => ?_⟩
      · rw [eht]; exact q2.trans pf
      · by_cases hk2 : k = sm f ((h ++ s) :: (l1 ++ (h' ++ r :: s') :: l2))
        · refine ⟨(h ++ s) :: (l1 ++ (h' ++ r :: s') :: l2), fun z hz => ?_, List.Perm.refl _, hk2.symm⟩
          rcases List.mem_cons.mp hz with rfl | hz
          · exact path_app.mpr ⟨p, hh, hs⟩
          · exact hX z hz
        · obtain ⟨Z, z1, z2, z3⟩ := q3 k (by
            rw [← eht t]
            unfold Betw at hk ⊢
            omega)
          exact ⟨Z, z1, z2.trans pf, z3⟩

/-- no number is left out -/
theorem ivt (U : Up rk A) {a b : Int} (hab : rk a < rk b) {f : List Nat → Int} (M : Mild A a b f) : ∀ (Y X : List (List Nat)), Trips A a b X → Trips A a b Y → X.flatten.Perm Y.flatten →
    ∀ k, Betw (sm f X) (sm f Y) k → ∃ Z, Trips A a b Z ∧ Z.flatten.Perm X.flatten ∧ sm f Z = k := by
  have ne : ∀ {t}, IsPath A a t b → t ≠ [] := fun {t} h e => by
    subst e
    rw [show a = b from h] at hab
    exact Int.lt_irrefl _ hab
  intro Y
  induction Y with
  | nil =>
    intro X hX _ hp k hk
    have hf : X.flatten = [] := List.Perm.eq_nil (by simpa using hp)
    have : X = [] := by
      cases X with
      | nil => rfl
      | cons x X =>
        have h1 := ne (hX x List.mem_cons_self)
        simp at hf
        exact absurd hf.1 h1
    subst this
    exact ⟨[], hX, List.Perm.refl _, by unfold Betw at hk; simp only [sm] at hk ⊢; omega⟩
  | cons y Y ih =>
    intro X hX hY hp k hk
    have hy := hY y List.mem_cons_self
    -- X has a trip at all
    obtain ⟨x, X1, rfl⟩ : ∃ x X1, X = x :: X1 := by
      cases X with
      | nil =>
        exfalso
        have h1 := hp.length_eq
        have h2 := ne hy
        cases y with
        | nil => exact h2 rfl
        | cons r y => simp at h1
      | cons x X1 => exact ⟨x, X1, rfl⟩
    have hx := hX x List.mem_cons_self
    obtain ⟨X2, q1, q2, q3⟩ := reach_trip U M y [] x a X1 rfl hy hx (fun t ht => hX t (List.mem_cons_of_mem _ ht)) (fun r hr => by
      have := hp.mem_iff (a := r)
      simp only [List.nil_append]
      exact this.mpr (by simp [hr]))
    simp only [List.nil_append] at q2 q3
    have hp2 : X2.flatten.Perm Y.flatten := by
      have := q2.trans hp
      simp only [List.flatten_cons] at this
      exact (List.perm_append_left_iff y).mp this
    by_cases hk2 : Betw (sm f (x :: X1)) (sm f (y :: X2)) k
    · exact q3 k hk2
    · obtain ⟨Z, z1, z2, z3⟩ := ih X2 q1 (fun t ht => hY t (List.mem_cons_of_mem _ ht)) hp2 (k - f y) (by
        unfold Betw at hk hk2 ⊢
        simp only [sm] at hk hk2 ⊢
        omega)
      refine ⟨y :: Z, fun t ht => ?_, ?_, by simp only [sm]; omega⟩
      · rcases List.mem_cons.mp ht with rfl | ht
        · exact hy
        · exact z1 t ht
      · refine List.Perm.trans ?_ q2
        simp only [List.flatten_cons]
        exact List.Perm.append_left _ z2
end K56

/-! plain mathematics: sums over ranges, greatest flows, what they say of paths -/
namespace K56
/-! ### sums over a range -/
def sr (f : Nat → Int) : Nat → Int
  | 0 => 0
  | n + 1 => sr f n + f n
theorem sr_congr {f g : Nat → Int} : ∀ {n : Nat}, (∀ i, i < n → f i = g i) → sr f n = sr g n
  | 0, _ => rfl
  | n + 1, h => by simp only [sr]; rw [sr_congr fun i hi => h i (by omega), h n (by omega)]
theorem sr_le {f g : Nat → Int} : ∀ {n : Nat}, (∀ i, i < n → f i ≤ g i) → sr f n ≤ sr g n
  | 0, _ => Int.le_refl _
  | n + 1, h => by
    have a := sr_le (f := f) (g := g) (n := n) fun i hi => h i (by omega)
    have b := h n (by omega)
    simp only [sr]; omega
theorem sr_zero {f : Nat → Int} : ∀ {n : Nat}, (∀ i, i < n → f i = 0) → sr f n = 0
  | 0, _ => rfl
  | n + 1, h => by simp only [sr]; rw [sr_zero fun i hi => h i (by omega), h n (by omega)]; rfl
theorem sr_nn {f : Nat → Int} {n : Nat} (h : ∀ i, i < n → 0 ≤ f i) : 0 ≤ sr f n := by
  have := sr_le (f := fun _ => 0) (g := f) (n := n) h
  rw [sr_zero fun _ _ => rfl] at this; exact this
theorem sr_add (f g : Nat → Int) : ∀ n, sr (fun i => f i + g i) n = sr f n + sr g n
  | 0 => rfl
  | n + 1 => by simp only [sr]; rw [sr_add f g n]; omega
theorem sr_sub (f g : Nat → Int) : ∀ n, sr (fun i => f i - g i) n = sr f n - sr g n
  | 0 => rfl
  | n + 1 => by simp only [sr]; rw [sr_sub f g n]; omega
theorem sr_mull (f : Nat → Int) (c : Int) : ∀ n, sr (fun i => c * f i) n = c * sr f n
  | 0 => by simp [sr]
  | n + 1 => by simp only [sr]; rw [sr_mull f c n, Int.mul_add]
theorem sr_split (f : Nat → Int) (a : Nat) : ∀ b, sr f (a + b) = sr f a + sr (fun i => f (a + i)) b
  | 0 => by simp [sr]
  | b + 1 => by rw [← Nat.add_assoc]; simp only [sr]; rw [sr_split f a b]; omega
theorem sr_swap (f : Nat → Nat → Int) (m : Nat) : ∀ n, sr (fun i => sr (f i) m) n = sr (fun j => sr (fun i => f i j) n) m
  | 0 => by simp only [sr]; exact (sr_zero fun _ _ => rfl).symm
  | n + 1 => by simp only [sr]; rw [sr_swap f m n, ← sr_add]
theorem sr_pick (g : Nat → Int) (k : Nat) : ∀ n, sr (fun i => b1 (k == i) * g i) n = if k < n then g k else 0
  | 0 => by simp [sr]
  | n + 1 => by
    simp only [sr]
    rw [sr_pick g k n]
    by_cases h : k = n
    · subst h; simp [b1]
    · have e : (k == n) = false := beq_eq_false_iff_ne.mpr h
      rw [e, b1_f]
      by_cases h2 : k < n
      · rw [if_pos h2, if_pos (by omega)]; simp
      · rw [if_neg h2, if_neg (by omega)]; simp
/-- a sum over a list of numbers below n, by how often each comes -/
theorem sm_by (g : Nat → Int) (n : Nat) : ∀ {L : List Nat}, (∀ r ∈ L, r < n) → sm g L = sr (fun r => (L.count r : Int) * g r) n
  | [], _ => by simp only [sm]; exact (sr_zero fun _ _ => by simp).symm
  | k :: L, h => by
    have hk := h k List.mem_cons_self
    simp only [sm]
    rw [sm_by g n fun r hr => h r (List.mem_cons_of_mem _ hr)]
    have e : sr (fun r => ((k :: L).count r : Int) * g r) n = sr (fun r => b1 (k == r) * g r + (L.count r : Int) * g r) n := sr_congr fun i _ => by
      rw [List.count_cons]
      by_cases q : k = i
      · subst q; simp [b1, Int.add_mul]; omega
      · have e : (k == i) = false := beq_eq_false_iff_ne.mpr q
        rw [e]; simp [b1]
    rw [e, sr_add, sr_pick, if_pos hk]
/-- how often a road comes in some trips -/
def cnt (r : Nat) (P : List (List Nat)) : Int := sm (fun t => (t.count r : Int)) P
theorem cnt_flatten (r : Nat) : ∀ (P : List (List Nat)), cnt r P = (P.flatten.count r : Int)
  | [] => rfl
  | t :: P => by
    have := cnt_flatten r P
    unfold cnt at this ⊢
    simp only [sm, List.flatten_cons, List.count_append, this]; omega
theorem sm_trips (g : Nat → Int) (n : Nat) {P : List (List Nat)} (h : ∀ t ∈ P, ∀ r ∈ t, r < n) : sm (fun t => sm g t) P = sr (fun r => cnt r P * g r) n := by
  have e : sm (fun t => sm g t) P = sm g P.flatten := by
    rw [← List.flatMap_id, sm_flatMap]; rfl
  rw [e, sm_by g n (fun r hr => by
    obtain ⟨t, ht, hr⟩ := List.mem_flatten.mp hr
    exact h t ht r hr)]
  exact sr_congr fun i _ => by rw [cnt_flatten]

/-! ### nets, explanations -/
structure NetOk (many : Int) (R : Arcs) : Prop where
  two : 2 ≤ many
  rd : ∀ r, r < R.length → 0 ≤ ft R r ∧ ft R r < hd R r ∧ hd R r < many
abbrev idr : Int → Int := fun z => z
theorem NetOk.up {many : Int} {R : Arcs} (N : NetOk many R) : Up idr R := fun r h => (N.rd r h).2.1
def Expl (many : Int) (R : Arcs) (c : Nat → Int) (X : List (List Nat)) : Prop := Trips R 0 (many - 1) X ∧ ∀ r, r < R.length → cnt r X = c r
def Bal (many : Int) (R : Arcs) (c : Nat → Int) : Prop := ∀ z, 0 < z → z < many - 1 → sr (fun r => c r * (b1 (ft R r == z) - b1 (hd R r == z))) R.length = 0

/-- pieces of one road -/
def singles (A : Arcs) (m : Nat → Nat) : Nat → List Pc
  | 0 => []
  | i + 1 => singles A m i ++ List.replicate (m i) ⟨ft A i, [i], hd A i, 0⟩
theorem sm_repl {α : Type} (f : α → Int) (x : α) : ∀ n : Nat, sm f (List.replicate n x) = n * f x
  | 0 => by simp [sm]
  | n + 1 => by simp only [List.replicate_succ, sm, sm_repl f x n]; rw [Int.natCast_add, Int.add_mul]; omega
theorem sm_singles (A : Arcs) (m : Nat → Nat) (g : Pc → Int) : ∀ n, sm g (singles A m n) = sr (fun i => (m i : Int) * g ⟨ft A i, [i], hd A i, 0⟩) n
  | 0 => rfl
  | n + 1 => by simp only [singles, sr]; rw [sm_app, sm_singles A m g n, sm_repl]
theorem mem_singles {A : Arcs} {m : Nat → Nat} : ∀ {n : Nat} {x : Pc}, x ∈ singles A m n → ∃ i, i < n ∧ x = ⟨ft A i, [i], hd A i, 0⟩
  | 0, _, h => by cases h
  | n + 1, x, h => by
    rcases List.mem_append.mp h with h | h
    · obtain ⟨i, hi, e⟩ := mem_singles h
      exact ⟨i, by omega, e⟩
    · exact ⟨n, by omega, (List.mem_replicate.mp h).2⟩
theorem count_flat (r : Nat) (X : List Pc) : ((flat X).count r : Int) = sm (fun x => (x.rd.count r : Int)) X := by
  induction X with
  | nil => rfl
  | cons x X ih =>
    simp only [flat, List.flatMap_cons, List.count_append, sm] at ih ⊢
    rw [← ih]; omega
theorem count_one (i r : Nat) : (([i] : List Nat).count r : Int) = b1 (i == r) := by
  simp only [List.count_cons, List.count_nil]
  cases (i == r) <;> rfl
theorem singles_count (A : Arcs) (m : Nat → Nat) {n r : Nat} (h : r < n) : ((flat (singles A m n)).count r : Int) = m r := by
  rw [count_flat, sm_singles]
  have e : sr (fun i => (m i : Int) * (([i] : List Nat).count r : Int)) n = sr (fun i => b1 (r == i) * (m i : Int)) n := sr_congr fun i _ => by
    rw [count_one, Int.mul_comm]
    by_cases q : i = r
    · subst q; rfl
    · have e1 : (i == r) = false := beq_eq_false_iff_ne.mpr q
      have e2 : (r == i) = false := beq_eq_false_iff_ne.mpr (Ne.symm q)
      rw [e1, e2]
  show sr (fun i => (m i : Int) * (([i] : List Nat).count r : Int)) n = _
  rw [e, sr_pick, if_pos h]

/-- pieces within a tally, made whole: an explanation -/
theorem complete {many : Int} {R : Arcs} {c : Nat → Int} (N : NetOk many R) (B : Bal many R c) (inv : Pc → Prop)
    (h1 : ∀ i, i < R.length → inv ⟨ft R i, [i], hd R i, 0⟩)
    (hj : ∀ x y : Pc, x.Ok R → y.Ok R → inv x → inv y → x.en = y.st → 0 < y.st → y.st < many - 1 → inv (x.join y))
    {X0 : List Pc} (ok0 : ∀ x ∈ X0, x.Ok R ∧ inv x) (le0 : ∀ r, r < R.length → ((flat X0).count r : Int) ≤ c r) :
    ∃ Y : List Pc, (∀ y ∈ Y, IsPath R 0 y.rd (many - 1) ∧ y.st = 0 ∧ y.en = many - 1 ∧ inv y) ∧ Expl many R c (Y.map (·.rd)) ∧ wsum Y = wsum X0 := by
  let m : Nat → Nat := fun r => (c r - ((flat X0).count r : Int)).toNat
  have hm : ∀ r, r < R.length → (m r : Int) = c r - ((flat X0).count r : Int) := fun r hr => Int.toNat_of_nonneg (by have := le0 r hr; omega)
  let X := X0 ++ singles R m R.length
  have okX : ∀ x ∈ X, x.Ok R ∧ inv x := fun x hx => by
    rcases List.mem_append.mp hx with hx | hx
    · exact ok0 x hx
    · obtain ⟨i, hi, rfl⟩ := mem_singles hx
      exact ⟨⟨⟨hi, rfl, rfl⟩, by simp⟩, h1 i hi⟩
  have cX : ∀ r, r < R.length → ((flat X).count r : Int) = c r := fun r hr => by
    have e : flat X = flat X0 ++ flat (singles R m R.length) := List.flatMap_append
    rw [e, List.count_append, Int.natCast_add, singles_count R m hr, hm r hr]; omega
  have inX : ∀ r ∈ flat X, r < R.length := fun r hr => by
    obtain ⟨x, hx, hr⟩ := List.mem_flatMap.mp hr
    exact (path_mem N.up (okX x hx).1.1 hr).1
  obtain ⟨Y, y1, y2, y3, _⟩ := join_all N.up (fun z => decide (0 < z ∧ z < many - 1)) inv (fun x y hx hy ix iy e i => by
      have i' := of_decide_eq_true i
      exact hj x y hx hy ix iy e i'.1 i'.2) X.length X rfl okX (fun z hz => by
      have hz' := of_decide_eq_true hz
      have a := flat_bal (A := R) z fun x hx => (okX x hx).1
      rw [sm_by _ R.length inX] at a
      have e : sr (fun r => ((flat X).count r : Int) * (b1 (ft R r == z) - b1 (hd R r == z))) R.length = sr (fun r => c r * (b1 (ft R r == z) - b1 (hd R r == z))) R.length := sr_congr fun r hr => by rw [cX r hr]
      rw [e, B z hz'.1 hz'.2] at a
      omega)
  have ends : ∀ y ∈ Y, y.st = 0 ∧ y.en = many - 1 := fun y hy => by
    obtain ⟨ok, _, i1, i2⟩ := y1 y hy
    have i1' := of_decide_eq_false i1
    have i2' := of_decide_eq_false i2
    have hlt : y.st < y.en := path_lt N.up ok.1 ok.2
    obtain ⟨r, rs, er⟩ := List.exists_cons_of_ne_nil ok.2
    have p := ok.1
    rw [er] at p
    obtain ⟨p1, p2, p3⟩ := p
    have n1 := N.rd r p1
    -- the last road
    have last : y.en < many := by
      have : ∀ (t : List Nat) (a b : Int), IsPath R a t b → a < many → b < many := by
        intro t
        induction t with
        | nil => intro a b h ha; rw [← (show a = b from h)]; exact ha
        | cons s t ih => intro a b h _; exact ih _ _ h.2.2 (N.rd s h.1).2.2
      exact this _ _ _ p3 n1.2.2
    have := N.two
    omega
  refine ⟨Y, fun y hy => ?_, ⟨fun t ht => ?_, fun r hr => ?_⟩, y3.trans ?_⟩
  · obtain ⟨e1, e2⟩ := ends y hy
    obtain ⟨ok, i, _⟩ := y1 y hy
    refine ⟨?_, e1, e2, i⟩
    have := ok.1
    rw [e1, e2] at this; exact this
  · obtain ⟨y, hy, rfl⟩ := List.mem_map.mp ht
    obtain ⟨e1, e2⟩ := ends y hy
    have := (y1 y hy).1.1
    rw [e1, e2] at this; exact this
  · rw [cnt, sm_map, ← count_flat, y2.count_eq]
    exact cX r hr
  · show sm (·.wt) (X0 ++ singles R m R.length) = _
    rw [sm_app, sm_singles, sr_zero fun _ _ => by simp]
    simp

/-! ### flows -/
/-- a way that is asked for: from s to a place of heads, or ending with a road of ends -/
def VP (R : Arcs) (heads : List Int) (ends : List Nat) (s : Int) (p : List Nat) : Prop := ∃ q, IsPath R s p q ∧ (q ∈ heads ∨ ∃ h r, p = h ++ [r] ∧ r ∈ ends)
/-- v is the greatest number of such ways that fit into c -/
def FlowSpec (R : Arcs) (c : Nat → Int) (s : Int) (heads : List Int) (ends : List Nat) (v : Int) : Prop :=
  (∀ P : List (List Nat), (∀ p ∈ P, VP R heads ends s p) → (∀ r, r < R.length → cnt r P ≤ c r) → (P.length : Int) ≤ v) ∧
  ∃ P : List (List Nat), (∀ p ∈ P, VP R heads ends s p) ∧ (∀ r, r < R.length → cnt r P ≤ c r) ∧ (P.length : Int) = v

def arcsFor (R : Arcs) (s : Int) (heads : List Int) (ends : List Nat) : Arcs := (List.range R.length).map (fun r => (ft R r, if r ∈ ends then -2 else hd R r)) ++ ((-1, s) :: heads.map fun h => (h, -2))
/-- a flow that a cut proves greatest -/
structure MaxFlow (A : Arcs) (room : Nat → Option Int) (F : Nat → Int) (S : Int → Bool) : Prop where
  nn : ∀ i, i < A.length → 0 ≤ F i
  le : ∀ i c, i < A.length → room i = some c → F i ≤ c
  bal : ∀ z, z ≠ -1 → z ≠ -2 → sr (fun i => F i * (b1 (ft A i == z) - b1 (hd A i == z))) A.length = 0
  sB : S (-1) = true
  sE : S (-2) = false
  out : ∀ i, i < A.length → S (ft A i) = true → S (hd A i) = false → room i = some (F i)
  inn : ∀ i, i < A.length → S (ft A i) = false → S (hd A i) = true → F i = 0
section
variable {many : Int} {R : Arcs} {c : Nat → Int} {s : Int} {heads : List Int} {ends : List Nat}
theorem arcs_len : (arcsFor R s heads ends).length = R.length + (1 + heads.length) := by simp [arcsFor]; omega
theorem arcs_rd {r : Nat} (h : r < R.length) : ft (arcsFor R s heads ends) r = ft R r ∧ hd (arcsFor R s heads ends) r = if r ∈ ends then -2 else hd R r := by
  have e : (arcsFor R s heads ends)[r]? = some (ft R r, if r ∈ ends then -2 else hd R r) := by
    unfold arcsFor
    rw [List.getElem?_append_left (by simpa using h), List.getElem?_map, List.getElem?_range h]; rfl
  unfold ft hd
  rw [List.getD_eq_getElem?_getD, e]
  exact ⟨rfl, rfl⟩
theorem arcs_b : ft (arcsFor R s heads ends) R.length = -1 ∧ hd (arcsFor R s heads ends) R.length = s := by
  have e : (arcsFor R s heads ends)[R.length]? = some (-1, s) := by
    unfold arcsFor
    rw [List.getElem?_append_right (by simp)]
    simp
  unfold ft hd
  rw [List.getD_eq_getElem?_getD, e]
  exact ⟨rfl, rfl⟩
theorem arcs_e {j : Nat} {h : Int} (hj : heads[j]? = some h) : ft (arcsFor R s heads ends) (R.length + (1 + j)) = h ∧ hd (arcsFor R s heads ends) (R.length + (1 + j)) = -2 := by
  have e : (arcsFor R s heads ends)[R.length + (1 + j)]? = some (h, -2) := by
    unfold arcsFor
    rw [List.getElem?_append_right (by simp)]
    simp [Nat.add_comm 1 j, List.getElem?_cons_succ, hj]
  unfold ft hd
  rw [List.getD_eq_getElem?_getD, e]
  exact ⟨rfl, rfl⟩
/-- what an arc is -/
theorem arc_cases {i : Nat} (h : i < (arcsFor R s heads ends).length) : (i < R.length) ∨ (i = R.length) ∨ ∃ j x, i = R.length + (1 + j) ∧ heads[j]? = some x := by
  rw [arcs_len] at h
  by_cases h1 : i < R.length
  · exact .inl h1
  · by_cases h2 : i = R.length
    · exact .inr (.inl h2)
    · refine .inr (.inr ⟨i - R.length - 1, heads[i - R.length - 1]'(by omega), by omega, List.getElem?_eq_getElem _⟩)
def rkE (many : Int) : Int → Int := fun z => if z = -2 then many else z
theorem arcs_up (N : NetOk many R) (hs : 0 ≤ s) (hh : ∀ h ∈ heads, h < many ∧ 0 ≤ h) : Up (rkE many) (arcsFor R s heads ends) := fun i hi => by
  rcases arc_cases hi with h | rfl | ⟨j, x, rfl, hx⟩
  · obtain ⟨e1, e2⟩ := arcs_rd (s := s) (heads := heads) (ends := ends) h
    have n := N.rd i h
    rw [e1, e2]
    unfold rkE
    rw [if_neg (by omega)]
    split
    · rw [if_pos rfl]; omega
    · rw [if_neg (by omega)]; omega
  · obtain ⟨e1, e2⟩ := arcs_b (R := R) (s := s) (heads := heads) (ends := ends)
    rw [e1, e2]
    unfold rkE
    rw [if_neg (by omega), if_neg (by omega)]; omega
  · obtain ⟨e1, e2⟩ := arcs_e (R := R) (s := s) (ends := ends) hx
    have := hh x (List.mem_of_getElem? hx)
    rw [e1, e2]
    unfold rkE
    rw [if_neg (by omega), if_pos rfl]; omega
/-- a way of arcs to the end, as roads -/
theorem conv (N : NetOk many R) : ∀ (t : List Nat) (x : Int), 0 ≤ x → IsPath (arcsFor R s heads ends) x t (-2) → ∃ p, VP R heads ends x p ∧ ∀ r, r < R.length → p.count r ≤ t.count r := by
  intro t
  induction t with
  | nil => intro x hx h; rw [show x = -2 from h] at hx; omega
  | cons i t ih =>
    intro x hx ⟨h1, h2, h3⟩
    rcases arc_cases h1 with h | rfl | ⟨j, y, rfl, hy⟩
    · obtain ⟨e1, e2⟩ := arcs_rd (s := s) (heads := heads) (ends := ends) h
      have n := N.rd i h
      rw [e1] at h2
      rw [e2] at h3
      by_cases he : i ∈ ends
      · refine ⟨[i], ⟨hd R i, ⟨h, h2, rfl⟩, .inr ⟨[], i, rfl, he⟩⟩, fun r _ => ?_⟩
        simp [List.count_cons]
      · rw [if_neg he] at h3
        obtain ⟨p, ⟨q, q1, q2⟩, q3⟩ := ih (hd R i) (by omega) h3
        refine ⟨i :: p, ⟨q, ⟨h, h2, q1⟩, ?_⟩, fun r hr => ?_⟩
        · rcases q2 with q2 | ⟨u, r, rfl, q2⟩
          · exact .inl q2
          · exact .inr ⟨i :: u, r, rfl, q2⟩
        · have := q3 r hr
          simp only [List.count_cons]; omega
    · obtain ⟨e1, e2⟩ := arcs_b (R := R) (s := s) (heads := heads) (ends := ends)
      rw [e1] at h2; omega
    · obtain ⟨e1, e2⟩ := arcs_e (R := R) (s := s) (ends := ends) hy
      rw [e1] at h2
      exact ⟨[], ⟨x, rfl, .inl (by rw [← h2]; exact List.mem_of_getElem? hy)⟩, fun r _ => by simp⟩

variable {F : Nat → Int} {S : Int → Bool} {room : Nat → Option Int}
/-- a road that leaves the cut -/
def Lv (R : Arcs) (ends : List Nat) (S : Int → Bool) (r : Nat) : Bool := S (ft R r) && (decide (r ∈ ends) || !S (hd R r))
theorem cut_value (N : NetOk many R) (hs : 0 ≤ s ∧ s < many) (hh : ∀ h ∈ heads, 0 ≤ h ∧ h < many)
    (hr : ∀ i, R.length ≤ i → room i = none) (M : MaxFlow (arcsFor R s heads ends) room F S) :
    S s = true ∧ (∀ h ∈ heads, S h = false) ∧ F R.length = sr (fun r => F r * b1 (Lv R ends S r)) R.length := by
  have hB : R.length < (arcsFor R s heads ends).length := by rw [arcs_len]; omega
  have sS : S s = true := by
    cases e : S s
    · obtain ⟨e1, e2⟩ := arcs_b (R := R) (s := s) (heads := heads) (ends := ends)
      have := M.out R.length hB (by rw [e1]; exact M.sB) (by rw [e2]; exact e)
      rw [hr _ (Nat.le_refl _)] at this; cases this
    · rfl
  have sH : ∀ h ∈ heads, S h = false := fun h hm => by
    cases e : S h
    · rfl
    · obtain ⟨j, hj⟩ := List.mem_iff_getElem?.mp hm
      have hjl : j < heads.length := (List.getElem?_eq_some_iff.mp hj).1
      obtain ⟨e1, e2⟩ := arcs_e (R := R) (s := s) (ends := ends) hj
      have := M.out (R.length + (1 + j)) (by rw [arcs_len]; omega) (by rw [e1]; exact e) (by rw [e2]; exact M.sE)
      rw [hr _ (by omega)] at this; cases this
  refine ⟨sS, sH, ?_⟩
  -- S as a number, on places
  let S1 : Int → Int := fun z => if 0 ≤ z ∧ z < many then b1 (S z) else 0
  have pick : ∀ x : Int, sr (fun k => b1 (S (k : Int)) * b1 (x == (k : Int))) many.toNat = S1 x := fun x => by
    by_cases hx : 0 ≤ x ∧ x < many
    · have e : sr (fun k => b1 (S (k : Int)) * b1 (x == (k : Int))) many.toNat = sr (fun k => b1 (x.toNat == k) * b1 (S (k : Int))) many.toNat := sr_congr fun k _ => by
        rw [Int.mul_comm]
        have : (x == (k : Int)) = (x.toNat == k) := by
          rw [Bool.eq_iff_iff, beq_iff_eq, beq_iff_eq]; omega
        rw [this]
      rw [e, sr_pick, if_pos (by omega)]
      show _ = if 0 ≤ x ∧ x < many then b1 (S x) else 0
      rw [if_pos hx, Int.toNat_of_nonneg hx.1]
    · have e : S1 x = 0 := if_neg hx
      rw [e]
      refine sr_zero fun k hk => ?_
      have : (x == (k : Int)) = false := beq_eq_false_iff_ne.mpr (by omega)
      rw [this, b1_f]; simp
  let A := arcsFor R s heads ends
  have tot : sr (fun i => F i * (S1 (ft A i) - S1 (hd A i))) A.length = 0 := by
    have e1 : sr (fun i => F i * (S1 (ft A i) - S1 (hd A i))) A.length = sr (fun i => sr (fun k => b1 (S (k : Int)) * (F i * (b1 (ft A i == (k : Int)) - b1 (hd A i == (k : Int))))) many.toNat) A.length := sr_congr fun i _ => by
      have e2 : sr (fun k => b1 (S (k : Int)) * (F i * (b1 (ft A i == (k : Int)) - b1 (hd A i == (k : Int))))) many.toNat
          = sr (fun k => F i * (b1 (S (k : Int)) * b1 (ft A i == (k : Int)) - b1 (S (k : Int)) * b1 (hd A i == (k : Int)))) many.toNat := sr_congr fun k _ => by
        rw [← Int.mul_assoc, Int.mul_comm (b1 _) (F i), Int.mul_assoc, Int.mul_sub]
      rw [e2, sr_mull, sr_sub, pick, pick]
    rw [e1, sr_swap]
    refine sr_zero fun k _ => ?_
    rw [sr_mull, M.bal (k : Int) (by omega) (by omega)]
    simp
  have hA : A.length = R.length + (1 + heads.length) := arcs_len
  rw [hA, sr_split, sr_split] at tot
  have t1 : sr (fun i => F i * (S1 (ft A i) - S1 (hd A i))) R.length = sr (fun r => F r * b1 (Lv R ends S r)) R.length := sr_congr fun r hr' => by
    obtain ⟨e1, e2⟩ := arcs_rd (s := s) (heads := heads) (ends := ends) hr'
    have n := N.rd r hr'
    have hrA : r < A.length := by rw [hA]; omega
    have f1 : S1 (ft R r) = b1 (S (ft R r)) := if_pos (by omega)
    have f2 : S1 (hd R r) = b1 (S (hd R r)) := if_pos (by omega)
    have f3 : S1 (-2) = 0 := if_neg (by omega)
    show F r * (S1 (ft (arcsFor R s heads ends) r) - S1 (hd (arcsFor R s heads ends) r)) = _
    have io := M.inn r hrA
    rw [e1, e2] at io
    rw [e1, e2, f1]
    unfold Lv
    by_cases he : r ∈ ends
    · rw [if_pos he, f3, decide_eq_true he]
      simp
    · rw [if_neg he] at io
      rw [if_neg he, f2, decide_eq_false he]
      cases q1 : S (ft R r) <;> cases q2 : S (hd R r) <;> simp [b1]
      exact io q1 q2
  have t2 : sr (fun i => F (R.length + i) * (S1 (ft A (R.length + i)) - S1 (hd A (R.length + i)))) 1 = - F R.length := by
    obtain ⟨e1, e2⟩ := arcs_b (R := R) (s := s) (heads := heads) (ends := ends)
    simp only [sr, Nat.add_zero]
    show 0 + F R.length * (S1 (ft (arcsFor R s heads ends) R.length) - S1 (hd (arcsFor R s heads ends) R.length)) = _
    have f1 : S1 (-1) = 0 := if_neg (by omega)
    have f2 : S1 s = 1 := by show (if 0 ≤ s ∧ s < many then b1 (S s) else 0) = 1; rw [if_pos hs, sS]; rfl
    rw [e1, e2, f1, f2]; omega
  have t3 : sr (fun i => F (R.length + (1 + i)) * (S1 (ft A (R.length + (1 + i))) - S1 (hd A (R.length + (1 + i))))) heads.length = 0 := sr_zero fun j hj => by
    have hj' : heads[j]? = some (heads[j]) := List.getElem?_eq_getElem hj
    obtain ⟨e1, e2⟩ := arcs_e (R := R) (s := s) (ends := ends) hj'
    have hm := List.getElem_mem hj
    have f1 : S1 heads[j] = 0 := by show (if 0 ≤ heads[j] ∧ heads[j] < many then b1 (S heads[j]) else 0) = 0; rw [sH _ hm]; simp [b1]
    have f3 : S1 (-2) = 0 := if_neg (by omega)
    show F (R.length + (1 + j)) * (S1 (ft (arcsFor R s heads ends) (R.length + (1 + j))) - S1 (hd (arcsFor R s heads ends) (R.length + (1 + j)))) = 0
    rw [e1, e2, f1, f3]; simp
  rw [t1, t2, t3] at tot
  omega

/-- some road of a way leaves the cut -/
theorem crosses (sH : ∀ h ∈ heads, S h = false) : ∀ (p : List Nat) (x : Int), S x = true → VP R heads ends x p → ∃ r ∈ p, Lv R ends S r = true := by
  intro p
  induction p with
  | nil =>
    intro x hx ⟨q, h1, h2⟩
    rcases h2 with h2 | ⟨u, r, e, _⟩
    · rw [show x = q from h1] at hx
      rw [sH q h2] at hx; cases hx
    · simp at e
  | cons i p ih =>
    intro x hx ⟨q, ⟨h1, h2, h3⟩, h4⟩
    by_cases hl : Lv R ends S i = true
    · exact ⟨i, List.mem_cons_self, hl⟩
    · have hl' : Lv R ends S i = false := by simpa using hl
      unfold Lv at hl'
      rw [h2, hx] at hl'
      simp at hl'
      obtain ⟨r, hr, e⟩ := ih (hd R i) hl'.2 ⟨q, h3, by
        rcases h4 with h4 | ⟨u, r, e, hr⟩
        · exact .inl h4
        · cases u with
          | nil =>
            simp at e
            rw [← e.1] at hr
            exact absurd hr hl'.1
          | cons y u =>
            simp at e
            exact .inr ⟨u, r, e.2, hr⟩⟩
      exact ⟨r, List.mem_cons_of_mem _ hr, e⟩

theorem flow_spec (N : NetOk many R) (hs : 0 ≤ s ∧ s < many) (hh : ∀ h ∈ heads, 0 ≤ h ∧ h < many)
    (hr : ∀ i, R.length ≤ i → room i = none) (hc : ∀ r, r < R.length → room r = some (c r)) (M : MaxFlow (arcsFor R s heads ends) room F S) :
    FlowSpec R c s heads ends (F R.length) := by
  obtain ⟨sS, sH, val⟩ := cut_value N hs hh hr M
  have hA : (arcsFor R s heads ends).length = R.length + (1 + heads.length) := arcs_len
  refine ⟨fun P hP hcnt => ?_, ?_⟩
  · -- at most so many
    have hin : ∀ t ∈ P, ∀ r ∈ t, r < R.length := fun t ht r hr => by
      obtain ⟨q, h1, _⟩ := hP t ht
      exact (path_mem N.up h1 hr).1
    have a1 : (P.length : Int) ≤ sm (fun t => sm (fun r => b1 (Lv R ends S r)) t) P := by
      rw [← sm_one P]
      refine sm_le fun t ht => ?_
      obtain ⟨r, hr, e⟩ := crosses sH t s sS (hP t ht)
      have := sm_mem (f := fun r => b1 (Lv R ends S r)) hr fun _ _ => b1_nn _
      simp only [e, b1_t] at this; exact this
    rw [sm_trips _ R.length hin] at a1
    refine Int.le_trans a1 ?_
    rw [val]
    refine sr_le fun r hr' => ?_
    have b := hcnt r hr'
    cases e : Lv R ends S r
    · simp [b1]
    · simp only [b1_t, Int.mul_one]
      obtain ⟨e1, e2⟩ := arcs_rd (s := s) (heads := heads) (ends := ends) hr'
      unfold Lv at e
      simp only [Bool.and_eq_true, Bool.or_eq_true, decide_eq_true_eq, Bool.not_eq_true'] at e
      have := M.out r (by rw [hA]; omega) (by rw [e1]; exact e.1) (by
        rw [e2]
        by_cases he : r ∈ ends
        · rw [if_pos he]; exact M.sE
        · rw [if_neg he]
          rcases e.2 with q | q
          · exact absurd q he
          · exact q)
      rw [hc r hr'] at this
      have e3 : c r = F r := Option.some.inj this
      rw [← e3]; exact b
  · -- so many are there
    let A := arcsFor R s heads ends
    let m : Nat → Nat := fun i => (F i).toNat
    have hm : ∀ i, i < A.length → (m i : Int) = F i := fun i hi => Int.toNat_of_nonneg (M.nn i hi)
    have U : Up (rkE many) A := arcs_up N hs.1 fun h hm => ⟨(hh h hm).2, (hh h hm).1⟩
    obtain ⟨Y, y1, y2, _, y4⟩ := join_all U (fun z => decide (z ≠ -1 ∧ z ≠ -2)) (fun _ => True) (fun _ _ _ _ _ _ _ _ => trivial) (singles A m A.length).length (singles A m A.length) rfl (fun x hx => by
        obtain ⟨i, hi, rfl⟩ := mem_singles hx
        exact ⟨⟨⟨hi, rfl, rfl⟩, by simp⟩, trivial⟩) (fun z hz => by
        have hz' := of_decide_eq_true hz
        unfold nS nE
        rw [sm_singles, sm_singles]
        have b := M.bal z hz'.1 hz'.2
        have e : sr (fun i => F i * (b1 (ft (arcsFor R s heads ends) i == z) - b1 (hd (arcsFor R s heads ends) i == z))) (arcsFor R s heads ends).length
            = sr (fun i => (m i : Int) * b1 (ft A i == z) - (m i : Int) * b1 (hd A i == z)) A.length := sr_congr fun i hi => by
          rw [hm i hi, Int.mul_sub]
        rw [e, sr_sub] at b
        show sr (fun i => (m i : Int) * b1 (ft A i == z)) A.length = sr (fun i => (m i : Int) * b1 (hd A i == z)) A.length
        omega)
    have yst : ∀ y ∈ Y, y.st = -1 ∧ y.en = -2 := fun y hy => by
      obtain ⟨ok, _, i1, i2⟩ := y1 y hy
      have i1' := of_decide_eq_false i1
      have i2' := of_decide_eq_false i2
      obtain ⟨i, t, et⟩ := List.exists_cons_of_ne_nil ok.2
      have p := ok.1
      rw [et] at p
      obtain ⟨p1, p2, p3⟩ := p
      have fst : y.st ≠ -2 := by
        rw [← p2]
        rcases arc_cases p1 with h | rfl | ⟨j, x, rfl, hx⟩
        · have n := N.rd i h
          show ft (arcsFor R s heads ends) i ≠ -2
          rw [(arcs_rd h).1]; omega
        · show ft (arcsFor R s heads ends) R.length ≠ -2
          rw [arcs_b.1]; decide
        · have := hh x (List.mem_of_getElem? hx)
          show ft (arcsFor R s heads ends) _ ≠ -2
          rw [(arcs_e hx).1]; omega
      have e1 : y.st = -1 := by omega
      refine ⟨e1, ?_⟩
      have lt := path_lt U ok.1 ok.2
      rw [e1] at lt
      have : y.en ≠ -1 := fun e => by rw [e] at lt; exact Int.lt_irrefl _ lt
      omega
    -- as roads
    have each : ∀ y ∈ Y, ∃ p, VP R heads ends s p ∧ ∀ r, r < R.length → p.count r ≤ y.rd.count r := fun y hy => by
      obtain ⟨e1, e2⟩ := yst y hy
      obtain ⟨ok, _⟩ := y1 y hy
      obtain ⟨i, t, et⟩ := List.exists_cons_of_ne_nil ok.2
      have p := ok.1
      rw [et, e1, e2] at p
      obtain ⟨p1, p2, p3⟩ := p
      have hi : i = R.length := by
        rcases arc_cases p1 with h | h | ⟨j, x, rfl, hx⟩
        · have n := N.rd i h
          have p2' : ft (arcsFor R s heads ends) i = -1 := p2
          rw [(arcs_rd h).1] at p2'; omega
        · exact h
        · have := hh x (List.mem_of_getElem? hx)
          have p2' : ft (arcsFor R s heads ends) _ = -1 := p2
          rw [(arcs_e hx).1] at p2'; omega
      subst hi
      have p3' : IsPath (arcsFor R s heads ends) (hd (arcsFor R s heads ends) R.length) t (-2) := p3
      rw [arcs_b.2] at p3'
      obtain ⟨p, q1, q2⟩ := conv N t s hs.1 p3'
      refine ⟨p, q1, fun r hr => Nat.le_trans (q2 r hr) ?_⟩
      rw [et, List.count_cons]; omega
    have all : ∀ Z : List Pc, (∀ y ∈ Z, y ∈ Y) → ∃ P : List (List Nat), (∀ p ∈ P, VP R heads ends s p) ∧ (∀ r, r < R.length → cnt r P ≤ ((flat Z).count r : Int)) ∧ P.length = Z.length := by
      intro Z
      induction Z with
      | nil => intro _; exact ⟨[], by simp, fun r _ => by simp [cnt, sm, flat], rfl⟩
      | cons y Z ih =>
        intro h
        obtain ⟨P, p1, p2, p3⟩ := ih fun z hz => h z (List.mem_cons_of_mem _ hz)
        obtain ⟨p, q1, q2⟩ := each y (h y List.mem_cons_self)
        refine ⟨p :: P, fun x hx => ?_, fun r hr => ?_, by simp [p3]⟩
        · rcases List.mem_cons.mp hx with rfl | hx
          · exact q1
          · exact p1 x hx
        · have a := p2 r hr
          have b := q2 r hr
          unfold cnt at a ⊢
          simp only [sm, flat, List.flatMap_cons, List.count_append] at a ⊢
          omega
    obtain ⟨P, p1, p2, p3⟩ := all Y fun _ h => h
    refine ⟨P, p1, fun r hr => ?_, ?_⟩
    · refine Int.le_trans (p2 r hr) ?_
      have hrA : r < A.length := by show r < (arcsFor R s heads ends).length; rw [hA]; omega
      rw [y2.count_eq, singles_count A m hrA, hm r hrA]
      exact M.le r (c r) hrA (hc r hr)
    · rw [p3]
      have e1 : (Y.length : Int) = nS (-1) Y := by
        rw [← sm_one Y]
        unfold nS
        exact sm_congr fun y hy => by rw [(yst y hy).1]; rfl
      rw [e1, (y4 (-1) (by decide)).1]
      unfold nS
      rw [sm_singles]
      have hAl : A.length = R.length + (1 + heads.length) := hA
      rw [hAl, sr_split, sr_split]
      have t1 : sr (fun i => (m i : Int) * b1 (ft A i == -1)) R.length = 0 := sr_zero fun r hr => by
        have n := N.rd r hr
        show (m r : Int) * b1 (ft (arcsFor R s heads ends) r == -1) = 0
        rw [(arcs_rd hr).1, beq_eq_false_iff_ne.mpr (show ft R r ≠ -1 by omega)]; simp [b1]
      have t2 : sr (fun i => (m (R.length + i) : Int) * b1 (ft A (R.length + i) == -1)) 1 = F R.length := by
        simp only [sr, Nat.add_zero]
        show 0 + (m R.length : Int) * b1 (ft (arcsFor R s heads ends) R.length == -1) = _
        rw [arcs_b.1, hm R.length (by rw [hAl]; omega)]; simp [b1]
      have t3 : sr (fun i => (m (R.length + (1 + i)) : Int) * b1 (ft A (R.length + (1 + i)) == -1)) heads.length = 0 := sr_zero fun j hj => by
        have hj' : heads[j]? = some (heads[j]) := List.getElem?_eq_getElem hj
        have := hh heads[j] (List.getElem_mem hj)
        show (m (R.length + (1 + j)) : Int) * b1 (ft (arcsFor R s heads ends) (R.length + (1 + j)) == -1) = 0
        rw [(arcs_e hj').1, beq_eq_false_iff_ne.mpr (show heads[j] ≠ -1 by omega)]; simp [b1]
      show sr (fun i => (m i : Int) * b1 (ft A i == -1)) R.length + (sr (fun i => (m (R.length + i) : Int) * b1 (ft A (R.length + i) == -1)) 1 + sr (fun i => (m (R.length + (1 + i)) : Int) * b1 (ft A (R.length + (1 + i)) == -1)) heads.length) = _
      rw [t1, t2, t3]; omega
end
end K56

/-! plain mathematics: the least and the greatest number of trips that are taken -/
namespace K56
variable {many : Int} {R : Arcs} {c : Nat → Int}
def IsLo (many : Int) (R : Arcs) (c : Nat → Int) (f : List Nat → Int) (lo : Int) : Prop := (∀ X, Expl many R c X → lo ≤ sm f X) ∧ ∃ X, Expl many R c X ∧ sm f X = lo
def IsHi (many : Int) (R : Arcs) (c : Nat → Int) (f : List Nat → Int) (hi : Int) : Prop := (∀ X, Expl many R c X → sm f X ≤ hi) ∧ ∃ X, Expl many R c X ∧ sm f X = hi
theorem IsLo.of {f : List Nat → Int} {lo : Int} (h : ∀ X, Expl many R c X → lo ≤ sm f X) (e : ∃ X, Expl many R c X ∧ sm f X ≤ lo) : IsLo many R c f lo := by
  obtain ⟨X, hX, l⟩ := e
  exact ⟨h, X, hX, Int.le_antisymm l (h X hX)⟩
theorem IsHi.of {f : List Nat → Int} {hi : Int} (h : ∀ X, Expl many R c X → sm f X ≤ hi) (e : ∃ X, Expl many R c X ∧ hi ≤ sm f X) : IsHi many R c f hi := by
  obtain ⟨X, hX, l⟩ := e
  exact ⟨h, X, hX, Int.le_antisymm (h X hX) l⟩
/-- a question that takes trips with some, or with all, of some roads -/
def fAny (m : List Nat) (t : List Nat) : Int := b1 (t.any fun r => decide (r ∈ m))
def fAll (l : List Nat) (t : List Nat) : Int := b1 (l.all fun r => decide (r ∈ t))
theorem fAny_one {m t : List Nat} : fAny m t = 1 ↔ ∃ r ∈ t, r ∈ m := by
  unfold fAny
  constructor
  · intro h
    cases e : t.any fun r => decide (r ∈ m)
    · rw [e] at h; cases h
    · obtain ⟨r, h1, h2⟩ := List.any_eq_true.mp e
      exact ⟨r, h1, of_decide_eq_true h2⟩
  · rintro ⟨r, h1, h2⟩
    rw [List.any_eq_true.mpr ⟨r, h1, decide_eq_true h2⟩]; rfl
theorem fAll_one {l t : List Nat} : fAll l t = 1 ↔ ∀ r ∈ l, r ∈ t := by
  unfold fAll
  constructor
  · intro h
    cases e : l.all fun r => decide (r ∈ t)
    · rw [e] at h; cases h
    · intro r hr
      exact of_decide_eq_true (List.all_eq_true.mp e r hr)
  · intro h
    rw [List.all_eq_true.mpr fun r hr => decide_eq_true (h r hr)]; rfl
theorem fAny_01 (m t : List Nat) : fAny m t = 0 ∨ fAny m t = 1 := by
  unfold fAny
  cases t.any fun r => decide (r ∈ m)
  · exact .inl rfl
  · exact .inr rfl
theorem fAll_01 (m t : List Nat) : fAll m t = 0 ∨ fAll m t = 1 := by
  unfold fAll
  cases m.all fun r => decide (r ∈ t)
  · exact .inl rfl
  · exact .inr rfl
/-! ### exchanges are mild -/
theorem mild_any {A : Arcs} {a b : Int} (m : List Nat) : Mild A a b (fAny m) := fun p h1 h2 t1 t2 _ _ _ _ => by
  unfold fAny
  simp only [List.any_append]
  cases h1.any fun r => decide (r ∈ m) <;> cases h2.any fun r => decide (r ∈ m) <;> cases t1.any fun r => decide (r ∈ m) <;> cases t2.any fun r => decide (r ∈ m) <;> simp [b1]
theorem all_parts {A : Arcs} {rk : Int → Int} (U : Up rk A) {a b p : Int} {h t : List Nat} (l : List Nat) (hh : IsPath A a h p) (ht : IsPath A p t b) :
    (l.all fun r => decide (r ∈ h ++ t)) = ((l.all fun r => decide (rk (hd A r) ≤ rk p → r ∈ h)) && (l.all fun r => decide (¬ rk (hd A r) ≤ rk p → r ∈ t))) := by
  rw [Bool.eq_iff_iff, Bool.and_eq_true, List.all_eq_true, List.all_eq_true, List.all_eq_true]
  simp only [decide_eq_true_eq, List.mem_append]
  constructor
  · intro q
    refine ⟨fun r hr hp => ?_, fun r hr hp => ?_⟩
    · rcases q r hr with m | m
      · exact m
      · obtain ⟨m1, m2, _⟩ := path_mem U ht m
        have := U r m1
        omega
    · rcases q r hr with m | m
      · exact absurd (path_mem U hh m).2.2 hp
      · exact m
  · rintro ⟨q1, q2⟩ r hr
    by_cases hp : rk (hd A r) ≤ rk p
    · exact .inl (q1 r hr hp)
    · exact .inr (q2 r hr hp)
theorem mild_all {A : Arcs} {rk : Int → Int} (U : Up rk A) {a b : Int} (l : List Nat) : Mild A a b (fAll l) := fun p h1 h2 t1 t2 p1 p2 p3 p4 => by
  unfold fAll
  rw [all_parts U l p1 p3, all_parts U l p2 p4, all_parts U l p1 p4, all_parts U l p2 p3]
  cases (l.all fun r => decide (rk (hd A r) ≤ rk p → r ∈ h1)) <;> cases (l.all fun r => decide (rk (hd A r) ≤ rk p → r ∈ h2)) <;>
    cases (l.all fun r => decide (¬ rk (hd A r) ≤ rk p → r ∈ t1)) <;> cases (l.all fun r => decide (¬ rk (hd A r) ≤ rk p → r ∈ t2)) <;> simp [b1]

/-! ### explanations -/
theorem Expl.mem (N : NetOk many R) {X : List (List Nat)} (h : Expl many R c X) : ∀ t ∈ X, ∀ r ∈ t, r < R.length := fun t ht r hr => (path_mem N.up (h.1 t ht) hr).1
theorem Expl.sum (N : NetOk many R) {X : List (List Nat)} (h : Expl many R c X) (g : Nat → Int) : sm (fun t => sm g t) X = sr (fun r => c r * g r) R.length := by
  rw [sm_trips g R.length (h.mem N)]
  exact sr_congr fun r hr => by rw [h.2 r hr]
theorem Expl.bal (N : NetOk many R) {X : List (List Nat)} (h : Expl many R c X) : Bal many R c := fun z h1 h2 => by
  rw [← h.sum N fun r => b1 (ft R r == z) - b1 (hd R r == z)]
  refine sm_zero fun t ht => ?_
  rw [path_bal z (h.1 t ht)]
  have e1 : ((0 : Int) == z) = false := beq_eq_false_iff_ne.mpr (by omega)
  have e2 : (many - 1 == z) = false := beq_eq_false_iff_ne.mpr (by omega)
  rw [e1, e2]; rfl
theorem Expl.nn {X : List (List Nat)} (h : Expl many R c X) : ∀ r, r < R.length → 0 ≤ c r := fun r hr => by
  rw [← h.2 r hr]
  exact sm_nn fun t _ => Int.natCast_nonneg _
/-- the number of all trips -/
def tot (R : Arcs) (c : Nat → Int) : Int := sr (fun r => c r * b1 (ft R r == 0)) R.length
theorem trip_in (N : NetOk many R) {t : List Nat} (h : IsPath R 0 t (many - 1)) : sm (fun r => b1 (ft R r == 0)) t = 1 := by
  have a := path_bal 0 h
  have e2 : (many - 1 == 0) = false := beq_eq_false_iff_ne.mpr (by have := N.two; omega)
  rw [e2] at a
  rw [← sm_congr (f := fun r => b1 (ft R r == 0) - b1 (hd R r == 0)) (g := fun r => b1 (ft R r == 0)) fun r hr => by
    have n := N.rd r (path_mem N.up h hr).1
    have e3 : (hd R r == 0) = false := beq_eq_false_iff_ne.mpr (by omega)
    rw [e3, b1_f]; omega]
  rw [a]; rfl
theorem Expl.len (N : NetOk many R) {X : List (List Nat)} (h : Expl many R c X) : (X.length : Int) = tot R c := by
  unfold tot
  rw [← h.sum N, ← sm_one X]
  exact sm_congr fun t ht => (trip_in N (h.1 t ht)).symm
theorem count_b1 {A : Arcs} {rk : Int → Int} (U : Up rk A) {p q : Int} {t : List Nat} (h : IsPath A p t q) (r : Nat) : (t.count r : Int) = b1 (decide (r ∈ t)) := by
  by_cases m : r ∈ t
  · rw [decide_eq_true m]
    have a := path_count U r h
    have b := List.count_pos_iff.mpr m
    show (t.count r : Int) = 1
    omega
  · rw [decide_eq_false m, List.count_eq_zero.mpr m]; rfl
theorem Expl.count (N : NetOk many R) {X : List (List Nat)} (h : Expl many R c X) {r : Nat} (hr : r < R.length) : sm (fun t => b1 (decide (r ∈ t))) X = c r := by
  rw [← h.2 r hr]
  exact sm_congr fun t ht => (count_b1 N.up (h.1 t ht) r).symm
/-- the same flat roads: an explanation of the same tally -/
theorem Expl.perm {X Z : List (List Nat)} (h : Expl many R c X) (t : Trips R 0 (many - 1) Z) (p : Z.flatten.Perm X.flatten) : Expl many R c Z := ⟨t, fun r hr => by
  rw [← h.2 r hr, cnt_flatten, cnt_flatten, p.count_eq]⟩
theorem Expl.flat_perm (N : NetOk many R) {X Y : List (List Nat)} (h : Expl many R c X) (k : Expl many R c Y) : X.flatten.Perm Y.flatten := by
  rw [List.perm_iff_count]
  intro r
  by_cases hr : r < R.length
  · have a := h.2 r hr
    have b := k.2 r hr
    rw [cnt_flatten] at a b
    omega
  · have z : ∀ {W : List (List Nat)}, Expl many R c W → W.flatten.count r = 0 := fun {W} hW => List.count_eq_zero.mpr fun m => by
      obtain ⟨t, ht, m⟩ := List.mem_flatten.mp m
      exact hr (hW.mem N t ht r m)
    rw [z h, z k]
/-- THE MAIN PROMISE: no number is left out -/
theorem no_gap (N : NetOk many R) {f : List Nat → Int} (M : Mild R 0 (many - 1) f) {X Y : List (List Nat)} (hX : Expl many R c X) (hY : Expl many R c Y) {k : Int} (h1 : sm f X ≤ k) (h2 : k ≤ sm f Y) : ∃ Z, Expl many R c Z ∧ sm f Z = k := by
  obtain ⟨Z, z1, z2, z3⟩ := ivt N.up (show (0 : Int) < many - 1 by have := N.two; omega) M Y X hX.1 hY.1 (hX.flat_perm N hY) k (.inl ⟨h1, h2⟩)
  exact ⟨Z, hX.perm z1 z2, z3⟩

theorem ways_of {Rel : List Nat → List Nat → Prop} {g : List Nat → Int} (g01 : ∀ t, g t = 0 ∨ g t = 1) : ∀ (X : List (List Nat)), (∀ t ∈ X, g t = 1 → ∃ p, Rel t p ∧ ∀ r, p.count r ≤ t.count r) →
    ∃ P : List (List Nat), (∀ p ∈ P, ∃ t ∈ X, g t = 1 ∧ Rel t p) ∧ (∀ r, cnt r P ≤ cnt r X) ∧ (P.length : Int) = sm g X
  | [], _ => ⟨[], by simp, fun r => Int.le_refl _, rfl⟩
  | t :: X, h => by
    obtain ⟨P, p1, p2, p3⟩ := ways_of g01 X fun u hu => h u (List.mem_cons_of_mem _ hu)
    rcases g01 t with e | e
    · refine ⟨P, fun p hp => ?_, fun r => ?_, ?_⟩
      · obtain ⟨u, hu, q⟩ := p1 p hp
        exact ⟨u, List.mem_cons_of_mem _ hu, q⟩
      · have := p2 r
        unfold cnt at this ⊢
        simp only [sm]; omega
      · simp only [sm]; omega
    · obtain ⟨p, q1, q2⟩ := h t List.mem_cons_self e
      refine ⟨p :: P, fun x hx => ?_, fun r => ?_, ?_⟩
      · rcases List.mem_cons.mp hx with rfl | hx
        · exact ⟨t, List.mem_cons_self, e, q1⟩
        · obtain ⟨u, hu, q⟩ := p1 x hx
          exact ⟨u, List.mem_cons_of_mem _ hu, q⟩
      · have := p2 r
        have := q2 r
        unfold cnt at *
        simp only [sm]; omega
      · simp only [sm, List.length_cons]; omega
theorem cnt_zero {r : Nat} {P : List (List Nat)} (h : ∀ p ∈ P, r ∉ p) : cnt r P = 0 := sm_zero fun p hp => by rw [List.count_eq_zero.mpr (h p hp)]; rfl

/-! ### touch -/
def shut (c : Nat → Int) (m : List Nat) (r : Nat) : Int := if r ∈ m then 0 else c r
theorem touch_lo (N : NetOk many R) {X0 : List (List Nat)} (h0 : Expl many R c X0) {m : List Nat} {v : Int} (F : FlowSpec R (shut c m) 0 [many - 1] [] v) : IsLo many R c (fAny m) (tot R c - v) := by
  have two := N.two
  refine .of (fun X hX => ?_) ?_
  · obtain ⟨P, p1, p2, p3⟩ := ways_of (Rel := fun t p => p = t) (g := fun t => 1 - fAny m t) (fun t => by rcases fAny_01 m t with e | e <;> omega) X fun t _ _ => ⟨t, rfl, fun _ => Nat.le_refl _⟩
    have := F.1 P (fun p hp => by
      obtain ⟨t, ht, _, rfl⟩ := p1 p hp
      exact ⟨many - 1, hX.1 p ht, .inl (by simp)⟩) (fun r hr => by
      unfold shut
      by_cases hm : r ∈ m
      · rw [if_pos hm, cnt_zero]; · exact Int.le_refl _
        intro p hp hr
        obtain ⟨t, _, e, rfl⟩ := p1 p hp
        rw [fAny_one.mpr ⟨r, hr, hm⟩] at e; omega
      · rw [if_neg hm, ← hX.2 r hr]; exact p2 r)
    rw [p3, sm_sub, sm_one, hX.len N] at this
    omega
  · obtain ⟨P, p1, p2, p3⟩ := F.2
    have hP : ∀ p ∈ P, IsPath R 0 p (many - 1) ∧ ∀ r ∈ p, r ∉ m := fun p hp => by
      obtain ⟨q, q1, q2⟩ := p1 p hp
      have e : q = many - 1 := by
        rcases q2 with q2 | ⟨_, _, _, q2⟩
        · simpa using q2
        · cases q2
      rw [e] at q1
      refine ⟨q1, fun r hr hm => ?_⟩
      have a := p2 r (path_mem N.up q1 hr).1
      have b : (p.count r : Int) ≤ sm (fun t : List Nat => (t.count r : Int)) P := sm_mem (f := fun t : List Nat => (t.count r : Int)) hp fun _ _ => Int.natCast_nonneg _
      have c := List.count_pos_iff.mpr hr
      unfold shut at a
      rw [if_pos hm] at a
      unfold cnt at a
      omega
    obtain ⟨Y, y1, y2, y3⟩ := complete N (h0.bal N) (fun x => 0 ≤ x.wt ∧ x.wt ≤ 1 ∧ (0 < x.wt → x.st = 0 ∧ x.en = many - 1 ∧ ∀ r ∈ x.rd, r ∉ m)) (fun i _ => ⟨Int.le_refl _, by show (0 : Int) ≤ 1; decide, fun z => absurd z (Int.lt_irrefl _)⟩)
      (fun x y _ _ ix iy e i1 i2 => by
        have zx : x.wt = 0 := by
          rcases Int.lt_or_le 0 x.wt with l | l
          · have := (ix.2.2 l).2.1; omega
          · have := ix.1; omega
        have zy : y.wt = 0 := by
          rcases Int.lt_or_le 0 y.wt with l | l
          · have := (iy.2.2 l).1; omega
          · have := iy.1; omega
        have z : (x.join y).wt = 0 := by show x.wt + y.wt = 0; omega
        rw [z]
        exact ⟨Int.le_refl _, by decide, fun z => absurd z (Int.lt_irrefl _)⟩)
      (X0 := P.map fun p => ⟨0, p, many - 1, 1⟩) (fun x hx => by
        obtain ⟨p, hp, rfl⟩ := List.mem_map.mp hx
        obtain ⟨q1, q2⟩ := hP p hp
        refine ⟨⟨q1, fun e => ?_⟩, by show (0 : Int) ≤ 1; decide, Int.le_refl _, fun _ => ⟨rfl, rfl, q2⟩⟩
        have e' : p = [] := e
        subst e'
        have : (0 : Int) = many - 1 := q1
        omega) (fun r hr => by
        rw [count_flat, sm_map]
        have := p2 r hr
        unfold shut at this
        by_cases hm : r ∈ m
        · rw [if_pos hm] at this
          exact Int.le_trans this (h0.nn r hr)
        · rw [if_neg hm] at this; exact this)
    refine ⟨_, y2, ?_⟩
    have l := y2.len N
    have w : wsum Y = v := by rw [y3]; show sm _ _ = v; rw [sm_map]; show sm (fun _ => 1) P = v; rw [sm_one]; exact p3
    rw [sm_map, ← l, ← w, List.length_map, ← sm_one Y]
    unfold wsum
    rw [← sm_sub]
    refine sm_le fun y hy => ?_
    obtain ⟨_, _, _, i1, i2, i3⟩ := y1 y hy
    rcases fAny_01 m y.rd with e | e
    · omega
    · obtain ⟨r, hr, hm⟩ := fAny_one.mp e
      rcases Int.lt_or_le 0 y.wt with g | g
      · exact absurd hm ((i3 g).2.2 r hr)
      · omega
theorem touch_hi (N : NetOk many R) {X0 : List (List Nat)} (h0 : Expl many R c X0) {m : List Nat} {v : Int} (F : FlowSpec R c 0 [] m v) : IsHi many R c (fAny m) v := by
  have two := N.two
  refine .of (fun X hX => ?_) ?_
  · obtain ⟨P, p1, p2, p3⟩ := ways_of (Rel := fun t p => VP R [] m 0 p) (g := fAny m) (fAny_01 m) X fun t ht e => by
      obtain ⟨r, hr, hm⟩ := fAny_one.mp e
      obtain ⟨h, s, rfl, a, b, d⟩ := path_split (hX.1 t ht) hr
      refine ⟨h ++ [r], ⟨hd R r, path_app.mpr ⟨_, a, d, rfl, rfl⟩, .inr ⟨h, r, rfl, hm⟩⟩, fun x => ?_⟩
      simp only [List.count_append, List.count_cons, List.count_nil]; omega
    have := F.1 P (fun p hp => by
      obtain ⟨_, _, _, q⟩ := p1 p hp
      exact q) (fun r hr => by rw [← hX.2 r hr]; exact p2 r)
    rw [p3] at this; exact this
  · obtain ⟨P, p1, p2, p3⟩ := F.2
    have hP : ∀ p ∈ P, ∃ q, IsPath R 0 p q ∧ p ≠ [] ∧ ∃ r ∈ p, r ∈ m := fun p hp => by
      obtain ⟨q, q1, q2⟩ := p1 p hp
      rcases q2 with q2 | ⟨h, r, rfl, q2⟩
      · cases q2
      · exact ⟨q, q1, by simp, r, by simp, q2⟩
    -- their pieces
    have pcs : ∃ X1 : List Pc, (∀ x ∈ X1, x.Ok R ∧ x.st = 0 ∧ x.wt = 1 ∧ ∃ r ∈ x.rd, r ∈ m) ∧ (∀ r, ((flat X1).count r : Int) = cnt r P) ∧ wsum X1 = P.length := by
      clear p1 p2 p3
      induction P with
      | nil => exact ⟨[], by simp, fun r => by simp [cnt, sm, flat], rfl⟩
      | cons p P ih =>
        obtain ⟨X1, x1, x2, x3⟩ := ih fun q hq => hP q (List.mem_cons_of_mem _ hq)
        obtain ⟨q, q1, q2, q3⟩ := hP p List.mem_cons_self
        refine ⟨⟨0, p, q, 1⟩ :: X1, fun x hx => ?_, fun r => ?_, ?_⟩
        · rcases List.mem_cons.mp hx with rfl | hx
          · exact ⟨⟨q1, q2⟩, rfl, rfl, q3⟩
          · exact x1 x hx
        · have := x2 r
          unfold cnt at this ⊢
          simp only [sm, flat, List.flatMap_cons, List.count_append] at this ⊢
          omega
        · unfold wsum at x3 ⊢
          simp only [sm, List.length_cons]; omega
    obtain ⟨X1, x1, x2, x3⟩ := pcs
    obtain ⟨Y, y1, y2, y3⟩ := complete N (h0.bal N) (fun x => 0 ≤ x.wt ∧ x.wt ≤ 1 ∧ (0 < x.wt → x.st = 0 ∧ ∃ r ∈ x.rd, r ∈ m)) (fun i _ => ⟨Int.le_refl _, by show (0 : Int) ≤ 1; decide, fun z => absurd z (Int.lt_irrefl _)⟩)
      (fun x y _ _ ix iy e i1 i2 => by
        have zy : y.wt = 0 := by
          rcases Int.lt_or_le 0 y.wt with l | l
          · have := (iy.2.2 l).1; omega
          · have := iy.1; omega
        have z : (x.join y).wt = x.wt := by show x.wt + y.wt = x.wt; omega
        rw [z]
        refine ⟨ix.1, ix.2.1, fun l => ?_⟩
        obtain ⟨a, r, hr, hm⟩ := ix.2.2 l
        exact ⟨a, r, List.mem_append_left _ hr, hm⟩)
      (X0 := X1) (fun x hx => by
        obtain ⟨a, b, d, e⟩ := x1 x hx
        exact ⟨a, by omega, by omega, fun _ => ⟨b, e⟩⟩) (fun r hr => by rw [x2]; exact p2 r hr)
    refine ⟨_, y2, ?_⟩
    rw [sm_map, ← p3, ← x3, ← y3]
    unfold wsum
    refine sm_le fun y hy => ?_
    obtain ⟨_, _, _, i1, i2, i3⟩ := y1 y hy
    rcases Int.lt_or_le 0 y.wt with g | g
    · obtain ⟨_, r, hr, hm⟩ := i3 g
      rw [fAny_one.mpr ⟨r, hr, hm⟩]; omega
    · rcases fAny_01 m y.rd with e | e <;> omega

/-! ### all of some roads: the greatest number by pieces -/
theorem all_hi (N : NetOk many R) {X0 : List (List Nat)} (h0 : Expl many R c X0) {l : List Nat} {l0 : Nat} (hl : l0 ∈ l) {X1 : List Pc} (x1 : ∀ x ∈ X1, x.Ok R ∧ x.wt = 1 ∧ ∀ r ∈ l, r ∈ x.rd)
    (le : ∀ r, r < R.length → ((flat X1).count r : Int) ≤ c r) : ∃ X, Expl many R c X ∧ (X1.length : Int) ≤ sm (fAll l) X := by
  obtain ⟨Y, y1, y2, y3⟩ := complete N (h0.bal N) (fun x => 0 ≤ x.wt ∧ x.wt ≤ (x.rd.count l0 : Int) ∧ (0 < x.wt → ∀ r ∈ l, r ∈ x.rd)) (fun i _ => ⟨Int.le_refl _, Int.natCast_nonneg _, fun z => absurd z (Int.lt_irrefl _)⟩)
    (fun x y _ _ ix iy e i1 i2 => by
      refine ⟨by show 0 ≤ x.wt + y.wt; omega, ?_, fun z r hr => ?_⟩
      · show x.wt + y.wt ≤ ((x.rd ++ y.rd).count l0 : Int)
        rw [List.count_append]; omega
      · have z' : 0 < x.wt + y.wt := z
        show r ∈ x.rd ++ y.rd
        rcases Int.lt_or_le 0 x.wt with g | g
        · exact List.mem_append_left _ (ix.2.2 g r hr)
        · exact List.mem_append_right _ (iy.2.2 (by omega) r hr))
    (X0 := X1) (fun x hx => by
      obtain ⟨a, b, d⟩ := x1 x hx
      refine ⟨a, by omega, ?_, fun _ => d⟩
      have := List.count_pos_iff.mpr (d l0 hl)
      omega) le
  refine ⟨_, y2, ?_⟩
  have e : (X1.length : Int) = wsum Y := by
    rw [y3, ← sm_one X1]
    exact sm_congr fun x hx => (x1 x hx).2.1.symm
  rw [e, sm_map]
  refine sm_le fun y hy => ?_
  obtain ⟨p, _, _, i1, i2, i3⟩ := y1 y hy
  have := path_count N.up l0 p
  rcases Int.lt_or_le 0 y.wt with g | g
  · rw [fAll_one.mpr (i3 g)]; omega
  · rcases fAll_01 l y.rd with e | e <;> omega
theorem all_le (N : NetOk many R) {X : List (List Nat)} (h : Expl many R c X) {l : List Nat} {r : Nat} (hr : r < R.length) (hl : r ∈ l) : sm (fAll l) X ≤ c r := by
  rw [← h.count N hr]
  refine sm_le fun t _ => ?_
  rcases fAll_01 l t with e | e
  · rw [e]; exact b1_nn _
  · rw [e, decide_eq_true (fAll_one.mp e r hl)]; exact Int.le_refl _
theorem all_nn (l : List Nat) (X : List (List Nat)) : 0 ≤ sm (fAll l) X := sm_nn fun _ _ => b1_nn _

/-! ### both -/
theorem both_hi (N : NetOk many R) {X0 : List (List Nat)} (h0 : Expl many R c X0) {a b : Nat} (ha : a < R.length) (hb : b < R.length) {k : Int} {P : List (List Nat)} (hP : ∀ p ∈ P, IsPath R (hd R a) p (ft R b))
    (hc : ∀ r, r < R.length → cnt r P ≤ c r) (hk : (P.length : Int) = k) (hka : k ≤ c a) (hkb : k ≤ c b) (hab : hd R a ≤ ft R b)
    (up : ∀ X, Expl many R c X → sm (fAll [a, b]) X ≤ k) : IsHi many R c (fAll [a, b]) k := by
  refine .of up ?_
  have na := N.rd a ha
  have nb := N.rd b hb
  have hne : a ≠ b := fun e => by subst e; omega
  have pcs : ∃ X1 : List Pc, (∀ x ∈ X1, x.Ok R ∧ x.wt = 1 ∧ ∀ r ∈ [a, b], r ∈ x.rd) ∧ (∀ r, r < R.length → ((flat X1).count r : Int) = cnt r P + X1.length * b1 (a == r) + X1.length * b1 (b == r)) ∧ X1.length = P.length := by
    clear hc hk
    induction P with
    | nil => exact ⟨[], by simp, fun r _ => by simp [cnt, sm, flat], rfl⟩
    | cons p P ih =>
      obtain ⟨X1, x1, x2, x3⟩ := ih fun q hq => hP q (List.mem_cons_of_mem _ hq)
      have q1 := hP p List.mem_cons_self
      refine ⟨⟨ft R a, a :: (p ++ [b]), hd R b, 1⟩ :: X1, fun x hx => ?_, fun r hr => ?_, by simp [x3]⟩
      · rcases List.mem_cons.mp hx with rfl | hx
        · refine ⟨⟨⟨ha, rfl, path_app.mpr ⟨_, q1, hb, rfl, rfl⟩⟩, by simp⟩, rfl, fun r hr => ?_⟩
          simp at hr ⊢
          rcases hr with rfl | rfl <;> simp
        · exact x1 x hx
      · have := x2 r hr
        unfold cnt at this ⊢
        simp only [sm, flat, List.flatMap_cons, List.count_append, List.count_cons, List.length_cons, List.count_nil] at this ⊢
        cases e1 : (a == r) <;> cases e2 : (b == r) <;> simp only [e1, e2, b1_t, b1_f] at this ⊢ <;> simp <;> omega
  obtain ⟨X1, x1, x2, x3⟩ := pcs
  obtain ⟨X, hX, hl⟩ := all_hi N h0 (l := [a, b]) (l0 := a) (by simp) x1 (fun r hr => by
    rw [x2 r hr]
    have noA : cnt a P = 0 := cnt_zero fun p hp m => by
      have := (path_mem N.up (hP p hp) m).2.1
      have this : hd R a ≤ ft R a := this
      omega
    have noB : cnt b P = 0 := cnt_zero fun p hp m => by
      have := (path_mem N.up (hP p hp) m).2.2
      have this : hd R b ≤ ft R b := this
      omega
    have hlen : (X1.length : Int) = k := by rw [x3]; exact hk
    by_cases e1 : a = r
    · subst e1
      have e2 : (b == a) = false := beq_eq_false_iff_ne.mpr (Ne.symm hne)
      rw [e2, noA]; simp [b1]; omega
    · have e1' : (a == r) = false := beq_eq_false_iff_ne.mpr e1
      by_cases e2 : b = r
      · subst e2
        rw [e1', noB]; simp [b1]; omega
      · have e2' : (b == r) = false := beq_eq_false_iff_ne.mpr e2
        rw [e1', e2']
        have := hc r hr
        simp [b1]; omega)
  exact ⟨X, hX, by omega⟩
theorem both_seg (N : NetOk many R) {a b : Nat} (hne : a ≠ b) (hab : hd R a ≤ ft R b) (ha : a < R.length) (hb : b < R.length) {t : List Nat} {p q : Int} (h : IsPath R p t q) (h1 : a ∈ t) (h2 : b ∈ t) :
    ∃ u, IsPath R (hd R a) u (ft R b) ∧ ∀ r, u.count r ≤ t.count r := by
  have na := N.rd a ha
  have nb := N.rd b hb
  obtain ⟨x, s, rfl, p1, p2, _⟩ := path_split h h1
  have hbs : b ∈ s := by
    simp at h2
    rcases h2 with m | m | m
    · have := (path_mem N.up p1 m).2.2
      have this : hd R b ≤ ft R a := this
      omega
    · exact absurd m.symm hne
    · exact m
  obtain ⟨u, w, rfl, p3, _, _⟩ := path_split p2 hbs
  refine ⟨u, p3, fun r => ?_⟩
  simp only [List.count_append, List.count_cons]; omega
theorem both_up (N : NetOk many R) {a b : Nat} (hne : a ≠ b) (hab : hd R a ≤ ft R b) (ha : a < R.length) (hb : b < R.length) {v : Int} (F : FlowSpec R c (hd R a) [ft R b] [] v) {X : List (List Nat)} (hX : Expl many R c X) : sm (fAll [a, b]) X ≤ v := by
  obtain ⟨P, p1, p2, p3⟩ := ways_of (Rel := fun t p => IsPath R (hd R a) p (ft R b)) (g := fAll [a, b]) (fAll_01 _) X fun t ht e => by
    have := fAll_one.mp e
    obtain ⟨u, q1, q2⟩ := both_seg N hne hab ha hb (hX.1 t ht) (this a (by simp)) (this b (by simp))
    exact ⟨u, q1, q2⟩
  have := F.1 P (fun p hp => by
    obtain ⟨_, _, _, q⟩ := p1 p hp
    exact ⟨_, q, .inl (by simp)⟩) (fun r hr => by rw [← hX.2 r hr]; exact p2 r)
  rw [p3] at this; exact this
theorem cnt_take (r : Nat) : ∀ (P : List (List Nat)) (k : Nat), cnt r (P.take k) ≤ cnt r P
  | [], k => by simp
  | p :: P, 0 => by
    rw [List.take_zero]
    exact sm_nn (f := fun t : List Nat => (t.count r : Int)) fun _ _ => Int.natCast_nonneg _
  | p :: P, k + 1 => by
    have := cnt_take r P k
    unfold cnt at this ⊢
    simp only [List.take_succ_cons, sm]; omega
theorem both_hi_flow (N : NetOk many R) {X0 : List (List Nat)} (h0 : Expl many R c X0) {a b : Nat} (ha : a < R.length) (hb : b < R.length) (hab : hd R a ≤ ft R b) {v : Int} (F : FlowSpec R c (hd R a) [ft R b] [] v) :
    IsHi many R c (fAll [a, b]) (min (min (c a) (c b)) v) := by
  have na := N.rd a ha
  have nb := N.rd b hb
  have hne : a ≠ b := fun e => by subst e; omega
  obtain ⟨P, p1, p2, p3⟩ := F.2
  have n1 := h0.nn a ha
  have n2 := h0.nn b hb
  refine both_hi N h0 ha hb (P := P.take (min (min (c a) (c b)) v).toNat) (fun p hp => ?_) (fun r hr => Int.le_trans (cnt_take r P _) (p2 r hr)) ?_ (by omega) (by omega) hab fun X hX => ?_
  · obtain ⟨q, q1, q2⟩ := p1 p (List.mem_of_mem_take hp)
    have e : q = ft R b := by
      rcases q2 with q2 | ⟨_, _, _, q2⟩
      · simpa using q2
      · cases q2
    rw [e] at q1; exact q1
  · rw [List.length_take]; omega
  · have h1 := all_le N hX ha (l := [a, b]) (by simp)
    have h2 := all_le N hX hb (l := [a, b]) (by simp)
    have h3 := both_up N hne hab ha hb F hX
    omega
theorem sm_repl_const {α β : Type} (f : β → Int) (x : β) (l : List α) : sm f (l.map fun _ => x) = l.length * f x := by
  rw [sm_map]
  induction l with
  | nil => simp [sm]
  | cons y l ih => simp only [sm, List.length_cons, ih]; rw [Int.natCast_add, Int.add_mul]; omega
theorem both_hi_next (N : NetOk many R) {X0 : List (List Nat)} (h0 : Expl many R c X0) {a b : Nat} (ha : a < R.length) (hb : b < R.length) (hab : hd R a = ft R b) : IsHi many R c (fAll [a, b]) (min (c a) (c b)) := by
  have n1 := h0.nn a ha
  have n2 := h0.nn b hb
  refine both_hi N h0 ha hb (P := List.replicate (min (c a) (c b)).toNat []) (fun p hp => ?_) (fun r hr => ?_) ?_ (by omega) (by omega) (by omega) fun X hX => ?_
  · rw [(List.mem_replicate.mp hp).2]; exact hab
  · rw [cnt_zero]
    · exact h0.nn r hr
    · intro p hp m
      rw [(List.mem_replicate.mp hp).2] at m; cases m
  · rw [List.length_replicate]; omega
  · have h1 := all_le N hX ha (l := [a, b]) (by simp)
    have h2 := all_le N hX hb (l := [a, b]) (by simp)
    omega
theorem both_lo (N : NetOk many R) {X0 : List (List Nat)} (h0 : Expl many R c X0) {a b : Nat} (ha : a < R.length) (hb : b < R.length) (hab : hd R a ≤ ft R b) {v : Int} (F : FlowSpec R (shut c [a]) 0 [ft R b] [] v) :
    IsLo many R c (fAll [a, b]) (max 0 (c b - v)) := by
  have na := N.rd a ha
  have nb := N.rd b hb
  have hne : a ≠ b := fun e => by subst e; omega
  have n2 := h0.nn b hb
  have fe : ∀ t, fAll [a, b] t = b1 (decide (a ∈ t)) * b1 (decide (b ∈ t)) := fun t => by
    unfold fAll
    simp only [List.all_cons, List.all_nil, Bool.and_true]
    by_cases h1 : a ∈ t <;> by_cases h2 : b ∈ t <;> simp [h1, h2, b1]
  refine .of (fun X hX => ?_) ?_
  · obtain ⟨P, p1, p2, p3⟩ := ways_of (Rel := fun t p => IsPath R 0 p (ft R b) ∧ a ∉ p) (g := fun t => b1 (decide (b ∈ t)) - fAll [a, b] t) (fun t => by
        rw [fe]
        by_cases h1 : a ∈ t <;> by_cases h2 : b ∈ t <;> simp [h1, h2, b1]) X fun t ht e => by
      rw [fe] at e
      by_cases h2 : b ∈ t
      · by_cases h1 : a ∈ t
        · simp [h1, h2, b1] at e
        · obtain ⟨x, s, rfl, q1, _, _⟩ := path_split (hX.1 t ht) h2
          refine ⟨x, ⟨q1, fun m => h1 (by simp [m])⟩, fun r => ?_⟩
          simp only [List.count_append]; omega
      · simp [h2, b1] at e
    have := F.1 P (fun p hp => by
      obtain ⟨_, _, _, q, _⟩ := p1 p hp
      exact ⟨_, q, .inl (by simp)⟩) (fun r hr => by
      unfold shut
      by_cases hm : r ∈ [a]
      · rw [if_pos hm, cnt_zero]; · exact Int.le_refl _
        intro p hp hr'
        obtain ⟨_, _, _, _, q⟩ := p1 p hp
        have e : r = a := by simpa using hm
        rw [e] at hr'; exact q hr'
      · rw [if_neg hm, ← hX.2 r hr]; exact p2 r)
    rw [p3, sm_sub, hX.count N hb] at this
    have := all_nn [a, b] X
    omega
  · obtain ⟨P, p1, p2, p3⟩ := F.2
    have hP : ∀ p ∈ P.take (min v (c b)).toNat, IsPath R 0 p (ft R b) ∧ a ∉ p := fun p hp => by
      have hp' := List.mem_of_mem_take hp
      obtain ⟨q, q1, q2⟩ := p1 p hp'
      have e : q = ft R b := by
        rcases q2 with q2 | ⟨_, _, _, q2⟩
        · simpa using q2
        · cases q2
      rw [e] at q1
      refine ⟨q1, fun m => ?_⟩
      have x := p2 a ha
      have y : (p.count a : Int) ≤ sm (fun t : List Nat => (t.count a : Int)) P := sm_mem (f := fun t : List Nat => (t.count a : Int)) hp' fun _ _ => Int.natCast_nonneg _
      have z := List.count_pos_iff.mpr m
      unfold shut at x
      rw [if_pos (by simp)] at x
      unfold cnt at x
      omega
    have hlen : ((P.take (min v (c b)).toNat).length : Int) = min v (c b) := by rw [List.length_take]; omega
    have hcn : ∀ r, r < R.length → cnt r (P.take (min v (c b)).toNat) ≤ c r := fun r hr => by
      have x := p2 r hr
      have y := cnt_take r P (min v (c b)).toNat
      unfold shut at x
      by_cases hm : r ∈ [a]
      · rw [if_pos hm] at x
        have := h0.nn r hr
        omega
      · rw [if_neg hm] at x; omega
    generalize P.take (min v (c b)).toNat = P1 at hP hlen hcn
    obtain ⟨Y, y1, y2, y3⟩ := complete N (h0.bal N) (fun x => 0 ≤ x.wt ∧ x.wt ≤ 1 ∧ (0 < x.wt → x.st = 0 ∧ ∃ pre post, x.rd = pre ++ b :: post ∧ a ∉ pre)) (fun i _ => ⟨Int.le_refl _, by show (0 : Int) ≤ 1; decide, fun z => absurd z (Int.lt_irrefl _)⟩)
      (fun x y _ _ ix iy e i1 i2 => by
        have zy : y.wt = 0 := by
          rcases Int.lt_or_le 0 y.wt with l | l
          · have := (iy.2.2 l).1; omega
          · have := iy.1; omega
        have z : (x.join y).wt = x.wt := by show x.wt + y.wt = x.wt; omega
        rw [z]
        refine ⟨ix.1, ix.2.1, fun l => ?_⟩
        obtain ⟨q, pre, post, e1, e2⟩ := ix.2.2 l
        exact ⟨q, pre, post ++ y.rd, by show x.rd ++ y.rd = _; rw [e1]; simp, e2⟩)
      (X0 := P1.map fun p => ⟨0, p ++ [b], hd R b, 1⟩) (fun x hx => by
        obtain ⟨p, hp, rfl⟩ := List.mem_map.mp hx
        obtain ⟨q1, q2⟩ := hP p hp
        exact ⟨⟨path_app.mpr ⟨_, q1, hb, rfl, rfl⟩, by simp⟩, by show (0 : Int) ≤ 1; decide, Int.le_refl _, fun _ => ⟨rfl, p, [], rfl, q2⟩⟩) (fun r hr => by
        rw [count_flat, sm_map]
        have e : sm (fun p => (((p ++ [b]).count r : Nat) : Int)) P1 = cnt r P1 + P1.length * b1 (b == r) := by
          unfold cnt
          rw [← sm_one P1, ← sm_mulr, ← sm_add]
          refine sm_congr fun p _ => ?_
          simp only [List.count_append, List.count_cons, List.count_nil]
          cases (b == r) <;> simp [b1]
        show sm (fun p => (((p ++ [b]).count r : Nat) : Int)) P1 ≤ c r
        rw [e]
        by_cases e2 : b = r
        · subst e2
          have z : cnt b P1 = 0 := cnt_zero fun p hp m => by
            have := (path_mem N.up (hP p hp).1 m).2.2
            have this : hd R b ≤ ft R b := this
            omega
          rw [z]; simp [b1]; omega
        · have e2' : (b == r) = false := beq_eq_false_iff_ne.mpr e2
          rw [e2']
          have := hcn r hr
          simp [b1]; omega)
    refine ⟨_, y2, ?_⟩
    have w : wsum Y = min v (c b) := by rw [y3]; show sm _ _ = _; rw [sm_map]; show sm (fun _ => 1) P1 = _; rw [sm_one]; exact hlen
    have hcb := y2.count N hb
    rw [sm_map] at hcb ⊢
    have e3 : sm (fun y : Pc => fAll [a, b] y.rd) Y ≤ sm (fun y : Pc => b1 (decide (b ∈ y.rd)) - y.wt) Y := sm_le fun y hy => by
      obtain ⟨p, _, _, i1, i2, i3⟩ := y1 y hy
      rw [fe]
      rcases Int.lt_or_le 0 y.wt with g | g
      · obtain ⟨_, pre, post, e1, e2⟩ := i3 g
        have hb' : b ∈ y.rd := by rw [e1]; simp
        have ha' : a ∉ y.rd := fun m => by
          rw [e1] at m p
          obtain ⟨z, z1, z2⟩ := path_app.mp p
          simp at m
          rcases m with m | m | m
          · exact e2 m
          · exact hne m
          · have := (path_mem N.up z2.2.2 m).2.1
            have this : hd R b ≤ ft R a := this
            omega
        rw [decide_eq_true hb', decide_eq_false ha']
        simp [b1]; omega
      · have : y.wt = 0 := by omega
        rw [this]
        by_cases h1 : a ∈ y.rd <;> by_cases h2 : b ∈ y.rd <;> simp [h1, h2, b1]
    rw [sm_sub, hcb] at e3
    have w' : sm (fun y : Pc => y.wt) Y = min v (c b) := w
    have e4 : sm (fun y : Pc => fAll [a, b] y.rd) Y ≤ c b - min v (c b) := by rw [← w']; exact e3
    have e5 : c b - min v (c b) ≤ max 0 (c b - v) := by omega
    exact Int.le_trans e4 e5
/-- one road asked twice -/
theorem both_same (N : NetOk many R) {X : List (List Nat)} (h : Expl many R c X) {a : Nat} (ha : a < R.length) : sm (fAll [a, a]) X = c a := by
  rw [← h.count N ha]
  refine sm_congr fun t _ => ?_
  unfold fAll
  simp
/-- neither road leads to the other -/
theorem both_none (N : NetOk many R) {X : List (List Nat)} (h : Expl many R c X) {a b : Nat} (ha : a < R.length) (hb : b < R.length) (hne : a ≠ b)
    (n1 : ¬ ∃ u, IsPath R (hd R a) u (ft R b)) (n2 : ¬ ∃ u, IsPath R (hd R b) u (ft R a)) : sm (fAll [a, b]) X = 0 := by
  refine sm_zero fun t ht => ?_
  rcases fAll_01 [a, b] t with e | e
  · exact e
  · exfalso
    have q := fAll_one.mp e
    obtain ⟨x, s, rfl, p1, p2, _⟩ := path_split (h.1 t ht) (q a (by simp))
    have m := q b (by simp)
    simp at m
    rcases m with m | m | m
    · obtain ⟨u, w, rfl, _, p4, _⟩ := path_split p1 m
      exact n2 ⟨w, p4⟩
    · exact hne m.symm
    · obtain ⟨u, w, rfl, p3, _, _⟩ := path_split p2 m
      exact n1 ⟨u, p3⟩

/-! ### along -/
theorem all_hi_stretch (N : NetOk many R) {X0 : List (List Nat)} (h0 : Expl many R c X0) {l : List Nat} {l0 : Nat} (hl : l0 ∈ l) {p q : Int} (hp : IsPath R p l q) {k : Int} (hk : ∀ r ∈ l, k ≤ c r) (hk0 : 0 ≤ k) (he : ∃ r ∈ l, k = c r) :
    IsHi many R c (fAll l) k := by
  refine .of (fun X hX => ?_) ?_
  · obtain ⟨r, hr, e⟩ := he
    rw [e]
    exact all_le N hX (path_mem N.up hp hr).1 hr
  · obtain ⟨X, hX, hle⟩ := all_hi N h0 hl (X1 := List.replicate k.toNat ⟨p, l, q, 1⟩) (fun x hx => by
      rw [(List.mem_replicate.mp hx).2]
      exact ⟨⟨hp, fun e => by rw [show l = [] from e] at hl; cases hl⟩, rfl, fun r hr => hr⟩) (fun r hr => by
      rw [count_flat, sm_repl, Int.toNat_of_nonneg hk0]
      show k * (l.count r : Int) ≤ c r
      rw [count_b1 N.up hp r]
      by_cases m : r ∈ l
      · rw [decide_eq_true m, b1_t, Int.mul_one]; exact hk r m
      · rw [decide_eq_false m, b1_f, Int.mul_zero]; exact h0.nn r hr)
    rw [List.length_replicate] at hle
    exact ⟨X, hX, by omega⟩
/-- what leaves at the foot of x by other roads -/
def away (R : Arcs) (c : Nat → Int) (x : Nat) : Int := sr (fun r => c r * b1 (decide (ft R r = ft R x ∧ r ≠ x))) R.length
def oth (R : Arcs) (x : Nat) (t : List Nat) : Int := b1 (t.any fun r => decide (ft R r = ft R x ∧ r ≠ x))
theorem oth_sum (N : NetOk many R) {p q : Int} (x : Nat) : ∀ {t : List Nat}, IsPath R p t q → sm (fun r => b1 (decide (ft R r = ft R x ∧ r ≠ x))) t = oth R x t := fun {t} h => by
  by_cases e : ∃ r ∈ t, ft R r = ft R x ∧ r ≠ x
  · obtain ⟨r, hr, e1⟩ := e
    have o : oth R x t = 1 := by
      unfold oth
      rw [List.any_eq_true.mpr ⟨r, hr, decide_eq_true e1⟩]; rfl
    rw [o]
    have e2 : sm (fun r => b1 (decide (ft R r = ft R x ∧ r ≠ x))) t = sm (fun s => b1 (s == r)) t := sm_congr fun s hs => by
      by_cases q : s = r
      · subst q; rw [decide_eq_true e1]; simp
      · have : ¬ (ft R s = ft R x ∧ s ≠ x) := fun z => q (path_foot N.up h hs hr (z.1.trans e1.1.symm))
        rw [decide_eq_false this, beq_eq_false_iff_ne.mpr q]
    rw [e2, sm_count, count_b1 N.up h r, decide_eq_true hr]; rfl
  · have o : oth R x t = 0 := by
      unfold oth
      cases q : t.any fun r => decide (ft R r = ft R x ∧ r ≠ x)
      · rfl
      · obtain ⟨r, hr, e1⟩ := List.any_eq_true.mp q
        exact absurd ⟨r, hr, of_decide_eq_true e1⟩ e
    rw [o]
    refine sm_zero fun r hr => ?_
    rw [decide_eq_false fun z => e ⟨r, hr, z⟩]; rfl
theorem Expl.away (N : NetOk many R) {X : List (List Nat)} (h : Expl many R c X) (x : Nat) : sm (oth R x) X = away R c x := by
  unfold K56.away
  rw [← h.sum N]
  exact sm_congr fun t ht => (oth_sum N x (h.1 t ht)).symm
theorem fAll_snoc (u : List Nat) (x : Nat) (t : List Nat) : fAll (u ++ [x]) t = fAll u t * b1 (decide (x ∈ t)) := by
  unfold fAll
  simp only [List.all_append, List.all_cons, List.all_nil, Bool.and_true]
  cases (u.all fun r => decide (r ∈ t)) <;> cases decide (x ∈ t) <;> rfl
/-- whoever went along all but the last road, went along it too or left -/
theorem snoc_le (N : NetOk many R) {u : List Nat} {x : Nat} {a b : Int} (hp : IsPath R a (u ++ [x]) b) (hu : u ≠ []) {t : List Nat} (ht : IsPath R 0 t (many - 1)) : fAll u t ≤ fAll (u ++ [x]) t + oth R x t := by
  have o0 : 0 ≤ oth R x t := b1_nn _
  rw [fAll_snoc]
  rcases fAll_01 u t with e | e
  · rw [e]; simp; exact o0
  · rw [e]
    by_cases hx : x ∈ t
    · rw [decide_eq_true hx]; simp [b1]; omega
    · rw [decide_eq_false hx]
      obtain ⟨m, m1, m2, m3, m4⟩ := path_app.mp hp
      have nx := N.rd x m2
      -- the last road of u
      obtain ⟨v, y, rfl⟩ : ∃ v y, u = v ++ [y] := ⟨u.dropLast, u.getLast hu, (List.dropLast_concat_getLast hu).symm⟩
      obtain ⟨_, _, y1, _, y3⟩ := path_app.mp m1
      have y3' : hd R y = m := y3
      have hy : y ∈ t := fAll_one.mp e y (by simp)
      obtain ⟨g, s, rfl, s1, s2, _⟩ := path_split ht hy
      cases s with
      | nil =>
        have : hd R y = many - 1 := s2
        omega
      | cons z s =>
        obtain ⟨z1, z2, _⟩ := s2
        have : oth R x (g ++ y :: z :: s) = 1 := by
          unfold oth
          rw [List.any_eq_true.mpr ⟨z, by simp, decide_eq_true ⟨by rw [z2, y3', m3], fun e => hx (by rw [← e]; simp)⟩⟩]; rfl
        rw [this]; simp [b1]
/-- from an explanation in which so many go along u, one in which as few as may be go on along x -/
theorem snoc_less (N : NetOk many R) {u : List Nat} {x : Nat} {a b : Int} (hp : IsPath R a (u ++ [x]) b) (hu : u ≠ []) : ∀ (n : Nat) (X : List (List Nat)), Expl many R c X → (sm (fAll (u ++ [x])) X).toNat = n →
    ∃ Y, Expl many R c Y ∧ sm (fAll u) Y = sm (fAll u) X ∧ sm (fAll (u ++ [x])) Y ≤ max 0 (sm (fAll u) X - away R c x) := by
  obtain ⟨m, m1, m2, m3, m4⟩ := path_app.mp hp
  intro n
  induction n with
  | zero =>
    intro X hX hn
    have := all_nn (u ++ [x]) X
    exact ⟨X, hX, rfl, by omega⟩
  | succ n ih =>
    intro X hX hn
    by_cases hdone : sm (fAll (u ++ [x])) X ≤ max 0 (sm (fAll u) X - away R c x)
    · exact ⟨X, hX, rfl, hdone⟩
    · -- somebody goes along all of it
      obtain ⟨t, ht, ft1⟩ : ∃ t ∈ X, fAll (u ++ [x]) t = 1 := by
        obtain ⟨t, ht, q⟩ := sm_pos (show 0 < sm (fAll (u ++ [x])) X by omega)
        exact ⟨t, ht, by rcases fAll_01 (u ++ [x]) t with e | e <;> omega⟩
      -- somebody else leaves who did not come along u
      obtain ⟨t', ht', o1, o2⟩ : ∃ t' ∈ X, oth R x t' = 1 ∧ fAll u t' = 0 := by
        have h1 : 0 < sm (fun t => oth R x t - (fAll u t - fAll (u ++ [x]) t)) X := by
          rw [sm_sub, sm_sub, hX.away N x]; omega
        obtain ⟨t', ht', q⟩ := sm_pos h1
        have q1 : fAll (u ++ [x]) t' ≤ fAll u t' := by
          rw [fAll_snoc]
          rcases fAll_01 u t' with e | e <;> rw [e]
          · simp
          · have := b1_le (decide (x ∈ t')); omega
        have q2 : oth R x t' ≤ 1 := b1_le _
        have q3 : 0 ≤ oth R x t' := b1_nn _
        have q5 : fAll (u ++ [x]) t' = 1 → oth R x t' = 0 := fun e => by
          have hx : x ∈ t' := fAll_one.mp e x (by simp)
          cases z : t'.any fun r => decide (ft R r = ft R x ∧ r ≠ x)
          · unfold oth; rw [z]; rfl
          · obtain ⟨r, hr, w⟩ := List.any_eq_true.mp z
            have w' := of_decide_eq_true w
            exact absurd (path_foot N.up (hX.1 t' ht') hr hx w'.1) w'.2
        refine ⟨t', ht', by omega, ?_⟩
        rcases fAll_01 u t' with e | e
        · exact e
        · rcases fAll_01 (u ++ [x]) t' with e2 | e2
          · omega
          · have := q5 e2; omega
      -- the two are unlike
      have hx : x ∈ t := fAll_one.mp ft1 x (by simp)
      obtain ⟨r, hr, w⟩ : ∃ r ∈ t', ft R r = ft R x ∧ r ≠ x := by
        cases z : t'.any fun r => decide (ft R r = ft R x ∧ r ≠ x)
        · unfold oth at o1; rw [z] at o1; cases o1
        · obtain ⟨r, hr, w⟩ := List.any_eq_true.mp z
          exact ⟨r, hr, of_decide_eq_true w⟩
      obtain ⟨l1, l2, rfl⟩ := List.append_of_mem ht
      have ht2 : t' ∈ l1 ++ l2 := by
        simp at ht'
        rcases ht' with q | q | q
        · simp [q]
        · rw [q] at o2
          rw [fAll_snoc] at ft1
          rw [o2] at ft1; simp at ft1
        · simp [q]
      obtain ⟨k1, k2, ek⟩ := List.append_of_mem ht2
      have px : (l1 ++ t :: l2).Perm (t :: t' :: (k1 ++ k2)) := List.perm_middle.trans (by rw [ek]; exact List.Perm.cons _ List.perm_middle)
      have hT : ∀ z ∈ t :: t' :: (k1 ++ k2), IsPath R 0 z (many - 1) := fun z hz => hX.1 z (px.mem_iff.mpr hz)
      have pt := hT t (by simp)
      have pt' := hT t' (by simp)
      obtain ⟨h, s, rfl, s1, s2, s3⟩ := path_split pt hx
      obtain ⟨h', s', rfl, s1', s2', s3'⟩ := path_split pt' hr
      rw [w.1] at s1'
      have e1 : IsPath R 0 (h ++ r :: s') (many - 1) := path_app.mpr ⟨_, s1, s3', w.1, s2'⟩
      have e2 : IsPath R 0 (h' ++ x :: s) (many - 1) := path_app.mpr ⟨_, s1', s3, rfl, s2⟩
      -- the roads of u end ahead of x
      have uh : ∀ {g w : List Nat}, IsPath R 0 g (ft R x) → IsPath R (ft R x) w (many - 1) → fAll u (g ++ w) = fAll u g := fun {g w} pg pw => by
        have hm : ∀ y ∈ u, (y ∈ g ++ w ↔ y ∈ g) := fun y hy => by
          refine ⟨fun q => ?_, fun q => List.mem_append_left _ q⟩
          rcases List.mem_append.mp q with q | q
          · exact q
          · have q1 := (path_mem N.up m1 hy)
            have q2 := (path_mem N.up pw q).2.1
            have q3 : hd R y ≤ m := q1.2.2
            have q4 : ft R x ≤ ft R y := q2
            have := (N.rd y q1.1).2.1
            omega
        rcases fAll_01 u (g ++ w) with e | e <;> rcases fAll_01 u g with e' | e'
        · rw [e, e']
        · have := fAll_one.mp e'
          rw [fAll_one.mpr fun y hy => (hm y hy).mpr (this y hy)] at e; cases e
        · have := fAll_one.mp e
          rw [fAll_one.mpr fun y hy => (hm y hy).mp (this y hy)] at e'; cases e'
        · rw [e, e']
      have hX2 : Expl many R c ((h ++ r :: s') :: (h' ++ x :: s) :: (k1 ++ k2)) := by
        refine hX.perm (fun z hz => ?_) ?_
        · rcases List.mem_cons.mp hz with rfl | hz
          · exact e1
          · rcases List.mem_cons.mp hz with rfl | hz
            · exact e2
            · exact hT z (List.mem_cons_of_mem _ (List.mem_cons_of_mem _ hz))
        · refine List.Perm.trans ?_ (List.Perm.flatten px).symm
          simp only [List.flatten_cons]
          rw [List.perm_iff_count]
          intro z
          simp only [List.count_append, List.count_cons]
          omega
      have w1 : IsPath R (ft R x) (r :: s') (many - 1) := ⟨s3', w.1, s2'⟩
      have w2 : IsPath R (ft R x) (x :: s) (many - 1) := ⟨s3, rfl, s2⟩
      have u1 := uh s1 w1
      have u2 := uh s1' w2
      have u3 := uh s1 w2
      have u4 := uh s1' w1
      have nx : x ∉ h ++ r :: s' := fun q => w.2 (path_foot N.up e1 (by simp) q w.1)
      have v1 : fAll (u ++ [x]) (h ++ r :: s') = 0 := by rw [fAll_snoc, decide_eq_false nx]; simp [b1]
      have v2 : fAll (u ++ [x]) (h' ++ x :: s) = 0 := by rw [fAll_snoc, u2, ← u4, o2]; simp
      have v4 : fAll (u ++ [x]) (h' ++ r :: s') = 0 := by rw [fAll_snoc, o2]; simp
      have a1 : sm (fAll u) ((h ++ r :: s') :: (h' ++ x :: s) :: (k1 ++ k2)) = sm (fAll u) (l1 ++ (h ++ x :: s) :: l2) := by
        rw [sm_perm _ px]
        simp only [sm]
        rw [u1, u2, u3, u4]
      have a2 : sm (fAll (u ++ [x])) ((h ++ r :: s') :: (h' ++ x :: s) :: (k1 ++ k2)) = sm (fAll (u ++ [x])) (l1 ++ (h ++ x :: s) :: l2) - 1 := by
        rw [sm_perm _ px]
        simp only [sm]
        rw [v1, v2, v4, ft1]; omega
      obtain ⟨Y, y1, y2, y3⟩ := ih _ hX2 (by rw [a2]; omega)
      exact ⟨Y, y1, y2.trans a1, by rw [a1] at y3; exact y3⟩
/-- along a stretch: all of the first road, less what leaves -/
theorem along_lo (N : NetOk many R) {X0 : List (List Nat)} (h0 : Expl many R c X0) (x0 : Nat) : ∀ (n : Nat) (l : List Nat) (a b : Int), l.length = n → IsPath R a (x0 :: l) b →
    (∀ X, Expl many R c X → c x0 ≤ sm (fAll (x0 :: l)) X + sm (away R c) l) ∧ ∃ X, Expl many R c X ∧ sm (fAll (x0 :: l)) X ≤ max 0 (c x0 - sm (away R c) l) := by
  intro n
  induction n with
  | zero =>
    intro l a b hl hp
    have : l = [] := List.length_eq_zero_iff.mp hl
    subst this
    have e : ∀ X, Expl many R c X → sm (fAll [x0]) X = c x0 := fun X hX => by
      rw [← hX.count N hp.1]
      exact sm_congr fun t _ => by unfold fAll; simp
    refine ⟨fun X hX => ?_, X0, h0, ?_⟩
    · rw [e X hX]; simp [sm]
    · rw [e X0 h0]; simp only [sm]; omega
  | succ n ih =>
    intro l a b hl hp
    obtain ⟨l', x, rfl⟩ : ∃ l' x, l = l' ++ [x] := by
      have hne : l ≠ [] := fun e => by rw [e] at hl; simp at hl
      exact ⟨l.dropLast, l.getLast hne, (List.dropLast_concat_getLast hne).symm⟩
    have hl' : l'.length = n := by simp at hl; exact hl
    have hp' : IsPath R a ((x0 :: l') ++ [x]) b := hp
    obtain ⟨m, m1, m2⟩ := path_app.mp hp'
    obtain ⟨i1, X, hX, i2⟩ := ih l' a m hl' m1
    have e : sm (away R c) (l' ++ [x]) = sm (away R c) l' + away R c x := by rw [sm_app]; simp [sm]
    have aw : 0 ≤ away R c x := by
      rw [← h0.away N x]
      exact sm_nn fun _ _ => b1_nn _
    refine ⟨fun Z hZ => ?_, ?_⟩
    · have a1 := i1 Z hZ
      have a2 : sm (fAll (x0 :: l')) Z ≤ sm (fun t => fAll ((x0 :: l') ++ [x]) t + oth R x t) Z := sm_le fun t ht => snoc_le N hp' (by simp) (hZ.1 t ht)
      rw [sm_add, hZ.away N x] at a2
      rw [e]
      show c x0 ≤ sm (fAll ((x0 :: l') ++ [x])) Z + _
      omega
    · obtain ⟨Y, y1, y2, y3⟩ := snoc_less N hp' (by simp) _ X hX rfl
      refine ⟨Y, y1, ?_⟩
      rw [e]
      show sm (fAll ((x0 :: l') ++ [x])) Y ≤ _
      omega
theorem along_isLo (N : NetOk many R) {X0 : List (List Nat)} (h0 : Expl many R c X0) {x0 : Nat} {l : List Nat} {a b : Int} (hp : IsPath R a (x0 :: l) b) : IsLo many R c (fAll (x0 :: l)) (max 0 (c x0 - sm (away R c) l)) := by
  obtain ⟨h1, h2⟩ := along_lo N h0 x0 l.length l a b rfl hp
  refine .of (fun X hX => ?_) h2
  have := h1 X hX
  have := all_nn (x0 :: l) X
  omega
/-- a stretch stands in a trip, one road behind another, as soon as all its roads do -/
theorem infix_of_all {A : Arcs} {rk : Int → Int} (U : Up rk A) : ∀ {l t : List Nat} {p q a b : Int}, IsPath A a l b → IsPath A p t q → (∀ r ∈ l, r ∈ t) → ∃ h s, t = h ++ l ++ s
  | [], t, _, _, _, _, _, _, _ => ⟨[], t, rfl⟩
  | x :: l, t, p, q, a, b, hl, ht, hm => by
    obtain ⟨h, s, rfl, p1, p2, p3⟩ := path_split ht (hm x List.mem_cons_self)
    refine ⟨h, ?_⟩
    -- behind x the same roads
    have key : ∀ (l s : List Nat) (y z : Int), IsPath A y l z → IsPath A y s q → (∀ r ∈ l, r ∈ s) → ∃ w, s = l ++ w := by
      intro l
      induction l with
      | nil => intro s _ _ _ _ _; exact ⟨s, rfl⟩
      | cons r l ih =>
        intro s y z hl hs hm
        obtain ⟨l1, l2, l3⟩ := hl
        cases s with
        | nil => exact absurd (hm r List.mem_cons_self) (by simp)
        | cons r' s =>
          have hs' := hs
          obtain ⟨s1, s2, s3⟩ := hs
          have e : r = r' := path_foot U hs' (hm r List.mem_cons_self) List.mem_cons_self (l2.trans s2.symm)
          subst e
          obtain ⟨w, rfl⟩ := ih s _ _ l3 s3 fun u hu => by
            rcases List.mem_cons.mp (hm u (List.mem_cons_of_mem _ hu)) with e | m
            · exfalso
              have a1 := (path_mem U l3 hu).2.1
              have a2 := U r l1
              rw [e] at a1; omega
            · exact m
          exact ⟨w, rfl⟩
    obtain ⟨w, rfl⟩ := key l s _ _ hl.2.2 p2 fun u hu => by
      have m := hm u (List.mem_cons_of_mem _ hu)
      simp at m
      rcases m with m | m | m
      · exfalso
        have a1 := (path_mem U hl.2.2 hu)
        have a2 := (path_mem U p1 m).2.2
        have a3 := U x p3
        have a4 := U u a1.1
        omega
      · exfalso
        have a1 := (path_mem U hl.2.2 hu).2.1
        have a3 := U x p3
        rw [m] at a1; omega
      · exact m
    exact ⟨w, by simp⟩
end K56

/-! further rules: enumerate of a tuple -/
namespace K56R
open PySem PySem.Spec PyProof.Rows L2

theorem enum_made {v : Value} {o : Obj} {W : Heap → Prop} (B : Begins v o W) :
    Meets (Builtin.«enumerate.__new__» ⟨[.type "enumerate", v], []⟩) (fun _ R s => W s.heap ∧
      R (.ok (.ret (.ref (s.heap.push o).objs.size))) { s with heap := (s.heap.push o).push { cls := .type "enumerate", data := .fields #[.none, .bool false, .ref s.heap.objs.size, rawInt 0, .none, .none] } }) :=
  .of_wp fun prog w A R s hyp => by
    obtain ⟨hp, g, d, tk, os⟩ := s
    obtain ⟨w1, hyp⟩ := hyp
    have hsub := sub_enumerate
    have it1 : ∀ {A' : Around} {E : Value → Shared → Prop} {Q : Value → Shared → Prop}, Q (.ref hp.objs.size) ⟨hp.push o, g, d, tk, os⟩ → wpAny (model prog w) A' (pyIter v) Q E ⟨hp, g, d, tk, os⟩ :=
      fun q => B.iter prog w _ _ ⟨hp, g, d, tk, os⟩ _ w1 q
    wp_walk using it1
    refine wpAny_stack_any fun st => wpAny_pure ?_
    split
    · rename_i c _ _ _ _ _
      cases (c == Value.type "enumerate")
      all_goals (wp_walk using it1; exact ⟨_, rfl, hyp⟩)
    · wp_walk using it1
      exact ⟨_, rfl, hyp⟩
section
variable {prog : Program} {w : World} {A : Around} {E : Value → Shared → Prop} {s : Shared}
theorem enum_call {v : Value} {o : Obj} {W : Heap → Prop} {Q : Value → Shared → Prop} (B : Begins v o W) (h1 : W s.heap)
    (k : ∀ h', IsEnum h' (s.heap.objs.size + 1) s.heap.objs.size 0 .none → h'.get? s.heap.objs.size = some o → h'.objs.size = s.heap.objs.size + 2 →
      (∀ b u, s.heap.get? b = some u → h'.get? b = some u) → Q (.ref (s.heap.objs.size + 1)) { s with heap := h' }) : wpAny (model prog w) A (call (.type "enumerate") [v]) Q E s := by
  refine callType_new F.called_enumerate (by decide) (F.typeCall_enumerate_1 _) (F.newCall_enumerate_1 _) (fun obj => F.args_object_init_2 obj _) F.entry_enumerate_new (enum_made B) ⟨h1, ?_⟩
  have z1 : (s.heap.push o).objs.size = s.heap.objs.size + 1 := Heap.size_push ..
  show _ ∧ _
  rw [z1]
  have e1 := Heap.get?_push_size (s.heap.push o) (o := { cls := .type "enumerate", data := .fields #[.none, .bool false, .ref s.heap.objs.size, rawInt 0, .none, .none] }) rfl
  rw [z1] at e1
  refine ⟨⟨_, e1, rfl⟩, k _ e1 (Heap.get?_push_of_some _ (Heap.get?_push_size _ B.free)) ?_ fun b u q => Heap.get?_push_of_some _ (Heap.get?_push_of_some _ q)⟩
  rw [Heap.size_push, z1]
end

/-- the tuple at a as it stands, each item in a new pair with its number -/
def IteT (K : PySem.W.Frag) (a : Addr) : It where
  go := fun i H => ∃ (xs : List V) (x : V), SqT K H a xs ∧ xs[i]? = some x
  yld := fun i H v H' => ∃ T x, v = .ref T ∧ H T = none ∧ H' = upd H T (.tup [.int (i : Nat), x]) ∧ ∀ xs, SqT K H a xs → xs[i]? = some x
  stop := fun i H => ∃ xs : List V, SqT K H a xs ∧ xs.length ≤ i
theorem iter_apart {h : Heap} {it a : Addr} {i : Nat} {its : Array Value} (h1 : h.IsTupleIter it a i) (h2 : IsTup h a its) : a ≠ it := fun e => by
  subst e
  obtain ⟨o, ho, hc, _⟩ := h1
  obtain ⟨o', ho', hc', _⟩ := h2
  rw [ho] at ho'
  cases ho'
  rw [hc] at hc'
  exact absurd hc' (by decide)
theorem turn_enumT {P : Program} {w : World} {K : PySem.W.Frag} {elts : List Expr} {kk : Nat} {tpos : Pos} (a e it : Addr) :
    Turn P w K (.Tuple elts kk tpos) (IteT K a) [e, it] e (fun i h => (∃ old, IsEnum h e it ((i : Nat) : Int) old) ∧ h.IsTupleIter it a i ∧ e ≠ it) where
  mem := by simp
  obj := fun i h st b hb => by
    obtain ⟨⟨old, q1⟩, ⟨o, ho, hc, dd⟩, _⟩ := st
    rcases (show b = e ∨ b = it by simpa using hb) with z | z <;> rw [z]
    · exact ⟨_, q1, fun v q => nomatch q⟩
    · exact ⟨o, ho, fun v q => by rw [dd] at q; cases q⟩
  keep := fun i h h' st k => by
    obtain ⟨⟨old, q1⟩, q2, q3⟩ := st
    exact ⟨⟨old, k e (by simp) _ q1⟩, q2.at fun o q => k it (by simp) o q, q3⟩
  item := by
    intro X hP hw hK hc i pins s σ H E I hf st hg
    subst hP hw hK
    obtain ⟨⟨old, q1⟩, q2, q3⟩ := st
    obtain ⟨xs, x, hq, hx⟩ := hg
    obtain ⟨its, rv, p, hz⟩ := I.tuple hq
    obtain ⟨u, hu, ru⟩ := rv.get hx
    have l1 : e < s.heap.objs.size := Heap.lt_size q1
    have l2 : it < s.heap.objs.size := by obtain ⟨_, q, _⟩ := q2; exact Heap.lt_size q
    have ap := iter_apart q2 p
    have apE : e ∉ [it, a] := fun m => by
      rcases (show e = it ∨ e = a by simpa using m) with z | z
      · exact q3 z
      · obtain ⟨o', ho', hc', _⟩ := p
        rw [← z] at ho'
        have z2 := Option.some.inj (q1.symm.trans ho')
        rw [← z2] at hc'
        have z3 : Value.type "enumerate" = Value.type "tuple" := hc'
        exact absurd z3 (by decide)
    have hlen : i < its.toArray.size := by
      have := (List.getElem?_eq_some_iff.mp hu).1
      simpa using this
    refine wpAny_pyNext_enum_itemD (Draws.tuple (A := X.A.in1) (show X.A.in1.handled = none from I.ok.hd hc) it a ap its.toArray) q1 ⟨q2, p⟩ hlen q3 apE fun y h' tk hy ho st' hT hsz hk => ?_
    have ey : y = u := by
      have hu' : its.toArray[i]? = some u := by simpa using hu
      rw [hu'] at hy
      exact (Option.some.inj hy).symm
    subst ey
    refine ⟨_, rfl, wpAny_letOwnedTupleGo_enum (s := { s with heap := h', toks := tk + 1 }) ho fun h'' he' sb => ?_⟩
    have hT2 := (sb.2 _ (Nat.ne_of_gt l1)).trans hT
    have new : ObjOk X.prog X.w (upd H s.heap.objs.size (.tup [.int (i : Nat), x])) h'' s.heap.objs.size (.tup [.int (i : Nat), x]) :=
      ⟨by show 2 ≤ sizeLine; decide, [.int i tk, y], .cons ⟨_, rfl⟩ (.cons ru .nil), ⟨_, hT2, rfl, _, rfl⟩⟩
    have I1 : Inv X pins σ (upd H s.heap.objs.size (.tup [.int (i : Nat), x])) { s with heap := h'', toks := tk + 1 } := by
      refine I.turnedNew (t' := tk + 1) (ch := [e, it]) (fun b ob nb q => ?_) hf (Nat.le_refl _) new
      have n1 : b ≠ e := fun z => nb (by simp [z])
      have n2 : b ≠ it := fun z => nb (by simp [z])
      exact (sb.2 b n1).trans (hk b ob n1 n2 q)
    refine ⟨.ref s.heap.objs.size, _, I1, rfl, ⟨_, x, rfl, I.hok.fresh (Nat.le_refl _), rfl, fun ys hy => ?_⟩, ⟨⟨y, ?_⟩, st'.1.at fun o q => (sb.2 it (Ne.symm q3)).trans q, q3⟩, fun b hb => ?_⟩
    · rw [I.tuple_inj hy hq]; exact hx
    · rw [show ((i + 1 : Nat) : Int) = (i : Int) + 1 by omega]; exact he'
    · have lb : b < s.heap.objs.size := by
        rcases (show b = e ∨ b = it by simpa using hb) with z | z <;> rw [z]
        · exact l1
        · exact l2
      rw [upd_ne (Nat.ne_of_lt lb)]
      exact (hf b hb).1
  done := by
    intro X hP hw hK hc i pins s σ H E I hf st hg
    subst hP hw hK
    obtain ⟨⟨old, q1⟩, q2, q3⟩ := st
    obtain ⟨xs, hq, hx⟩ := hg
    obtain ⟨its, rv, p, hz⟩ := I.tuple hq
    obtain ⟨f0, f1, f2, f3, f4, f5⟩ := hf it (by simp)
    have hl := rv.length
    have ap := iter_apart q2 p
    -- the iterator may stand further on than the end only where it is at it
    have D : Draws X.prog X.w X.A.in1 it [it, a] i (fun _ _ => True) (fun j h => j = i ∧ h.IsTupleIter it a i ∧ h.IsTuple a its.toArray) :=
      { live := fun _ _ z => (by obtain ⟨_, ⟨o, ho, _⟩, _⟩ := z; exact ⟨o, ho⟩)
        frame := fun _ _ _ z k => ⟨z.1, z.2.1.at fun o q => k it (by simp) o q, z.2.2.at fun o q => k a (by simp) o q⟩
        item := fun j s' Q' E' hj z _ => absurd z.1 (Nat.ne_of_lt hj)
        done := fun s' Q' E' z hE => wpAny_nextOf_tuple_end (show X.A.in1.handled = none from I.ok.hd hc) z.2.1 z.2.2 (by simp; omega) hE }
    exact wpAny_pyNext_enum_endD D q1 ⟨rfl, q2, p⟩ fun h' eb => ⟨rfl, I.turned (t' := s.toks) (fun b o hb q => eb b o hb q) f0 f1 f3 f4 f5⟩
  self := fun A i s Q E st h => by
    obtain ⟨⟨_, q⟩, _⟩ := st
    exact wpAny_pyIter_enum q h
def iEnumT (K : PySem.W.Frag) (ta : TA) : TI := fun σ H R => ta σ H fun vs H1 => ∃ a xs, vs = [.ref a] ∧ SqT K H1 a xs ∧ R (IteT K a) H1
theorem pi_enumT {X : Cx} {e : Expr} {ta : TA} {p pos tpos : Pos} {elts : List Expr} {kk : Nat} (hg : Gl X "enumerate") (hm : X.mg "enumerate" = none) (ha : PA X [e] ta) (hs : starEach [e] X.env = [(false, eval e X.env)] := by rfl) :
    PI X (.Tuple elts kk tpos) (.Call (.Name "enumerate" p) [e] [] pos) (iEnumT X.K ta) := by
  refine ⟨fun pins s σ H R I h => ?_⟩
  refine Call_ (ld_blt I hg hm boot_enumerate (PyProof.Rows.callWith_type1 (thn (ha.run pos pins s σ H _ I h) fun us s1 ⟨vs, H1, I1, r1, q1⟩ => ?_) hs rfl))
  obtain ⟨a, xs, rfl, hq, q⟩ := q1
  obtain ⟨u, rfl, ru⟩ := vals1 r1
  obtain rfl : u = Value.ref a := ru
  obtain ⟨its, rv, p', hz⟩ := I1.tuple hq
  refine enum_call (begins_tuple a its.toArray) p' fun h' he hit hsz hk => wpAny_pyIter_enum he ?_
  have I2 : Inv X pins σ H1 { s1 with heap := h' } := I1.kept (t' := s1.toks) hk
  refine ⟨s1.heap.objs.size + 1, [s1.heap.objs.size + 1, s1.heap.objs.size], _, _, H1, rfl, I2, turn_enumT a (s1.heap.objs.size + 1) s1.heap.objs.size, ⟨⟨.none, he⟩, ⟨_, hit, rfl, rfl⟩, Nat.succ_ne_self _⟩, fun b hb => ?_, q⟩
  have le1 : s1.heap.objs.size ≤ b := by
    rcases (show b = s1.heap.objs.size + 1 ∨ b = s1.heap.objs.size by simpa using hb) with z | z <;> rw [z]
    · exact Nat.le_add_right _ _
    · exact Nat.le_refl _
  exact I1.fpOk le1 (I1.hok.fresh le1)
end K56R

/-! further rules: repr of data, where it is known that no repr runs; defs called so; keywords alone -/
namespace K56R
open PySem PySem.Spec PyProof.Rows L2

def rReprD (K : PySem.W.Frag) : List V → Hp → VK → Prop := fun vs H Q => ∃ a d, vs = [V.ref a] ∧ Dp K H (.ref a) d ∧ d.showable = true ∧ d.hasDict = false ∧ d.depth ≤ 60 ∧ d.shown.length ≤ sizeLine ∧ Q (.str d.shown) H
theorem call_reprD {X : Cx} (hu : X.A.units + 64 < cLine) (hg : X.A.guards = some []) : CallR X (.builtin "repr") (rReprD X.K) := by
  intro pins s σ H xs us Q I r h
  obtain ⟨a, d, rfl, hd, h1, h2, h3, h4, q⟩ := h
  obtain ⟨u, rfl, ru⟩ := vals1 r
  obtain ⟨as, rd⟩ := Dp.reads I d _ u hd ru
  obtain rfl : u = Value.ref a := ru
  refine PySem.repr_of_reads' rd h1 (PyData.noDict_hsm h2) hg (by omega) (fun _ _ e => e) (fun h' u tk keep => ?_) h4
  exact ⟨.str d.shown, H, I.kept keep, ⟨u, rfl⟩, q⟩

/-! ### a def whose promise may lean on that no repr runs -/
structure FnG (P : Program) (w : World) (K : PySem.W.Frag) (mg : Str → Option Value) (base : Heap) (k : Nat) (f : Addr) (fd : FuncData) (ps : List Str) (sp : Sp) : Prop where
  len : ∀ vs H Q E, sp vs H Q E → vs.length = ps.length
  run : ∀ (A : Around) (outer : List Env) (s : Shared) (H : Hp) (args : Args) (us : List Value) (vs : List V) (Q : VK) (E : XK), A.guards = some [] → Room k A → Env0 P w K mg base A outer s H →
    BindsTo s fd args (ps.zip us) → Vals vs us → sp vs H Q E → codeAny (model P w) A (.call (.ref f) args) (CR CX0 outer P w H s Q E) s
section
variable {P : Program} {w : World} {K : PySem.W.Frag} {mg : Str → Option Value} {base : Heap}
theorem fnG_of {x : Str} {st : Stmt} {f : Addr} {fd : FuncData} {N ps : List Str} {k : Nat} {sp : Sp} (F : L2.Fun K x x st f fd) (S : FnScope N ps (defScope st)) (len : ∀ vs H Q E, sp vs H Q E → vs.length = ps.length)
    (body : ∀ (cdv : Value) (A : Around) (outer : List Env) (s : Shared) (H : Hp) (vs : List V) (Q : VK) (E : XK), (A.deeper (envOfC x (defScope st) s.heap.objs.size f cdv)).guards = some [] →
      Room k (A.deeper (envOfC x (defScope st) s.heap.objs.size f cdv)) → sp vs H Q E →
      ∃ t, PSs (cxOf CX0 P w K mg base N x (defScope st) f cdv A outer s H E) (defBody st) t ∧ t { nx := fun _ H' => Q .non H', rt := Q } (start N vs) H) : FnG P w K mg base (k + 1) f fd ps sp := by
  obtain ⟨oc, od, kV, doc, pm, an, cdv, ct, osl, rfl, lk, hcd⟩ := F.ex
  refine ⟨len, fun A outer s H args us vs Q E gd hr e0 hb r hsp => ?_⟩
  have KX : K.In s.heap := e0.mod.kin.keeps fun b o e => (e0.bs b o e).1
  have lim : s.heap.NoLimit := e0.mod.nolimit.keeps fun b o e => (e0.bs b o e).1
  refine codeAny_call_function hr.depth (KX _ _ lk) rfl S.co S.gen rfl (PySem.W.codeRec_of KX hcd) (hb _ _ _ _ ?_)
  refine wpAny_newFunctionEnv_cells S.kind (fun ⟨n, v⟩ hy => ?_) fun env he s1 x1 => ?_
  · rcases S.par n (List.of_mem_zip hy).1 with q | q
    · exact .inl q
    · exact .inr ⟨q, PySem.W.cellsFrom_some _ _ _ (.inl q)⟩
  subst he
  refine ⟨lim.keeps x1.toInCall.keep, codeAny_func ?_⟩
  obtain ⟨t, ht, hq⟩ := body cdv A outer s H vs Q E (by first | exact gd | (simpa [Around.deeper] using gd)) (hr.deeper _) hsp
  have I := inv_start (CX := CX0) (K := K) (mg := mg) (E := E) S hr.hd e0 (len _ _ _ _ hsp) r x1
  refine wpAny_mono (ht.run [] s1 (start N vs) H _ I hq) (fun fl s' hs => ?_) fun e s' hs => hs
  cases fl with
  | ret u =>
    obtain ⟨v, σ', H', J, rv, q⟩ := hs
    exact ⟨v, H', J.os, J.bare, J.base, J.hok, rv, q⟩
  | next =>
    obtain ⟨σ', H', J, q⟩ := hs
    exact ⟨V.non, H', J.os, J.bare, J.base, J.hok, rfl, q⟩
  | brk =>
    obtain ⟨_, _, _, q⟩ := hs
    exact q.elim
  | cont =>
    obtain ⟨_, _, _, q⟩ := hs
    exact q.elim
/-- such a def, by its name -/
structure CalG (P : Program) (w : World) (K : PySem.W.Frag) (mg : Str → Option Value) (base : Heap) (k : Nat) (x : Str) (sp : Sp) : Prop where
  ex : ∃ (f : Addr) (fd : FuncData) (ps : List Str), FnG P w K mg base k f fd ps sp ∧ mg x = some (.ref f) ∧ PySem.W.keepIn K (.ref f) = true ∧ Binds K fd ps []
end
section
variable {X : Cx} {k j : Nat} {x : Str} {sp : Sp} {p pos : Pos} {e : Expr} {es : List Expr} {t : TA}
theorem pe_g (c : CalG X.prog X.w X.K X.mg X.base k x sp) (gd : X.A.guards = some []) (hr : Room j X.A) (hk : k ≤ j) (hg : Gl X x) (ha : PA X (e :: es) t)
    (hdb : (x == ("__debug__" : Str)) = false := by decide) (he : starEach (e :: es) X.env = (false, eval e X.env) :: starEach es X.env := by rfl) (hpl : (backTo pos (starEach es X.env)).any (·.1) = false := by rfl) :
    PE X (.Call (.Name x p) (e :: es) [] pos) (tCall sp [] E0 t) := by
  obtain ⟨f, fd, ps, F, hm, kp, b⟩ := c.ex
  refine ⟨fun pins s σ H Q I h => ?_⟩
  refine wpAny_Call_Name_kw (ld_glob I hg hm ?_ hdb)
  refine PySem.W.callWith_K (h₀ := X.base) I.ok.mod.kin kp (thn (ha.run pos pins s σ H _ I h) fun us s1 ⟨vs, H1, I1, r, q⟩ => ⟨I1.kIn, ?_⟩) he hpl
  have q' : sp vs H1 Q E0 := by
    have : sp (vs ++ []) H1 Q E0 := q
    rwa [List.append_nil] at this
  have hl : (us ++ []).length = ps.length := by rw [List.append_nil, ← r.length]; exact F.len _ _ _ _ q'
  have hb := b s1 us I1.kIn hl
  rw [List.append_nil] at hb
  refine wpAny_call (codeAny_mono (F.run X.A X.stack s1 H1 ⟨us, []⟩ us vs Q E0 gd (hr.mono hk) I1.env0 hb r q') fun r s' hq => ?_)
  cases r with
  | error e => exact hq.elim
  | ok fl =>
    cases fl with
    | ret u => exact I1.after hq
    | next => exact hq.elim
    | brk => exact hq.elim
    | cont => exact hq.elim
end
/-! ### the end: the law's own call -/
/-- the abstract heap at the law's entry: the script alone, where it is no object of the module's -/
def scriptHp (K : PySem.W.Frag) (a : Addr) (o : Obj) (xs : List V) : Hp := fun b => if b = a ∧ K.lookup a = none then some (.frz o (.lst xs)) else none
theorem scriptHp_at {K : PySem.W.Frag} {a b : Addr} {o : Obj} {xs : List V} {u : HO} (h : scriptHp K a o xs b = some u) : b = a ∧ K.lookup a = none ∧ u = .frz o (.lst xs) := by
  unfold scriptHp at h
  split at h
  · rename_i q
    exact ⟨q.1, q.2, (Option.some.inj h).symm⟩
  · cases h
theorem law_run {P : Program} {w : World} {K : PySem.W.Frag} {mg mb : Str → Option Value} {k : Nat} {fa a : Addr} {fd : FuncData} {x : Str} {sp : Sp} {s1 : Shared} {vs : List Value} {ns : List Int}
    (KX : K.In s1.heap) (hns : s1.heap.Ns mainGlobals mg) (hb : s1.heap.Ns builtinsNs mb) (hbb : ∀ x : Str, x ≠ "__name__" → mb x = bootBuiltins x) (hlim : s1.heap.NoLimit) (hg : s1.gens = #[])
    (ha : s1.heap.get? a = some { cls := .type "list", data := .seq vs.toArray }) (hi : IntsAre vs ns) (hl : ns.length ≤ sizeLine) (hr : Room k callerA)
    (F : ∀ base : Heap, K.In base → base.Ns mainGlobals mg → FnG P w K mg base k fa fd [x] sp) (hbind : ∀ (s : Shared) (u : Value), BindsTo s fd ⟨[u], []⟩ [(x, u)])
    (hsp : ∀ H : Hp, SqL K H a (ns.map V.int) → (∀ b u, H b = some u → ∃ o ys, u = .frz o (.lst ys)) → sp [.ref a] H (fun v _ => v = .bl true) fun _ _ _ => False) :
    codeAny (model P w) callerA (.call (.ref fa) ⟨[.ref a], []⟩) (fun r s' => r = .ok (.ret (.bool true)) ∧ OldK s1.heap s'.heap ∧ s'.os = s1.os ∧ AllBare s'.gens) s1 := by
  have rv : Vals (ns.map V.int) vs := vals_ints hi
  generalize hH : scriptHp K a { cls := .type "list", data := .seq vs.toArray } (ns.map V.int) = H
  have at1 : ∀ {b u}, H b = some u → b = a ∧ K.lookup a = none ∧ u = .frz { cls := .type "list", data := .seq vs.toArray } (.lst (ns.map V.int)) := fun {b u} e => scriptHp_at (by rw [hH]; exact e)
  have free : ∀ {b}, (b = a → K.lookup a ≠ none) → H b = none := fun {b} n => by
    cases q : H b with
    | none => rfl
    | some u =>
      obtain ⟨e1, e2, _⟩ := at1 q
      exact absurd e2 (n e1)
  have free2 : ∀ {b} {o : Obj} {es : Array DictEntry} {ep : Nat}, s1.heap.get? b = some o → o.data = .dict es ep → H b = none := fun {b o es ep} e d => free fun z => by
    rw [z, ha] at e
    cases e
    cases d
  have hok : HOk P w H s1.heap := fun b u e => by
    obtain ⟨rfl, _, rfl⟩ := at1 e
    exact ⟨ha, by rw [List.length_map]; exact hl, vs, _, rv, ha⟩
  have sq : SqL K H a (ns.map V.int) := by
    cases q : K.lookup a with
    | none =>
      refine .inl (.inr ⟨{ cls := .type "list", data := .seq vs.toArray }, ?_⟩)
      rw [← hH]
      exact if_pos ⟨rfl, q⟩
    | some o =>
      have e := KX a o q
      rw [ha] at e
      cases e
      refine .inr ⟨_, vs.toArray, _, q, rfl, rfl, rfl, ?_, by simpa using rv⟩
      rw [List.size_toArray, hi.length]; exact hl
  have toB : ∀ {b : Addr} {o : Obj}, s1.heap.get? b = some o → H b = none → (hidT s1.heap H).get? b = some o := fun e n => hidT_get e n
  have kB : K.In (hidT s1.heap H) := fun b o e => toB (KX b o e) (free fun z => by rw [← z, e]; exact fun q => nomatch q)
  have nsB : ∀ {b : Addr} {m : Str → Option Value}, s1.heap.Ns b m → (hidT s1.heap H).Ns b m := fun {b m} q => by
    obtain ⟨o, es, ep, e, d, r⟩ := q
    exact ⟨o, es, ep, toB e (free2 e d), d, r⟩
  have md : Mod K mg (hidT s1.heap H) := by
    obtain ⟨mc, h1, h2⟩ := hlim
    exact ⟨kB, nsB hns, ⟨mb, nsB hb, hbb⟩, ⟨mc, nsB h1, h2⟩⟩
  have e0 : Env0 P w K mg (hidT s1.heap H) callerA [] s1 H :=
    { frames := rfl, mod := md, bs := fun b o e => of_hidT e, bsz := Nat.le_of_eq (hidT_size _ _), funs := trivial, frf := fun b z => (nomatch (show b ∈ ([] : List Addr) from z)), hok := hok, bare := .of_eq hg }
  have run := (F _ kB (nsB hns)).run callerA [] s1 H ⟨[.ref a], []⟩ [.ref a] [.ref a] _ _ rfl hr e0 (hbind s1 (.ref a)) (.cons rfl .nil) (hsp H sq fun b u e => ⟨_, _, (at1 e).2.2⟩)
  refine codeAny_mono run fun r s' h => ?_
  cases r with
  | error e => exact h.elim
  | ok fl =>
    cases fl with
    | next => exact h.elim
    | brk => exact h.elim
    | cont => exact h.elim
    | ret u =>
      obtain ⟨v, H', os, bare, un, hok', r', rfl⟩ := h
      obtain rfl : u = Value.bool true := r'
      refine ⟨rfl, OldK.of_keep fun b o e => ?_, os, bare⟩
      cases q : H b with
      | none => exact un.keep b o e q (fun z => (nomatch (show b ∈ ([] : List Addr) from z))) (by simp)
      | some z =>
        obtain ⟨e1, _, rfl⟩ := at1 q
        obtain ⟨e2, _⟩ := hok' b _ (un.frzs b _ _ q)
        obtain ⟨e3, _⟩ := hok b _ q
        rw [e] at e3
        cases e3
        exact e2
theorem walkG {l : PySem.W.OpenLaw} {n k : Nat} {q : Program} {loose : List Str} {XP : (Str → Option Value) → Heap → Prop} {YP : World → Heap → Prop} {d : DefRec} {K : Params → PySem.W.Frag} {x : Str}
    {sp : World → Sp} (hn : l.most = some n) (hn2 : n ≤ sizeLine) (hdf : d.params.defaults = []) (hr : Room k callerA)
    (hY : ∀ (w : World) (h : Heap), YP w h → (K w.params).In h)
    (F : ∀ (w : World) (mg : Str → Option Value) (fa : Addr) (h : Heap), (K w.params).In h → h.Ns mainGlobals mg → mg d.name = some (.ref fa) →
      ∃ fd : FuncData, (∀ (s : Shared) (u : Value), BindsTo s fd ⟨[u], []⟩ [(x, u)]) ∧
        ∀ base : Heap, (K w.params).In base → base.Ns mainGlobals mg → FnG l.prog w (K w.params) mg base k fa fd [x] (sp w))
    (hsp : ∀ (w : World) (H : Hp) (a : Addr) (ns : List Int), ns.length ≤ n → SqL (K w.params) H a (ns.map V.int) → (∀ b u, H b = some u → ∃ o ys, u = .frz o (.lst ys)) → sp w [.ref a] H (fun v _ => v = .bl true) fun _ _ _ => False) :
    PySem.W.WalkO q loose XP YP l.row.toRowW d [] (fun f vs => PySem.call f vs) := by
  refine Att.attach_call hn hdf fun w s0 s1 mg mb fa o pm cd doc a vs ns G Y ho hd hcd hmg hobj hints hlen hg => ?_
  have KX := hY w _ Y
  obtain ⟨fd, hb, hF⟩ := F w mg fa _ KX G.T.g hmg
  exact law_run KX G.T.g G.T.b G.T.builtins G.T.nolimit hg hobj hints (Nat.le_trans hlen hn2) hr hF hb fun H hS hO => hsp w H a ns hlen hS hO
end K56R

/-! further rules: keywords alone; set of a list of ints; sorted of tuples of ints -/
namespace L2
open PySem PySem.Spec PyProof.Rows
section
variable {P : Program} {w : World} {A : Around} {E : Value → Shared → Prop} {s : Shared}
set_option maxHeartbeats 3200000 in
theorem set_of_list {l : Addr} {items : Array Value} (ns : List Int) {Q : Value → Shared → Prop} (hh : A.handled = none) (hl : s.heap.IsList l items) (hit : IntsAre items.toList ns) (hb : ns.length + 1 < scanBound)
    (h : ∀ (h' : Heap) (tk c : Nat), SetR w h' s.heap.objs.size (fun j => decide (j ∈ ns)) c → c ≤ ns.length → (∀ b o, s.heap.get? b = some o → h'.get? b = some o) → Q (.ref s.heap.objs.size) { s with heap := h', toks := tk }) :
    wpAny (model P w) A (call (.type "set") [.ref l]) Q E s := by
  have hisz : items.size = ns.length := by rw [← hit.length, Array.length_toList]
  obtain ⟨c, tl, hmro⟩ := F.called_set.mro
  have hmade := F.called_set.made
  have hsub := F.called_set.sub
  refine wpAny_call (codeAny_of_tree ?_)
  show wpAny _ _ (callAny (.type "set") _) _ _ _
  refine wpAny_pure ⟨Code.quiet_builtin _ (by decide +kernel), codeAny_builtin F.entry_type_call ?_⟩
  rw [Around.under_plain (weight_type_call_type "set" [.ref l] []) rfl]
  have h1 := F.called_set.notType
  have h2 := F.called_set.canCreate
  have hct := F.typeCall_set_1 (.ref l)
  repeat (any_goals (first | assumption | wp_step))
  generalize hS0 : ({ cls := .type "set", dict := none, data := .set #[] 0 (.fresh 0 0 (!w.params.followText "set-order")) } : Obj) = S0
  refine codeAny_mono (code_set_led1 (.ref l) (E := E) (Q₁ := fun obj s₁ => obj = .ref s.heap.objs.size ∧ s₁ = { s with heap := s.heap.push S0 }) (by rw [← hS0]; exact ⟨rfl, rfl⟩)) fun r s₁ hr => ?_
  cases r with
  | error e => exact hr
  | ok fl =>
    cases fl with
    | next => exact hr.elim
    | brk => exact hr.elim
    | cont => exact hr.elim
    | ret obj =>
      obtain ⟨rfl, rfl⟩ := hr
      have hS : (s.heap.push S0).get? s.heap.objs.size = some S0 := by rw [← hS0]; exact Heap.get?_push_size _ rfl
      have hT : Shared.TypeIs { s with heap := s.heap.push S0 } (.ref s.heap.objs.size) "set" := ⟨_, hS, by rw [← hS0]⟩
      have hli := F.called_set.init.lookup
      have hbi := F.called_set.init.bind (.ref s.heap.objs.size)
      repeat (any_goals (first | assumption | wp_step))
      refine codeAny_mono (codeAny_call_builtin (R := wants (fun r s₂ => r = .none ∧ ∃ h' tk c, s₂ = { s with heap := h', toks := tk } ∧ SetR w h' s.heap.objs.size (fun j => decide (j ∈ ns)) c ∧ c ≤ ns.length ∧
          (∀ b o, s.heap.get? b = some o → h'.get? b = some o)) E) F.called_set.init.plain F.entry_set_init (check_set_init_1 hT ?_)) fun r₂ s₂ hr₂ => ?_
      · obtain ⟨⟨ocls, odict, odata, oslots⟩, hol, hcl, nl, hdl⟩ := hl
        simp only at hcl hdl
        subst hcl; subst hdl
        have hol' : (s.heap.push S0).get? l = some { cls := .type "list", dict := odict, data := .seq items nl, slots := oslots } := Heap.get?_push_of_some _ hol
        have hsls := F.sub_list_set
        have hslf := F.sub_list_frozenset
        have hne : (Value.type "list" == Value.type "dict") = false := by decide
        have hl1 : (s.heap.push S0).IsList l items := ⟨_, hol', rfl, nl, rfl⟩
        unfold Builtin.«set.__init__» noKeywords Builtin.Frozenset.updateFrom
        generalize hPI : pyIter = PI
        subst hS0
        wp_walk
        subst hPI
        refine wpAny_pyIter_list hl1 ?_
        refine wpAny_bind (wpAny_runValue ?_)
        have hlS : l < s.heap.objs.size := Heap.lt_size hol
        have hh3 : A.in1.in1.in1.handled = none := by simp [hh]
        have hz1 : (s.heap.push { cls := .type "set", dict := none, data := .set #[] 0 (.fresh 0 0 (!w.params.followText "set-order")) }).objs.size = s.heap.objs.size + 1 := Heap.size_push ..
        have hneI : l ≠ (s.heap.push { cls := .type "set", dict := none, data := .set #[] 0 (.fresh 0 0 (!w.params.followText "set-order")) }).objs.size := by
          rw [hz1]; exact Nat.ne_of_lt (Nat.lt_succ_of_lt hlS)
        have hSf : s.heap.objs.size ∉ [(s.heap.push { cls := .type "set", dict := none, data := .set #[] 0 (.fresh 0 0 (!w.params.followText "set-order")) }).objs.size, l] := by
          rw [hz1]
          intro m
          rcases (show s.heap.objs.size = s.heap.objs.size + 1 ∨ s.heap.objs.size = l by simpa using m) with z | z
          · exact absurd z (Nat.ne_of_lt (Nat.lt_succ_self _))
          · exact absurd z (Nat.ne_of_gt hlS)
        have hval : ∀ (i : Nat) (v : Value), items[i]? = some v → ∃ k t, ns[i]? = some k ∧ v = .int k t := fun i v hv => by
          have hi : i < ns.length := by rw [← hisz]; exact (Array.getElem?_eq_some_iff.mp hv).1
          obtain ⟨t, e⟩ := PyProof.Rows.IntsAre.int_at hit i v (by rw [Array.getElem?_toList]; exact hv)
          refine ⟨ns[i], t, List.getElem?_eq_getElem hi, ?_⟩
          rw [e, List.getD_eq_getElem?_getD, List.getElem?_eq_getElem hi] <;> rfl
        refine set_update_ints ((Walks.list hh3 _ l hneI items).toS) s.heap.objs.size hSf ns hisz hb hval (items.size - 0) 0 _ (by omega) (Nat.zero_le _) ⟨⟨_, Heap.get?_push_size _ rfl, rfl, rfl⟩, (hl1.push _)⟩ ?c0 ?cR
        case c0 =>
          exact ⟨0, Nat.le_refl 0, setR_new_at (Heap.get?_push_of_some _ hS)⟩
        case cR =>
          intro s' c' hm hc' hS'
          obtain ⟨h', g2, d', tk', os'⟩ := s'
          obtain rfl : g2 = s.gens := hm.gens
          obtain rfl : d' = s.drawn := hm.drawn
          obtain rfl : os' = s.os := hm.os
          show wpAny _ _ _ _ _ _
          refine wpAny_pure ?_
          show wpAny _ _ (ret Value.none) _ _ _
          rw [hisz] at hc'
          refine wpAny_pure ⟨rfl, h', tk', c', rfl, hS', hc', fun b o e => ?_⟩
          have lb : b < s.heap.objs.size := Heap.lt_size e
          refine hm.heap b o (fun m => ?_) (Heap.get?_push_of_some _ (Heap.get?_push_of_some _ e))
          rw [hz1] at m
          rcases (show b = s.heap.objs.size ∨ b = s.heap.objs.size + 1 by simpa using m) with z | z
          · exact absurd z (Nat.ne_of_lt lb)
          · exact absurd z (Nat.ne_of_lt (Nat.lt_succ_of_lt lb))
      · cases r₂ with
        | error e => exact hr₂
        | ok fl₂ =>
          cases fl₂ with
          | ret r =>
            obtain ⟨rfl, h', tk, c', rfl, hS', hc', hk'⟩ := hr₂
            repeat (any_goals (first | assumption | wp_step))
            exact h _ _ _ hS' hc' hk'
          | next => exact hr₂.elim
          | brk => exact hr₂.elim
          | cont => exact hr₂.elim
end
end L2

/-! further rules: set of a list, keywords alone -/

namespace L2
open PySem PySem.Spec PyProof.Rows
/-- set(xs), xs a list of ints: its members, and how many they are -/
def rSetOfL (K : PySem.W.Frag) (w : World) : List V → Hp → VK → Prop := fun vs H Q => ∃ (a : Addr) (ns : List Int), vs = [V.ref a] ∧ SqL K H a (ns.map V.int) ∧ ns.length + 1 < scanBound ∧
  ∀ (p : Addr) (L : List Int), H p = none → L.Nodup → (∀ k, k ∈ L ↔ k ∈ ns) → Q (.ref p) (upd H p (SetO w p (fun j => decide (j ∈ ns)) L.length))
theorem cr_setL {X : Cx} (hc : X.calm = true) : CallR X (.type "set") (rSetOfL X.K X.w) := by
  intro pins s σ H vs us Q I r h
  obtain ⟨a, ns, rfl, hs, hb, q⟩ := h
  obtain ⟨u, rfl, ru⟩ := vals1 r
  obtain rfl : u = Value.ref a := ru
  obtain ⟨its, rv, pl, hz⟩ := I.list hs
  refine set_of_list ns (I.ok.hd hc) pl.isList (by rw [List.toList_toArray]; exact ints_of_vals rv) hb fun h' tk c R hcn keep => ?_
  obtain ⟨o, es, ep, t, ho, e1, e2, e3, e4, e5, e6, e7, e8, e9⟩ := id R
  have len : (es.toList.map keyOf).length = c := by rw [List.length_map, Array.length_toList, e8]
  have q2 := q s.heap.objs.size (es.toList.map keyOf) (I.hok.fresh (Nat.le_refl _)) e4 fun k => by
    rw [← e5 k]
    exact ⟨of_decide_eq_true, decide_eq_true⟩
  rw [len] at q2
  exact ⟨.ref s.heap.objs.size, _, I.laid (t' := tk) keep (Nat.le_refl _) (setO_new R), rfl, q2⟩
section
variable {X : Cx} {CX : CXT} {k : Nat} {f : Addr} {fd : FuncData} {ps ks : List Str} {sp : Sp} {E : XK} {x : Str} {p pos : Pos} {kws : List Keyword} {tk : TA} {g : List Value → List Value → List Value} {gV : List V → List V → List V}
/-- f(k = v, ..) -/
theorem pe_kw0 (F : FnOk X.prog X.w X.K X.mg X.base CX k f fd ps sp) (hr : Room k X.A) (hg : Gl X x) (hm : X.mg x = some (.ref f)) (hk : PySem.W.keepIn X.K (.ref f) = true) (hb : KBinds X.K fd ps ks g gV) (hx : Passes CX X E)
    (hkw : PK X kws tk) (hall : (backToKw pos (keywordEach kws X.env)).all (·.1.isSome) = true := by rfl) (hks : (backToKw pos (keywordEach kws X.env)).filterMap (·.1) = ks := by rfl)
    (hdb : (x == ("__debug__" : Str)) = false := by decide)
    (hpl : ((backTo pos (starEach [] X.env)).any (·.1) || (backToKw pos (keywordEach kws X.env)).any (·.1.isNone)) = false := by rfl) : PE X (.Call (.Name x p) [] kws pos) (tCallK sp gV E tNil tk) := by
  refine ⟨fun pins s σ H Q I h => ?_⟩
  refine wpAny_Call_Name_kw (ld_glob I hg hm ?_ hdb)
  refine PySem.W.callWith_KW0 (h₀ := X.base) I.ok.mod.kin hk hall (thn (hkw.run pos pins s σ H _ I h) fun ws s1 ⟨zs, H1, I1, rz, q⟩ => ⟨I1.kIn, ?_⟩) hpl
  rw [hks]
  exact run_fnk F hr hb hx I1 .nil rz q
end
end L2

/-! further rules: sorted of tuples of ints, of any lengths, out of a list or a tuple -/
namespace SrtT
open PySem PyProof.Rows Srt SrtO
def lexL : List Int → List Int → Bool
  | [], [] => false
  | [], _ :: _ => true
  | _ :: _, [] => false
  | x :: xs, y :: ys => if x = y then lexL xs ys else decide (x < y)
theorem lexL_refl : ∀ xs, lexL xs xs = false
  | [] => rfl
  | x :: xs => by unfold lexL; rw [if_pos rfl]; exact lexL_refl xs
theorem lexL_asym : ∀ xs ys, lexL xs ys = true → lexL ys xs = false
  | [], [], h => by cases h
  | [], _ :: _, _ => rfl
  | _ :: _, [], h => by cases h
  | x :: xs, y :: ys, h => by
    unfold lexL at h ⊢
    by_cases e : x = y
    · rw [if_pos e] at h
      rw [if_pos e.symm]
      exact lexL_asym xs ys h
    · rw [if_neg e] at h
      rw [if_neg (Ne.symm e)]
      have := of_decide_eq_true h
      exact decide_eq_false (by omega)
theorem lexL_tot : ∀ xs ys, lexL xs ys = false → lexL ys xs = false → xs = ys
  | [], [], _, _ => rfl
  | [], _ :: _, h, _ => by cases h
  | _ :: _, [], _, h => by cases h
  | x :: xs, y :: ys, h, h' => by
    unfold lexL at h h'
    by_cases e : x = y
    · rw [if_pos e] at h
      rw [if_pos e.symm] at h'
      rw [e, lexL_tot xs ys h h']
    · rw [if_neg e] at h
      rw [if_neg (Ne.symm e)] at h'
      have a := of_decide_eq_false h
      have b := of_decide_eq_false h'
      omega
theorem lexL_tr : ∀ xs ys zs, lexL ys xs = false → lexL zs ys = false → lexL zs xs = false
  | [], _, [], _, _ => rfl
  | [], _, _ :: _, _, _ => rfl
  | _ :: _, [], _, h, _ => by cases h
  | _ :: _, _ :: _, [], _, h => by cases h
  | x :: xs, y :: ys, z :: zs, h, h' => by
    unfold lexL at h h' ⊢
    by_cases e : y = x
    · rw [if_pos e] at h
      by_cases e' : z = y
      · rw [if_pos e'] at h'
        rw [if_pos (e'.trans e)]
        exact lexL_tr xs ys zs h h'
      · rw [if_neg e'] at h'
        rw [if_neg (by omega)]
        have := of_decide_eq_false h'
        exact decide_eq_false (by omega)
    · rw [if_neg e] at h
      have a := of_decide_eq_false h
      by_cases e' : z = y
      · rw [if_neg (by omega)]
        exact decide_eq_false (by omega)
      · rw [if_neg e'] at h'
        have b := of_decide_eq_false h'
        rw [if_neg (by omega)]
        exact decide_eq_false (by omega)
theorem swo_lexL (k : Value → List Int) : Swo fun v u => lexL (k v) (k u) := ⟨fun x y h => lexL_asym _ _ h, fun x y z h h' => lexL_tr _ _ _ h h'⟩
def IsTI (h : Heap) (v : Value) (ns : List Int) : Prop := ∃ a o its n, v = .ref a ∧ h.get? a = some o ∧ o.cls = .type "tuple" ∧ o.data = .seq its n ∧ IntsAre its.toList ns
theorem IsTI.keeps {h h' : Heap} {v : Value} {ns : List Int} (p : IsTI h v ns) (k : ∀ b o, h.get? b = some o → o.cls = .type "tuple" → h'.get? b = some o) : IsTI h' v ns := by
  obtain ⟨a, o, its, n, e, ho, hc, r⟩ := p
  exact ⟨a, o, its, n, e, k _ _ ho hc, hc, r⟩
section
variable {prog : Program} {w : World} {A : Around} {E : Value → Shared → Prop} {s : Shared}
theorem oneLt_any (c : Bool) {p q : Int} {t u : Tok} {Q : Bool → Shared → Prop} (h : Q (decide (p < q)) s) : wpAny (model prog w) A (oneLt' c (.int p t) (.int q u)) Q E s := by
  cases c
  · exact PySem.W.kat_one _ _ (PyProof.Rows.lt_int (Q := PySem.W.BoolBack Q) h)
  · exact oneLt_int h
theorem kat_ints : ∀ {xs ys : List Value} {ns ms : List Int} (i : Nat), IntsAre xs ns → IntsAre ys ms →
    PySem.W.KatLex prog w A true (decide (xs.length < ys.length)) (fun r s' => s' = s ∧ r = lexL ns ms) (xs.zip ys) i s
  | _, _, _, _, i, .nil, .nil => PySem.W.kat_nil ⟨rfl, rfl⟩
  | _, _, _, _, i, .nil, .cons n t r => PySem.W.kat_nil ⟨rfl, by simp [lexL]⟩
  | _, _, _, _, i, .cons n t r, .nil => PySem.W.kat_nil ⟨rfl, by simp [lexL]⟩
  | _ :: xs, _ :: ys, _, _, i, .cons n t r, .cons m u q => by
    refine PySem.W.kat_cons (SeqAt.EqAt.int_int n t m u prog w _ _ ?_)
    refine PySem.W.kat_go (fun e1 => ?_) (fun e1 => ?_)
    · have ex : n = m := by simpa using e1
      refine PySem.W.kat_yes ?_
      have ih := kat_ints (i + 1) r q
      have el : decide ((Value.int n t :: xs).length < (Value.int m u :: ys).length) = decide (xs.length < ys.length) := by simp
      rw [el]
      unfold lexL
      rw [if_pos ex]
      exact ih
    · have ex : ¬ n = m := by simpa using e1
      refine PySem.W.kat_no (oneLt_any _ ⟨rfl, ?_⟩)
      show _ = lexL (n :: _) (m :: _)
      unfold lexL
      rw [if_neg ex]
theorem firstsT {h : Heap} : ∀ {vs : List Value} (k : Value → List Int), (∀ v ∈ vs, IsTI h v (k v) ∧ k v ≠ []) → ∃ fs : List Value, PySem.W.KatTups h vs fs ∧ fs.length = vs.length ∧ ∀ f ∈ fs, ∃ x t, f = Value.int x t
  | [], _, _ => ⟨[], PySem.W.KatTups.nil, rfl, fun _ hm => by cases hm⟩
  | v :: vs, k, hp => by
    obtain ⟨fs, h1, h2, h3⟩ := firstsT (vs := vs) k fun u hu => hp u (List.mem_cons_of_mem _ hu)
    obtain ⟨⟨a, o, its, n, e, ho, hc, hd, hi⟩, hne⟩ := hp v List.mem_cons_self
    subst e
    generalize hk : k (Value.ref a) = ns at hi hne
    obtain ⟨its⟩ := its
    have hi' : IntsAre its ns := hi
    cases hi' with
    | nil => exact absurd rfl hne
    | cons x t r =>
      refine ⟨.int x t :: fs, PySem.W.KatTups.cons ho hc hd rfl h1, by rw [List.length_cons, List.length_cons, h2], fun f hm => ?_⟩
      rcases List.mem_cons.mp hm with rfl | hm
      · exact ⟨x, t, rfl⟩
      · exact h3 f hm
theorem tups_cmp {vs : List Value} {k : Value → List Int} (hp : ∀ v ∈ vs, IsTI s.heap v (k v)) : SrtO.Cmp prog w A s (tuples' true) (fun p => p.1 ∈ vs) (lt2 fun v u => lexL (k v) (k u)) := by
  intro p q hm hm'
  obtain ⟨a, o, its, n, e, ho, hc, hd, hi⟩ := hp _ hm
  obtain ⟨a', o', its', n', e', ho', hc', hd', hi'⟩ := hp _ hm'
  show wpAny (model prog w) A (keyLt' (tuples' true) p.1 q.1) (fun r s' => s' = s ∧ r = lexL (k p.1) (k q.1)) (fun _ _ => False) s
  generalize k p.1 = x at hi ⊢
  generalize k q.1 = y at hi' ⊢
  rw [e, e']
  refine PySem.W.kat_lt ho hd ho' hd' ?_
  have q1 := kat_ints (prog := prog) (w := w) (A := A) (s := s) 0 hi hi'
  rwa [Array.length_toList, Array.length_toList] at q1
theorem tups_sortable {a : Addr} {vs : List Value} {k : Value → List Int} (h0 : 0 < vs.length) (hp : ∀ v ∈ vs, IsTI s.heap v (k v) ∧ k v ≠ []) (ha : ∀ o, s.heap.get? a = some o → o.cls ≠ .type "tuple") : SortableO prog w A s a vs fun v u => lexL (k v) (k u) := by
  intro h' keep
  have hp' : ∀ v ∈ vs, IsTI h' v (k v) ∧ k v ≠ [] := fun v hm => ⟨(hp v hm).1.keeps fun b o e c => keep b o (fun z => by subst z; exact ha o e c) e, (hp v hm).2⟩
  obtain ⟨fs, h1, h2, h3⟩ := firstsT k hp'
  refine ⟨tuples' true, fun Q E hq => ?_, tups_cmp fun v hv => (hp' v hv).1⟩
  refine PySem.W.kat_kind (T := .type "int") h1 (by omega) (fun f hm => ?_) (by rfl) ?_
  · obtain ⟨x, t, rfl⟩ := h3 f hm
    exact PySem.W.Looks.now
  · rw [show (Value.type "int" != Value.type "tuple") = true by first | rfl | decide]
    exact hq
/-- collect of a list or of a tuple -/
theorem collectT {l : Addr} {vs : List Value} {Q : List Value → Shared → Prop} {o : Obj} {n : Nat} (ho : s.heap.get? l = some o) (hc : o.cls = .type "list" ∨ o.cls = .type "tuple") (hd : o.data = .seq vs.toArray n)
    (h : Q vs { s with heap := (s.heap.push (seqObj "list" #[] 0)).update s.heap.objs.size (Obj.mapSeq (· ++ vs.toArray)) }) (hsz : vs.length ≤ sizeLine) : wpAny (model prog w) A (collect (.ref l)) Q E s := by
  unfold collect
  refine wpAny_bind (wpAny_runValue (codeAny_builtin entry_proto_collect' ?_))
  show wpAny _ _ (do again (.builtin "list.__iadd__" ⟨[← newList [], .ref l], []⟩)) _ _ s
  refine wpAny_bind (wpAny_newList (wpAny_pure ⟨Code.quiet_builtin _ (by decide +kernel), codeAny_builtin entry_list_iadd' ?_⟩))
  show wpAny _ _ (Builtin.List.listExtendWith (.ref s.heap.objs.size) (.ref l) (.ref s.heap.objs.size)) _ _ { s with heap := s.heap.push (seqObj "list" #[] 0) }
  unfold Builtin.List.listExtendWith
  have ho' : (s.heap.push (seqObj "list" #[] 0)).get? l = some o := Heap.get?_push_of_some _ ho
  have tst : ∀ {T : String}, (T = "list" ∨ T = "tuple") → (Builtin.List.listSameRef (.ref s.heap.objs.size) (.ref l) || Value.type T == .type "list" || Value.type T == .type "tuple") = true := fun {T} q => by
    rcases q with rfl | rfl
    · rw [show (Value.type "list" == Value.type "list") = true by rfl]; simp
    · rw [show (Value.type "tuple" == Value.type "tuple") = true by rfl]; simp
  obtain ⟨T, hT, hT2⟩ : ∃ T : String, o.cls = .type T ∧ (T = "list" ∨ T = "tuple") := by
    rcases hc with e | e
    · exact ⟨_, e, .inl rfl⟩
    · exact ⟨_, e, .inr rfl⟩
  refine wpAny_bind (wpAny_typeOf (T := T) ⟨o, ho', hT⟩ ?_)
  rw [if_pos (tst hT2)]
  refine wpAny_bind (listItems_at ho' hd ?_)
  refine wpAny_bind (listItems_at (xs := #[]) (n := 0) (Heap.get?_push_size _ rfl) rfl ?_)
  rw [if_neg (by simp)]
  refine wpAny_bind (listUpdate_at (xs := #[]) (n := 0) (Heap.get?_push_size _ rfl) rfl ?_ (Nat.zero_le _) (by
    show (#[] ++ vs.toArray).size ≤ sizeLine + 1
    simp only [Array.size_append, List.size_toArray, List.length_nil]
    omega))
  refine wpAny_pure ?_
  show wpAny (model prog w) A (do
      let o ← load s.heap.objs.size
      match o.data with
      | .seq xs _ => pure xs.toList
      | _ => unsupported "internal:collect") Q E { s with heap := (s.heap.push (seqObj "list" #[] 0)).update s.heap.objs.size (Obj.mapSeq (· ++ vs.toArray)) }
  refine wpAny_bind (wpAny_load (get?_update_seq (Heap.get?_push_size _ rfl) _) ?_)
  show wpAny _ _ (pure ((#[] : Array Value) ++ vs.toArray).toList) Q E _
  rw [show ((#[] : Array Value) ++ vs.toArray).toList = vs by simp]
  exact wpAny_pure h
theorem sortedT {l : Addr} {vs : List Value} {ltv : Value → Value → Bool} {Q : Value → Shared → Prop} {o : Obj} {n : Nat} (O : Swo ltv) (ho : s.heap.get? l = some o) (hc : o.cls = .type "list" ∨ o.cls = .type "tuple") (hd : o.data = .seq vs.toArray n) (hz : vs.length ≤ sizeLine)
    (hS : 2 ≤ vs.length → ∀ (h₁ : Heap) (a : Addr), h₁.get? a = some (seqObj "list" vs.toArray 0) → (∀ b o, s.heap.get? b = some o → b ≠ a ∧ h₁.get? b = some o) → SortableO prog w A.in1.in1 { s with heap := h₁ } a vs ltv)
    (h : ∀ out : List Value, Srtd ltv out → Stb ltv out vs → Q (.ref (s.heap.objs.size + 1)) { s with heap := sortedAll s.heap vs out.toArray }) :
    wpAny (model prog w) A (call (.builtin "sorted") [.ref l]) Q E s := by
  refine Calls.call_function_entry kind_sorted plain_sorted entry_sorted (args_sorted1 _) ?_
  unfold Builtin.«sorted»
  refine wpAny_bind (m := checkCount "sorted" 1 1 _) (wpAny_pure ?_)
  refine wpAny_bind (collectT ho hc hd ?_ hz)
  refine wpAny_bind (wpAny_newList ?_ hz)
  generalize hm : (s.heap.push (seqObj "list" #[] 0)).update s.heap.objs.size (Obj.mapSeq (· ++ vs.toArray)) = mid
  have z1 : mid.objs.size = s.heap.objs.size + 1 := by rw [← hm, Heap.size_update, size_push']
  have at1 : (mid.push (seqObj "list" vs.toArray 0)).get? (s.heap.objs.size + 1) = some (seqObj "list" vs.toArray 0) := by
    rw [← z1]; exact Heap.get?_push_size _ rfl
  have keep : ∀ b o, s.heap.get? b = some o → b ≠ s.heap.objs.size + 1 ∧ (mid.push (seqObj "list" vs.toArray 0)).get? b = some o := fun b o q => by
    have lt := Heap.lt_size q
    refine ⟨Nat.ne_of_lt (Nat.lt_succ_of_lt lt), Heap.get?_push_of_some _ ?_⟩
    rw [← hm, Heap.get?_update_ne _ _ _ _ (Nat.ne_of_lt lt)]
    exact Heap.get?_push_of_some _ q
  show wpAny _ _ _ _ _ { s with heap := mid.push (seqObj "list" vs.toArray 0) }
  rw [z1]
  refine wpAny_bind (wpAny_holding (wpAny_call_entry slot_list_sort ⟨_, at1, rfl⟩ entry_list_sort (list_sort_ord O at1 hz (fun h2 => hS h2 _ _ at1 keep) fun out hs hb => ⟨_, rfl, ?_⟩) (args_list_sort _)))
  have q := h out hs hb
  unfold sortedAll at q
  rw [hm] at q
  exact wpAny_pure ⟨_, rfl, q⟩
end
end SrtT
namespace L2
open PySem PySem.Spec PyProof.Rows
def rSortTs (K : PySem.W.Frag) : List V → Hp → VK → Prop := fun vs H Q => ∃ (a : Addr) (xs : List V) (k : V → List Int), vs = [V.ref a] ∧ (SqL K H a xs ∨ SqT K H a xs) ∧ (∀ x ∈ xs, ∃ t, x = V.ref t ∧ H t = some (.tup ((k x).map V.int)) ∧ k x ≠ []) ∧
  ∀ ys p, ys.Perm xs → ys.Pairwise (fun x y => SrtT.lexL (k y) (k x) = false) → H p = none → Q (.ref p) (upd H p (.lst ys))
theorem cr_sortTs {X : Cx} : CallR X (.builtin "sorted") (rSortTs X.K) := by
  intro pins s σ H vs us Q I r h
  obtain ⟨a, xs, k, rfl, hs, hx, q⟩ := h
  obtain ⟨u, rfl, ru⟩ := vals1 r
  obtain rfl : u = Value.ref a := ru
  have go : ∀ (its : List Value) (o : Obj) (n : Nat), Vals xs its → s.heap.get? a = some o → (o.cls = .type "list" ∨ o.cls = .type "tuple") → o.data = .seq its.toArray n → xs.length ≤ sizeLine →
      wpAny (model X.prog X.w) X.A (call (.builtin "sorted") [.ref a]) (EP X pins σ Q) X.xe s := by
    intro its o n rv ho hc hd hz
    obtain ⟨e1, e2⟩ := refs_back rv fun x m => by
      obtain ⟨t, e, _⟩ := hx x m
      exact ⟨t, e⟩
    have lz : its.length ≤ sizeLine := by rw [← rv.length]; exact hz
    have isT : ∀ v ∈ its, SrtT.IsTI s.heap v (k (backV v)) ∧ k (backV v) ≠ [] := fun v hv => by
      obtain ⟨t, rfl⟩ := e2 v hv
      have hm : V.ref t ∈ xs := by rw [e1]; exact List.mem_map.mpr ⟨_, hv, rfl⟩
      obtain ⟨t', e, ht, hne⟩ := hx _ hm
      cases e
      obtain ⟨_, its2, r2, o, ho, hc, n, hd⟩ := I.hok _ _ ht
      exact ⟨⟨t, o, its2.toArray, n, rfl, ho, hc, hd, (by show IntsAre its2.toArray.toList (k (V.ref t)); rw [List.toList_toArray]; exact ints_of_vals r2)⟩, hne⟩
    refine SrtT.sortedT (ltv := fun v u => SrtT.lexL (k (backV v)) (k (backV u))) (SrtT.swo_lexL fun v => k (backV v)) ho hc hd lz (fun h2 h1 b hb kk => ?_) fun out h1 h2 => ?_
    · refine SrtT.tups_sortable (s := { s with heap := h1 }) (k := fun v => k (backV v)) (by omega) (fun v hm => ⟨(isT v hm).1.keeps fun b o e _ => (kk b o e).2, (isT v hm).2⟩) fun o e => ?_
      have e' : some o = some (seqObj "list" its.toArray 0) := e.symm.trans hb
      cases e'
      intro c
      exact absurd (Value.type.inj c) (by decide)
    · have h3 : ∀ u ∈ out, ∃ a, u = Value.ref a := fun u hu => e2 u (h2.perm.mem_iff.mp hu)
      obtain ⟨n, hn⟩ := sortedAll_at s.heap its out.toArray
      have pm : (out.map backV).Perm xs := by rw [e1]; exact h2.perm.map backV
      have fr : H (s.heap.objs.size + 1) = none := I.hok.fresh (Nat.le_succ _)
      refine ⟨.ref (s.heap.objs.size + 1), upd H (s.heap.objs.size + 1) (.lst (out.map backV)), I.laid (t' := s.toks) (fun b o e => sortedAll_old e) (Nat.le_succ _) ⟨?_, out, n, vals_back h3, hn⟩, rfl, q _ _ pm (List.pairwise_map.mpr h1) fr⟩
      rw [pm.length_eq]; exact hz
  rcases hs with hs | hs
  · obtain ⟨its, rv, pl, hz⟩ := I.list hs
    obtain ⟨o, ho, hc, n, hd⟩ := pl.isList
    exact go its o n rv ho (.inl hc) hd hz
  · obtain ⟨its, rv, ⟨o, ho, hc, n, hd⟩, hz⟩ := I.tuple hs
    exact go its o n rv ho (.inr hc) hd hz
end L2

/-! further rules: list(zip(xs, ys)), two lists -/
namespace ZpL
open PySem PySem.Spec PyProof.Rows
theorem zip_no_len : typeLookup (.type "zip") "__len__" = pure none := by rw [typeLookup_type, builtinLookup_eq_fast]; kernel_rfl
theorem zip_no_hint : typeLookup (.type "zip") "__length_hint__" = pure none := by rw [typeLookup_type, builtinLookup_eq_fast]; kernel_rfl
theorem offN {a b S : Nat} (h : a < S) (hb : S ≤ b) : b ≠ a := by omega
section
variable {prog : Program} {w : World} {A : Around} {E : Value → Shared → Prop} {s : Shared}
/-- a zip over l1 and l2 that has given out i pairs -/
def ZS (z TI TO i1 i2 l1 l2 S : Addr) (xs ys : Array Value) (i : Nat) (h : Heap) : Prop :=
  IsPair h TI (.ref i1) (.ref i2) ∧ h.IsListIter i1 l1 i ∧ h.IsListIter i2 l2 i ∧ h.IsList l1 xs ∧ h.IsList l2 ys ∧
    ((IsZip h z TI TO .none ∧ ∃ a b, IsPair h TO a b) ∨ ∃ T f oT, IsZipHeld h z TI TO T f ∧ h.get? T = some oT ∧ T ≠ z ∧ T ≠ i1 ∧ T ≠ i2 ∧ T ≠ S)
theorem ZS.keep {z TI TO i1 i2 l1 l2 S : Addr} {xs ys : Array Value} {i : Nat} {h h' : Heap} (q : ZS z TI TO i1 i2 l1 l2 S xs ys i h) (n : ∀ b ∈ [z, TI, TO, i1, i2, l1, l2], b ≠ S) (k : ∀ b o, b ≠ S → h.get? b = some o → h'.get? b = some o) : ZS z TI TO i1 i2 l1 l2 S xs ys i h' := by
  obtain ⟨q1, q2, q3, q4, q5, q6⟩ := q
  refine ⟨k _ _ (n TI (by simp)) q1, q2.at fun o e => k _ o (n i1 (by simp)) e, q3.at fun o e => k _ o (n i2 (by simp)) e, q4.at fun o e => k _ o (n l1 (by simp)) e, q5.at fun o e => k _ o (n l2 (by simp)) e, ?_⟩
  rcases q6 with ⟨r, a, b, t⟩ | ⟨T, f, oT, r, t, n1, n2, n3, n4⟩
  · exact .inl ⟨k _ _ (n z (by simp)) r, a, b, k _ _ (n TO (by simp)) t⟩
  · exact .inr ⟨T, f, oT, k _ _ (n z (by simp)) r, k _ _ n4 t, n1, n2, n3, n4⟩
/-- the pairs that were made: at as, younger than S -/
structure Made (xs ys : Array Value) (S : Addr) (h : Heap) (as : List Addr) : Prop where
  rise : as.Pairwise (· < ·)
  above : ∀ a ∈ as, S < a
  low : ∀ a ∈ as, a < h.objs.size
  pair : ∀ (j : Nat) (a : Addr), as[j]? = some a → ∃ x y, xs[j]? = some x ∧ ys[j]? = some y ∧ IsPair h a x y
theorem zip_next {z TI TO i1 i2 l1 l2 S : Addr} {xs ys : Array Value} {i : Nat} {x y : Value} {Q : Option Value → Shared → Prop} (D : ZipApart z TI TO i1 i2 l1 l2) (st : ZS z TI TO i1 i2 l1 l2 S xs ys i s.heap) (hx : xs[i]? = some x) (hy : ys[i]? = some y) (hS : S < s.heap.objs.size)
    (hQ : ∀ h', ZS z TI TO i1 i2 l1 l2 S xs ys (i + 1) h' → IsPair h' s.heap.objs.size x y → h'.objs.size = s.heap.objs.size + 1 → (∀ c o, c ≠ z → c ≠ TO → c ≠ i1 → c ≠ i2 → s.heap.get? c = some o → h'.get? c = some o) → Q (some (.ref s.heap.objs.size)) { s with heap := h' }) :
    wpAny (model prog w) A (pyNext (.ref z)) Q E s := by
  obtain ⟨q1, q2, q3, q4, q5, q6⟩ := st
  have lt : ∀ {c o}, s.heap.get? c = some o → s.heap.objs.size ≠ c := fun e => Nat.ne_of_gt (Heap.lt_size e)
  have n1 : s.heap.objs.size ≠ i1 := by obtain ⟨_, e, _⟩ := q2; exact lt e
  have n2 : s.heap.objs.size ≠ i2 := by obtain ⟨_, e, _⟩ := q3; exact lt e
  rcases q6 with ⟨r, a, b, t⟩ | ⟨T, f, oT, r, t, m1, m2, m3, m4⟩
  · refine wpAny_pyNext_zip_item D r q1 t q2 q3 q4 q5 hx hy fun h' a1 a2 a3 a4 a5 a6 hk => ?_
    refine hQ h' ⟨hk _ _ D.TIz D.TITO D.TIi1 D.TIi2 q1, a3, a4, q4.at fun o e => hk _ o D.l1z D.l1TO D.l1i1 D.l1i2 e, q5.at fun o e => hk _ o D.l2z D.l2TO D.l2i1 D.l2i2 e, ?_⟩ a5 a6 hk
    exact .inr ⟨s.heap.objs.size, false, _, a1, a5, lt r, n1, n2, Nat.ne_of_gt hS⟩
  · refine wpAny_pyNext_zip_item_held D r t q1 q2 q3 q4 q5 hx hy fun h' a1 a3 a4 a5 a6 hk => ?_
    refine hQ h' ⟨hk _ _ D.TIz D.TIi1 D.TIi2 q1, a3, a4, q4.at fun o e => hk _ o D.l1z D.l1i1 D.l1i2 e, q5.at fun o e => hk _ o D.l2z D.l2i1 D.l2i2 e, ?_⟩ a5 a6 fun c o c1 _ c3 c4 e => hk c o c1 c3 c4 e
    exact .inr ⟨T, true, oT, a1, hk _ _ m1 m2 m3 t, m1, m2, m3, m4⟩
theorem zip_over {z TI TO i1 i2 l1 l2 S : Addr} {xs ys : Array Value} {i : Nat} {Q : Option Value → Shared → Prop} (hh : A.handled = none) (D : ZipApart z TI TO i1 i2 l1 l2) (st : ZS z TI TO i1 i2 l1 l2 S xs ys i s.heap) (hend : xs[i]? = none ∨ ys[i]? = none)
    (hQ : ∀ h', (∀ c o, c ≠ z → c ≠ TO → c ≠ i1 → c ≠ i2 → s.heap.get? c = some o → h'.get? c = some o) → Q none { s with heap := h' }) : wpAny (model prog w) A (pyNext (.ref z)) Q E s := by
  obtain ⟨q1, q2, q3, q4, q5, q6⟩ := st
  rcases q6 with ⟨r, a, b, t⟩ | ⟨T, f, oT, r, t, m1, m2, m3, m4⟩
  · exact wpAny_pyNext_zip_end hh D r q1 t q2 q3 q4 q5 hend hQ
  · exact wpAny_pyNext_zip_end_held hh D r t q1 q2 q3 q4 q5 hend fun h' hk => hQ h' fun c o c1 _ c3 c4 e => hk c o c1 c3 c4 e

theorem zl_loop {z TI TO i1 i2 l1 l2 S : Addr} {xs ys : Array Value} {R : Result → Shared → Prop} {n : Nat} (hh : A.handled = none) (D : ZipApart z TI TO i1 i2 l1 l2) (nS : ∀ b ∈ [z, TI, TO, i1, i2, l1, l2], b < S) (hn : n = min xs.size ys.size) (hz : n ≤ sizeLine) (res : Value) {h₁ : Heap}
    (hR : ∀ h' tk acc c as, (∀ b o, b ∉ [S, z, TO, i1, i2] → h₁.get? b = some o → h'.get? b = some o) → h'.get? S = some { cls := .type "list", dict := none, data := .seq acc c, slots := #[] } → as.length = n → Made xs ys S h' as →
      acc.toList = as.map Value.ref → R (.ok (.ret res)) { s with heap := h', toks := tk }) :
    ∀ (k i : Nat) (h : Heap) (tk c : Nat) (acc : Array Value) (as : List Addr), n - i = k → i ≤ n → ZS z TI TO i1 i2 l1 l2 S xs ys i h → (∀ b o, b ∉ [S, z, TO, i1, i2] → h₁.get? b = some o → h.get? b = some o) →
      h.get? S = some { cls := .type "list", dict := none, data := .seq acc c, slots := #[] } → acc.toList = as.map Value.ref → as.length = i → Made xs ys S h as →
      codeAny (model prog w) A (.builtin "list.extend.loop" ⟨[.ref S, .ref z, res], []⟩) R { s with heap := h, toks := tk } := by
  have neS : ∀ b ∈ [z, TI, TO, i1, i2, l1, l2], b ≠ S := fun b hb => Nat.ne_of_lt (nS b hb)
  intro k
  induction k with
  | zero =>
    intro i h tk c acc as hk hi st keep hS hacc hal G
    have hin : i = n := by omega
    refine codeAny_builtin PySem.F.entry_extend_loop ?_
    rw [Around.under_plainId PySem.F.plain_extend_loop _]
    show wpAny _ A.in1 (pyNext (.ref z) >>= _) _ _ _
    have hend : xs[i]? = none ∨ ys[i]? = none := by
      rcases Nat.le_total xs.size ys.size with q | q
      · exact .inl (Array.getElem?_eq_none (by omega))
      · exact .inr (Array.getElem?_eq_none (by omega))
    refine wpAny_bind (zip_over (s := { s with heap := h, toks := tk }) (A := A.in1) hh D st hend fun h' he => ?_)
    have offs : ∀ b, S ≤ b → b ≠ z ∧ b ≠ TO ∧ b ≠ i1 ∧ b ≠ i2 := fun b hb => ⟨offN (nS z (by simp)) hb, offN (nS TO (by simp)) hb, offN (nS i1 (by simp)) hb, offN (nS i2 (by simp)) hb⟩
    have keep' : ∀ b o, S ≤ b → h.get? b = some o → h'.get? b = some o := fun b o hb e => by
      obtain ⟨a1, a2, a3, a4⟩ := offs b hb
      exact he b o a1 a2 a3 a4 e
    refine wpAny_pure (hR h' tk acc c as (fun b o hb e => ?_) (keep' S _ (Nat.le_refl _) hS) (by omega) ⟨G.rise, G.above, fun a ha => ?_, fun j a hj => ?_⟩ hacc)
    · have hb' : b ≠ S ∧ b ≠ z ∧ b ≠ TO ∧ b ≠ i1 ∧ b ≠ i2 := by simpa using hb
      exact he b o hb'.2.1 hb'.2.2.1 hb'.2.2.2.1 hb'.2.2.2.2 (keep b o hb e)
    · obtain ⟨j, hj⟩ := List.mem_iff_getElem?.mp ha
      obtain ⟨x, y, _, _, e3⟩ := G.pair j a hj
      exact Heap.lt_size (keep' a _ (Nat.le_of_lt (G.above a ha)) e3)
    · obtain ⟨x, y, e1, e2, e3⟩ := G.pair j a hj
      exact ⟨x, y, e1, e2, keep' a _ (Nat.le_of_lt (G.above a (List.mem_of_getElem? hj))) e3⟩
  | succ k ih =>
    intro i h tk c acc as hk hi st keep hS hacc hal G
    have lx : i < xs.size := by omega
    have ly : i < ys.size := by omega
    have ex := Array.getElem?_eq_getElem lx
    have ey := Array.getElem?_eq_getElem ly
    have hsz : acc.size = i := by rw [← Array.length_toList, hacc, List.length_map, hal]
    have hSl : S < h.objs.size := Heap.lt_size hS
    refine codeAny_builtin PySem.F.entry_extend_loop ?_
    rw [Around.under_plainId PySem.F.plain_extend_loop _]
    show wpAny _ A.in1 (pyNext (.ref z) >>= _) _ _ _
    refine wpAny_bind (zip_next (s := { s with heap := h, toks := tk }) D st ex ey hSl fun h' st' pr hz' kp => ?_)
    dsimp only at pr hz' kp ⊢
    have offs : ∀ b, S ≤ b → b ≠ z ∧ b ≠ TO ∧ b ≠ i1 ∧ b ≠ i2 := fun b hb => ⟨offN (nS z (by simp)) hb, offN (nS TO (by simp)) hb, offN (nS i1 (by simp)) hb, offN (nS i2 (by simp)) hb⟩
    have keep' : ∀ b o, S ≤ b → h.get? b = some o → h'.get? b = some o := fun b o hb e => by
      obtain ⟨a1, a2, a3, a4⟩ := offs b hb
      exact kp b o a1 a2 a3 a4 e
    have hS' := keep' S _ (Nat.le_refl _) hS
    have up : ∀ b o, b ≠ S → h'.get? b = some o → (h'.update S (Obj.mapSeq (·.push (Value.ref h.objs.size)))).get? b = some o := fun b o hb e => (Heap.get?_update_other _ _ (Ne.symm hb)).trans e
    have usz : (h'.update S (Obj.mapSeq (·.push (Value.ref h.objs.size)))).objs.size = h'.objs.size := Heap.size_update ..
    show wpAny _ A.in1 (updateSeq S (·.push (Value.ref h.objs.size)) >>= _) _ _ _
    refine wpAny_bind ?_
    refine wpAny_updateSeq hS' rfl (wpAny_pure ⟨plainId_quiet PySem.F.plain_extend_loop _, ih (i + 1) _ tk _ (acc.push (Value.ref h.objs.size)) (as ++ [h.objs.size]) (by omega) (by omega) (st'.keep neS fun b o hb e => up b o hb e)
      (fun b o hb e => ?_) (Heap.get?_update_self _ hS' rfl) (by rw [Array.toList_push, hacc, List.map_append]; rfl) (by rw [List.length_append, hal]; rfl) ⟨?_, ?_, ?_, ?_⟩⟩) (by rw [hsz]; omega) (by
        show (acc.push (Value.ref h.objs.size)).size ≤ sizeLine + 1
        rw [Array.size_push, hsz]
        omega)
    · have hb' : b ≠ S ∧ b ≠ z ∧ b ≠ TO ∧ b ≠ i1 ∧ b ≠ i2 := by simpa using hb
      exact up b o hb'.1 (kp b o hb'.2.1 hb'.2.2.1 hb'.2.2.2.1 hb'.2.2.2.2 (keep b o hb e))
    · refine List.pairwise_append.mpr ⟨G.rise, List.pairwise_singleton _ _, fun a ha b hb => ?_⟩
      rw [List.mem_singleton.mp hb]
      exact G.low a ha
    · intro a ha
      rcases List.mem_append.mp ha with ha | ha
      · exact G.above a ha
      · rw [List.mem_singleton.mp ha]; exact hSl
    · intro a ha
      rw [usz, hz']
      rcases List.mem_append.mp ha with ha | ha
      · exact Nat.lt_succ_of_lt (G.low a ha)
      · rw [List.mem_singleton.mp ha]; exact Nat.lt_succ_self _
    · intro j b hj
      rcases Nat.lt_trichotomy j as.length with q | q | q
      · rw [List.getElem?_append_left q] at hj
        obtain ⟨x, y, e1, e2, e3⟩ := G.pair j b hj
        have hb := G.above b (List.mem_of_getElem? hj)
        exact ⟨x, y, e1, e2, up b _ (Nat.ne_of_gt hb) (keep' b _ (Nat.le_of_lt hb) e3)⟩
      · subst q
        have e : h.objs.size = b := by simpa using hj
        subst e
        exact ⟨xs[i], ys[i], by rw [hal]; exact ex, by rw [hal]; exact ey, up _ _ (Nat.ne_of_gt hSl) pr⟩
      · rw [List.getElem?_eq_none (by rw [List.length_append, List.length_singleton]; omega)] at hj
        cases hj
theorem hintZ {z : Addr} {s : Shared} {Q : Bool → Shared → Prop} (hT : s.TypeIs (.ref z) "zip") (h : Q true s) : wpAny (model prog w) A (Builtin.List.listLengthHint (.ref z)) Q E s := by
  unfold Builtin.List.listLengthHint
  refine wpAny_bind (wpAny_specialOf hT zip_no_len ?_)
  show wpAny _ _ (specialOf (Value.ref z) (Str.ofString "__length_hint__") >>= _) _ _ _
  refine wpAny_bind (wpAny_specialOf hT zip_no_hint ?_)
  exact wpAny_pure h
theorem ZS.type {z TI TO i1 i2 l1 l2 S : Addr} {xs ys : Array Value} {i : Nat} {s : Shared} (q : ZS z TI TO i1 i2 l1 l2 S xs ys i s.heap) : s.TypeIs (.ref z) "zip" := by
  rcases q.2.2.2.2.2 with ⟨r, _⟩ | ⟨T, f, oT, r, _⟩
  · exact ⟨_, r, rfl⟩
  · exact ⟨_, r, rfl⟩
theorem ZS.iter {z TI TO i1 i2 l1 l2 S : Addr} {xs ys : Array Value} {a b : Value} {s : Shared} {Q : Value → Shared → Prop} (r : IsZip s.heap z TI TO .none) (h : Q (.ref z) s) : wpAny (model prog w) A (pyIter (.ref z)) Q E s := wpAny_pyIter_zip r h
theorem list_zip {l1 l2 : Addr} {xs ys : Array Value} {Q : Value → Shared → Prop} {z TI TO i1 i2 : Addr} (hh : A.handled = none) (D : ZipApart z TI TO i1 i2 l1 l2) (hz : min xs.size ys.size ≤ sizeLine) (hZ : IsZip s.heap z TI TO .none) (st : ZS z TI TO i1 i2 l1 l2 s.heap.objs.size xs ys 0 s.heap)
    (small : ∀ b ∈ [z, TI, TO, i1, i2, l1, l2], b < s.heap.objs.size)
    (hQ : ∀ h' tk acc c as, (∀ b o, b ∉ [z, TO, i1, i2] → s.heap.get? b = some o → h'.get? b = some o) → h'.get? s.heap.objs.size = some { cls := .type "list", dict := none, data := .seq acc c, slots := #[] } → as.length = min xs.size ys.size → Made xs ys s.heap.objs.size h' as →
      acc.toList = as.map Value.ref → Q (.ref s.heap.objs.size) { s with heap := h', toks := tk }) : wpAny (model prog w) A (call (.type "list") [.ref z]) Q E s := by
  refine callType_codes (Q₁ := fun obj s₁ => obj = .ref s.heap.objs.size ∧ s₁ = { s with heap := s.heap.push { cls := .type "list", data := .seq #[] } }) PySem.F.called_list (PySem.F.typeCall_list_1 _) PySem.F.entry_list_init
    (code_list_new _ ⟨rfl, rfl⟩) fun obj s₁ h₁ => ?_
  obtain ⟨rfl, rfl⟩ := h₁
  have hS : (s.heap.push { cls := .type "list", data := .seq #[] }).get? s.heap.objs.size = some { cls := .type "list", data := .seq #[] } := Heap.get?_push_size _ rfl
  have neS : ∀ b ∈ [z, TI, TO, i1, i2, l1, l2], b ≠ s.heap.objs.size := fun b hb => Nat.ne_of_lt (small b hb)
  refine ⟨⟨_, hS, rfl⟩, PySem.F.args_list_init_2 _ _, ?_⟩
  show wpAny _ _ (do let old ← Builtin.List.listItems (.ref s.heap.objs.size); Builtin.List.listUpdate (.ref s.heap.objs.size) (fun _ => #[]); letGo old.toList.reverse; Builtin.List.listExtendWith (.ref s.heap.objs.size) (.ref z) .none) _ _ _
  refine wpAny_bind ?_
  unfold Builtin.List.listItems
  refine wpAny_bind (wpAny_seqItems hS rfl (wpAny_pure ?_))
  show wpAny _ _ (updateSeq s.heap.objs.size (fun _ => #[]) >>= fun _ => letGo (#[] : Array Value).toList.reverse >>= fun _ => Builtin.List.listExtendWith (.ref s.heap.objs.size) (.ref z) .none) _ _ _
  refine wpAny_bind (wpAny_updateSeq hS rfl ?_)
  have hS2 := Heap.get?_update_self (Obj.mapSeq (fun _ => (#[] : Array Value))) hS rfl
  generalize hm2 : (s.heap.push { cls := .type "list", data := .seq #[] }).update s.heap.objs.size (Obj.mapSeq (fun _ => (#[] : Array Value))) = h2 at hS2 ⊢
  have k2 : ∀ b o, b ≠ s.heap.objs.size → s.heap.get? b = some o → h2.get? b = some o := fun b o hb e => by
    rw [← hm2]; exact (Heap.get?_update_other _ _ (Ne.symm hb)).trans (Heap.get?_push_of_some _ e)
  have st2 := st.keep neS k2
  have hZ2 : IsZip h2 z TI TO .none := k2 _ _ (neS z (by simp)) hZ
  refine wpAny_bind (wpAny_letGo ?_)
  unfold Builtin.List.listExtendWith
  refine wpAny_bind (wpAny_typeOf (T := "zip") (ZS.type (s := { s with heap := h2 }) st2) ?_)
  have t1 : Builtin.List.listSameRef (.ref s.heap.objs.size) (.ref z) = false := by simp [Builtin.List.listSameRef, (neS z (by simp)).symm]
  have t2 : (Value.type "zip" == Value.type "list") = false := by decide
  have t3 : (Value.type "zip" == Value.type "tuple") = false := by decide
  simp only [t1, t2, t3, Bool.or_false, Bool.false_eq_true, if_false]
  refine wpAny_bind (wpAny_pyIter_zip hZ2 ?_)
  refine wpAny_bind (wpAny_holding (hintZ (ZS.type (s := { s with heap := h2 }) st2) ?_))
  simp only [Bool.true_or, if_true]
  refine wpAny_bind (wpAny_rule ?_)
  refine wpAny_bind ?_
  show wpAny _ _ (updateSeq s.heap.objs.size (·.push .none) >>= fun _ => updateSeq s.heap.objs.size (·.pop)) _ _ _
  refine wpAny_bind (wpAny_updateSeq hS2 rfl ?_)
  have hS3 := Heap.get?_update_self (Obj.mapSeq (·.push Value.none)) hS2 rfl
  refine wpAny_updateSeq (hz := by seq_fits) hS3 rfl ?_
  have hS4 := Heap.get?_update_self (Obj.mapSeq (·.pop)) hS3 rfl
  have k4 : ∀ b o, b ≠ s.heap.objs.size → s.heap.get? b = some o → ((h2.update s.heap.objs.size (Obj.mapSeq (·.push Value.none))).update s.heap.objs.size (Obj.mapSeq (·.pop))).get? b = some o := fun b o hb e =>
    (Heap.get?_update_other _ _ (Ne.symm hb)).trans ((Heap.get?_update_other _ _ (Ne.symm hb)).trans (k2 b o hb e))
  refine wpAny_pure ⟨plainId_quiet PySem.F.plain_extend_loop _, zl_loop (A := A.in1) (s := s) (h₁ := s.heap) (show A.in1.handled = none from hh) D small rfl hz .none (fun h' tk acc c as k5 a1 a2 a3 a4 => ?_) (min xs.size ys.size) 0 _ _ _ _ [] (Nat.sub_zero _) (Nat.zero_le _) (st.keep neS k4) (fun b o hb e => k4 b o (fun q => hb (by simp [q])) e) hS4 (by rfl) rfl
    ⟨List.Pairwise.nil, fun _ ha => (nomatch ha), fun _ ha => (nomatch ha), fun j a hj => by simp at hj⟩⟩
  refine ⟨rfl, hQ h' tk acc c as (fun b o hb e => k5 b o ?_ e) a1 a2 a3 a4⟩
  have lb := Heap.lt_size e
  intro m
  rcases List.mem_cons.mp m with q | q
  · rw [q] at lb; exact absurd lb (Nat.lt_irrefl _)
  · exact hb q
end
end ZpL
namespace L2
open PySem PySem.Spec PyProof.Rows
/-- the pairs tracked at their addresses -/
def putP : Hp → List Addr → List (V × V) → Hp
  | H, a :: as, p :: ps => putP (upd H a (.tup [p.1, p.2])) as ps
  | H, _, _ => H
theorem putP_off {b : Addr} : ∀ (as : List Addr) (ps : List (V × V)) (H : Hp), b ∉ as → putP H as ps b = H b
  | [], _, _, _ => rfl
  | _ :: _, [], _, _ => rfl
  | a :: as, p :: ps, H, h => by
    show putP (upd H a (.tup [p.1, p.2])) as ps b = H b
    rw [putP_off as ps _ fun z => h (List.mem_cons_of_mem _ z), upd_ne fun z => h (by rw [z]; exact List.mem_cons_self)]
theorem putP_at : ∀ (as : List Addr) (ps : List (V × V)) (H : Hp), as.length = ps.length → as.Nodup → ∀ (j : Nat) (a : Addr), as[j]? = some a → ∃ p, ps[j]? = some p ∧ putP H as ps a = some (.tup [p.1, p.2])
  | [], _, _, _, _, j, a, h => by simp at h
  | _ :: _, [], _, h, _, _, _, _ => by cases h
  | b :: as, p :: ps, H, h, hn, 0, a, e => by
    have e' : b = a := by simpa using e
    subst e'
    refine ⟨p, rfl, ?_⟩
    show putP (upd H b (.tup [p.1, p.2])) as ps b = _
    rw [putP_off as ps _ (List.nodup_cons.mp hn).1, upd_same]
  | b :: as, p :: ps, H, h, hn, j + 1, a, e => by
    obtain ⟨q, e1, e2⟩ := putP_at as ps (upd H b (.tup [p.1, p.2])) (Nat.succ.inj h) (List.nodup_cons.mp hn).2 j a (by simpa using e)
    exact ⟨q, by simpa using e1, e2⟩
/-- list(zip(xs, ys)) -/
def tZipL (K : PySem.W.Frag) (ta : TA) : TE := fun σ H Q => ta σ H fun vs H1 => ∃ (a b : Addr) (xs ys : List V), vs = [V.ref a, V.ref b] ∧ SqL K H1 a xs ∧ SqL K H1 b ys ∧
  ∀ (H' : Hp) (p : Addr) (ts : List Addr), Same H1 H' → H1 p = none → ts.length = min xs.length ys.length → (∀ t ∈ ts, H1 t = none) → H' p = some (.lst (ts.map V.ref)) →
    (∀ (j : Nat) (t : Addr), ts[j]? = some t → ∃ x y, xs[j]? = some x ∧ ys[j]? = some y ∧ H' t = some (.tup [x, y])) → Q (.ref p) H'
theorem pe_zipL {X : Cx} {e e2 : Expr} {ta : TA} {p p2 q pos : Pos} (hc : X.calm = true) (hg : Gl X "list") (hm : X.mg "list" = none) (hg2 : Gl X "zip") (hm2 : X.mg "zip" = none) (ha : PA X [e, e2] ta)
    (hs : starEach [e, e2] X.env = (false, eval e X.env) :: starEach [e2] X.env := by rfl)
    (hpl : (backTo q (starEach [e2] X.env)).any (·.1) = false := by rfl)
    (hs2 : starEach [.Call (.Name "zip" p2) [e, e2] [] q] X.env = (false, eval (.Call (.Name "zip" p2) [e, e2] [] q) X.env) :: starEach [] X.env := by rfl) :
    PE X (.Call (.Name "list" p) [.Call (.Name "zip" p2) [e, e2] [] q] [] pos) (tZipL X.K ta) := by
  refine ⟨fun pins s σ H Q I h => ?_⟩
  have bl : bootBuiltins "list" = some (.type "list") := by decide +kernel
  refine wpAny_Call_Name_kw (ld_blt I hg hm bl ?_)
  refine PyProof.Rows.callWith_type1 ?_ hs2 rfl
  rw [hs2]
  show wpAny _ _ (spliced ((false, eval (.Call (.Name "zip" p2) [e, e2] [] q) X.env) :: backTo pos (starEach [] X.env))) _ _ s
  refine Calls.spliced_cons ?_
  refine Call_ (ld_blt I hg2 hm2 PyProof.Rows.boot_zip (PyProof.Rows.callWith_type1 (thn (ha.run q pins s σ H _ I h) fun us s1 ⟨vs, H1, I1, r1, q1⟩ => ?_) hs hpl))
  obtain ⟨a, b, xs, ys, rfl, hqx, hqy, qq⟩ := q1
  cases r1 with
  | cons r rr =>
    cases rr with
    | cons r' rr =>
      cases rr
      cases r
      cases r'
      obtain ⟨its, rv, p1, z1⟩ := I1.list hqx
      obtain ⟨its2, rv2, p2', z2⟩ := I1.list hqy
      have la : a < s1.heap.objs.size := p1.lt
      have lb : b < s1.heap.objs.size := p2'.lt
      refine call_zip_2 p1.isList p2'.isList fun h' hz hTI hTO h1 h2 hsz hk => ?_
      refine Calls.spliced_nil ?_
      have D := PySem.W.ktu_apart s1.heap.objs.size a b la lb
      have I2 : Inv X pins σ H1 { s1 with heap := h' } := I1.kept (t' := s1.toks) hk
      refine ZpL.list_zip (s := { s1 with heap := h' }) (I1.ok.hd hc) D (by
          have e := rv.length
          rw [List.size_toArray]
          exact Nat.le_trans (Nat.min_le_left _ _) (by rw [← e]; exact z1)) hz ⟨hTI, h1, h2, (p1.isList).at fun o e => hk _ o e, (p2'.isList).at fun o e => hk _ o e, .inl ⟨hz, _, _, hTO⟩⟩ (fun c hcm => ?_) fun h'' tk acc c as keep hS hl G hacc => ?_
      · show c < h'.objs.size
        rw [hsz]
        simp only [List.mem_cons, List.not_mem_nil, or_false] at hcm
        rcases hcm with rfl | rfl | rfl | rfl | rfl | rfl | rfl
        · exact Nat.lt_succ_self _
        · exact Nat.add_lt_add_left (by decide) _
        · exact Nat.add_lt_add_left (by decide) _
        · exact Nat.lt_add_of_pos_right (by decide)
        · exact Nat.add_lt_add_left (by decide) _
        · exact Nat.lt_add_right 5 la
        · exact Nat.lt_add_right 5 lb
      · -- the new heap
        dsimp only at keep hS hl G hacc ⊢
        have xl := rv.length
        have yl := rv2.length
        rw [List.size_toArray, List.size_toArray, ← xl, ← yl] at hl
        have pl : as.length = (xs.zip ys).length := by rw [hl, List.length_zip]
        have nd : as.Nodup := List.Pairwise.imp (fun {a b} (h : a < b) => Nat.ne_of_lt h) G.rise
        have new : ∀ t ∈ as, H1 t = none := fun t ht => I2.hok.fresh (Nat.le_of_lt (G.above t ht))
        have newS : H1 h'.objs.size = none := I2.hok.fresh (Nat.le_refl _)
        have hSn : h'.objs.size ∉ as := fun z => Nat.lt_irrefl _ (G.above _ z)
        have atP := putP_at as (xs.zip ys) (upd H1 h'.objs.size (.lst (as.map V.ref))) pl nd
        generalize hH2 : putP (upd H1 h'.objs.size (.lst (as.map V.ref))) as (xs.zip ys) = H2 at atP
        have off : ∀ b, b ∉ as → b ≠ h'.objs.size → H2 b = H1 b := fun b n1 n2 => by rw [← hH2, putP_off as _ _ n1, upd_ne n2]
        have kp : Same H1 H2 := fun b u e => by
          rw [off b (fun z => by rw [new b z] at e; cases e) (fun z => by rw [z, newS] at e; cases e)]
          exact e
        have eS : H2 h'.objs.size = some (.lst (as.map V.ref)) := by rw [← hH2, putP_off as _ _ hSn, upd_same]
        have tup : ∀ (j : Nat) (t : Addr), as[j]? = some t → ∃ x y, xs[j]? = some x ∧ ys[j]? = some y ∧ H2 t = some (.tup [x, y]) ∧ ∃ u v, RelV x u ∧ RelV y v ∧ IsPair h'' t u v := fun j t hj => by
          obtain ⟨⟨x, y⟩, e1, e2⟩ := atP j t hj
          obtain ⟨ex, ey⟩ := List.getElem?_zip_eq_some.mp e1
          obtain ⟨u, v, f1, f2, f3⟩ := G.pair j t hj
          obtain ⟨u', g1, g2⟩ := rv.get ex
          obtain ⟨v', g3, g4⟩ := rv2.get ey
          have f1' : its[j]? = some u := by simpa using f1
          have f2' : its2[j]? = some v := by simpa using f2
          rw [f1'] at g1
          rw [f2'] at g3
          cases g1
          cases g3
          exact ⟨x, y, ex, ey, e2, u, v, g2, g4, f3⟩
        have tracked : ∀ b o, h'.get? b = some o → H1 b = none → H2 b = none := fun b o e n => by
          have lb := Heap.lt_size e
          rw [off b (fun z => absurd (G.above b z) (Nat.not_lt.mpr (Nat.le_of_lt lb))) (Nat.ne_of_lt lb)]
          exact n
        -- the zip's own things are not tracked, nor ours
        have own : ∀ b ∈ [s1.heap.objs.size + 4, s1.heap.objs.size + 3, s1.heap.objs.size, s1.heap.objs.size + 1], s1.heap.objs.size ≤ b := fun b hb => by
          simp only [List.mem_cons, List.not_mem_nil, or_false] at hb
          rcases hb with rfl | rfl | rfl | rfl
          · exact Nat.le_add_right _ _
          · exact Nat.le_add_right _ _
          · exact Nat.le_refl _
          · exact Nat.le_add_right _ _
        have k1 : ∀ b o, s1.heap.get? b = some o → h''.get? b = some o := fun b o e => keep b o (fun m => absurd (Heap.lt_size e) (Nat.not_lt.mpr (own b m))) (hk b o e)
        have tr1 : ∀ b o, s1.heap.get? b = some o → H1 b = none → H2 b = none := fun b o e n => tracked b o (hk b o e) n
        have hok2 : HOk X.prog X.w H2 h'' := fun b u q => by
          by_cases hb : b ∈ as
          · obtain ⟨j, hj⟩ := List.mem_iff_getElem?.mp hb
            obtain ⟨x, y, _, _, e3, u', v', r1, r2, pr⟩ := tup j b hj
            rw [e3] at q
            cases q
            exact ⟨by show 2 ≤ sizeLine; decide, [u', v'], .cons r1 (.cons r2 .nil), ⟨_, pr, rfl, _, rfl⟩⟩
          · by_cases hb2 : b = h'.objs.size
            · rw [hb2] at q ⊢
              rw [eS] at q
              cases q
              refine ⟨?_, acc.toList, c, by rw [hacc]; exact LiI.vals_refs as, by rw [Array.toArray_toList]; exact hS⟩
              rw [List.length_map, hl]
              exact Nat.le_trans (Nat.min_le_left _ _) z1
            · rw [off b hb hb2] at q
              exact (I1.hok b u q).stay (fun d v _ y => k1 d v y) (fun d y => kp d _ y) fun d xs y => kp d _ y
        have I3 : Inv X pins σ H2 { s1 with heap := h'', toks := tk } := by
          refine I1.call' (ch := []) rfl ⟨fun b o e _ _ _ => k1 b o e, fun b o e _ _ _ => ⟨o.slots, k1 b o e⟩, fun b o e n _ => tr1 b o e n, fun b o e _ => ⟨o, k1 b o e⟩, fun b xs e => kp b _ e, fun b o u e => kp b _ e, fun b ps e => ⟨#[], by rw [kp b _ e]; simp⟩⟩ hok2 I1.bare fun b z => by simp at z
        exact ⟨.ref h'.objs.size, H2, I3, rfl, qq H2 _ as kp newS hl new eS fun j t hj => by
          obtain ⟨x, y, e1, e2, e3, _⟩ := tup j t hj
          exact ⟨x, y, e1, e2, e3⟩⟩
end L2

/-! further rules: max of a tuple of ints -/
namespace L2
open PySem PySem.Spec PyProof.Rows
theorem max_rawT {prog : Program} {w : World} {A : Around} {E : Value → Shared → Prop} {s : Shared} {l : Addr} {its : List Value} {ns : List Int} {Q : Value → Shared → Prop} (hh : A.handled = none) (hl : s.heap.IsTuple l its.toArray) (hi : IntsAre its ns) (hne : 0 < ns.length)
    (h : ∀ h' tk M t', (∀ b o, s.heap.get? b = some o → h'.get? b = some o) → M ∈ ns → (∀ a, a ∈ ns → a ≤ M) → Q (.int M t') { s with heap := h', toks := tk }) : wpAny (model prog w) A (call (.builtin "max") [.ref l]) Q E s := by
  obtain ⟨xs, e⟩ := hi.allInts.items
  have hn : numsOf (intItems xs).toList = ns := by rw [← e]; exact hi.numsOf
  rw [nums_intItems] at hn
  subst hn
  rw [e] at hl
  have hsz : 0 < xs.size := by simpa using hne
  have lt : l < s.heap.objs.size := by obtain ⟨_, q, _⟩ := hl; exact Heap.lt_size q
  have neI : l ≠ s.heap.objs.size := Nat.ne_of_lt lt
  refine call_max_walk (wpAny_pyIter_tuple hl ?_)
  refine ⟨_, _, _, _, _, _, _, rfl, Walks.tuple (A := A.in1) hh _ l neI (intItems xs), ⟨⟨_, Heap.get?_push_size _ rfl, rfl, rfl⟩, hl.push _⟩, fun b hb => ?_, by simpa [intItems] using hsz, CmpOf.ints_gt (numAt xs) (fun _ _ => intItems_at), fun v h' tk hP hk => ?_⟩
  · show b < (s.heap.push _).objs.size
    rw [Heap.size_push]
    rcases (show b = s.heap.objs.size ∨ b = l by simpa using hb) with rfl | rfl
    · exact Nat.lt_succ_self _
    · exact Nat.lt_succ_of_lt lt
  · have hP' : (intItems xs)[argBest (fun i j => decide (numAt xs i > numAt xs j)) (xs.size - 1)]? = some v := by simpa [intItems] using hP
    obtain ⟨t, rfl⟩ := intItems_at hP'
    obtain ⟨h1, h2⟩ := argBest_gt (numAt xs) (xs.size - 1)
    refine h h' tk _ t (fun b o e => hk b o (fun m => ?_) (Heap.get?_push_of_some _ e)) ?_ fun a ha => ?_
    · rw [show b = s.heap.objs.size by simpa using m] at e
      exact absurd (Heap.lt_size e) (Nat.lt_irrefl _)
    · rw [numAt_eq]; exact PySem.getD_mem (by rw [List.length_map, Array.length_toList]; omega)
    · obtain ⟨j, hj, rfl⟩ := mem_getD ha
      rw [List.length_map, Array.length_toList] at hj
      rw [← numAt_eq]; exact h2 j (by omega)
def rMaxT (K : PySem.W.Frag) : List V → Hp → VK → Prop := fun vs H Q => ∃ (a : Addr) (ns : List Int), vs = [V.ref a] ∧ SqT K H a (ns.map V.int) ∧ 0 < ns.length ∧ ∀ m, m ∈ ns → (∀ y, y ∈ ns → y ≤ m) → Q (.int m) H
theorem cr_maxT {X : Cx} (hc : X.calm = true) : CallR X (.builtin "max") (rMaxT X.K) := by
  intro pins s σ H vs us Q I r h
  obtain ⟨a, ns, rfl, hs, hne, q⟩ := h
  obtain ⟨its, rv, hl, _⟩ := I.tuple hs
  obtain ⟨u, rfl, ru⟩ := vals1 r
  obtain rfl : u = Value.ref a := ru
  exact max_rawT (I.ok.hd hc) hl (ints_of_vals rv) hne fun h' tk m t' hk h1 h2 => ⟨.int m, H, I.kept hk, ⟨t', rfl⟩, q m h1 h2⟩
end L2

/-! the text by places: each def, its slots, its scope -/
namespace K56
open PySem PySem.Spec PyProof.Rows L2 K56R
abbrev top (i : Nat) : Stmt := PySem.Challenge.pw_suretrips_k56_whole_main_all_numbers_of.main.body.getD i (.Pass ⟨0, 0, 0, 0⟩)
abbrev s_roads_from : Stmt := top 1
abbrev N_roads_from : List Str := ["net", "place", "road", "pair"]
theorem sc_roads_from : FnScope N_roads_from ["net", "place"] (defScope s_roads_from) := ⟨rfl, rfl, rfl, by decide +kernel, rfl, by decide +kernel, by decide +kernel⟩
abbrev s_places_from : Stmt := top 2
abbrev N_places_from : List Str := ["net", "place", "found", "a", "b"]
theorem sc_places_from : FnScope N_places_from ["net", "place"] (defScope s_places_from) := ⟨rfl, rfl, rfl, by decide +kernel, rfl, by decide +kernel, by decide +kernel⟩
abbrev s_leads : Stmt := top 3
abbrev N_leads : List Str := ["net", "one", "other"]
theorem sc_leads : FnScope N_leads ["net", "one", "other"] (defScope s_leads) := ⟨rfl, rfl, rfl, by decide +kernel, rfl, by decide +kernel, by decide +kernel⟩
abbrev s_led_ways : Stmt := top 7
abbrev N_led_ways : List Str := ["arcs", "found", "arc", "foot", "head"]
theorem sc_led_ways : FnScope N_led_ways ["arcs"] (defScope s_led_ways) := ⟨rfl, rfl, rfl, by decide +kernel, rfl, by decide +kernel, by decide +kernel⟩
abbrev s_has_room : Stmt := top 8
abbrev N_has_room : List Str := ["room", "flow", "arc", "is_forth"]
theorem sc_has_room : FnScope N_has_room ["room", "flow", "arc", "is_forth"] (defScope s_has_room) := ⟨rfl, rfl, rfl, by decide +kernel, rfl, by decide +kernel, by decide +kernel⟩
abbrev s_reached : Stmt := top 9
abbrev N_reached : List Str := ["ways", "room", "flow", "begin", "end", "came", "waiting", "spot", "place", "arc", "other", "is_forth"]
theorem sc_reached : FnScope N_reached ["ways", "room", "flow", "begin", "end"] (defScope s_reached) := ⟨rfl, rfl, rfl, by decide +kernel, rfl, by decide +kernel, by decide +kernel⟩
abbrev s_steps_back : Stmt := top 10
abbrev N_steps_back : List Str := ["came", "end", "found", "arc", "is_forth"]
theorem sc_steps_back : FnScope N_steps_back ["came", "end"] (defScope s_steps_back) := ⟨rfl, rfl, rfl, by decide +kernel, rfl, by decide +kernel, by decide +kernel⟩
abbrev s_least_left : Stmt := top 11
abbrev N_least_left : List Str := ["room", "flow", "steps", "left", "arc", "is_forth"]
theorem sc_least_left : FnScope N_least_left ["room", "flow", "steps"] (defScope s_least_left) := ⟨rfl, rfl, rfl, by decide +kernel, rfl, by decide +kernel, by decide +kernel⟩
abbrev s_pushed : Stmt := top 12
abbrev N_pushed : List Str := ["arcs", "room", "begin", "end", "ways", "flow", "came", "steps", "more", "arc", "is_forth"]
theorem sc_pushed : FnScope N_pushed ["arcs", "room", "begin", "end"] (defScope s_pushed) := ⟨rfl, rfl, rfl, by decide +kernel, rfl, by decide +kernel, by decide +kernel⟩
abbrev s_arcs_for : Stmt := top 13
abbrev N_arcs_for : List Str := ["net", "feet", "heads", "ends", "found", "road", "foot", "head", "place"]
theorem sc_arcs_for : FnScope N_arcs_for ["net", "feet", "heads", "ends"] (defScope s_arcs_for) := ⟨rfl, rfl, rfl, by decide +kernel, rfl, by decide +kernel, by decide +kernel⟩
abbrev s_endless_way : Stmt := top 14
abbrev N_endless_way : List Str := ["net", "room", "feet", "heads", "ends", "arcs", "open_room", "came", "steps", "arc", "is_forth", "own"]
theorem sc_endless_way : FnScope N_endless_way ["net", "room", "feet", "heads", "ends"] (defScope s_endless_way) := ⟨rfl, rfl, rfl, by decide +kernel, rfl, by decide +kernel, by decide +kernel⟩
abbrev s_greatest_flow : Stmt := top 15
abbrev N_greatest_flow : List Str := ["net", "room", "feet", "heads", "ends", "way", "arcs", "many", "flow", "came", "value", "place"]
theorem sc_greatest_flow : FnScope N_greatest_flow ["net", "room", "feet", "heads", "ends"] (defScope s_greatest_flow) := ⟨rfl, rfl, rfl, by decide +kernel, rfl, by decide +kernel, by decide +kernel⟩
abbrev s_going : Stmt := top 17
abbrev N_going : List Str := ["net", "counts", "place", "road"]
theorem sc_going : FnScope N_going ["net", "counts", "place"] (defScope s_going) := ⟨rfl, rfl, rfl, by decide +kernel, rfl, by decide +kernel, by decide +kernel⟩
abbrev s_total : Stmt := top 18
abbrev N_total : List Str := ["net", "tally"]
theorem sc_total : FnScope N_total ["net", "tally"] (defScope s_total) := ⟨rfl, rfl, rfl, by decide +kernel, rfl, by decide +kernel, by decide +kernel⟩
abbrev s_leaving_roads : Stmt := top 20
abbrev N_leaving_roads : List Str := ["net", "stretch", "found", "road", "other"]
theorem sc_leaving_roads : FnScope N_leaving_roads ["net", "stretch"] (defScope s_leaving_roads) := ⟨rfl, rfl, rfl, by decide +kernel, rfl, by decide +kernel, by decide +kernel⟩
abbrev s_excess : Stmt := top 21
abbrev N_excess : List Str := ["net", "tally", "stretch", "road"]
theorem sc_excess : FnScope N_excess ["net", "tally", "stretch"] (defScope s_excess) := ⟨rfl, rfl, rfl, by decide +kernel, rfl, by decide +kernel, by decide +kernel⟩
abbrev s_least_along : Stmt := top 22
abbrev N_least_along : List Str := ["net", "tally", "stretch"]
theorem sc_least_along : FnScope N_least_along ["net", "tally", "stretch"] (defScope s_least_along) := ⟨rfl, rfl, rfl, by decide +kernel, rfl, by decide +kernel, by decide +kernel⟩
abbrev s_most_along : Stmt := top 23
abbrev N_most_along : List Str := ["net", "tally", "stretch", "road"]
theorem sc_most_along : FnScope N_most_along ["net", "tally", "stretch"] (defScope s_most_along) := ⟨rfl, rfl, rfl, by decide +kernel, rfl, by decide +kernel, by decide +kernel⟩
abbrev s_in_order : Stmt := top 25
abbrev N_in_order : List Str := ["net", "question", "word", "one", "other"]
theorem sc_in_order : FnScope N_in_order ["net", "question"] (defScope s_in_order) := ⟨rfl, rfl, rfl, by decide +kernel, rfl, by decide +kernel, by decide +kernel⟩
abbrev s_shut_room : Stmt := top 26
abbrev N_shut_room : List Str := ["tally", "roads", "road", "count"]
theorem sc_shut_room : FnScope N_shut_room ["tally", "roads"] (defScope s_shut_room) := ⟨rfl, rfl, rfl, by decide +kernel, rfl, by decide +kernel, by decide +kernel⟩
abbrev s_flow_of_least : Stmt := top 27
abbrev N_flow_of_least : List Str := ["net", "tally", "question", "pair"]
theorem sc_flow_of_least : FnScope N_flow_of_least ["net", "tally", "question"] (defScope s_flow_of_least) := ⟨rfl, rfl, rfl, by decide +kernel, rfl, by decide +kernel, by decide +kernel⟩
abbrev s_flow_of_most : Stmt := top 28
abbrev N_flow_of_most : List Str := ["net", "tally", "question", "pair"]
theorem sc_flow_of_most : FnScope N_flow_of_most ["net", "tally", "question"] (defScope s_flow_of_most) := ⟨rfl, rfl, rfl, by decide +kernel, rfl, by decide +kernel, by decide +kernel⟩
abbrev s_least : Stmt := top 29
abbrev N_least : List Str := ["net", "tally", "question", "pair"]
theorem sc_least : FnScope N_least ["net", "tally", "question"] (defScope s_least) := ⟨rfl, rfl, rfl, by decide +kernel, rfl, by decide +kernel, by decide +kernel⟩
abbrev s_most : Stmt := top 30
abbrev N_most : List Str := ["net", "tally", "question", "pair", "told", "counts"]
theorem sc_most : FnScope N_most ["net", "tally", "question"] (defScope s_most) := ⟨rfl, rfl, rfl, by decide +kernel, rfl, by decide +kernel, by decide +kernel⟩
abbrev s_law_deck : Stmt := top 32
abbrev N_law_deck : List Str := ["_law_script", "_law_deck_here", "_law_cell", "_law_whole"]
theorem sc_law_deck : FnScope N_law_deck ["_law_script"] (defScope s_law_deck) := ⟨rfl, rfl, rfl, by decide +kernel, rfl, by decide +kernel, by decide +kernel⟩
abbrev s_law_draw : Stmt := top 33
abbrev N_law_draw : List Str := ["_law_deck_here", "_law_many_here", "_law_whole", "_law_number"]
theorem sc_law_draw : FnScope N_law_draw ["_law_deck_here", "_law_many_here"] (defScope s_law_draw) := ⟨rfl, rfl, rfl, by decide +kernel, rfl, by decide +kernel, by decide +kernel⟩
abbrev s_law_pick : Stmt := top 34
abbrev N_law_pick : List Str := ["_law_deck_here", "_law_items"]
theorem sc_law_pick : FnScope N_law_pick ["_law_deck_here", "_law_items"] (defScope s_law_pick) := ⟨rfl, rfl, rfl, by decide +kernel, rfl, by decide +kernel, by decide +kernel⟩
abbrev s_law_mixed : Stmt := top 35
abbrev N_law_mixed : List Str := ["_law_deck_here", "_law_items", "_law_left", "_law_found"]
theorem sc_law_mixed : FnScope N_law_mixed ["_law_deck_here", "_law_items"] (defScope s_law_mixed) := ⟨rfl, rfl, rfl, by decide +kernel, rfl, by decide +kernel, by decide +kernel⟩
abbrev s_law_net : Stmt := top 36
abbrev N_law_net : List Str := ["_law_deck_here", "_law_many_here", "_law_more", "_law_spine", "_law_pairs", "_law_turn", "_law_foot", "_law_head", "_law_place"]
theorem sc_law_net : FnScope N_law_net ["_law_deck_here", "_law_many_here", "_law_more"] (defScope s_law_net) := ⟨rfl, rfl, rfl, by decide +kernel, rfl, by decide +kernel, by decide +kernel⟩
abbrev s_law_home : Stmt := top 37
abbrev N_law_home : List Str := ["_law_net_here", "_law_home_here", "_law_place", "_law_foot", "_law_head"]
theorem sc_law_home : FnScope N_law_home ["_law_net_here"] (defScope s_law_home) := ⟨rfl, rfl, rfl, by decide +kernel, rfl, by decide +kernel, by decide +kernel⟩
abbrev s_law_walk : Stmt := top 38
abbrev N_law_walk : List Str := ["_law_deck_here", "_law_net_here", "_law_home_here", "_law_place", "_law_trip", "_law_turn", "_law_onward", "_law_road", "_law_pair"]
theorem sc_law_walk : FnScope N_law_walk ["_law_deck_here", "_law_net_here", "_law_home_here"] (defScope s_law_walk) := ⟨rfl, rfl, rfl, by decide +kernel, rfl, by decide +kernel, by decide +kernel⟩
abbrev s_law_tally : Stmt := top 39
abbrev N_law_tally : List Str := ["_law_net_here", "_law_people_here", "_law_counts", "_law_trip", "_law_times", "_law_road"]
theorem sc_law_tally : FnScope N_law_tally ["_law_net_here", "_law_people_here"] (defScope s_law_tally) := ⟨rfl, rfl, rfl, by decide +kernel, rfl, by decide +kernel, by decide +kernel⟩
abbrev s_law_people : Stmt := top 40
abbrev N_law_people : List Str := ["_law_deck_here", "_law_net_here", "_law_many_here", "_law_greatest", "_law_home_here", "_law_turn"]
theorem sc_law_people : FnScope N_law_people ["_law_deck_here", "_law_net_here", "_law_many_here", "_law_greatest"] (defScope s_law_people) := ⟨rfl, rfl, rfl, by decide +kernel, rfl, by decide +kernel, by decide +kernel⟩
abbrev s_law_trips : Stmt := top 41
abbrev N_law_trips : List Str := ["_law_net_here", "_law_trips_here", "_law_todo", "_law_trip", "_law_place", "_law_road", "_law_pair"]
theorem sc_law_trips : FnScope N_law_trips ["_law_net_here"] (defScope s_law_trips) := ⟨rfl, rfl, rfl, by decide +kernel, rfl, by decide +kernel, by decide +kernel⟩
abbrev s_law_all : Stmt := top 42
abbrev N_law_all : List Str := ["_law_tally_here", "_law_trips_here", "_law_parts", "_law_last", "_law_gone", "_law_nth", "_law_trip", "_law_road", "_law_further", "_law_made", "_law_left", "_law_low", "_law_times", "_law_rest", "_law_count"]
theorem sc_law_all : FnScope N_law_all ["_law_tally_here", "_law_trips_here"] (defScope s_law_all) := ⟨rfl, rfl, rfl, by decide +kernel, rfl, by decide +kernel, by decide +kernel⟩
abbrev s_law_is_taken : Stmt := top 43
abbrev N_law_is_taken : List Str := ["_law_question_here", "_law_trip", "_law_long", "_law_k", "_law_road"]
theorem sc_law_is_taken : FnScope N_law_is_taken ["_law_question_here", "_law_trip"] (defScope s_law_is_taken) := ⟨rfl, rfl, rfl, by decide +kernel, rfl, by decide +kernel, by decide +kernel⟩
abbrev s_law_many : Stmt := top 44
abbrev N_law_many : List Str := ["_law_question_here", "_law_people_here", "_law_trip", "_law_times"]
theorem sc_law_many : FnScope N_law_many ["_law_question_here", "_law_people_here"] (defScope s_law_many) := ⟨rfl, rfl, rfl, by decide +kernel, rfl, by decide +kernel, by decide +kernel⟩
abbrev s_law_stretch : Stmt := top 45
abbrev N_law_stretch : List Str := ["_law_deck_here", "_law_net_here", "_law_roads", "_law_turn", "_law_onward", "_law_road", "_law_pair"]
theorem sc_law_stretch : FnScope N_law_stretch ["_law_deck_here", "_law_net_here"] (defScope s_law_stretch) := ⟨rfl, rfl, rfl, by decide +kernel, rfl, by decide +kernel, by decide +kernel⟩
abbrev s_law_doors : Stmt := top 46
abbrev N_law_doors : List Str := ["_law_deck_here", "_law_net_here", "_law_into", "_law_away", "_law_road", "_law_pair"]
theorem sc_law_doors : FnScope N_law_doors ["_law_deck_here", "_law_net_here"] (defScope s_law_doors) := ⟨rfl, rfl, rfl, by decide +kernel, rfl, by decide +kernel, by decide +kernel⟩
abbrev s_law_question : Stmt := top 47
abbrev N_law_question : List Str := ["_law_deck_here", "_law_net_here", "_law_sort", "_law_roads", "_law_begin"]
theorem sc_law_question : FnScope N_law_question ["_law_deck_here", "_law_net_here", "_law_sort"] (defScope s_law_question) := ⟨rfl, rfl, rfl, by decide +kernel, rfl, by decide +kernel, by decide +kernel⟩
abbrev s_law_meeting : Stmt := top 48
abbrev N_law_meeting : List Str := ["_law_deck_here", "_law_many_here", "_law_pairs", "_law_foot", "_law_turn"]
theorem sc_law_meeting : FnScope N_law_meeting ["_law_deck_here"] (defScope s_law_meeting) := ⟨rfl, rfl, rfl, by decide +kernel, rfl, by decide +kernel, by decide +kernel⟩
abbrev s_law_drawn : Stmt := top 49
abbrev N_law_drawn : List Str := ["_law_deck_here", "_law_turn", "_law_net_here", "_law_people_here"]
theorem sc_law_drawn : FnScope N_law_drawn ["_law_deck_here", "_law_turn"] (defScope s_law_drawn) := ⟨rfl, rfl, rfl, by decide +kernel, rfl, by decide +kernel, by decide +kernel⟩
abbrev s_law_asked : Stmt := top 50
abbrev N_law_asked : List Str := ["_law_deck_here", "_law_net_here", "_law_trips_here", "_law_found", "_law_trip", "_law_begin", "_law_one", "_law_other", "_law_sort"]
theorem sc_law_asked : FnScope N_law_asked ["_law_deck_here", "_law_net_here", "_law_trips_here"] (defScope s_law_asked) := ⟨rfl, rfl, rfl, by decide +kernel, rfl, by decide +kernel, by decide +kernel⟩
abbrev s_law_is_told : Stmt := top 51
abbrev N_law_is_told : List Str := ["_law_net_here", "_law_tally_here", "_law_question_here", "_law_every", "_law_is_named", "_law_numbers", "_law_told", "_law_made"]
theorem sc_law_is_told : FnScope N_law_is_told ["_law_net_here", "_law_tally_here", "_law_question_here", "_law_every", "_law_is_named"] (defScope s_law_is_told) := ⟨rfl, rfl, rfl, by decide +kernel, rfl, by decide +kernel, by decide +kernel⟩
abbrev s_law : Stmt := top 52
abbrev N_law : List Str := ["_law_script", "_law_deck_here", "_law_turn", "_law_net_here", "_law_tally_here", "_law_trips_here", "_law_every", "_law_stood", "_law_nth", "_law_question_here"]
theorem sc_law : FnScope N_law ["_law_script"] (defScope s_law) := ⟨rfl, rfl, rfl, by decide +kernel, rfl, by decide +kernel, by decide +kernel⟩
/-- what the module's names hold: the built-ins are as they are, two constants -/
structure Bn (mg : Str → Option Value) : Prop where
  len : mg "len" = none
  range : mg "range" = none
  enumerate : mg "enumerate" = none
  tuple : mg "tuple" = none
  list : mg "list" = none
  set : mg "set" = none
  sorted : mg "sorted" = none
  sum : mg "sum" = none
  min : mg "min" = none
  max : mg "max" = none
  int : mg "int" = none
  abs : mg "abs" = none
  repr : mg "repr" = none
  zip : mg "zip" = none
  begin : ∃ t, mg "BEGIN" = some (.int (-1) t)
  fin : ∃ t, mg "END" = some (.int (-2) t)
theorem Bn.pb {X : Cx} (B : Bn X.mg) {p : Pos} (hg : Gl X "BEGIN") : PE X (.Name "BEGIN" p) (tC (.int (-1))) := by
  obtain ⟨t, h⟩ := B.begin
  exact pe_glob hg h ⟨t, rfl⟩
theorem Bn.pf {X : Cx} (B : Bn X.mg) {p : Pos} (hg : Gl X "END") : PE X (.Name "END" p) (tC (.int (-2))) := by
  obtain ⟨t, h⟩ := B.fin
  exact pe_glob hg h ⟨t, rfl⟩
/-! ### rules within a comprehension's block: the written part by its name -/
section
variable {X : Cx}
theorem ix_tupK (K : PySem.W.Frag) (h : X.K = K := by rfl) : IxR X (rIxT K) := by subst h; exact ix_tup
theorem ix_listK (K : PySem.W.Frag) (h : X.K = K := by rfl) : IxR X (rIxL K) := by subst h; exact ix_list
theorem op_in_seqK (K : PySem.W.Frag) (h : X.K = K := by rfl) : OpR X (compareOp .In) (rIn K false) := by subst h; exact op_in_seq
theorem op_notIn_seqK (K : PySem.W.Frag) (h : X.K = K := by rfl) : OpR X (compareOp .NotIn) (rIn K true) := by subst h; exact op_notIn_seq
theorem op_eqDK (K : PySem.W.Frag) (hu : X.A.units + 64 < cLine) (h : X.K = K := by rfl) : OpR X (compareOp .Eq) (rEqD K) := by subst h; exact op_eqD hu
theorem sl_tupAK (K : PySem.W.Frag) (h : X.K = K := by rfl) : SlR X (rSlA K) := by subst h; exact sl_tupA
theorem cr_maxTK (K : PySem.W.Frag) (hc : X.calm = true) (h : X.K = K := by rfl) : CallR X (.builtin "max") (rMaxT K) := by subst h; exact cr_maxT hc
theorem call_tuple_ofK (K : PySem.W.Frag) (h : X.K = K := by rfl) : CallR X (.type "tuple") (fun xs H Q => ∃ p ys, xs = [.ref p] ∧ ((SqL K H p ys ∧ ∀ l, H l = none → Q (.ref l) (upd H l (.tup ys))) ∨ (SqT K H p ys ∧ Q (.ref p) H))) := by subst h; exact call_tuple_of
theorem assignEach_len (env : Env) : ∀ es : List Expr, (assignEach es env).length = es.length
  | [] => by rw [assignEach]; rfl
  | e :: es => by
    cases e <;> (rw [assignEach]; (first | (simp only [List.length_cons, assignEach_len env es]) | skip)) <;> (intro _ _ h; cases h)
theorem pg_tupK (K : PySem.W.Frag) {es : List Expr} {k : Nat} {pos : Pos} {t : TGs} (hc : X.calm = true) (h : PGs X es t) (hK : X.K = K := by rfl)
    (hst : (assignEach es X.env).findIdx? (·.1) = none := by rfl) : PG X (.Tuple es k pos) (gTup K es.length t) := by subst hK; exact pg_tup hc h (assignEach_len _ _) hst
theorem op_catAK (K : PySem.W.Frag) (h : X.K = K := by rfl) : OpR X (binaryOp .Add) (rCatA K) := by subst h; exact op_catA
end
end K56

/-! heaps: what is kept, what stands for what; comprehensions -/
namespace K56
open PySem PySem.Spec PyProof.Rows L2 K56R
open Evl (Ex ex_l ex_t sq_of st_of fresh_back sz_of sz_lt)
/-! ### kept -/
/-- the tuples stay -/
def Tk (H H' : Hp) : Prop := ∀ a xs, H a = some (.tup xs) → H' a = some (.tup xs)
theorem Tk.refl (H : Hp) : Tk H H := fun _ _ h => h
theorem Tk.trans {H H1 H2 : Hp} (a : Tk H H1) (b : Tk H1 H2) : Tk H H2 := fun x o h => b x o (a x o h)
theorem tk_ex {H H' : Hp} (e : Ex H H') : Tk H H' := fun a xs h => e a _ h
theorem tk_new {H : Hp} {p : Addr} {o : HO} (h : H p = none) : Tk H (upd H p o) := tk_ex (Evl.Ex.new h)
/-- a change of what is no tuple -/
theorem tk_upd {H : Hp} {p : Addr} {o o' : HO} (h : H p = some o) (n : ∀ xs, o ≠ .tup xs) : Tk H (upd H p o') := fun a xs e => by
  have : a ≠ p := fun z => by subst z; rw [h] at e; exact n xs (Option.some.inj e)
  rw [upd_ne this]; exact e
/-- all but some stay -/
def Mo (ds : List Addr) (H H' : Hp) : Prop := ∀ a o, a ∉ ds → H a = some o → H' a = some o
theorem Mo.refl (ds : List Addr) (H : Hp) : Mo ds H H := fun _ _ _ h => h
theorem Mo.trans {ds : List Addr} {H H1 H2 : Hp} (a : Mo ds H H1) (b : Mo ds H1 H2) : Mo ds H H2 := fun x o n h => b x o n (a x o n h)
theorem mo_ex {ds : List Addr} {H H' : Hp} (e : Ex H H') : Mo ds H H' := fun a o _ h => e a o h
theorem ex_mo {H H' : Hp} (e : Mo [] H H') : Ex H H' := fun a o h => e a o (by simp) h
theorem mo_at {ds : List Addr} {H : Hp} {p : Addr} {o : HO} (h : p ∈ ds) : Mo ds H (upd H p o) := fun a u n e => by
  rw [upd_ne (fun z : a = p => n (by rw [z]; exact h))]; exact e
theorem mo_new {ds : List Addr} {H : Hp} {p : Addr} {o : HO} (h : H p = none) : Mo ds H (upd H p o) := mo_ex (Evl.Ex.new h)
theorem upd_ex {H H' : Hp} {p : Addr} {o : HO} (e : Ex H H') (h : H p = none) : Ex H (upd H' p o) := Evl.Ex.mut e h
theorem upd_mo {ds : List Addr} {H H' : Hp} {p : Addr} {o : HO} (e : Mo ds H H') (h : H p = none) : Mo ds H (upd H' p o) := fun a u n e1 => by
  rw [upd_ne (ne_of_none e1 h)]; exact e a u n e1
theorem fresh_mo {ds : List Addr} {H H' : Hp} {p : Addr} (e : Mo ds H H') (n : p ∉ ds) (h : H' p = none) : H p = none := by
  cases h1 : H p with
  | none => rfl
  | some o => rw [e p o n h1] at h; cases h
/-! ### two lists, item by item -/
def All2 {α β : Type} (R : α → β → Prop) (l : List α) (m : List β) : Prop := l.length = m.length ∧ ∀ (i : Nat) (x : α) (y : β), l[i]? = some x → m[i]? = some y → R x y
section
variable {α β : Type} {R S : α → β → Prop} {l : List α} {m : List β}
theorem All2.mono (h : All2 R l m) (k : ∀ x y, R x y → S x y) : All2 S l m := ⟨h.1, fun i x y a b => k x y (h.2 i x y a b)⟩
theorem All2.nil : All2 R [] [] := ⟨rfl, fun i x y a => by simp at a⟩
theorem All2.get (h : All2 R l m) {i : Nat} {y : β} (e : m[i]? = some y) : ∃ x, l[i]? = some x ∧ R x y := by
  have hi : i < l.length := by rw [h.1]; exact (List.getElem?_eq_some_iff.mp e).1
  exact ⟨l[i], List.getElem?_eq_getElem hi, h.2 i _ y (List.getElem?_eq_getElem hi) e⟩
theorem All2.get' (h : All2 R l m) {i : Nat} {x : α} (e : l[i]? = some x) : ∃ y, m[i]? = some y ∧ R x y := by
  have hi : i < m.length := by rw [← h.1]; exact (List.getElem?_eq_some_iff.mp e).1
  exact ⟨m[i], List.getElem?_eq_getElem hi, h.2 i x _ e (List.getElem?_eq_getElem hi)⟩
theorem All2.cons {x : α} {y : β} (r : R x y) (h : All2 R l m) : All2 R (x :: l) (y :: m) := ⟨by simp [h.1], fun i a b e1 e2 => by
  cases i with
  | zero => simp at e1 e2; subst e1 e2; exact r
  | succ i => simp at e1 e2; exact h.2 i a b e1 e2⟩
theorem All2.app {l' : List α} {m' : List β} (h : All2 R l m) (k : All2 R l' m') : All2 R (l ++ l') (m ++ m') := ⟨by simp [h.1, k.1], fun i a b e1 e2 => by
  by_cases hi : i < l.length
  · rw [List.getElem?_append_left hi] at e1
    rw [List.getElem?_append_left (by rw [← h.1]; exact hi)] at e2
    exact h.2 i a b e1 e2
  · rw [List.getElem?_append_right (by omega)] at e1
    rw [List.getElem?_append_right (by rw [← h.1]; omega), ← h.1] at e2
    exact k.2 _ a b e1 e2⟩
theorem All2.snoc {x : α} {y : β} (h : All2 R l m) (r : R x y) : All2 R (l ++ [x]) (m ++ [y]) := h.app (.cons r .nil)
theorem All2.uncons {x : α} {l : List α} {m : List β} (h : All2 R (x :: l) m) : ∃ y m', m = y :: m' ∧ R x y ∧ All2 R l m' := by
  cases m with
  | nil => have := h.1; simp at this
  | cons y m' => exact ⟨y, m', rfl, h.2 0 x y rfl rfl, by have := h.1; simpa using this, fun i a b e1 e2 => h.2 (i + 1) a b (by simpa using e1) (by simpa using e2)⟩
theorem All2.map_fn {f : β → α} : All2 (fun x y => x = f y) l m ↔ l = m.map f := by
  constructor
  · intro h
    refine List.ext_getElem? fun i => ?_
    rw [List.getElem?_map]
    cases e : m[i]? with
    | none =>
      show l[i]? = none
      rw [List.getElem?_eq_none_iff] at e ⊢; rw [h.1]; exact e
    | some y =>
      obtain ⟨x, ex, r⟩ := h.get e
      rw [ex, r]; rfl
  · intro h
    subst h
    refine ⟨by simp, fun i x y a b => ?_⟩
    rw [List.getElem?_map, b] at a
    exact (Option.some.inj a).symm
theorem All2.mem (h : All2 R l m) {x : α} (hx : x ∈ l) : ∃ y ∈ m, R x y := by
  obtain ⟨i, hi⟩ := List.mem_iff_getElem?.mp hx
  obtain ⟨y, ey, r⟩ := h.get' hi
  exact ⟨y, List.mem_of_getElem? ey, r⟩
theorem All2.mem' (h : All2 R l m) {y : β} (hy : y ∈ m) : ∃ x ∈ l, R x y := by
  obtain ⟨i, hi⟩ := List.mem_iff_getElem?.mp hy
  obtain ⟨x, ex, r⟩ := h.get hi
  exact ⟨x, List.mem_of_getElem? ex, r⟩
end
/-! ### what stands for what -/
abbrev vi (ns : List Int) : List V := ns.map V.int
abbrev vn (ns : List Nat) : List V := ns.map fun r : Nat => V.int (r : Int)
def toI (ns : List Nat) : List Int := ns.map fun r => ((r : Nat) : Int)
theorem vn_vi (ns : List Nat) : vn ns = vi (toI ns) := by simp [toI, vi, vn]
theorem toI_len (ns : List Nat) : (toI ns).length = ns.length := by simp [toI]
theorem mem_toI {ns : List Nat} {r : Nat} : ((r : Nat) : Int) ∈ toI ns ↔ r ∈ ns := by
  unfold toI
  rw [List.mem_map]
  constructor
  · rintro ⟨a, ha, e⟩
    have : a = r := by omega
    exact this ▸ ha
  · intro h; exact ⟨r, h, rfl⟩
/-- a relation of values that leans on tuples alone -/
def St {β : Type} (R : Hp → V → β → Prop) : Prop := ∀ H H' v b, Tk H H' → R H v b → R H' v b
def IsI : Hp → V → Int → Prop := fun _ v z => v = .int z
def IsN : Hp → V → Nat → Prop := fun _ v z => v = .int z
theorem st_I : St IsI := fun _ _ _ _ _ h => h
theorem st_N : St IsN := fun _ _ _ _ _ h => h
/-- a tuple of two ints -/
def Pr (H : Hp) (v : V) (p : Int × Int) : Prop := ∃ a, v = .ref a ∧ H a = some (.tup [.int p.1, .int p.2])
theorem st_Pr : St Pr := fun _ _ _ _ t h => by obtain ⟨a, e, q⟩ := h; exact ⟨a, e, t _ _ q⟩
theorem all2_tk {β : Type} {R : Hp → V → β → Prop} (s : St R) {H H' : Hp} {l : List V} {m : List β} (t : Tk H H') (h : All2 (R H) l m) : All2 (R H') l m := h.mono fun x y r => s H H' x y t r
theorem all2_I {H : Hp} {l : List V} {m : List Int} : All2 (IsI H) l m ↔ l = vi m := All2.map_fn (f := V.int)
theorem all2_N {H : Hp} {l : List V} {m : List Nat} : All2 (IsN H) l m ↔ l = vn m := All2.map_fn (f := fun r : Nat => V.int (r : Int))
/-- a net -/
def Net (H : Hp) (n : Addr) (m : Int) (R : Arcs) : Prop := ∃ r ps, H n = some (.tup [.int m, .ref r]) ∧ H r = some (.tup ps) ∧ All2 (Pr H) ps R
theorem Net.tk {H H' : Hp} {n : Addr} {m : Int} {R : Arcs} (h : Net H n m R) (t : Tk H H') : Net H' n m R := by
  obtain ⟨r, ps, a, b, c⟩ := h
  exact ⟨r, ps, t _ _ a, t _ _ b, all2_tk st_Pr t c⟩
theorem ft_get {A : Arcs} {i : Nat} {p : Int × Int} (h : A[i]? = some p) : ft A i = p.1 ∧ hd A i = p.2 := by
  unfold ft hd
  rw [List.getD_eq_getElem?_getD, h]
  exact ⟨rfl, rfl⟩
theorem get_ft {A : Arcs} {i : Nat} (h : i < A.length) : A[i]? = some (ft A i, hd A i) := by
  unfold ft hd
  rw [List.getD_eq_getElem?_getD, List.getElem?_eq_getElem h]; rfl
/-! ### enumerate of a tuple, a walk -/
theorem walk_enumT {K : PySem.W.Frag} {a : Addr} {xs : List V} : Walk (IteT K a) xs.length (fun H => SqT K H a xs) (YPair (fun i => some (.int (i : Nat))) (fun i => xs[i]?)) := by
  refine ⟨fun i _ hi q => ⟨xs, xs[i], q, by simp [hi]⟩, fun _ q => ⟨xs, q, Nat.le_refl _⟩, fun i H v H' _ q y => ?_⟩
  obtain ⟨T, x, h1, h2, h3, h4⟩ := y
  exact ⟨T, .int (i : Nat), x, h1, h2, h3, rfl, h4 xs q⟩
/-! ### comprehensions -/
section
variable {β : Type}
/-- how far a comprehension is: the heap at its start, the pure list after i turns -/
def Cx1 (H : Hp) (R : Hp → V → β → Prop) (out : Nat → List β) (D : Addr) (i : Nat) (H' : Hp) : Prop := H D = none ∧ Ex H H' ∧ ∃ acc, H' D = some (.lst acc) ∧ All2 (R H') acc (out i)
variable {H H' H4 : Hp} {R : Hp → V → β → Prop} {out : Nat → List β} {D : Addr} {i : Nat} {b : β} {y : V}
theorem cx_zero (h : H D = none) (o : out 0 = []) : Cx1 H R out D 0 (upd H D (.lst [])) := ⟨h, Evl.Ex.new h, [], upd_same, by rw [o]; exact .nil⟩
theorem cx_yes (s : St R) (p : Cx1 H R out D i H') (e : Ex H' H4) (r : R H4 y b) (o : out (i + 1) = out i ++ [b]) (hl : (out i).length < 50000) :
    ∃ acc, H4 D = some (.lst acc) ∧ acc.length < sizeLine ∧ Cx1 H R out D (i + 1) (upd H4 D (.lst (acc ++ [y]))) := by
  obtain ⟨p1, p2, acc, p3, p4⟩ := p
  have q := e D _ p3
  have t : Tk H4 (upd H4 D (.lst (acc ++ [y]))) := tk_upd q fun xs z => by cases z
  refine ⟨acc, q, sz_lt (by rw [p4.1]; omega), p1, upd_ex (p2.trans e) p1, acc ++ [y], upd_same, ?_⟩
  rw [o]
  exact (all2_tk s ((tk_ex e).trans t) p4).snoc (s _ _ _ _ t r)
theorem cx_no (s : St R) (p : Cx1 H R out D i H') (e : Ex H' H4) (o : out (i + 1) = out i) : Cx1 H R out D (i + 1) H4 := by
  obtain ⟨p1, p2, acc, p3, p4⟩ := p
  exact ⟨p1, p2.trans e, acc, e D _ p3, by rw [o]; exact all2_tk s (tk_ex e) p4⟩
/-- the list so far -/
def upto (f : Nat → Bool) (v : Nat → β) (n : Nat) : List β := ((List.range n).filter f).map v
theorem upto_0 {f : Nat → Bool} {v : Nat → β} : upto f v 0 = [] := rfl
theorem upto_yes {f : Nat → Bool} {v : Nat → β} {n : Nat} (h : f n = true) : upto f v (n + 1) = upto f v n ++ [v n] := by
  unfold upto
  rw [List.range_succ, List.filter_append, List.map_append, List.filter_cons, if_pos h]; rfl
theorem upto_no {f : Nat → Bool} {v : Nat → β} {n : Nat} (h : f n = false) : upto f v (n + 1) = upto f v n := by
  unfold upto
  rw [List.range_succ, List.filter_append, List.map_append, List.filter_cons, if_neg (by rw [h]; decide)]
  show _ ++ [] = _
  rw [List.append_nil]
theorem upto_len (f : Nat → Bool) (v : Nat → β) (n : Nat) : (upto f v n).length ≤ n := by
  unfold upto
  rw [List.length_map]
  have := List.length_filter_le f (List.range n)
  rwa [List.length_range] at this
/-- a turn of a comprehension with one test, whole -/
theorem cx_turn {f : Nat → Bool} {v : Nat → β} {c : Bool} {te : TE} {σ : L2.St} (s : St R) (p : Cx1 H R (upto f v) D i H') (e : Ex H' H4) (hc : c = f i) (hl : i < 50000)
    (k : f i = true → (∀ Q : VK, (∀ y H5, Ex H4 H5 → R H5 y (v i) → Q y H5) → te σ H4 Q)) :
    if c = true then te σ H4 fun y H5 => ∃ acc, H5 D = some (.lst acc) ∧ acc.length < sizeLine ∧ Cx1 H R (upto f v) D (i + 1) (upd H5 D (.lst (acc ++ [y]))) else Cx1 H R (upto f v) D (i + 1) H4 := by
  subst hc
  cases h : f i with
  | true =>
    rw [if_pos rfl]
    refine k h _ fun y H5 e5 r => ?_
    exact cx_yes s p (e.trans e5) r (upto_yes h) (Nat.lt_of_le_of_lt (upto_len _ _ _) hl)
  | false =>
    rw [if_neg (by decide)]
    exact cx_no s p e (upto_no h)
/-- .. with no test -/
theorem cx_all {v : Nat → β} {te : TE} {σ : L2.St} (s : St R) (p : Cx1 H R (upto (fun _ => true) v) D i H') (e : Ex H' H4) (hl : i < 50000)
    (k : ∀ Q : VK, (∀ y H5, Ex H4 H5 → R H5 y (v i) → Q y H5) → te σ H4 Q) :
    tYes σ H4 fun b H3 => if b = true then te σ H3 fun y H5 => ∃ acc, H5 D = some (.lst acc) ∧ acc.length < sizeLine ∧ Cx1 H R (upto (fun _ => true) v) D (i + 1) (upd H5 D (.lst (acc ++ [y]))) else Cx1 H R (upto (fun _ => true) v) D (i + 1) H3 :=
  cx_turn (te := te) (σ := σ) (f := fun _ => true) (c := true) s p e rfl hl fun _ => k
end
theorem itT {p q : Prop} (h : p) : if true = true then p else q := by rw [if_pos rfl]; exact h
theorem itF {p q : Prop} (h : q) : if false = true then p else q := by rw [if_neg (by decide)]; exact h
theorem itB {b : Bool} {p q : Prop} (h1 : b = true → p) (h2 : b = false → q) : if b = true then p else q := by
  cases b with
  | true => exact itT (h1 rfl)
  | false => exact itF (h2 rfl)
/-! ### calls by keywords alone -/
structure CalK (P : Program) (w : World) (K : PySem.W.Frag) (mg : Str → Option Value) (base : Heap) (k : Nat) (x : Str) (sp : Sp) (ks : List Str) (gV : List V → List V → List V) : Prop where
  ex : ∃ (f : Addr) (fd : FuncData) (ps : List Str) (g : List Value → List Value → List Value), FnOk P w K mg base CX0 k f fd ps sp ∧ mg x = some (.ref f) ∧ PySem.W.keepIn K (.ref f) = true ∧ KBinds K fd ps ks g gV
theorem pe_ck {X : Cx} {k j : Nat} {x : Str} {sp : Sp} {ks : List Str} {gV : List V → List V → List V} {p pos : Pos} {kws : List Keyword} {tk : TA} (c : CalK X.prog X.w X.K X.mg X.base k x sp ks gV) (hr : Room j X.A) (hk : k ≤ j) (hg : Gl X x) (hkw : PK X kws tk)
    (hall : (backToKw pos (keywordEach kws X.env)).all (·.1.isSome) = true := by rfl) (hks : (backToKw pos (keywordEach kws X.env)).filterMap (·.1) = ks := by rfl)
    (hdb : (x == ("__debug__" : Str)) = false := by decide)
    (hpl : ((backTo pos (starEach [] X.env)).any (·.1) || (backToKw pos (keywordEach kws X.env)).any (·.1.isNone)) = false := by rfl) : PE X (.Call (.Name x p) [] kws pos) (tCallK sp gV E0 tNil tk) := by
  obtain ⟨f, fd, ps, g, F, hm, kp, b⟩ := c.ex
  exact pe_kw0 F (hr.mono hk) hg hm kp b pass0 hkw hall hks hdb hpl
end K56

namespace K56
open PySem PySem.Spec PyProof.Rows L2 K56R
open Evl (Ex ex_l ex_t sq_of st_of fresh_back sz_of sz_lt)
/-! ### roads_from -/
def rf (R : Arcs) (p : Int) : List Nat := upto (fun r => decide (ft R r = p)) (fun r => r) R.length
theorem mem_rf {R : Arcs} {p : Int} {r : Nat} : r ∈ rf R p ↔ r < R.length ∧ ft R r = p := by
  simp [rf, upto]
theorem rf_nodup (R : Arcs) (p : Int) : (rf R p).Nodup := by
  unfold rf upto
  rw [List.map_id']
  exact List.Pairwise.filter _ List.nodup_range
theorem rf_len (R : Arcs) (p : Int) : (rf R p).length ≤ R.length := upto_len _ _ _
def sp_roads_from (_ : PySem.W.Frag) : Sp := fun vs H Q _ => ∃ n m R p, vs = [.ref n, .int p] ∧ Net H n m R ∧ R.length ≤ 1000 ∧ ∀ a H', Ex H H' → H' a = some (.tup (vn (rf R p))) → Q (.ref a) H'
theorem ok_roads_from {P : Program} {w : World} {K : PySem.W.Frag} {mg : Str → Option Value} {base : Heap} {f : Addr} {fd : FuncData} (F : L2.Fun K "roads_from" "roads_from" s_roads_from f fd) (B : Bn mg) :
    FnOk P w K mg base CX0 1 f fd ["net", "place"] (sp_roads_from K) := by
  refine F.ok (k := 0) sc_roads_from (fun vs H Q E h => ?_) (fun cdv A outer s H vs Q E hr h => ?_)
  · obtain ⟨_, _, _, _, rfl, _⟩ := h
    rfl
  · obtain ⟨n, m, R, p, rfl, ⟨r, ps, h1, h2, h3⟩, hl, q⟩ := h
    have hu := hu_of hr
    refine ⟨_, (pss_one (ps_ret (pe_callTy call_tuple_of (by rfl) B.tuple (by decide +kernel) (pa_cons (pe_lc (own := [("road", 2), ("pair", 3)]) rfl sc_roads_from.nd (pi_enumT (by rfl) B.enumerate (pa_cons (pe_ix ix_tup (pv 0) pe_int (fun _ _ => rfl)) pa_nil)) (blkOk_by (own := [("road", 2), ("pair", 3)]) (N := N_roads_from) (sc := defScope s_roads_from) (by decide +kernel)) (fun _ _ _ _ _ => (pg_tupK K (by rfl) (pgs_cons (pg_name (i := 2) sc_roads_from.nd rfl (Or.inl rfl)) (pgs_cons (pg_name (i := 3) sc_roads_from.nd rfl (Or.inl rfl)) pgs_nil)))) (fun _ _ _ _ _ => (pts_one (pt_cmpR op_eq (pe_ix (ix_tupK K) (pv 3) pe_int (fun _ _ => rfl)) (pv 1) (nomark _)))) (fun _ _ _ _ _ => (pv 2))) pa_nil)))), ?_⟩
    refine ⟨.ref n, rfl, n, _, 1, .ref r, rfl, rfl, st_of h1, rfl, r, ps, rfl, st_of h2, fun D nD => ?_⟩
    refine lc_it walk_enumT (Cx1 H IsN (upto (fun r => decide (ft R r = p)) (fun r => r)) D) (cx_zero nD rfl) (fun i H' _ pv => st_of (pv.2.1 _ _ h2)) (fun i x H' H2 hi pv y => ?_) fun H' pv => ?_
    · obtain ⟨T, x1, x2, rfl, nT, rfl, e1, e2⟩ := y
      cases e1
      obtain ⟨z, ez, a, ea, ha⟩ := h3.get' e2
      subst ea
      have ex := Evl.Ex.new (o := .tup [.int (i : Nat), .ref a]) nT
      have ha' := (pv.2.1.trans ex) _ _ ha
      refine ⟨T, _, rfl, st_of upd_same, rfl, _, _, rfl, _, _, rfl, rfl, rfl, ?_⟩
      refine ⟨.ref a, rfl, a, _, 0, .int z.1, rfl, rfl, st_of ha', rfl, .int p, rfl, rfl, _, rfl, ?_⟩
      refine cx_turn st_N pv ex ?_ (by have := h3.1; omega) fun hf Q k => ⟨.int i, rfl, k _ _ (Evl.Ex.refl _) rfl⟩
      rw [(ft_get ez).1]
      simp
    · obtain ⟨nD', ex, acc, hD, hA⟩ := pv
      rw [all2_N] at hA
      refine ⟨D, acc, rfl, .inl ⟨sq_of hD, fun l nl => ?_⟩⟩
      refine q l _ (upd_ex ex (fresh_back ex nl)) ?_
      rw [upd_same, hA, h3.1]
      rfl
/-! ### going, total -/
def cf (c : List Int) (r : Nat) : Int := c.getD r 0
theorem cf_get {c : List Int} {r : Nat} (h : r < c.length) : c[r]? = some (cf c r) := by
  unfold cf
  rw [List.getD_eq_getElem?_getD, List.getElem?_eq_getElem h]; rfl
theorem vi_get {c : List Int} {r : Nat} (h : r < c.length) : (vi c)[r]? = some (.int (cf c r)) := by
  unfold vi
  rw [List.getElem?_map, cf_get h]; rfl
theorem vn_get {l : List Nat} {i : Nat} {x : V} (h : (vn l)[i]? = some x) : ∃ r, l[i]? = some r ∧ x = .int (r : Int) := by
  unfold vn at h
  rw [List.getElem?_map] at h
  cases e : l[i]? with
  | none => rw [e] at h; cases h
  | some r => rw [e] at h; exact ⟨r, rfl, (Option.some.inj h).symm⟩
theorem upto_all {α β : Type} (g : α → β) (d : α) (l : List α) : upto (fun _ => true) (fun i => g (l.getD i d)) l.length = l.map g := by
  unfold upto
  rw [List.filter_eq_self.mpr (fun _ _ => rfl)]
  refine List.ext_getElem? fun i => ?_
  rw [List.getElem?_map, List.getElem?_map]
  by_cases h : i < l.length
  · rw [List.getElem?_range h, List.getElem?_eq_getElem h]
    simp [List.getD_eq_getElem?_getD, List.getElem?_eq_getElem h]
  · rw [List.getElem?_eq_none (by simpa using h), List.getElem?_eq_none (by omega)]; rfl
theorem getD_of {α : Type} {l : List α} {i : Nat} {x d : α} (h : l[i]? = some x) : l.getD i d = x := by
  rw [List.getD_eq_getElem?_getD, h]; rfl
theorem sum_sm {α : Type} (g : α → Int) : ∀ l : List α, (l.map g).sum = sm g l
  | [] => rfl
  | x :: l => by rw [List.map_cons, List.sum_cons, sum_sm g l]; rfl
theorem sm_upto (g : Nat → Int) (f : Nat → Bool) : ∀ n, sm g (upto f (fun r => r) n) = sr (fun r => g r * b1 (f r)) n
  | 0 => rfl
  | n + 1 => by
    simp only [sr]
    cases h : f n with
    | true => rw [upto_yes h, sm_app, sm_upto g f n]; simp [sm, b1]
    | false => rw [upto_no h, sm_upto g f n]; simp [b1]
theorem sm_rf (g : Nat → Int) (R : Arcs) (p : Int) : sm g (rf R p) = sr (fun r => g r * b1 (ft R r == p)) R.length := by
  unfold rf
  rw [sm_upto]
  exact sr_congr fun r _ => by
    congr 2
def sp_going (_ : PySem.W.Frag) : Sp := fun vs H Q _ => ∃ n m R p t c, vs = [.ref n, .ref t, .int p] ∧ Net H n m R ∧ R.length ≤ 1000 ∧ H t = some (.tup (vi c)) ∧ c.length = R.length ∧ ∀ H', Ex H H' → Q (.int (sm (cf c) (rf R p))) H'
theorem ok_going {P : Program} {w : World} {K : PySem.W.Frag} {mg : Str → Option Value} {base : Heap} {f : Addr} {fd : FuncData} (F : L2.Fun K "going" "going" s_going f fd) (B : Bn mg)
    (C_roads_from : C8.Cal P w K mg base 1 "roads_from" (sp_roads_from K) []) :
    FnOk P w K mg base CX0 2 f fd ["net", "counts", "place"] (sp_going K) := by
  refine F.ok (k := 1) sc_going (fun vs H Q E h => ?_) (fun cdv A outer s H vs Q E hr h => ?_)
  · obtain ⟨_, _, _, _, _, _, rfl, _⟩ := h
    rfl
  · obtain ⟨n, m, R, p, t, c, rfl, hN, hl, ht, hc, q⟩ := h
    have hu := hu_of hr
    refine ⟨_, (pss_one (ps_ret (pe_callB (cr_sum rfl) (by rfl) B.sum (by decide +kernel) (pa_cons (pe_lc (own := [("road", 3)]) rfl sc_going.nd (pi_tup (C8.pe_c C_roads_from hr (by decide) (by rfl) (pa_cons (pv 0) (pa_cons (pv 2) pa_nil)))) (blkOk_by (own := [("road", 3)]) (N := N_going) (sc := defScope s_going) (by decide +kernel)) (fun _ _ _ _ _ => (pg_name (i := 3) sc_going.nd rfl (Or.inl rfl))) (fun _ _ _ _ _ => pts_nil) (fun _ _ _ _ _ => (pe_ix (ix_tupK K) (pv 1) (pv 3) (fun _ _ => rfl)))) pa_nil)))), ?_⟩
    refine ⟨.ref n, rfl, .int p, rfl, n, m, R, p, rfl, hN, hl, fun a H1 e1 h1 => ⟨a, rfl, ⟨_, st_of h1⟩, fun D nD => ?_⟩⟩
    refine lc_it walk_tup (Cx1 H1 IsI (upto (fun _ => true) (fun i => cf c ((rf R p).getD i 0))) D) (cx_zero nD rfl) (fun i H' _ pv => st_of (pv.2.1 _ _ h1)) (fun i x H' H2 hi pv y => ?_) fun H' pv => ?_
    · obtain ⟨rfl, e⟩ := y
      obtain ⟨r, er, rfl⟩ := vn_get e
      have hr' := (mem_rf.mp (List.mem_of_getElem? er)).1
      refine ⟨rfl, ?_⟩
      refine cx_all st_I pv (Evl.Ex.refl _) (by have := rf_len R p; simp [vn] at hi; omega) fun Q k => ⟨.ref t, rfl, .int r, rfl, t, _, r, _, rfl, rfl, st_of (pv.2.1 _ _ (e1 _ _ ht)), atI_nat (vi_get (by omega)), k _ _ (Evl.Ex.refl _) ?_⟩
      rw [getD_of er]; rfl
    · obtain ⟨nD', ex, acc, hD, hA⟩ := pv
      rw [all2_I, show (vn (rf R p)).length = (rf R p).length by simp [vn], upto_all (cf c)] at hA
      refine ⟨D, (rf R p).map (cf c), rfl, sq_of (by rw [hD, hA]), ?_⟩
      rw [sum_sm]
      exact q _ (e1.trans ex)
def sp_total (_ : PySem.W.Frag) : Sp := fun vs H Q _ => ∃ n m R t c, vs = [.ref n, .ref t] ∧ Net H n m R ∧ R.length ≤ 1000 ∧ H t = some (.tup (vi c)) ∧ c.length = R.length ∧ ∀ H', Ex H H' → Q (.int (tot R (cf c))) H'
theorem ok_total {P : Program} {w : World} {K : PySem.W.Frag} {mg : Str → Option Value} {base : Heap} {f : Addr} {fd : FuncData} (F : L2.Fun K "total" "total" s_total f fd) (B : Bn mg)
    (C_going : C8.Cal P w K mg base 2 "going" (sp_going K) []) :
    FnOk P w K mg base CX0 3 f fd ["net", "tally"] (sp_total K) := by
  refine F.ok (k := 2) sc_total (fun vs H Q E h => ?_) (fun cdv A outer s H vs Q E hr h => ?_)
  · obtain ⟨_, _, _, _, _, rfl, _⟩ := h
    rfl
  · obtain ⟨n, m, R, t, c, rfl, hN, hl, ht, hc, q⟩ := h
    have hu := hu_of hr
    refine ⟨_, (pss_one (ps_ret (C8.pe_c C_going hr (by decide) (by rfl) (pa_cons (pv 0) (pa_cons (pv 1) (pa_cons pe_int pa_nil)))))), ?_⟩
    refine ⟨.ref n, rfl, .ref t, rfl, n, m, R, 0, t, c, rfl, hN, hl, ht, hc, fun H1 e1 => ?_⟩
    rw [sm_rf]
    exact q _ e1
/-! ### shut_room -/
def shutL (c : List Int) (ns : List Nat) : List Int := upto (fun _ => true) (fun r => shut (cf c) ns r) c.length
theorem shutL_len (c : List Int) (ns : List Nat) : (shutL c ns).length = c.length := by
  unfold shutL upto
  rw [List.filter_eq_self.mpr (fun _ _ => rfl)]
  simp
theorem shutL_cf {c : List Int} {ns : List Nat} {r : Nat} (h : r < c.length) : cf (shutL c ns) r = shut (cf c) ns r := by
  unfold shutL upto
  rw [List.filter_eq_self.mpr (fun _ _ => rfl)]
  refine getD_of ?_
  rw [List.getElem?_map, List.getElem?_range h]; rfl
theorem inV_vn {ns : List Nat} {r : Nat} : inV (.int r) (vn ns) = decide (r ∈ ns) := by
  rw [Bool.eq_iff_iff, decide_eq_true_eq]
  unfold inV vn
  rw [List.any_map, List.any_eq_true]
  constructor
  · rintro ⟨a, ha, e⟩
    have : (((a : Nat) : Int) == ((r : Nat) : Int)) = true := e
    have e2 : ((a : Nat) : Int) = r := by simpa using this
    rwa [← show a = r by omega]
  · intro h
    exact ⟨r, h, (show (((r : Nat) : Int) == ((r : Nat) : Int)) = true by simp)⟩
theorem flat_vn (ns : List Nat) : (vn ns).all flatV = true := by
  rw [List.all_eq_true]
  intro x hx
  obtain ⟨r, _, rfl⟩ := List.mem_map.mp hx
  rfl
def sp_shut_room (_ : PySem.W.Frag) : Sp := fun vs H Q _ => ∃ t c s ns, vs = [.ref t, .ref s] ∧ H t = some (.tup (vi c)) ∧ H s = some (.tup (vn ns)) ∧ c.length ≤ 1000 ∧ ∀ a H', Ex H H' → H' a = some (.tup (vi (shutL c ns))) → Q (.ref a) H'
theorem ok_shut_room {P : Program} {w : World} {K : PySem.W.Frag} {mg : Str → Option Value} {base : Heap} {f : Addr} {fd : FuncData} (F : L2.Fun K "shut_room" "shut_room" s_shut_room f fd) (B : Bn mg) :
    FnOk P w K mg base CX0 1 f fd ["tally", "roads"] (sp_shut_room K) := by
  refine F.ok (k := 0) sc_shut_room (fun vs H Q E h => ?_) (fun cdv A outer s H vs Q E hr h => ?_)
  · obtain ⟨_, _, _, _, rfl, _⟩ := h
    rfl
  · obtain ⟨t, c, s', ns, rfl, ht, hs, hl, q⟩ := h
    have hu := hu_of hr
    refine ⟨_, (pss_one (ps_ret (pe_callTy call_tuple_of (by rfl) B.tuple (by decide +kernel) (pa_cons (pe_lc (own := [("road", 2), ("count", 3)]) rfl sc_shut_room.nd (pi_enumT (by rfl) B.enumerate (pa_cons (pv 0) pa_nil)) (blkOk_by (own := [("road", 2), ("count", 3)]) (N := N_shut_room) (sc := defScope s_shut_room) (by decide +kernel)) (fun _ _ _ _ _ => (pg_tupK K (by rfl) (pgs_cons (pg_name (i := 2) sc_shut_room.nd rfl (Or.inl rfl)) (pgs_cons (pg_name (i := 3) sc_shut_room.nd rfl (Or.inl rfl)) pgs_nil)))) (fun _ _ _ _ _ => pts_nil) (fun _ _ _ _ _ => (pe_ifExp (pt_cmpR (op_in_seqK K) (pv 2) (pv 1) (by rfl)) pe_int (pv 3)))) pa_nil)))), ?_⟩
    refine ⟨.ref t, rfl, t, vi c, rfl, st_of ht, fun D nD => ?_⟩
    refine lc_it walk_enumT (Cx1 H IsI (upto (fun _ => true) (fun r => shut (cf c) ns r)) D) (cx_zero nD rfl) (fun i H' _ pv => st_of (pv.2.1 _ _ ht)) (fun i x H' H2 hi pv y => ?_) fun H' pv => ?_
    · obtain ⟨T, x1, x2, rfl, nT, rfl, e1, e2⟩ := y
      cases e1
      have hi' : i < c.length := by simpa [vi] using hi
      cases (vi_get hi').symm.trans e2
      have ex := Evl.Ex.new (o := .tup [.int (i : Nat), .int (cf c i)]) nT
      refine ⟨T, _, rfl, st_of upd_same, rfl, _, _, rfl, _, _, rfl, rfl, rfl, ?_⟩
      refine cx_all st_I pv ex (by omega) fun Q k => ?_
      refine ⟨.int i, rfl, .ref s', rfl, s', _, rfl, .inr (st_of (ex _ _ (pv.2.1 _ _ hs))), rfl, flat_vn _, _, rfl, ?_⟩
      rw [if_neg (by decide), inV_vn]
      refine itB (fun hm => ?_) (fun hm => ?_)
      · exact k _ _ (Evl.Ex.refl _) (by unfold shut; rw [if_pos (of_decide_eq_true hm)]; rfl)
      · exact ⟨_, rfl, k _ _ (Evl.Ex.refl _) (by unfold shut; rw [if_neg (of_decide_eq_false hm)]; rfl)⟩
    · obtain ⟨nD', ex, acc, hD, hA⟩ := pv
      rw [all2_I, show (vi c).length = c.length by simp [vi]] at hA
      refine ⟨D, acc, rfl, .inl ⟨sq_of hD, fun l nl => ?_⟩⟩
      refine q l _ (upd_ex ex (fresh_back ex nl)) ?_
      rw [upd_same, hA]
      rfl
end K56


namespace K56
open PySem PySem.Spec PyProof.Rows L2 K56R
open Evl (Ex ex_l ex_t sq_of st_of fresh_back sz_of sz_lt)
/-! ### places_from -/
def clo1 (s : Int → Bool) (p : Int × Int) : Int → Bool := fun z => s z || (s p.1 && decide (z = p.2))
def clo (s : Int → Bool) : List (Int × Int) → Int → Bool
  | [] => s
  | p :: l => clo (clo1 s p) l
theorem clo_snoc (p : Int × Int) : ∀ (l : List (Int × Int)) (s : Int → Bool), clo s (l ++ [p]) = clo1 (clo s l) p
  | [], s => rfl
  | q :: l, s => clo_snoc p l _
theorem clo_mono {z : Int} : ∀ (l : List (Int × Int)) (s : Int → Bool), s z = true → clo s l z = true
  | [], s, h => h
  | q :: l, s, h => clo_mono l _ (by unfold clo1; rw [h]; rfl)
theorem clo_none {z : Int} : ∀ (l : List (Int × Int)) (s : Int → Bool), (∀ p ∈ l, p.2 ≠ z) → clo s l z = s z
  | [], s, h => rfl
  | q :: l, s, h => by
    show clo (clo1 s q) l z = s z
    rw [clo_none l _ fun p hp => h p (List.mem_cons_of_mem _ hp)]
    unfold clo1
    rw [decide_eq_false fun e => h q List.mem_cons_self e.symm]
    simp
theorem clo_sound {P : Int → Prop} {z : Int} : ∀ (l : List (Int × Int)) (s : Int → Bool), (∀ z, s z = true → P z) → (∀ p ∈ l, P p.1 → P p.2) → clo s l z = true → P z
  | [], s, h, _, e => h z e
  | q :: l, s, h, k, e => clo_sound l _ (fun y hy => by
      unfold clo1 at hy
      rcases Bool.or_eq_true_iff.mp hy with a | a
      · exact h y a
      · obtain ⟨a1, a2⟩ := Bool.and_eq_true_iff.mp a
        rw [of_decide_eq_true a2]
        exact k q List.mem_cons_self (h _ a1)) (fun p hp => k p (List.mem_cons_of_mem _ hp)) e
theorem clo_closed : ∀ (l : List (Int × Int)) (s : Int → Bool), l.Pairwise (fun p q => p.1 ≤ q.1) → (∀ p ∈ l, p.1 < p.2) → ∀ p ∈ l, clo s l p.1 = true → clo s l p.2 = true
  | [], _, _, _, p, hp, _ => by cases hp
  | q :: l, s, hs, hu, p, hp, e => by
    obtain ⟨h1, h2⟩ := List.pairwise_cons.mp hs
    rcases List.mem_cons.mp hp with rfl | hp'
    · refine clo_mono l _ ?_
      have e1 : clo (clo1 s p) l p.1 = true := e
      rw [clo_none l _ fun r hr z => by have := h1 r hr; have := hu r (List.mem_cons_of_mem _ hr); omega] at e1
      unfold clo1 at e1 ⊢
      have := hu p List.mem_cons_self
      rw [decide_eq_false (show ¬ p.1 = p.2 by omega), Bool.and_false, Bool.or_false] at e1
      rw [e1, decide_eq_true rfl]
      simp
    · exact clo_closed l _ h2 (fun r hr => hu r (List.mem_cons_of_mem _ hr)) p hp' e
theorem clo_path {many : Int} {R : Arcs} (N : NetOk many R) {S : List (Int × Int)} (hm : ∀ p, p ∈ S ↔ p ∈ R) (hs : S.Pairwise (fun p q => p.1 ≤ q.1)) (a z : Int) :
    clo (fun y => decide (y = a)) S z = true ↔ ∃ u, IsPath R a u z := by
  have lt : ∀ p ∈ S, p.1 < p.2 := fun p hp => by
    obtain ⟨i, hi⟩ := List.mem_iff_getElem?.mp ((hm p).mp hp)
    obtain ⟨e1, e2⟩ := ft_get hi
    have := (N.rd i (List.getElem?_eq_some_iff.mp hi).1).2.1
    rw [e1, e2] at this; exact this
  constructor
  · intro h
    refine clo_sound (P := fun z => ∃ u, IsPath R a u z) S _ (fun y hy => ⟨[], (of_decide_eq_true hy).symm⟩) (fun p hp ⟨u, hu⟩ => ?_) h
    obtain ⟨i, hi⟩ := List.mem_iff_getElem?.mp ((hm p).mp hp)
    obtain ⟨e1, e2⟩ := ft_get hi
    exact ⟨u ++ [i], path_app.mpr ⟨p.1, hu, (List.getElem?_eq_some_iff.mp hi).1, e1, e2⟩⟩
  · rintro ⟨u, hu⟩
    have main : ∀ (u : List Nat) (x : Int), clo (fun y => decide (y = a)) S x = true → IsPath R x u z → clo (fun y => decide (y = a)) S z = true := by
      intro u
      induction u with
      | nil => intro x hx e; rw [← show x = z from e]; exact hx
      | cons r u ih =>
        rintro x hx ⟨h1, h2, h3⟩
        refine ih (hd R r) ?_ h3
        have := clo_closed S (fun y => decide (y = a)) hs lt (ft R r, hd R r) ((hm _).mpr (List.mem_of_getElem? (get_ft h1)))
        exact this (by rw [show (ft R r, hd R r).1 = x from h2]; exact hx)
    exact main u a (clo_mono S _ (decide_eq_true rfl)) hu
def keyOfH (H : Hp) : V → List Int
  | .ref t => match H t with
    | some (.tup [.int a, .int b]) => [a, b]
    | _ => []
  | _ => []
def pairOfH (H : Hp) (x : V) : Int × Int := match keyOfH H x with
  | [a, b] => (a, b)
  | _ => (0, 0)
theorem pr_key {H : Hp} {x : V} {p : Int × Int} (h : Pr H x p) : keyOfH H x = [p.1, p.2] ∧ pairOfH H x = p := by
  obtain ⟨a, rfl, e⟩ := h
  have : keyOfH H (.ref a) = [p.1, p.2] := by
    unfold keyOfH
    simp only [e]
  refine ⟨this, ?_⟩
  unfold pairOfH
  rw [this]
theorem putK_len {κ : Type} [DecidableEq κ] (kvs : List (κ × V)) (k : κ) (v : V) : (putK kvs k v).length ≤ kvs.length + 1 := by
  unfold putK
  split <;> simp
theorem cut_last (xs : List V) : HT.sIx xs.length 0 none = 0 ∧ HT.sIx xs.length xs.length (some (-1)) = xs.length - 1 := by
  refine ⟨rfl, ?_⟩
  show (if (-1 : Int) < 0 then ((-1 : Int) + (xs.length : Int)).toNat else min (-1 : Int).toNat xs.length) = xs.length - 1
  rw [if_pos (by decide)]
  omega
def sp_places_from (_ : PySem.W.Frag) : Sp := fun vs H Q _ => ∃ n m R p, vs = [.ref n, .int p] ∧ Net H n m R ∧ NetOk m R ∧ R.length ≤ 1000 ∧
  ∀ d kvs H', Ex H H' → H' d = some (.dK kvs) → (∀ z : Int, (valV kvs (.inl z)).isSome = true ↔ ∃ u, IsPath R p u z) → Q (.ref d) H'
theorem ok_places_from {P : Program} {w : World} {K : PySem.W.Frag} {mg : Str → Option Value} {base : Heap} {f : Addr} {fd : FuncData} (F : L2.Fun K "places_from" "places_from" s_places_from f fd) (B : Bn mg) :
    FnOk P w K mg base CX0 1 f fd ["net", "place"] (sp_places_from K) := by
  refine F.ok (k := 0) sc_places_from (fun vs H Q E h => ?_) (fun cdv A outer s H vs Q E hr h => ?_)
  · obtain ⟨_, _, _, _, rfl, _⟩ := h
    rfl
  · obtain ⟨n, m, R, p, rfl, ⟨r, ps, h1, h2, h3⟩, hN, hl, q⟩ := h
    have hu := hu_of hr
    refine ⟨_, (pss_cons (ps_set (i := 2) sc_places_from.nd rfl (Or.inl rfl) (pe_disp (pps_cons (pv 1) pe_bl pps_nil) (by rfl) (by rfl) (fun z => by cases z) (by decide)))
          (pss_cons (ps_for PassesOwn.never rfl (pi_list (pe_callB cr_sortTs (by rfl) B.sorted (by decide +kernel) (pa_cons (pe_ix ix_tup (pv 0) pe_int (fun _ _ => rfl)) pa_nil))) (pg_tup (by rfl) (pgs_cons (pg_name (i := 3) sc_places_from.nd rfl (Or.inl rfl)) (pgs_cons (pg_name (i := 4) sc_places_from.nd rfl (Or.inl rfl)) pgs_nil))) (pss_one (ps_if (pt_cmp (pc_din hu (pv 3) (pv 2))) (pss_one (ps_dput hu (pv 2) (pv 4) pe_bl rfl)) pss_nil)))
          (pss_one (ps_ret (pv 2))))), ?_⟩
    refine fun d nd => ⟨.int p, rfl, upd_same, [(.inl p, .bl true)], rfl, by simp, ?_⟩
    rw [upd_upd]
    have ex0 : Ex H (upd H d (.dK (mergeK [] [(.inl p, .bl true)]))) := Evl.Ex.new nd
    generalize hH1 : upd H d (.dK (mergeK [] [(.inl p, .bl true)])) = H1 at ex0
    have hd1 : H1 d = some (.dK [(.inl p, .bl true)]) := by rw [← hH1, upd_same]; rfl
    refine ⟨.ref n, rfl, n, _, 1, .ref r, rfl, rfl, st_of (ex0 _ _ h1), rfl, r, ps, keyOfH H1, rfl, .inr (st_of (ex0 _ _ h2)), fun x hx => ?_, fun ys l perm sorted nl => ?_⟩
    · obtain ⟨z, hz, a, rfl, ea⟩ := h3.mem hx
      refine ⟨a, rfl, ?_, ?_⟩
      · rw [(pr_key ⟨a, rfl, ex0 _ _ ea⟩).1]; exact ex0 _ _ ea
      · rw [(pr_key ⟨a, rfl, ex0 _ _ ea⟩).1]; simp
    · have hS : All2 (Pr H1) ys (ys.map (pairOfH H1)) := ⟨by simp, fun i x y ex ey => by
        rw [List.getElem?_map, ex] at ey
        obtain ⟨z, hz, rz⟩ := h3.mem (perm.mem_iff.mp (List.mem_of_getElem? ex))
        have rz1 := st_Pr _ _ _ _ (tk_ex ex0) rz
        rw [← Option.some.inj ey, (pr_key rz1).2]; exact rz1⟩
      generalize hSS : ys.map (pairOfH H1) = S at hS
      have hm : ∀ z, z ∈ S ↔ z ∈ R := fun z => by
        rw [← hSS, List.mem_map]
        constructor
        · rintro ⟨x, hx, rfl⟩
          obtain ⟨z, hz, rz⟩ := h3.mem (perm.mem_iff.mp hx)
          rw [(pr_key (st_Pr _ _ _ _ (tk_ex ex0) rz)).2]; exact hz
        · intro hz
          obtain ⟨x, hx, rx⟩ := h3.mem' hz
          exact ⟨x, perm.mem_iff.mpr hx, (pr_key (st_Pr _ _ _ _ (tk_ex ex0) rx)).2⟩
      have hs : S.Pairwise (fun p q => p.1 ≤ q.1) := by
        rw [← hSS, List.pairwise_map]
        refine sorted.imp_of_mem fun {x y} hx hy e => ?_
        obtain ⟨z1, _, r1⟩ := h3.mem (perm.mem_iff.mp hx)
        obtain ⟨z2, _, r2⟩ := h3.mem (perm.mem_iff.mp hy)
        have k1 := pr_key (st_Pr _ _ _ _ (tk_ex ex0) r1)
        have k2 := pr_key (st_Pr _ _ _ _ (tk_ex ex0) r2)
        rw [k1.1, k2.1] at e
        rw [k1.2, k2.2]
        unfold SrtT.lexL at e
        split at e
        · rename_i q; omega
        · have := of_decide_eq_false e; omega
      have hlen : ys.length = R.length := by rw [perm.length_eq, h3.1]
      have ne : d ≠ l := ne_of_none hd1 nl
      have exl : Ex H1 (upd H1 l (.lst ys)) := Evl.Ex.new nl
      refine ⟨l, rfl, ⟨ys, sq_of upd_same⟩, ?_⟩
      refine for_it (walk_list (xs := ys)) (fun i σ H' => ∃ y3 y4 kvs, σ = [some (.ref n), some (.int p), some (.ref d), y3, y4] ∧ Ex H H' ∧ (∀ a o, a ≠ d → (upd H1 l (.lst ys)) a = some o → H' a = some o) ∧ H' d = some (.dK kvs) ∧ kvs.length ≤ i + 1 ∧
        ∀ z : Int, (valV kvs (.inl z)).isSome = clo (fun y => decide (y = p)) (S.take i) z) ⟨none, none, _, rfl, ex0.trans exl, fun a o _ e => e, exl _ _ hd1, by simp, fun z => ?_⟩ (fun i σ H' _ pv => ?_) (fun i x σ H' H2 hi pv y => ?_) fun σ H' pv => ?_
      · by_cases e : p = z
        · subst e; rw [valV_pos rfl]; simp [clo]
        · rw [valV_neg (by simpa using e), valV_nil]; simp [clo, Ne.symm e]
      · obtain ⟨y3, y4, kvs, rfl, e1, e2, e3, e4, e5⟩ := pv
        exact sq_of (e2 l _ (Ne.symm ne) upd_same)
      · obtain ⟨y3, y4, kvs, rfl, e1, e2, e3, e4, e5⟩ := pv
        obtain ⟨rfl, ey⟩ := y
        obtain ⟨z, ez, a, rfl, ha⟩ := hS.get' ey
        have nda : a ≠ d := fun e => by subst e; rw [hd1] at ha; cases ha
        have ha2 := e2 a _ nda (exl _ _ ha)
        refine ⟨a, _, rfl, st_of ha2, rfl, _, _, rfl, _, _, rfl, rfl, ?_⟩
        have tk : S.take (i + 1) = S.take i ++ [z] := by rw [List.take_add_one, ez]; rfl
        refine ⟨_, rfl, _, rfl, d, _, rfl, DGet.k (k := .inl z.1) e3, _, rfl, ?_⟩
        have st5 := e5 z.1
        refine itB (fun hb => ?_) (fun hb => ?_)
        · refine ⟨_, rfl, _, rfl, d, _, rfl, DPut.k (k := .inl z.2) e3 (sz_lt (by omega)), ?_⟩
          refine ⟨_, _, _, rfl, upd_ex e1 nd, fun b o nb eb => ?_, upd_same, ?_, fun w => ?_⟩
          · rw [upd_ne nb]; exact e2 b o nb eb
          · have := putK_len kvs (.inl z.2) (.bl true); omega
          · rw [valV_put, tk, clo_snoc]
            unfold clo1
            rw [← st5, hb, ← e5]
            by_cases hw : w = z.2
            · subst hw; simp
            · rw [if_neg (by simpa using hw), decide_eq_false hw]; simp
        · refine ⟨_, _, _, rfl, e1, e2, e3, by omega, fun w => ?_⟩
          rw [tk, clo_snoc]
          unfold clo1
          rw [← st5, hb, ← e5]; simp
      · obtain ⟨y3, y4, kvs, rfl, e1, e2, e3, e4, e5⟩ := pv
        refine ⟨_, rfl, q d kvs H' e1 e3 fun z => ?_⟩
        rw [e5, List.take_of_length_le (by rw [hS.1]; exact Nat.le_refl _)]
        exact clo_path hN hm hs p z
/-! ### leads -/
def sp_leads (_ : PySem.W.Frag) : Sp := fun vs H Q _ => ∃ n m R a b, vs = [.ref n, .int ((a : Nat) : Int), .int ((b : Nat) : Int)] ∧ Net H n m R ∧ NetOk m R ∧ R.length ≤ 1000 ∧ a < R.length ∧ b < R.length ∧
  ∀ c H', Ex H H' → (c = true ↔ ∃ u, IsPath R (hd R a) u (ft R b)) → Q (.bl c) H'
theorem ok_leads {P : Program} {w : World} {K : PySem.W.Frag} {mg : Str → Option Value} {base : Heap} {f : Addr} {fd : FuncData} (F : L2.Fun K "leads" "leads" s_leads f fd) (B : Bn mg)
    (C_places_from : C8.Cal P w K mg base 1 "places_from" (sp_places_from K) []) :
    FnOk P w K mg base CX0 2 f fd ["net", "one", "other"] (sp_leads K) := by
  refine F.ok (k := 1) sc_leads (fun vs H Q E h => ?_) (fun cdv A outer s H vs Q E hr h => ?_)
  · obtain ⟨_, _, _, _, _, rfl, _⟩ := h
    rfl
  · obtain ⟨n, m, R, a, b, rfl, hN, hOk, hl, ha, hb, q⟩ := h
    obtain ⟨r, ps, h1, h2, h3⟩ := id hN
    have hu := hu_of hr
    refine ⟨_, (pss_one (ps_ret (pe_cmp (pc_din hu (pe_ix ix_tup (pe_ix ix_tup (pe_ix ix_tup (pv 0) pe_int (fun _ _ => rfl)) (pv 2) (fun _ _ => rfl)) pe_int (fun _ _ => rfl)) (C8.pe_c C_places_from hr (by decide) (by rfl) (pa_cons (pv 0) (pa_cons (pe_ix ix_tup (pe_ix ix_tup (pe_ix ix_tup (pv 0) pe_int (fun _ _ => rfl)) (pv 1) (fun _ _ => rfl)) pe_int (fun _ _ => rfl)) pa_nil))))))), ?_⟩
    obtain ⟨x, ex, a1, rfl, ea1⟩ := h3.get (get_ft ha)
    obtain ⟨y, ey, b1, rfl, eb1⟩ := h3.get (get_ft hb)
    refine ⟨.ref n, rfl, n, _, 1, .ref r, rfl, rfl, st_of h1, rfl, .int b, rfl, r, ps, b, .ref b1, rfl, rfl, st_of h2, atI_nat ey, b1, _, 0, _, rfl, rfl, st_of eb1, rfl, ?_⟩
    refine ⟨.ref n, rfl, .ref n, rfl, n, _, 1, .ref r, rfl, rfl, st_of h1, rfl, .int a, rfl, r, ps, a, .ref a1, rfl, rfl, st_of h2, atI_nat ex, a1, _, 1, _, rfl, rfl, st_of ea1, rfl, ?_⟩
    refine ⟨n, m, R, _, rfl, hN, hOk, hl, fun d kvs H' e1 e2 e3 => ?_⟩
    exact ⟨d, _, rfl, DGet.k (k := .inl (ft R b)) e2, q _ H' e1 (e3 _)⟩
end K56


namespace K56
open PySem PySem.Spec PyProof.Rows L2 K56R
open Evl (Ex ex_l ex_t sq_of st_of fresh_back sz_of sz_lt)
theorem upto_filter {α β : Type} (g : α → Bool) (v : α → β) (d : α) (l : List α) : upto (fun i => g (l.getD i d)) (fun i => v (l.getD i d)) l.length = (l.filter g).map v := by
  have e : (List.range l.length).map (fun i => l.getD i d) = l := by
    have := upto_all (fun x : α => x) d l
    unfold upto at this
    rw [List.filter_eq_self.mpr (fun _ _ => rfl)] at this
    rw [this]; simp
  have e2 : (l.filter g).map v = ((((List.range l.length).map (fun i => l.getD i d))).filter g).map v := by rw [e]
  rw [e2, List.filter_map, List.map_map]
  rfl
/-! ### most_along -/
def sp_most_along (_ : PySem.W.Frag) : Sp := fun vs H Q _ => ∃ n t c s l, vs = [.ref n, .ref t, .ref s] ∧ H t = some (.tup (vi c)) ∧ H s = some (.tup (vn l)) ∧ l.length ≤ 50 ∧ l ≠ [] ∧ (∀ r ∈ l, r < c.length) ∧
  ∀ k H', Ex H H' → (∃ r ∈ l, k = cf c r) → (∀ r ∈ l, k ≤ cf c r) → Q (.int k) H'
theorem ok_most_along {P : Program} {w : World} {K : PySem.W.Frag} {mg : Str → Option Value} {base : Heap} {f : Addr} {fd : FuncData} (F : L2.Fun K "most_along" "most_along" s_most_along f fd) (B : Bn mg) :
    FnOk P w K mg base CX0 1 f fd ["net", "tally", "stretch"] (sp_most_along K) := by
  refine F.ok (k := 0) sc_most_along (fun vs H Q E h => ?_) (fun cdv A outer s H vs Q E hr h => ?_)
  · obtain ⟨_, _, _, _, _, rfl, _⟩ := h
    rfl
  · obtain ⟨n, t, c, s', l, rfl, ht, hs, hl, hne, hb, q⟩ := h
    have hu := hu_of hr
    refine ⟨_, (pss_one (ps_ret (pe_callB (cr_min rfl) (by rfl) B.min (by decide +kernel) (pa_cons (pe_lc (own := [("road", 3)]) rfl sc_most_along.nd (pi_tup (pv 2)) (blkOk_by (own := [("road", 3)]) (N := N_most_along) (sc := defScope s_most_along) (by decide +kernel)) (fun _ _ _ _ _ => (pg_name (i := 3) sc_most_along.nd rfl (Or.inl rfl))) (fun _ _ _ _ _ => pts_nil) (fun _ _ _ _ _ => (pe_ix (ix_tupK K) (pv 1) (pv 3) (fun _ _ => rfl)))) pa_nil)))), ?_⟩
    refine ⟨.ref s', rfl, s', rfl, ⟨_, st_of hs⟩, fun D nD => ?_⟩
    refine lc_it (walk_tup (xs := vn l)) (Cx1 H IsI (upto (fun _ => true) (fun i => cf c (l.getD i 0))) D) (cx_zero nD rfl) (fun i H' _ pv => st_of (pv.2.1 _ _ hs)) (fun i x H' H2 hi pv y => ?_) fun H' pv => ?_
    · obtain ⟨rfl, e⟩ := y
      obtain ⟨r, er, rfl⟩ := vn_get e
      have hr' := hb r (List.mem_of_getElem? er)
      refine ⟨rfl, ?_⟩
      refine cx_all st_I pv (Evl.Ex.refl _) (by simp [vn] at hi; omega) fun Q k => ⟨.ref t, rfl, .int r, rfl, t, _, r, _, rfl, rfl, st_of (pv.2.1 _ _ ht), atI_nat (vi_get hr'), k _ _ (Evl.Ex.refl _) ?_⟩
      rw [getD_of er]; rfl
    · obtain ⟨nD', ex, acc, hD, hA⟩ := pv
      rw [all2_I, show (vn l).length = l.length by simp [vn], upto_all (cf c)] at hA
      refine ⟨D, l.map (cf c), rfl, sq_of (by rw [hD, hA]), by rw [List.length_map]; exact List.length_pos_iff.mpr hne, fun k hk hk2 => q k H' ex ?_ fun r hr => ?_⟩
      · obtain ⟨r, hr, e⟩ := List.mem_map.mp hk
        exact ⟨r, hr, e.symm⟩
      · exact hk2 _ (List.mem_map.mpr ⟨r, hr, rfl⟩)
/-! ### leaving_roads -/
def lvc (R : Arcs) (l : List Nat) (r : Nat) : List Nat := (rf R (hd R r)).filter fun o => decide (o ∉ l)
def lv (R : Arcs) (l : List Nat) : List Nat := l.dropLast.flatMap (lvc R l)
theorem lvc_len (R : Arcs) (l : List Nat) (r : Nat) : (lvc R l r).length ≤ R.length := Nat.le_trans (List.length_filter_le _ _) (rf_len _ _)
theorem lv_len (R : Arcs) (l : List Nat) : ∀ m : List Nat, (m.flatMap (lvc R l)).length ≤ m.length * R.length
  | [] => by simp
  | r :: m => by
    have a := lvc_len R l r
    have b := lv_len R l m
    rw [List.flatMap_cons, List.length_append, List.length_cons, Nat.add_mul]
    omega
theorem lv_mem {R : Arcs} {l : List Nat} {r : Nat} (h : r ∈ lv R l) : r < R.length := by
  obtain ⟨x, _, hx⟩ := List.mem_flatMap.mp h
  exact (mem_rf.mp (List.mem_filter.mp hx).1).1
theorem cut_dropLast (l : List Nat) (h : l ≠ []) : cutV (vn l) none (some (-1)) = vn l.dropLast ∧ ¬ (HT.sIx (vn l).length 0 none = 0 ∧ HT.sIx (vn l).length (vn l).length (some (-1)) = (vn l).length) := by
  have e := (cut_last (vn l)).2
  have hp := List.length_pos_iff.mpr h
  have hl : (vn l).length = l.length := by simp [vn]
  refine ⟨?_, fun ⟨_, z⟩ => by rw [e] at z; omega⟩
  unfold cutV
  rw [e, (cut_last (vn l)).1, List.drop_zero, Nat.sub_zero, hl, List.dropLast_eq_take]
  unfold vn
  rw [List.map_take]
def sp_leaving_roads (_ : PySem.W.Frag) : Sp := fun vs H Q _ => ∃ n m R s l, vs = [.ref n, .ref s] ∧ Net H n m R ∧ R.length ≤ 1000 ∧ H s = some (.tup (vn l)) ∧ l.length ≤ 50 ∧ l ≠ [] ∧ (∀ r ∈ l, r < R.length) ∧
  ∀ a H', Ex H H' → H' a = some (.lst (vn (lv R l))) → Q (.ref a) H'
theorem ok_leaving_roads {P : Program} {w : World} {K : PySem.W.Frag} {mg : Str → Option Value} {base : Heap} {f : Addr} {fd : FuncData} (F : L2.Fun K "leaving_roads" "leaving_roads" s_leaving_roads f fd) (B : Bn mg)
    (C_roads_from : C8.Cal P w K mg base 1 "roads_from" (sp_roads_from K) []) :
    FnOk P w K mg base CX0 2 f fd ["net", "stretch"] (sp_leaving_roads K) := by
  refine F.ok (k := 1) sc_leaving_roads (fun vs H Q E h => ?_) (fun cdv A outer s H vs Q E hr h => ?_)
  · obtain ⟨_, _, _, _, _, rfl, _⟩ := h
    rfl
  · obtain ⟨n, m, R, s', l, rfl, hN, hR, hs, hl, hne, hb, q⟩ := h
    obtain ⟨r0, ps, h1, h2, h3⟩ := id hN
    have hu := hu_of hr
    refine ⟨_, (pss_cons (ps_set (i := 2) sc_leaving_roads.nd rfl (Or.inl rfl) (pe_lst pa_nil))
          (pss_cons (ps_for PassesOwn.never rfl (pi_tup (pe_slice sl_tupA (pv 1) po_none (po_some (pe_un un_neg pe_int)))) (pg_name (i := 3) sc_leaving_roads.nd rfl (Or.inl rfl)) (pss_one (ps_expr (pe_bm PySem.F.plainAttrs_list PySem.F.slot_list_extend PySem.F.type_list_extend mt_extend (pv 2) (pa_cons (pe_lc (own := [("other", 4)]) rfl sc_leaving_roads.nd (pi_tup (C8.pe_c C_roads_from hr (by decide) (by rfl) (pa_cons (pv 0) (pa_cons (pe_ix ix_tup (pe_ix ix_tup (pe_ix ix_tup (pv 0) pe_int (fun _ _ => rfl)) (pv 3) (fun _ _ => rfl)) pe_int (fun _ _ => rfl)) pa_nil)))) (blkOk_by (own := [("other", 4)]) (N := N_leaving_roads) (sc := defScope s_leaving_roads) (by decide +kernel)) (fun _ _ _ _ _ => (pg_name (i := 4) sc_leaving_roads.nd rfl (Or.inl rfl))) (fun _ _ _ _ _ => (pts_one (pt_cmpR (op_notIn_seqK K) (pv 4) (pv 1) (by rfl)))) (fun _ _ _ _ _ => (pv 4))) pa_nil)))))
          (pss_one (ps_ret (pv 2))))), ?_⟩
    refine ⟨Nat.zero_le _, fun d nd => ?_⟩
    have ex0 : Ex H (upd H d (.lst [])) := Evl.Ex.new nd
    refine ⟨.ref s', rfl, 1, rfl, (-1), rfl, s', vn l, rfl, st_of (ex0 _ _ hs), fun z => absurd z (cut_dropLast l hne).2, fun _ b nb => ?_⟩
    have exb := Evl.Ex.new (o := .tup (cutV (vn l) none (some (-1)))) nb
    have ndb : d ≠ b := ne_of_none upd_same nb
    refine ⟨b, rfl, ⟨_, st_of upd_same⟩, ?_⟩
    rw [(cut_dropLast l hne).1] at exb ⊢
    refine for_it (walk_tup (xs := vn l.dropLast)) (fun i σ H' => ∃ y3 y4, σ = [some (.ref n), some (.ref s'), some (.ref d), y3, y4] ∧ Ex H H' ∧ H' b = some (.tup (vn l.dropLast)) ∧ H' d = some (.lst (vn ((l.dropLast.take i).flatMap (lvc R l)))))
      ⟨none, none, rfl, ex0.trans exb, upd_same, exb _ _ upd_same⟩ (fun i σ H' _ pv => ?_) (fun i x σ H' H2 hi pv y => ?_) fun σ H' pv => ?_
    · obtain ⟨y3, y4, rfl, e1, e2, e3⟩ := pv
      exact st_of e2
    · obtain ⟨y3, y4, rfl, e1, e2, e3⟩ := pv
      obtain ⟨rfl, ey⟩ := y
      obtain ⟨r, er, rfl⟩ := vn_get ey
      have hrl : r ∈ l := List.dropLast_subset l (List.mem_of_getElem? er)
      have hr' := hb r hrl
      obtain ⟨x, exx, a1, rfl, ea1⟩ := h3.get (get_ft hr')
      refine ⟨.ref d, rfl, .inl ⟨rfl, _, sq_of e3⟩, ?_⟩
      refine ⟨.ref n, rfl, .ref n, rfl, n, _, 1, .ref r0, rfl, rfl, st_of (e1 _ _ h1), rfl, .int r, rfl, r0, ps, r, .ref a1, rfl, rfl, st_of (e1 _ _ h2), atI_nat exx, a1, _, 1, _, rfl, rfl, st_of (e1 _ _ ea1), rfl, ?_⟩
      refine ⟨n, m, R, _, rfl, hN.tk (tk_ex e1), hR, fun a H3 f1 f2 => ⟨a, rfl, ⟨_, st_of f2⟩, fun D nD => ?_⟩⟩
      refine lc_it (walk_tup (xs := vn (rf R (hd R r)))) (Cx1 H3 IsN (upto (fun i => (fun o => decide (o ∉ l)) ((rf R (hd R r)).getD i 0)) (fun i => (fun o => o) ((rf R (hd R r)).getD i 0))) D) (cx_zero nD rfl) (fun i H' _ pv => st_of (pv.2.1 _ _ f2)) (fun i x H' H2 hi pv y => ?_) fun H' pv => ?_
      · obtain ⟨rfl, e⟩ := y
        obtain ⟨o, eo, rfl⟩ := vn_get e
        refine ⟨rfl, ?_⟩
        refine ⟨.int o, rfl, .ref s', rfl, s', _, rfl, .inr (st_of (pv.2.1 _ _ (f1 _ _ (e1 _ _ hs)))), rfl, flat_vn _, _, rfl, ?_⟩
        refine cx_turn st_N pv (Evl.Ex.refl _) ?_ (by have := rf_len R (hd R r); simp [vn] at hi; omega) fun hf Q k => ⟨.int o, rfl, k _ _ (Evl.Ex.refl _) ?_⟩
        · rw [if_pos rfl, inV_vn, getD_of eo]; simp
        · rw [getD_of eo]; rfl
      · obtain ⟨nD', ex, acc, hD, hA⟩ := pv
        rw [all2_N, show (vn (rf R (hd R r))).length = (rf R (hd R r)).length by simp [vn], upto_filter (fun o => decide (o ∉ l)) (fun o => o)] at hA
        have e4 := ex _ _ (f1 _ _ e3)
        have ndD : d ≠ D := ne_of_none (f1 _ _ e3) nD'
        have tk : l.dropLast.take (i + 1) = l.dropLast.take i ++ [r] := by rw [List.take_add_one, er]; rfl
        have hsz := lv_len R l (l.dropLast.take i)
        have hil : i < l.dropLast.length := (List.getElem?_eq_some_iff.mp er).1
        have hll : l.dropLast.length = l.length - 1 := List.length_dropLast
        refine ⟨d, D, _, acc, rfl, rfl, e4, hD, ?_, _, _, rfl, upd_ex ((e1.trans f1).trans ex) nd, ?_, ?_⟩
        · have h5 := lvc_len R l r
          have h6 : (l.dropLast.take i).length * R.length ≤ 50 * 1000 := Nat.mul_le_mul (by rw [List.length_take]; omega) hR
          have h7 : acc.length = (lvc R l r).length := by rw [hA]; simp [vn, lvc]
          refine sz_of ?_
          rw [h7, show (vn ((l.dropLast.take i).flatMap (lvc R l))).length = ((l.dropLast.take i).flatMap (lvc R l)).length by simp [vn]]
          omega
        · rw [upd_ne (fun z => by subst z; rw [e2] at e3; cases e3)]
          exact ex _ _ (f1 _ _ e2)
        · rw [upd_same, tk, List.flatMap_append, hA]
          simp [vn, lvc]
    · obtain ⟨y3, y4, rfl, e1, e2, e3⟩ := pv
      refine ⟨_, rfl, q d H' e1 ?_⟩
      rw [e3, List.take_of_length_le (by simp [vn])]
      rfl
/-! ### excess, least_along -/
theorem lv_away {many : Int} {R : Arcs} (N : NetOk many R) (c : Nat → Int) (L : List Nat) : ∀ (l : List Nat) (x : Nat) (a b : Int), IsPath R a (x :: l) b → (∀ r ∈ x :: l, r ∈ L) → (∀ r s, r ∈ L → s ∈ L → ft R r = ft R s → r = s) →
    sm c ((x :: l).dropLast.flatMap (lvc R L)) = sm (away R c) l
  | [], x, a, b, hp, hm, hu => rfl
  | y :: l, x, a, b, hp, hm, hu => by
    have ih := lv_away N c L l y (hd R x) b hp.2.2 (fun r hr => hm r (List.mem_cons_of_mem _ hr)) hu
    rw [show (x :: y :: l).dropLast = x :: (y :: l).dropLast from rfl, List.flatMap_cons, sm_app, ih]
    show sm c (lvc R L x) + sm (away R c) l = away R c y + sm (away R c) l
    congr 1
    have ey : ft R y = hd R x := hp.2.2.2.1
    have hy : y ∈ L := hm y (by simp)
    have filt : ∀ n, sm c ((upto (fun r => decide (ft R r = hd R x)) (fun r => r) n).filter fun o => decide (o ∉ L)) = sr (fun r => c r * b1 (decide (ft R r = ft R y ∧ r ≠ y))) n := by
      intro n
      induction n with
      | zero => rfl
      | succ n ih =>
        simp only [sr]
        by_cases h : ft R n = hd R x
        · rw [upto_yes (decide_eq_true h), List.filter_append, sm_app, ih]
          congr 1
          by_cases h2 : n ∈ L
          · have : n = y := hu n y h2 hy (by rw [h, ey])
            rw [List.filter_cons, if_neg (by simp [h2]), decide_eq_false (by simp [this])]
            simp [sm, b1]
          · have : n ≠ y := fun z => h2 (z ▸ hy)
            rw [List.filter_cons, if_pos (by simp [h2]), decide_eq_true ⟨by rw [h, ey], this⟩]
            simp [sm, b1]
        · rw [upto_no (decide_eq_false h), ih, decide_eq_false (by rw [ey]; simp [h])]
          simp [b1]
    exact filt R.length
theorem lv_sum {many : Int} {R : Arcs} (N : NetOk many R) (c : Nat → Int) {x : Nat} {l : List Nat} {a b : Int} (hp : IsPath R a (x :: l) b) : sm c (lv R (x :: l)) = sm (away R c) l :=
  lv_away N c (x :: l) l x a b hp (fun _ h => h) fun r s hr hs e => path_foot N.up hp hr hs e
def sp_excess (_ : PySem.W.Frag) : Sp := fun vs H Q _ => ∃ n m R t c s x l, vs = [.ref n, .ref t, .ref s] ∧ Net H n m R ∧ NetOk m R ∧ R.length ≤ 1000 ∧ H t = some (.tup (vi c)) ∧ c.length = R.length ∧ H s = some (.tup (vn (x :: l))) ∧ l.length ≤ 49 ∧ (∃ a b, IsPath R a (x :: l) b) ∧
  ∀ H', Ex H H' → Q (.int (cf c x - sm (away R (cf c)) l)) H'
theorem ok_excess {P : Program} {w : World} {K : PySem.W.Frag} {mg : Str → Option Value} {base : Heap} {f : Addr} {fd : FuncData} (F : L2.Fun K "excess" "excess" s_excess f fd) (B : Bn mg)
    (C_leaving_roads : C8.Cal P w K mg base 2 "leaving_roads" (sp_leaving_roads K) []) :
    FnOk P w K mg base CX0 3 f fd ["net", "tally", "stretch"] (sp_excess K) := by
  refine F.ok (k := 2) sc_excess (fun vs H Q E h => ?_) (fun cdv A outer s H vs Q E hr h => ?_)
  · obtain ⟨_, _, _, _, _, _, _, _, rfl, _⟩ := h
    rfl
  · obtain ⟨n, m, R, t, c, s', x, l, rfl, hN, hOk, hR, ht, hc, hs, hl, ⟨a, b, hp⟩, q⟩ := h
    have hb : ∀ r ∈ x :: l, r < R.length := fun r hr => (path_mem hOk.up hp hr).1
    have hu := hu_of hr
    refine ⟨_, (pss_one (ps_ret (pe_op op_sub (pe_ix ix_tup (pv 1) (pe_ix ix_tup (pv 2) pe_int (fun _ _ => rfl)) (fun _ _ => rfl)) (pe_callB (cr_sum rfl) (by rfl) B.sum (by decide +kernel) (pa_cons (pe_lc (own := [("road", 3)]) rfl sc_excess.nd (pi_list (C8.pe_c C_leaving_roads hr (by decide) (by rfl) (pa_cons (pv 0) (pa_cons (pv 2) pa_nil)))) (blkOk_by (own := [("road", 3)]) (N := N_excess) (sc := defScope s_excess) (by decide +kernel)) (fun _ _ _ _ _ => (pg_name (i := 3) sc_excess.nd rfl (Or.inl rfl))) (fun _ _ _ _ _ => pts_nil) (fun _ _ _ _ _ => (pe_ix (ix_tupK K) (pv 1) (pv 3) (fun _ _ => rfl)))) pa_nil))))), ?_⟩
    refine ⟨.ref t, rfl, .ref s', rfl, s', _, 0, .int x, rfl, rfl, st_of hs, atI_nat (j := 0) rfl, t, _, x, _, rfl, rfl, st_of ht, atI_nat (vi_get (by rw [hc]; exact hb x (by simp))), ?_⟩
    refine ⟨.ref n, rfl, .ref s', rfl, n, m, R, s', x :: l, rfl, hN, hR, hs, by simp; omega, by simp, hb, fun d H1 e1 h1 => ⟨d, rfl, ⟨_, sq_of h1⟩, fun D nD => ?_⟩⟩
    have hlv : (lv R (x :: l)).length ≤ 49000 := by
      have := lv_len R (x :: l) (x :: l).dropLast
      have h6 : (x :: l).dropLast.length * R.length ≤ 49 * 1000 := Nat.mul_le_mul (by rw [List.length_dropLast]; simp; omega) hR
      unfold lv; omega
    refine lc_it (walk_list (xs := vn (lv R (x :: l)))) (Cx1 H1 IsI (upto (fun _ => true) (fun i => cf c ((lv R (x :: l)).getD i 0))) D) (cx_zero nD rfl) (fun i H' _ pv => sq_of (pv.2.1 _ _ h1)) (fun i y H' H2 hi pv yy => ?_) fun H' pv => ?_
    · obtain ⟨rfl, e⟩ := yy
      obtain ⟨r, er, rfl⟩ := vn_get e
      have hr' := lv_mem (List.mem_of_getElem? er)
      refine ⟨rfl, ?_⟩
      refine cx_all st_I pv (Evl.Ex.refl _) (by simp [vn] at hi; omega) fun Q k => ⟨.ref t, rfl, .int r, rfl, t, _, r, _, rfl, rfl, st_of (pv.2.1 _ _ (e1 _ _ ht)), atI_nat (vi_get (by omega)), k _ _ (Evl.Ex.refl _) ?_⟩
      rw [getD_of er]; rfl
    · obtain ⟨nD', ex, acc, hD, hA⟩ := pv
      rw [all2_I, show (vn (lv R (x :: l))).length = (lv R (x :: l)).length by simp [vn], upto_all (cf c)] at hA
      refine ⟨D, (lv R (x :: l)).map (cf c), rfl, sq_of (by rw [hD, hA]), _, _, rfl, rfl, ?_⟩
      rw [sum_sm, lv_sum hOk (cf c) hp]
      exact q _ (e1.trans ex)
def sp_least_along (_ : PySem.W.Frag) : Sp := fun vs H Q _ => ∃ n m R t c s x l, vs = [.ref n, .ref t, .ref s] ∧ Net H n m R ∧ NetOk m R ∧ R.length ≤ 1000 ∧ H t = some (.tup (vi c)) ∧ c.length = R.length ∧ H s = some (.tup (vn (x :: l))) ∧ l.length ≤ 49 ∧ (∃ a b, IsPath R a (x :: l) b) ∧
  ∀ H', Ex H H' → Q (.int (max 0 (cf c x - sm (away R (cf c)) l))) H'
theorem ok_least_along {P : Program} {w : World} {K : PySem.W.Frag} {mg : Str → Option Value} {base : Heap} {f : Addr} {fd : FuncData} (F : L2.Fun K "least_along" "least_along" s_least_along f fd) (B : Bn mg)
    (C_excess : C8.Cal P w K mg base 3 "excess" (sp_excess K) []) :
    FnOk P w K mg base CX0 4 f fd ["net", "tally", "stretch"] (sp_least_along K) := by
  refine F.ok (k := 3) sc_least_along (fun vs H Q E h => ?_) (fun cdv A outer s H vs Q E hr h => ?_)
  · obtain ⟨_, _, _, _, _, _, _, _, rfl, _⟩ := h
    rfl
  · obtain ⟨n, m, R, t, c, s', x, l, rfl, hN, hOk, hR, ht, hc, hs, hl, hp, q⟩ := h
    have hu := hu_of hr
    refine ⟨_, (pss_one (ps_ret (pe_callB (call_max2 rfl) (by rfl) B.max (by decide +kernel) (pa_cons pe_int (pa_cons (C8.pe_c C_excess hr (by decide) (by rfl) (pa_cons (pv 0) (pa_cons (pv 1) (pa_cons (pv 2) pa_nil)))) pa_nil))))), ?_⟩
    refine ⟨.ref n, rfl, .ref t, rfl, .ref s', rfl, n, m, R, t, c, s', x, l, rfl, hN, hOk, hR, ht, hc, hs, hl, hp, fun H' e => ⟨_, _, rfl, ?_⟩⟩
    have := q H' e
    rw [show max 0 (cf c x - sm (away R (cf c)) l) = if cf c x - sm (away R (cf c)) l > 0 then cf c x - sm (away R (cf c)) l else 0 by split <;> omega] at this
    exact this
/-! ### in_order -/
def Leads (R : Arcs) (a b : Nat) : Prop := ∃ u, IsPath R (hd R a) u (ft R b)
def sp_in_order (_ : PySem.W.Frag) : Sp := fun vs H Q _ => ∃ n m R u wd a b, vs = [.ref n, .ref u] ∧ Net H n m R ∧ NetOk m R ∧ R.length ≤ 1000 ∧ H u = some (.tup [wd, .int ((a : Nat) : Int), .int ((b : Nat) : Int)]) ∧ a < R.length ∧ b < R.length ∧
  (∀ o H', Ex H H' → H' o = some (.tup [.int a, .int b]) → Leads R a b → Q (.ref o) H') ∧ (∀ o H', Ex H H' → H' o = some (.tup [.int b, .int a]) → Leads R b a → Q (.ref o) H') ∧ (∀ H', Ex H H' → ¬ Leads R a b → ¬ Leads R b a → Q .non H')
theorem ok_in_order {P : Program} {w : World} {K : PySem.W.Frag} {mg : Str → Option Value} {base : Heap} {f : Addr} {fd : FuncData} (F : L2.Fun K "in_order" "in_order" s_in_order f fd) (B : Bn mg)
    (C_leads : C8.Cal P w K mg base 2 "leads" (sp_leads K) []) :
    FnOk P w K mg base CX0 3 f fd ["net", "question"] (sp_in_order K) := by
  refine F.ok (k := 2) sc_in_order (fun vs H Q E h => ?_) (fun cdv A outer s H vs Q E hr h => ?_)
  · obtain ⟨_, _, _, _, _, _, _, rfl, _⟩ := h
    rfl
  · obtain ⟨n, m, R, u, wd, a, b, rfl, hN, hOk, hR, hu', ha, hb, q1, q2, q3⟩ := h
    have hu := hu_of hr
    refine ⟨_, (pss_cons (ps_asg (pv 1) (pg_tup (by rfl) (pgs_cons (pg_name (i := 2) sc_in_order.nd rfl (Or.inl rfl)) (pgs_cons (pg_name (i := 3) sc_in_order.nd rfl (Or.inl rfl)) (pgs_cons (pg_name (i := 4) sc_in_order.nd rfl (Or.inl rfl)) pgs_nil)))))
          (pss_cons (ps_if (pt_val (C8.pe_c C_leads hr (by decide) (by rfl) (pa_cons (pv 0) (pa_cons (pv 3) (pa_cons (pv 4) pa_nil))))) (pss_one (ps_ret (pe_tup (pa_cons (pv 3) (pa_cons (pv 4) pa_nil))))) pss_nil)
          (pss_one (ps_ret (pe_ifExp (pt_val (C8.pe_c C_leads hr (by decide) (by rfl) (pa_cons (pv 0) (pa_cons (pv 4) (pa_cons (pv 3) pa_nil))))) (pe_tup (pa_cons (pv 4) (pa_cons (pv 3) pa_nil))) pe_non))))), ?_⟩
    refine ⟨.ref u, rfl, u, _, rfl, st_of hu', rfl, _, _, rfl, _, _, rfl, _, _, rfl, rfl, ?_⟩
    refine ⟨.ref n, rfl, _, rfl, _, rfl, n, m, R, a, b, rfl, hN, hOk, hR, ha, hb, fun c H1 e1 hc => ⟨c, rfl, itB (fun e => ?_) (fun e => ?_)⟩⟩
    · refine ⟨_, rfl, _, rfl, by show 2 ≤ sizeLine; decide, fun o no => q1 o _ (e1.trans (Evl.Ex.new no)) upd_same (hc.mp e)⟩
    · refine ⟨.ref n, rfl, _, rfl, _, rfl, n, m, R, b, a, rfl, hN.tk (tk_ex e1), hOk, hR, hb, ha, fun c2 H2 e2 hc2 => ⟨c2, rfl, itB (fun f => ?_) (fun f => ?_)⟩⟩
      · refine ⟨_, rfl, _, rfl, by show 2 ≤ sizeLine; decide, fun o no => q2 o _ ((e1.trans e2).trans (Evl.Ex.new no)) upd_same (hc2.mp f)⟩
      · exact q3 _ (e1.trans e2) (fun z => by rw [hc.mpr z] at e; cases e) (fun z => by rw [hc2.mpr z] at f; cases f)
end K56


namespace K56
open PySem PySem.Spec PyProof.Rows L2 K56R
open Evl (Ex ex_l ex_t sq_of st_of fresh_back sz_of sz_lt)
/-! ### has_room -/
def rmV : Option Int → V
  | none => .non
  | some c => .int c
def rmA (rm : List (Option Int)) (i : Nat) : Option Int := rm.getD i none
def roomOk (rm : List (Option Int)) (F : List Int) (i : Nat) : Bool → Bool
  | false => decide (0 < cf F i)
  | true => match rmA rm i with
    | none => true
    | some c => decide (cf F i < c)
theorem rm_get {rm : List (Option Int)} {i : Nat} (h : i < rm.length) : (rm.map rmV)[i]? = some (rmV (rmA rm i)) := by
  rw [List.getElem?_map]
  unfold rmA
  rw [List.getD_eq_getElem?_getD, List.getElem?_eq_getElem h]; rfl
def sp_has_room (_ : PySem.W.Frag) : Sp := fun vs H Q _ => ∃ a b rm F i fw, vs = [.ref a, .ref b, .int ((i : Nat) : Int), .bl fw] ∧ H a = some (.lst (rm.map rmV)) ∧ H b = some (.lst (vi F)) ∧ i < rm.length ∧ i < F.length ∧ ∀ H', Ex H H' → Q (.bl (roomOk rm F i fw)) H'
theorem ok_has_room {P : Program} {w : World} {K : PySem.W.Frag} {mg : Str → Option Value} {base : Heap} {f : Addr} {fd : FuncData} (F : L2.Fun K "has_room" "has_room" s_has_room f fd) (B : Bn mg) :
    FnOk P w K mg base CX0 1 f fd ["room", "flow", "arc", "is_forth"] (sp_has_room K) := by
  refine F.ok (k := 0) sc_has_room (fun vs H Q E h => ?_) (fun cdv A outer s H vs Q E hr h => ?_)
  · obtain ⟨_, _, _, _, _, _, rfl, _⟩ := h
    rfl
  · obtain ⟨a, b, rm, F', i, fw, rfl, ha, hb, h1, h2, q⟩ := h
    have hu := hu_of hr
    refine ⟨_, (pss_cons (ps_if (pt_not (pt_val (pv 3))) (pss_one (ps_ret (pe_cmpR op_gt (pe_ix ix_list (pv 1) (pv 2) (fun _ _ => rfl)) pe_int (nomark _)))) pss_nil)
          (pss_one (ps_ret (pe_or (pe_cmpR op_isN (pe_ix ix_list (pv 0) (pv 2) (fun _ _ => rfl)) pe_non (nomark _)) (pe_one (pe_cmpR op_lt (pe_ix ix_list (pv 1) (pv 2) (fun _ _ => rfl)) (pe_ix ix_list (pv 0) (pv 2) (fun _ _ => rfl)) (nomark _))))))), ?_⟩
    refine ⟨.bl fw, rfl, fw, rfl, itB (fun e => ?_) (fun e => ?_)⟩
    · obtain rfl : fw = false := by simpa using e
      exact ⟨_, rfl, _, rfl, b, _, i, _, rfl, rfl, sq_of hb, atI_nat (vi_get h2), _, _, rfl, rfl, q _ (Evl.Ex.refl _)⟩
    · obtain rfl : fw = true := by simpa using e
      refine ⟨_, rfl, _, rfl, a, _, i, _, rfl, rfl, sq_of ha, atI_nat (rm_get h1), rfl, _, rfl, itB (fun e => ?_) (fun e => ?_)⟩
      · have := q _ (Evl.Ex.refl _)
        unfold roomOk at this
        cases hh : rmA rm i with
        | none => rw [hh] at this; exact this
        | some c => rw [hh] at e; cases of_decide_eq_true e
      · have := q _ (Evl.Ex.refl _)
        unfold roomOk at this
        cases hh : rmA rm i with
        | none => rw [hh] at e; cases e
        | some c =>
          rw [hh] at this
          exact ⟨_, rfl, _, rfl, b, _, i, _, rfl, rfl, sq_of hb, atI_nat (vi_get h2), _, rfl, _, rfl, a, _, i, .int c, rfl, rfl, sq_of ha, atI_nat (by rw [rm_get h1, hh]; rfl), _, _, rfl, rfl, this⟩
/-! ### led_ways -/
abbrev Entry := Nat × Int × Bool
def Ent (H : Hp) (v : V) (e : Entry) : Prop := ∃ a, v = .ref a ∧ H a = some (.tup [.int e.1, .int e.2.1, .bl e.2.2])
theorem st_Ent : St Ent := fun _ _ _ _ t h => by obtain ⟨a, e, q⟩ := h; exact ⟨a, e, t _ _ q⟩
def WaysR (H0 H : Hp) (d : Addr) (M : Int → Option (List Entry)) (n : Nat) : Prop := Ex H0 H ∧ H0 d = none ∧ ∃ kvs : List (Key × V), H d = some (.dK kvs) ∧ kvs.length ≤ n ∧
  (∀ z, M z = none → valV kvs (.inl z) = none) ∧
  (∀ z E, M z = some E → ∃ l es, valV kvs (.inl z) = some (.ref l) ∧ H0 l = none ∧ H l = some (.lst es) ∧ es.length ≤ n ∧ All2 (Ent H) es E) ∧
  (∀ z z' l, valV kvs (.inl z) = some (.ref l) → valV kvs (.inl z') = some (.ref l) → z = z')
def addM (M : Int → Option (List Entry)) (z : Int) (e : Entry) : Int → Option (List Entry) := fun y => if y = z then some ((M z).getD [] ++ [e]) else M y
section
variable {H0 H : Hp} {d : Addr} {M : Int → Option (List Entry)} {n : Nat}
theorem WaysR.new (h : WaysR H0 H d M n) {p : Addr} {o : HO} (np : H p = none) : WaysR H0 (upd H p o) d M n := by
  obtain ⟨a, b, kvs, c, e, f, g, i⟩ := h
  have ex := Evl.Ex.new (o := o) np
  refine ⟨a.trans ex, b, kvs, ex _ _ c, e, f, fun z E hz => ?_, i⟩
  obtain ⟨l, es, k1, k2, k3, k4, k5⟩ := g z E hz
  exact ⟨l, es, k1, k2, ex _ _ k3, k4, all2_tk st_Ent (tk_ex ex) k5⟩
theorem WaysR.key (h : WaysR H0 H d M n) {kvs : List (Key × V)} (hk : H d = some (.dK kvs)) {z0 : Int} (hz : M z0 = none) {p : Addr} (np : H p = none) :
    WaysR H0 (upd (upd H p (.lst [])) d (.dK (putK kvs (.inl z0) (.ref p)))) d (fun y => if y = z0 then some [] else M y) (n + 1) := by
  obtain ⟨a, b, kvs', c, e, f, g, i⟩ := h
  rw [hk] at c; cases c
  have ex := Evl.Ex.new (o := .lst []) np
  have npd : p ≠ d := fun z => by subst z; rw [hk] at np; cases np
  have np0 : H0 p = none := fresh_back a np
  have tk : Tk H (upd (upd H p (.lst [])) d (.dK (putK kvs (.inl z0) (.ref p)))) := (tk_ex ex).trans (tk_upd (ex _ _ hk) fun xs z => by cases z)
  refine ⟨upd_ex (a.trans ex) b, b, _, upd_same, by have := putK_len kvs (.inl z0) (.ref p); omega, fun z hz' => ?_, fun z E hz' => ?_, fun z z' l h1 h2 => ?_⟩
  · dsimp only at hz'
    rw [valV_put]
    by_cases q : z = z0
    · rw [if_pos q] at hz'; cases hz'
    · rw [if_neg q] at hz'
      rw [if_neg (by simpa using q)]; exact f z hz'
  · dsimp only at hz'
    rw [valV_put]
    by_cases q : z = z0
    · rw [if_pos q] at hz'; cases hz'
      refine ⟨p, [], by rw [if_pos (by rw [q])], np0, ?_, by simp, .nil⟩
      rw [upd_ne npd, upd_same]
    · rw [if_neg q] at hz'
      obtain ⟨l, es, k1, k2, k3, k4, k5⟩ := g z E hz'
      refine ⟨l, es, by rw [if_neg (by simpa using q)]; exact k1, k2, ?_, by omega, all2_tk st_Ent tk k5⟩
      rw [upd_ne (fun z => by subst z; rw [hk] at k3; cases k3)]
      exact ex _ _ k3
  · rw [valV_put] at h1 h2
    have fr : ∀ y, valV kvs (.inl y) ≠ some (.ref p) := fun y hy => by
      cases hm : M y with
      | none => rw [f y hm] at hy; cases hy
      | some E =>
        obtain ⟨l, es, k1, k2, k3, k4, k5⟩ := g y E hm
        rw [k1] at hy; cases hy
        rw [np] at k3; cases k3
    by_cases q1 : z = z0 <;> by_cases q2 : z' = z0
    · rw [q1, q2]
    · rw [if_pos (by rw [q1])] at h1; rw [if_neg (by simpa using q2)] at h2
      cases h1; exact absurd h2 (fr z')
    · rw [if_neg (by simpa using q1)] at h1; rw [if_pos (by rw [q2])] at h2
      cases h2; exact absurd h1 (fr z)
    · rw [if_neg (by simpa using q1)] at h1; rw [if_neg (by simpa using q2)] at h2
      exact i z z' l h1 h2
theorem WaysR.app (h : WaysR H0 H d M n) {z0 : Int} {E : List Entry} (hz : M z0 = some E) {kvs : List (Key × V)} (hk : H d = some (.dK kvs)) {l : Addr} (hv : valV kvs (.inl z0) = some (.ref l)) {es : List V} (hl : H l = some (.lst es)) {T : Addr} (nT : H T = none) (e : Entry) :
    WaysR H0 (upd (upd H T (.tup [.int e.1, .int e.2.1, .bl e.2.2])) l (.lst (es ++ [.ref T]))) d (fun y => if y = z0 then some (E ++ [e]) else M y) (n + 1) := by
  obtain ⟨a, b, kvs', c, e1, f, g, i⟩ := h
  rw [hk] at c; cases c
  have ex := Evl.Ex.new (o := .tup [.int e.1, .int e.2.1, .bl e.2.2]) nT
  have tk2 : Tk (upd H T (.tup [.int e.1, .int e.2.1, .bl e.2.2])) (upd (upd H T (.tup [.int e.1, .int e.2.1, .bl e.2.2])) l (.lst (es ++ [.ref T]))) := tk_upd (ex _ _ hl) fun xs z => by cases z
  have ndl : d ≠ l := fun z => by subst z; rw [hk] at hl; cases hl
  obtain ⟨l', es', k1, k2, k3, k4, k5⟩ := g z0 E hz
  rw [hv] at k1; cases k1
  rw [hl] at k3; cases k3
  refine ⟨upd_ex (a.trans ex) k2, b, kvs, by rw [upd_ne ndl]; exact ex _ _ hk, by omega, fun z hz' => ?_, fun z E' hz' => ?_, i⟩
  · dsimp only at hz'
    by_cases q : z = z0
    · rw [if_pos q] at hz'; cases hz'
    · rw [if_neg q] at hz'; exact f z hz'
  · dsimp only at hz'
    by_cases q : z = z0
    · rw [if_pos q] at hz'; cases hz'
      subst q
      exact ⟨l, _, hv, k2, upd_same, by simp; omega, (all2_tk st_Ent ((tk_ex ex).trans tk2) k5).snoc ⟨T, rfl, tk2 _ _ upd_same⟩⟩
    · rw [if_neg q] at hz'
      obtain ⟨l2, es2, j1, j2, j3, j4, j5⟩ := g z E' hz'
      have nl : l2 ≠ l := fun x => q (i z z0 l (x ▸ j1) hv)
      refine ⟨l2, es2, j1, j2, by rw [upd_ne nl]; exact ex _ _ j3, by omega, all2_tk st_Ent ((tk_ex ex).trans tk2) j5⟩
theorem led_step {K : PySem.W.Frag} {D : Ends} {σ : L2.St} {j k : Nat} {z o : Int} {i : Nat} {fw : Bool} (hW : WaysR H0 H d M n) (hn : n ≤ 50000) (h1 : σ[1]? = some (some (.ref d))) (hj : σ[j]? = some (some (.int z))) (h2 : σ[2]? = some (some (.int ((i : Nat) : Int)))) (hk : σ[k]? = some (some (.int o)))
    (q : ∀ H', WaysR H0 H' d (addM M z (i, o, fw)) (n + 2) → D.nx σ H') :
    tDrop (tBM K "list" rAppend (tDSetd (tVar 1) (tVar j) (tLst tNil)) (tCons (tTup (tCons (tVar 2) (tCons (tVar k) (tCons (tC (.bl fw)) tNil)))) tNil)) D σ H := by
  obtain ⟨_, _, kvs, c, e, f, g, _⟩ := id hW
  refine ⟨.ref d, h1, d, rfl, .inl ⟨kvs, .inl c⟩, .int z, hj, Nat.zero_le _, fun p np => ?_⟩
  have exp := Evl.Ex.new (o := .lst []) np
  refine ⟨kvs, .inl z, exp _ _ c, rfl, sz_lt (by omega), fun v hv => ?_, fun hv => ?_⟩
  · cases hM : M z with
    | none => rw [f z hM] at hv; cases hv
    | some E =>
      obtain ⟨l, es, k1, k2, k3, k4, k5⟩ := g z E hM
      rw [k1] at hv; cases hv
      refine ⟨.inl ⟨rfl, _, sq_of (exp _ _ k3)⟩, _, h2, _, hk, by show 3 ≤ sizeLine; decide, fun T nT => ⟨l, es, .ref T, rfl, rfl, ?_, sz_lt (by omega), ?_⟩⟩
      · exact Evl.Ex.new (o := .tup [.int i, .int o, .bl fw]) nT _ _ (exp _ _ k3)
      · have w2 := (hW.new (o := .lst []) np).app hM (exp _ _ c) k1 (exp _ _ k3) nT (i, o, fw)
        have : (fun y => if y = z then some (E ++ [(i, o, fw)]) else M y) = addM M z (i, o, fw) := by
          funext y; unfold addM; rw [hM]; rfl
        rw [this] at w2
        refine q _ ⟨w2.1, w2.2.1, ?_⟩
        obtain ⟨kv, a1, a2, a3, a4, a5⟩ := w2.2.2
        exact ⟨kv, a1, by omega, a3, fun z E hz => by
          obtain ⟨l, es, b1, b2, b3, b4, b5⟩ := a4 z E hz
          exact ⟨l, es, b1, b2, b3, by omega, b5⟩, a5⟩
  · have hM : M z = none := by
      cases hM : M z with
      | none => rfl
      | some E =>
        obtain ⟨l, es, k1, _⟩ := g z E hM
        rw [k1] at hv; cases hv
    have w1 := hW.key c hM np
    have npd : p ≠ d := fun y => by subst y; rw [c] at np; cases np
    have hl : (upd (upd H p (.lst [])) d (.dK (putK kvs (.inl z) (.ref p)))) p = some (.lst []) := by rw [upd_ne npd, upd_same]
    have hv2 : valV (putK kvs (.inl z) (.ref p)) (.inl z) = some (.ref p) := by rw [valV_put, if_pos rfl]
    refine ⟨.inl ⟨rfl, _, sq_of hl⟩, _, h2, _, hk, by show 3 ≤ sizeLine; decide, fun T nT => ⟨p, [], .ref T, rfl, rfl, ?_, sz_lt (by simp), ?_⟩⟩
    · exact Evl.Ex.new (o := .tup [.int i, .int o, .bl fw]) nT _ _ hl
    · have w2 := w1.app (z0 := z) (E := []) (by rw [if_pos rfl]) upd_same hv2 hl nT (i, o, fw)
      have : (fun y => if y = z then some ([] ++ [(i, o, fw)]) else (fun y => if y = z then some [] else M y) y) = addM M z (i, o, fw) := by
        funext y; unfold addM; rw [hM]
        by_cases q : y = z
        · rw [if_pos q, if_pos q]; rfl
        · rw [if_neg q, if_neg q]; exact if_neg q
      rw [this] at w2
      exact q _ w2
end
def mways (A : Arcs) : Nat → Int → Option (List Entry)
  | 0 => fun z => if z = -1 ∨ z = -2 then some [] else none
  | i + 1 => addM (addM (mways A i) (ft A i) (i, hd A i, true)) (hd A i) (i, ft A i, false)
def EntOk (A : Arcs) (z : Int) (e : Entry) : Prop := e.1 < A.length ∧ (if e.2.2 = true then ft A e.1 = z ∧ e.2.1 = hd A e.1 else hd A e.1 = z ∧ e.2.1 = ft A e.1)
theorem addM_some {M : Int → Option (List Entry)} {z y : Int} {e : Entry} : (addM M z e y).isSome = ((M y).isSome || decide (y = z)) := by
  unfold addM
  by_cases h : y = z
  · rw [if_pos h, decide_eq_true h]; simp
  · rw [if_neg h, decide_eq_false h]; simp
theorem addM_mem {M : Int → Option (List Entry)} {z y : Int} {e x : Entry} : x ∈ (addM M z e y).getD [] ↔ x ∈ (M y).getD [] ∨ (y = z ∧ x = e) := by
  unfold addM
  by_cases h : y = z
  · rw [if_pos h, h]; simp
  · rw [if_neg h]; simp [h]
theorem mways_some (A : Arcs) (z : Int) : ∀ n, (mways A n z).isSome = true ↔ z = -1 ∨ z = -2 ∨ ∃ i, i < n ∧ (ft A i = z ∨ hd A i = z)
  | 0 => by
    unfold mways
    by_cases h : z = -1 ∨ z = -2
    · rw [if_pos h]; simp; omega
    · rw [if_neg h]; simp; omega
  | n + 1 => by
    unfold mways
    rw [addM_some, addM_some, Bool.or_eq_true, Bool.or_eq_true, mways_some A z n]
    constructor
    · rintro ((h | h) | h)
      · rcases h with h | h | ⟨i, hi, h⟩
        · exact .inl h
        · exact .inr (.inl h)
        · exact .inr (.inr ⟨i, by omega, h⟩)
      · exact .inr (.inr ⟨n, by omega, .inl (of_decide_eq_true h).symm⟩)
      · exact .inr (.inr ⟨n, by omega, .inr (of_decide_eq_true h).symm⟩)
    · rintro (h | h | ⟨i, hi, h⟩)
      · exact .inl (.inl (.inl h))
      · exact .inl (.inl (.inr (.inl h)))
      · by_cases e : i = n
        · subst e
          rcases h with h | h
          · exact .inl (.inr (decide_eq_true h.symm))
          · exact .inr (decide_eq_true h.symm)
        · exact .inl (.inl (.inr (.inr ⟨i, by omega, h⟩)))
theorem mways_mem (A : Arcs) (z : Int) (x : Entry) : ∀ n, n ≤ A.length → (x ∈ (mways A n z).getD [] ↔ x.1 < n ∧ EntOk A z x)
  | 0, _ => by
    unfold mways
    by_cases h : z = -1 ∨ z = -2
    · rw [if_pos h]; simp
    · rw [if_neg h]; simp
  | n + 1, hn => by
    unfold mways
    rw [addM_mem, addM_mem, mways_mem A z x n (by omega)]
    obtain ⟨i, o, fw⟩ := x
    unfold EntOk
    simp only [Prod.mk.injEq]
    constructor
    · rintro ((⟨h1, h2⟩ | ⟨h1, rfl, rfl, rfl⟩) | ⟨h1, rfl, rfl, rfl⟩)
      · exact ⟨by omega, h2⟩
      · exact ⟨by omega, by omega, by rw [if_pos rfl]; exact ⟨h1.symm, rfl⟩⟩
      · exact ⟨by omega, by omega, by rw [if_neg (by decide)]; exact ⟨h1.symm, rfl⟩⟩
    · rintro ⟨h1, h2, h3⟩
      by_cases e : i = n
      · subst e
        cases fw with
        | true => rw [if_pos rfl] at h3; exact .inl (.inr ⟨h3.1.symm, rfl, h3.2, rfl⟩)
        | false => rw [if_neg (by decide)] at h3; exact .inr ⟨h3.1.symm, rfl, h3.2, rfl⟩
      · exact .inl (.inl ⟨by omega, h2, h3⟩)
def ArcsR (H : Hp) (a : Addr) (A : Arcs) : Prop := ∃ ps, H a = some (.lst ps) ∧ All2 (Pr H) ps A
theorem ArcsR.ex {H H' : Hp} {a : Addr} {A : Arcs} (h : ArcsR H a A) (e : Ex H H') : ArcsR H' a A := by
  obtain ⟨ps, h1, h2⟩ := h
  exact ⟨ps, e _ _ h1, all2_tk st_Pr (tk_ex e) h2⟩
/-- what led_ways gives -/
def WaysOf (H : Hp) (d : Addr) (A : Arcs) : Prop := ∃ kvs : List (Key × V), H d = some (.dK kvs) ∧ ∀ z, (z = -1 ∨ ∃ i, i < A.length ∧ (ft A i = z ∨ hd A i = z)) →
  ∃ l es E, valV kvs (.inl z) = some (.ref l) ∧ H l = some (.lst es) ∧ All2 (Ent H) es E ∧ ∀ x, x ∈ E ↔ EntOk A z x
theorem WaysOf.ex {H H' : Hp} {d : Addr} {A : Arcs} (h : WaysOf H d A) (e : Ex H H') : WaysOf H' d A := by
  obtain ⟨kvs, h1, h2⟩ := h
  refine ⟨kvs, e _ _ h1, fun z hz => ?_⟩
  obtain ⟨l, es, E, a, b, c, d⟩ := h2 z hz
  exact ⟨l, es, E, a, e _ _ b, all2_tk st_Ent (tk_ex e) c, d⟩
def sp_led_ways (_ : PySem.W.Frag) : Sp := fun vs H Q _ => ∃ a A, vs = [.ref a] ∧ ArcsR H a A ∧ A.length ≤ 1000 ∧ ∀ d H', Ex H H' → WaysOf H' d A → Q (.ref d) H'
theorem ok_led_ways {P : Program} {w : World} {K : PySem.W.Frag} {mg : Str → Option Value} {base : Heap} {f : Addr} {fd : FuncData} (F : L2.Fun K "led_ways" "led_ways" s_led_ways f fd) (B : Bn mg) :
    FnOk P w K mg base CX0 1 f fd ["arcs"] (sp_led_ways K) := by
  refine F.ok (k := 0) sc_led_ways (fun vs H Q E h => ?_) (fun cdv A outer s H vs Q E hr h => ?_)
  · obtain ⟨_, _, rfl, _⟩ := h
    rfl
  · obtain ⟨a, A', rfl, ⟨ps, h1, h2⟩, hl, q⟩ := h
    have hu := hu_of hr
    refine ⟨_, (pss_cons (ps_set (i := 1) sc_led_ways.nd rfl (Or.inl rfl) (pe_disp (pps_cons (B.pb (by rfl)) (pe_lst pa_nil) (pps_cons (B.pf (by rfl)) (pe_lst pa_nil) pps_nil)) (by rfl) (by rfl) (fun z => by cases z) (by decide)))
          (pss_cons (ps_for PassesOwn.never rfl (pi_enum (by rfl) B.enumerate (pa_cons (pv 0) pa_nil)) (pg_tup (by rfl) (pgs_cons (pg_name (i := 2) sc_led_ways.nd rfl (Or.inl rfl)) (pgs_cons (pg_tup (by rfl) (pgs_cons (pg_name (i := 3) sc_led_ways.nd rfl (Or.inl rfl)) (pgs_cons (pg_name (i := 4) sc_led_ways.nd rfl (Or.inl rfl)) pgs_nil))) pgs_nil))) (pss_cons (ps_expr (pe_bm PySem.F.plainAttrs_list PySem.F.slot_list_append PySem.F.type_list_append mt_append (pe_dsetd (pv 1) (pv 3) (pe_lst pa_nil) ⟨rfl, rfl, rfl, rfl⟩) (pa_cons (pe_tup (pa_cons (pv 2) (pa_cons (pv 4) (pa_cons pe_bl pa_nil)))) pa_nil)))
          (pss_one (ps_expr (pe_bm PySem.F.plainAttrs_list PySem.F.slot_list_append PySem.F.type_list_append mt_append (pe_dsetd (pv 1) (pv 4) (pe_lst pa_nil) ⟨rfl, rfl, rfl, rfl⟩) (pa_cons (pe_tup (pa_cons (pv 2) (pa_cons (pv 3) (pa_cons pe_bl pa_nil)))) pa_nil))))))
          (pss_one (ps_ret (pv 1))))), ?_⟩
    refine fun d nd => ⟨Nat.zero_le _, fun p1 n1 => ⟨Nat.zero_le _, fun p2 n2 => ?_⟩⟩
    have x0 := Evl.Ex.new (o := .dK []) nd
    have x1 := Evl.Ex.new (o := .lst []) n1
    have x2 := Evl.Ex.new (o := .lst []) n2
    have d1 : d ≠ p1 := ne_of_none upd_same n1
    have d2 : d ≠ p2 := ne_of_none (x1 _ _ upd_same) n2
    have d3 : p1 ≠ p2 := ne_of_none upd_same n2
    refine ⟨(x1.trans x2) _ _ upd_same, [(.inl (-1), .ref p1), (.inl (-2), .ref p2)], rfl, by simp, ?_⟩
    have hm : mergeK [] [((.inl (-1) : Key), V.ref p1), (.inl (-2), .ref p2)] = [((.inl (-1) : Key), V.ref p1), (.inl (-2), .ref p2)] := rfl
    rw [hm]
    generalize hH1 : upd (upd (upd (upd H d (.dK [])) p1 (.lst [])) p2 (.lst [])) d (.dK [((.inl (-1) : Key), V.ref p1), (.inl (-2), .ref p2)]) = H1
    have hd1 : H1 d = some (.dK [((.inl (-1) : Key), V.ref p1), (.inl (-2), .ref p2)]) := by rw [← hH1, upd_same]
    have e1 : Ex H H1 := by rw [← hH1]; exact upd_ex ((x0.trans x1).trans x2) nd
    have hp1 : H1 p1 = some (.lst []) := by rw [← hH1, upd_ne (Ne.symm d1), upd_ne d3, upd_same]
    have hp2 : H1 p2 = some (.lst []) := by rw [← hH1, upd_ne (Ne.symm d2), upd_same]
    have W0 : WaysR H H1 d (mways A' 0) 2 := by
      refine ⟨e1, nd, _, hd1, by simp, fun z hz => ?_, fun z E hz => ?_, fun z z' l hz hz' => ?_⟩
      · unfold mways at hz
        by_cases q : z = -1 ∨ z = -2
        · rw [if_pos q] at hz; cases hz
        · rw [valV_neg (by simp; omega), valV_neg (by simp; omega), valV_nil]
      · unfold mways at hz
        by_cases q : z = -1 ∨ z = -2
        · rw [if_pos q] at hz; cases hz
          rcases q with q | q
          · exact ⟨p1, [], by rw [q]; exact valV_pos rfl, fresh_back x0 n1, hp1, by simp, .nil⟩
          · exact ⟨p2, [], by rw [q, valV_neg (by simp)]; exact valV_pos rfl, fresh_back (x0.trans x1) n2, hp2, by simp, .nil⟩
        · rw [if_neg q] at hz; cases hz
      · have key : ∀ y, valV [((.inl (-1) : Key), V.ref p1), (.inl (-2), .ref p2)] (.inl y) = some (.ref l) → (y = -1 ∧ l = p1) ∨ (y = -2 ∧ l = p2) := fun y hy => by
          by_cases q1 : y = -1
          · rw [valV_pos (by rw [q1])] at hy; cases hy; exact .inl ⟨q1, rfl⟩
          · rw [valV_neg (by simp; omega)] at hy
            by_cases q2 : y = -2
            · rw [valV_pos (by rw [q2])] at hy; cases hy; exact .inr ⟨q2, rfl⟩
            · rw [valV_neg (by simp; omega), valV_nil] at hy; cases hy
        rcases key z hz with ⟨a1, a2⟩ | ⟨a1, a2⟩ <;> rcases key z' hz' with ⟨b1, b2⟩ | ⟨b1, b2⟩
        · rw [a1, b1]
        · exact absurd (a2.symm.trans b2) d3
        · exact absurd (b2.symm.trans a2) d3
        · rw [a1, b1]
    refine ⟨.ref a, rfl, a, ps, rfl, sq_of (e1 _ _ h1), ?_⟩
    refine for_it (walk_enum (xs := ps)) (fun i σ H' => ∃ y2 y3 y4, σ = [some (.ref a), some (.ref d), y2, y3, y4] ∧ WaysR H H' d (mways A' i) (2 + 4 * i)) ⟨none, none, none, rfl, W0⟩
      (fun i σ H' _ pv => ?_) (fun i x σ H' H2 hi pv y => ?_) fun σ H' pv => ?_
    · obtain ⟨_, _, _, _, w⟩ := pv
      exact sq_of (w.1 _ _ h1)
    · obtain ⟨y2, y3, y4, rfl, w⟩ := pv
      obtain ⟨T, x1, x2, rfl, nT, rfl, f1, f2⟩ := y
      cases f1
      obtain ⟨z, ez, b, rfl, hb⟩ := h2.get' f2
      have hb2 := (w.new (o := .tup [.int (i : Nat), .ref b]) nT).1 _ _ hb
      have hil : i < A'.length := (List.getElem?_eq_some_iff.mp ez).1
      refine ⟨T, _, rfl, st_of upd_same, rfl, _, _, rfl, _, _, rfl, ⟨b, _, rfl, st_of hb2, rfl, _, _, rfl, _, _, rfl, rfl, rfl, ?_⟩⟩
      refine led_step (j := 3) (k := 4) (z := z.1) (o := z.2) (i := i) (fw := true) (w.new nT) (by omega) rfl rfl rfl rfl fun H3 w3 => ?_
      refine led_step (j := 4) (k := 3) (z := z.2) (o := z.1) (i := i) (fw := false) w3 (by omega) rfl rfl rfl rfl fun H4 w4 => ?_
      refine ⟨some (.int (i : Nat)), some (.int z.1), some (.int z.2), rfl, ?_⟩
      have : mways A' (i + 1) = addM (addM (mways A' i) z.1 (i, z.2, true)) z.2 (i, z.1, false) := by
        obtain ⟨g1, g2⟩ := ft_get ez
        show addM (addM (mways A' i) (ft A' i) (i, hd A' i, true)) (hd A' i) (i, ft A' i, false) = _
        rw [g1, g2]
      rw [this, show 2 + 4 * (i + 1) = 2 + 4 * i + 2 + 2 by omega]
      exact w4
    · obtain ⟨y2, y3, y4, rfl, w⟩ := pv
      obtain ⟨a1, a2, kvs, a3, a4, a5, a6, a7⟩ := w
      rw [h2.1] at a5 a6
      refine ⟨_, rfl, q d H' a1 ⟨kvs, a3, fun z hz => ?_⟩⟩
      have hs : (mways A' A'.length z).isSome = true := (mways_some A' z _).mpr (by
        rcases hz with h | h
        · exact .inl h
        · exact .inr (.inr h))
      obtain ⟨E, hE⟩ := Option.isSome_iff_exists.mp hs
      obtain ⟨l, es, b1, b2, b3, b4, b5⟩ := a6 z E hE
      refine ⟨l, es, E, b1, b3, b5, fun x => ?_⟩
      have := mways_mem A' z x A'.length (Nat.le_refl _)
      rw [hE] at this
      exact this.trans ⟨fun h => h.2, fun h => ⟨h.1, h⟩⟩
end K56


namespace K56
open PySem PySem.Spec PyProof.Rows L2 K56R
open Evl (Ex ex_l ex_t sq_of st_of fresh_back sz_of sz_lt)
/-! ### reached -/
abbrev CE := Int × Option Entry
def CV (H : Hp) (v : V) : Option Entry → Prop
  | none => v = .non
  | some e => Ent H v e
def CRel (H : Hp) (kv : Key × V) (c : CE) : Prop := kv.1 = .inl c.1 ∧ CV H kv.2 c.2
theorem CRel.tk {H H' : Hp} {kv : Key × V} {c : CE} (t : Tk H H') (h : CRel H kv c) : CRel H' kv c := by
  obtain ⟨a, b⟩ := h
  refine ⟨a, ?_⟩
  cases e : c.2 with
  | none => rw [e] at b; exact b
  | some x => rw [e] at b; exact st_Ent _ _ _ _ t b
def CamR (H : Hp) (k : Addr) (cs : List CE) : Prop := ∃ kvs : List (Key × V), H k = some (.dK kvs) ∧ All2 (CRel H) kvs cs
def keys (cs : List CE) : List Int := cs.map (·.1)
theorem CamR.ex {H H' : Hp} {k : Addr} {cs : List CE} (h : CamR H k cs) (e : Ex H H') : CamR H' k cs := by
  obtain ⟨kvs, a, b⟩ := h
  exact ⟨kvs, e _ _ a, b.mono fun _ _ => CRel.tk (tk_ex e)⟩
theorem cam_none {H : Hp} : ∀ {kvs : List (Key × V)} {cs : List CE} {z : Int}, All2 (CRel H) kvs cs → z ∉ keys cs → valV kvs (.inl z) = none
  | [], _, z, _, _ => rfl
  | kv :: kvs, cs, z, h, n => by
    obtain ⟨c, cs', rfl, r, h'⟩ := h.uncons
    have : z ≠ c.1 ∧ z ∉ keys cs' := by simpa [keys] using n
    rw [valV_neg (by rw [r.1]; simp; exact Ne.symm this.1)]
    exact cam_none h' this.2
theorem cam_some {H : Hp} : ∀ {kvs : List (Key × V)} {cs : List CE} {z : Int} {o : Option Entry}, All2 (CRel H) kvs cs → (keys cs).Nodup → (z, o) ∈ cs → ∃ v, valV kvs (.inl z) = some v ∧ CV H v o
  | [], cs, z, o, h, _, m => by
    have : cs = [] := List.length_eq_zero_iff.mp h.1.symm
    subst this; cases m
  | kv :: kvs, cs, z, o, h, nd, m => by
    obtain ⟨c, cs', rfl, r, h'⟩ := h.uncons
    have nd' : c.1 ∉ keys cs' ∧ (keys cs').Nodup := by simpa [keys] using nd
    rcases List.mem_cons.mp m with e | m'
    · subst e
      exact ⟨kv.2, valV_pos r.1, r.2⟩
    · have : z ≠ c.1 := fun e => nd'.1 (e ▸ List.mem_map.mpr ⟨_, m', rfl⟩)
      rw [valV_neg (by rw [r.1]; simp; exact Ne.symm this)]
      exact cam_some h' nd'.2 m'
theorem cam_isSome {H : Hp} {kvs : List (Key × V)} {cs : List CE} {z : Int} (h : All2 (CRel H) kvs cs) (nd : (keys cs).Nodup) : (valV kvs (.inl z)).isSome = decide (z ∈ keys cs) := by
  by_cases m : z ∈ keys cs
  · obtain ⟨c, hc, e⟩ := List.mem_map.mp m
    obtain ⟨v, hv, _⟩ := cam_some (z := z) (o := c.2) h nd (by rw [← e]; exact hc)
    rw [hv, decide_eq_true m]; rfl
  · rw [cam_none h m, decide_eq_false m]; rfl
/-- how the search grows -/
inductive Grow (A : Arcs) (rm : List (Option Int)) (F : List Int) : List CE → Prop
  | one : Grow A rm F [(-1, none)]
  | add {cs : List CE} {z : Int} {i : Nat} {p : Int} {fw : Bool} : Grow A rm F cs → z ∉ keys cs → p ∈ keys cs → EntOk A p (i, z, fw) → roomOk rm F i fw = true → Grow A rm F (cs ++ [(z, some (i, p, fw))])
section
variable {A : Arcs} {rm : List (Option Int)} {F : List Int} {cs : List CE}
theorem keys_app (cs cs' : List CE) : keys (cs ++ cs') = keys cs ++ keys cs' := List.map_append
theorem Grow.nodup (g : Grow A rm F cs) : (keys cs).Nodup := by
  induction g with
  | one => simp [keys]
  | add g h1 h2 h3 h4 ih =>
    rw [keys_app, List.nodup_append]
    refine ⟨ih, by simp [keys], fun a ha b hb e => ?_⟩
    simp [keys] at hb
    exact h1 (hb ▸ e ▸ ha)
theorem Grow.start (g : Grow A rm F cs) : (-1 : Int) ∈ keys cs := by
  induction g with
  | one => simp [keys]
  | add g h1 h2 h3 h4 ih => rw [keys_app]; exact List.mem_append_left _ ih
theorem Grow.pos (g : Grow A rm F cs) : 0 < cs.length := by
  have := g.start
  unfold keys at this
  obtain ⟨c, hc, _⟩ := List.mem_map.mp this
  exact List.length_pos_of_mem hc
def places (A : Arcs) : List Int := (-1) :: A.flatMap fun p => [p.1, p.2]
theorem places_len (A : Arcs) : (places A).length = 1 + 2 * A.length := by
  unfold places
  have : ∀ l : Arcs, (l.flatMap fun p => [p.1, p.2]).length = 2 * l.length := by
    intro l
    induction l with
    | nil => rfl
    | cons p l ih => rw [List.flatMap_cons, List.length_append, ih]; simp; omega
  rw [List.length_cons, this]; omega
theorem mem_places {z : Int} : z ∈ places A ↔ z = -1 ∨ ∃ i, i < A.length ∧ (ft A i = z ∨ hd A i = z) := by
  unfold places
  rw [List.mem_cons, List.mem_flatMap]
  constructor
  · rintro (h | ⟨p, hp, h⟩)
    · exact .inl h
    · obtain ⟨i, hi⟩ := List.mem_iff_getElem?.mp hp
      obtain ⟨e1, e2⟩ := ft_get hi
      have : z = p.1 ∨ z = p.2 := by simpa using h
      exact .inr ⟨i, (List.getElem?_eq_some_iff.mp hi).1, by rcases this with q | q <;> simp_all⟩
  · rintro (h | ⟨i, hi, h⟩)
    · exact .inl h
    · exact .inr ⟨_, List.mem_of_getElem? (get_ft hi), by rcases h with q | q <;> simp [q]⟩
theorem EntOk.ends {p z : Int} {i : Nat} {fw : Bool} (h : EntOk A p (i, z, fw)) : i < A.length ∧ ((ft A i = p ∧ hd A i = z) ∨ (ft A i = z ∧ hd A i = p)) := by
  obtain ⟨h1, h2⟩ := h
  refine ⟨h1, ?_⟩
  cases fw with
  | true => rw [if_pos rfl] at h2; exact .inl ⟨h2.1, h2.2.symm⟩
  | false => rw [if_neg (by simp)] at h2; exact .inr ⟨h2.2.symm, h2.1⟩
theorem Grow.sub (g : Grow A rm F cs) : ∀ z ∈ keys cs, z ∈ places A := by
  induction g with
  | one => intro z hz; simp [keys] at hz; rw [hz]; exact List.mem_cons_self
  | add g h1 h2 h3 h4 ih =>
    intro z hz
    rw [keys_app] at hz
    rcases List.mem_append.mp hz with q | q
    · exact ih z q
    · simp [keys] at q
      subst q
      obtain ⟨a, b⟩ := h3.ends
      exact mem_places.mpr (.inr ⟨_, a, by rcases b with b | b <;> simp [b]⟩)
theorem Grow.le (g : Grow A rm F cs) : cs.length ≤ 1 + 2 * A.length := by
  rw [← places_len]
  have := List.Nodup.length_le_of_subset g.nodup (fun z hz => g.sub z hz)
  rwa [show (keys cs).length = cs.length by simp [keys]] at this
def Done (A : Arcs) (rm : List (Option Int)) (F : List Int) (cs : List CE) (z : Int) : Prop := ∀ e, EntOk A z e → roomOk rm F e.1 e.2.2 = true → e.2.1 ∈ keys cs
end
def sp_reached (_ : PySem.W.Frag) : Sp := fun vs H Q _ => ∃ w a f A rm F, vs = [.ref w, .ref a, .ref f, .int (-1), .int (-2)] ∧ WaysOf H w A ∧ H a = some (.lst (rm.map rmV)) ∧ H f = some (.lst (vi F)) ∧ rm.length = A.length ∧ F.length = A.length ∧ A.length ≤ 1000 ∧
  ∀ k cs H', Ex H H' → CamR H' k cs → Grow A rm F cs → ((-2 : Int) ∉ keys cs → ∀ z ∈ keys cs, Done A rm F cs z) → Q (.ref k) H'
theorem CamR.add {H : Hp} {k : Addr} {cs : List CE} (h : CamR H k cs) {kvs : List (Key × V)} (hk : H k = some (.dK kvs)) {z : Int} (n : z ∉ keys cs) {T : Addr} (nT : H T = none) (e : Entry) :
    CamR (upd (upd H T (.tup [.int e.1, .int e.2.1, .bl e.2.2])) k (.dK (putK kvs (.inl z) (.ref T)))) k (cs ++ [(z, some e)]) := by
  obtain ⟨kvs', a, b⟩ := h
  rw [hk] at a; cases a
  have ex := Evl.Ex.new (o := .tup [.int e.1, .int e.2.1, .bl e.2.2]) nT
  have t2 : Tk (upd H T (.tup [.int e.1, .int e.2.1, .bl e.2.2])) (upd (upd H T (.tup [.int e.1, .int e.2.1, .bl e.2.2])) k (.dK (putK kvs (.inl z) (.ref T)))) := tk_upd (ex _ _ hk) fun xs q => by cases q
  refine ⟨_, upd_same, ?_⟩
  rw [putK_new _ (cam_none b n)]
  refine (b.mono fun _ _ => CRel.tk ((tk_ex ex).trans ?_)).snoc ⟨rfl, T, rfl, ?_⟩
  · rw [putK_new _ (cam_none b n)] at t2; exact t2
  · rw [upd_ne (fun q => by rw [← q] at hk; rw [nT] at hk; cases hk), upd_same]
theorem ok_reached {P : Program} {w : World} {K : PySem.W.Frag} {mg : Str → Option Value} {base : Heap} {f : Addr} {fd : FuncData} (F : L2.Fun K "reached" "reached" s_reached f fd) (B : Bn mg)
    (C_has_room : C8.Cal P w K mg base 1 "has_room" (sp_has_room K) []) :
    FnOk P w K mg base CX0 2 f fd ["ways", "room", "flow", "begin", "end"] (sp_reached K) := by
  refine F.ok (k := 1) sc_reached (fun vs H Q E h => ?_) (fun cdv A outer s H vs Q E hr h => ?_)
  · obtain ⟨_, _, _, _, _, _, rfl, _⟩ := h
    rfl
  · obtain ⟨w0, a, f', A', rm, F', rfl, hW, ha, hf, l1, l2, hl, q⟩ := h
    have hu := hu_of hr
    refine ⟨_, (pss_cons (ps_par3 (i := 5) (j := 6) (l := 7) (by rfl) sc_reached.nd rfl rfl rfl (by decide) (by decide) (by decide) rfl rfl rfl (pa_cons (pe_disp (pps_cons (pv 3) pe_non pps_nil) (by rfl) (by rfl) (fun z => by cases z) (by decide)) (pa_cons (pe_lst (pa_cons (pv 3) pa_nil)) (pa_cons pe_int pa_nil))) (by rfl))
          (pss_cons (ps_while PassesOwn.never (PW.pt (pw_and (pt_cmpR op_lt (pv 7) (pe_callB call_len_seq (by rfl) B.len PySem.boot_len (pa_cons (pv 6) pa_nil)) (nomark _)) (pw_and1 (pt_cmp (pc_dnotin hu (pv 4) (pv 5)))))) (pss_cons (ps_set (i := 8) sc_reached.nd rfl (Or.inl rfl) (pe_ix ix_list (pv 6) (pv 7) (fun _ _ => rfl)))
          (pss_cons (ps_set (i := 7) sc_reached.nd rfl (Or.inl rfl) (pe_op op_add (pv 7) pe_int))
          (pss_one (ps_for PassesOwn.never rfl (pi_list (pe_dget hu (pv 0) (pv 8) (fun _ _ => rfl))) (pg_tup (by rfl) (pgs_cons (pg_name (i := 9) sc_reached.nd rfl (Or.inl rfl)) (pgs_cons (pg_name (i := 10) sc_reached.nd rfl (Or.inl rfl)) (pgs_cons (pg_name (i := 11) sc_reached.nd rfl (Or.inl rfl)) pgs_nil)))) (pss_one (ps_if (PW.pt (pw_and (pt_cmp (pc_dnotin hu (pv 10) (pv 5))) (pw_and1 (pt_val (C8.pe_c C_has_room hr (by decide) (by rfl) (pa_cons (pv 1) (pa_cons (pv 2) (pa_cons (pv 9) (pa_cons (pv 11) pa_nil))))))))) (pss_cons (ps_dput hu (pv 5) (pv 10) (pe_tup (pa_cons (pv 9) (pa_cons (pv 8) (pa_cons (pv 11) pa_nil)))) rfl)
          (pss_one (ps_expr (pe_bm PySem.F.plainAttrs_list PySem.F.slot_list_append PySem.F.type_list_append mt_append (pv 6) (pa_cons (pv 10) pa_nil))))) pss_nil)))))))
          (pss_one (ps_ret (pv 5))))), ?_⟩
    refine fun k nk => ⟨.int (-1), rfl, upd_same, [(.inl (-1), .non)], rfl, by simp, .int (-1), rfl, by show 1 ≤ sizeLine; decide, fun wq nq => ⟨_, _, _, rfl, ?_⟩⟩
    rw [upd_upd] at nq ⊢
    have x0 := Evl.Ex.new (o := .dK (mergeK [] [((.inl (-1) : Key), V.non)])) nk
    have x1 := Evl.Ex.new (o := .lst [.int (-1)]) nq
    have nq0 : H wq = none := fresh_back x0 nq
    have nkq : k ≠ wq := ne_of_none upd_same nq
    refine ⟨fun m σ H' => ∃ cs s y8 y9 y10 y11, σ = [some (.ref w0), some (.ref a), some (.ref f'), some (.int (-1)), some (.int (-2)), some (.ref k), some (.ref wq), some (.int ((s : Nat) : Int)), y8, y9, y10, y11] ∧ m + s = 1 + 2 * A'.length ∧ s ≤ cs.length ∧
      Ex H H' ∧ CamR H' k cs ∧ Grow A' rm F' cs ∧ H' wq = some (.lst (vi (keys cs))) ∧ ∀ z ∈ (keys cs).take s, Done A' rm F' cs z, ⟨1 + 2 * A'.length, [(-1, none)], 0, none, none, none, none, rfl, by omega, by simp, x0.trans x1, ⟨_, x1 _ _ upd_same, ?_⟩, .one, upd_same, by simp⟩, fun m σ H' hw => ?_⟩
    · exact All2.cons ⟨rfl, rfl⟩ .nil
    · obtain ⟨cs, s', y8, y9, y10, y11, rfl, em, hs, ex, hC, hG, hQ, hD⟩ := hw
      obtain ⟨kvs, hk, hA2⟩ := id hC
      have hlen : (vi (keys cs)).length = cs.length := by simp [vi, keys]
      have hle := hG.le
      refine ⟨_, rfl, .ref wq, rfl, wq, _, rfl, .inl (sq_of hQ), _, _, rfl, rfl, _, rfl, itB (fun hb => ?_) (fun hb => ?_)⟩
      · have hlt : s' < cs.length := by have := of_decide_eq_true hb; rw [hlen] at this; omega
        refine ⟨_, rfl, _, rfl, k, _, rfl, DGet.k (k := .inl (-2)) hk, _, rfl, itB (fun hb2 => ?_) (fun hb2 => ?_)⟩
        · -- a turn
          have hkl : s' < (keys cs).length := by rw [show (keys cs).length = cs.length by simp [keys]]; exact hlt
          obtain ⟨z, hz⟩ : ∃ z, (keys cs)[s']? = some z := ⟨_, List.getElem?_eq_getElem hkl⟩
          have hzm : z ∈ keys cs := List.mem_of_getElem? hz
          obtain ⟨wk, hwk, hwv⟩ := id hW
          obtain ⟨l, es, E', e1, e2, e3, e4⟩ := hwv z (mem_places.mp (hG.sub z hzm))
          refine ⟨fun σ' H' => ∃ m', m' < m ∧ _, fun σ' H' h => h, ?_⟩
          refine ⟨_, rfl, _, rfl, wq, _, s', .int z, rfl, rfl, sq_of hQ, atI_nat (by simp [vi, hz]), ?_⟩
          refine ⟨_, rfl, s', 1, rfl, rfl, ?_⟩
          refine ⟨_, rfl, _, rfl, w0, .ref l, rfl, ?_, l, rfl, ⟨_, sq_of (ex _ _ e2)⟩, ?_⟩
          · rw [← e1]; exact DGet.k (k := .inl z) (ex _ _ hwk)
          refine for_it (walk_list (xs := es)) (fun j σ H2 => ∃ cs y9 y10 y11, σ = [some (.ref w0), some (.ref a), some (.ref f'), some (.int (-1)), some (.int (-2)), some (.ref k), some (.ref wq), some (.int ((s' : Int) + 1)), some (.int z), y9, y10, y11] ∧ s' < cs.length ∧
            Ex H H2 ∧ CamR H2 k cs ∧ Grow A' rm F' cs ∧ H2 wq = some (.lst (vi (keys cs))) ∧ (keys cs)[s']? = some z ∧ (∀ z ∈ (keys cs).take s', Done A' rm F' cs z) ∧ ∀ e ∈ E'.take j, roomOk rm F' e.1 e.2.2 = true → e.2.1 ∈ keys cs)
            ⟨cs, _, _, _, rfl, hlt, ex, hC, hG, hQ, hz, hD, by simp⟩ (fun j σ H2 _ pv => ?_) (fun j x σ H2 H3 hj pv y => ?_) fun σ H2 pv => ?_
          · obtain ⟨_, _, _, _, _, _, h2, _⟩ := pv
            exact sq_of (h2 _ _ e2)
          · obtain ⟨cs, y9, y10, y11, rfl, hlt, ex, hC, hG, hQ, hz, hD, hj2⟩ := pv
            obtain ⟨kvs, hk, hA2⟩ := id hC
            obtain ⟨rfl, ey⟩ := y
            obtain ⟨e, ee, T, rfl, hT⟩ := e3.get' ey
            obtain ⟨i, o, fw⟩ := e
            have heOk : EntOk A' z (i, o, fw) := (e4 _).mp (List.mem_of_getElem? ee)
            have tk : E'.take (j + 1) = E'.take j ++ [(i, o, fw)] := by rw [List.take_add_one, ee]; rfl
            refine ⟨T, _, rfl, st_of (ex _ _ hT), rfl, _, _, rfl, _, _, rfl, _, _, rfl, rfl, ?_⟩
            refine ⟨_, rfl, _, rfl, k, _, rfl, DGet.k (k := .inl o) hk, _, rfl, itB (fun hb3 => ?_) (fun hb3 => ?_)⟩
            · have hno : o ∉ keys cs := fun q => by rw [cam_isSome hA2 hG.nodup, decide_eq_true q] at hb3; cases hb3
              refine ⟨_, rfl, _, rfl, _, rfl, _, rfl, a, f', rm, F', i, fw, rfl, ex _ _ ha, ex _ _ hf, by have := heOk.1; omega, by have := heOk.1; omega, fun H4 e5 => ⟨_, rfl, itB (fun hr2 => ?_) (fun hr2 => ?_)⟩⟩
              · refine ⟨_, rfl, _, rfl, _, rfl, by show 3 ≤ sizeLine; decide, fun T2 nT2 => ?_⟩
                have x6 := Evl.Ex.new (o := .tup [.int (i : Nat), .int z, .bl fw]) nT2
                have hk4 := e5 _ _ hk
                have hk5 := x6 _ _ hk4
                have hQ5 := x6 _ _ (e5 _ _ hQ)
                refine ⟨_, rfl, _, rfl, k, _, rfl, DPut.k (k := .inl o) hk5 (sz_lt (by have := hG.le; rw [hA2.1]; omega)), ?_⟩
                have C6 := (hC.ex e5).add hk4 hno nT2 (i, z, fw)
                have hQ6 : (upd (upd H4 T2 (.tup [.int (i : Nat), .int z, .bl fw])) k (.dK (putK kvs (.inl o) (.ref T2)))) wq = some (.lst (vi (keys cs))) := by rw [upd_ne (Ne.symm nkq)]; exact hQ5
                have G6 : Grow A' rm F' (cs ++ [(o, some (i, z, fw))]) := .add hG hno (List.mem_of_getElem? hz) heOk hr2
                have kz : keys (cs ++ [(o, some (i, z, fw))]) = keys cs ++ [o] := by rw [keys_app]; rfl
                have hkl : s' < (keys cs).length := (List.getElem?_eq_some_iff.mp hz).1
                refine ⟨_, rfl, .inl ⟨rfl, _, sq_of hQ6⟩, _, rfl, wq, _, _, rfl, rfl, hQ6, sz_lt (by have := hG.le; simp [vi, keys]; omega), ?_⟩
                refine ⟨_, _, _, _, rfl, by rw [List.length_append]; omega, upd_ex (upd_ex ((ex.trans e5).trans x6) nk) nq0, ?_, G6, ?_, ?_, ?_, ?_⟩
                · obtain ⟨kv6, c1, c2⟩ := C6
                  refine ⟨kv6, by rw [upd_ne nkq]; exact c1, c2.mono fun _ _ => CRel.tk (tk_upd hQ6 fun xs q => by cases q)⟩
                · rw [upd_same, kz]; simp [vi]
                · rw [kz, List.getElem?_append_left hkl]; exact hz
                · intro y hy
                  rw [kz, List.take_append_of_le_length (by omega)] at hy
                  intro e he hr3
                  rw [kz]; exact List.mem_append_left _ (hD y hy e he hr3)
                · intro e he hr3
                  rw [tk] at he
                  rw [kz]
                  rcases List.mem_append.mp he with he | he
                  · exact List.mem_append_left _ (hj2 e he hr3)
                  · have : e = (i, o, fw) := by simpa using he
                    subst this; simp
              · refine ⟨cs, _, _, _, rfl, hlt, ex.trans e5, hC.ex e5, hG, e5 _ _ hQ, hz, hD, fun e he hr3 => ?_⟩
                rw [tk] at he
                rcases List.mem_append.mp he with he | he
                · exact hj2 e he hr3
                · have : e = (i, o, fw) := by simpa using he
                  subst this; rw [hr2] at hr3; cases hr3
            · refine ⟨cs, _, _, _, rfl, hlt, ex, hC, hG, hQ, hz, hD, fun e he hr3 => ?_⟩
              rw [tk] at he
              rcases List.mem_append.mp he with he | he
              · exact hj2 e he hr3
              · have : e = (i, o, fw) := by simpa using he
                subst this
                rw [cam_isSome hA2 hG.nodup] at hb3
                simpa using hb3
          · obtain ⟨cs, y9, y10, y11, rfl, hlt, ex, hC, hG, hQ, hz, hD, hj2⟩ := pv
            have := hG.le
            refine ⟨m - 1, by omega, cs, s' + 1, some (.int z), y9, y10, y11, rfl, by omega, by omega, ex, hC, hG, hQ, fun y hy => ?_⟩
            rw [List.take_add_one, hz] at hy
            rcases List.mem_append.mp hy with hy | hy
            · exact hD y hy
            · have : y = z := by simpa using hy
              subst this
              intro e he hr3
              refine hj2 e ?_ hr3
              rw [List.take_of_length_le (by rw [e3.1]; exact Nat.le_refl _)]
              exact (e4 e).mpr he
        · have : (-2 : Int) ∈ keys cs := by
            rw [cam_isSome hA2 hG.nodup] at hb2; simpa using hb2
          exact ⟨_, rfl, q k cs H' ex hC hG fun n => absurd this n⟩
      · have : cs.length ≤ s' := by
          have h9 := of_decide_eq_false hb
          rw [hlen] at h9; omega
        refine ⟨_, rfl, q k cs H' ex hC hG fun _ z hz => hD z ?_⟩
        rw [List.take_of_length_le (by simp [keys]; omega)]
        exact hz
end K56


namespace K56
open PySem PySem.Spec PyProof.Rows L2 K56R
open Evl (Ex ex_l ex_t sq_of st_of fresh_back sz_of sz_lt)
/-! ### steps_back -/
abbrev Stp := Nat × Bool
def StpR (H : Hp) (v : V) (s : Stp) : Prop := ∃ a, v = .ref a ∧ H a = some (.tup [.int s.1, .bl s.2])
theorem st_Stp : St StpR := fun _ _ _ _ t h => by obtain ⟨a, e, q⟩ := h; exact ⟨a, e, t _ _ q⟩
def SV (A : Arcs) (s : Stp) (x y : Int) : Prop := s.1 < A.length ∧ (if s.2 = true then hd A s.1 = x ∧ ft A s.1 = y else ft A s.1 = x ∧ hd A s.1 = y)
def Links (A : Arcs) : List Stp → Int → Int → Prop
  | [], x, y => x = y
  | s :: l, x, y => ∃ m, SV A s x m ∧ Links A l m y
theorem links_snoc {A : Arcs} {s : Stp} {y z : Int} : ∀ {l : List Stp} {x : Int}, Links A l x y → SV A s y z → Links A (l ++ [s]) x z
  | [], x, h, k => by cases (show x = y from h); exact ⟨z, k, rfl⟩
  | t :: l, x, ⟨m, h1, h2⟩, k => ⟨m, h1, links_snoc h2 k⟩
theorem SV.uniq {A : Arcs} {s : Stp} {x y x' y' : Int} (h : SV A s x y) (k : SV A s x' y') : x = x' ∧ y = y' := by
  obtain ⟨i, fw⟩ := s
  obtain ⟨_, h⟩ := h
  obtain ⟨_, k⟩ := k
  cases fw
  · rw [if_neg (by simp)] at h k; exact ⟨h.1.symm.trans k.1, h.2.symm.trans k.2⟩
  · rw [if_pos rfl] at h k; exact ⟨h.1.symm.trans k.1, h.2.symm.trans k.2⟩
theorem SV.flip {A : Arcs} {i : Nat} {a b : Bool} {x y x' y' : Int} (h : SV A (i, a) x y) (k : SV A (i, b) x' y') (n : a ≠ b) : x = y' ∧ y = x' := by
  obtain ⟨_, h⟩ := h
  obtain ⟨_, k⟩ := k
  cases a <;> cases b
  · exact absurd rfl n
  · rw [if_neg (by simp)] at h; rw [if_pos rfl] at k; exact ⟨h.1.symm.trans k.2, h.2.symm.trans k.1⟩
  · rw [if_pos rfl] at h; rw [if_neg (by simp)] at k; exact ⟨h.1.symm.trans k.2, h.2.symm.trans k.1⟩
  · exact absurd rfl n
theorem EntOk.sv {A : Arcs} {p z : Int} {i : Nat} {fw : Bool} (h : EntOk A p (i, z, fw)) : SV A (i, fw) z p := by
  obtain ⟨h1, h2⟩ := h
  refine ⟨h1, ?_⟩
  cases fw
  · rw [if_neg (by simp)] at h2 ⊢; exact ⟨h2.2.symm, h2.1⟩
  · rw [if_pos rfl] at h2 ⊢; exact ⟨h2.2.symm, h2.1⟩
theorem Grow.at {A : Arcs} {rm : List (Option Int)} {F : List Int} {cs : List CE} (g : Grow A rm F cs) : ∀ (j : Nat) (z : Int) (o : Option Entry), cs[j]? = some (z, o) →
    (z = -1 ∧ o = none) ∨ ∃ i p fw j', o = some (i, p, fw) ∧ j' < j ∧ (keys cs)[j']? = some p ∧ EntOk A p (i, z, fw) ∧ roomOk rm F i fw = true := by
  induction g with
  | one =>
    intro j z o h
    cases j with
    | zero => simp at h; exact .inl ⟨h.1.symm, h.2.symm⟩
    | succ j => simp at h
  | @add cs z0 i p fw g h1 h2 h3 h4 ih =>
    intro j z o h
    by_cases hj : j < cs.length
    · rw [List.getElem?_append_left hj] at h
      rcases ih j z o h with q | ⟨i', p', fw', j', a, b, c, d, e⟩
      · exact .inl q
      · refine .inr ⟨i', p', fw', j', a, b, ?_, d, e⟩
        rw [keys_app, List.getElem?_append_left (by simp [keys]; omega)]; exact c
    · have : j = cs.length := by
        have := (List.getElem?_eq_some_iff.mp h).1
        rw [List.length_append] at this; simp at this; omega
      subst this
      rw [List.getElem?_append_right (Nat.le_refl _), Nat.sub_self] at h
      simp at h
      obtain ⟨rfl, rfl⟩ := h
      obtain ⟨j', hj'⟩ := List.mem_iff_getElem?.mp h2
      have hl := (List.getElem?_eq_some_iff.mp hj').1
      have hl2 : (keys cs).length = cs.length := by simp [keys]
      exact .inr ⟨i, p, fw, j', rfl, by omega, by rw [keys_app, List.getElem?_append_left hl]; exact hj', h3, h4⟩
theorem key_at {cs : List CE} {j : Nat} {z : Int} (h : (keys cs)[j]? = some z) : ∃ o, cs[j]? = some (z, o) := by
  unfold keys at h
  rw [List.getElem?_map] at h
  cases e : cs[j]? with
  | none => rw [e] at h; cases h
  | some c => rw [e] at h; exact ⟨c.2, by rw [← Option.some.inj h]⟩
theorem nodup_at {l : List Int} (h : l.Nodup) {i j : Nat} {x : Int} (a : l[i]? = some x) (b : l[j]? = some x) : i = j := by
  have hi := (List.getElem?_eq_some_iff.mp a).1
  exact (List.getElem?_inj hi h).mp (a.trans b.symm)
def sp_steps_back (_ : PySem.W.Frag) : Sp := fun vs H Q _ => ∃ k cs A rm F, vs = [.ref k, .int (-2)] ∧ CamR H k cs ∧ Grow A rm F cs ∧ A.length ≤ 1000 ∧ (-2 : Int) ∈ keys cs ∧
  ∀ a es st H', Ex H H' → H a = none → H' a = some (.lst es) → All2 (StpR H') es st → Links A st (-2) (-1) → (∀ s ∈ st, roomOk rm F s.1 s.2 = true) → (st.map (·.1)).Nodup → st.length ≤ 2001 → Q (.ref a) H'
theorem ok_steps_back {P : Program} {w : World} {K : PySem.W.Frag} {mg : Str → Option Value} {base : Heap} {f : Addr} {fd : FuncData} (F : L2.Fun K "steps_back" "steps_back" s_steps_back f fd) (B : Bn mg) :
    FnOk P w K mg base CX0 1 f fd ["came", "end"] (sp_steps_back K) := by
  refine F.ok (k := 0) sc_steps_back (fun vs H Q E h => ?_) (fun cdv A outer s H vs Q E hr h => ?_)
  · obtain ⟨_, _, _, _, _, rfl, _⟩ := h
    rfl
  · obtain ⟨k, cs, A', rm, F', rfl, hC, hG, hA, hm, q⟩ := h
    have hu := hu_of hr
    refine ⟨_, (pss_cons (ps_set (i := 2) sc_steps_back.nd rfl (Or.inl rfl) (pe_lst pa_nil))
          (pss_cons (ps_while PassesOwn.never (pt_cmpR op_notN (pe_dget hu (pv 0) (pv 1) (fun _ _ => rfl)) pe_non (nomark _)) (pss_cons (ps_asg (pe_dget hu (pv 0) (pv 1) (fun _ _ => rfl)) (pg_tup (by rfl) (pgs_cons (pg_name (i := 3) sc_steps_back.nd rfl (Or.inl rfl)) (pgs_cons (pg_name (i := 1) sc_steps_back.nd rfl (Or.inl rfl)) (pgs_cons (pg_name (i := 4) sc_steps_back.nd rfl (Or.inl rfl)) pgs_nil)))))
          (pss_one (ps_expr (pe_bm PySem.F.plainAttrs_list PySem.F.slot_list_append PySem.F.type_list_append mt_append (pv 2) (pa_cons (pe_tup (pa_cons (pv 3) (pa_cons (pv 4) pa_nil))) pa_nil))))))
          (pss_one (ps_ret (pv 2))))), ?_⟩
    refine ⟨Nat.zero_le _, fun d nd => ?_⟩
    have ex0 := Evl.Ex.new (o := .lst []) nd
    obtain ⟨j0, hj0⟩ := List.mem_iff_getElem?.mp hm
    have hj0l : j0 < cs.length := by
      have := (List.getElem?_eq_some_iff.mp hj0).1
      rwa [show (keys cs).length = cs.length by simp [keys]] at this
    have hle := hG.le
    refine ⟨fun m σ H' => ∃ z y3 y4 es st, σ = [some (.ref k), some (.int z), some (.ref d), y3, y4] ∧ (keys cs)[m]? = some z ∧ Ex H H' ∧ H' d = some (.lst es) ∧ All2 (StpR H') es st ∧ Links A' st (-2) z ∧ (∀ s ∈ st, roomOk rm F' s.1 s.2 = true) ∧ (st.map (·.1)).Nodup ∧ st.length + m ≤ 2000 + 1 ∧
      ∀ s ∈ st, ∃ x y jx, SV A' s x y ∧ (keys cs)[jx]? = some x ∧ m < jx, ⟨j0, -2, none, none, [], [], rfl, hj0, ex0, upd_same, .nil, rfl, by simp, by simp, by simp; omega, by simp⟩, fun m σ H' hw => ?_⟩
    obtain ⟨z, y3, y4, es, st, rfl, hz, ex, hd, hS, hL, hR, hN, hlen, hI⟩ := hw
    obtain ⟨o, ho⟩ := key_at hz
    obtain ⟨kvs, hk, hA2⟩ := hC.ex ex
    obtain ⟨v, hv, hcv⟩ := cam_some hA2 hG.nodup (List.mem_of_getElem? ho)
    have dg : DGet H' k (.int z) (some v) := by rw [← hv]; exact DGet.k (k := .inl z) hk
    refine ⟨.ref k, rfl, .int z, rfl, k, v, rfl, dg, rfl, _, rfl, itB (fun hb => ?_) (fun hb => ?_)⟩
    · rcases hG.at m z o ho with ⟨_, rfl⟩ | ⟨i, p, fw, j', rfl, hj', hp, hE, hr1⟩
      · rw [show v = .non from hcv] at hb; cases hb
      · obtain ⟨T, rfl, hT⟩ := hcv
        refine ⟨fun σ' H' => ∃ m', m' < m ∧ _, fun σ' H' h => h, ?_⟩
        refine ⟨.ref k, rfl, .int z, rfl, k, _, rfl, dg, T, _, rfl, st_of hT, rfl, _, _, rfl, _, _, rfl, _, _, rfl, rfl, ?_⟩
        refine ⟨_, rfl, .inl ⟨rfl, _, sq_of hd⟩, _, rfl, _, rfl, by show 2 ≤ sizeLine; decide, fun T2 nT2 => ?_⟩
        have x6 := Evl.Ex.new (o := .tup [.int (i : Nat), .bl fw]) nT2
        have t7 : Tk (upd H' T2 (.tup [.int (i : Nat), .bl fw])) (upd (upd H' T2 (.tup [.int (i : Nat), .bl fw])) d (.lst (es ++ [.ref T2]))) := tk_upd (x6 _ _ hd) fun xs q => by cases q
        refine ⟨d, es, _, rfl, rfl, x6 _ _ hd, sz_lt (by rw [hS.1]; omega), j', hj', p, _, _, es ++ [.ref T2], st ++ [(i, fw)], rfl, hp, upd_ex (ex.trans x6) nd, upd_same, ?_, links_snoc hL hE.sv, ?_, ?_, ?_, ?_⟩
        · exact (all2_tk st_Stp ((tk_ex x6).trans t7) hS).snoc ⟨T2, rfl, t7 _ _ upd_same⟩
        · intro s hs
          rcases List.mem_append.mp hs with hs | hs
          · exact hR s hs
          · have : s = (i, fw) := by simpa using hs
            subst this; exact hr1
        · rw [List.map_append, List.nodup_append]
          refine ⟨hN, by simp, fun a ha b hb e => ?_⟩
          have hb' : b = i := by simpa using hb
          obtain ⟨⟨i', fw'⟩, hs, e2⟩ := List.mem_map.mp ha
          have : i' = i := by rw [← hb', ← e, ← e2]
          subst this
          obtain ⟨x, y, jx, h1, h2, h3⟩ := hI _ hs
          by_cases ef : fw' = fw
          · subst ef
            have := (h1.uniq hE.sv).1
            subst this
            have := nodup_at hG.nodup h2 hz
            omega
          · have := (h1.flip hE.sv ef).1
            subst this
            have := nodup_at hG.nodup h2 hp
            omega
        · rw [List.length_append]; simp; omega
        · intro s hs
          rcases List.mem_append.mp hs with hs | hs
          · obtain ⟨x, y, jx, h1, h2, h3⟩ := hI s hs
            exact ⟨x, y, jx, h1, h2, by omega⟩
          · have : s = (i, fw) := by simpa using hs
            subst this; exact ⟨z, p, m, hE.sv, hz, hj'⟩
    · rcases hG.at m z o ho with ⟨rfl, rfl⟩ | ⟨i, p, fw, j', rfl, _⟩
      · exact ⟨_, rfl, q d es st H' ex nd hd hS hL hR hN (by omega)⟩
      · obtain ⟨T, rfl, hT⟩ := hcv
        cases hb
/-! ### least_left -/
def leftOf (rm : List (Option Int)) (F : List Int) (s : Stp) : Option Int := if s.2 = true then (rmA rm s.1).map fun c => c - cf F s.1 else some (cf F s.1)
def isSm : Option Int → Bool := fun o => o.isSome
theorem dp_ints {K : PySem.W.Frag} {H : Hp} : ∀ ns : List Int, DpAll K H (vi ns) (ns.map PyData.int)
  | [] => .nil
  | n :: ns => .cons (.int n) (dp_ints ns)
def sp_least_left (_ : PySem.W.Frag) : Sp := fun vs H Q _ => ∃ a f b rm F es st, vs = [.ref a, .ref f, .ref b] ∧ H a = some (.lst (rm.map rmV)) ∧ H f = some (.lst (vi F)) ∧ H b = some (.lst es) ∧ All2 (StpR H) es st ∧ st.length ≤ 2001 ∧
  (∀ s ∈ st, s.1 < rm.length ∧ s.1 < F.length) ∧ (∃ s ∈ st, (leftOf rm F s).isSome = true) ∧
  ∀ m H', Ex H H' → (∃ s ∈ st, leftOf rm F s = some m) → (∀ s ∈ st, ∀ x, leftOf rm F s = some x → m ≤ x) → Q (.int m) H'
theorem ok_least_left {P : Program} {w : World} {K : PySem.W.Frag} {mg : Str → Option Value} {base : Heap} {f : Addr} {fd : FuncData} (F : L2.Fun K "least_left" "least_left" s_least_left f fd) (B : Bn mg) :
    FnOk P w K mg base CX0 1 f fd ["room", "flow", "steps"] (sp_least_left K) := by
  refine F.ok (k := 0) sc_least_left (fun vs H Q E h => ?_) (fun cdv A outer s H vs Q E hr h => ?_)
  · obtain ⟨_, _, _, _, _, _, _, rfl, _⟩ := h
    rfl
  · obtain ⟨a, f', b, rm, F', es, st, rfl, ha, hf, hb, hS, hlen, hv, hex, q⟩ := h
    have hu := hu_of hr
    refine ⟨_, (pss_cons (ps_setLc (i := 3) (own := [("arc", 4), ("is_forth", 5)]) rfl sc_least_left.nd rfl rfl (sw_true rfl rfl rfl (by decide +kernel)) (pi_list (pv 2)) (blkOk_by (own := [("arc", 4), ("is_forth", 5)]) (N := N_least_left) (sc := defScope s_least_left) (by decide +kernel)) (fun _ _ _ _ _ => (pg_tupK K (by rfl) (pgs_cons (pg_name (i := 4) sc_least_left.nd rfl (Or.inl rfl)) (pgs_cons (pg_name (i := 5) sc_least_left.nd rfl (Or.inl rfl)) pgs_nil)))) (fun _ _ _ _ _ => (pts_one (pt_not (pt_val (pv 5))))) (fun _ _ _ _ _ => (pe_ix (ix_listK K) (pv 1) (pv 4) (fun _ _ => rfl))))
          (pss_cons (ps_expr (pe_bm PySem.F.plainAttrs_list PySem.F.slot_list_extend PySem.F.type_list_extend mt_extend (pv 3) (pa_cons (pe_lc (own := [("arc", 4), ("is_forth", 5)]) rfl sc_least_left.nd (pi_list (pv 2)) (blkOk_by (own := [("arc", 4), ("is_forth", 5)]) (N := N_least_left) (sc := defScope s_least_left) (by decide +kernel)) (fun _ _ _ _ _ => (pg_tupK K (by rfl) (pgs_cons (pg_name (i := 4) sc_least_left.nd rfl (Or.inl rfl)) (pgs_cons (pg_name (i := 5) sc_least_left.nd rfl (Or.inl rfl)) pgs_nil)))) (fun _ _ _ _ _ => (pts_one (PW.pt (pw_and (pt_val (pv 5)) (pw_and1 (pt_cmpR op_notN (pe_ix (ix_listK K) (pv 0) (pv 4) (fun _ _ => rfl)) pe_non (nomark _))))))) (fun _ _ _ _ _ => (pe_op op_sub (pe_ix (ix_listK K) (pv 0) (pv 4) (fun _ _ => rfl)) (pe_ix (ix_listK K) (pv 1) (pv 4) (fun _ _ => rfl))))) pa_nil)))
          (pss_one (ps_ret (pe_ifExp (pt_cmpR (op_neD hr.units) (pv 3) (pe_lst pa_nil) (nomark _)) (pe_callB (cr_min rfl) (by rfl) B.min (by decide +kernel) (pa_cons (pv 3) pa_nil)) pe_non))))), ?_⟩
    refine ⟨.ref b, rfl, b, rfl, ⟨_, sq_of hb⟩, fun D nD => ?_⟩
    refine lc_it (walk_list (xs := es)) (Cx1 H IsI (upto (fun i => (fun s : Stp => !s.2) (st.getD i (0, false))) (fun i => (fun s : Stp => cf F' s.1) (st.getD i (0, false)))) D) (cx_zero nD rfl) (fun i H' _ pv => sq_of (pv.2.1 _ _ hb)) (fun i x H' H2 hi pv y => ?_) fun H' pv => ?_
    · obtain ⟨rfl, ey⟩ := y
      obtain ⟨s, es', T, rfl, hT⟩ := hS.get' ey
      have hs := hv s (List.mem_of_getElem? es')
      refine ⟨T, _, rfl, st_of (pv.2.1 _ _ hT), rfl, _, _, rfl, _, _, rfl, rfl, rfl, ?_⟩
      refine ⟨_, rfl, s.2, rfl, ?_⟩
      refine cx_turn st_I pv (Evl.Ex.refl _) ?_ (by rw [hS.1] at hi; omega) fun hf2 Q k => ⟨_, rfl, _, rfl, f', _, s.1, _, rfl, rfl, sq_of (pv.2.1 _ _ hf), atI_nat (vi_get hs.2), k _ _ (Evl.Ex.refl _) ?_⟩
      · rw [getD_of es']
      · rw [getD_of es']; rfl
    · obtain ⟨_, ex, acc, hD, hA⟩ := pv
      rw [all2_I, hS.1, upto_filter (fun s : Stp => !s.2) (fun s => cf F' s.1)] at hA
      refine ⟨.ref D, rfl, .inl ⟨rfl, _, sq_of hD⟩, .ref b, rfl, b, rfl, ⟨_, sq_of (ex _ _ hb)⟩, fun D2 nD2 => ?_⟩
      refine lc_it (walk_list (xs := es)) (Cx1 H' IsI (upto (fun i => (fun s : Stp => s.2 && (rmA rm s.1).isSome) (st.getD i (0, false))) (fun i => (fun s : Stp => (rmA rm s.1).getD 0 - cf F' s.1) (st.getD i (0, false)))) D2) (cx_zero nD2 rfl) (fun i H' _ pv => sq_of (pv.2.1 _ _ (ex _ _ hb))) (fun i x H3 H2 hi pv y => ?_) fun H3 pv => ?_
      · obtain ⟨rfl, ey⟩ := y
        obtain ⟨s, es', T, rfl, hT⟩ := hS.get' ey
        have hs := hv s (List.mem_of_getElem? es')
        have ex3 := ex.trans pv.2.1
        refine ⟨T, _, rfl, st_of (ex3 _ _ hT), rfl, _, _, rfl, _, _, rfl, rfl, rfl, ?_⟩
        refine ⟨_, rfl, s.2, rfl, itB (fun e2 => ?_) (fun e2 => ?_)⟩
        · refine ⟨_, rfl, _, rfl, a, _, s.1, _, rfl, rfl, sq_of (ex3 _ _ ha), atI_nat (rm_get hs.1), rfl, _, rfl, ?_⟩
          refine cx_turn st_I pv (Evl.Ex.refl _) ?_ (by rw [hS.1] at hi; omega) fun hf2 Q k => ?_
          · rw [getD_of es']
            dsimp only
            rw [e2]
            cases h : rmA rm s.1 <;> rfl
          · rw [getD_of es'] at hf2
            dsimp only at hf2
            rw [e2] at hf2
            obtain ⟨c, hc⟩ := Option.isSome_iff_exists.mp (show (rmA rm s.1).isSome = true by simpa using hf2)
            refine ⟨_, rfl, _, rfl, a, _, s.1, .int c, rfl, rfl, sq_of (ex3 _ _ ha), atI_nat (by rw [rm_get hs.1, hc]; rfl), _, rfl, _, rfl, f', _, s.1, _, rfl, rfl, sq_of (ex3 _ _ hf), atI_nat (vi_get hs.2), _, _, rfl, rfl, k _ _ (Evl.Ex.refl _) ?_⟩
            rw [getD_of es']
            dsimp only
            rw [hc]; rfl
        · exact cx_no st_I pv (Evl.Ex.refl _) (upto_no (by rw [getD_of es']; dsimp only; rw [e2]; rfl))
      · obtain ⟨nD2', ex3, acc3, hD3, hA3⟩ := pv
        rw [all2_I, hS.1, upto_filter (fun s : Stp => s.2 && (rmA rm s.1).isSome) (fun s => (rmA rm s.1).getD 0 - cf F' s.1)] at hA3
        have l1 : acc.length ≤ 2001 := by
          rw [hA]; simp only [vi, List.length_map]; exact Nat.le_trans (List.length_filter_le _ _) hlen
        have l3 : acc3.length ≤ 2001 := by
          rw [hA3]; simp only [vi, List.length_map]; exact Nat.le_trans (List.length_filter_le _ _) hlen
        refine ⟨D, D2, acc, acc3, rfl, rfl, ex3 _ _ hD, hD3, sz_of (by omega), ?_⟩
        have hall : acc ++ acc3 = vi (((st.filter fun s : Stp => !s.2).map fun s => cf F' s.1) ++ ((st.filter fun s : Stp => s.2 && (rmA rm s.1).isSome).map fun s => (rmA rm s.1).getD 0 - cf F' s.1)) := by
          rw [hA, hA3]; simp [vi]
        rw [hall]
        generalize hL : ((st.filter fun s : Stp => !s.2).map fun s => cf F' s.1) ++ ((st.filter fun s : Stp => s.2 && (rmA rm s.1).isSome).map fun s => (rmA rm s.1).getD 0 - cf F' s.1) = L
        have hmem : ∀ x, x ∈ L ↔ ∃ s ∈ st, leftOf rm F' s = some x := fun x => by
          rw [← hL, List.mem_append, List.mem_map, List.mem_map]
          constructor
          · rintro (⟨s, hs, e⟩ | ⟨s, hs, e⟩)
            · obtain ⟨h1, h2⟩ := List.mem_filter.mp hs
              exact ⟨s, h1, by unfold leftOf; rw [if_neg (by simpa using h2), e]⟩
            · obtain ⟨h1, h2⟩ := List.mem_filter.mp hs
              obtain ⟨h3, h4⟩ := Bool.and_eq_true_iff.mp h2
              obtain ⟨c, hc⟩ := Option.isSome_iff_exists.mp h4
              exact ⟨s, h1, by unfold leftOf; rw [if_pos h3, ← e, hc]; rfl⟩
          · rintro ⟨s, hs, e⟩
            unfold leftOf at e
            by_cases h3 : s.2 = true
            · rw [if_pos h3] at e
              cases hc : rmA rm s.1 with
              | none => rw [hc] at e; cases e
              | some c => rw [hc] at e; exact .inr ⟨s, List.mem_filter.mpr ⟨hs, by rw [h3, hc]; rfl⟩, by rw [hc]; exact Option.some.inj e⟩
            · rw [if_neg h3] at e
              exact .inl ⟨s, List.mem_filter.mpr ⟨hs, by simpa using h3⟩, Option.some.inj e⟩
        have hne : L ≠ [] := by
          obtain ⟨s, hs, e⟩ := hex
          obtain ⟨x, hx⟩ := Option.isSome_iff_exists.mp e
          exact List.ne_nil_of_mem ((hmem x).mpr ⟨s, hs, hx⟩)
        have nD0 : H D = none := nD
        have exL : Ex H (upd H3 D (.lst (vi L))) := upd_ex (ex.trans ex3) nD0
        refine ⟨.ref D, rfl, Nat.zero_le _, fun p np => ?_⟩
        have xp := Evl.Ex.new (o := .lst []) np
        have hD5 := xp _ _ (upd_same (H := H3) (a := D) (o := .lst (vi L)))
        refine ⟨_, _, .lst (sq_of hD5) (dp_ints L), .lst (sq_of upd_same) (dp_ints []), PySem.W.ke_shaped_ints L, PySem.W.ke_shaped_ints [], _, rfl, ?_⟩
        have hneq : (!PyData.eqv (.list (L.map PyData.int)) (.list (([] : List Int).map PyData.int))) = true := by
          cases L with
          | nil => exact absurd rfl hne
          | cons x r => rfl
        rw [hneq]
        refine itT ⟨.ref D, rfl, D, L, rfl, sq_of hD5, List.length_pos_iff.mpr hne, fun m h1 h2 => ?_⟩
        exact q m _ (exL.trans xp) ((hmem m).mp h1) fun s hs x e => h2 x ((hmem x).mpr ⟨s, hs, e⟩)
end K56


/-! pushing along a way of arcs -/
namespace K56
open PySem PySem.Spec PyProof.Rows L2 K56R
def exc (A : Arcs) (F : List Int) (z : Int) : Int := sr (fun i => cf F i * (b1 (ft A i == z) - b1 (hd A i == z))) A.length
structure Feas (A : Arcs) (rm : List (Option Int)) (F : List Int) : Prop where
  len : F.length = A.length
  nn : ∀ i, i < A.length → 0 ≤ cf F i
  le : ∀ i c, i < A.length → rmA rm i = some c → cf F i ≤ c
  bal : ∀ z, z ≠ -1 → z ≠ -2 → exc A F z = 0
def sgn (fw : Bool) (m : Int) : Int := if fw = true then m else -m
def bump (m : Int) (F : List Int) (s : Stp) : List Int := F.set s.1 (cf F s.1 + sgn s.2 m)
def bumps (m : Int) (F : List Int) (st : List Stp) : List Int := st.foldl (bump m) F
theorem bump_len (m : Int) (F : List Int) (s : Stp) : (bump m F s).length = F.length := by simp [bump]
theorem bumps_len (m : Int) : ∀ (st : List Stp) (F : List Int), (bumps m F st).length = F.length
  | [], F => rfl
  | s :: st, F => (bumps_len m st (bump m F s)).trans (bump_len m F s)
theorem cf_set {F : List Int} {i : Nat} {x : Int} (h : i < F.length) (r : Nat) : cf (F.set i x) r = if r = i then x else cf F r := by
  unfold cf
  rw [List.getD_eq_getElem?_getD, List.getD_eq_getElem?_getD]
  by_cases e : r = i
  · subst e
    rw [List.getElem?_set_self h, if_pos rfl]; rfl
  · rw [List.getElem?_set_ne (Ne.symm e), if_neg e]
theorem sr_one {f g : Nat → Int} {i : Nat} : ∀ {n : Nat}, i < n → (∀ r, r ≠ i → f r = g r) → sr f n = sr g n + (f i - g i)
  | 0, h, _ => by omega
  | n + 1, h, k => by
    simp only [sr]
    by_cases e : i = n
    · subst e
      rw [sr_congr (f := f) (g := g) fun r hr => k r (by omega)]; omega
    · rw [sr_one (n := n) (by omega) k, k n (Ne.symm e)]; omega
theorem exc_bump {A : Arcs} {F : List Int} (m z : Int) {s : Stp} (h : s.1 < A.length) (hl : F.length = A.length) : exc A (bump m F s) z = exc A F z + sgn s.2 m * (b1 (ft A s.1 == z) - b1 (hd A s.1 == z)) := by
  unfold exc
  rw [sr_one (i := s.1) (g := fun i => cf F i * (b1 (ft A i == z) - b1 (hd A i == z))) h fun r hr => by
    unfold bump; rw [cf_set (by omega), if_neg hr]]
  unfold bump
  rw [cf_set (by omega), if_pos rfl, Int.add_mul]
  omega
theorem exc_links {A : Arcs} (m z : Int) : ∀ {st : List Stp} {F : List Int} {x y : Int}, Links A st x y → F.length = A.length → exc A (bumps m F st) z = exc A F z + m * (b1 (y == z) - b1 (x == z))
  | [], F, x, y, h, _ => by
    cases (show x = y from h)
    show exc A F z = _
    rw [Int.sub_self, Int.mul_zero, Int.add_zero]
  | s :: st, F, x, y, ⟨w, h1, h2⟩, hl => by
    have ih := exc_links m z h2 (F := bump m F s) (by rw [bump_len]; exact hl)
    show exc A (bumps m (bump m F s) st) z = _
    rw [ih, exc_bump m z h1.1 hl]
    obtain ⟨_, k⟩ := h1
    have : sgn s.2 m * (b1 (ft A s.1 == z) - b1 (hd A s.1 == z)) = m * (b1 (w == z) - b1 (x == z)) := by
      unfold sgn
      by_cases e : s.2 = true
      · rw [if_pos e] at k ⊢; rw [k.1, k.2]
      · rw [if_neg e] at k ⊢; rw [k.1, k.2, Int.neg_mul, ← Int.mul_neg]; congr 1; omega
    rw [this, Int.add_assoc, ← Int.mul_add]
    congr 2
    omega
theorem bumps_out (m : Int) {i : Nat} : ∀ (st : List Stp) (F : List Int), i ∉ st.map (·.1) → (∀ s ∈ st, s.1 < F.length) → cf (bumps m F st) i = cf F i
  | [], F, _, _ => rfl
  | s :: st, F, n, h => by
    have n' : i ≠ s.1 ∧ i ∉ st.map (·.1) := by
      rw [List.map_cons] at n
      exact ⟨fun e => n (e ▸ List.mem_cons_self), fun e => n (List.mem_cons_of_mem _ e)⟩
    show cf (bumps m (bump m F s) st) i = _
    rw [bumps_out m st _ n'.2 fun t ht => by rw [bump_len]; exact h t (List.mem_cons_of_mem _ ht)]
    unfold bump
    rw [cf_set (h s List.mem_cons_self), if_neg n'.1]
theorem bumps_in (m : Int) : ∀ (st : List Stp) (F : List Int) (s : Stp), s ∈ st → (st.map (·.1)).Nodup → (∀ s ∈ st, s.1 < F.length) → cf (bumps m F st) s.1 = cf F s.1 + sgn s.2 m
  | [], F, s, h, _, _ => by cases h
  | t :: st, F, s, h, nd, hl => by
    rw [List.map_cons, List.nodup_cons] at nd
    have hl' : ∀ u ∈ st, u.1 < (bump m F t).length := fun u hu => by rw [bump_len]; exact hl u (List.mem_cons_of_mem _ hu)
    show cf (bumps m (bump m F t) st) s.1 = _
    rcases List.mem_cons.mp h with e | h'
    · subst e
      rw [bumps_out m st _ nd.1 hl']
      unfold bump
      rw [cf_set (hl s List.mem_cons_self), if_pos rfl]
    · rw [bumps_in m st _ s h' nd.2 hl']
      unfold bump
      rw [cf_set (hl t List.mem_cons_self), if_neg]
      intro e
      exact nd.1 (e ▸ List.mem_map.mpr ⟨s, h', rfl⟩)
theorem Links.mem {A : Arcs} : ∀ {st : List Stp} {x y : Int}, Links A st x y → ∀ s ∈ st, s.1 < A.length
  | [], _, _, _, s, h => by cases h
  | t :: st, x, y, ⟨w, h1, h2⟩, s, h => by
    rcases List.mem_cons.mp h with e | h'
    · subst e; exact h1.1
    · exact h2.mem s h'
theorem left_pos {rm : List (Option Int)} {F : List Int} {s : Stp} {m : Int} (h : leftOf rm F s = some m) (r : roomOk rm F s.1 s.2 = true) : 0 < m := by
  unfold leftOf at h
  cases e : s.2 with
  | true =>
    rw [e] at h r
    rw [if_pos rfl] at h
    unfold roomOk at r
    cases hc : rmA rm s.1 with
    | none => rw [hc] at h; cases h
    | some c =>
      rw [hc] at h r
      have h1 : c - cf F s.1 = m := Option.some.inj h
      have h2 : cf F s.1 < c := of_decide_eq_true r
      omega
  | false =>
    rw [e] at h r
    rw [if_neg (by decide)] at h
    have h1 : cf F s.1 = m := Option.some.inj h
    have h2 : 0 < cf F s.1 := of_decide_eq_true r
    omega
theorem Feas.push {A : Arcs} {rm : List (Option Int)} {F : List Int} (f : Feas A rm F) {st : List Stp} (hL : Links A st (-2) (-1)) (nd : (st.map (·.1)).Nodup) {m : Int} (hm : 0 ≤ m) (hle : ∀ s ∈ st, ∀ x, leftOf rm F s = some x → m ≤ x) :
    Feas A rm (bumps m F st) ∧ exc A (bumps m F st) (-1) = exc A F (-1) + m := by
  have hlt : ∀ s ∈ st, s.1 < F.length := fun s hs => by rw [f.len]; exact hL.mem s hs
  have key : ∀ i, (∃ s ∈ st, s.1 = i ∧ cf (bumps m F st) i = cf F i + sgn s.2 m) ∨ cf (bumps m F st) i = cf F i := fun i => by
    by_cases h : i ∈ st.map (·.1)
    · obtain ⟨s, hs, e⟩ := List.mem_map.mp h
      exact .inl ⟨s, hs, e, by rw [← e]; exact bumps_in m st F s hs nd hlt⟩
    · exact .inr (bumps_out m st F h hlt)
  refine ⟨⟨by rw [bumps_len, f.len], fun i hi => ?_, fun i c hi hc => ?_, fun z h1 h2 => ?_⟩, ?_⟩
  · rcases key i with ⟨s, hs, e, k⟩ | k
    · rw [k]
      have := f.nn i hi
      cases ef : s.2 with
      | true => unfold sgn; rw [if_pos rfl]; omega
      | false =>
        have := hle s hs (cf F s.1) (by unfold leftOf; rw [ef, if_neg (by decide)])
        rw [e] at this
        unfold sgn; rw [if_neg (by decide)]; omega
    · rw [k]; exact f.nn i hi
  · rcases key i with ⟨s, hs, e, k⟩ | k
    · rw [k]
      have := f.le i c hi hc
      cases ef : s.2 with
      | true =>
        have := hle s hs (c - cf F s.1) (by unfold leftOf; rw [ef, if_pos rfl, e, hc]; rfl)
        rw [e] at this
        unfold sgn; rw [if_pos rfl]; omega
      | false => unfold sgn; rw [if_neg (by decide)]; omega
    · rw [k]; exact f.le i c hi hc
  · rw [exc_links m z hL f.len, f.bal z h1 h2, show ((-1 : Int) == z) = false from beq_eq_false_iff_ne.mpr (Ne.symm h1), show ((-2 : Int) == z) = false from beq_eq_false_iff_ne.mpr (Ne.symm h2)]
    simp
  · rw [exc_links m (-1) hL f.len]
    simp [b1]
theorem feas_zero {A : Arcs} {rm : List (Option Int)} (h : ∀ i c, i < A.length → rmA rm i = some c → 0 ≤ c) : Feas A rm (List.replicate A.length 0) := by
  have z : ∀ i, cf (List.replicate A.length 0) i = 0 := fun i => by
    unfold cf
    rw [List.getD_eq_getElem?_getD]
    by_cases hi : i < A.length
    · rw [List.getElem?_replicate_of_lt hi]; rfl
    · rw [List.getElem?_eq_none (by simpa using hi)]; rfl
  refine ⟨by simp, fun i _ => by rw [z]; exact Int.le_refl _, fun i c hi hc => by rw [z]; exact h i c hi hc, fun w _ _ => ?_⟩
  unfold exc
  exact sr_zero fun i _ => by rw [z, Int.zero_mul]
theorem max_of {A : Arcs} {rm : List (Option Int)} {F : List Int} {cs : List CE} (f : Feas A rm F) (g : Grow A rm F cs) (n : (-2 : Int) ∉ keys cs) (d : ∀ z ∈ keys cs, Done A rm F cs z) :
    MaxFlow A (rmA rm) (cf F) (fun z => decide (z ∈ keys cs)) where
  nn := f.nn
  le := f.le
  bal := f.bal
  sB := decide_eq_true g.start
  sE := decide_eq_false n
  out := fun i hi h1 h2 => by
    have := d _ (of_decide_eq_true h1) (i, hd A i, true) ⟨hi, by rw [if_pos rfl]; exact ⟨rfl, rfl⟩⟩
    have no : ¬ roomOk rm F i true = true := fun r => absurd (this r) (of_decide_eq_false h2)
    unfold roomOk at no
    cases hc : rmA rm i with
    | none => rw [hc] at no; exact absurd rfl no
    | some c =>
      rw [hc] at no
      have h3 : ¬ cf F i < c := fun q => no (decide_eq_true q)
      have := f.le i c hi hc
      rw [show c = cf F i by omega]
  inn := fun i hi h1 h2 => by
    have := d _ (of_decide_eq_true h2) (i, ft A i, false) ⟨hi, by rw [if_neg (by simp)]; exact ⟨rfl, rfl⟩⟩
    have no : ¬ roomOk rm F i false = true := fun r => absurd (this r) (of_decide_eq_false h1)
    have h3 : ¬ 0 < cf F i := fun q => no (decide_eq_true q)
    have := f.nn i hi
    omega
/-! ### the arcs of a net: the greatest value, no endless way -/
section
variable {many : Int} {R : Arcs} {s : Int} {heads : List Int} {ends : List Nat} {rm : List (Option Int)} {F : List Int}
/-- out of the first place no endless arc leads on -/
theorem arcs_s (N : NetOk many R) (hs : 0 ≤ s) (hn : s ∉ heads) {i : Nat} (hi : i < (arcsFor R s heads ends).length) (h : ft (arcsFor R s heads ends) i = s) : i < R.length := by
  rcases arc_cases hi with h1 | rfl | ⟨j, x, rfl, hx⟩
  · exact h1
  · rw [arcs_b.1] at h; omega
  · rw [(arcs_e hx).1] at h
    exact absurd (h ▸ List.mem_of_getElem? hx) hn
theorem arcs_no_begin (N : NetOk many R) (hs : 0 ≤ s) (hh : ∀ h ∈ heads, 0 ≤ h) {i : Nat} (hi : i < (arcsFor R s heads ends).length) : hd (arcsFor R s heads ends) i ≠ -1 ∧ (ft (arcsFor R s heads ends) i = -1 → i = R.length) := by
  rcases arc_cases hi with h1 | rfl | ⟨j, x, rfl, hx⟩
  · obtain ⟨e1, e2⟩ := arcs_rd (s := s) (heads := heads) (ends := ends) h1
    have := N.rd i h1
    rw [e1, e2]
    refine ⟨?_, fun h => by omega⟩
    split <;> omega
  · rw [arcs_b.2]; exact ⟨by omega, fun _ => rfl⟩
  · have := hh x (List.mem_of_getElem? hx)
    rw [(arcs_e hx).1, (arcs_e hx).2]
    exact ⟨by omega, fun h => by omega⟩
theorem exc_begin (N : NetOk many R) (hs : 0 ≤ s) (hh : ∀ h ∈ heads, 0 ≤ h) : exc (arcsFor R s heads ends) F (-1) = cf F R.length := by
  have hl : R.length < (arcsFor R s heads ends).length := by rw [arcs_len]; omega
  unfold exc
  have e : sr (fun i => cf F i * (b1 (ft (arcsFor R s heads ends) i == -1) - b1 (hd (arcsFor R s heads ends) i == -1))) (arcsFor R s heads ends).length = sr (fun i => b1 (R.length == i) * cf F i) (arcsFor R s heads ends).length := sr_congr fun i hi => by
    obtain ⟨n1, n2⟩ := arcs_no_begin (ends := ends) N hs hh hi
    rw [show (hd (arcsFor R s heads ends) i == -1) = false from beq_eq_false_iff_ne.mpr n1]
    by_cases q : i = R.length
    · subst q; rw [arcs_b.1]; simp [b1]
    · rw [show (ft (arcsFor R s heads ends) i == -1) = false from beq_eq_false_iff_ne.mpr fun z => q (n2 z), show (R.length == i) = false from beq_eq_false_iff_ne.mpr (Ne.symm q)]
      simp [b1]
  rw [e, sr_pick, if_pos hl]
theorem flow_bound (N : NetOk many R) (hs : 0 ≤ s) (hh : ∀ h ∈ heads, 0 ≤ h) (hn : s ∉ heads) {c : Nat → Int} (hc : ∀ r, r < R.length → rmA rm r = some (c r)) (f : Feas (arcsFor R s heads ends) rm F) :
    exc (arcsFor R s heads ends) F (-1) ≤ sr c R.length := by
  rw [exc_begin N hs hh]
  have b := f.bal s (by omega) (by omega)
  have hA := arcs_len (R := R) (s := s) (heads := heads) (ends := ends)
  have hl : R.length < (arcsFor R s heads ends).length := by rw [hA]; omega
  -- what comes in is no more than what goes out
  have h1 : exc (arcsFor R s heads ends) F s ≤ sr (fun i => (if i < R.length then cf F i else 0) - b1 (R.length == i) * cf F i) (arcsFor R s heads ends).length := by
    unfold exc
    refine sr_le fun i hi => ?_
    have nn := f.nn i hi
    by_cases q : i = R.length
    · subst q
      rw [arcs_b.1, arcs_b.2, if_neg (by omega)]
      rw [show ((-1 : Int) == s) = false from beq_eq_false_iff_ne.mpr (by omega)]
      simp [b1]
    · rw [show (R.length == i) = false from beq_eq_false_iff_ne.mpr (Ne.symm q)]
      rw [b1_f, Int.zero_mul, Int.sub_zero]
      by_cases e : ft (arcsFor R s heads ends) i = s
      · rw [if_pos (arcs_s N hs hn hi e), Int.mul_sub]
        have h2 : cf F i * b1 (ft (arcsFor R s heads ends) i == s) ≤ cf F i * 1 := Int.mul_le_mul_of_nonneg_left (b1_le _) nn
        have h3 : 0 ≤ cf F i * b1 (hd (arcsFor R s heads ends) i == s) := Int.mul_nonneg nn (b1_nn _)
        omega
      · rw [show (ft (arcsFor R s heads ends) i == s) = false from beq_eq_false_iff_ne.mpr e, b1_f, Int.mul_sub, Int.mul_zero]
        have h3 : 0 ≤ cf F i * b1 (hd (arcsFor R s heads ends) i == s) := Int.mul_nonneg nn (b1_nn _)
        split <;> omega
  rw [b, sr_sub, sr_pick, if_pos hl, hA, sr_split, sr_zero (f := fun i => if R.length + i < R.length then cf F (R.length + i) else 0) (fun i _ => if_neg (by omega))] at h1
  have h4 : sr (fun i => if i < R.length then cf F i else 0) R.length ≤ sr c R.length := sr_le fun r hr => by
    rw [if_pos hr]
    exact f.le r (c r) (by omega) (hc r hr)
  omega
/-- a way from the end back to the begin has a finite step -/
theorem finite_step (N : NetOk many R) (hs : 0 ≤ s) (hh : ∀ h ∈ heads, 0 ≤ h) (hn : s ∉ heads) (hfin : ∀ r, r < R.length → (rmA rm r).isSome = true) {st : List Stp} (hL : Links (arcsFor R s heads ends) st (-2) (-1)) : ∃ t ∈ st, (leftOf rm F t).isSome = true := by
  by_cases h : ∃ t ∈ st, (leftOf rm F t).isSome = true
  · exact h
  · exfalso
    have inf : ∀ t ∈ st, t.2 = true ∧ R.length ≤ t.1 := fun t ht => by
      have no : ¬ (leftOf rm F t).isSome = true := fun q => h ⟨t, ht, q⟩
      unfold leftOf at no
      by_cases e : t.2 = true
      · refine ⟨e, ?_⟩
        rw [if_pos e] at no
        by_cases q : t.1 < R.length
        · obtain ⟨c, hc⟩ := Option.isSome_iff_exists.mp (hfin _ q)
          rw [hc] at no; exact absurd rfl no
        · omega
      · rw [if_neg e] at no; exact absurd rfl no
    cases st with
    | nil => exact absurd (show (-2 : Int) = -1 from hL) (by decide)
    | cons t st =>
      obtain ⟨w, h1, h2⟩ := hL
      obtain ⟨k1, k2⟩ := inf t List.mem_cons_self
      obtain ⟨k3, k4⟩ := h1
      rw [if_pos k1] at k4
      rcases arc_cases k3 with q | q | ⟨j, y, q, hy⟩
      · omega
      · rw [q, arcs_b.2] at k4; omega
      · rw [q, (arcs_e hy).1] at k4
        have hy2 : y = w := k4.2
        subst hy2
        have ym := List.mem_of_getElem? hy
        have y0 := hh y ym
        cases st with
        | nil =>
          have : y = -1 := h2
          omega
        | cons t2 st2 =>
          obtain ⟨w2, j1, j2⟩ := h2
          obtain ⟨g1, g2⟩ := inf t2 (by simp)
          obtain ⟨g3, g4⟩ := j1
          rw [if_pos g1] at g4
          rcases arc_cases g3 with q2 | q2 | ⟨j', y', q2, hy'⟩
          · omega
          · rw [q2, arcs_b.2] at g4
            exact hn (g4.1 ▸ ym)
          · rw [q2, (arcs_e hy').2] at g4
            omega
end
end K56

namespace K56
open PySem PySem.Spec PyProof.Rows L2 K56R
open Evl (Ex ex_l ex_t sq_of st_of fresh_back sz_of sz_lt)
/-! ### arcs_for -/
theorem upto_range {β : Type} (v : Nat → β) (n : Nat) : upto (fun _ => true) v n = (List.range n).map v := by
  unfold upto
  rw [List.filter_eq_self.mpr (fun _ _ => rfl)]
theorem vi_at {l : List Int} {i : Nat} {x : V} (h : (vi l)[i]? = some x) : ∃ z, l[i]? = some z ∧ x = .int z := by
  unfold vi at h
  rw [List.getElem?_map] at h
  cases e : l[i]? with
  | none => rw [e] at h; cases h
  | some r => rw [e] at h; exact ⟨r, rfl, (Option.some.inj h).symm⟩
def sp_arcs_for (_ : PySem.W.Frag) : Sp := fun vs H Q _ => ∃ n m R f s h heads e ends, vs = [.ref n, .ref f, .ref h, .ref e] ∧ Net H n m R ∧ R.length ≤ 500 ∧ H f = some (.tup [.int s]) ∧ H h = some (.tup (vi heads)) ∧ H e = some (.tup (vn ends)) ∧ heads.length ≤ 100 ∧
  ∀ a H', Ex H H' → ArcsR H' a (arcsFor R s heads ends) → Q (.ref a) H'
theorem ok_arcs_for {P : Program} {w : World} {K : PySem.W.Frag} {mg : Str → Option Value} {base : Heap} {f : Addr} {fd : FuncData} (F : L2.Fun K "arcs_for" "arcs_for" s_arcs_for f fd) (B : Bn mg) :
    FnOk P w K mg base CX0 1 f fd ["net", "feet", "heads", "ends"] (sp_arcs_for K) := by
  refine F.ok (k := 0) sc_arcs_for (fun vs H Q E h => ?_) (fun cdv A outer s H vs Q E hr h => ?_)
  · obtain ⟨_, _, _, _, _, _, _, _, _, rfl, _⟩ := h
    rfl
  · obtain ⟨n, m, R, f', s0, hh, heads, e0, ends, rfl, ⟨r, ps, h1, h2, h3⟩, hl, hf, hH, he, hhl, q⟩ := h
    have hu := hu_of hr
    refine ⟨_, (pss_cons (ps_setLc (i := 4) (own := [("road", 5), ("foot", 6), ("head", 7)]) rfl sc_arcs_for.nd rfl rfl (sw_true rfl rfl rfl (by decide +kernel)) (pi_enumT (by rfl) B.enumerate (pa_cons (pe_ix ix_tup (pv 0) pe_int (fun _ _ => rfl)) pa_nil)) (blkOk_by (own := [("road", 5), ("foot", 6), ("head", 7)]) (N := N_arcs_for) (sc := defScope s_arcs_for) (by decide +kernel)) (fun _ _ _ _ _ => (pg_tupK K (by rfl) (pgs_cons (pg_name (i := 5) sc_arcs_for.nd rfl (Or.inl rfl)) (pgs_cons (pg_tupK K (by rfl) (pgs_cons (pg_name (i := 6) sc_arcs_for.nd rfl (Or.inl rfl)) (pgs_cons (pg_name (i := 7) sc_arcs_for.nd rfl (Or.inl rfl)) pgs_nil))) pgs_nil)))) (fun _ _ _ _ _ => pts_nil) (fun _ _ _ _ _ => (pe_tup (pa_cons (pv 6) (pa_cons (pe_ifExp (pt_cmpR (op_in_seqK K) (pv 5) (pv 3) (by rfl)) (B.pf (by rfl)) (pv 7)) pa_nil)))))
          (pss_cons (ps_expr (pe_bm PySem.F.plainAttrs_list PySem.F.slot_list_extend PySem.F.type_list_extend mt_extend (pv 4) (pa_cons (pe_lc (own := [("place", 8)]) rfl sc_arcs_for.nd (pi_tup (pv 1)) (blkOk_by (own := [("place", 8)]) (N := N_arcs_for) (sc := defScope s_arcs_for) (by decide +kernel)) (fun _ _ _ _ _ => (pg_name (i := 8) sc_arcs_for.nd rfl (Or.inl rfl))) (fun _ _ _ _ _ => pts_nil) (fun _ _ _ _ _ => (pe_tup (pa_cons (B.pb (by rfl)) (pa_cons (pv 8) pa_nil))))) pa_nil)))
          (pss_cons (ps_expr (pe_bm PySem.F.plainAttrs_list PySem.F.slot_list_extend PySem.F.type_list_extend mt_extend (pv 4) (pa_cons (pe_lc (own := [("place", 8)]) rfl sc_arcs_for.nd (pi_tup (pv 2)) (blkOk_by (own := [("place", 8)]) (N := N_arcs_for) (sc := defScope s_arcs_for) (by decide +kernel)) (fun _ _ _ _ _ => (pg_name (i := 8) sc_arcs_for.nd rfl (Or.inl rfl))) (fun _ _ _ _ _ => pts_nil) (fun _ _ _ _ _ => (pe_tup (pa_cons (pv 8) (pa_cons (B.pf (by rfl)) pa_nil))))) pa_nil)))
          (pss_one (ps_ret (pv 4)))))), ?_⟩
    refine ⟨.ref n, rfl, n, _, 1, .ref r, rfl, rfl, st_of h1, rfl, r, ps, rfl, st_of h2, fun D nD => ?_⟩
    refine lc_it (walk_enumT (xs := ps)) (Cx1 H Pr (upto (fun _ => true) (fun i => (ft R i, if i ∈ ends then -2 else hd R i))) D) (cx_zero nD rfl) (fun i H' _ pv => st_of (pv.2.1 _ _ h2)) (fun i x H' H2 hi pv y => ?_) fun H' pv => ?_
    · obtain ⟨T, x1, x2, rfl, nT, rfl, e1, e2⟩ := y
      cases e1
      obtain ⟨z, ez, a, rfl, hz⟩ := h3.get' e2
      have ex := Evl.Ex.new (o := .tup [.int (i : Nat), .ref a]) nT
      obtain ⟨g1, g2⟩ := ft_get ez
      refine ⟨T, _, rfl, st_of upd_same, rfl, _, _, rfl, _, _, rfl, ⟨a, _, rfl, st_of ((pv.2.1.trans ex) _ _ hz), rfl, _, _, rfl, _, _, rfl, rfl, rfl, rfl, ?_⟩⟩
      refine cx_all st_Pr pv ex (by rw [h3.1] at hi; omega) fun Q k => ?_
      refine ⟨_, rfl, .int i, rfl, .ref e0, rfl, e0, _, rfl, .inr (st_of ((pv.2.1.trans ex) _ _ he)), rfl, flat_vn _, _, rfl, ?_⟩
      rw [if_neg (by decide), inV_vn]
      refine itB (fun hm => ⟨by show 2 ≤ sizeLine; decide, fun p np => k _ _ (Evl.Ex.new np) ⟨p, rfl, ?_⟩⟩) (fun hm => ⟨_, rfl, by show 2 ≤ sizeLine; decide, fun p np => k _ _ (Evl.Ex.new np) ⟨p, rfl, ?_⟩⟩)
      · rw [upd_same, if_pos (of_decide_eq_true hm), g1]
      · rw [upd_same, if_neg (of_decide_eq_false hm), g1, g2]
    · obtain ⟨nD', ex, acc, hD, hA⟩ := pv
      rw [h3.1, upto_range] at hA
      refine ⟨.ref D, rfl, .inl ⟨rfl, _, sq_of hD⟩, .ref f', rfl, f', rfl, ⟨_, st_of (ex _ _ hf)⟩, fun D2 nD2 => ?_⟩
      refine lc_it (walk_tup (xs := [.int s0])) (Cx1 H' Pr (upto (fun _ => true) (fun i => (fun z : Int => ((-1 : Int), z)) ([s0].getD i 0))) D2) (cx_zero nD2 rfl) (fun i H3 _ pv => st_of (pv.2.1 _ _ (ex _ _ hf))) (fun i x H3 H4 hi pv y => ?_) fun H3 pv => ?_
      · obtain ⟨rfl, ey⟩ := y
        obtain ⟨z, ez, rfl⟩ := vi_at (l := [s0]) ey
        refine ⟨rfl, ?_⟩
        refine cx_all st_Pr pv (Evl.Ex.refl _) (by simp at hi; omega) fun Q k => ⟨_, rfl, by show 2 ≤ sizeLine; decide, fun p np => k _ _ (Evl.Ex.new np) ⟨p, rfl, ?_⟩⟩
        rw [upd_same, getD_of ez]
      · obtain ⟨nD2', ex3, acc3, hD3, hA3⟩ := pv
        rw [show ([V.int s0] : List V).length = [s0].length from rfl, upto_all (fun z : Int => ((-1 : Int), z))] at hA3
        have ndD2 : D ≠ D2 := ne_of_none hD nD2
        have la : acc.length = R.length := by rw [hA.1]; simp
        have la3 : acc3.length = 1 := by rw [hA3.1]; rfl
        refine ⟨D, D2, acc, acc3, rfl, rfl, ex3 _ _ hD, hD3, sz_of (by omega), ?_⟩
        have tk4 : Tk H3 (upd H3 D (.lst (acc ++ acc3))) := tk_upd (ex3 _ _ hD) fun xs z => by cases z
        have ex4 : Ex H (upd H3 D (.lst (acc ++ acc3))) := upd_ex (ex.trans ex3) nD
        have hA4 : All2 (Pr (upd H3 D (.lst (acc ++ acc3)))) (acc ++ acc3) (((List.range R.length).map (fun i => (ft R i, if i ∈ ends then -2 else hd R i))) ++ [((-1 : Int), s0)]) := (all2_tk st_Pr ((tk_ex ex3).trans tk4) hA).app (all2_tk st_Pr tk4 hA3)
        have hD4 : (upd H3 D (.lst (acc ++ acc3))) D = some (.lst (acc ++ acc3)) := upd_same
        generalize upd H3 D (.lst (acc ++ acc3)) = H4 at ex4 hA4 hD4
        refine ⟨.ref D, rfl, .inl ⟨rfl, _, sq_of hD4⟩, .ref hh, rfl, hh, rfl, ⟨_, st_of (ex4 _ _ hH)⟩, fun D5 nD5 => ?_⟩
        refine lc_it (walk_tup (xs := vi heads)) (Cx1 H4 Pr (upto (fun _ => true) (fun i => (fun z : Int => (z, (-2 : Int))) (heads.getD i 0))) D5) (cx_zero nD5 rfl) (fun i H3 _ pv => st_of (pv.2.1 _ _ (ex4 _ _ hH))) (fun i x H3 H4 hi pv y => ?_) fun H5 pv => ?_
        · obtain ⟨rfl, ey⟩ := y
          obtain ⟨z, ez, rfl⟩ := vi_at ey
          refine ⟨rfl, ?_⟩
          refine cx_all st_Pr pv (Evl.Ex.refl _) (by simp [vi] at hi; omega) fun Q k => ⟨_, rfl, by show 2 ≤ sizeLine; decide, fun p np => k _ _ (Evl.Ex.new np) ⟨p, rfl, ?_⟩⟩
          rw [upd_same, getD_of ez]
        · obtain ⟨nD5', ex5, acc5, hD5, hA5⟩ := pv
          rw [show (vi heads).length = heads.length by simp [vi], upto_all (fun z : Int => (z, (-2 : Int)))] at hA5
          have la5 : acc5.length = heads.length := by rw [hA5.1]; simp
          refine ⟨D, D5, acc ++ acc3, acc5, rfl, rfl, ex5 _ _ hD4, hD5, sz_of (by rw [List.length_append]; omega), ?_⟩
          have tk6 : Tk H5 (upd H5 D (.lst (acc ++ acc3 ++ acc5))) := tk_upd (ex5 _ _ hD4) fun xs z => by cases z
          refine ⟨_, rfl, q D _ (upd_ex (ex4.trans ex5) nD) ⟨_, upd_same, ?_⟩⟩
          have := (all2_tk st_Pr ((tk_ex ex5).trans tk6) hA4).app (all2_tk st_Pr tk6 hA5)
          rw [show arcsFor R s0 heads ends = (List.range R.length).map (fun i => (ft R i, if i ∈ ends then -2 else hd R i)) ++ [((-1 : Int), s0)] ++ heads.map (fun z => (z, (-2 : Int))) by unfold arcsFor; simp]
          exact this
/-! ### pushed -/
theorem rep_vi (n : Nat) : (List.replicate n [V.int 0]).flatten = vi (List.replicate n 0) := by
  induction n with
  | zero => rfl
  | succ n ih => rw [List.replicate_succ, List.flatten_cons, ih]; rfl
theorem rep_non (n : Nat) : (List.replicate n [V.non]).flatten = (List.replicate n (none : Option Int)).map rmV := by
  induction n with
  | zero => rfl
  | succ n ih => rw [List.replicate_succ, List.flatten_cons, ih]; rfl
def sp_pushed (_ : PySem.W.Frag) : Sp := fun vs H Q _ => ∃ a r A rm bd, vs = [.ref a, .ref r, .int (-1), .int (-2)] ∧ ArcsR H a A ∧ H r = some (.lst (rm.map rmV)) ∧ rm.length = A.length ∧ A.length ≤ 1000 ∧ (∀ i c, i < A.length → rmA rm i = some c → 0 ≤ c) ∧
  (∀ F, Feas A rm F → exc A F (-1) ≤ bd) ∧ (∀ F st, Links A st (-2) (-1) → ∃ s ∈ st, (leftOf rm F s).isSome = true) ∧
  ∀ p f k F cs H', Ex H H' → H' p = some (.tup [.ref f, .ref k]) → H' f = some (.lst (vi F)) → CamR H' k cs → (keys cs).Nodup → cs.length ≤ 2001 → F.length = A.length → MaxFlow A (rmA rm) (cf F) (fun z => decide (z ∈ keys cs)) → Q (.ref p) H'
theorem ok_pushed {P : Program} {w : World} {K : PySem.W.Frag} {mg : Str → Option Value} {base : Heap} {f : Addr} {fd : FuncData} (F : L2.Fun K "pushed" "pushed" s_pushed f fd) (B : Bn mg)
    (C_reached : C8.Cal P w K mg base 2 "reached" (sp_reached K) [])
    (C_led_ways : C8.Cal P w K mg base 1 "led_ways" (sp_led_ways K) [])
    (C_steps_back : C8.Cal P w K mg base 1 "steps_back" (sp_steps_back K) [])
    (C_least_left : C8.Cal P w K mg base 1 "least_left" (sp_least_left K) []) :
    FnOk P w K mg base CX0 3 f fd ["arcs", "room", "begin", "end"] (sp_pushed K) := by
  refine F.ok (k := 2) sc_pushed (fun vs H Q E h => ?_) (fun cdv A outer s H vs Q E hr h => ?_)
  · obtain ⟨_, _, _, _, _, rfl, _⟩ := h
    rfl
  · obtain ⟨a, r, A', rm, bd, rfl, hA, hr0, hl, hAl, hnn, hbd, hfin, q⟩ := h
    obtain ⟨ps, hps, hps2⟩ := id hA
    have hu := hu_of hr
    refine ⟨_, (pss_cons (ps_par (i := 4) (j := 5) (by rfl) sc_pushed.nd rfl rfl (by decide) rfl rfl (pa_cons (C8.pe_c C_led_ways hr (by decide) (by rfl) (pa_cons (pv 0) pa_nil)) (pa_cons (pe_op op_rep (pe_lst (pa_cons pe_int pa_nil)) (pe_callB call_len_seq (by rfl) B.len PySem.boot_len (pa_cons (pv 0) pa_nil))) pa_nil)) (by rfl))
          (pss_cons (ps_set (i := 6) sc_pushed.nd rfl (Or.inl rfl) (C8.pe_c C_reached hr (by decide) (by rfl) (pa_cons (pv 4) (pa_cons (pv 1) (pa_cons (pv 5) (pa_cons (pv 2) (pa_cons (pv 3) pa_nil)))))))
          (pss_cons (ps_while PassesOwn.never (pt_cmp (pc_din hu (pv 3) (pv 6))) (pss_cons (ps_set (i := 7) sc_pushed.nd rfl (Or.inl rfl) (C8.pe_c C_steps_back hr (by decide) (by rfl) (pa_cons (pv 6) (pa_cons (pv 3) pa_nil))))
          (pss_cons (ps_set (i := 8) sc_pushed.nd rfl (Or.inl rfl) (C8.pe_c C_least_left hr (by decide) (by rfl) (pa_cons (pv 1) (pa_cons (pv 5) (pa_cons (pv 7) pa_nil)))))
          (pss_cons (ps_for PassesOwn.never rfl (pi_list (pv 7)) (pg_tup (by rfl) (pgs_cons (pg_name (i := 9) sc_pushed.nd rfl (Or.inl rfl)) (pgs_cons (pg_name (i := 10) sc_pushed.nd rfl (Or.inl rfl)) pgs_nil))) (pss_one (ps_asg (pe_op op_add (pe_ix ix_list (pv 5) (pv 9) (fun _ _ => rfl)) (pe_ifExp (pt_val (pv 10)) (pv 8) (pe_un un_neg (pv 8)))) (pg_sub (pv 5) (pv 9) set_list))))
          (pss_one (ps_set (i := 6) sc_pushed.nd rfl (Or.inl rfl) (C8.pe_c C_reached hr (by decide) (by rfl) (pa_cons (pv 4) (pa_cons (pv 1) (pa_cons (pv 5) (pa_cons (pv 2) (pa_cons (pv 3) pa_nil))))))))))))
          (pss_one (ps_ret (pe_tup (pa_cons (pv 5) (pa_cons (pv 6) pa_nil)))))))), ?_⟩
    refine ⟨.ref a, rfl, a, A', rfl, hA, hAl, fun w H1 e1 hW => ?_⟩
    have pl : ps.length = A'.length := hps2.1
    refine ⟨by show 1 ≤ sizeLine; decide, fun z1 nz1 => ?_⟩
    have xz := Evl.Ex.new (o := .lst [.int 0]) nz1
    refine ⟨.ref a, rfl, a, ps, rfl, .inl (sq_of (xz _ _ (e1 _ _ hps))), z1, _, [.int 0], rfl, rfl, upd_same, by omega, by omega, by rw [Int.toNat_natCast]; exact sz_of (by simp; omega), fun f' nf => ⟨_, _, rfl, ?_⟩⟩
    rw [Int.toNat_natCast, rep_vi, pl]
    have nf1 : H1 f' = none := fresh_back xz nf
    have xf := Evl.Ex.new (o := .lst (vi (List.replicate A'.length 0))) nf
    have eH := e1.trans (xz.trans xf)
    have F0 := feas_zero (A := A') (rm := rm) hnn
    refine ⟨.ref w, rfl, .ref r, rfl, .ref f', rfl, _, rfl, _, rfl, w, r, f', A', rm, _, rfl, hW.ex (xz.trans xf), eH _ _ hr0, upd_same, hl, F0.len, hAl, fun k cs H2 e2 hC hG hD => ?_⟩
    refine ⟨fun m σ H' => ∃ F cs k y7 y8 y9 y10, σ = [some (.ref a), some (.ref r), some (.int (-1)), some (.int (-2)), some (.ref w), some (.ref f'), some (.ref k), y7, y8, y9, y10] ∧ m = (bd - exc A' F (-1)).toNat ∧ Ex H1 H' ∧ H' f' = some (.lst (vi F)) ∧ CamR H' k cs ∧ Feas A' rm F ∧ Grow A' rm F cs ∧ ((-2 : Int) ∉ keys cs → ∀ z ∈ keys cs, Done A' rm F cs z),
      ⟨_, _, cs, k, none, none, none, none, rfl, rfl, xz.trans (xf.trans e2), e2 _ _ upd_same, hC, F0, hG, hD⟩, fun m σ H' hw => ?_⟩
    obtain ⟨F', cs, k, y7, y8, y9, y10, rfl, em, ex, hf, hC, hF, hG, hD⟩ := hw
    obtain ⟨kvs, hk, hA2⟩ := id hC
    refine ⟨_, rfl, _, rfl, k, _, rfl, DGet.k (k := .inl (-2)) hk, _, rfl, itB (fun hb => ?_) (fun hb => ?_)⟩
    · have hm : (-2 : Int) ∈ keys cs := by rw [cam_isSome hA2 hG.nodup] at hb; exact of_decide_eq_true hb
      refine ⟨fun σ' H' => ∃ m', m' < m ∧ _, fun σ' H' h => h, ?_⟩
      refine ⟨_, rfl, _, rfl, k, cs, A', rm, F', rfl, hC, hG, hAl, hm, fun b es st H3 e3 nb hb3 hS hL hR hN hsl => ?_⟩
      have hlt : ∀ s ∈ st, s.1 < A'.length := hL.mem
      refine ⟨_, rfl, _, rfl, _, rfl, r, f', b, rm, F', es, st, rfl, (ex.trans e3) _ _ (e1 _ _ hr0), e3 _ _ hf, hb3, hS, hsl, fun s hs => ⟨by rw [hl]; exact hlt s hs, by rw [hF.len]; exact hlt s hs⟩, hfin F' st hL, fun mm H4 e4 hm1 hm2 => ?_⟩
      have nbf : b ≠ f' := fun z => by rw [z, hf] at nb; cases nb
      obtain ⟨s1, hs1, hs1m⟩ := hm1
      have hpos : 0 < mm := left_pos hs1m (hR s1 hs1)
      have hS4 := all2_tk st_Stp (tk_ex e4) hS
      obtain ⟨fe, fv⟩ := hF.push hL hN (Int.le_of_lt hpos) hm2
      refine ⟨_, rfl, b, rfl, ⟨_, sq_of (e4 _ _ hb3)⟩, ?_⟩
      refine for_it (walk_list (xs := es)) (fun j σ H5 => ∃ y9 y10, σ = [some (.ref a), some (.ref r), some (.int (-1)), some (.int (-2)), some (.ref w), some (.ref f'), some (.ref k), some (.ref b), some (.int mm), y9, y10] ∧ (∀ c o, c ≠ f' → H4 c = some o → H5 c = some o) ∧ H5 f' = some (.lst (vi (bumps mm F' (st.take j)))))
        ⟨_, _, rfl, fun _ _ _ h => h, e4 _ _ (e3 _ _ hf)⟩ (fun j σ H5 _ pv => ?_) (fun j x σ H5 H6 hj pv y => ?_) fun σ H5 pv => ?_
      · obtain ⟨_, _, _, h2, _⟩ := pv
        exact sq_of (h2 b _ nbf (e4 _ _ hb3))
      · obtain ⟨y9, y10, rfl, mo, hf5⟩ := pv
        obtain ⟨rfl, ey⟩ := y
        obtain ⟨⟨i, fw⟩, es', T, rfl, hT⟩ := hS4.get' ey
        have hT5 := mo T _ (fun z => by rw [z, e4 _ _ (e3 _ _ hf)] at hT; cases hT) hT
        have hi : i < A'.length := hlt _ (List.mem_of_getElem? es')
        have hi2 : i < (bumps mm F' (st.take j)).length := by rw [bumps_len, hF.len]; exact hi
        have tk : bumps mm F' (st.take (j + 1)) = bump mm (bumps mm F' (st.take j)) (i, fw) := by
          rw [List.take_add_one, es']
          unfold bumps
          rw [List.foldl_append]; rfl
        have fin : ∀ x, x = cf (bumps mm F' (st.take j)) i + sgn fw mm → (∃ y9 y10, [some (V.ref a), some (.ref r), some (.int (-1)), some (.int (-2)), some (.ref w), some (.ref f'), some (.ref k), some (.ref b), some (.int mm), some (.int (i : Nat)), some (.bl fw)] = [some (.ref a), some (.ref r), some (.int (-1)), some (.int (-2)), some (.ref w), some (.ref f'), some (.ref k), some (.ref b), some (.int mm), y9, y10] ∧ (∀ c o, c ≠ f' → H4 c = some o → (upd H6 f' (.lst ((vi (bumps mm F' (st.take j))).set i (.int x)))) c = some o) ∧
            (upd H6 f' (.lst ((vi (bumps mm F' (st.take j))).set i (.int x)))) f' = some (.lst (vi (bumps mm F' (st.take (j + 1)))))) := fun x hx => by
          refine ⟨_, _, rfl, fun c o n h => by rw [upd_ne n]; exact mo c o n h, ?_⟩
          rw [upd_same, tk, hx]
          unfold bump vi
          rw [List.map_set]
        refine ⟨T, _, rfl, st_of hT5, rfl, _, _, rfl, _, _, rfl, rfl, ?_⟩
        refine ⟨_, rfl, _, rfl, f', _, i, _, rfl, rfl, sq_of hf5, atI_nat (vi_get hi2), _, rfl, fw, rfl, itB (fun e => ?_) (fun e => ?_)⟩
        · refine ⟨_, rfl, _, _, rfl, rfl, _, rfl, _, rfl, f', _, i, i, rfl, rfl, hf5, Evl.ixN_nat (by simpa [vi] using hi2), fin _ ?_⟩
          unfold sgn; rw [if_pos e]
        · refine ⟨_, rfl, mm, rfl, _, _, rfl, rfl, _, rfl, _, rfl, f', _, i, i, rfl, rfl, hf5, Evl.ixN_nat (by simpa [vi] using hi2), fin _ ?_⟩
          unfold sgn; rw [if_neg (by rw [e]; decide)]
      · obtain ⟨y9, y10, rfl, mo, hf5⟩ := pv
        rw [List.take_of_length_le (by rw [hS4.1]; exact Nat.le_refl _)] at hf5
        have ex5 : Ex H1 H5 := fun c o h => mo c o (fun z => by rw [z, nf1] at h; cases h) (e4 _ _ (e3 _ _ (ex _ _ h)))
        refine ⟨_, rfl, _, rfl, _, rfl, _, rfl, _, rfl, w, r, f', A', rm, _, rfl, hW.ex ex5, ex5 _ _ (e1 _ _ hr0), hf5, hl, fe.len, hAl, fun k2 cs2 H6 e6 hC6 hG6 hD6 => ?_⟩
        have := hbd _ fe
        exact ⟨_, by rw [em]; omega, _, cs2, k2, _, _, _, _, rfl, rfl, ex5.trans e6, e6 _ _ hf5, hC6, fe, hG6, hD6⟩
    · have hm : (-2 : Int) ∉ keys cs := by rw [cam_isSome hA2 hG.nodup] at hb; exact of_decide_eq_false hb
      refine ⟨_, rfl, _, rfl, by show 2 ≤ sizeLine; decide, fun p np => ?_⟩
      have xp := Evl.Ex.new (o := .tup [.ref f', .ref k]) np
      refine q p f' k F' cs _ (e1.trans (ex.trans xp)) upd_same (xp _ _ hf) (hC.ex xp) hG.nodup ?_ hF.len (max_of hF hG hm (hD hm))
      have := hG.le
      omega
end K56


namespace K56
open PySem PySem.Spec PyProof.Rows L2 K56R
open Evl (Ex ex_l ex_t sq_of st_of fresh_back sz_of sz_lt)
section
variable {many : Int} {R : Arcs} {s : Int} {heads : List Int} {ends : List Nat}
/-- rooms of the roads, then no bound -/
def rmFor (c : List Int) (k : Nat) : List (Option Int) := c.map some ++ List.replicate k none
theorem rmFor_rd {c : List Int} {k i : Nat} (h : i < c.length) : rmA (rmFor c k) i = some (cf c i) := by
  unfold rmA rmFor
  refine getD_of ?_
  rw [List.getElem?_append_left (by simpa using h), List.getElem?_map, cf_get h]; rfl
theorem rmFor_no {c : List Int} {k i : Nat} (h : c.length ≤ i) : rmA (rmFor c k) i = none := by
  unfold rmA rmFor
  rw [List.getD_eq_getElem?_getD, List.getElem?_append_right (by simpa using h)]
  cases e : (List.replicate k (none : Option Int))[i - (c.map some).length]? with
  | none => rfl
  | some x => rw [List.eq_of_mem_replicate (List.mem_of_getElem? e)]; rfl
theorem rmFor_len (c : List Int) (k : Nat) : (rmFor c k).length = c.length + k := by simp [rmFor]
theorem endless_keys (N : NetOk many R) (hs : 0 ≤ s) (hh : ∀ h ∈ heads, 0 ≤ h) (hn : s ∉ heads) {z : List Int} (hz : ∀ i, cf z i = 0) {c : List Int} (hc : c.length = R.length) (hc0 : ∀ i, cf c i = 0) {k : Nat} {cs : List CE} (g : Grow (arcsFor R s heads ends) (rmFor c k) z cs) :
    ∀ x ∈ keys cs, x = -1 ∨ x = s := by
  induction g with
  | one => intro x hx; simp [keys] at hx; exact .inl hx
  | @add cs w i p fw g h1 h2 h3 h4 ih =>
    intro x hx
    rw [keys_app] at hx
    rcases List.mem_append.mp hx with q | q
    · exact ih x q
    · have e : x = w := by simpa [keys] using q
      subst e
      obtain ⟨h5, h6⟩ := h3
      cases fw with
      | false =>
        have : 0 < cf z i := of_decide_eq_true h4
        rw [hz] at this; omega
      | true =>
        rw [if_pos rfl] at h6
        have hi : R.length ≤ i := by
          refine Nat.le_of_not_lt fun q => ?_
          unfold roomOk at h4
          rw [rmFor_rd (by omega)] at h4
          have : cf z i < cf c i := of_decide_eq_true h4
          rw [hz, hc0] at this; omega
        rcases ih p h2 with e | e
        · have := (arcs_no_begin (ends := ends) N hs hh h5).2 (h6.1.trans e)
          rw [this, arcs_b.2] at h6
          exact .inr h6.2
        · exact absurd (arcs_s N hs hn h5 (h6.1.trans e)) (by omega)
end
/-- what a flow is asked for -/
structure FlowIn (H : Hp) (vs : List V) (m : Int) (R : Arcs) (c : List Int) (s : Int) (heads : List Int) (ends : List Nat) : Prop where
  ok : NetOk m R
  hl : R.length ≤ 500
  hc : c.length = R.length
  nn : ∀ r, r < R.length → 0 ≤ cf c r
  s0 : 0 ≤ s ∧ s < m
  hh : ∀ h ∈ heads, 0 ≤ h ∧ h < m
  hn : s ∉ heads
  hk : heads.length ≤ 100
  at_ : ∃ n t f h e, vs = [.ref n, .ref t, .ref f, .ref h, .ref e] ∧ Net H n m R ∧ H t = some (.tup (vi c)) ∧ H f = some (.tup [.int s]) ∧ H h = some (.tup (vi heads)) ∧ H e = some (.tup (vn ends))
theorem rep_cf (n i : Nat) : cf (List.replicate n 0) i = 0 := by
  unfold cf
  rw [List.getD_eq_getElem?_getD]
  by_cases hi : i < n
  · rw [List.getElem?_replicate_of_lt hi]; rfl
  · rw [List.getElem?_eq_none (by simpa using hi)]; rfl
theorem rep_some (n k : Nat) : vi (List.replicate n 0) ++ (List.replicate k (none : Option Int)).map rmV = (rmFor (List.replicate n 0) k).map rmV := by
  unfold rmFor
  rw [List.map_append, List.map_map]
  rfl
def sp_endless_way (_ : PySem.W.Frag) : Sp := fun vs H Q _ => ∃ m R c s heads ends, FlowIn H vs m R c s heads ends ∧ ∀ H', Ex H H' → Q .non H'
theorem ok_endless_way {P : Program} {w : World} {K : PySem.W.Frag} {mg : Str → Option Value} {base : Heap} {f : Addr} {fd : FuncData} (F : L2.Fun K "endless_way" "endless_way" s_endless_way f fd) (B : Bn mg)
    (C_arcs_for : C8.Cal P w K mg base 1 "arcs_for" (sp_arcs_for K) [])
    (C_reached : C8.Cal P w K mg base 2 "reached" (sp_reached K) [])
    (C_led_ways : C8.Cal P w K mg base 1 "led_ways" (sp_led_ways K) [])
    (C_steps_back : C8.Cal P w K mg base 1 "steps_back" (sp_steps_back K) []) :
    FnOk P w K mg base CX0 3 f fd ["net", "room", "feet", "heads", "ends"] (sp_endless_way K) := by
  refine F.ok (k := 2) sc_endless_way (fun vs H Q E h => ?_) (fun cdv A outer s H vs Q E hr h => ?_)
  · obtain ⟨_, _, _, _, _, _, ⟨_, _, _, _, _, _, _, _, _, _, _, _, _, rfl, _⟩, _⟩ := h
    rfl
  · obtain ⟨m, R, c, s0, heads, ends, I, q⟩ := h
    obtain ⟨n, t, f', h', e', rfl, hN, ht, hf, hh, he⟩ := I.at_
    have hu := hu_of hr
    refine ⟨_, (pss_cons (ps_set (i := 5) sc_endless_way.nd rfl (Or.inl rfl) (C8.pe_c C_arcs_for hr (by decide) (by rfl) (pa_cons (pv 0) (pa_cons (pv 2) (pa_cons (pv 3) (pa_cons (pv 4) pa_nil))))))
          (pss_cons (ps_set (i := 6) sc_endless_way.nd rfl (Or.inl rfl) (pe_op op_cat (pe_lc (own := [("own", 11)]) rfl sc_endless_way.nd (pi_tup (pv 1)) (blkOk_by (own := [("own", 11)]) (N := N_endless_way) (sc := defScope s_endless_way) (by decide +kernel)) (fun _ _ _ _ _ => (pg_name (i := 11) sc_endless_way.nd rfl (Or.inl rfl))) (fun _ _ _ _ _ => pts_nil) (fun _ _ _ _ _ => (pe_ifExp (pt_cmpR op_isN (pv 11) pe_non (nomark _)) pe_non pe_int))) (pe_op op_rep (pe_lst (pa_cons pe_non pa_nil)) (pe_op op_add (pe_callB call_len_seq (by rfl) B.len PySem.boot_len (pa_cons (pv 2) pa_nil)) (pe_callB call_len_seq (by rfl) B.len PySem.boot_len (pa_cons (pv 3) pa_nil))))))
          (pss_cons (ps_set (i := 7) sc_endless_way.nd rfl (Or.inl rfl) (C8.pe_c C_reached hr (by decide) (by rfl) (pa_cons (C8.pe_c C_led_ways hr (by decide) (by rfl) (pa_cons (pv 5) pa_nil)) (pa_cons (pv 6) (pa_cons (pe_op op_rep (pe_lst (pa_cons pe_int pa_nil)) (pe_callB call_len_seq (by rfl) B.len PySem.boot_len (pa_cons (pv 5) pa_nil))) (pa_cons (B.pb (by rfl)) (pa_cons (B.pf (by rfl)) pa_nil)))))))
          (pss_cons (ps_if (pt_cmp (pc_dnotin hu (B.pf (by rfl)) (pv 7))) (pss_one (ps_ret pe_non)) pss_nil)
          pss_never)))), ?_⟩
    have hl := I.hl
    have hk := I.hk
    refine ⟨.ref n, rfl, .ref f', rfl, .ref h', rfl, .ref e', rfl, n, m, R, f', s0, h', heads, e', ends, rfl, hN, hl, hf, hh, he, hk, fun a H1 e1 hA => ?_⟩
    obtain ⟨ps, hps, hps2⟩ := id hA
    have hAl : (arcsFor R s0 heads ends).length = R.length + (1 + heads.length) := arcs_len
    refine ⟨.ref t, rfl, t, rfl, ⟨_, st_of (e1 _ _ ht)⟩, fun D nD => ?_⟩
    refine lc_it (walk_tup (xs := vi c)) (Cx1 H1 IsI (upto (fun _ => true) (fun i => (fun _ : Int => (0 : Int)) (c.getD i 0))) D) (cx_zero nD rfl) (fun i H' _ pv => st_of (pv.2.1 _ _ (e1 _ _ ht))) (fun i x H' H2 hi pv y => ?_) fun H2 pv => ?_
    · obtain ⟨rfl, ey⟩ := y
      obtain ⟨z, ez, rfl⟩ := vi_at ey
      refine ⟨rfl, ?_⟩
      have hi' : i < c.length := by simpa [vi] using hi
      exact cx_all st_I pv (Evl.Ex.refl _) (by have := I.hc; omega) fun Q k => ⟨_, rfl, rfl, _, rfl, itF (k _ _ (Evl.Ex.refl _) rfl)⟩
    · obtain ⟨nD', ex2, acc, hD, hAc⟩ := pv
      rw [all2_I, show (vi c).length = c.length by simp [vi], upto_all (fun _ : Int => (0 : Int)) 0 c] at hAc
      have eH2 := e1.trans ex2
      refine ⟨by show 1 ≤ sizeLine; decide, fun z1 nz1 => ?_⟩
      have xz := Evl.Ex.new (o := .lst [.non]) nz1
      refine ⟨.ref f', rfl, f', _, rfl, .inr (st_of (xz _ _ (eH2 _ _ hf))), .ref h', rfl, h', _, rfl, .inr (st_of (xz _ _ (eH2 _ _ hh))), _, _, rfl, rfl, ?_⟩
      refine ⟨z1, _, [.non], rfl, rfl, upd_same, by simp [vi]; omega, by simp [vi]; omega, sz_of (by simp [vi]; omega), fun z2 nz2 => ?_⟩
      have xz2 := Evl.Ex.new (o := .lst (List.replicate ((([V.int s0] : List V).length : Int) + ((vi heads).length : Int)).toNat [V.non]).flatten) nz2
      refine ⟨D, z2, acc, _, rfl, rfl, xz2 _ _ (xz _ _ hD), upd_same, sz_of (by rw [hAc]; have := I.hc; simp [vi]; omega), fun r nr => ?_⟩
      have xr := Evl.Ex.new (o := .lst (acc ++ (List.replicate ((([V.int s0] : List V).length : Int) + ((vi heads).length : Int)).toNat [V.non]).flatten)) nr
      have eH4 := eH2.trans ((xz.trans xz2).trans xr)
      have hr0 := upd_same (H := upd (upd H2 z1 (.lst [.non])) z2 (.lst (List.replicate ((([V.int s0] : List V).length : Int) + ((vi heads).length : Int)).toNat [V.non]).flatten)) (a := r) (o := .lst (acc ++ (List.replicate ((([V.int s0] : List V).length : Int) + ((vi heads).length : Int)).toNat [V.non]).flatten))
      have hA4 := hA.ex (ex2.trans ((xz.trans xz2).trans xr))
      generalize upd (upd (upd H2 z1 (.lst [.non])) z2 (.lst (List.replicate ((([V.int s0] : List V).length : Int) + ((vi heads).length : Int)).toNat [V.non]).flatten)) r (.lst (acc ++ (List.replicate ((([V.int s0] : List V).length : Int) + ((vi heads).length : Int)).toNat [V.non]).flatten)) = H4 at eH4 hr0 hA4
      have erm : acc ++ (List.replicate ((([V.int s0] : List V).length : Int) + ((vi heads).length : Int)).toNat [V.non]).flatten = (rmFor (List.replicate R.length 0) (1 + heads.length)).map rmV := by
        rw [rep_non, hAc, ← rep_some, ← I.hc, show ((([V.int s0] : List V).length : Int) + ((vi heads).length : Int)).toNat = 1 + heads.length by simp [vi]; omega]
        congr 2
        rw [List.map_const']
      rw [erm] at hr0
      obtain ⟨ps4, hps4, hps42⟩ := id hA4
      refine ⟨.ref a, rfl, a, _, rfl, hA4, by omega, fun w H5 e5 hW => ?_⟩
      refine ⟨_, rfl, by show 1 ≤ sizeLine; decide, fun z3 nz3 => ?_⟩
      have x3 := Evl.Ex.new (o := .lst [.int 0]) nz3
      refine ⟨.ref a, rfl, a, _, rfl, .inl (sq_of (x3 _ _ (e5 _ _ hps4))), z3, _, [.int 0], rfl, rfl, upd_same, by rw [hps42.1]; omega, by rw [hps42.1]; omega, by rw [Int.toNat_natCast, hps42.1]; exact sz_of (by simp; omega), fun z4 nz4 => ?_⟩
      rw [Int.toNat_natCast, rep_vi, hps42.1]
      have x4 := Evl.Ex.new (o := .lst (vi (List.replicate (arcsFor R s0 heads ends).length 0))) nz4
      refine ⟨w, r, z4, _, rmFor (List.replicate R.length 0) (1 + heads.length), List.replicate (arcsFor R s0 heads ends).length 0, rfl, hW.ex (x3.trans x4), x4 _ _ (x3 _ _ (e5 _ _ hr0)), upd_same, by rw [rmFor_len, hAl]; simp, by simp, by omega, fun k cs H6 e6 hC hG _ => ?_⟩
      obtain ⟨kvs, hk6, hA2⟩ := id hC
      have nk : (-2 : Int) ∉ keys cs := fun z => by
        rcases endless_keys I.ok I.s0.1 (fun h hh => (I.hh h hh).1) I.hn (rep_cf _) (by simp) (rep_cf _) hG _ z with e | e
        · cases e
        · have := I.s0.1; omega
      refine ⟨.ref k, rfl, k, _, rfl, DGet.k (k := .inl (-2)) hk6, _, rfl, ?_⟩
      rw [cam_isSome hA2 hG.nodup, decide_eq_false nk]
      exact itT (q _ (eH4.trans (e5.trans ((x3.trans x4).trans e6))))
/-! ### greatest_flow -/
theorem ex_unlock {H H' : Hp} {d : Addr} {od : Obj} {u : HO} (h : H d = some u) (e : Ex (upd H d (.frz od u)) H') : Ex H (upd H' d u) := fun b o hb => by
  by_cases q : b = d
  · subst q; rw [h] at hb; cases hb; exact upd_same
  · rw [upd_ne q]; exact e _ _ (by rw [upd_ne q]; exact hb)
theorem cut_one (F : List Int) {k : Nat} (h : k < F.length) : cutV (vi F) (some (k : Int)) (some ((k : Int) + 1)) = [.int (cf F k)] := by
  have l : (vi F).length = F.length := by simp [vi]
  unfold cutV
  rw [show ((k : Int) + 1) = ((k + 1 : Nat) : Int) from rfl, HT.sIx_nat, HT.sIx_nat, l, Nat.min_eq_left (by omega), Nat.min_eq_left (by omega), Nat.add_sub_cancel_left]
  have e : (vi F).drop k = .int (cf F k) :: (vi F).drop (k + 1) := by
    rw [List.drop_eq_getElem_cons (by omega)]
    congr 1
    have := vi_get h
    rw [List.getElem?_eq_getElem (by omega)] at this
    exact Option.some.inj this
  rw [e]; rfl
def sp_greatest_flow (_ : PySem.W.Frag) : Sp := fun vs H Q _ => ∃ m R c s heads ends, FlowIn H vs m R c s heads ends ∧ ∀ p v x y H', Ex H H' → H' p = some (.tup [.int v, x, y]) → FlowSpec R (cf c) s heads ends v → Q (.ref p) H'
theorem ok_greatest_flow {P : Program} {w : World} {K : PySem.W.Frag} {mg : Str → Option Value} {base : Heap} {f : Addr} {fd : FuncData} (F : L2.Fun K "greatest_flow" "greatest_flow" s_greatest_flow f fd) (B : Bn mg)
    (C_endless_way : C8.Cal P w K mg base 3 "endless_way" (sp_endless_way K) [])
    (C_pushed : C8.Cal P w K mg base 3 "pushed" (sp_pushed K) [])
    (C_arcs_for : C8.Cal P w K mg base 1 "arcs_for" (sp_arcs_for K) []) :
    FnOk P w K mg base CX0 4 f fd ["net", "room", "feet", "heads", "ends"] (sp_greatest_flow K) := by
  refine F.ok (k := 3) sc_greatest_flow (fun vs H Q E h => ?_) (fun cdv A outer s H vs Q E hr h => ?_)
  · obtain ⟨_, _, _, _, _, _, ⟨_, _, _, _, _, _, _, _, _, _, _, _, _, rfl, _⟩, _⟩ := h
    rfl
  · obtain ⟨m, R, c, s0, heads, ends, I, q⟩ := h
    obtain ⟨n, t, f', h', e', rfl, hN, ht, hf, hh, he⟩ := id I.at_
    have hu := hu_of hr
    refine ⟨_, (pss_cons (ps_set (i := 5) sc_greatest_flow.nd rfl (Or.inl rfl) (C8.pe_c C_endless_way hr (by decide) (by rfl) (pa_cons (pv 0) (pa_cons (pv 1) (pa_cons (pv 2) (pa_cons (pv 3) (pa_cons (pv 4) pa_nil)))))))
          (pss_cons (ps_if (pt_cmpR op_notN (pv 5) pe_non (nomark _)) (pss_one (ps_ret (pe_tup (pa_cons pe_non (pa_cons (pv 5) (pa_cons (pe_tup pa_nil) pa_nil)))))) pss_nil)
          (pss_cons (ps_par (i := 6) (j := 7) (by rfl) sc_greatest_flow.nd rfl rfl (by decide) rfl rfl (pa_cons (C8.pe_c C_arcs_for hr (by decide) (by rfl) (pa_cons (pv 0) (pa_cons (pv 2) (pa_cons (pv 3) (pa_cons (pv 4) pa_nil))))) (pa_cons (pe_callB call_len_seq (by rfl) B.len PySem.boot_len (pa_cons (pv 1) pa_nil)) pa_nil)) (by rfl))
          (pss_cons (ps_asg (C8.pe_c C_pushed hr (by decide) (by rfl) (pa_cons (pv 6) (pa_cons (pe_op op_cat (pe_callTy call_list_of (by rfl) B.list (by decide +kernel) (pa_cons (pv 1) pa_nil)) (pe_op op_rep (pe_lst (pa_cons pe_non pa_nil)) (pe_op op_add (pe_callB call_len_seq (by rfl) B.len PySem.boot_len (pa_cons (pv 2) pa_nil)) (pe_callB call_len_seq (by rfl) B.len PySem.boot_len (pa_cons (pv 3) pa_nil))))) (pa_cons (B.pb (by rfl)) (pa_cons (B.pf (by rfl)) pa_nil))))) (pg_tup (by rfl) (pgs_cons (pg_name (i := 8) sc_greatest_flow.nd rfl (Or.inl rfl)) (pgs_cons (pg_name (i := 9) sc_greatest_flow.nd rfl (Or.inl rfl)) pgs_nil))))
          (pss_cons (ps_set (i := 10) sc_greatest_flow.nd rfl (Or.inl rfl) (pe_callB (cr_sum rfl) (by rfl) B.sum (by decide +kernel) (pa_cons (pe_slice sl_list (pv 8) (po_some (pv 7)) (po_some (pe_op op_add (pv 7) (pe_callB call_len_seq (by rfl) B.len PySem.boot_len (pa_cons (pv 2) pa_nil))))) pa_nil)))
          (pss_one (ps_ret (pe_tup (pa_cons (pv 10) (pa_cons (pe_callTy call_tuple_of (by rfl) B.tuple (by decide +kernel) (pa_cons (pe_slice sl_list (pv 8) po_none (po_some (pv 7))) pa_nil)) (pa_cons (pe_callTy call_tuple_of (by rfl) B.tuple (by decide +kernel) (pa_cons (pe_callB cr_sortedI (by rfl) B.sorted (by decide +kernel) (pa_cons (pe_lock (pe_lc (own := [("place", 11)]) rfl sc_greatest_flow.nd (pi_keys (pv 9)) (blkOk_by (own := [("place", 11)]) (N := N_greatest_flow) (sc := defScope s_greatest_flow) (by decide +kernel)) (fun _ _ _ _ _ => (pg_name (i := 11) sc_greatest_flow.nd rfl (Or.inl rfl))) (fun _ _ _ _ _ => (pts_one (pt_cmpR op_ge (pv 11) pe_int (nomark _)))) (fun _ _ _ _ _ => (pv 11)))) pa_nil)) pa_nil)) pa_nil))))))))))), ?_⟩
    have hl := I.hl
    have hk := I.hk
    have hcl := I.hc
    refine ⟨.ref n, rfl, .ref t, rfl, .ref f', rfl, .ref h', rfl, .ref e', rfl, m, R, c, s0, heads, ends, I, fun H1 e1 => ?_⟩
    refine ⟨.non, rfl, rfl, _, rfl, itF ?_⟩
    refine ⟨.ref n, rfl, .ref f', rfl, .ref h', rfl, .ref e', rfl, n, m, R, f', s0, h', heads, e', ends, rfl, hN.tk (tk_ex e1), hl, e1 _ _ hf, e1 _ _ hh, e1 _ _ he, hk, fun a H2 e2 hA => ?_⟩
    have hAl : (arcsFor R s0 heads ends).length = R.length + (1 + heads.length) := arcs_len
    have eH2 := e1.trans e2
    have lc : (vi c).length = R.length := by simp [vi, hcl]
    refine ⟨.ref t, rfl, t, _, rfl, .inr (st_of (eH2 _ _ ht)), _, _, rfl, ?_⟩
    refine ⟨.ref a, rfl, .ref t, rfl, t, _, rfl, .inr (st_of (eH2 _ _ ht)), fun z1 nz1 => ?_⟩
    have x1 := Evl.Ex.new (o := .lst (vi c)) nz1
    refine ⟨by show 1 ≤ sizeLine; decide, fun z2 nz2 => ?_⟩
    have x2 := Evl.Ex.new (o := .lst [.non]) nz2
    refine ⟨.ref f', rfl, f', _, rfl, .inr (st_of (x2 _ _ (x1 _ _ (eH2 _ _ hf)))), .ref h', rfl, h', _, rfl, .inr (st_of (x2 _ _ (x1 _ _ (eH2 _ _ hh)))), _, _, rfl, rfl, ?_⟩
    refine ⟨z2, _, [.non], rfl, rfl, upd_same, by simp [vi]; omega, by simp [vi]; omega, sz_of (by simp [vi]; omega), fun z3 nz3 => ?_⟩
    rw [rep_non, show ((([V.int s0] : List V).length : Int) + ((vi heads).length : Int)).toNat = 1 + heads.length by simp [vi]; omega]
    have x3 := Evl.Ex.new (o := .lst ((List.replicate (1 + heads.length) (none : Option Int)).map rmV)) nz3
    refine ⟨z1, z3, _, _, rfl, rfl, x3 _ _ (x2 _ _ upd_same), upd_same, sz_of (by rw [lc]; simp; omega), fun r nr => ?_⟩
    rw [show vi c ++ (List.replicate (1 + heads.length) (none : Option Int)).map rmV = (rmFor c (1 + heads.length)).map rmV by unfold rmFor; rw [List.map_append, List.map_map]; rfl]
    have x4 := Evl.Ex.new (o := .lst ((rmFor c (1 + heads.length)).map rmV)) nr
    have e4 := x1.trans (x2.trans (x3.trans x4))
    have hr0 := upd_same (H := upd (upd (upd H2 z1 (.lst (vi c))) z2 (.lst [.non])) z3 (.lst ((List.replicate (1 + heads.length) (none : Option Int)).map rmV))) (a := r) (o := .lst ((rmFor c (1 + heads.length)).map rmV))
    generalize upd (upd (upd (upd H2 z1 (.lst (vi c))) z2 (.lst [.non])) z3 (.lst ((List.replicate (1 + heads.length) (none : Option Int)).map rmV))) r (.lst ((rmFor c (1 + heads.length)).map rmV)) = H4 at e4 hr0
    have hrd : ∀ i, i < R.length → rmA (rmFor c (1 + heads.length)) i = some (cf c i) := fun i hi => rmFor_rd (by omega)
    have hno : ∀ i, R.length ≤ i → rmA (rmFor c (1 + heads.length)) i = none := fun i hi => rmFor_no (by omega)
    have hh0 : ∀ h ∈ heads, 0 ≤ h := fun h hm => (I.hh h hm).1
    refine ⟨a, r, _, rmFor c (1 + heads.length), sr (cf c) R.length, rfl, hA.ex e4, hr0, by rw [rmFor_len, hAl, hcl], by omega, fun i x hi hx => ?_, fun F fe => flow_bound I.ok I.s0.1 hh0 I.hn hrd fe, fun F st hL => finite_step I.ok I.s0.1 hh0 I.hn (fun r hr => by rw [hrd r hr]; rfl) hL, fun p f2 k F cs H5 e5 hp hf5 hC hnd hcs hFl hM => ?_⟩
    · by_cases z : i < R.length
      · rw [hrd i z] at hx; cases hx; exact I.nn i z
      · rw [hno i (by omega)] at hx; cases hx
    have spec : FlowSpec R (cf c) s0 heads ends (cf F R.length) := flow_spec (room := rmA (rmFor c (1 + heads.length))) I.ok I.s0 I.hh hno hrd hM
    have eH5 := eH2.trans (e4.trans e5)
    refine ⟨p, _, rfl, st_of hp, rfl, _, _, rfl, _, _, rfl, rfl, ?_⟩
    have hFR : R.length < F.length := by rw [hFl, hAl]; omega
    refine ⟨.ref f2, rfl, _, rfl, _, rfl, _, rfl, .ref f', rfl, f', _, rfl, .inr (st_of (eH5 _ _ hf)), _, _, rfl, rfl, _, rfl, f2, _, rfl, sq_of hf5, fun z5 nz5 => ?_⟩
    rw [lc, show (([V.int s0] : List V).length : Int) = 1 from rfl, cut_one F hFR]
    have x5 := Evl.Ex.new (o := .lst [.int (cf F R.length)]) nz5
    refine ⟨z5, [cf F R.length], rfl, sq_of upd_same, ?_⟩
    rw [show [cf F R.length].sum = cf F R.length by simp]
    refine ⟨_, rfl, .ref f2, rfl, _, rfl, _, rfl, f2, _, rfl, sq_of (x5 _ _ hf5), fun z6 nz6 => ?_⟩
    have x6 := Evl.Ex.new (o := .lst (cutV (vi F) none (some ((R.length : Nat) : Int)))) nz6
    refine ⟨z6, _, rfl, .inl ⟨sq_of upd_same, fun z7 nz7 => ?_⟩⟩
    have x7 := Evl.Ex.new (o := .tup (cutV (vi F) none (some ((R.length : Nat) : Int)))) nz7
    have e7 := x5.trans (x6.trans x7)
    obtain ⟨kvs, hk5, hA2⟩ := hC.ex e7
    have eH7 := eH5.trans e7
    generalize upd (upd (upd H5 z5 (.lst [.int (cf F R.length)])) z6 (.lst (cutV (vi F) none (some ((R.length : Nat) : Int))))) z7 (.tup (cutV (vi F) none (some ((R.length : Nat) : Int)))) = H7 at hk5 hA2 eH7
    refine ⟨k, _, hk5, trivial, fun od => ?_⟩
    refine ⟨.ref k, rfl, k, od, rfl, .inl ⟨kvs, upd_same, fun D nD => ?_⟩⟩
    have kk : ∀ i : Nat, i < kvs.length → ∃ z, (keys cs)[i]? = some z ∧ ∀ key v, kvs[i]? = some (key, v) → kV key = .int z := fun i hi => by
      obtain ⟨ce, hce, r1, r2⟩ := hA2.get' (List.getElem?_eq_getElem hi)
      refine ⟨ce.1, by unfold keys; rw [List.getElem?_map, hce]; rfl, fun key v hkv => ?_⟩
      rw [List.getElem?_eq_getElem hi] at hkv
      have : (kvs[i]).1 = key := by rw [Option.some.inj hkv]
      rw [← this, r1]; rfl
    refine lc_it (walk_keys (kvs := kvs)) (Cx1 (upd H7 k (.frz od (.dK kvs))) IsI (upto (fun i => (fun z : Int => decide (0 ≤ z)) ((keys cs).getD i 0)) (fun i => (fun z : Int => z) ((keys cs).getD i 0))) D) (cx_zero nD rfl) (fun i H' _ pv => pv.2.1 _ _ upd_same) (fun i x H' H2 hi pv y => ?_) fun H8 pv => ?_
    · obtain ⟨rfl, key, v, hkv, rfl⟩ := y
      obtain ⟨z, hz, hz2⟩ := kk i hi
      rw [hz2 key v hkv]
      refine ⟨rfl, ?_⟩
      refine ⟨_, rfl, _, _, rfl, rfl, _, rfl, ?_⟩
      refine cx_turn st_I pv (Evl.Ex.refl _) ?_ (by rw [hA2.1] at hi; omega) fun _ Q kq => ⟨_, rfl, kq _ _ (Evl.Ex.refl _) ?_⟩
      · rw [getD_of hz]
      · rw [getD_of hz]; rfl
    · obtain ⟨nD', ex8, acc, hD, hAc⟩ := pv
      have nDk : D ≠ k := fun z => by rw [z, upd_same] at nD'; cases nD'
      rw [all2_I] at hAc
      have eu := ex_unlock hk5 ex8
      refine ⟨ex8 _ _ upd_same, D, _, rfl, sq_of (by rw [upd_ne nDk, hD, hAc]), fun ns' z9 _ _ nz9 => ?_⟩
      have x9 := Evl.Ex.new (o := .lst (vi ns')) nz9
      refine ⟨z9, _, rfl, .inl ⟨sq_of upd_same, fun z10 nz10 => ?_⟩⟩
      have x10 := Evl.Ex.new (o := .tup (vi ns')) nz10
      refine ⟨by show 3 ≤ sizeLine; decide, fun z11 nz11 => ?_⟩
      have x11 := Evl.Ex.new (o := .tup [.int (cf F R.length), .ref z7, .ref z10]) nz11
      exact q z11 _ _ _ _ (eH7.trans (eu.trans (x9.trans (x10.trans x11)))) upd_same spec
end K56


namespace K56
open PySem PySem.Spec PyProof.Rows L2 K56R
open Evl (Ex ex_l ex_t sq_of st_of fresh_back sz_of sz_lt)
/-! ### questions -/
inductive Qn
  | along (l : List Nat) | touch (ns : List Nat) | both (a b : Nat)
def QR (H : Hp) (q : Addr) : Qn → Prop
  | .along l => ∃ s, H q = some (.tup [.str "along", .ref s]) ∧ H s = some (.tup (vn l))
  | .touch ns => ∃ s, H q = some (.tup [.str "touch", .ref s]) ∧ H s = some (.tup (vn ns))
  | .both a b => H q = some (.tup [.str "both", .int ((a : Nat) : Int), .int ((b : Nat) : Int)])
theorem QR.tk {H H' : Hp} {q : Addr} {u : Qn} (h : QR H q u) (t : Tk H H') : QR H' q u := by
  cases u with
  | along l => obtain ⟨s, a, b⟩ := h; exact ⟨s, t _ _ a, t _ _ b⟩
  | touch l => obtain ⟨s, a, b⟩ := h; exact ⟨s, t _ _ a, t _ _ b⟩
  | both a b => exact t _ _ h
def QOk (R : Arcs) : Qn → Prop
  | .along l => ∃ x l', l = x :: l' ∧ l'.length ≤ 49 ∧ ∃ a b, IsPath R a l b
  | .touch _ => True
  | .both a b => a < R.length ∧ b < R.length
def qf : Qn → List Nat → Int
  | .along l => fAll l
  | .touch ns => fAny ns
  | .both a b => fAll [a, b]
/-- a net and its tally, as they stand -/
structure NT (H : Hp) (n t : Addr) (m : Int) (R : Arcs) (c : List Int) : Prop where
  net : Net H n m R
  ok : NetOk m R
  hl : R.length ≤ 500
  ht : H t = some (.tup (vi c))
  hc : c.length = R.length
  ex : ∃ X, Expl m R (cf c) X
theorem NT.nn {H : Hp} {n t : Addr} {m : Int} {R : Arcs} {c : List Int} (h : NT H n t m R c) : ∀ r, r < R.length → 0 ≤ cf c r := by
  obtain ⟨X, hX⟩ := h.ex
  exact hX.nn
theorem NT.tk {H H' : Hp} {n t : Addr} {m : Int} {R : Arcs} {c : List Int} (h : NT H n t m R c) (k : Tk H H') : NT H' n t m R c := ⟨h.net.tk k, h.ok, h.hl, k _ _ h.ht, h.hc, h.ex⟩
theorem FlowSpec.congr {R : Arcs} {c c' : Nat → Int} {s : Int} {heads : List Int} {ends : List Nat} {v : Int} (h : FlowSpec R c s heads ends v) (e : ∀ r, r < R.length → c r = c' r) : FlowSpec R c' s heads ends v := by
  obtain ⟨h1, P, p1, p2, p3⟩ := h
  exact ⟨fun P a b => h1 P a fun r hr => by rw [e r hr]; exact b r hr, P, p1, fun r hr => by rw [← e r hr]; exact p2 r hr, p3⟩
def Ord (R : Arcs) (a b x y : Nat) : Prop := Leads R x y ∧ ((x = a ∧ y = b) ∨ (x = b ∧ y = a))
theorem leads_le {m : Int} {R : Arcs} (N : NetOk m R) {x y : Nat} (h : Leads R x y) : hd R x ≤ ft R y := by
  obtain ⟨u, hu⟩ := h
  exact path_le N.up hu
theorem Ord.lt {m : Int} {R : Arcs} (N : NetOk m R) {a b x y : Nat} (ha : a < R.length) (hb : b < R.length) (h : Ord R a b x y) : x < R.length ∧ y < R.length := by
  rcases h.2 with ⟨rfl, rfl⟩ | ⟨rfl, rfl⟩
  · exact ⟨ha, hb⟩
  · exact ⟨hb, ha⟩
theorem Ord.one {m : Int} {R : Arcs} (N : NetOk m R) {a b x y x' y' : Nat} (ha : a < R.length) (hb : b < R.length) (h : Ord R a b x y) (k : Ord R a b x' y') : x = x' ∧ y = y' := by
  have l1 := leads_le N h.1
  have l2 := leads_le N k.1
  have na := (N.rd a ha).2.1
  have nb := (N.rd b hb).2.1
  rcases h.2 with ⟨rfl, rfl⟩ | ⟨rfl, rfl⟩ <;> rcases k.2 with ⟨rfl, rfl⟩ | ⟨rfl, rfl⟩
  · exact ⟨rfl, rfl⟩
  · omega
  · omega
  · exact ⟨rfl, rfl⟩
theorem vi_one (x : Int) : [V.int x] = vi [x] := rfl
def sp_flow_of_least (_ : PySem.W.Frag) : Sp := fun vs H Q _ => ∃ n t m R c u q, vs = [.ref n, .ref t, .ref u] ∧ NT H n t m R c ∧ QR H u q ∧
  match q with
  | .along _ => False
  | .touch ns => ∀ p v x y H', Ex H H' → H' p = some (.tup [.int v, x, y]) → FlowSpec R (shut (cf c) ns) 0 [m - 1] [] v → Q (.ref p) H'
  | .both a b => a < R.length ∧ b < R.length ∧ (∀ x y p v w z H', Ord R a b x y → Ex H H' → H' p = some (.tup [.int v, w, z]) → FlowSpec R (shut (cf c) [x]) 0 [ft R y] [] v → Q (.ref p) H') ∧
    (¬ Leads R a b → ¬ Leads R b a → ∀ H', Ex H H' → Q .non H')
theorem ok_flow_of_least {P : Program} {w : World} {K : PySem.W.Frag} {mg : Str → Option Value} {base : Heap} {f : Addr} {fd : FuncData} (F : L2.Fun K "flow_of_least" "flow_of_least" s_flow_of_least f fd) (B : Bn mg)
    (C_greatest_flow : C8.Cal P w K mg base 4 "greatest_flow" (sp_greatest_flow K) [])
    (C_in_order : C8.Cal P w K mg base 3 "in_order" (sp_in_order K) [])
    (C_shut_room : C8.Cal P w K mg base 1 "shut_room" (sp_shut_room K) []) :
    FnOk P w K mg base CX0 5 f fd ["net", "tally", "question"] (sp_flow_of_least K) := by
  refine F.ok (k := 4) sc_flow_of_least (fun vs H Q E h => ?_) (fun cdv A outer s H vs Q E hr h => ?_)
  · obtain ⟨_, _, _, _, _, _, _, rfl, _⟩ := h
    rfl
  · obtain ⟨n, t, m, R, c, u, qn, rfl, hN, hQ, q⟩ := h
    obtain ⟨r0, ps, h1, h2, h3⟩ := id hN.net
    have two := hN.ok.two
    have hu := hu_of hr
    refine ⟨_, (pss_cons (ps_if (pt_cmpR op_eq (pe_ix ix_tup (pv 2) pe_int (fun _ _ => rfl)) pe_str (nomark _)) (pss_one (ps_ret (C8.pe_c C_greatest_flow hr (by decide) (by rfl) (pa_cons (pv 0) (pa_cons (C8.pe_c C_shut_room hr (by decide) (by rfl) (pa_cons (pv 1) (pa_cons (pe_ix ix_tup (pv 2) pe_int (fun _ _ => rfl)) pa_nil))) (pa_cons (pe_tup (pa_cons pe_int pa_nil)) (pa_cons (pe_tup (pa_cons (pe_op op_sub (pe_ix ix_tup (pv 0) pe_int (fun _ _ => rfl)) pe_int) pa_nil)) (pa_cons (pe_tup pa_nil) pa_nil)))))))) pss_nil)
          (pss_cons (ps_set (i := 3) sc_flow_of_least.nd rfl (Or.inl rfl) (pe_ifExp (pt_cmpR op_eq (pe_ix ix_tup (pv 2) pe_int (fun _ _ => rfl)) pe_str (nomark _)) (C8.pe_c C_in_order hr (by decide) (by rfl) (pa_cons (pv 0) (pa_cons (pv 2) pa_nil))) pe_non))
          (pss_cons (ps_if (pt_cmpR op_isN (pv 3) pe_non (nomark _)) (pss_one (ps_ret pe_non)) pss_nil)
          (pss_one (ps_ret (C8.pe_c C_greatest_flow hr (by decide) (by rfl) (pa_cons (pv 0) (pa_cons (C8.pe_c C_shut_room hr (by decide) (by rfl) (pa_cons (pv 1) (pa_cons (pe_tup (pa_cons (pe_ix ix_tup (pv 3) pe_int (fun _ _ => rfl)) pa_nil)) pa_nil))) (pa_cons (pe_tup (pa_cons pe_int pa_nil)) (pa_cons (pe_tup (pa_cons (pe_ix ix_tup (pe_ix ix_tup (pe_ix ix_tup (pv 0) pe_int (fun _ _ => rfl)) (pe_ix ix_tup (pv 3) pe_int (fun _ _ => rfl)) (fun _ _ => rfl)) pe_int (fun _ _ => rfl)) pa_nil)) (pa_cons (pe_tup pa_nil) pa_nil))))))))))), ?_⟩
    cases qn with
    | along l => exact q.elim
    | touch ns =>
      obtain ⟨s', hu', hs'⟩ := hQ
      refine ⟨.ref u, rfl, u, _, 0, .str "touch", rfl, rfl, st_of hu', rfl, rfl, _, rfl, ?_⟩
      refine itB (fun _ => ?_) (fun hb => absurd hb (by decide +kernel))
      refine ⟨.ref n, rfl, .ref t, rfl, .ref u, rfl, u, _, 1, .ref s', rfl, rfl, st_of hu', rfl, t, c, s', ns, rfl, hN.ht, hs', by have := hN.hc; have := hN.hl; omega, fun a H1 e1 ha => ?_⟩
      refine ⟨by show 1 ≤ sizeLine; decide, fun z1 nz1 => ?_⟩
      have x1 := Evl.Ex.new (o := .tup [.int 0]) nz1
      refine ⟨.ref n, rfl, n, _, 0, .int m, rfl, rfl, st_of (x1 _ _ (e1 _ _ h1)), rfl, m, 1, rfl, rfl, by show 1 ≤ sizeLine; decide, fun z2 nz2 => ?_⟩
      have x2 := Evl.Ex.new (o := .tup [.int (m - 1)]) nz2
      refine ⟨Nat.zero_le _, fun z3 nz3 => ?_⟩
      have x3 := Evl.Ex.new (o := .tup []) nz3
      have e4 := x1.trans (x2.trans x3)
      refine ⟨m, R, shutL c ns, 0, [m - 1], [], ⟨hN.ok, hN.hl, by rw [shutL_len, hN.hc], fun r hr => ?_, ⟨by omega, by omega⟩, fun h hh => by rw [List.mem_singleton.mp hh]; omega, by simp; omega, by simp, ⟨n, a, z1, z2, z3, rfl, hN.net.tk (tk_ex (e1.trans e4)), e4 _ _ ha, x3 _ _ (x2 _ _ upd_same), x3 _ _ upd_same, upd_same⟩⟩, fun p v x y H' e5 hp hF => ?_⟩
      · rw [shutL_cf (by rw [hN.hc]; exact hr)]
        unfold shut
        have := hN.nn r hr
        split <;> omega
      · exact q p v x y H' (e1.trans (e4.trans e5)) hp (hF.congr fun r hr => shutL_cf (by rw [hN.hc]; exact hr))
    | both a b =>
      obtain ⟨ha, hb, q1, q2⟩ := q
      refine ⟨.ref u, rfl, u, _, 0, .str "both", rfl, rfl, st_of hQ, rfl, rfl, _, rfl, ?_⟩
      refine itB (fun hb => absurd hb (by decide +kernel)) (fun _ => ?_)
      refine ⟨.ref u, rfl, u, _, 0, .str "both", rfl, rfl, st_of hQ, rfl, rfl, _, rfl, ?_⟩
      refine itB (fun _ => ?_) (fun hb => absurd hb (by decide +kernel))
      refine ⟨.ref n, rfl, .ref u, rfl, n, m, R, u, .str "both", a, b, rfl, hN.net, hN.ok, by have := hN.hl; omega, hQ, ha, hb, fun o H1 e1 ho hL => ?gA, fun o H1 e1 ho hL => ?gB, fun H1 e1 n1 n2 => ⟨.non, rfl, rfl, _, rfl, itT (q2 n1 n2 H1 e1)⟩⟩
      case' gA => replace ho : ∃ x y : Nat, H1 o = some (.tup [.int (x : Nat), .int (y : Nat)]) ∧ Ord R a b x y := ⟨a, b, ho, hL, .inl ⟨rfl, rfl⟩⟩
      case' gB => replace ho : ∃ x y : Nat, H1 o = some (.tup [.int (x : Nat), .int (y : Nat)]) ∧ Ord R a b x y := ⟨b, a, ho, hL, .inr ⟨rfl, rfl⟩⟩
      all_goals
        obtain ⟨x, y, ho, hord⟩ := ho
        have hxy := hord.lt hN.ok ha hb
        have le := leads_le hN.ok hord.1
        have nx := hN.ok.rd x hxy.1
        have ny := hN.ok.rd y hxy.2
        obtain ⟨v1, ey, b1, rfl, eb1⟩ := h3.get (get_ft hxy.2)
        refine ⟨.ref o, rfl, rfl, _, rfl, itF ?_⟩
        refine ⟨.ref n, rfl, .ref t, rfl, .ref o, rfl, o, _, 0, .int x, rfl, rfl, st_of ho, rfl, by show 1 ≤ sizeLine; decide, fun z0 nz0 => ?_⟩
        have x0 := Evl.Ex.new (o := .tup [.int (x : Nat)]) nz0
        refine ⟨t, c, z0, [x], rfl, x0 _ _ (e1 _ _ hN.ht), upd_same, by have := hN.hc; have := hN.hl; omega, fun a' H2 e2 ha' => ?_⟩
        have e12 := e1.trans (x0.trans e2)
        refine ⟨by show 1 ≤ sizeLine; decide, fun z1 nz1 => ?_⟩
        have x1 := Evl.Ex.new (o := .tup [.int 0]) nz1
        refine ⟨.ref n, rfl, n, _, 1, .ref r0, rfl, rfl, st_of (x1 _ _ (e12 _ _ h1)), rfl, .ref o, rfl, o, _, 1, .int y, rfl, rfl, st_of (x1 _ _ (e2 _ _ (x0 _ _ ho))), rfl, r0, ps, y, .ref b1, rfl, rfl, st_of (x1 _ _ (e12 _ _ h2)), atI_nat ey, b1, _, 0, .int (ft R y), rfl, rfl, st_of (x1 _ _ (e12 _ _ eb1)), rfl, by show 1 ≤ sizeLine; decide, fun z2 nz2 => ?_⟩
        have x2 := Evl.Ex.new (o := .tup [.int (ft R y)]) nz2
        refine ⟨Nat.zero_le _, fun z3 nz3 => ?_⟩
        have x3 := Evl.Ex.new (o := .tup []) nz3
        have e4 := x1.trans (x2.trans x3)
        refine ⟨m, R, shutL c [x], 0, [ft R y], [], ⟨hN.ok, hN.hl, by rw [shutL_len, hN.hc], fun r hr => ?_, ⟨by omega, by omega⟩, fun h hh => by rw [List.mem_singleton.mp hh]; omega, by simp; omega, by simp, ⟨n, a', z1, z2, z3, rfl, hN.net.tk (tk_ex (e12.trans e4)), e4 _ _ ha', x3 _ _ (x2 _ _ upd_same), x3 _ _ upd_same, upd_same⟩⟩, fun p v w z H' e5 hp hF => ?_⟩
        · rw [shutL_cf (by rw [hN.hc]; exact hr)]
          unfold shut
          have := hN.nn r hr
          split <;> omega
        · exact q1 x y p v w z H' hord (e12.trans (e4.trans e5)) hp (hF.congr fun r hr => shutL_cf (by rw [hN.hc]; exact hr))
end K56


namespace K56
open PySem PySem.Spec PyProof.Rows L2 K56R
open Evl (Ex ex_l ex_t sq_of st_of fresh_back sz_of sz_lt)
def sp_flow_of_most (_ : PySem.W.Frag) : Sp := fun vs H Q _ => ∃ n t m R c u q, vs = [.ref n, .ref t, .ref u] ∧ NT H n t m R c ∧ QR H u q ∧
  match q with
  | .along _ => False
  | .touch ns => ∀ p v x y H', Ex H H' → H' p = some (.tup [.int v, x, y]) → FlowSpec R (cf c) 0 [] ns v → Q (.ref p) H'
  | .both a b => a < R.length ∧ b < R.length ∧ (∀ x y p v w z H', Ord R a b x y → hd R x ≠ ft R y → Ex H H' → H' p = some (.tup [.int v, w, z]) → FlowSpec R (cf c) (hd R x) [ft R y] [] v → Q (.ref p) H') ∧
    (∀ x y H', Ord R a b x y → hd R x = ft R y → Ex H H' → Q .non H') ∧ (¬ Leads R a b → ¬ Leads R b a → ∀ H', Ex H H' → Q .non H')
theorem ok_flow_of_most {P : Program} {w : World} {K : PySem.W.Frag} {mg : Str → Option Value} {base : Heap} {f : Addr} {fd : FuncData} (F : L2.Fun K "flow_of_most" "flow_of_most" s_flow_of_most f fd) (B : Bn mg)
    (C_greatest_flow : C8.Cal P w K mg base 4 "greatest_flow" (sp_greatest_flow K) [])
    (C_in_order : C8.Cal P w K mg base 3 "in_order" (sp_in_order K) []) :
    FnOk P w K mg base CX0 5 f fd ["net", "tally", "question"] (sp_flow_of_most K) := by
  refine F.ok (k := 4) sc_flow_of_most (fun vs H Q E h => ?_) (fun cdv A outer s H vs Q E hr h => ?_)
  · obtain ⟨_, _, _, _, _, _, _, rfl, _⟩ := h
    rfl
  · obtain ⟨n, t, m, R, c, u, qn, rfl, hN, hQ, q⟩ := h
    obtain ⟨r0, ps, h1, h2, h3⟩ := id hN.net
    have two := hN.ok.two
    have hu := hu_of hr
    refine ⟨_, (pss_cons (ps_if (pt_cmpR op_eq (pe_ix ix_tup (pv 2) pe_int (fun _ _ => rfl)) pe_str (nomark _)) (pss_one (ps_ret (C8.pe_c C_greatest_flow hr (by decide) (by rfl) (pa_cons (pv 0) (pa_cons (pv 1) (pa_cons (pe_tup (pa_cons pe_int pa_nil)) (pa_cons (pe_tup pa_nil) (pa_cons (pe_ix ix_tup (pv 2) pe_int (fun _ _ => rfl)) pa_nil)))))))) pss_nil)
          (pss_cons (ps_set (i := 3) sc_flow_of_most.nd rfl (Or.inl rfl) (pe_ifExp (pt_cmpR op_eq (pe_ix ix_tup (pv 2) pe_int (fun _ _ => rfl)) pe_str (nomark _)) (C8.pe_c C_in_order hr (by decide) (by rfl) (pa_cons (pv 0) (pa_cons (pv 2) pa_nil))) pe_non))
          (pss_cons (ps_if (PW.pt (pw_or (pt_cmpR op_isN (pv 3) pe_non (nomark _)) (pw_or1 (pt_cmpR op_eq (pe_ix ix_tup (pe_ix ix_tup (pe_ix ix_tup (pv 0) pe_int (fun _ _ => rfl)) (pe_ix ix_tup (pv 3) pe_int (fun _ _ => rfl)) (fun _ _ => rfl)) pe_int (fun _ _ => rfl)) (pe_ix ix_tup (pe_ix ix_tup (pe_ix ix_tup (pv 0) pe_int (fun _ _ => rfl)) (pe_ix ix_tup (pv 3) pe_int (fun _ _ => rfl)) (fun _ _ => rfl)) pe_int (fun _ _ => rfl)) (nomark _))))) (pss_one (ps_ret pe_non)) pss_nil)
          (pss_one (ps_ret (C8.pe_c C_greatest_flow hr (by decide) (by rfl) (pa_cons (pv 0) (pa_cons (pv 1) (pa_cons (pe_tup (pa_cons (pe_ix ix_tup (pe_ix ix_tup (pe_ix ix_tup (pv 0) pe_int (fun _ _ => rfl)) (pe_ix ix_tup (pv 3) pe_int (fun _ _ => rfl)) (fun _ _ => rfl)) pe_int (fun _ _ => rfl)) pa_nil)) (pa_cons (pe_tup (pa_cons (pe_ix ix_tup (pe_ix ix_tup (pe_ix ix_tup (pv 0) pe_int (fun _ _ => rfl)) (pe_ix ix_tup (pv 3) pe_int (fun _ _ => rfl)) (fun _ _ => rfl)) pe_int (fun _ _ => rfl)) pa_nil)) (pa_cons (pe_tup pa_nil) pa_nil))))))))))), ?_⟩
    cases qn with
    | along l => exact q.elim
    | touch ns =>
      obtain ⟨s', hu', hs'⟩ := hQ
      refine ⟨.ref u, rfl, u, _, 0, .str "touch", rfl, rfl, st_of hu', rfl, rfl, _, rfl, ?_⟩
      refine itB (fun _ => ?_) (fun hb => absurd hb (by decide +kernel))
      refine ⟨.ref n, rfl, .ref t, rfl, by show 1 ≤ sizeLine; decide, fun z1 nz1 => ?_⟩
      have x1 := Evl.Ex.new (o := .tup [.int 0]) nz1
      refine ⟨Nat.zero_le _, fun z2 nz2 => ?_⟩
      have x2 := Evl.Ex.new (o := .tup []) nz2
      have e4 := x1.trans x2
      refine ⟨.ref u, rfl, u, _, 1, .ref s', rfl, rfl, st_of (e4 _ _ hu'), rfl, ?_⟩
      refine ⟨m, R, c, 0, [], ns, ⟨hN.ok, hN.hl, hN.hc, hN.nn, ⟨by omega, by omega⟩, by simp, by simp, by simp, ⟨n, t, z1, z2, s', rfl, hN.net.tk (tk_ex e4), e4 _ _ hN.ht, x2 _ _ upd_same, upd_same, e4 _ _ hs'⟩⟩, fun p v x y H' e5 hp hF => ?_⟩
      exact q p v x y H' (e4.trans e5) hp hF
    | both a b =>
      obtain ⟨ha, hb, q1, q2, q3⟩ := q
      refine ⟨.ref u, rfl, u, _, 0, .str "both", rfl, rfl, st_of hQ, rfl, rfl, _, rfl, ?_⟩
      refine itB (fun hb => absurd hb (by decide +kernel)) (fun _ => ?_)
      refine ⟨.ref u, rfl, u, _, 0, .str "both", rfl, rfl, st_of hQ, rfl, rfl, _, rfl, ?_⟩
      refine itB (fun _ => ?_) (fun hb => absurd hb (by decide +kernel))
      refine ⟨.ref n, rfl, .ref u, rfl, n, m, R, u, .str "both", a, b, rfl, hN.net, hN.ok, by have := hN.hl; omega, hQ, ha, hb, fun o H1 e1 ho hL => ?gA, fun o H1 e1 ho hL => ?gB, fun H1 e1 n1 n2 => ⟨.non, rfl, rfl, _, rfl, itT (itT (q3 n1 n2 H1 e1))⟩⟩
      case' gA => replace ho : ∃ x y : Nat, H1 o = some (.tup [.int (x : Nat), .int (y : Nat)]) ∧ Ord R a b x y := ⟨a, b, ho, hL, .inl ⟨rfl, rfl⟩⟩
      case' gB => replace ho : ∃ x y : Nat, H1 o = some (.tup [.int (x : Nat), .int (y : Nat)]) ∧ Ord R a b x y := ⟨b, a, ho, hL, .inr ⟨rfl, rfl⟩⟩
      all_goals
        obtain ⟨x, y, ho, hord⟩ := ho
        have hxy := hord.lt hN.ok ha hb
        have le := leads_le hN.ok hord.1
        have nx := hN.ok.rd x hxy.1
        have ny := hN.ok.rd y hxy.2
        obtain ⟨v1, ey, b1, rfl, eb1⟩ := h3.get (get_ft hxy.2)
        obtain ⟨v2, ex, b2, rfl, eb2⟩ := h3.get (get_ft hxy.1)
        refine ⟨.ref o, rfl, rfl, _, rfl, itF ?_⟩
        refine ⟨.ref n, rfl, n, _, 1, .ref r0, rfl, rfl, st_of (e1 _ _ h1), rfl, .ref o, rfl, o, _, 0, .int x, rfl, rfl, st_of ho, rfl, r0, ps, x, .ref b2, rfl, rfl, st_of (e1 _ _ h2), atI_nat ex, b2, _, 1, .int (hd R x), rfl, rfl, st_of (e1 _ _ eb2), rfl, ?_⟩
        refine ⟨.ref n, rfl, n, _, 1, .ref r0, rfl, rfl, st_of (e1 _ _ h1), rfl, .ref o, rfl, o, _, 1, .int y, rfl, rfl, st_of ho, rfl, r0, ps, y, .ref b1, rfl, rfl, st_of (e1 _ _ h2), atI_nat ey, b1, _, 0, .int (ft R y), rfl, rfl, st_of (e1 _ _ eb1), rfl, ?_⟩
        refine ⟨rfl, _, rfl, itB (fun hb => ?_) (fun hb => ?_)⟩
        · have : hd R x = ft R y := V.int.inj (of_decide_eq_true hb)
          exact q2 x y H1 hord this e1
        · have ne : hd R x ≠ ft R y := fun e => of_decide_eq_false hb (by rw [e])
          refine ⟨.ref n, rfl, .ref t, rfl, ?_⟩
          refine ⟨.ref n, rfl, n, _, 1, .ref r0, rfl, rfl, st_of (e1 _ _ h1), rfl, .ref o, rfl, o, _, 0, .int x, rfl, rfl, st_of ho, rfl, r0, ps, x, .ref b2, rfl, rfl, st_of (e1 _ _ h2), atI_nat ex, b2, _, 1, .int (hd R x), rfl, rfl, st_of (e1 _ _ eb2), rfl, by show 1 ≤ sizeLine; decide, fun z1 nz1 => ?_⟩
          have x1 := Evl.Ex.new (o := .tup [.int (hd R x)]) nz1
          refine ⟨.ref n, rfl, n, _, 1, .ref r0, rfl, rfl, st_of (x1 _ _ (e1 _ _ h1)), rfl, .ref o, rfl, o, _, 1, .int y, rfl, rfl, st_of (x1 _ _ ho), rfl, r0, ps, y, .ref b1, rfl, rfl, st_of (x1 _ _ (e1 _ _ h2)), atI_nat ey, b1, _, 0, .int (ft R y), rfl, rfl, st_of (x1 _ _ (e1 _ _ eb1)), rfl, by show 1 ≤ sizeLine; decide, fun z2 nz2 => ?_⟩
          have x2 := Evl.Ex.new (o := .tup [.int (ft R y)]) nz2
          refine ⟨Nat.zero_le _, fun z3 nz3 => ?_⟩
          have x3 := Evl.Ex.new (o := .tup []) nz3
          have e4 := e1.trans (x1.trans (x2.trans x3))
          refine ⟨m, R, c, hd R x, [ft R y], [], ⟨hN.ok, hN.hl, hN.hc, hN.nn, ⟨by omega, by omega⟩, fun h hh => by rw [List.mem_singleton.mp hh]; omega, by simp; omega, by simp, ⟨n, t, z1, z2, z3, rfl, hN.net.tk (tk_ex e4), e4 _ _ hN.ht, x3 _ _ (x2 _ _ upd_same), x3 _ _ upd_same, upd_same⟩⟩, fun p v w z H' e5 hp hF => ?_⟩
          exact q1 x y p v w z H' hord ne (e4.trans e5) hp hF
/-! ### least, most -/
theorem fAll_swap (a b : Nat) : fAll [a, b] = fAll [b, a] := by
  funext t
  unfold fAll
  simp only [List.all_cons, List.all_nil, Bool.and_true]
  rw [Bool.and_comm]
theorem Ord.f {R : Arcs} {a b x y : Nat} (h : Ord R a b x y) : fAll [a, b] = fAll [x, y] := by
  rcases h.2 with ⟨rfl, rfl⟩ | ⟨rfl, rfl⟩
  · rfl
  · exact fAll_swap _ _
def sp_least (_ : PySem.W.Frag) : Sp := fun vs H Q _ => ∃ n t m R c u q, vs = [.ref n, .ref t, .ref u] ∧ NT H n t m R c ∧ QR H u q ∧ QOk R q ∧ ∀ k H', Ex H H' → IsLo m R (cf c) (qf q) k → Q (.int k) H'
theorem ok_least {P : Program} {w : World} {K : PySem.W.Frag} {mg : Str → Option Value} {base : Heap} {f : Addr} {fd : FuncData} (F : L2.Fun K "least" "least" s_least f fd) (B : Bn mg)
    (C_in_order : C8.Cal P w K mg base 3 "in_order" (sp_in_order K) [])
    (C_least_along : C8.Cal P w K mg base 4 "least_along" (sp_least_along K) [])
    (C_total : C8.Cal P w K mg base 3 "total" (sp_total K) [])
    (C_flow_of_least : C8.Cal P w K mg base 5 "flow_of_least" (sp_flow_of_least K) []) :
    FnOk P w K mg base CX0 6 f fd ["net", "tally", "question"] (sp_least K) := by
  refine F.ok (k := 5) sc_least (fun vs H Q E h => ?_) (fun cdv A outer s H vs Q E hr h => ?_)
  · obtain ⟨_, _, _, _, _, _, _, rfl, _⟩ := h
    rfl
  · obtain ⟨n, t, m, R, c, u, qn, rfl, hN, hQ, hO, q⟩ := h
    obtain ⟨X0, hX0⟩ := hN.ex
    have hu := hu_of hr
    refine ⟨_, (pss_cons (ps_if (pt_cmpR op_eq (pe_ix ix_tup (pv 2) pe_int (fun _ _ => rfl)) pe_str (nomark _)) (pss_one (ps_ret (C8.pe_c C_least_along hr (by decide) (by rfl) (pa_cons (pv 0) (pa_cons (pv 1) (pa_cons (pe_ix ix_tup (pv 2) pe_int (fun _ _ => rfl)) pa_nil)))))) pss_nil)
          (pss_cons (ps_if (pt_cmpR op_eq (pe_ix ix_tup (pv 2) pe_int (fun _ _ => rfl)) pe_str (nomark _)) (pss_one (ps_ret (pe_op op_sub (C8.pe_c C_total hr (by decide) (by rfl) (pa_cons (pv 0) (pa_cons (pv 1) pa_nil))) (pe_ix ix_tup (C8.pe_c C_flow_of_least hr (by decide) (by rfl) (pa_cons (pv 0) (pa_cons (pv 1) (pa_cons (pv 2) pa_nil)))) pe_int (fun _ _ => rfl))))) pss_nil)
          (pss_cons (ps_if (pt_cmpR op_eq (pe_ix ix_tup (pv 2) pe_int (fun _ _ => rfl)) (pe_ix ix_tup (pv 2) pe_int (fun _ _ => rfl)) (nomark _)) (pss_one (ps_ret (pe_ix ix_tup (pv 1) (pe_ix ix_tup (pv 2) pe_int (fun _ _ => rfl)) (fun _ _ => rfl)))) pss_nil)
          (pss_cons (ps_set (i := 3) sc_least.nd rfl (Or.inl rfl) (C8.pe_c C_in_order hr (by decide) (by rfl) (pa_cons (pv 0) (pa_cons (pv 2) pa_nil))))
          (pss_one (ps_ret (pe_ifExp (pt_cmpR op_isN (pv 3) pe_non (nomark _)) pe_int (pe_callB (call_max2 rfl) (by rfl) B.max (by decide +kernel) (pa_cons pe_int (pa_cons (pe_op op_sub (pe_ix ix_tup (pv 1) (pe_ix ix_tup (pv 3) pe_int (fun _ _ => rfl)) (fun _ _ => rfl)) (pe_ix ix_tup (C8.pe_c C_flow_of_least hr (by decide) (by rfl) (pa_cons (pv 0) (pa_cons (pv 1) (pa_cons (pv 2) pa_nil)))) pe_int (fun _ _ => rfl))) pa_nil)))))))))), ?_⟩
    cases qn with
    | along l =>
      obtain ⟨s', hu', hs'⟩ := hQ
      obtain ⟨x, l', rfl, hl', a, b, hp⟩ := hO
      refine ⟨.ref u, rfl, u, _, 0, .str "along", rfl, rfl, st_of hu', rfl, rfl, _, rfl, ?_⟩
      refine itB (fun _ => ?_) (fun hb => absurd hb (by decide +kernel))
      refine ⟨.ref n, rfl, .ref t, rfl, .ref u, rfl, u, _, 1, .ref s', rfl, rfl, st_of hu', rfl, ?_⟩
      exact ⟨n, m, R, t, c, s', x, l', rfl, hN.net, hN.ok, by have := hN.hl; omega, hN.ht, hN.hc, hs', hl', ⟨a, b, hp⟩, fun H' e => q _ H' e (along_isLo hN.ok hX0 hp)⟩
    | touch ns =>
      obtain ⟨s', hu', hs'⟩ := id hQ
      refine ⟨.ref u, rfl, u, _, 0, .str "touch", rfl, rfl, st_of hu', rfl, rfl, _, rfl, ?_⟩
      refine itB (fun hb => absurd hb (by decide +kernel)) (fun _ => ?_)
      refine ⟨.ref u, rfl, u, _, 0, .str "touch", rfl, rfl, st_of hu', rfl, rfl, _, rfl, ?_⟩
      refine itB (fun _ => ?_) (fun hb => absurd hb (by decide +kernel))
      refine ⟨.ref n, rfl, .ref t, rfl, n, m, R, t, c, rfl, hN.net, by have := hN.hl; omega, hN.ht, hN.hc, fun H1 e1 => ?_⟩
      refine ⟨.ref n, rfl, .ref t, rfl, .ref u, rfl, n, t, m, R, c, u, .touch ns, rfl, hN.tk (tk_ex e1), hQ.tk (tk_ex e1), fun p v x y H' e2 hp hF => ?_⟩
      exact ⟨p, _, 0, .int v, rfl, rfl, st_of hp, rfl, _, _, rfl, rfl, q _ H' (e1.trans e2) (touch_lo hN.ok hX0 hF)⟩
    | both a b =>
      obtain ⟨ha, hb⟩ := hO
      refine ⟨.ref u, rfl, u, _, 0, .str "both", rfl, rfl, st_of hQ, rfl, rfl, _, rfl, ?_⟩
      refine itB (fun hb => absurd hb (by decide +kernel)) (fun _ => ?_)
      refine ⟨.ref u, rfl, u, _, 0, .str "both", rfl, rfl, st_of hQ, rfl, rfl, _, rfl, ?_⟩
      refine itB (fun hb => absurd hb (by decide +kernel)) (fun _ => ?_)
      refine ⟨.ref u, rfl, u, _, 1, .int a, rfl, rfl, st_of hQ, rfl, .ref u, rfl, u, _, 2, .int b, rfl, rfl, st_of hQ, rfl, rfl, _, rfl, ?_⟩
      refine itB (fun hab => ?_) (fun hab => ?_)
      · have e : a = b := by
          have : ((a : Nat) : Int) = b := V.int.inj (of_decide_eq_true hab)
          omega
        subst e
        refine ⟨.ref t, rfl, .ref u, rfl, u, _, 1, .int a, rfl, rfl, st_of hQ, rfl, t, _, a, _, rfl, rfl, st_of hN.ht, atI_nat (vi_get (by rw [hN.hc]; exact ha)), q _ H (Evl.Ex.refl _) ?_⟩
        exact ⟨fun X hX => Int.le_of_eq (both_same hN.ok hX ha).symm, X0, hX0, both_same hN.ok hX0 ha⟩
      · have hne : a ≠ b := fun e => of_decide_eq_false hab (by rw [e])
        refine ⟨.ref n, rfl, .ref u, rfl, n, m, R, u, .str "both", a, b, rfl, hN.net, hN.ok, by have := hN.hl; omega, hQ, ha, hb, fun o H1 e1 ho hL => ?gA, fun o H1 e1 ho hL => ?gB, fun H1 e1 n1 n2 => ⟨.non, rfl, rfl, _, rfl, itT (q _ H1 e1 ?gC)⟩⟩
        case gC => exact ⟨fun X hX => Int.le_of_eq (both_none hN.ok hX ha hb hne n1 n2).symm, X0, hX0, both_none hN.ok hX0 ha hb hne n1 n2⟩
        case' gA => replace ho : ∃ x y : Nat, H1 o = some (.tup [.int (x : Nat), .int (y : Nat)]) ∧ Ord R a b x y := ⟨a, b, ho, hL, .inl ⟨rfl, rfl⟩⟩
        case' gB => replace ho : ∃ x y : Nat, H1 o = some (.tup [.int (x : Nat), .int (y : Nat)]) ∧ Ord R a b x y := ⟨b, a, ho, hL, .inr ⟨rfl, rfl⟩⟩
        all_goals
          obtain ⟨x, y, ho, hord⟩ := ho
          have hxy := hord.lt hN.ok ha hb
          refine ⟨.ref o, rfl, rfl, _, rfl, itF ?_⟩
          refine ⟨.ref t, rfl, .ref o, rfl, o, _, 1, .int y, rfl, rfl, st_of ho, rfl, t, _, y, _, rfl, rfl, st_of (e1 _ _ hN.ht), atI_nat (vi_get (by rw [hN.hc]; exact hxy.2)), ?_⟩
          refine ⟨.ref n, rfl, .ref t, rfl, .ref u, rfl, n, t, m, R, c, u, .both a b, rfl, hN.tk (tk_ex e1), hQ.tk (tk_ex e1), ha, hb, fun x' y' p v w z H' hord' e2 hp hF => ?_, fun n1 n2 => ?_⟩
          · obtain ⟨rfl, rfl⟩ := hord.one hN.ok ha hb hord'
            refine ⟨p, _, 0, .int v, rfl, rfl, st_of hp, rfl, _, _, rfl, rfl, _, _, rfl, ?_⟩
            have lo := both_lo hN.ok hX0 hxy.1 hxy.2 (leads_le hN.ok hord.1) hF
            rw [← hord.f] at lo
            have := q _ H' (e1.trans e2) lo
            rw [show max 0 (cf c y - v) = if cf c y - v > 0 then cf c y - v else 0 by split <;> omega] at this
            exact this
          · rcases hord with ⟨h1, ⟨rfl, rfl⟩ | ⟨rfl, rfl⟩⟩
            · exact absurd h1 n1
            · exact absurd h1 n2
def sp_most (_ : PySem.W.Frag) : Sp := fun vs H Q _ => ∃ n t m R c u q, vs = [.ref n, .ref t, .ref u] ∧ NT H n t m R c ∧ QR H u q ∧ QOk R q ∧ ∀ k H', Ex H H' → IsHi m R (cf c) (qf q) k → Q (.int k) H'
theorem ok_most {P : Program} {w : World} {K : PySem.W.Frag} {mg : Str → Option Value} {base : Heap} {f : Addr} {fd : FuncData} (F : L2.Fun K "most" "most" s_most f fd) (B : Bn mg)
    (C_most_along : C8.Cal P w K mg base 1 "most_along" (sp_most_along K) [])
    (C_in_order : C8.Cal P w K mg base 3 "in_order" (sp_in_order K) [])
    (C_flow_of_most : C8.Cal P w K mg base 5 "flow_of_most" (sp_flow_of_most K) []) :
    FnOk P w K mg base CX0 6 f fd ["net", "tally", "question"] (sp_most K) := by
  refine F.ok (k := 5) sc_most (fun vs H Q E h => ?_) (fun cdv A outer s H vs Q E hr h => ?_)
  · obtain ⟨_, _, _, _, _, _, _, rfl, _⟩ := h
    rfl
  · obtain ⟨n, t, m, R, c, u, qn, rfl, hN, hQ, hO, q⟩ := h
    obtain ⟨X0, hX0⟩ := hN.ex
    have hu := hu_of hr
    refine ⟨_, (pss_cons (ps_if (pt_cmpR op_eq (pe_ix ix_tup (pv 2) pe_int (fun _ _ => rfl)) pe_str (nomark _)) (pss_one (ps_ret (C8.pe_c C_most_along hr (by decide) (by rfl) (pa_cons (pv 0) (pa_cons (pv 1) (pa_cons (pe_ix ix_tup (pv 2) pe_int (fun _ _ => rfl)) pa_nil)))))) pss_nil)
          (pss_cons (ps_if (pt_cmpR op_eq (pe_ix ix_tup (pv 2) pe_int (fun _ _ => rfl)) pe_str (nomark _)) (pss_one (ps_ret (pe_ix ix_tup (C8.pe_c C_flow_of_most hr (by decide) (by rfl) (pa_cons (pv 0) (pa_cons (pv 1) (pa_cons (pv 2) pa_nil)))) pe_int (fun _ _ => rfl)))) pss_nil)
          (pss_cons (ps_if (pt_cmpR op_eq (pe_ix ix_tup (pv 2) pe_int (fun _ _ => rfl)) (pe_ix ix_tup (pv 2) pe_int (fun _ _ => rfl)) (nomark _)) (pss_one (ps_ret (pe_ix ix_tup (pv 1) (pe_ix ix_tup (pv 2) pe_int (fun _ _ => rfl)) (fun _ _ => rfl)))) pss_nil)
          (pss_cons (ps_par (i := 3) (j := 4) (by rfl) sc_most.nd rfl rfl (by decide) rfl rfl (pa_cons (C8.pe_c C_in_order hr (by decide) (by rfl) (pa_cons (pv 0) (pa_cons (pv 2) pa_nil))) (pa_cons (C8.pe_c C_flow_of_most hr (by decide) (by rfl) (pa_cons (pv 0) (pa_cons (pv 1) (pa_cons (pv 2) pa_nil)))) pa_nil)) (by rfl))
          (pss_cons (ps_if (pt_cmpR op_isN (pv 3) pe_non (nomark _)) (pss_one (ps_ret pe_int)) pss_nil)
          (pss_cons (ps_set (i := 5) sc_most.nd rfl (Or.inl rfl) (pe_lst (pa_cons (pe_ix ix_tup (pv 1) (pe_ix ix_tup (pv 3) pe_int (fun _ _ => rfl)) (fun _ _ => rfl)) (pa_cons (pe_ix ix_tup (pv 1) (pe_ix ix_tup (pv 3) pe_int (fun _ _ => rfl)) (fun _ _ => rfl)) pa_nil))))
          (pss_one (ps_ret (pe_callB (cr_min rfl) (by rfl) B.min (by decide +kernel) (pa_cons (pe_ifExp (pt_cmpR op_isN (pv 4) pe_non (nomark _)) (pv 5) (pe_lst (StX.pa_star (pv 5) (pa_cons (pe_ix ix_tup (pv 4) pe_int (fun _ _ => rfl)) pa_nil)))) pa_nil)))))))))), ?_⟩
    cases qn with
    | along l =>
      obtain ⟨s', hu', hs'⟩ := hQ
      obtain ⟨x, l', rfl, hl', a, b, hp⟩ := hO
      have hm : ∀ r ∈ x :: l', r < R.length := fun r hr => (path_mem hN.ok.up hp hr).1
      refine ⟨.ref u, rfl, u, _, 0, .str "along", rfl, rfl, st_of hu', rfl, rfl, _, rfl, ?_⟩
      refine itB (fun _ => ?_) (fun hb => absurd hb (by decide +kernel))
      refine ⟨.ref n, rfl, .ref t, rfl, .ref u, rfl, u, _, 1, .ref s', rfl, rfl, st_of hu', rfl, ?_⟩
      exact ⟨n, t, c, s', x :: l', rfl, hN.ht, hs', by simp; omega, by simp, fun r hr => by rw [hN.hc]; exact hm r hr, fun k H' e h1 h2 => q k H' e (all_hi_stretch hN.ok hX0 List.mem_cons_self hp h2 (by
        obtain ⟨r, hr, e⟩ := h1
        rw [e]; exact hN.nn r (hm r hr)) h1)⟩
    | touch ns =>
      obtain ⟨s', hu', hs'⟩ := id hQ
      refine ⟨.ref u, rfl, u, _, 0, .str "touch", rfl, rfl, st_of hu', rfl, rfl, _, rfl, ?_⟩
      refine itB (fun hb => absurd hb (by decide +kernel)) (fun _ => ?_)
      refine ⟨.ref u, rfl, u, _, 0, .str "touch", rfl, rfl, st_of hu', rfl, rfl, _, rfl, ?_⟩
      refine itB (fun _ => ?_) (fun hb => absurd hb (by decide +kernel))
      refine ⟨.ref n, rfl, .ref t, rfl, .ref u, rfl, n, t, m, R, c, u, .touch ns, rfl, hN, hQ, fun p v x y H' e2 hp hF => ?_⟩
      exact ⟨p, _, 0, .int v, rfl, rfl, st_of hp, rfl, q _ H' e2 (touch_hi hN.ok hX0 hF)⟩
    | both a b =>
      obtain ⟨ha, hb⟩ := hO
      refine ⟨.ref u, rfl, u, _, 0, .str "both", rfl, rfl, st_of hQ, rfl, rfl, _, rfl, ?_⟩
      refine itB (fun hb => absurd hb (by decide +kernel)) (fun _ => ?_)
      refine ⟨.ref u, rfl, u, _, 0, .str "both", rfl, rfl, st_of hQ, rfl, rfl, _, rfl, ?_⟩
      refine itB (fun hb => absurd hb (by decide +kernel)) (fun _ => ?_)
      refine ⟨.ref u, rfl, u, _, 1, .int a, rfl, rfl, st_of hQ, rfl, .ref u, rfl, u, _, 2, .int b, rfl, rfl, st_of hQ, rfl, rfl, _, rfl, ?_⟩
      refine itB (fun hab => ?_) (fun hab => ?_)
      · have e : a = b := by
          have : ((a : Nat) : Int) = b := V.int.inj (of_decide_eq_true hab)
          omega
        subst e
        refine ⟨.ref t, rfl, .ref u, rfl, u, _, 1, .int a, rfl, rfl, st_of hQ, rfl, t, _, a, _, rfl, rfl, st_of hN.ht, atI_nat (vi_get (by rw [hN.hc]; exact ha)), q _ H (Evl.Ex.refl _) ?_⟩
        exact ⟨fun X hX => Int.le_of_eq (both_same hN.ok hX ha), X0, hX0, both_same hN.ok hX0 ha⟩
      · have hne : a ≠ b := fun e => of_decide_eq_false hab (by rw [e])
        refine ⟨.ref n, rfl, .ref u, rfl, n, m, R, u, .str "both", a, b, rfl, hN.net, hN.ok, by have := hN.hl; omega, hQ, ha, hb, fun o H1 e1 ho hL => ?gA, fun o H1 e1 ho hL => ?gB, fun H1 e1 n1 n2 => ?gC⟩
        case gC =>
          refine ⟨.ref n, rfl, .ref t, rfl, .ref u, rfl, n, t, m, R, c, u, .both a b, rfl, hN.tk (tk_ex e1), hQ.tk (tk_ex e1), ha, hb, fun x' y' p v w z H' hord' ne e2 hp hF => ?_, fun x' y' H' hord' ne e2 => ?_, fun _ _ H' e2 => ⟨_, _, rfl, .non, rfl, rfl, _, rfl, itT (q _ H' (e1.trans e2) ⟨fun X hX => Int.le_of_eq (both_none hN.ok hX ha hb hne n1 n2), X0, hX0, both_none hN.ok hX0 ha hb hne n1 n2⟩)⟩⟩
          · rcases hord' with ⟨h1, ⟨rfl, rfl⟩ | ⟨rfl, rfl⟩⟩
            · exact absurd h1 n1
            · exact absurd h1 n2
          · rcases hord' with ⟨h1, ⟨rfl, rfl⟩ | ⟨rfl, rfl⟩⟩
            · exact absurd h1 n1
            · exact absurd h1 n2
        case' gA => replace ho : ∃ x y : Nat, H1 o = some (.tup [.int (x : Nat), .int (y : Nat)]) ∧ Ord R a b x y := ⟨a, b, ho, hL, .inl ⟨rfl, rfl⟩⟩
        case' gB => replace ho : ∃ x y : Nat, H1 o = some (.tup [.int (x : Nat), .int (y : Nat)]) ∧ Ord R a b x y := ⟨b, a, ho, hL, .inr ⟨rfl, rfl⟩⟩
        all_goals
          obtain ⟨x, y, ho, hord⟩ := ho
          have hxy := hord.lt hN.ok ha hb
          have hcx : x < c.length := by rw [hN.hc]; exact hxy.1
          have hcy : y < c.length := by rw [hN.hc]; exact hxy.2
          refine ⟨.ref n, rfl, .ref t, rfl, .ref u, rfl, n, t, m, R, c, u, .both a b, rfl, hN.tk (tk_ex e1), hQ.tk (tk_ex e1), ha, hb, fun x' y' p v w z H' hord' ne e2 hp hF => ?_, fun x' y' H' hord' ne e2 => ?_, fun n1 n2 => ?_⟩
          · obtain ⟨rfl, rfl⟩ := hord.one hN.ok ha hb hord'
            have e12 := e1.trans e2
            refine ⟨_, _, rfl, .ref o, rfl, rfl, _, rfl, itF ?_⟩
            refine ⟨.ref t, rfl, .ref o, rfl, o, _, 0, .int x, rfl, rfl, st_of (e2 _ _ ho), rfl, t, _, x, _, rfl, rfl, st_of (e12 _ _ hN.ht), atI_nat (vi_get hcx), ?_⟩
            refine ⟨.ref t, rfl, .ref o, rfl, o, _, 1, .int y, rfl, rfl, st_of (e2 _ _ ho), rfl, t, _, y, _, rfl, rfl, st_of (e12 _ _ hN.ht), atI_nat (vi_get hcy), by show 2 ≤ sizeLine; decide, fun z1 nz1 => ?_⟩
            have x1 := Evl.Ex.new (o := .lst [.int (cf c x), .int (cf c y)]) nz1
            refine ⟨.ref p, rfl, rfl, _, rfl, itF ?_⟩
            refine ⟨.ref z1, rfl, z1, _, rfl, .inr (sq_of upd_same), .ref p, rfl, p, _, 0, .int v, rfl, rfl, st_of (x1 _ _ hp), rfl, by show 3 ≤ sizeLine; decide, fun z2 nz2 => ?_⟩
            have x2 := Evl.Ex.new (o := .lst ([.int (cf c x), .int (cf c y)] ++ [.int v])) nz2
            refine ⟨z2, [cf c x, cf c y, v], rfl, sq_of upd_same, by simp, fun k hk1 hk2 => ?_⟩
            have hi := both_hi_flow hN.ok hX0 hxy.1 hxy.2 (leads_le hN.ok hord.1) hF
            rw [← hord.f] at hi
            have a1 := hk2 (cf c x) (by simp)
            have a2 := hk2 (cf c y) (by simp)
            have a3 := hk2 v (by simp)
            have a4 : k = cf c x ∨ k = cf c y ∨ k = v := by simpa using hk1
            have ek : k = min (min (cf c x) (cf c y)) v := by omega
            rw [ek]
            exact q _ _ (e12.trans (x1.trans x2)) hi
          · obtain ⟨rfl, rfl⟩ := hord.one hN.ok ha hb hord'
            have e12 := e1.trans e2
            refine ⟨_, _, rfl, .ref o, rfl, rfl, _, rfl, itF ?_⟩
            refine ⟨.ref t, rfl, .ref o, rfl, o, _, 0, .int x, rfl, rfl, st_of (e2 _ _ ho), rfl, t, _, x, _, rfl, rfl, st_of (e12 _ _ hN.ht), atI_nat (vi_get hcx), ?_⟩
            refine ⟨.ref t, rfl, .ref o, rfl, o, _, 1, .int y, rfl, rfl, st_of (e2 _ _ ho), rfl, t, _, y, _, rfl, rfl, st_of (e12 _ _ hN.ht), atI_nat (vi_get hcy), by show 2 ≤ sizeLine; decide, fun z1 nz1 => ?_⟩
            have x1 := Evl.Ex.new (o := .lst [.int (cf c x), .int (cf c y)]) nz1
            refine ⟨.non, rfl, rfl, _, rfl, itT ?_⟩
            refine ⟨.ref z1, rfl, z1, [cf c x, cf c y], rfl, sq_of upd_same, by simp, fun k hk1 hk2 => ?_⟩
            have hi := both_hi_next hN.ok hX0 hxy.1 hxy.2 ne
            rw [← hord.f] at hi
            have a1 := hk2 (cf c x) (by simp)
            have a2 := hk2 (cf c y) (by simp)
            have a4 : k = cf c x ∨ k = cf c y := by simpa using hk1
            have ek : k = min (cf c x) (cf c y) := by omega
            rw [ek]
            exact q _ _ (e12.trans x1) hi
          · rcases hord with ⟨h1, ⟨rfl, rfl⟩ | ⟨rfl, rfl⟩⟩
            · exact absurd h1 n1
            · exact absurd h1 n2
end K56


namespace K56
open PySem PySem.Spec PyProof.Rows L2 K56R
open Evl (Ex ex_l ex_t sq_of st_of fresh_back sz_of sz_lt)
/-! ### the deck -/
def deckK (g : Addr) (mx tn : Int) : List (Key × V) := [(.inr "great", .ref g), (.inr "mixed", .int mx), (.inr "turns", .int tn)]
structure Deck (H : Hp) (dk g : Addr) : Prop where
  at_ : ∃ gs mx tn, H dk = some (.dK (deckK g mx tn)) ∧ H g = some (.lst (vi gs)) ∧ gs.length ≤ 63 ∧ 0 ≤ mx ∧ mx < 4294967291
theorem deck_great {g : Addr} {mx tn : Int} : valV (deckK g mx tn) (.inr "great") = some (.ref g) := by rfl
theorem deck_mixed {g : Addr} {mx tn : Int} : valV (deckK g mx tn) (.inr "mixed") = some (.int mx) := by rfl
theorem deck_turns {g : Addr} {mx tn : Int} : valV (deckK g mx tn) (.inr "turns") = some (.int tn) := by rfl
theorem put_mixed {g : Addr} {mx tn v : Int} : putK (deckK g mx tn) (.inr "mixed") (.int v) = deckK g v tn := by rfl
theorem put_turns {g : Addr} {mx tn v : Int} : putK (deckK g mx tn) (.inr "turns") (.int v) = deckK g mx v := by rfl
theorem get_great {H : Hp} {dk g : Addr} {mx tn : Int} (h : H dk = some (.dK (deckK g mx tn))) : DGet H dk (.str "great") (some (.ref g)) := by
  rw [← deck_great (g := g) (mx := mx) (tn := tn)]; exact DGet.k (k := .inr "great") h
theorem get_mixed {H : Hp} {dk g : Addr} {mx tn : Int} (h : H dk = some (.dK (deckK g mx tn))) : DGet H dk (.str "mixed") (some (.int mx)) := by
  rw [← deck_mixed (g := g) (mx := mx) (tn := tn)]; exact DGet.k (k := .inr "mixed") h
theorem get_turns {H : Hp} {dk g : Addr} {mx tn : Int} (h : H dk = some (.dK (deckK g mx tn))) : DGet H dk (.str "turns") (some (.int tn)) := by
  rw [← deck_turns (g := g) (mx := mx) (tn := tn)]; exact DGet.k (k := .inr "turns") h
theorem dput_mixed {H : Hp} {dk g : Addr} {mx tn v : Int} (h : H dk = some (.dK (deckK g mx tn))) : DPut H dk (.str "mixed") (.int v) (upd H dk (.dK (deckK g v tn))) := by
  rw [← put_mixed (mx := mx)]; exact DPut.k (k := .inr "mixed") h (by show 3 < sizeLine; decide)
theorem dput_turns {H : Hp} {dk g : Addr} {mx tn v : Int} (h : H dk = some (.dK (deckK g mx tn))) : DPut H dk (.str "turns") (.int v) (upd H dk (.dK (deckK g mx v))) := by
  rw [← put_turns (tn := tn)]; exact DPut.k (k := .inr "turns") h (by show 3 < sizeLine; decide)
theorem Deck.ne {H : Hp} {dk g : Addr} (h : Deck H dk g) : dk ≠ g := fun e => by
  obtain ⟨gs, mx, tn, a, b, _⟩ := h.at_
  rw [e, b] at a; cases a
theorem Deck.ex {H H' : Hp} {dk g : Addr} (h : Deck H dk g) (e : Ex H H') : Deck H' dk g := by
  obtain ⟨gs, mx, tn, a, b, c⟩ := h.at_
  exact ⟨gs, mx, tn, e _ _ a, e _ _ b, c⟩
theorem Deck.tk {H H' : Hp} {dk g : Addr} (h : Deck H dk g) (e : Mo [dk, g] H H') : Tk H H' := fun a xs ha => by
  obtain ⟨gs, mx, tn, h1, h2, _⟩ := h.at_
  refine e a _ (fun m => ?_) ha
  rcases List.mem_cons.mp m with rfl | m
  · rw [h1] at ha; cases ha
  · rw [List.mem_singleton.mp m, h2] at ha; cases ha
/-- what is fresh stands apart from the deck -/
theorem Deck.apart {H : Hp} {dk g p : Addr} (h : Deck H dk g) (n : H p = none) : p ∉ [dk, g] := fun m => by
  obtain ⟨gs, mx, tn, h1, h2, _⟩ := h.at_
  rcases List.mem_cons.mp m with rfl | m
  · rw [h1] at n; cases n
  · rw [List.mem_singleton.mp m, h2] at n; cases n
/-- a change beside the deck -/
theorem Deck.beside {H : Hp} {dk g p : Addr} {o : HO} (h : Deck H dk g) (n : p ∉ [dk, g]) : Deck (upd H p o) dk g := by
  obtain ⟨gs, mx, tn, a, b, c⟩ := h.at_
  refine ⟨gs, mx, tn, ?_, ?_, c⟩
  · rw [upd_ne (fun e => n (by rw [← e]; simp))]; exact a
  · rw [upd_ne (fun e => n (by rw [← e]; simp))]; exact b
def sp_law_deck (K : PySem.W.Frag) : Sp := fun vs H Q _ => ∃ a ns, vs = [.ref a] ∧ SqL K H a (vi ns) ∧ ns.length ≤ 63 ∧ ∀ dk g H', Ex H H' → Deck H' dk g → Q (.ref dk) H'
theorem ok_law_deck {P : Program} {w : World} {K : PySem.W.Frag} {mg : Str → Option Value} {base : Heap} {f : Addr} {fd : FuncData} (F : L2.Fun K "_law_deck" "_law_deck" s_law_deck f fd) (B : Bn mg) :
    FnOk P w K mg base CX0 1 f fd ["_law_script"] (sp_law_deck K) := by
  refine F.ok (k := 0) sc_law_deck (fun vs H Q E h => ?_) (fun cdv A outer s H vs Q E hr h => ?_)
  · obtain ⟨_, _, rfl, _⟩ := h
    rfl
  · obtain ⟨a, ns, rfl, ha, hl, q⟩ := h
    have hu := hu_of hr
    refine ⟨_, (pss_cons (ps_set (i := 1) sc_law_deck.nd rfl (Or.inl rfl) (pe_disp (pps_cons pe_str (pe_lst pa_nil) (pps_cons pe_str (pe_op op_add pe_int (pe_callB call_len_seq (by rfl) B.len PySem.boot_len (pa_cons (pe_slice sl_list (pv 0) po_none (po_some pe_int)) pa_nil))) (pps_cons pe_str pe_int pps_nil))) (by rfl) (by rfl) (fun z => by cases z) (by decide)))
          (pss_cons (ps_for PassesOwn.never rfl (pi_list (pe_slice sl_list (pv 0) po_none (po_some pe_int))) (pg_name (i := 2) sc_law_deck.nd rfl (Or.inl rfl)) (pss_cons (ps_set (i := 3) sc_law_deck.nd rfl (Or.inl rfl) (pe_op op_add (pe_op op_mul pe_int (pe_callB call_abs (by rfl) B.abs (by decide +kernel) (pa_cons (pv 2) pa_nil))) (pe_callTy call_int1 (by rfl) B.int (by decide +kernel) (pa_cons (pe_cmpR op_lt (pv 2) pe_int (nomark _)) pa_nil))))
          (pss_cons (ps_if (pt_cmpR op_ge (pv 3) (pe_op op_pow pe_int pe_int) (nomark _)) (pss_one (ps_expr (pe_bm PySem.F.plainAttrs_list PySem.F.slot_list_append PySem.F.type_list_append mt_append (pe_dget hu (pv 1) pe_str (fun _ _ => rfl)) (pa_cons (pv 3) pa_nil)))) pss_nil)
          (pss_one (ps_dput hu (pv 1) pe_str (pe_op op_mod (pe_callTy call_int1 (by rfl) B.int (by decide +kernel) (pa_cons (pe_op op_add (pe_op op_add (pe_op op_mul (pe_dget hu (pv 1) pe_str (fun _ _ => rfl)) pe_int) (pv 3)) pe_int) pa_nil)) pe_int) rfl)))))
          (pss_one (ps_ret (pv 1))))), ?_⟩
    refine fun dk nd => ⟨Nat.zero_le _, fun g ng => ?_⟩
    have x0 := Evl.Ex.new (o := .dK []) nd
    have x1 := Evl.Ex.new (o := .lst []) ng
    have ndg : dk ≠ g := ne_of_none upd_same ng
    have ng0 : H g = none := fresh_back x0 ng
    refine ⟨.ref a, rfl, 63, rfl, a, vi ns, rfl, ex_l (x0.trans x1) ha, fun s1 ns1 => ⟨s1, _, rfl, .inl (sq_of upd_same), _, _, rfl, rfl, ?_⟩⟩
    have x2 := Evl.Ex.new (o := .lst (cutV (vi ns) none (some 63))) ns1
    have cl : (cutV (vi ns) none (some 63)).length ≤ 63 := Nat.le_trans (cutV_length _ _ _) (by simpa [vi] using hl)
    refine ⟨(x1.trans x2) _ _ upd_same, deckK g (7817 + ((cutV (vi ns) none (some 63)).length : Int)) 0, rfl, by show 3 ≤ 15; decide, ?_⟩
    rw [show mergeK [] (deckK g (7817 + ((cutV (vi ns) none (some 63)).length : Int)) 0) = deckK g (7817 + ((cutV (vi ns) none (some 63)).length : Int)) 0 from rfl]
    have ed : Ex H (upd (upd (upd (upd H dk (.dK [])) g (.lst [])) s1 (.lst (cutV (vi ns) none (some 63)))) dk (.dK (deckK g (7817 + ((cutV (vi ns) none (some 63)).length : Int)) 0))) := upd_ex (x0.trans (x1.trans x2)) nd
    have hdk := upd_same (H := upd (upd (upd H dk (.dK [])) g (.lst [])) s1 (.lst (cutV (vi ns) none (some 63)))) (a := dk) (o := .dK (deckK g (7817 + ((cutV (vi ns) none (some 63)).length : Int)) 0))
    have hg : (upd (upd (upd (upd H dk (.dK [])) g (.lst [])) s1 (.lst (cutV (vi ns) none (some 63)))) dk (.dK (deckK g (7817 + ((cutV (vi ns) none (some 63)).length : Int)) 0))) g = some (.lst (vi [])) := by
      rw [upd_ne (Ne.symm ndg)]; exact x2 _ _ upd_same
    generalize upd (upd (upd (upd H dk (.dK [])) g (.lst [])) s1 (.lst (cutV (vi ns) none (some 63)))) dk (.dK (deckK g (7817 + ((cutV (vi ns) none (some 63)).length : Int)) 0)) = H3 at ed hdk hg
    refine ⟨.ref a, rfl, 63, rfl, a, vi ns, rfl, ex_l ed ha, fun p np => ?_⟩
    have x4 := Evl.Ex.new (o := .lst (cutV (vi ns) none (some 63))) np
    have npd : p ≠ dk := Ne.symm (ne_of_none hdk np)
    have npg : p ≠ g := Ne.symm (ne_of_none hg np)
    refine ⟨p, rfl, ⟨_, sq_of upd_same⟩, ?_⟩
    refine for_it (walk_list (xs := cutV (vi ns) none (some 63))) (fun i σ H' => ∃ y2 y3 gs mx, σ = [some (.ref a), some (.ref dk), y2, y3] ∧ Ex H H' ∧ H' p = some (.lst (cutV (vi ns) none (some 63))) ∧ H' dk = some (.dK (deckK g mx 0)) ∧ H' g = some (.lst (vi gs)) ∧ gs.length ≤ i ∧ 0 ≤ mx ∧ mx < 4294967291)
      ⟨none, none, [], _, rfl, ed.trans x4, upd_same, x4 _ _ hdk, x4 _ _ hg, by simp, by omega, by omega⟩ (fun i σ H' _ pv => ?_) (fun i x σ H' H2 hi pv y => ?_) fun σ H' pv => ?_
    · obtain ⟨_, _, _, _, _, _, h1, _⟩ := pv
      exact sq_of h1
    · obtain ⟨y2, y3, gs, mx, rfl, ex, hp, hdk, hg, hgl, m0, m1⟩ := pv
      obtain ⟨rfl, ey⟩ := y
      have hx : x ∈ vi ns := by
        have := List.mem_of_getElem? ey
        unfold cutV at this
        exact List.mem_of_mem_drop (List.mem_of_mem_take this)
      obtain ⟨z, _, rfl⟩ := List.mem_map.mp hx
      refine ⟨_, rfl, z, rfl, 2, _, rfl, rfl, .inl (by decide), .int z, rfl, _, _, rfl, rfl, .inr ⟨_, rfl, _, _, rfl, rfl, ?_⟩⟩
      refine ⟨_, rfl, 10, 16, rfl, rfl, ⟨by decide, by decide, by decide⟩, _, _, rfl, rfl, _, rfl, ?_⟩
      have fin : ∀ (w : Int) (gs' : List Int) (H5 : Hp), Ex H H5 → H5 p = some (.lst (cutV (vi ns) none (some 63))) → H5 dk = some (.dK (deckK g mx 0)) → H5 g = some (.lst (vi gs')) → gs'.length ≤ i + 1 → ∃ y2 y3 gs mx', [some (V.ref a), some (V.ref dk), some (V.int z), some (V.int w)] = [some (.ref a), some (.ref dk), y2, y3] ∧ Ex H (upd H5 dk (.dK (deckK g ((mx * 69621 + w + 13) % 4294967291) 0))) ∧
          (upd H5 dk (.dK (deckK g ((mx * 69621 + w + 13) % 4294967291) 0))) p = some (.lst (cutV (vi ns) none (some 63))) ∧ (upd H5 dk (.dK (deckK g ((mx * 69621 + w + 13) % 4294967291) 0))) dk = some (.dK (deckK g mx' 0)) ∧ (upd H5 dk (.dK (deckK g ((mx * 69621 + w + 13) % 4294967291) 0))) g = some (.lst (vi gs)) ∧ gs.length ≤ i + 1 ∧ 0 ≤ mx' ∧ mx' < 4294967291 := fun w gs' H5 e5 hp5 hd5 hg5 hl5 =>
        ⟨_, _, gs', _, rfl, upd_ex e5 nd, by rw [upd_ne npd]; exact hp5, upd_same, by rw [upd_ne (Ne.symm ndg)]; exact hg5, hl5, Int.emod_nonneg _ (by decide), Int.emod_lt_of_pos _ (by decide)⟩
      refine itB (fun _ => ?_) (fun _ => ?_)
      · refine ⟨.ref dk, rfl, dk, _, rfl, get_great hdk, .inl ⟨rfl, _, sq_of hg⟩, _, rfl, g, _, _, rfl, rfl, hg, sz_lt (by simp [vi]; have := cl; omega), ?_⟩
        have hd2 : (upd H2 g (.lst (vi gs ++ [.int (2 * (if z < 0 then -z else z) + (if decide (z < 0) = true then 1 else 0))]))) dk = some (.dK (deckK g mx 0)) := by rw [upd_ne ndg]; exact hdk
        refine ⟨.ref dk, rfl, dk, _, rfl, get_mixed hd2, _, _, rfl, rfl, .inr (by decide), _, rfl, _, _, rfl, rfl, _, _, rfl, rfl, .inl ⟨_, rfl, _, _, rfl, rfl, (by show (0 : Int) < _; decide), .ref dk, rfl, dk, _, rfl, dput_mixed hd2, ?_⟩⟩
        exact fin _ (gs ++ [2 * (if z < 0 then -z else z) + (if decide (z < 0) = true then 1 else 0)]) _ (upd_ex ex ng0) (by rw [upd_ne npg]; exact hp) hd2 (by rw [upd_same]; simp [vi]) (by simp; omega)
      · refine ⟨.ref dk, rfl, dk, _, rfl, get_mixed hdk, _, _, rfl, rfl, .inr (by decide), _, rfl, _, _, rfl, rfl, _, _, rfl, rfl, .inl ⟨_, rfl, _, _, rfl, rfl, (by show (0 : Int) < _; decide), .ref dk, rfl, dk, _, rfl, dput_mixed hdk, ?_⟩⟩
        exact fin _ gs _ ex hp hdk hg (by omega)
    · obtain ⟨y2, y3, gs, mx, rfl, ex, hp, hdk, hg, hgl, m0, m1⟩ := pv
      exact ⟨_, rfl, q dk g H' ex ⟨gs, mx, 0, hdk, hg, by omega, m0, m1⟩⟩
/-! ### draws -/
def sp_law_draw (_ : PySem.W.Frag) : Sp := fun vs H Q _ => ∃ dk g m, vs = [.ref dk, .int m] ∧ Deck H dk g ∧ m ≤ 1000000000 ∧ ∀ r H', Mo [dk, g] H H' → Deck H' dk g → 0 ≤ r → r < max 1 m → Q (.int r) H'
theorem log2_small {j : Int} (h0 : 0 < j) (h : j ≤ 1000000000) : j.natAbs.log2 < 9000 := by
  have h1 : j.natAbs < 2 ^ 9000 := Nat.lt_of_lt_of_le (by omega : j.natAbs < 2 ^ 30) (Nat.pow_le_pow_right (by decide) (by decide))
  exact (Nat.log2_lt (by omega)).mpr h1
theorem ok_law_draw {P : Program} {w : World} {K : PySem.W.Frag} {mg : Str → Option Value} {base : Heap} {f : Addr} {fd : FuncData} (F : L2.Fun K "_law_draw" "_law_draw" s_law_draw f fd) (B : Bn mg) :
    FnOk P w K mg base CX0 1 f fd ["_law_deck_here", "_law_many_here"] (sp_law_draw K) := by
  refine F.ok (k := 0) sc_law_draw (fun vs H Q E h => ?_) (fun cdv A outer s H vs Q E hr h => ?_)
  · obtain ⟨_, _, _, rfl, _⟩ := h
    rfl
  · obtain ⟨dk, g, m, rfl, hD, hm, q⟩ := h
    obtain ⟨gs, mx, tn, hdk, hg, hl, m0, m1⟩ := hD.at_
    have ndg := hD.ne
    have hu := hu_of hr
    refine ⟨_, (pss_cons (ps_if (pt_cmpR op_lt (pv 1) pe_int (nomark _)) (pss_one (ps_ret pe_int)) pss_nil)
          (pss_cons (ps_if (pt_cmpR (op_neD hr.units) (pe_dget hu (pv 0) pe_str (fun _ _ => rfl)) (pe_lst pa_nil) (nomark _)) (pss_cons (ps_set (i := 2) sc_law_draw.nd rfl (Or.inl rfl) (pe_bm0 PySem.F.plainAttrs_list PySem.F.slot_list_pop PySem.F.type_list_pop mt_pop (pe_dget hu (pv 0) pe_str (fun _ _ => rfl))))
          (pss_cons (ps_if (pt_cmpR op_ge (pv 2) (pv 1) (nomark _)) (pss_one (ps_expr (pe_bm PySem.F.plainAttrs_list PySem.F.slot_list_append PySem.F.type_list_append mt_append (pe_dget hu (pv 0) pe_str (fun _ _ => rfl)) (pa_cons (pe_op op_fdivW (pv 2) (pv 1)) pa_nil)))) pss_nil)
          (pss_one (ps_ret (pe_op op_mod (pe_callTy call_int1 (by rfl) B.int (by decide +kernel) (pa_cons (pv 2) pa_nil)) (pv 1)))))) pss_nil)
          (pss_cons (ps_dput hu (pv 0) pe_str (pe_op op_add (pe_dget hu (pv 0) pe_str (fun _ _ => rfl)) pe_int) rfl)
          (pss_cons (ps_set (i := 3) sc_law_draw.nd rfl (Or.inl rfl) (pe_op op_mod (pe_callTy call_int1 (by rfl) B.int (by decide +kernel) (pa_cons (pe_op op_add (pe_dget hu (pv 0) pe_str (fun _ _ => rfl)) (pe_op op_mul pe_int (pe_dget hu (pv 0) pe_str (fun _ _ => rfl)))) pa_nil)) pe_int))
          (pss_cons (ps_set (i := 3) sc_law_draw.nd rfl (Or.inl rfl) (pe_op op_mod (pe_callTy call_int1 (by rfl) B.int (by decide +kernel) (pa_cons (pe_op op_add (pe_op op_add (pe_op op_mul (pv 3) (pv 3)) (pe_op op_mul pe_int (pe_dget hu (pv 0) pe_str (fun _ _ => rfl)))) pe_int) pa_nil)) pe_int))
          (pss_cons (ps_set (i := 3) sc_law_draw.nd rfl (Or.inl rfl) (pe_op op_mod (pe_callTy call_int1 (by rfl) B.int (by decide +kernel) (pa_cons (pe_op op_add (pe_op op_mul (pv 3) (pv 3)) (pe_op op_mul (pe_dget hu (pv 0) pe_str (fun _ _ => rfl)) pe_int)) pa_nil)) pe_int))
          (pss_one (ps_ret (pe_op op_mod (pe_callTy call_int1 (by rfl) B.int (by decide +kernel) (pa_cons (pe_op op_fdivW (pv 3) pe_int) pa_nil)) (pv 1)))))))))), ?_⟩
    refine ⟨.int m, rfl, _, _, rfl, rfl, _, rfl, itB (fun hb => ?_) (fun hb => ?_)⟩
    · exact q 0 H (Mo.refl _ _) hD (Int.le_refl _) (by omega)
    have hm2 : 2 ≤ m := by have := of_decide_eq_false hb; omega
    refine ⟨.ref dk, rfl, dk, _, rfl, get_great hdk, Nat.zero_le _, fun p np => ?_⟩
    have xp := Evl.Ex.new (o := .lst []) np
    refine ⟨_, _, .lst (sq_of (xp _ _ hg)) (dp_ints gs), .lst (sq_of upd_same) (dp_ints []), PySem.W.ke_shaped_ints gs, PySem.W.ke_shaped_ints [], _, rfl, ?_⟩
    have hdk1 := xp _ _ hdk
    have hg1 := xp _ _ hg
    have mo1 : Mo [dk, g] H (upd H p (.lst [])) := mo_ex xp
    generalize upd H p (.lst []) = H1 at hdk1 hg1 mo1
    cases gs with
    | cons w0 r0 =>
      refine itT ?_
      obtain ⟨w, r, hwr⟩ : ∃ w r, w0 :: r0 = r ++ [w] := ⟨(w0 :: r0).getLast (by simp), (w0 :: r0).dropLast, (List.dropLast_concat_getLast _).symm⟩
      rw [hwr] at hg1 hl
      have lr : r.length + 1 ≤ 63 := by simpa using hl
      have gl : (vi (r ++ [w]))[(vi (r ++ [w])).length - 1]? = some (.int w) := by simp [vi]
      have dl : (vi (r ++ [w])).dropLast = vi r := by simp [vi]
      refine ⟨.ref dk, rfl, dk, _, rfl, get_great hdk1, .inl ⟨rfl, _, sq_of hg1⟩, g, _, _, rfl, rfl, hg1, gl, ?_⟩
      rw [dl]
      have hdk2 : (upd H1 g (.lst (vi r))) dk = some (.dK (deckK g mx tn)) := by rw [upd_ne ndg]; exact hdk1
      have mo2 : Mo [dk, g] H (upd H1 g (.lst (vi r))) := mo1.trans (mo_at (by simp))
      have hmod : 0 ≤ w % m ∧ w % m < max 1 m := ⟨Int.emod_nonneg _ (by omega), by have := Int.emod_lt_of_pos w (show 0 < m by omega); omega⟩
      refine ⟨.int w, rfl, .int m, rfl, _, _, rfl, rfl, _, rfl, itB (fun _ => ?_) (fun _ => ?_)⟩
      · refine ⟨.ref dk, rfl, dk, _, rfl, get_great hdk2, .inl ⟨rfl, _, sq_of upd_same⟩, .int w, rfl, .int m, rfl, w, m, rfl, rfl, ⟨by omega, log2_small (by omega) hm⟩, g, _, _, rfl, rfl, upd_same, sz_lt (by simp [vi]; omega), ?_⟩
        rw [upd_upd]
        refine ⟨.int w, rfl, .inl ⟨_, rfl, .int m, rfl, w, m, rfl, rfl, by omega, q _ _ (mo1.trans (mo_at (by simp))) ⟨r ++ [w / m], mx, tn, ?_, ?_, by simp; omega, m0, m1⟩ hmod.1 hmod.2⟩⟩
        · rw [upd_ne ndg]; exact hdk1
        · rw [upd_same]; simp [vi]
      · exact ⟨.int w, rfl, .inl ⟨_, rfl, .int m, rfl, w, m, rfl, rfl, by omega, q _ _ mo2 ⟨r, mx, tn, hdk2, upd_same, by omega, m0, m1⟩ hmod.1 hmod.2⟩⟩
    | nil =>
      refine itF ?_
      refine ⟨.ref dk, rfl, dk, _, rfl, get_turns hdk1, _, _, rfl, rfl, .ref dk, rfl, dk, _, rfl, dput_turns hdk1, ?_⟩
      have hd2 := upd_same (H := H1) (a := dk) (o := .dK (deckK g mx (tn + 1)))
      have mo2 : Mo [dk, g] H (upd H1 dk (.dK (deckK g mx (tn + 1)))) := mo1.trans (mo_at (by simp))
      have hg2 : (upd H1 dk (.dK (deckK g mx (tn + 1)))) g = some (.lst (vi [])) := by rw [upd_ne (Ne.symm ndg)]; exact hg1
      have D2 : Deck (upd H1 dk (.dK (deckK g mx (tn + 1)))) dk g := ⟨[], mx, tn + 1, hd2, hg2, by simp, m0, m1⟩
      generalize upd H1 dk (.dK (deckK g mx (tn + 1))) = H2 at hd2 mo2 D2
      refine ⟨.ref dk, rfl, dk, _, rfl, get_mixed hd2, .ref dk, rfl, dk, _, rfl, get_turns hd2, _, _, rfl, rfl, .inl (by decide), _, _, rfl, rfl, .inl ⟨_, rfl, _, _, rfl, rfl, (by show (0 : Int) < _; decide), ?_⟩⟩
      have b1 := Int.emod_nonneg (mx + 2654435761 * (tn + 1)) (show (4294967279 : Int) ≠ 0 by decide)
      have b2 := Int.emod_lt_of_pos (mx + 2654435761 * (tn + 1)) (show (0 : Int) < 4294967279 by decide)
      generalize hn1 : (mx + 2654435761 * (tn + 1)) % 4294967279 = n1 at b1 b2
      refine ⟨.int n1, by rw [← hn1]; rfl, .int n1, by rw [← hn1]; rfl, n1, n1, rfl, rfl, .inl (by omega), .ref dk, rfl, dk, _, rfl, get_turns hd2, _, _, rfl, rfl, .inl (by decide), _, _, rfl, rfl, _, _, rfl, rfl, .inl ⟨_, rfl, _, _, rfl, rfl, (by show (0 : Int) < _; decide), ?_⟩⟩
      have c1 := Int.emod_nonneg (n1 * n1 + 69069 * (tn + 1) + 5) (show (4294967231 : Int) ≠ 0 by decide)
      have c2 := Int.emod_lt_of_pos (n1 * n1 + 69069 * (tn + 1) + 5) (show (0 : Int) < 4294967231 by decide)
      generalize hn2 : (n1 * n1 + 69069 * (tn + 1) + 5) % 4294967231 = n2 at c1 c2
      refine ⟨.int n2, by rw [← hn2]; rfl, .int n2, by rw [← hn2]; rfl, n2, n2, rfl, rfl, .inl (by omega), .ref dk, rfl, dk, _, rfl, get_mixed hd2, _, _, rfl, rfl, .inr (by decide), _, _, rfl, rfl, .inl ⟨_, rfl, _, _, rfl, rfl, (by show (0 : Int) < _; decide), ?_⟩⟩
      refine ⟨_, rfl, _, _, rfl, rfl, ⟨by decide, by decide⟩, .inl ⟨_, rfl, .int m, rfl, _, m, rfl, rfl, by omega, q _ _ mo2 D2 (Int.emod_nonneg _ (by omega)) ?_⟩⟩
      have := Int.emod_lt_of_pos (((n2 * n2 + mx * 11) % 4294967197) / 64) (show 0 < m by omega)
      omega
end K56


namespace K56
open PySem PySem.Spec PyProof.Rows L2 K56R
open Evl (Ex ex_l ex_t sq_of st_of fresh_back sz_of sz_lt)
/-! ### ints and tuples of such, n deep at most -/
inductive GT (H : Hp) : Nat → V → Prop
  | int (n : Nat) (i : Int) : GT H n (.int i)
  | tup {n : Nat} {a : Addr} {xs : List V} : H a = some (.tup xs) → (∀ x ∈ xs, GT H n x) → GT H (n + 1) (.ref a)
theorem GT.tk {H H' : Hp} {n : Nat} {v : V} (h : GT H n v) (t : Tk H H') : GT H' n v := by
  induction h with
  | int n i => exact .int n i
  | tup h _ ih => exact .tup (t _ _ h) ih
theorem GT.up {H : Hp} {n : Nat} {v : V} (h : GT H n v) : GT H (n + 1) v := by
  induction h with
  | int n i => exact .int _ i
  | tup h _ ih => exact .tup h ih
theorem gt_pr {H : Hp} {v : V} {p : Int × Int} (h : Pr H v p) : GT H 1 v := by
  obtain ⟨a, rfl, e⟩ := h
  refine .tup e fun x hx => ?_
  rcases List.mem_cons.mp hx with rfl | hx
  · exact .int _ _
  · rw [List.mem_singleton.mp hx]; exact .int _ _
theorem gt_all {K : PySem.W.Frag} {H : Hp} {n : Nat} : ∀ {xs : List V}, (∀ x ∈ xs, ∃ d, Dp K H x d ∧ d.canLay0 = true ∧ d.depth ≤ n) → ∃ ds, DpAll K H xs ds ∧ PyData.canLayAll0 ds = true ∧ PyData.depthAll ds ≤ n
  | [], _ => ⟨[], .nil, rfl, Nat.zero_le _⟩
  | x :: xs, h => by
    obtain ⟨d, h1, h2, h3⟩ := h x List.mem_cons_self
    obtain ⟨ds, k1, k2, k3⟩ := gt_all fun y hy => h y (List.mem_cons_of_mem _ hy)
    exact ⟨d :: ds, .cons h1 k1, by simp [PyData.canLayAll0, h2, k2], by simp only [PyData.depthAll]; omega⟩
theorem GT.dp {K : PySem.W.Frag} {H : Hp} {n : Nat} {v : V} (h : GT H n v) : ∃ d, Dp K H v d ∧ d.canLay0 = true ∧ d.depth ≤ n := by
  induction h with
  | int n i => exact ⟨.int i, .int i, rfl, Nat.zero_le _⟩
  | tup h _ ih =>
    obtain ⟨ds, k1, k2, k3⟩ := gt_all ih
    exact ⟨.tuple ds, .tup (st_of h) k1, by simp [PyData.canLay0, k2], by simp only [PyData.depth]; omega⟩
theorem gt_list {K : PySem.W.Frag} {H : Hp} {a : Addr} {n : Nat} {xs : List V} (h : H a = some (.lst xs)) (g : ∀ x ∈ xs, GT H n x) (hn : n ≤ 60) :
    ∃ ds, Dp K H (.ref a) (.list ds) ∧ SeqAt.shaped (.list ds) = true ∧ PyData.eqv (.list ds) (.list []) = decide (xs = []) := by
  obtain ⟨ds, k1, k2, k3⟩ := gt_all (K := K) fun x hx => (g x hx).dp
  refine ⟨ds, .lst (sq_of h) k1, ?_, ?_⟩
  · unfold SeqAt.shaped
    rw [Bool.and_eq_true, decide_eq_true_eq]
    exact ⟨by simp [PyData.canLay0, k2], by simp only [PyData.depth]; omega⟩
  · cases k1 with
    | nil => rfl
    | cons _ _ => rfl
theorem shaped_nil : SeqAt.shaped (.list []) = true := by rfl
/-! ### pick -/
def sp_law_pick (_ : PySem.W.Frag) : Sp := fun vs H Q _ => ∃ dk g s xs, vs = [.ref dk, .ref s] ∧ Deck H dk g ∧ s ∉ [dk, g] ∧ (H s = some (.lst xs) ∨ H s = some (.tup xs)) ∧ xs ≠ [] ∧ xs.length ≤ 2000000 ∧
  ∀ x H', Mo [dk, g] H H' → Deck H' dk g → x ∈ xs → Q x H'
theorem ok_law_pick {P : Program} {w : World} {K : PySem.W.Frag} {mg : Str → Option Value} {base : Heap} {f : Addr} {fd : FuncData} (F : L2.Fun K "_law_pick" "_law_pick" s_law_pick f fd) (B : Bn mg)
    (C_law_draw : C8.Cal P w K mg base 1 "_law_draw" (sp_law_draw K) []) :
    FnOk P w K mg base CX0 2 f fd ["_law_deck_here", "_law_items"] (sp_law_pick K) := by
  refine F.ok (k := 1) sc_law_pick (fun vs H Q E h => ?_) (fun cdv A outer s H vs Q E hr h => ?_)
  · obtain ⟨_, _, _, _, rfl, _⟩ := h
    rfl
  · obtain ⟨dk, g, s', xs, rfl, hD, ns, hs, hne, hl, q⟩ := h
    have hu := hu_of hr
    refine ⟨_, (pss_one (ps_ret (pe_ix ix_seq (pv 1) (C8.pe_c C_law_draw hr (by decide) (by rfl) (pa_cons (pv 0) (pa_cons (pe_callB call_len_seq (by rfl) B.len PySem.boot_len (pa_cons (pv 1) pa_nil)) pa_nil))) (fun _ _ => rfl)))), ?_⟩
    refine ⟨.ref s', rfl, .ref dk, rfl, .ref s', rfl, s', xs, rfl, hs.elim (fun h => .inl (sq_of h)) (fun h => .inr (st_of h)), dk, g, _, rfl, hD, by omega, fun r H' mo D' r0 r1 => ?_⟩
    have hp := List.length_pos_iff.mpr hne
    have hi : r.toNat < xs.length := by omega
    have er : r = ((r.toNat : Nat) : Int) := by omega
    have hq := q xs[r.toNat] H' mo D' (List.getElem_mem hi)
    have at_ : atI xs r = some xs[r.toNat] := by
      have := atI_nat (List.getElem?_eq_getElem hi)
      rwa [← er] at this
    rcases hs with h | h
    · exact .inl ⟨s', xs, r, _, rfl, rfl, sq_of (mo _ _ ns h), at_, hq⟩
    · exact .inr (.inl ⟨s', xs, r, _, rfl, rfl, st_of (mo _ _ ns h), at_, hq⟩)
/-! ### mixed -/
theorem erase_perm {α : Type} : ∀ {l : List α} {k : Nat} {x : α}, l[k]? = some x → (x :: l.eraseIdx k).Perm l
  | [], k, x, h => by simp at h
  | y :: l, 0, x, h => by simp at h; subst h; exact .refl _
  | y :: l, k + 1, x, h => by
    have h' : l[k]? = some x := by simpa using h
    rw [List.eraseIdx_cons_succ]
    exact (List.Perm.swap y x _).trans ((erase_perm h').cons y)
def sp_law_mixed (_ : PySem.W.Frag) : Sp := fun vs H Q _ => ∃ dk g s xs, vs = [.ref dk, .ref s] ∧ Deck H dk g ∧ (H s = some (.lst xs) ∨ H s = some (.tup xs)) ∧ xs.length ≤ 1000 ∧ (∀ x ∈ xs, GT H 8 x) ∧
  ∀ a ys H', Mo [dk, g] H H' → Deck H' dk g → H a = none → H' a = some (.lst ys) → ys.Perm xs → Q (.ref a) H'
theorem ok_law_mixed {P : Program} {w : World} {K : PySem.W.Frag} {mg : Str → Option Value} {base : Heap} {f : Addr} {fd : FuncData} (F : L2.Fun K "_law_mixed" "_law_mixed" s_law_mixed f fd) (B : Bn mg)
    (C_law_draw : C8.Cal P w K mg base 1 "_law_draw" (sp_law_draw K) []) :
    FnOk P w K mg base CX0 2 f fd ["_law_deck_here", "_law_items"] (sp_law_mixed K) := by
  refine F.ok (k := 1) sc_law_mixed (fun vs H Q E h => ?_) (fun cdv A outer s H vs Q E hr h => ?_)
  · obtain ⟨_, _, _, _, rfl, _⟩ := h
    rfl
  · obtain ⟨dk, g, s', xs, rfl, hD, hs, hl, hg, q⟩ := h
    have hu := hu_of hr
    refine ⟨_, (pss_cons (ps_par (i := 2) (j := 3) (by rfl) sc_law_mixed.nd rfl rfl (by decide) rfl rfl (pa_cons (pe_callTy call_list_of (by rfl) B.list (by decide +kernel) (pa_cons (pv 1) pa_nil)) (pa_cons (pe_lst pa_nil) pa_nil)) (by rfl))
          (pss_cons (ps_while PassesOwn.never (pt_cmpR (op_neD hr.units) (pv 2) (pe_lst pa_nil) (nomark _)) (pss_one (ps_expr (pe_bm PySem.F.plainAttrs_list PySem.F.slot_list_append PySem.F.type_list_append mt_append (pv 3) (pa_cons (pe_bm PySem.F.plainAttrs_list PySem.F.slot_list_pop PySem.F.type_list_pop mt_popAt (pv 2) (pa_cons (C8.pe_c C_law_draw hr (by decide) (by rfl) (pa_cons (pv 0) (pa_cons (pe_callB call_len_seq (by rfl) B.len PySem.boot_len (pa_cons (pv 2) pa_nil)) pa_nil))) pa_nil)) pa_nil)))))
          (pss_one (ps_ret (pv 3))))), ?_⟩
    refine ⟨.ref s', rfl, s', xs, rfl, hs.elim (fun h => .inl (sq_of h)) (fun h => .inr (st_of h)), fun l nl => ⟨Nat.zero_le _, fun f' nf => ⟨_, _, rfl, ?_⟩⟩⟩
    have x1 := Evl.Ex.new (o := .lst xs) nl
    have x2 := Evl.Ex.new (o := .lst []) nf
    have nf0 : H f' = none := fresh_back x1 nf
    have nlf : l ≠ f' := ne_of_none upd_same nf
    have apl := hD.apart nl
    have apf := hD.apart nf0
    refine ⟨fun m σ H' => ∃ ls fs, σ = [some (.ref dk), some (.ref s'), some (.ref l), some (.ref f')] ∧ m = ls.length ∧ Mo [dk, g] H H' ∧ Deck H' dk g ∧ H' l = some (.lst ls) ∧ H' f' = some (.lst fs) ∧ (fs ++ ls).Perm xs, ⟨xs.length, xs, [], rfl, rfl, mo_ex (x1.trans x2), hD.ex (x1.trans x2), x2 _ _ upd_same, upd_same, .refl _⟩, fun m σ H' hw => ?_⟩
    obtain ⟨ls, fs, rfl, rfl, mo, D', hl', hf, hp⟩ := hw
    have len := hp.length_eq
    rw [List.length_append] at len
    refine ⟨_, rfl, Nat.zero_le _, fun p np => ?_⟩
    have xp := Evl.Ex.new (o := .lst []) np
    have tk1 : Tk H (upd H' p (.lst [])) := (hD.tk mo).trans (tk_ex xp)
    have mem : ∀ x ∈ ls, GT (upd H' p (.lst [])) 8 x := fun x hx => (hg x (hp.mem_iff.mp (List.mem_append_right _ hx))).tk tk1
    obtain ⟨ds, d1, d2, d3⟩ := gt_list (K := K) (xp _ _ hl') mem (by decide)
    refine ⟨_, _, d1, .lst (sq_of upd_same) .nil, d2, shaped_nil, _, rfl, ?_⟩
    rw [d3]
    have mo1 : Mo [dk, g] H (upd H' p (.lst [])) := mo.trans (mo_ex xp)
    have D1 := D'.ex xp
    have hl1 := xp _ _ hl'
    have hf1 := xp _ _ hf
    generalize upd H' p (.lst []) = H1 at mo1 D1 hl1 hf1
    refine itB (fun hb => ?_) (fun hb => ?_)
    · have hne : ls ≠ [] := by simpa using hb
      have hpos := List.length_pos_iff.mpr hne
      refine ⟨fun σ' H' => ∃ m', m' < ls.length ∧ _, fun σ' H' h => h, ?_⟩
      refine ⟨_, rfl, .inl ⟨rfl, _, sq_of hf1⟩, _, rfl, .inl ⟨rfl, _, sq_of hl1⟩, _, rfl, _, rfl, l, _, rfl, .inl (sq_of hl1), dk, g, _, rfl, D1, by omega, fun r H2 mo2 D2 r0 r1 => ?_⟩
      have hi : r.toNat < ls.length := by omega
      have er : r = ((r.toNat : Nat) : Int) := by omega
      have hl2 := mo2 _ _ apl hl1
      have hf2 := mo2 _ _ apf hf1
      have sx : seqIndex? r ls.length = some r.toNat := by
        obtain ⟨a, _⟩ := ixN_seq (n := ls.length) (i := r) (j := r.toNat) (by have := Evl.ixN_nat hi; rwa [← er] at this)
        exact a
      refine ⟨l, ls, r, r.toNat, ls[r.toNat], rfl, rfl, hl2, by omega, by omega, sx, List.getElem?_eq_getElem hi, ?_⟩
      have hf3 : (upd H2 l (.lst (ls.eraseIdx r.toNat))) f' = some (.lst fs) := by rw [upd_ne (Ne.symm nlf)]; exact hf2
      refine ⟨f', fs, _, rfl, rfl, hf3, sz_lt (by omega), ls.length - 1, by omega, ls.eraseIdx r.toNat, fs ++ [ls[r.toNat]], rfl, ?_, upd_mo (upd_mo (mo1.trans mo2) nl) nf0, (D2.beside apl).beside apf, ?_, upd_same, ?_⟩
      · rw [List.length_eraseIdx_of_lt hi]
      · rw [upd_ne nlf, upd_same]
      · rw [List.append_assoc]
        exact ((erase_perm (List.getElem?_eq_getElem hi)).append_left fs).trans hp
    · have hne : ls = [] := by simpa using hb
      subst hne
      rw [List.append_nil] at hp
      exact ⟨_, rfl, q f' fs H1 mo1 D1 nf0 hf1 hp⟩
end K56


namespace K56
open PySem PySem.Spec PyProof.Rows L2 K56R
open Evl (Ex ex_l ex_t sq_of st_of fresh_back sz_of sz_lt)
/-! ### nets that are drawn -/
theorem GT.le {H : Hp} {n m : Nat} {v : V} (h : GT H n v) (e : n ≤ m) : GT H m v := by
  induction e with
  | refl => exact h
  | step _ ih => exact ih.up
theorem All2.perm {α β : Type} {R : α → β → Prop} {l l' : List α} (p : l'.Perm l) : ∀ {m : List β}, All2 R l m → ∃ m', m'.Perm m ∧ All2 R l' m' := by
  induction p with
  | nil => intro m h; exact ⟨m, .refl _, h⟩
  | cons x p ih =>
    intro m h
    obtain ⟨y, m1, rfl, r, h1⟩ := h.uncons
    obtain ⟨m2, p2, h2⟩ := ih h1
    exact ⟨y :: m2, p2.cons y, .cons r h2⟩
  | swap x y l =>
    intro m h
    obtain ⟨a, m1, rfl, r, h1⟩ := h.uncons
    obtain ⟨b, m2, rfl, r2, h2⟩ := h1.uncons
    exact ⟨b :: a :: m2, .swap _ _ _, .cons r2 (.cons r h2)⟩
  | trans p q ihp ihq =>
    intro m h
    obtain ⟨m1, p1, h1⟩ := ihq h
    obtain ⟨m2, p2, h2⟩ := ihp h1
    exact ⟨m2, p2.trans p1, h2⟩
theorem walk_range0 {n : Nat} : Walk (Itr 0 n) n (fun _ => True) (YFn fun i => V.int ((i : Nat) : Int)) := (walk_range (lo := 0) (n := n)).mono (fun _ h => h) fun i H x H' _ _ y => ⟨y.1, by rw [y.2]; simp⟩
structure GoodNet (m : Int) (R : Arcs) : Prop where
  ok : NetOk m R
  len : R.length ≤ 14
  m3 : 3 ≤ m
  m5 : m ≤ 5
  way : ∃ u, IsPath R 0 u (m - 1)
def PG (m : Int) (P : Arcs) : Prop := ∀ p ∈ P, 0 ≤ p.1 ∧ p.1 < p.2 ∧ p.2 < m
theorem pg_ok {m : Int} {R : Arcs} (h2 : 2 ≤ m) (h : PG m R) : NetOk m R := ⟨h2, fun r hr => h _ (List.mem_of_getElem? (get_ft hr))⟩
theorem spine_path {R : Arcs} {S : List Int} (h : ∀ j a b, S[j]? = some a → S[j + 1]? = some b → (a, b) ∈ R) {z0 : Int} (h0 : S[0]? = some z0) : ∀ (j : Nat) (z : Int), S[j]? = some z → ∃ u, IsPath R z0 u z
  | 0, z, hz => ⟨[], by rw [h0] at hz; exact Option.some.inj hz⟩
  | j + 1, z, hz => by
    have hj : j < S.length := by have := (List.getElem?_eq_some_iff.mp hz).1; omega
    obtain ⟨u, hu⟩ := spine_path h h0 j S[j] (List.getElem?_eq_getElem hj)
    obtain ⟨i, hi⟩ := List.mem_iff_getElem?.mp (h j _ _ (List.getElem?_eq_getElem hj) hz)
    obtain ⟨e1, e2⟩ := ft_get hi
    exact ⟨u ++ [i], path_app.mpr ⟨S[j], hu, (List.getElem?_eq_some_iff.mp hi).1, e1, e2⟩⟩
theorem good_of {m : Int} {P R : Arcs} (m3 : 3 ≤ m) (m5 : m ≤ 5) (pg : PG m P) (pl : P.length ≤ 14) {S : List Int} (hS : ∀ j a b, S[j]? = some a → S[j + 1]? = some b → (a, b) ∈ P) (h0 : S[0]? = some 0) {j : Nat} (hj : S[j]? = some (m - 1)) (p : R.Perm P) : GoodNet m R :=
  ⟨pg_ok (by omega) fun q hq => pg q (p.mem_iff.mp hq), by rw [p.length_eq]; exact pl, m3, m5, spine_path (fun j a b h1 h2 => p.mem_iff.mpr (hS j a b h1 h2)) h0 j _ hj⟩
def NetPost (dk g : Addr) (H : Hp) (Q : VK) : Prop := ∀ n m R H', Mo [dk, g] H H' → Deck H' dk g → Net H' n m R → GoodNet m R → Q (.ref n) H'
theorem mem_range {m : Nat} {z : Int} (h : z ∈ (List.range m).map fun i => ((i : Nat) : Int)) : 0 ≤ z ∧ z < m := by
  obtain ⟨i, hi, rfl⟩ := List.mem_map.mp h
  have := List.mem_range.mp hi
  omega
def sp_law_meeting (_ : PySem.W.Frag) : Sp := fun vs H Q _ => ∃ dk g, vs = [.ref dk] ∧ Deck H dk g ∧ NetPost dk g H Q
theorem ok_law_meeting {P : Program} {w : World} {K : PySem.W.Frag} {mg : Str → Option Value} {base : Heap} {f : Addr} {fd : FuncData} (F : L2.Fun K "_law_meeting" "_law_meeting" s_law_meeting f fd) (B : Bn mg)
    (C_law_pick : C8.Cal P w K mg base 2 "_law_pick" (sp_law_pick K) [])
    (C_law_draw : C8.Cal P w K mg base 1 "_law_draw" (sp_law_draw K) [])
    (C_law_mixed : C8.Cal P w K mg base 2 "_law_mixed" (sp_law_mixed K) []) :
    FnOk P w K mg base CX0 3 f fd ["_law_deck_here"] (sp_law_meeting K) := by
  refine F.ok (k := 2) sc_law_meeting (fun vs H Q E h => ?_) (fun cdv A outer s H vs Q E hr h => ?_)
  · obtain ⟨_, _, rfl, _⟩ := h
    rfl
  · obtain ⟨dk, g, rfl, hD, q⟩ := h
    have hu := hu_of hr
    refine ⟨_, (pss_cons (ps_par (i := 1) (j := 2) (by rfl) sc_law_meeting.nd rfl rfl (by decide) rfl rfl (pa_cons (C8.pe_c C_law_pick hr (by decide) (by rfl) (pa_cons (pv 0) (pa_cons (pe_lst (pa_cons pe_int (pa_cons pe_int (pa_cons pe_int (pa_cons pe_int pa_nil))))) pa_nil))) (pa_cons (pe_lst pa_nil) pa_nil)) (by rfl))
          (pss_cons (ps_for PassesOwn.never rfl (pi_range1 (by rfl) B.range (pa_cons (pe_op op_sub (pv 1) pe_int) pa_nil)) (pg_name (i := 3) sc_law_meeting.nd rfl (Or.inl rfl)) (pss_one (ps_set (i := 2) sc_law_meeting.nd rfl (Or.inl rfl) (pe_op op_cat (pv 2) (pe_op op_rep (pe_lst (pa_cons (pe_tup (pa_cons (pv 3) (pa_cons (pe_op op_add (pv 3) pe_int) pa_nil))) pa_nil)) (C8.pe_c C_law_pick hr (by decide) (by rfl) (pa_cons (pv 0) (pa_cons (pe_lst (pa_cons pe_int (pa_cons pe_int (pa_cons pe_int (pa_cons pe_int (pa_cons pe_int pa_nil)))))) pa_nil))))))))
          (pss_cons (ps_for PassesOwn.never rfl (pi_range1 (by rfl) B.range (pa_cons (C8.pe_c C_law_draw hr (by decide) (by rfl) (pa_cons (pv 0) (pa_cons pe_int pa_nil))) pa_nil)) (pg_name (i := 4) sc_law_meeting.nd rfl (Or.inl rfl)) (pss_cons (ps_set (i := 3) sc_law_meeting.nd rfl (Or.inl rfl) (C8.pe_c C_law_draw hr (by decide) (by rfl) (pa_cons (pv 0) (pa_cons (pe_op op_sub (pv 1) pe_int) pa_nil))))
          (pss_one (ps_expr (pe_bm PySem.F.plainAttrs_list PySem.F.slot_list_append PySem.F.type_list_append mt_append (pv 2) (pa_cons (pe_tup (pa_cons (pv 3) (pa_cons (pe_callB (call_min2 rfl) (by rfl) B.min (by decide +kernel) (pa_cons (pe_op op_sub (pv 1) pe_int) (pa_cons (pe_op op_add (pe_op op_add (pv 3) pe_int) (C8.pe_c C_law_draw hr (by decide) (by rfl) (pa_cons (pv 0) (pa_cons pe_int pa_nil)))) pa_nil))) pa_nil))) pa_nil))))))
          (pss_one (ps_ret (pe_tup (pa_cons (pv 1) (pa_cons (pe_callTy call_tuple_of (by rfl) B.tuple (by decide +kernel) (pa_cons (C8.pe_c C_law_mixed hr (by decide) (by rfl) (pa_cons (pv 0) (pa_cons (pv 2) pa_nil))) pa_nil)) pa_nil)))))))), ?_⟩
    refine ⟨.ref dk, rfl, by show 4 ≤ sizeLine; decide, fun z1 nz1 => ?_⟩
    have x1 := Evl.Ex.new (o := .lst [.int 3, .int 4, .int 4, .int 5]) nz1
    refine ⟨dk, g, z1, _, rfl, hD.ex x1, hD.apart nz1, .inl upd_same, by simp, by simp, fun mv H1 mo1 D1 hmv => ?_⟩
    obtain ⟨m, rfl, m3, m5⟩ : ∃ m : Int, mv = .int m ∧ 3 ≤ m ∧ m ≤ 5 := by
      rcases List.mem_cons.mp hmv with rfl | h
      · exact ⟨3, rfl, by omega, by omega⟩
      · rcases List.mem_cons.mp h with rfl | h
        · exact ⟨4, rfl, by omega, by omega⟩
        · rcases List.mem_cons.mp h with rfl | h
          · exact ⟨4, rfl, by omega, by omega⟩
          · rw [List.mem_singleton.mp h]; exact ⟨5, rfl, by omega, by omega⟩
    have mH1 : Mo [dk, g] H H1 := (mo_ex x1).trans mo1
    refine ⟨Nat.zero_le _, fun z2 nz2 => ⟨_, _, rfl, ?_⟩⟩
    have x2 := Evl.Ex.new (o := .lst []) nz2
    refine ⟨_, rfl, m, 1, rfl, rfl, m - 1, rfl, by omega, by omega, ?_⟩
    refine for_it (walk_range0 (n := (m - 1).toNat)) (fun i σ H' => ∃ p y3 y4 ps P, σ = [some (.ref dk), some (.int m), some (.ref p), y3, y4] ∧ Mo [dk, g] H H' ∧ Deck H' dk g ∧ H p = none ∧ H' p = some (.lst ps) ∧ All2 (Pr H') ps P ∧ P.length ≤ 3 * i ∧ PG m P ∧ ∀ j : Nat, j < i → ((j : Int), (j : Int) + 1) ∈ P)
      ⟨z2, none, none, [], [], rfl, mH1.trans (mo_ex x2), D1.ex x2, fresh_mo mH1 (D1.apart nz2) nz2, upd_same, .nil, by simp, fun p hp => by (cases hp), by omega⟩ (fun i σ H' _ pv => trivial) (fun i x σ H' H2 hi pv y => ?_) fun σ H' pv => ?_
    · obtain ⟨p, y3, y4, ps, P, rfl, mo, D', np, hp, hP, hl, hpg, hall⟩ := pv
      obtain ⟨rfl, rfl⟩ := y
      have hps := hP.1
      refine ⟨_, rfl, _, rfl, _, rfl, i, 1, rfl, rfl, by show 2 ≤ sizeLine; decide, fun T nT => ?_⟩
      have y1 := Evl.Ex.new (o := .tup [.int (i : Nat), .int ((i : Nat) + 1)]) nT
      refine ⟨by show 1 ≤ sizeLine; decide, fun L1 nL1 => ?_⟩
      have y2 := Evl.Ex.new (o := .lst [.ref T]) nL1
      refine ⟨_, rfl, by show 5 ≤ sizeLine; decide, fun L2 nL2 => ?_⟩
      have y3' := Evl.Ex.new (o := .lst [.int 2, .int 2, .int 2, .int 1, .int 3]) nL2
      have D3 := D'.ex (y1.trans (y2.trans y3'))
      have apT := D'.apart nT
      have apL1 := (D'.ex y1).apart nL1
      have apL2 := (D'.ex (y1.trans y2)).apart nL2
      have app := hD.apart np
      refine ⟨dk, g, L2, _, rfl, D3, apL2, .inl upd_same, by simp, by simp, fun kv H3 mo3 D3' hkv => ?_⟩
      obtain ⟨k, rfl, k1, k3⟩ : ∃ k : Int, kv = .int k ∧ 1 ≤ k ∧ k ≤ 3 := by
        rcases List.mem_cons.mp hkv with rfl | h
        · exact ⟨2, rfl, by omega, by omega⟩
        · rcases List.mem_cons.mp h with rfl | h
          · exact ⟨2, rfl, by omega, by omega⟩
          · rcases List.mem_cons.mp h with rfl | h
            · exact ⟨2, rfl, by omega, by omega⟩
            · rcases List.mem_cons.mp h with rfl | h
              · exact ⟨1, rfl, by omega, by omega⟩
              · rw [List.mem_singleton.mp h]; exact ⟨3, rfl, by omega, by omega⟩
      have hL1 := mo3 _ _ apL1 (y3' _ _ upd_same)
      have hp3 := mo3 _ _ app (y3' _ _ (y2 _ _ (y1 _ _ hp)))
      have hT3 := mo3 _ _ apT (y3' _ _ (y2 _ _ upd_same))
      have hk3 : k.toNat ≤ 3 := by omega
      refine ⟨L1, k, [.ref T], rfl, rfl, hL1, by omega, by omega, sz_of (by simp; omega), fun L4 nL4 => ?_⟩
      have y4 := Evl.Ex.new (o := .lst (List.replicate k.toNat [V.ref T]).flatten) nL4
      have lf : (List.replicate k.toNat [V.ref T]).flatten = List.replicate k.toNat (V.ref T) := by
        generalize k.toNat = n
        induction n with
        | zero => rfl
        | succ n ih => rw [List.replicate_succ, List.flatten_cons, ih]; rfl
      refine ⟨p, L4, ps, _, rfl, rfl, y4 _ _ hp3, upd_same, sz_of (by rw [lf, List.length_replicate]; omega), fun L5 nL5 => ?_⟩
      have y5 := Evl.Ex.new (o := .lst (ps ++ (List.replicate k.toNat [V.ref T]).flatten)) nL5
      have mo5 : Mo [dk, g] H2 (upd (upd H3 L4 (.lst (List.replicate k.toNat [V.ref T]).flatten)) L5 (.lst (ps ++ (List.replicate k.toNat [V.ref T]).flatten))) := (mo_ex (y1.trans (y2.trans y3'))).trans (mo3.trans (mo_ex (y4.trans y5)))
      have D5 := D3'.ex (y4.trans y5)
      refine ⟨L5, _, _, _, P ++ List.replicate k.toNat (((i : Nat) : Int), ((i : Nat) : Int) + 1), rfl, mo.trans mo5, D5, fresh_mo (mo.trans ((mo_ex (y1.trans (y2.trans y3'))).trans (mo3.trans (mo_ex y4)))) ((D3'.ex y4).apart nL5) nL5, upd_same, ?_, ?_, ?_, ?_⟩
      · refine (all2_tk st_Pr (D'.tk mo5) hP).app ?_
        rw [lf]
        refine ⟨by simp, fun j a b e1 e2 => ?_⟩
        rw [List.eq_of_mem_replicate (List.mem_of_getElem? e1), List.eq_of_mem_replicate (List.mem_of_getElem? e2)]
        have hT5 := (y4.trans y5) _ _ hT3
        rw [lf] at hT5
        exact ⟨T, rfl, hT5⟩
      · rw [List.length_append, List.length_replicate]; omega
      · intro z hz
        rcases List.mem_append.mp hz with hz | hz
        · exact hpg z hz
        · rw [List.eq_of_mem_replicate hz]
          show (0 : Int) ≤ (i : Nat) ∧ ((i : Nat) : Int) < (i : Nat) + 1 ∧ ((i : Nat) : Int) + 1 < m
          omega
      · intro j hj
        by_cases e : j = i
        · subst e
          refine List.mem_append_right _ (List.mem_replicate.mpr ⟨by omega, rfl⟩)
        · exact List.mem_append_left _ (hall j (by omega))
    · obtain ⟨p, y3, y4, ps, P, rfl, mo, D', np, hp, hP, hl, hpg, hall⟩ := pv
      have app := hD.apart np
      refine ⟨_, rfl, dk, g, 3, rfl, D', by omega, fun r H2 mo2 D2 r0 r1 => ?_⟩
      refine ⟨r, rfl, by omega, by omega, ?_⟩
      refine for_it (walk_range0 (n := r.toNat)) (fun i σ H' => ∃ y3 y4 ps P', σ = [some (.ref dk), some (.int m), some (.ref p), y3, y4] ∧ Mo [dk, g] H H' ∧ Deck H' dk g ∧ H' p = some (.lst ps) ∧ All2 (Pr H') ps P' ∧ P'.length ≤ P.length + i ∧ PG m P' ∧ ∀ z ∈ P, z ∈ P')
        ⟨_, _, ps, P, rfl, mo.trans mo2, D2, mo2 _ _ app hp, all2_tk st_Pr (D'.tk mo2) hP, by omega, hpg, fun _ h => h⟩ (fun i σ H' _ pv => trivial) (fun i x σ H' H5 hi pv y => ?_) fun σ H' pv => ?_
      · obtain ⟨y3, y4, ps, P', rfl, mo, D', hp, hP, hl', hpg', hsub⟩ := pv
        obtain ⟨rfl, rfl⟩ := y
        have hps := hP.1
        refine ⟨_, rfl, _, rfl, m, 1, rfl, rfl, dk, g, m - 1, rfl, D', by omega, fun f1 H6 mo6 D6 f0 f2 => ?_⟩
        have hp6 := mo6 _ _ app hp
        refine ⟨_, rfl, .inl ⟨rfl, _, sq_of hp6⟩, _, rfl, _, rfl, m, 1, rfl, rfl, _, rfl, f1, 1, rfl, rfl, _, rfl, dk, g, 3, rfl, D6, by omega, fun r2 H7 mo7 D7 r20 r21 => ?_⟩
        refine ⟨_, _, rfl, rfl, m - 1, f1 + 1 + r2, rfl, by show 2 ≤ sizeLine; decide, fun T nT => ?_⟩
        have y1 := Evl.Ex.new (o := .tup [.int f1, .int (if f1 + 1 + r2 < m - 1 then f1 + 1 + r2 else m - 1)]) nT
        have hp7 := y1 _ _ (mo7 _ _ app hp6)
        have mo8 : Mo [dk, g] H5 (upd H7 T (.tup [.int f1, .int (if f1 + 1 + r2 < m - 1 then f1 + 1 + r2 else m - 1)])) := mo6.trans (mo7.trans (mo_ex y1))
        have t8 : Tk (upd H7 T (.tup [.int f1, .int (if f1 + 1 + r2 < m - 1 then f1 + 1 + r2 else m - 1)])) (upd (upd H7 T (.tup [.int f1, .int (if f1 + 1 + r2 < m - 1 then f1 + 1 + r2 else m - 1)])) p (.lst (ps ++ [.ref T]))) := tk_upd hp7 fun xs z => by cases z
        refine ⟨p, ps, _, rfl, rfl, hp7, sz_lt (by rw [hps]; omega), _, _, ps ++ [.ref T], P' ++ [(f1, if f1 + 1 + r2 < m - 1 then f1 + 1 + r2 else m - 1)], rfl, upd_mo (mo.trans mo8) np, (D7.ex y1).beside app, upd_same, ?_, by rw [List.length_append]; simp; omega, ?_, fun z hz => List.mem_append_left _ (hsub z hz)⟩
        · exact (all2_tk st_Pr ((D'.tk mo8).trans t8) hP).snoc ⟨T, rfl, t8 _ _ upd_same⟩
        · intro z hz
          rcases List.mem_append.mp hz with hz | hz
          · exact hpg' z hz
          · rw [List.mem_singleton.mp hz]
            show 0 ≤ f1 ∧ f1 < (if f1 + 1 + r2 < m - 1 then f1 + 1 + r2 else m - 1) ∧ (if f1 + 1 + r2 < m - 1 then f1 + 1 + r2 else m - 1) < m
            split <;> omega
      · obtain ⟨y3, y4, ps, P', rfl, mo, D', hp, hP, hl', hpg', hsub⟩ := pv
        have hps := hP.1
        refine ⟨_, rfl, _, rfl, _, rfl, dk, g, p, ps, rfl, D', .inl hp, by omega, fun x hx => ?_, fun a ys H6 mo6 D6 na ha perm => ?_⟩
        · obtain ⟨z, _, hz⟩ := hP.mem hx
          exact (gt_pr hz).le (by decide)
        · refine ⟨a, ys, rfl, .inl ⟨sq_of ha, fun l nl => ?_⟩⟩
          have y1 := Evl.Ex.new (o := .tup ys) nl
          refine ⟨by show 2 ≤ sizeLine; decide, fun n nn => ?_⟩
          have y2 := Evl.Ex.new (o := .tup [.int m, .ref l]) nn
          obtain ⟨R, pR, hR⟩ := (all2_tk st_Pr (D'.tk mo6) hP).perm perm
          refine q n m R _ (mo.trans (mo6.trans (mo_ex (y1.trans y2)))) (D6.ex (y1.trans y2)) ⟨l, ys, upd_same, y2 _ _ upd_same, all2_tk st_Pr (tk_ex (y1.trans y2)) hR⟩ ?_
          have hm1 : (m - 1).toNat ≤ 4 := by omega
          refine good_of (S := (List.range m.toNat).map fun i => ((i : Nat) : Int)) (j := (m - 1).toNat) m3 m5 hpg' (by omega) (fun j a b h1 h2 => ?_) ?_ ?_ pR
          · rw [List.getElem?_map] at h1 h2
            have l2 : j + 1 < m.toNat := by
              have h3 : ((List.range m.toNat)[j + 1]?.map fun i => ((i : Nat) : Int)) = some b := h2
              cases e : (List.range m.toNat)[j + 1]? with
              | none => rw [e] at h3; cases h3
              | some w => simpa using (List.getElem?_eq_some_iff.mp e).1
            rw [List.getElem?_range (by omega)] at h1
            rw [List.getElem?_range l2] at h2
            cases h1; cases h2
            exact hsub _ (hall j (by omega))
          · rw [List.getElem?_map, List.getElem?_range (by omega)]; rfl
          · rw [List.getElem?_map, List.getElem?_range (by omega)]
            show some (((m - 1).toNat : Nat) : Int) = some (m - 1)
            congr 1; omega
end K56


namespace K56
open PySem PySem.Spec PyProof.Rows L2 K56R
open Evl (Ex ex_l ex_t sq_of st_of fresh_back sz_of sz_lt)
theorem cut_tail (xs : List V) : cutV xs (some 1) none = xs.drop 1 := by
  unfold cutV
  rw [show HT.sIx xs.length 0 (some 1) = min 1 xs.length from HT.sIx_nat xs.length 0 1, HT.sIx_none]
  cases xs with
  | nil => rfl
  | cons x r =>
    rw [show min 1 (x :: r).length = 1 by simp]
    exact List.take_of_length_le (by simp)
def sp_law_net (_ : PySem.W.Frag) : Sp := fun vs H Q _ => ∃ dk g m k, vs = [.ref dk, .int m, .int k] ∧ Deck H dk g ∧ 3 ≤ m ∧ m ≤ 5 ∧ 0 ≤ k ∧ k ≤ 5 ∧ NetPost dk g H Q
theorem ok_law_net {P : Program} {w : World} {K : PySem.W.Frag} {mg : Str → Option Value} {base : Heap} {f : Addr} {fd : FuncData} (F : L2.Fun K "_law_net" "_law_net" s_law_net f fd) (B : Bn mg)
    (C_law_draw : C8.Cal P w K mg base 1 "_law_draw" (sp_law_draw K) [])
    (C_law_mixed : C8.Cal P w K mg base 2 "_law_mixed" (sp_law_mixed K) [])
    (C_law_pick : C8.Cal P w K mg base 2 "_law_pick" (sp_law_pick K) []) :
    FnOk P w K mg base CX0 3 f fd ["_law_deck_here", "_law_many_here", "_law_more"] (sp_law_net K) := by
  refine F.ok (k := 2) sc_law_net (fun vs H Q E h => ?_) (fun cdv A outer s H vs Q E hr h => ?_)
  · obtain ⟨_, _, _, _, rfl, _⟩ := h
    rfl
  · obtain ⟨dk, g, m, k, rfl, hD, m3, m5, k0, k5, q⟩ := h
    have hu := hu_of hr
    refine ⟨_, (pss_cons (ps_set (i := 3) sc_law_net.nd rfl (Or.inl rfl) (pe_op op_cat (pe_op op_cat (pe_lst (pa_cons pe_int pa_nil)) (pe_lc (own := [("_law_place", 8)]) rfl sc_law_net.nd (pi_range2 (by rfl) B.range (pa_cons pe_int (pa_cons (pe_op op_sub (pv 1) pe_int) pa_nil))) (blkOk_by (own := [("_law_place", 8)]) (N := N_law_net) (sc := defScope s_law_net) (by decide +kernel)) (fun _ _ _ _ _ => (pg_name (i := 8) sc_law_net.nd rfl (Or.inl rfl))) (fun _ _ _ _ _ => (pts_one (pt_cmpR op_gt (C8.pe_c C_law_draw hr (by decide) (by rfl) (pa_cons (pv 0) (pa_cons pe_int pa_nil))) pe_int (nomark _)))) (fun _ _ _ _ _ => (pv 8)))) (pe_lst (pa_cons (pe_op op_sub (pv 1) pe_int) pa_nil))))
          (pss_cons (ps_set (i := 4) sc_law_net.nd rfl (Or.inl rfl) (pe_zipL rfl (by rfl) B.list (by rfl) B.zip (pa_cons (pv 3) (pa_cons (pe_slice sl_list (pv 3) (po_some pe_int) po_none) pa_nil))))
          (pss_cons (ps_for PassesOwn.never rfl (pi_range1 (by rfl) B.range (pa_cons (pv 2) pa_nil)) (pg_name (i := 5) sc_law_net.nd rfl (Or.inl rfl)) (pss_cons (ps_set (i := 6) sc_law_net.nd rfl (Or.inl rfl) (C8.pe_c C_law_draw hr (by decide) (by rfl) (pa_cons (pv 0) (pa_cons (pe_op op_sub (pv 1) pe_int) pa_nil))))
          (pss_cons (ps_set (i := 7) sc_law_net.nd rfl (Or.inl rfl) (pe_op op_add (pe_op op_add (pv 6) pe_int) (C8.pe_c C_law_draw hr (by decide) (by rfl) (pa_cons (pv 0) (pa_cons (pe_op op_sub (pe_op op_sub (pv 1) pe_int) (pv 6)) pa_nil)))))
          (pss_one (ps_expr (pe_bm PySem.F.plainAttrs_list PySem.F.slot_list_append PySem.F.type_list_append mt_append (pv 4) (pa_cons (pe_ifExp (pt_cmpR op_eq (C8.pe_c C_law_draw hr (by decide) (by rfl) (pa_cons (pv 0) (pa_cons pe_int pa_nil))) pe_int (nomark _)) (C8.pe_c C_law_pick hr (by decide) (by rfl) (pa_cons (pv 0) (pa_cons (pv 4) pa_nil))) (pe_tup (pa_cons (pv 6) (pa_cons (pv 7) pa_nil)))) pa_nil)))))))
          (pss_one (ps_ret (pe_tup (pa_cons (pv 1) (pa_cons (pe_callTy call_tuple_of (by rfl) B.tuple (by decide +kernel) (pa_cons (C8.pe_c C_law_mixed hr (by decide) (by rfl) (pa_cons (pv 0) (pa_cons (pv 4) pa_nil))) pa_nil)) pa_nil)))))))), ?_⟩
    refine ⟨by show 1 ≤ sizeLine; decide, fun z1 nz1 => ?_⟩
    have x1 := Evl.Ex.new (o := .lst [.int 0]) nz1
    have D1 := hD.ex x1
    have ap1 := hD.apart nz1
    have hz1 := upd_same (H := H) (a := z1) (o := .lst [.int 0])
    generalize upd H z1 (.lst [.int 0]) = H1 at x1 D1 hz1
    refine ⟨_, rfl, m, 1, rfl, rfl, 1, m - 1, rfl, ⟨by omega, by omega, by omega, by omega⟩, fun D nD => ?_⟩
    have apD := D1.apart nD
    refine lc_it (walk_range (lo := 1) (n := (m - 1 - 1).toNat)) (fun i H' => Mo [dk, g] H1 H' ∧ Deck H' dk g ∧ ∃ as : List Int, H' D = some (.lst (vi as)) ∧ as.length ≤ i ∧ as.Pairwise (· < ·) ∧ ∀ z ∈ as, 1 ≤ z ∧ z < 1 + (i : Int)) ⟨mo_new nD, D1.ex (Evl.Ex.new nD), [], upd_same, by simp, .nil, by simp⟩ (fun i H' _ pv => trivial) (fun i x H' H2 hi pv y => ?_) fun H2 pv => ?_
    · obtain ⟨mo, D', as, hD2, hl, hs, hb⟩ := pv
      obtain ⟨rfl, rfl⟩ := y
      refine ⟨rfl, ?_⟩
      refine ⟨.ref dk, rfl, dk, g, 3, rfl, D', by omega, fun r H3 mo3 D3 r0 r1 => ⟨_, _, rfl, rfl, _, rfl, itB (fun _ => ?_) (fun _ => ?_)⟩⟩
      · have h3 := mo3 _ _ apD hD2
        refine ⟨_, rfl, _, h3, sz_lt (by simp [vi]; omega), upd_mo (mo.trans mo3) nD, D3.beside apD, as ++ [1 + (i : Int)], by rw [upd_same]; simp [vi], by simp; omega, ?_, fun z hz => ?_⟩
        · rw [List.pairwise_append]
          refine ⟨hs, by simp, fun a ha b hb2 => ?_⟩
          rw [List.mem_singleton.mp hb2]; exact (hb a ha).2
        · rcases List.mem_append.mp hz with hz | hz
          · have := hb z hz; omega
          · rw [List.mem_singleton.mp hz]; omega
      · exact ⟨mo.trans mo3, D3, as, mo3 _ _ apD hD2, by omega, hs, fun z hz => by have := hb z hz; omega⟩
    · obtain ⟨mo, D2, as, hD2, hl, hs, hb⟩ := pv
      have ml : (m - 1 - 1).toNat ≤ 3 := by omega
      have hz2 := mo _ _ ap1 hz1
      have mH2 : Mo [dk, g] H H2 := (mo_ex x1).trans mo
      refine ⟨z1, D, [.int 0], vi as, rfl, rfl, hz2, hD2, sz_of (by simp [vi]; omega), fun c1 nc1 => ?_⟩
      have y1 := Evl.Ex.new (o := .lst ([.int 0] ++ vi as)) nc1
      refine ⟨_, rfl, m, 1, rfl, rfl, by show 1 ≤ sizeLine; decide, fun c2 nc2 => ?_⟩
      have y2 := Evl.Ex.new (o := .lst [.int (m - 1)]) nc2
      refine ⟨c1, c2, _, _, rfl, rfl, y2 _ _ upd_same, upd_same, sz_of (by simp [vi]; omega), fun sp nsp => ?_⟩
      have y3 := Evl.Ex.new (o := .lst (([.int 0] ++ vi as) ++ [.int (m - 1)])) nsp
      generalize hSS : (0 :: as ++ [m - 1] : List Int) = S at *
      have eS : ([.int 0] ++ vi as) ++ [V.int (m - 1)] = vi S := by rw [← hSS]; simp [vi]
      have hsp := upd_same (H := upd (upd H2 c1 (.lst ([.int 0] ++ vi as))) c2 (.lst [.int (m - 1)])) (a := sp) (o := .lst (([.int 0] ++ vi as) ++ [.int (m - 1)]))
      have mH3 : Mo [dk, g] H (upd (upd (upd H2 c1 (.lst ([.int 0] ++ vi as))) c2 (.lst [.int (m - 1)])) sp (.lst (([.int 0] ++ vi as) ++ [.int (m - 1)]))) := mH2.trans (mo_ex (y1.trans (y2.trans y3)))
      have D3 := D2.ex (y1.trans (y2.trans y3))
      generalize upd (upd (upd H2 c1 (.lst ([.int 0] ++ vi as))) c2 (.lst [.int (m - 1)])) sp (.lst (([.int 0] ++ vi as) ++ [.int (m - 1)])) = H3 at hsp mH3 D3
      rw [eS] at hsp
      have Sl : S.length = as.length + 2 := by rw [← hSS]; simp
      have S0 : S[0]? = some 0 := by rw [← hSS]; rfl
      have Se : S[as.length + 1]? = some (m - 1) := by rw [← hSS]; simp
      have Sp : S.Pairwise (· < ·) := by
        rw [← hSS, List.cons_append, List.pairwise_cons]
        refine ⟨fun z hz => ?_, ?_⟩
        · rcases List.mem_append.mp hz with hz | hz
          · have := hb z hz; omega
          · rw [List.mem_singleton.mp hz]; omega
        · rw [List.pairwise_append]
          refine ⟨hs, by simp, fun a ha b hb2 => ?_⟩
          rw [List.mem_singleton.mp hb2]
          have := hb a ha; omega
      have Sb : ∀ z ∈ S, 0 ≤ z ∧ z < m := fun z hz => by
        rw [← hSS] at hz
        rcases List.mem_append.mp hz with hz | hz
        · rcases List.mem_cons.mp hz with rfl | hz
          · omega
          · have := hb z hz; omega
        · rw [List.mem_singleton.mp hz]; omega
      refine ⟨.ref sp, rfl, .ref sp, rfl, 1, rfl, sp, vi S, rfl, sq_of hsp, fun c nc => ?_⟩
      have y4 := Evl.Ex.new (o := .lst (cutV (vi S) (some 1) none)) nc
      refine ⟨sp, c, vi S, _, rfl, sq_of (y4 _ _ hsp), sq_of upd_same, fun H4 p ts same np0 hlen _ hp hts => ?_⟩
      have e4 : Ex H3 H4 := y4.trans same
      have npH3 : H3 p = none := fresh_back y4 np0
      have np : H p = none := fresh_mo mH3 (D3.apart npH3) npH3
      rw [cut_tail] at hlen hts
      have tl : ts.length = as.length + 1 := by rw [hlen]; simp [vi]; omega
      have hP0 : All2 (Pr H4) (ts.map V.ref) ((List.range ts.length).map fun j => (S.getD j 0, S.getD (j + 1) 0)) := ⟨by simp, fun j x y ex ey => by
        rw [List.getElem?_map] at ex ey
        cases et : ts[j]? with
        | none => rw [et] at ex; cases ex
        | some t =>
          rw [et] at ex
          have hj := (List.getElem?_eq_some_iff.mp et).1
          rw [List.getElem?_range hj] at ey
          cases ex; cases ey
          obtain ⟨a, b, ha, hb2, ht⟩ := hts j t et
          obtain ⟨za, ea, rfl⟩ := vi_at ha
          rw [List.getElem?_drop, Nat.add_comm 1 j] at hb2
          obtain ⟨zb, eb, rfl⟩ := vi_at hb2
          refine ⟨t, rfl, ?_⟩
          rw [ht]
          dsimp only
          rw [getD_of ea, getD_of eb]⟩
      generalize hPP : ((List.range ts.length).map fun j => (S.getD j 0, S.getD (j + 1) 0)) = P0 at hP0
      have hP0l : P0.length = as.length + 1 := by rw [← hPP]; simp [tl]
      have hcons : ∀ j a b, S[j]? = some a → S[j + 1]? = some b → (a, b) ∈ P0 := fun j a b h1 h2 => by
        rw [← hPP, List.mem_map]
        have := (List.getElem?_eq_some_iff.mp h2).1
        exact ⟨j, List.mem_range.mpr (by omega), by rw [getD_of h1, getD_of h2]⟩
      have hpg0 : PG m P0 := fun z hz => by
        rw [← hPP, List.mem_map] at hz
        obtain ⟨j, hj, rfl⟩ := hz
        have hj := List.mem_range.mp hj
        have l1 : j < S.length := by omega
        have l2 : j + 1 < S.length := by omega
        have g1 := List.getElem?_eq_getElem l1
        have g2 := List.getElem?_eq_getElem l2
        rw [getD_of g1, getD_of g2]
        have lt := List.pairwise_iff_getElem.mp Sp j (j + 1) l1 l2 (by omega)
        exact ⟨(Sb _ (List.getElem_mem l1)).1, lt, (Sb _ (List.getElem_mem l2)).2⟩
      have app := hD.apart np
      refine ⟨_, rfl, k, rfl, by omega, by omega, ?_⟩
      refine for_it (walk_range0 (n := k.toNat)) (fun i σ H' => ∃ y5 y6 y7 y8 ps P, σ = [some (.ref dk), some (.int m), some (.int k), some (.ref sp), some (.ref p), y5, y6, y7, y8] ∧ Mo [dk, g] H H' ∧ Deck H' dk g ∧ H' p = some (.lst ps) ∧ All2 (Pr H') ps P ∧ P.length ≤ P0.length + i ∧ 1 ≤ P.length ∧ PG m P ∧ ∀ z ∈ P0, z ∈ P)
        ⟨_, _, _, _, _, P0, rfl, mH3.trans (mo_ex e4), D3.ex e4, hp, hP0, by omega, by omega, hpg0, fun _ h => h⟩ (fun i σ H' _ pv => trivial) (fun i x σ H' H5 hi pv y => ?_) fun σ H' pv => ?_
      · obtain ⟨y5, y6, y7, y8, ps, P, rfl, mo, D', hp, hP, hl', hne, hpg, hsub⟩ := pv
        obtain ⟨rfl, rfl⟩ := y
        have hps := hP.1
        refine ⟨_, rfl, _, rfl, m, 1, rfl, rfl, dk, g, m - 1, rfl, D', by omega, fun f1 H6 mo6 D6 f0 f2 => ?_⟩
        have hp6 := mo6 _ _ app hp
        refine ⟨_, rfl, f1, 1, rfl, rfl, _, rfl, _, rfl, m, 1, rfl, rfl, _, rfl, m - 1, f1, rfl, rfl, dk, g, m - 1 - f1, rfl, D6, by omega, fun r2 H7 mo7 D7 r20 r21 => ?_⟩
        refine ⟨f1 + 1, r2, rfl, rfl, ?_⟩
        have hp7 := mo7 _ _ app hp6
        refine ⟨_, rfl, .inl ⟨rfl, _, sq_of hp7⟩, _, rfl, dk, g, 4, rfl, D7, by omega, fun r3 H8 mo8 D8 r30 r31 => ?_⟩
        have hp8 := mo8 _ _ app hp7
        have mo8' : Mo [dk, g] H5 H8 := mo6.trans (mo7.trans mo8)
        have fin : ∀ (v : V) (z : Int × Int) (H9 : Hp), Mo [dk, g] H8 H9 → Deck H9 dk g → Pr H9 v z → 0 ≤ z.1 ∧ z.1 < z.2 ∧ z.2 < m → ∃ a5 a6 a7 a8 ps' P', [some (V.ref dk), some (.int m), some (.int k), some (.ref sp), some (.ref p), some (.int (i : Nat)), some (.int f1), some (.int (f1 + 1 + r2)), y8] = [some (.ref dk), some (.int m), some (.int k), some (.ref sp), some (.ref p), a5, a6, a7, a8] ∧ Mo [dk, g] H (upd H9 p (.lst (ps ++ [v]))) ∧ Deck (upd H9 p (.lst (ps ++ [v]))) dk g ∧ (upd H9 p (.lst (ps ++ [v]))) p = some (.lst ps') ∧ All2 (Pr (upd H9 p (.lst (ps ++ [v])))) ps' P' ∧ P'.length ≤ P0.length + (i + 1) ∧ 1 ≤ P'.length ∧ PG m P' ∧ ∀ z ∈ P0, z ∈ P' := fun v z H9 mo9 D9 hv hz => by
          have hp9 := mo9 _ _ app hp8
          have t9 : Tk H9 (upd H9 p (.lst (ps ++ [v]))) := tk_upd hp9 fun xs z => by cases z
          refine ⟨_, _, _, _, ps ++ [v], P ++ [z], rfl, upd_mo (mo.trans (mo8'.trans mo9)) np, D9.beside app, upd_same, ?_, by rw [List.length_append]; simp; omega, by rw [List.length_append]; simp, ?_, fun z hz => List.mem_append_left _ (hsub z hz)⟩
          · exact (all2_tk st_Pr ((D'.tk (mo8'.trans mo9)).trans t9) hP).snoc (st_Pr _ _ _ _ t9 hv)
          · intro w hw
            rcases List.mem_append.mp hw with hw | hw
            · exact hpg w hw
            · rw [List.mem_singleton.mp hw]; exact hz
        refine ⟨rfl, _, rfl, itB (fun _ => ?_) (fun _ => ?_)⟩
        · refine ⟨_, rfl, _, rfl, dk, g, p, ps, rfl, D8, app, .inl hp8, fun e => by rw [e] at hps; simp at hps; omega, by omega, fun x H9 mo9 D9 hx => ?_⟩
          obtain ⟨z, hz, hzr⟩ := hP.mem hx
          refine ⟨p, ps, x, rfl, rfl, mo9 _ _ app hp8, sz_lt (by omega), ?_⟩
          exact fin x z H9 mo9 D9 (st_Pr _ _ _ _ ((D'.tk mo8').trans (D8.tk mo9)) hzr) (hpg z hz)
        · refine ⟨_, rfl, _, rfl, by show 2 ≤ sizeLine; decide, fun T nT => ?_⟩
          have y1 := Evl.Ex.new (o := .tup [.int f1, .int (f1 + 1 + r2)]) nT
          refine ⟨p, ps, _, rfl, rfl, y1 _ _ hp8, sz_lt (by omega), ?_⟩
          exact fin (.ref T) (f1, f1 + 1 + r2) _ (mo_ex y1) (D8.ex y1) ⟨T, rfl, upd_same⟩ ⟨by omega, by show f1 < f1 + 1 + r2; omega, by show f1 + 1 + r2 < m; omega⟩
      · obtain ⟨y5, y6, y7, y8, ps, P, rfl, mo, D', hp, hP, hl', hne, hpg, hsub⟩ := pv
        have hps := hP.1
        refine ⟨_, rfl, _, rfl, _, rfl, dk, g, p, ps, rfl, D', .inl hp, by omega, fun x hx => ?_, fun a ys H6 mo6 D6 na ha perm => ?_⟩
        · obtain ⟨z, _, hz⟩ := hP.mem hx
          exact (gt_pr hz).le (by decide)
        · refine ⟨a, ys, rfl, .inl ⟨sq_of ha, fun l nl => ?_⟩⟩
          have y1 := Evl.Ex.new (o := .tup ys) nl
          refine ⟨by show 2 ≤ sizeLine; decide, fun n nn => ?_⟩
          have y2 := Evl.Ex.new (o := .tup [.int m, .ref l]) nn
          obtain ⟨R, pR, hR⟩ := (all2_tk st_Pr (D'.tk mo6) hP).perm perm
          refine q n m R _ (mo.trans (mo6.trans (mo_ex (y1.trans y2)))) (D6.ex (y1.trans y2)) ⟨l, ys, upd_same, y2 _ _ upd_same, all2_tk st_Pr (tk_ex (y1.trans y2)) hR⟩ ?_
          exact good_of (S := S) m3 m5 hpg (by omega) (fun j a b h1 h2 => hsub _ (hcons j a b h1 h2)) S0 Se pR
end K56


namespace K56
open PySem PySem.Spec PyProof.Rows L2 K56R
open Evl (Ex ex_l ex_t sq_of st_of fresh_back sz_of sz_lt)
theorem upto_ne {β : Type} {f : Nat → Bool} {v : Nat → β} : ∀ {n : Nat}, upto f v n ≠ [] ↔ ∃ r, r < n ∧ f r = true
  | 0 => ⟨fun h => absurd rfl h, fun ⟨r, h, _⟩ => by omega⟩
  | n + 1 => by
    cases h : f n with
    | true => rw [upto_yes h]; exact ⟨fun _ => ⟨n, by omega, h⟩, fun _ => by simp⟩
    | false =>
      rw [upto_no h, upto_ne]
      constructor
      · rintro ⟨r, a, b⟩; exact ⟨r, by omega, b⟩
      · rintro ⟨r, a, b⟩
        refine ⟨r, ?_, b⟩
        by_cases e : r = n
        · subst e; rw [h] at b; cases b
        · omega
theorem eqv_ints (ns : List Int) : PyData.eqv (.list (ns.map PyData.int)) (.list []) = decide (ns = []) := by
  cases ns <;> rfl
/-! ### home -/
def HomeOf (H : Hp) (d : Addr) (m : Int) (R : Arcs) : Prop := ∃ kvs : List (Key × V), H d = some (.dK kvs) ∧ ∀ z : Int, 0 ≤ z → z < m → ((valV kvs (.inl z)).isSome = true ↔ ∃ u, IsPath R z u (m - 1))
theorem home_step {m : Int} {R : Arcs} (N : NetOk m R) {z : Int} (h : z < m - 1) : (∃ u, IsPath R z u (m - 1)) ↔ ∃ r, r < R.length ∧ ft R r = z ∧ ∃ u, IsPath R (hd R r) u (m - 1) := by
  constructor
  · rintro ⟨u, hu⟩
    cases u with
    | nil => have : z = m - 1 := hu; omega
    | cons r u => exact ⟨r, hu.1, hu.2.1, u, hu.2.2⟩
  · rintro ⟨r, h1, h2, u, hu⟩
    exact ⟨r :: u, h1, h2, hu⟩
def sp_law_home (_ : PySem.W.Frag) : Sp := fun vs H Q _ => ∃ n m R, vs = [.ref n] ∧ Net H n m R ∧ GoodNet m R ∧ ∀ d H', Ex H H' → H d = none → HomeOf H' d m R → Q (.ref d) H'
theorem ok_law_home {P : Program} {w : World} {K : PySem.W.Frag} {mg : Str → Option Value} {base : Heap} {f : Addr} {fd : FuncData} (F : L2.Fun K "_law_home" "_law_home" s_law_home f fd) (B : Bn mg) :
    FnOk P w K mg base CX0 1 f fd ["_law_net_here"] (sp_law_home K) := by
  refine F.ok (k := 0) sc_law_home (fun vs H Q E h => ?_) (fun cdv A outer s H vs Q E hr h => ?_)
  · obtain ⟨_, _, _, rfl, _⟩ := h
    rfl
  · obtain ⟨n, m, R, rfl, ⟨r0, ps, h1, h2, h3⟩, hG, q⟩ := h
    have m3 := hG.m3
    have m5 := hG.m5
    have hlR := hG.len
    have hu := hu_of hr
    refine ⟨_, (pss_cons (ps_set (i := 1) sc_law_home.nd rfl (Or.inr rfl) (pe_disp (pps_cons (pe_op op_sub (pe_ix ix_tup (pv 0) pe_int (fun _ _ => rfl)) pe_int) pe_bl pps_nil) (by rfl) (by rfl) (fun z => by cases z) (by decide)))
          (pss_cons (ps_for PassesOwn.never rfl (pi_range3 (by rfl) B.range (pa_cons (pe_op op_sub (pe_ix ix_tup (pv 0) pe_int (fun _ _ => rfl)) pe_int) (pa_cons (pe_un un_neg pe_int) (pa_cons (pe_un un_neg pe_int) pa_nil)))) (pg_name (i := 2) sc_law_home.nd rfl (Or.inr rfl)) (pss_one (ps_if (pt_cmpR (op_neD hr.units) (pe_lc (own := [("_law_foot", 3), ("_law_head", 4)]) rfl sc_law_home.nd (pi_tup (pe_ix ix_tup (pv 0) pe_int (fun _ _ => rfl))) (blkOk_by (own := [("_law_foot", 3), ("_law_head", 4)]) (N := N_law_home) (sc := defScope s_law_home) (by decide +kernel)) (fun _ _ _ _ _ => (pg_tupK K (by rfl) (pgs_cons (pg_name (i := 3) sc_law_home.nd rfl (Or.inl rfl)) (pgs_cons (pg_name (i := 4) sc_law_home.nd rfl (Or.inl rfl)) pgs_nil)))) (fun _ _ _ _ _ => (pts_one (PW.pt (pw_and (pt_cmpR op_eq (pv 3) (pv 2) (nomark _)) (pw_and1 (pt_cmp (pc_din hu (pv 4) (pv 1)))))))) (fun _ _ _ _ _ => pe_int)) (pe_lst pa_nil) (nomark _)) (pss_one (ps_dput hu (pv 1) (pv 2) pe_bl rfl)) pss_nil)))
          (pss_one (ps_ret (pv 1))))), ?_⟩
    refine fun d nd => ?_
    have x0 := Evl.Ex.new (o := .dK []) nd
    refine ⟨.ref n, rfl, n, _, 0, .int m, rfl, rfl, st_of (x0 _ _ h1), rfl, m, 1, rfl, rfl, upd_same, [(.inl (m - 1), .bl true)], rfl, by simp, ?_⟩
    rw [upd_upd]
    have x1 := Evl.Ex.new (o := .dK (mergeK [] [(.inl (m - 1), .bl true)])) nd
    have hd1 : (upd H d (.dK (mergeK [] [(.inl (m - 1), .bl true)]))) d = some (.dK [(.inl (m - 1), .bl true)]) := by rw [upd_same]; rfl
    generalize upd H d (.dK (mergeK [] [(.inl (m - 1), .bl true)])) = H1 at x1 hd1
    refine ⟨.ref n, rfl, n, _, 0, .int m, rfl, rfl, st_of (x1 _ _ h1), rfl, m, 2, rfl, rfl, 1, rfl, 1, rfl, m - 2, -1, -1, (m - 2 - -1).toNat, rfl, RgC.neg (by omega) (by omega) (by omega) (by omega), ?_⟩
    refine for_it (walk_rangeC (lo := m - 2) (c := -1) (n := (m - 2 - -1).toNat)) (fun i σ H' => ∃ y2 y3 y4 kvs, σ = [some (.ref n), some (.ref d), y2, y3, y4] ∧ Ex H H' ∧ H' d = some (.dK kvs) ∧ kvs.length ≤ i + 1 ∧ (∀ z : Int, m - 1 - (i : Int) ≤ z → z < m → ((valV kvs (.inl z)).isSome = true ↔ ∃ u, IsPath R z u (m - 1))) ∧ ∀ z : Int, z < m - 1 - (i : Int) → valV kvs (.inl z) = none)
      ⟨none, none, none, _, rfl, x1, hd1, by simp, fun z z1 z2 => ?_, fun z z1 => ?_⟩ (fun i σ H' _ pv => trivial) (fun i x σ H' H2 hi pv y => ?_) fun σ H' pv => ?_
    · have : z = m - 1 := by omega
      subst this
      rw [valV_pos rfl]
      exact ⟨fun _ => ⟨[], rfl⟩, fun _ => rfl⟩
    · rw [valV_neg (by simp; omega), valV_nil]
    · obtain ⟨y2, y3, y4, kvs, rfl, ex, hdd, hl, hz, hno⟩ := pv
      obtain ⟨rfl, rfl⟩ := y
      dsimp only
      generalize hp : m - 2 + ((i : Nat) : Int) * -1 = p
      have hp2 : p = m - 2 - i := by omega
      have hp0 : 0 ≤ p := by omega
      refine ⟨.ref n, rfl, n, _, 1, .ref r0, rfl, rfl, st_of (ex _ _ h1), rfl, r0, rfl, ⟨_, st_of (ex _ _ h2)⟩, fun D nD => ?_⟩
      refine lc_it (walk_tup (xs := ps)) (Cx1 H2 IsI (upto (fun r => decide (ft R r = p) && (valV kvs (.inl (hd R r))).isSome) (fun _ => 1)) D) (cx_zero nD rfl) (fun j H' _ pv => st_of (pv.2.1 _ _ (ex _ _ h2))) (fun j x H' H3 hj pv y => ?_) fun H3 pv => ?_
      · obtain ⟨rfl, ey⟩ := y
        obtain ⟨z, ez, a, rfl, ha⟩ := h3.get' ey
        obtain ⟨g1, g2⟩ := ft_get ez
        refine ⟨a, _, rfl, st_of (pv.2.1 _ _ (ex _ _ ha)), rfl, _, _, rfl, _, _, rfl, rfl, rfl, ?_⟩
        refine ⟨_, rfl, _, rfl, rfl, _, rfl, itB (fun e => ?_) (fun e => ?_)⟩
        · refine ⟨_, rfl, _, rfl, d, _, rfl, DGet.k (k := .inl z.2) (pv.2.1 _ _ hdd), _, rfl, ?_⟩
          refine cx_turn st_I pv (Evl.Ex.refl _) ?_ (by rw [h3.1] at hj; omega) fun _ Q k => k _ _ (Evl.Ex.refl _) rfl
          have e2 : z.1 = p := V.int.inj (of_decide_eq_true e)
          rw [g1, g2, decide_eq_true e2]; rfl
        · refine cx_no st_I pv (Evl.Ex.refl _) (upto_no ?_)
          have e2 : z.1 ≠ p := fun q => of_decide_eq_false e (by rw [q])
          rw [g1, decide_eq_false e2]; rfl
      · obtain ⟨nD', ex3, acc, hD, hA⟩ := pv
        rw [all2_I, h3.1] at hA
        rw [hA] at hD
        refine ⟨Nat.zero_le _, fun t nt => ?_⟩
        have xt := Evl.Ex.new (o := .lst []) nt
        refine ⟨_, _, .lst (sq_of (xt _ _ hD)) (dp_ints _), .lst (sq_of upd_same) .nil, PySem.W.ke_shaped_ints _, shaped_nil, _, rfl, ?_⟩
        rw [eqv_ints]
        have e3 := ex3.trans xt
        have hd3 := e3 _ _ hdd
        have stp := home_step hG.ok (show p < m - 1 by omega)
        have mem : (∃ r, r < R.length ∧ (decide (ft R r = p) && (valV kvs (.inl (hd R r))).isSome) = true) ↔ ∃ u, IsPath R p u (m - 1) := by
          rw [stp]
          constructor
          · rintro ⟨r, hr, e⟩
            obtain ⟨e1, e2⟩ := Bool.and_eq_true_iff.mp e
            have e1 := of_decide_eq_true e1
            have := hG.ok.rd r hr
            exact ⟨r, hr, e1, (hz _ (by omega) (by omega)).mp e2⟩
          · rintro ⟨r, hr, e1, e2⟩
            have := hG.ok.rd r hr
            exact ⟨r, hr, Bool.and_eq_true_iff.mpr ⟨decide_eq_true e1, (hz _ (by omega) (by omega)).mpr e2⟩⟩
        refine itB (fun hb => ?_) (fun hb => ?_)
        · have hne : upto (fun r => decide (ft R r = p) && (valV kvs (.inl (hd R r))).isSome) (fun _ => (1 : Int)) R.length ≠ [] := by simpa using hb
          refine ⟨_, rfl, _, rfl, d, _, rfl, DPut.k (k := .inl p) hd3 (sz_lt (by omega)), ?_⟩
          refine ⟨_, _, _, _, rfl, upd_ex (ex.trans e3) nd, upd_same, by have := putK_len kvs (.inl p) (.bl true); omega, fun z z1 z2 => ?_, fun z z1 => by rw [valV_put, if_neg (by simp; omega)]; exact hno z (by omega)⟩
          rw [valV_put]
          by_cases e : z = p
          · rw [if_pos (by rw [e]), e]
            exact ⟨fun _ => mem.mp (upto_ne.mp hne), fun _ => rfl⟩
          · rw [if_neg (by simpa using e)]
            exact hz z (by omega) z2
        · have hne : upto (fun r => decide (ft R r = p) && (valV kvs (.inl (hd R r))).isSome) (fun _ => (1 : Int)) R.length = [] := by simpa using hb
          refine ⟨some (.int p), y3, y4, kvs, rfl, ex.trans e3, hd3, by omega, fun z z1 z2 => ?_, fun z z1 => hno z (by omega)⟩
          by_cases e : z = p
          · subst e
            rw [hno z (by omega)]
            refine ⟨fun h => (by cases h), fun h => ?_⟩
            exact absurd hne (upto_ne.mpr (mem.mpr h))
          · exact hz z (by omega) z2
    · obtain ⟨y2, y3, y4, kvs, rfl, ex, hdd, hl, hz, hno⟩ := pv
      exact ⟨_, rfl, q d H' ex nd ⟨kvs, hdd, fun z z1 z2 => hz z (by omega) z2⟩⟩
/-! ### walk -/
theorem path_len {m : Int} {R : Arcs} (N : NetOk m R) : ∀ {l : List Nat} {a b : Int}, IsPath R a l b → a + (l.length : Int) ≤ b
  | [], a, b, h => by have : a = b := h; simp; omega
  | r :: l, a, b, ⟨h1, h2, h3⟩ => by
    have := path_len N h3
    have := N.rd r h1
    simp only [List.length_cons]
    omega
theorem HomeOf.mo {H H' : Hp} {d : Addr} {m : Int} {R : Arcs} {ds : List Addr} (h : HomeOf H d m R) (n : d ∉ ds) (e : Mo ds H H') : HomeOf H' d m R := by
  obtain ⟨kvs, a, b⟩ := h
  exact ⟨kvs, e _ _ n a, b⟩
theorem vn_toI (l : List Nat) : vn l = vi (toI l) := vn_vi l
theorem toI_nil {l : List Nat} : toI l = [] ↔ l = [] := by simp [toI]
def sp_law_walk (_ : PySem.W.Frag) : Sp := fun vs H Q _ => ∃ dk g n h m R, vs = [.ref dk, .ref n, .ref h] ∧ Deck H dk g ∧ Net H n m R ∧ GoodNet m R ∧ HomeOf H h m R ∧ h ∉ [dk, g] ∧
  ∀ t l H', Mo [dk, g] H H' → Deck H' dk g → H' t = some (.tup (vn l)) → IsPath R 0 l (m - 1) → Q (.ref t) H'
theorem ok_law_walk {P : Program} {w : World} {K : PySem.W.Frag} {mg : Str → Option Value} {base : Heap} {f : Addr} {fd : FuncData} (F : L2.Fun K "_law_walk" "_law_walk" s_law_walk f fd) (B : Bn mg)
    (C_law_pick : C8.Cal P w K mg base 2 "_law_pick" (sp_law_pick K) []) :
    FnOk P w K mg base CX0 3 f fd ["_law_deck_here", "_law_net_here", "_law_home_here"] (sp_law_walk K) := by
  refine F.ok (k := 2) sc_law_walk (fun vs H Q E h => ?_) (fun cdv A outer s H vs Q E hr h => ?_)
  · obtain ⟨_, _, _, _, _, _, rfl, _⟩ := h
    rfl
  · obtain ⟨dk, g, n, h0, m, R, rfl, hD, hN, hG, hH, nh, q⟩ := h
    obtain ⟨r0, ps, h1, h2, h3⟩ := id hN
    have m3 := hG.m3
    have m5 := hG.m5
    have hlR := hG.len
    have hu := hu_of hr
    refine ⟨_, (pss_cons (ps_asg (pe_tup (pa_cons pe_int (pa_cons (pe_tup pa_nil) pa_nil))) (pg_tup (by rfl) (pgs_cons (pg_name (i := 3) sc_law_walk.nd rfl (Or.inr rfl)) (pgs_cons (pg_name (i := 4) sc_law_walk.nd rfl (Or.inl rfl)) pgs_nil))))
          (pss_cons (ps_for PassesOwn.never rfl (pi_range1 (by rfl) B.range (pa_cons (pe_op op_sub (pe_ix ix_tup (pv 1) pe_int (fun _ _ => rfl)) pe_int) pa_nil)) (pg_name (i := 5) sc_law_walk.nd rfl (Or.inl rfl)) (pss_cons (ps_setLc (i := 6) (own := [("_law_road", 7), ("_law_pair", 8)]) rfl sc_law_walk.nd rfl rfl (sw_true rfl rfl rfl (by decide +kernel)) (pi_enumT (by rfl) B.enumerate (pa_cons (pe_ix ix_tup (pv 1) pe_int (fun _ _ => rfl)) pa_nil)) (blkOk_by (own := [("_law_road", 7), ("_law_pair", 8)]) (N := N_law_walk) (sc := defScope s_law_walk) (by decide +kernel)) (fun _ _ _ _ _ => (pg_tupK K (by rfl) (pgs_cons (pg_name (i := 7) sc_law_walk.nd rfl (Or.inl rfl)) (pgs_cons (pg_name (i := 8) sc_law_walk.nd rfl (Or.inl rfl)) pgs_nil)))) (fun _ _ _ _ _ => (pts_one (PW.pt (pw_and (pt_cmpR op_eq (pe_ix (ix_tupK K) (pv 8) pe_int (fun _ _ => rfl)) (pv 3) (nomark _)) (pw_and1 (pt_cmp (pc_din hu (pe_ix (ix_tupK K) (pv 8) pe_int (fun _ _ => rfl)) (pv 2)))))))) (fun _ _ _ _ _ => (pv 7)))
          (pss_one (ps_if (pt_cmpR (op_neD hr.units) (pv 6) (pe_lst pa_nil) (nomark _)) (pss_cons (ps_set (i := 4) sc_law_walk.nd rfl (Or.inl rfl) (pe_op op_catA (pv 4) (pe_tup (pa_cons (C8.pe_c C_law_pick hr (by decide) (by rfl) (pa_cons (pv 0) (pa_cons (pv 6) pa_nil))) pa_nil))))
          (pss_one (ps_set (i := 3) sc_law_walk.nd rfl (Or.inr rfl) (pe_ix ix_tup (pe_ix ix_tup (pe_ix ix_tup (pv 1) pe_int (fun _ _ => rfl)) (pe_ix ix_tup (pv 4) (pe_un un_neg pe_int) (fun _ _ => rfl)) (fun _ _ => rfl)) pe_int (fun _ _ => rfl))))) pss_nil))))
          (pss_one (ps_ret (pv 4))))), ?_⟩
    refine ⟨Nat.zero_le _, fun z1 nz1 => ⟨by show 2 ≤ sizeLine; decide, fun T nT => ⟨T, _, rfl, st_of upd_same, rfl, _, _, rfl, _, _, rfl, rfl, ?_⟩⟩⟩
    have x1 := Evl.Ex.new (o := .tup []) nz1
    have x2 := Evl.Ex.new (o := .tup [.int 0, .ref z1]) nT
    refine ⟨.ref n, rfl, n, _, 0, .int m, rfl, rfl, st_of (x2 _ _ (x1 _ _ h1)), rfl, m, 1, rfl, rfl, m - 1, rfl, by omega, by omega, ?_⟩
    refine for_it (walk_range0 (n := (m - 1).toNat)) (fun i σ H' => ∃ z t y5 y6 y7 y8 l, σ = [some (.ref dk), some (.ref n), some (.ref h0), some (.int z), some (.ref t), y5, y6, y7, y8] ∧ Mo [dk, g] H H' ∧ Deck H' dk g ∧ H' t = some (.tup (vn l)) ∧ IsPath R 0 l z ∧ (∃ u, IsPath R z u (m - 1)) ∧ (z = m - 1 ∨ (i : Int) ≤ z))
      ⟨0, z1, none, none, none, none, [], rfl, mo_ex (x1.trans x2), hD.ex (x1.trans x2), x2 _ _ upd_same, rfl, hG.way, .inr (by omega)⟩ (fun i σ H' _ pv => trivial) (fun i x σ H' H2 hi pv y => ?_) fun σ H' pv => ?_
    · obtain ⟨z, t, y5, y6, y7, y8, l, rfl, mo, D2, ht, hp, hw, hz⟩ := pv
      obtain ⟨rfl, rfl⟩ := y
      have tk := hD.tk mo
      obtain ⟨kvs, hk, hkv⟩ := hH.mo nh mo
      have zle : z ≤ m - 1 := by obtain ⟨u, hu⟩ := hw; exact path_le hG.ok.up hu
      have z0 : 0 ≤ z := path_le hG.ok.up hp
      refine ⟨.ref n, rfl, n, _, 1, .ref r0, rfl, rfl, st_of (tk _ _ h1), rfl, r0, ps, rfl, st_of (tk _ _ h2), fun D nD => ?_⟩
      refine lc_it (walk_enumT (xs := ps)) (Cx1 H2 IsN (upto (fun r => decide (ft R r = z) && (valV kvs (.inl (hd R r))).isSome) (fun r => r)) D) (cx_zero nD rfl) (fun j H' _ pv => st_of (pv.2.1 _ _ (tk _ _ h2))) (fun j x H' H3 hj pv y => ?_) fun H3 pv => ?_
      · obtain ⟨T, x1, x2, rfl, nT, rfl, e1, e2⟩ := y
        cases e1
        obtain ⟨zz, ez, a, rfl, ha⟩ := h3.get' e2
        obtain ⟨g1, g2⟩ := ft_get ez
        have ex := Evl.Ex.new (o := .tup [.int (j : Nat), .ref a]) nT
        have ha2 := (pv.2.1.trans ex) _ _ (tk _ _ ha)
        refine ⟨T, _, rfl, st_of upd_same, rfl, _, _, rfl, _, _, rfl, rfl, rfl, ?_⟩
        refine ⟨_, rfl, a, _, 0, .int zz.1, rfl, rfl, st_of ha2, rfl, .int z, rfl, rfl, _, rfl, itB (fun e => ?_) (fun e => ?_)⟩
        · refine ⟨_, rfl, a, _, 1, .int zz.2, rfl, rfl, st_of ha2, rfl, .ref h0, rfl, h0, _, rfl, DGet.k (k := .inl zz.2) ((pv.2.1.trans ex) _ _ hk), _, rfl, ?_⟩
          refine cx_turn st_N pv ex ?_ (by rw [h3.1] at hj; omega) fun _ Q k => ⟨_, rfl, k _ _ (Evl.Ex.refl _) rfl⟩
          have e2 : zz.1 = z := V.int.inj (of_decide_eq_true e)
          rw [g1, g2, decide_eq_true e2]; rfl
        · refine cx_no st_N pv ex (upto_no ?_)
          have e2 : zz.1 ≠ z := fun q => of_decide_eq_false e (by rw [q])
          rw [g1, decide_eq_false e2]; rfl
      · obtain ⟨nD', ex3, acc, hD3, hA⟩ := pv
        rw [all2_N, h3.1] at hA
        generalize hL : upto (fun r => decide (ft R r = z) && (valV kvs (.inl (hd R r))).isSome) (fun r => r) R.length = L at hA
        have Lmem : ∀ r ∈ L, r < R.length ∧ ft R r = z ∧ (valV kvs (.inl (hd R r))).isSome = true := fun r hr => by
          rw [← hL] at hr
          unfold upto at hr
          rw [List.map_id'] at hr
          obtain ⟨a, b⟩ := List.mem_filter.mp hr
          obtain ⟨b1, b2⟩ := Bool.and_eq_true_iff.mp b
          exact ⟨List.mem_range.mp a, of_decide_eq_true b1, b2⟩
        have Lne : z < m - 1 → L ≠ [] := fun lt => by
          rw [← hL, upto_ne]
          obtain ⟨r, hr, e1, e2⟩ := (home_step hG.ok lt).mp hw
          have := hG.ok.rd r hr
          exact ⟨r, hr, Bool.and_eq_true_iff.mpr ⟨decide_eq_true e1, (hkv _ (by omega) (by omega)).mpr e2⟩⟩
        have Ll : L.length ≤ 14 := by
          rw [← hL]; exact Nat.le_trans (upto_len _ _ _) hlR
        rw [hA] at hD3
        have mo3 : Mo [dk, g] H H3 := mo.trans (mo_ex ex3)
        have D3 := D2.ex ex3
        refine ⟨.ref D, rfl, Nat.zero_le _, fun tt ntt => ?_⟩
        have xt := Evl.Ex.new (o := .lst []) ntt
        have hD4 := xt _ _ hD3
        have D4 := D3.ex xt
        have mo4 := mo3.trans (mo_ex (ds := [dk, g]) xt)
        refine ⟨_, _, .lst (sq_of (by rw [vn_toI] at hD4; exact hD4)) (dp_ints _), .lst (sq_of upd_same) .nil, PySem.W.ke_shaped_ints _, shaped_nil, _, rfl, ?_⟩
        rw [eqv_ints]
        have nD4 : (upd H3 tt (.lst [])) D ≠ none := by rw [hD4]; simp
        have apD : D ∉ [dk, g] := D2.apart nD
        have ht4 := (xt _ _ (ex3 _ _ ht))
        generalize upd H3 tt (.lst []) = H4 at hD4 D4 mo4 ht4
        refine itB (fun hb => ?_) (fun hb => ?_)
        · have hne : L ≠ [] := fun e => by rw [e] at hb; exact absurd hb (by decide)
          have zlt : z < m - 1 := by
            obtain ⟨r, hr⟩ := List.exists_mem_of_ne_nil L hne
            obtain ⟨a, b, _⟩ := Lmem r hr
            have := hG.ok.rd r a
            omega
          refine ⟨.ref t, rfl, .ref dk, rfl, .ref D, rfl, dk, g, D, vn L, rfl, D4, apD, .inl hD4, by simpa [vn] using hne, by simp [vn]; omega, fun x H5 mo5 D5 hx => ?_⟩
          obtain ⟨r, hr, rfl⟩ := List.mem_map.mp hx
          obtain ⟨r1, r2, r3⟩ := Lmem r hr
          have tk5 : Tk H4 H5 := D4.tk mo5
          have tkH5 : Tk H H5 := hD.tk (mo4.trans mo5)
          refine ⟨by show 1 ≤ sizeLine; decide, fun T1 nT1 => ?_⟩
          have y1 := Evl.Ex.new (o := .tup [.int (r : Nat)]) nT1
          have D6 := D5.ex y1
          have mo6 := (mo4.trans mo5).trans (mo_ex (ds := [dk, g]) y1)
          have ht6 := y1 _ _ (tk5 _ _ ht4)
          have hrd := hG.ok.rd r r1
          have newp : IsPath R 0 (l ++ [r]) (hd R r) := path_app.mpr ⟨z, hp, r1, r2, rfl⟩
          refine ⟨t, T1, vn l, _, rfl, rfl, st_of ht6, st_of upd_same, sz_of (by
            have hl1 := path_len hG.ok hp
            simp [vn]; omega), fun e => ?gA, fun _ e => absurd e (by simp), fun _ _ p np => ?gB⟩
          case' gA =>
            have : l = [] := by simpa [vn] using e
            subst this
            have mo7 := mo6
            have D7 := D6
            have ht7 : (upd H5 T1 (.tup [.int (r : Nat)])) T1 = some (.tup (vn ([] ++ [r]))) := upd_same
          case' gB =>
            have mo7 := mo6.trans (mo_new (ds := [dk, g]) (o := .tup (vn l ++ [.int (r : Nat)])) np)
            have D7 := D6.ex (Evl.Ex.new (o := .tup (vn l ++ [.int (r : Nat)])) np)
            have ht7 : (upd (upd H5 T1 (.tup [.int (r : Nat)])) p (.tup (vn l ++ [.int (r : Nat)]))) p = some (.tup (vn (l ++ [r]))) := by rw [upd_same]; simp [vn]
          all_goals
            have tk7 := hD.tk mo7
            obtain ⟨vv, ev, b, rfl, hb2⟩ := h3.get (get_ft r1)
            refine ⟨.ref n, rfl, n, _, 1, .ref r0, rfl, rfl, st_of (tk7 _ _ h1), rfl, _, rfl, 1, rfl, _, _, -1, .int r, rfl, rfl, st_of ht7, ?_, r0, ps, r, .ref b, rfl, rfl, st_of (tk7 _ _ h2), atI_nat ev, b, _, 1, .int (hd R r), rfl, rfl, st_of (tk7 _ _ hb2), rfl, ?_⟩
            · rw [show ∀ l : List Nat, vn (l ++ [r]) = vn l ++ [.int (r : Nat)] from fun l => by simp [vn]]
              exact atI_last _ _
            · exact ⟨hd R r, _, _, _, _, _, _, rfl, mo7, D7, ht7, newp, (hkv _ (by omega) (by omega)).mp r3, by omega⟩
        · have : L = [] := by
            cases L with
            | nil => rfl
            | cons a b => exact absurd hb (by simp [toI])
          have zz : z = m - 1 := by
            by_cases e : z < m - 1
            · exact absurd this (Lne e)
            · omega
          exact ⟨z, t, _, _, _, _, l, rfl, mo4, D4, ht4, hp, hw, .inl zz⟩
    · obtain ⟨z, t, y5, y6, y7, y8, l, rfl, mo, D2, ht, hp, hw, hz⟩ := pv
      have zle : z ≤ m - 1 := by obtain ⟨u, hu⟩ := hw; exact path_le hG.ok.up hu
      have : z = m - 1 := by omega
      subst this
      exact ⟨_, rfl, q t l H' mo D2 ht hp⟩
end K56


namespace K56
open PySem PySem.Spec PyProof.Rows L2 K56R
open Evl (Ex ex_l ex_t sq_of st_of fresh_back sz_of sz_lt)
/-! ### people and their tally -/
theorem tYes_of {σ : L2.St} {H : Hp} {A B : Hp → Prop} (h : A H) : tYes σ H fun b H3 => if b = true then A H3 else B H3 := itT (q := B H) h
abbrev Pp := List Nat × Int
def PplR (H : Hp) (v : V) (p : Pp) : Prop := ∃ a t, v = .ref a ∧ H a = some (.tup [.ref t, .int p.2]) ∧ H t = some (.tup (vn p.1))
theorem st_Ppl : St PplR := fun _ _ _ _ t h => by obtain ⟨a, b, e, q, r⟩ := h; exact ⟨a, b, e, t _ _ q, t _ _ r⟩
theorem gt_vn {H : Hp} {t : Addr} {l : List Nat} (h : H t = some (.tup (vn l))) : GT H 1 (.ref t) := .tup h fun x hx => by
  obtain ⟨r, _, rfl⟩ := List.mem_map.mp hx
  exact .int _ _
theorem gt_ppl {H : Hp} {v : V} {p : Pp} (h : PplR H v p) : GT H 2 v := by
  obtain ⟨a, t, rfl, e, q⟩ := h
  refine .tup e fun x hx => ?_
  rcases List.mem_cons.mp hx with rfl | hx
  · exact gt_vn q
  · rw [List.mem_singleton.mp hx]; exact .int _ _
/-- how often a road is gone along -/
def used (pp : List Pp) (r : Nat) : Int := sm (fun p : Pp => p.2 * (p.1.count r : Int)) pp
def sp_law_tally (_ : PySem.W.Frag) : Sp := fun vs H Q _ => ∃ n m R a es pp, vs = [.ref n, .ref a] ∧ Net H n m R ∧ R.length ≤ 500 ∧ H a = some (.lst es) ∧ All2 (PplR H) es pp ∧ (∀ p ∈ pp, ∀ r ∈ p.1, r < R.length) ∧
  ∀ t c H', Ex H H' → H' t = some (.tup (vi c)) → c.length = R.length → (∀ r, r < R.length → cf c r = used pp r) → Q (.ref t) H'
theorem ok_law_tally {P : Program} {w : World} {K : PySem.W.Frag} {mg : Str → Option Value} {base : Heap} {f : Addr} {fd : FuncData} (F : L2.Fun K "_law_tally" "_law_tally" s_law_tally f fd) (B : Bn mg) :
    FnOk P w K mg base CX0 1 f fd ["_law_net_here", "_law_people_here"] (sp_law_tally K) := by
  refine F.ok (k := 0) sc_law_tally (fun vs H Q E h => ?_) (fun cdv A outer s H vs Q E hr h => ?_)
  · obtain ⟨_, _, _, _, _, _, rfl, _⟩ := h
    rfl
  · obtain ⟨n, m, R, a, es, pp, rfl, ⟨r0, ps, h1, h2, h3⟩, hl, ha, hA, hr', q⟩ := h
    have hu := hu_of hr
    refine ⟨_, (pss_cons (ps_set (i := 2) sc_law_tally.nd rfl (Or.inl rfl) (pe_op op_rep (pe_lst (pa_cons pe_int pa_nil)) (pe_callB call_len_seq (by rfl) B.len PySem.boot_len (pa_cons (pe_ix ix_tup (pv 0) pe_int (fun _ _ => rfl)) pa_nil))))
          (pss_cons (ps_for PassesOwn.never rfl (pi_list (pv 1)) (pg_tup (by rfl) (pgs_cons (pg_name (i := 3) sc_law_tally.nd rfl (Or.inl rfl)) (pgs_cons (pg_name (i := 4) sc_law_tally.nd rfl (Or.inl rfl)) pgs_nil))) (pss_one (ps_for PassesOwn.never rfl (pi_tup (pv 3)) (pg_name (i := 5) sc_law_tally.nd rfl (Or.inl rfl)) (pss_one (ps_asg (pe_op op_add (pe_ix ix_list (pv 2) (pv 5) (fun _ _ => rfl)) (pv 4)) (pg_sub (pv 2) (pv 5) set_list))))))
          (pss_one (ps_ret (pe_callTy call_tuple_of (by rfl) B.tuple (by decide +kernel) (pa_cons (pv 2) pa_nil)))))), ?_⟩
    refine ⟨by show 1 ≤ sizeLine; decide, fun z1 nz1 => ?_⟩
    have x1 := Evl.Ex.new (o := .lst [.int 0]) nz1
    refine ⟨.ref n, rfl, n, _, 1, .ref r0, rfl, rfl, st_of (x1 _ _ h1), rfl, r0, ps, rfl, .inr (st_of (x1 _ _ h2)), z1, _, [.int 0], rfl, rfl, upd_same, by rw [h3.1]; omega, by rw [h3.1]; omega, by rw [Int.toNat_natCast, h3.1]; exact sz_of (by simp; omega), fun d nd1 => ?_⟩
    rw [Int.toNat_natCast, rep_vi, h3.1]
    have nd : H d = none := fresh_back x1 nd1
    have x2 := Evl.Ex.new (o := .lst (vi (List.replicate R.length 0))) nd1
    refine ⟨.ref a, rfl, a, rfl, ⟨_, sq_of (x2 _ _ (x1 _ _ ha))⟩, ?_⟩
    refine for_it (walk_list (xs := es)) (fun i σ H' => ∃ y3 y4 y5 c, σ = [some (.ref n), some (.ref a), some (.ref d), y3, y4, y5] ∧ Ex H H' ∧ H' d = some (.lst (vi c)) ∧ c.length = R.length ∧ ∀ r, r < R.length → cf c r = used (pp.take i) r)
      ⟨none, none, none, _, rfl, x1.trans x2, upd_same, by simp, fun r hr => by rw [rep_cf]; rfl⟩ (fun i σ H' _ pv => ?_) (fun i x σ H' H2 hi pv y => ?_) fun σ H' pv => ?_
    · obtain ⟨_, _, _, _, _, e, _⟩ := pv
      exact sq_of (e _ _ ha)
    · obtain ⟨y3, y4, y5, c, rfl, ex, hd', hc, hcf⟩ := pv
      obtain ⟨rfl, ey⟩ := y
      obtain ⟨⟨l, k⟩, ep, b, t, rfl, hb, ht⟩ := hA.get' ey
      have hlr := hr' _ (List.mem_of_getElem? ep)
      have tk : pp.take (i + 1) = pp.take i ++ [(l, k)] := by rw [List.take_add_one, ep]; rfl
      refine ⟨b, _, rfl, st_of (ex _ _ hb), rfl, _, _, rfl, _, _, rfl, rfl, ?_⟩
      refine ⟨.ref t, rfl, t, rfl, ⟨_, st_of (ex _ _ ht)⟩, ?_⟩
      refine for_it (walk_tup (xs := vn l)) (fun j σ H' => ∃ y5 c, σ = [some (.ref n), some (.ref a), some (.ref d), some (.ref t), some (.int k), y5] ∧ Ex H H' ∧ H' d = some (.lst (vi c)) ∧ c.length = R.length ∧ ∀ r, r < R.length → cf c r = used (pp.take i) r + k * ((l.take j).count r : Int))
        ⟨_, c, rfl, ex, hd', hc, fun r hr => by rw [hcf r hr]; simp⟩ (fun j σ H' _ pv => ?_) (fun j x σ H' H3 hj pv y => ?_) fun σ H' pv => ?_
      · obtain ⟨_, _, _, e, _⟩ := pv
        exact st_of (e _ _ ht)
      · obtain ⟨y5, c, rfl, ex, hd', hc, hcf⟩ := pv
        obtain ⟨rfl, ey⟩ := y
        obtain ⟨r, er, rfl⟩ := vn_get ey
        have hrr := hlr r (List.mem_of_getElem? er)
        have hrc : r < c.length := by omega
        refine ⟨.ref d, rfl, _, rfl, d, _, r, _, rfl, rfl, sq_of hd', atI_nat (vi_get hrc), _, rfl, _, _, rfl, rfl, .ref d, rfl, .int r, rfl, d, _, r, r, rfl, rfl, hd', Evl.ixN_nat (by simpa [vi] using hrc), ?_⟩
        refine ⟨_, c.set r (cf c r + k), rfl, upd_ex ex nd, ?_, by simpa using hc, fun s hs => ?_⟩
        · rw [upd_same]; simp only [vi]; rw [List.map_set]
        · rw [cf_set hrc, List.take_add_one, er]
          show _ = used (pp.take i) s + k * ((l.take j ++ [r]).count s : Int)
          rw [List.count_append, Int.natCast_add, Int.mul_add]
          by_cases e : s = r
          · subst e
            rw [if_pos rfl, hcf s hs]; simp; omega
          · rw [if_neg e, hcf s hs, List.count_singleton, if_neg (by simpa using Ne.symm e)]; simp
      · obtain ⟨y5, c, rfl, ex, hd', hc, hcf⟩ := pv
        refine ⟨_, _, _, c, rfl, ex, hd', hc, fun r hr => ?_⟩
        have e : l.take (vn l).length = l := List.take_of_length_le (by simp [vn])
        rw [hcf r hr, tk, e]
        unfold used
        rw [sm_app]
        show _ = _ + (k * (l.count r : Int) + 0)
        omega
    · obtain ⟨y3, y4, y5, c, rfl, ex, hd', hc, hcf⟩ := pv
      refine ⟨.ref d, rfl, d, _, rfl, .inl ⟨sq_of hd', fun p np => ?_⟩⟩
      have xp := Evl.Ex.new (o := .tup (vi c)) np
      refine q p c _ (ex.trans xp) upd_same hc fun r hr => ?_
      rw [hcf r hr, List.take_of_length_le (by rw [hA.1]; exact Nat.le_refl _)]
def sp_law_people (_ : PySem.W.Frag) : Sp := fun vs H Q _ => ∃ dk g n m R k gr, vs = [.ref dk, .ref n, .int k, .int gr] ∧ Deck H dk g ∧ Net H n m R ∧ GoodNet m R ∧ 0 ≤ k ∧ k ≤ 6 ∧ 1 ≤ gr ∧ gr ≤ 10 ∧
  ∀ a es pp H', Mo [dk, g] H H' → Deck H' dk g → H a = none → H' a = some (.lst es) → All2 (PplR H') es pp → pp.length = k.toNat → (∀ p ∈ pp, IsPath R 0 p.1 (m - 1) ∧ 1 ≤ p.2 ∧ p.2 ≤ gr) → Q (.ref a) H'
theorem ok_law_people {P : Program} {w : World} {K : PySem.W.Frag} {mg : Str → Option Value} {base : Heap} {f : Addr} {fd : FuncData} (F : L2.Fun K "_law_people" "_law_people" s_law_people f fd) (B : Bn mg)
    (C_law_home : C8.Cal P w K mg base 1 "_law_home" (sp_law_home K) [])
    (C_law_walk : C8.Cal P w K mg base 3 "_law_walk" (sp_law_walk K) [])
    (C_law_draw : C8.Cal P w K mg base 1 "_law_draw" (sp_law_draw K) []) :
    FnOk P w K mg base CX0 4 f fd ["_law_deck_here", "_law_net_here", "_law_many_here", "_law_greatest"] (sp_law_people K) := by
  refine F.ok (k := 3) sc_law_people (fun vs H Q E h => ?_) (fun cdv A outer s H vs Q E hr h => ?_)
  · obtain ⟨_, _, _, _, _, _, _, rfl, _⟩ := h
    rfl
  · obtain ⟨dk, g, n, m, R, k, gr, rfl, hD, hN, hG, k0, k6, g1, g10, q⟩ := h
    have hu := hu_of hr
    refine ⟨_, (pss_cons (ps_set (i := 4) sc_law_people.nd rfl (Or.inr rfl) (C8.pe_c C_law_home hr (by decide) (by rfl) (pa_cons (pv 1) pa_nil)))
          (pss_one (ps_ret (pe_lc (own := [("_law_turn", 5)]) rfl sc_law_people.nd (pi_range1 (by rfl) B.range (pa_cons (pv 2) pa_nil)) (blkOk_by (own := [("_law_turn", 5)]) (N := N_law_people) (sc := defScope s_law_people) (by decide +kernel)) (fun _ _ _ _ _ => (pg_name (i := 5) sc_law_people.nd rfl (Or.inl rfl))) (fun _ _ _ _ _ => pts_nil) (fun _ _ _ _ _ => (pe_tup (pa_cons (C8.pe_c C_law_walk hr (by decide) (by rfl) (pa_cons (pv 0) (pa_cons (pv 1) (pa_cons (pv 4) pa_nil)))) (pa_cons (pe_op op_add pe_int (C8.pe_c C_law_draw hr (by decide) (by rfl) (pa_cons (pv 0) (pa_cons (pv 3) pa_nil)))) pa_nil)))))))), ?_⟩
    refine ⟨.ref n, rfl, n, m, R, rfl, hN, hG, fun h0 H1 e1 nh hH => ?_⟩
    have D1 := hD.ex e1
    have aph := hD.apart nh
    refine ⟨_, rfl, k, rfl, by omega, by omega, fun D nD => ?_⟩
    have apD := D1.apart nD
    refine lc_it (walk_range0 (n := k.toNat)) (fun i H' => Mo [dk, g] H1 H' ∧ Deck H' dk g ∧ ∃ es pp, H' D = some (.lst es) ∧ All2 (PplR H') es pp ∧ pp.length = i ∧ ∀ p ∈ pp, IsPath R 0 p.1 (m - 1) ∧ 1 ≤ p.2 ∧ p.2 ≤ gr) ⟨mo_new nD, D1.ex (Evl.Ex.new nD), [], [], upd_same, .nil, rfl, by simp⟩ (fun i H' _ pv => trivial) (fun i x H' H2 hi pv y => ?_) fun H2 pv => ?_
    · obtain ⟨mo, D2, es, pp, hD2, hA, hl, hp⟩ := pv
      obtain ⟨rfl, rfl⟩ := y
      refine ⟨rfl, tYes_of ?_⟩
      have tk := D1.tk mo
      refine ⟨_, rfl, _, rfl, _, rfl, dk, g, n, h0, m, R, rfl, D2, (hN.tk (tk_ex e1)).tk tk, hG, hH.mo aph mo, aph, fun t l H3 mo3 D3 ht hpl => ?_⟩
      refine ⟨_, rfl, _, rfl, dk, g, gr, rfl, D3, by omega, fun r H4 mo4 D4 r0 r1 => ⟨_, _, rfl, rfl, by show 2 ≤ sizeLine; decide, fun T nT => ?_⟩⟩
      have xT := Evl.Ex.new (o := .tup [.ref t, .int (1 + r)]) nT
      have h5 := xT _ _ (mo4 _ _ apD (mo3 _ _ apD hD2))
      have mo5 : Mo [dk, g] H2 (upd H4 T (.tup [.ref t, .int (1 + r)])) := mo3.trans (mo4.trans (mo_ex xT))
      refine ⟨es, h5, sz_lt (by rw [hA.1]; omega), ?_⟩
      have t6 : Tk (upd H4 T (.tup [.ref t, .int (1 + r)])) (upd (upd H4 T (.tup [.ref t, .int (1 + r)])) D (.lst (es ++ [.ref T]))) := tk_upd h5 fun xs z => by cases z
      refine ⟨upd_mo (mo.trans mo5) nD, (D4.ex xT).beside apD, _, pp ++ [(l, 1 + r)], upd_same, ?_, by simp; omega, fun p hpm => ?_⟩
      · refine (all2_tk st_Ppl ((D2.tk mo5).trans t6) hA).snoc ⟨T, t, rfl, t6 _ _ upd_same, t6 _ _ (xT _ _ (D3.tk mo4 _ _ ht))⟩
      · rcases List.mem_append.mp hpm with h | h
        · exact hp p h
        · rw [List.mem_singleton.mp h]
          exact ⟨hpl, by show 1 ≤ 1 + r; omega, by show 1 + r ≤ gr; omega⟩
    · obtain ⟨mo, D2, es, pp, hD2, hA, hl, hp⟩ := pv
      exact q D es pp H2 ((mo_ex e1).trans mo) D2 (fresh_back e1 nD) hD2 hA hl hp
end K56


namespace K56
open PySem PySem.Spec PyProof.Rows L2 K56R
open Evl (Ex ex_l ex_t sq_of st_of fresh_back sz_of sz_lt)
/-! ### all trips -/
def Inc (x y : List Nat) : Prop := ¬ x <+: y ∧ ¬ y <+: x
theorem Inc.symm {x y : List Nat} (h : Inc x y) : Inc y x := ⟨h.2, h.1⟩
theorem Inc.snoc {x l : List Nat} {r : Nat} (h : Inc x l) : Inc x (l ++ [r]) := by
  refine ⟨fun ⟨s, e⟩ => ?_, fun ⟨s, e⟩ => h.2 ⟨[r] ++ s, by rw [← e, List.append_assoc]⟩⟩
  cases hs : s.reverse with
  | nil =>
    have : s = [] := by simpa using hs
    subst this
    rw [List.append_nil] at e
    exact h.2 ⟨[r], e.symm⟩
  | cons y s' =>
    have : s = s'.reverse ++ [y] := by rw [← List.reverse_reverse s, hs]; simp
    subst this
    rw [← List.append_assoc] at e
    have := List.append_inj_left' e rfl
    exact h.1 ⟨s'.reverse, this⟩
theorem Inc.two {l : List Nat} {r s : Nat} (h : r ≠ s) : Inc (l ++ [r]) (l ++ [s]) := by
  have key : ∀ {r s : Nat}, r ≠ s → ¬ (l ++ [r]) <+: (l ++ [s]) := fun {r s} h p => by
    have e := p.eq_of_length (by simp)
    have := List.append_cancel_left e
    simp at this
    exact h this
  exact ⟨key h, key (Ne.symm h)⟩
def kids (R : Arcs) (p : Pp) : List Pp := (rf R p.2).map fun r => (p.1 ++ [r], hd R r)
structure Srch (m : Int) (R : Arcs) (T : List (List Nat)) (D : List Pp) : Prop where
  t : ∀ l ∈ T, IsPath R 0 l (m - 1)
  d : ∀ p ∈ D, IsPath R 0 p.1 p.2
  all : ∀ l, IsPath R 0 l (m - 1) → l ∈ T ∨ ∃ p ∈ D, p.1 <+: l
  inc : (T ++ D.map (·.1)).Pairwise Inc
theorem path_top {m : Int} {R : Arcs} (N : NetOk m R) : ∀ {l : List Nat} {a b : Int}, IsPath R a l b → a < m → b < m
  | [], a, b, h, k => by have : a = b := h; omega
  | r :: l, a, b, ⟨h1, h2, h3⟩, k => path_top N h3 (N.rd r h1).2.2
theorem Srch.step {m : Int} {R : Arcs} (N : NetOk m R) {T : List (List Nat)} {D : List Pp} {p : Pp} (h : Srch m R T (D ++ [p])) : Srch m R (if p.2 = m - 1 then T ++ [p.1] else T) (D ++ kids R p) := by
  have hp := h.d p (by simp)
  have km : ∀ q ∈ kids R p, ∃ r, r < R.length ∧ ft R r = p.2 ∧ q = (p.1 ++ [r], hd R r) := fun q hq => by
    obtain ⟨r, hr, e⟩ := List.mem_map.mp hq
    obtain ⟨a, b⟩ := mem_rf.mp hr
    exact ⟨r, a, b, e.symm⟩
  have k0 : p.2 = m - 1 → kids R p = [] := fun e => by
    unfold kids
    rw [List.map_eq_nil_iff]
    rw [List.eq_nil_iff_forall_not_mem]
    intro r hr
    obtain ⟨a, b⟩ := mem_rf.mp hr
    have := N.rd r a
    omega
  refine ⟨fun l hl => ?_, fun q hq => ?_, fun l hl => ?_, ?_⟩
  · by_cases e : p.2 = m - 1
    · rw [if_pos e] at hl
      rcases List.mem_append.mp hl with hl | hl
      · exact h.t l hl
      · rw [List.mem_singleton.mp hl, ← e]; exact hp
    · rw [if_neg e] at hl; exact h.t l hl
  · rcases List.mem_append.mp hq with hq | hq
    · exact h.d q (List.mem_append_left _ hq)
    · obtain ⟨r, a, b, rfl⟩ := km q hq
      exact path_app.mpr ⟨p.2, hp, a, b, rfl⟩
  · rcases h.all l hl with k | ⟨q, hq, k⟩
    · refine .inl ?_
      split
      · exact List.mem_append_left _ k
      · exact k
    · rcases List.mem_append.mp hq with hq | hq
      · exact .inr ⟨q, List.mem_append_left _ hq, k⟩
      · rw [List.mem_singleton.mp hq] at k
        obtain ⟨s, rfl⟩ := k
        obtain ⟨w, h1, h2⟩ := path_app.mp hl
        have hw := path_ends h1 hp
        subst hw
        cases s with
        | nil =>
          have e : p.2 = m - 1 := h2
          rw [if_pos e]
          exact .inl (by simp)
        | cons r s =>
          refine .inr ⟨(p.1 ++ [r], hd R r), List.mem_append_right _ (List.mem_map.mpr ⟨r, mem_rf.mpr ⟨h2.1, h2.2.1⟩, rfl⟩), s, by simp⟩
  · have hi := h.inc
    rw [List.map_append] at hi
    by_cases e : p.2 = m - 1
    · rw [if_pos e, k0 e, List.append_nil]
      refine (List.Perm.pairwise_iff (fun h => Inc.symm h) ?_).mp hi
      rw [List.append_assoc]
      exact List.Perm.append_left T List.perm_append_comm
    · rw [if_neg e, List.map_append, ← List.append_assoc, List.pairwise_append]
      rw [← List.append_assoc, List.pairwise_append] at hi
      obtain ⟨i1, _, i3⟩ := hi
      refine ⟨i1, ?_, fun a ha b hb => ?_⟩
      · unfold kids
        rw [List.map_map, List.pairwise_map]
        exact (rf_nodup R p.2).imp fun h => Inc.two h
      · obtain ⟨q, hq, rfl⟩ := List.mem_map.mp hb
        obtain ⟨r, _, _, rfl⟩ := km q hq
        exact (i3 a ha p.1 (by simp)).snoc
def wt (m : Int) (R : Arcs) (D : List Pp) : Nat := (D.map fun p => (R.length + 2) ^ (m - p.2).toNat).sum
theorem wt_app (m : Int) (R : Arcs) (D E : List Pp) : wt m R (D ++ E) = wt m R D + wt m R E := by simp [wt]
theorem wt_len (m : Int) (R : Arcs) : ∀ D : List Pp, D.length ≤ wt m R D
  | [] => Nat.zero_le _
  | p :: D => by
    have := wt_len m R D
    have h2 : 0 < (R.length + 2) ^ (m - p.2).toNat := Nat.pow_pos (by omega)
    show D.length + 1 ≤ (R.length + 2) ^ (m - p.2).toNat + wt m R D
    omega
theorem wt_kids {m : Int} {R : Arcs} (N : NetOk m R) (p : Pp) (hp : p.2 < m) : wt m R (kids R p) + 2 ≤ (R.length + 2) ^ (m - p.2).toNat := by
  obtain ⟨e, he⟩ : ∃ e, (m - p.2).toNat = e + 1 := ⟨(m - p.2).toNat - 1, by omega⟩
  have each : ∀ q ∈ kids R p, (R.length + 2) ^ (m - q.2).toNat ≤ (R.length + 2) ^ e := fun q hq => by
    obtain ⟨r, hr, rfl⟩ := List.mem_map.mp hq
    obtain ⟨a, b⟩ := mem_rf.mp hr
    have := N.rd r a
    exact Nat.pow_le_pow_right (by omega) (by show (m - hd R r).toNat ≤ e; omega)
  have sum : ∀ D : List Pp, (∀ q ∈ D, (R.length + 2) ^ (m - q.2).toNat ≤ (R.length + 2) ^ e) → wt m R D ≤ D.length * (R.length + 2) ^ e := by
    intro D
    induction D with
    | nil => intro _; simp [wt]
    | cons q D ih =>
      intro h
      have a := h q List.mem_cons_self
      have b := ih fun q hq => h q (List.mem_cons_of_mem _ hq)
      show (R.length + 2) ^ (m - q.2).toNat + wt m R D ≤ (D.length + 1) * _
      rw [Nat.add_mul]; omega
  have h1 := sum _ each
  have h2 : (kids R p).length ≤ R.length := by unfold kids; rw [List.length_map]; exact rf_len _ _
  have h3 : (kids R p).length * (R.length + 2) ^ e ≤ R.length * (R.length + 2) ^ e := Nat.mul_le_mul_right _ h2
  have h4 : 0 < (R.length + 2) ^ e := Nat.pow_pos (by omega)
  rw [he, Nat.pow_succ, Nat.mul_comm, Nat.add_mul]
  omega
def TrR (H : Hp) (v : V) (l : List Nat) : Prop := ∃ t, v = .ref t ∧ H t = some (.tup (vn l))
theorem st_Tr : St TrR := fun _ _ _ _ t h => by obtain ⟨b, e, q⟩ := h; exact ⟨b, e, t _ _ q⟩
def keyT (H : Hp) : V → List Int
  | .ref t => match H t with
    | some (.tup xs) => xs.map fun x => match x with
      | .int i => i
      | _ => 0
    | _ => []
  | _ => []
theorem tr_key {H : Hp} {v : V} {l : List Nat} (h : TrR H v l) : keyT H v = toI l := by
  obtain ⟨t, rfl, e⟩ := h
  unfold keyT
  simp only [e]
  unfold vn toI
  rw [List.map_map]
  rfl
def sp_law_trips (_ : PySem.W.Frag) : Sp := fun vs H Q _ => ∃ n m R, vs = [.ref n] ∧ Net H n m R ∧ GoodNet m R ∧
  ∀ a ys T H', Ex H H' → H a = none → H' a = some (.lst ys) → All2 (TrR H') ys T → T.Nodup → (∀ l, l ∈ T ↔ IsPath R 0 l (m - 1)) → T.length ≤ 1048576 → Q (.ref a) H'
theorem ok_law_trips {P : Program} {w : World} {K : PySem.W.Frag} {mg : Str → Option Value} {base : Heap} {f : Addr} {fd : FuncData} (F : L2.Fun K "_law_trips" "_law_trips" s_law_trips f fd) (B : Bn mg) :
    FnOk P w K mg base CX0 1 f fd ["_law_net_here"] (sp_law_trips K) := by
  refine F.ok (k := 0) sc_law_trips (fun vs H Q E h => ?_) (fun cdv A outer s H vs Q E hr h => ?_)
  · obtain ⟨_, _, _, rfl, _⟩ := h
    rfl
  · obtain ⟨n, m, R, rfl, hN, hG, q⟩ := h
    obtain ⟨r0, ps, h1, h2, h3⟩ := id hN
    have m3 := hG.m3
    have m5 := hG.m5
    have hlR := hG.len
    have hsz : 1048576 + 1048576 < sizeLine := by rw [PySem.sizeLine_eq]; decide
    have hu := hu_of hr
    refine ⟨_, (pss_cons (ps_par (i := 1) (j := 2) (by rfl) sc_law_trips.nd rfl rfl (by decide) rfl rfl (pa_cons (pe_lst pa_nil) (pa_cons (pe_lst (pa_cons (pe_tup (pa_cons (pe_tup pa_nil) (pa_cons pe_int pa_nil))) pa_nil)) pa_nil)) (by rfl))
          (pss_cons (ps_while PassesOwn.never (pt_cmpR (op_neD hr.units) (pv 2) (pe_lst pa_nil) (nomark _)) (pss_cons (ps_asg (pe_bm0 PySem.F.plainAttrs_list PySem.F.slot_list_pop PySem.F.type_list_pop mt_pop (pv 2)) (pg_tup (by rfl) (pgs_cons (pg_name (i := 3) sc_law_trips.nd rfl (Or.inr rfl)) (pgs_cons (pg_name (i := 4) sc_law_trips.nd rfl (Or.inr rfl)) pgs_nil))))
          (pss_cons (ps_if (pt_cmpR op_eq (pv 4) (pe_op op_sub (pe_ix ix_tup (pv 0) pe_int (fun _ _ => rfl)) pe_int) (nomark _)) (pss_one (ps_expr (pe_bm PySem.F.plainAttrs_list PySem.F.slot_list_append PySem.F.type_list_append mt_append (pv 1) (pa_cons (pv 3) pa_nil)))) pss_nil)
          (pss_one (ps_set (i := 2) sc_law_trips.nd rfl (Or.inl rfl) (pe_op op_cat (pv 2) (pe_lc (own := [("_law_road", 5), ("_law_pair", 6)]) rfl sc_law_trips.nd (pi_enumT (by rfl) B.enumerate (pa_cons (pe_ix ix_tup (pv 0) pe_int (fun _ _ => rfl)) pa_nil)) (blkOk_by (own := [("_law_road", 5), ("_law_pair", 6)]) (N := N_law_trips) (sc := defScope s_law_trips) (by decide +kernel)) (fun _ _ _ _ _ => (pg_tupK K (by rfl) (pgs_cons (pg_name (i := 5) sc_law_trips.nd rfl (Or.inl rfl)) (pgs_cons (pg_name (i := 6) sc_law_trips.nd rfl (Or.inl rfl)) pgs_nil)))) (fun _ _ _ _ _ => (pts_one (pt_cmpR op_eq (pe_ix (ix_tupK K) (pv 6) pe_int (fun _ _ => rfl)) (pv 4) (nomark _)))) (fun _ _ _ _ _ => (pe_tup (pa_cons (pe_op (op_catAK K) (pv 3) (pe_tup (pa_cons (pv 5) pa_nil))) (pa_cons (pe_ix (ix_tupK K) (pv 6) pe_int (fun _ _ => rfl)) pa_nil)))))))))))
          (pss_one (ps_ret (pe_callB cr_sortTs (by rfl) B.sorted (by decide +kernel) (pa_cons (pv 1) pa_nil)))))), ?_⟩
    refine ⟨Nat.zero_le _, fun a1 n1 => ⟨Nat.zero_le _, fun z0 nz0 => ⟨by show 2 ≤ sizeLine; decide, fun z1 nz1 => ⟨by show 1 ≤ sizeLine; decide, fun a2 n2 => ⟨_, _, rfl, ?_⟩⟩⟩⟩⟩
    have x1 := Evl.Ex.new (o := .lst []) n1
    have x2 := Evl.Ex.new (o := .tup []) nz0
    have x3 := Evl.Ex.new (o := .tup [.ref z0, .int 0]) nz1
    have x4 := Evl.Ex.new (o := .lst [.ref z1]) n2
    have n20 : H a2 = none := fresh_back (x1.trans (x2.trans x3)) n2
    have ne12 : a1 ≠ a2 := ne_of_none ((x2.trans x3) _ _ upd_same) n2
    have w0 : wt m R [([], 0)] ≤ 1048576 := by
      have e1 : (R.length + 2) ^ m.toNat ≤ 16 ^ 5 := Nat.le_trans (Nat.pow_le_pow_left (show R.length + 2 ≤ 16 by omega) _) (Nat.pow_le_pow_right (by decide) (by omega))
      have e2 : wt m R [([], 0)] = (R.length + 2) ^ m.toNat := by simp [wt]
      rw [e2]; exact e1
    refine ⟨fun mm σ H' => ∃ ts T a2 ds D y3 y4 y5 y6, σ = [some (.ref n), some (.ref a1), some (.ref a2), y3, y4, y5, y6] ∧ mm = wt m R D ∧ Ex H H' ∧ H a2 = none ∧ a1 ≠ a2 ∧ H' a1 = some (.lst ts) ∧ All2 (TrR H') ts T ∧ H' a2 = some (.lst ds) ∧ All2 (PplR H') ds D ∧ Srch m R T D ∧ T.length + wt m R D ≤ 1048576,
      ⟨_, [], [], a2, [.ref z1], [([], 0)], none, none, none, none, rfl, rfl, x1.trans (x2.trans (x3.trans x4)), n20, ne12, (x2.trans (x3.trans x4)) _ _ upd_same, .nil, upd_same, .cons ⟨z1, z0, rfl, x4 _ _ upd_same, x4 _ _ (x3 _ _ upd_same)⟩ .nil, ⟨by simp, fun p hp => ?_, fun l _ => .inr ⟨_, List.mem_singleton.mpr rfl, List.nil_prefix⟩, by simp⟩, by simpa using w0⟩, fun mm σ H' hw => ?_⟩
    · rw [List.mem_singleton.mp hp]; rfl
    obtain ⟨ts, T, a2, ds, D, y3, y4, y5, y6, rfl, rfl, ex, n20, ne12, ha1, hT, ha2, hDl, hS, hwt⟩ := hw
    refine ⟨_, rfl, Nat.zero_le _, fun t nt => ?_⟩
    have xt := Evl.Ex.new (o := .lst []) nt
    obtain ⟨dd, d1, d2, d3⟩ := gt_list (K := K) (n := 2) (xt _ _ ha2) (fun x hx => by
      obtain ⟨p, _, hp⟩ := hDl.mem hx
      exact (gt_ppl hp).tk (tk_ex xt)) (by decide)
    refine ⟨_, _, d1, .lst (sq_of upd_same) .nil, d2, shaped_nil, _, rfl, ?_⟩
    rw [d3]
    have exH := ex.trans xt
    have ha1 := xt _ _ ha1
    have ha2 := xt _ _ ha2
    have hT := all2_tk st_Tr (tk_ex xt) hT
    have hDl := all2_tk st_Ppl (tk_ex xt) hDl
    generalize upd H' t (.lst []) = H1 at exH ha1 ha2 hT hDl
    refine itB (fun hb => ?_) (fun hb => ?_)
    · have hne : ds ≠ [] := by simpa using hb
      have hDne : D ≠ [] := fun e => by
        have := hDl.1
        rw [e] at this
        exact hne (List.length_eq_zero_iff.mp this)
      obtain ⟨D', p, rfl⟩ : ∃ D' p, D = D' ++ [p] := ⟨D.dropLast, D.getLast hDne, (List.dropLast_concat_getLast hDne).symm⟩
      have hdl : ds.length = D'.length + 1 := by rw [hDl.1]; simp
      obtain ⟨v, ev, aa, tt, rfl, haa, htt⟩ := hDl.get (i := D'.length) (y := p) (by simp)
      have hDrop : All2 (PplR H1) ds.dropLast D' := ⟨by rw [List.length_dropLast]; omega, fun i x y e1 e2 => hDl.2 i x y (by
        have hi := (List.getElem?_eq_some_iff.mp e2).1
        rw [List.getElem?_dropLast, if_pos (by omega)] at e1; exact e1) (by
        have hi := (List.getElem?_eq_some_iff.mp e2).1
        rw [List.getElem?_append_left hi]; exact e2)⟩
      refine ⟨fun σ' H' => ∃ m', m' < wt m R (D' ++ [p]) ∧ _, fun σ' H' h => h, ?_⟩
      refine ⟨_, rfl, .inl ⟨rfl, _, sq_of ha2⟩, a2, ds, _, rfl, rfl, ha2, by rw [hdl]; exact ev, ?_⟩
      have tk2 : Tk H1 (upd H1 a2 (.lst ds.dropLast)) := tk_upd ha2 fun xs z => by cases z
      have ex2 : Ex H (upd H1 a2 (.lst ds.dropLast)) := upd_ex exH n20
      have ha12 : (upd H1 a2 (.lst ds.dropLast)) a1 = some (.lst ts) := by rw [upd_ne ne12]; exact ha1
      have ha22 := upd_same (H := H1) (a := a2) (o := .lst ds.dropLast)
      refine ⟨aa, _, rfl, st_of (tk2 _ _ haa), rfl, _, _, rfl, _, _, rfl, rfl, ?_⟩
      have hT2 := all2_tk st_Tr tk2 hT
      have hD2 := all2_tk st_Ppl tk2 hDrop
      have htt2 := tk2 _ _ htt
      generalize upd H1 a2 (.lst ds.dropLast) = H2 at ex2 ha12 ha22 hT2 hD2 htt2
      refine ⟨_, rfl, .ref n, rfl, n, _, 0, .int m, rfl, rfl, st_of (ex2 _ _ h1), rfl, m, 1, rfl, rfl, rfl, _, rfl, ?_⟩
      have hpp := hS.d p (by simp)
      have pz : p.2 < m := path_top hG.ok hpp (by omega)
      have pz0 : 0 ≤ p.2 := path_le hG.ok.up hpp
      have hS' := hS.step hG.ok
      have wk := wt_kids hG.ok p pz
      have hwt2 : T.length + (wt m R D' + (R.length + 2) ^ (m - p.2).toNat) ≤ 1048576 := by
        rw [wt_app] at hwt
        simpa [wt] using hwt
      have wD : wt m R (D' ++ [p]) = wt m R D' + (R.length + 2) ^ (m - p.2).toNat := by rw [wt_app]; simp [wt]
      have lD := wt_len m R D'
      have plen : p.1.length ≤ 5 := by have := path_len hG.ok hpp; omega
      refine itB (fun hb2 => ?gA) (fun hb2 => ?gB)
      case' gA =>
        have e : p.2 = m - 1 := V.int.inj (of_decide_eq_true hb2)
        rw [if_pos e] at hS'
        refine ⟨_, rfl, .inl ⟨rfl, _, sq_of ha12⟩, _, rfl, a1, ts, _, rfl, rfl, ha12, by rw [hT2.1]; omega, ?_⟩
        have tk3 : Tk H2 (upd H2 a1 (.lst (ts ++ [.ref tt]))) := tk_upd ha12 fun xs z => by cases z
        have ex3 : Ex H (upd H2 a1 (.lst (ts ++ [.ref tt]))) := upd_ex ex2 n1
        have hT3 : All2 (TrR (upd H2 a1 (.lst (ts ++ [.ref tt])))) (ts ++ [.ref tt]) (T ++ [p.1]) := (all2_tk st_Tr tk3 hT2).snoc ⟨tt, rfl, tk3 _ _ htt2⟩
        have hD3 := all2_tk st_Ppl tk3 hD2
        have htt3 := tk3 _ _ htt2
        have ha13 := upd_same (H := H2) (a := a1) (o := .lst (ts ++ [.ref tt]))
        have ha23 : (upd H2 a1 (.lst (ts ++ [.ref tt]))) a2 = some (.lst ds.dropLast) := by rw [upd_ne (Ne.symm ne12)]; exact ha22
        have hTl : (T ++ [p.1]).length ≤ T.length + 1 := by simp
        generalize upd H2 a1 (.lst (ts ++ [.ref tt])) = H3 at ex3 hT3 hD3 htt3 ha13 ha23
        generalize ts ++ [.ref tt] = ts3 at hT3 ha13
        generalize T ++ [p.1] = T3 at hS' hT3 hTl
      case' gB =>
        have e : p.2 ≠ m - 1 := fun e => of_decide_eq_false hb2 (by rw [e])
        rw [if_neg e] at hS'
        have ex3 := ex2
        have hT3 := hT2
        have hD3 := hD2
        have htt3 := htt2
        have ha13 := ha12
        have ha23 := ha22
        have hTl : T.length ≤ T.length + 1 := by omega
      all_goals
        refine ⟨_, rfl, ?_⟩
        refine ⟨.ref n, rfl, n, _, 1, .ref r0, rfl, rfl, st_of (ex3 _ _ h1), rfl, r0, ps, rfl, st_of (ex3 _ _ h2), fun D1 nD1 => ?_⟩
        refine lc_it (walk_enumT (xs := ps)) (Cx1 _ PplR (upto (fun r => decide (ft R r = p.2)) (fun r => (p.1 ++ [r], hd R r))) D1) (cx_zero nD1 rfl) (fun j H' _ pv => st_of (pv.2.1 _ _ (ex3 _ _ h2))) (fun j x H' H4 hj pv y => ?_) fun H4 pv => ?_
        · obtain ⟨T1, x1, x2, rfl, nT, rfl, e1, e2⟩ := y
          cases e1
          obtain ⟨zz, ez, a, rfl, ha⟩ := h3.get' e2
          obtain ⟨g1, g2⟩ := ft_get ez
          have ex := Evl.Ex.new (o := .tup [.int (j : Nat), .ref a]) nT
          have ha2 := (pv.2.1.trans ex) _ _ (ex3 _ _ ha)
          refine ⟨T1, _, rfl, st_of upd_same, rfl, _, _, rfl, _, _, rfl, rfl, rfl, ?_⟩
          refine ⟨_, rfl, a, _, 0, .int zz.1, rfl, rfl, st_of ha2, rfl, .int p.2, rfl, rfl, _, rfl, ?_⟩
          refine cx_turn st_Ppl pv ex ?_ (by rw [h3.1] at hj; omega) fun _ Q k => ?_
          · rw [g1]; simp
          refine ⟨_, rfl, _, rfl, by show 1 ≤ sizeLine; decide, fun T2 nT2 => ?_⟩
          have y1 := Evl.Ex.new (o := .tup [.int (j : Nat)]) nT2
          have htt4 := (pv.2.1.trans (ex.trans y1)) _ _ htt3
          refine ⟨tt, T2, vn p.1, _, rfl, rfl, st_of htt4, st_of upd_same, sz_of (by simp [vn]; omega), fun e => ?_, fun _ e => absurd e (by simp), fun _ _ p2 np2 => ?_⟩
          · have e2 : p.1 = [] := by simpa [vn] using e
            refine ⟨.ref a, rfl, a, _, 1, .int zz.2, rfl, rfl, st_of (y1 _ _ ha2), rfl, by show 2 ≤ sizeLine; decide, fun T3 nT3 => ?_⟩
            have y2 := Evl.Ex.new (o := .tup [.ref T2, .int zz.2]) nT3
            refine k _ _ (y1.trans y2) ⟨T3, T2, rfl, ?_, ?_⟩
            · rw [upd_same, g2]
            · rw [e2]; exact y2 _ _ upd_same
          · have y2 := Evl.Ex.new (o := .tup (vn p.1 ++ [.int (j : Nat)])) np2
            refine ⟨.ref a, rfl, a, _, 1, .int zz.2, rfl, rfl, st_of (y2 _ _ (y1 _ _ ha2)), rfl, by show 2 ≤ sizeLine; decide, fun T3 nT3 => ?_⟩
            have y3 := Evl.Ex.new (o := .tup [.ref p2, .int zz.2]) nT3
            refine k _ _ (y1.trans (y2.trans y3)) ⟨T3, p2, rfl, ?_, ?_⟩
            · rw [upd_same, g2]
            · have := y3 _ _ (upd_same (H := upd _ T2 (.tup [.int (j : Nat)])) (a := p2) (o := .tup (vn p.1 ++ [.int (j : Nat)])))
              rw [show vn (p.1 ++ [j]) = vn p.1 ++ [.int (j : Nat)] by simp [vn]]
              exact this
        · obtain ⟨nD', ex4, acc, hD4, hA⟩ := pv
          rw [h3.1] at hA
          have hA2 : All2 (PplR H4) acc (kids R p) := by
            have : upto (fun r => decide (ft R r = p.2)) (fun r => (p.1 ++ [r], hd R r)) R.length = kids R p := by
              unfold kids rf upto
              rw [List.map_id']
            rw [← this]; exact hA
          have lk := wt_len m R (kids R p)
          refine ⟨a2, D1, _, acc, rfl, rfl, ex4 _ _ ha23, hD4, by rw [hD3.1, hA2.1]; omega, fun a3 na3 => ?_⟩
          have y5 := Evl.Ex.new (o := .lst (ds.dropLast ++ acc)) na3
          have ex5 := ex4.trans y5
          have na30 : H a3 = none := fresh_back (ex3.trans ex4) na3
          refine ⟨wt m R (D' ++ kids R p), by rw [wD, wt_app]; omega, _, _, a3, _, D' ++ kids R p, _, _, _, _, rfl, rfl, ex3.trans ex5, na30, ne_of_none (ex4 _ _ ha13) na3, ex5 _ _ ha13, all2_tk st_Tr (tk_ex ex5) hT3, upd_same, (all2_tk st_Ppl (tk_ex ex5) hD3).app (all2_tk st_Ppl (tk_ex y5) hA2), hS', ?_⟩
          rw [wt_app]; omega
    · have hne : ds = [] := by simpa using hb
      have hDe : D = [] := by
        have := hDl.1
        rw [hne] at this
        exact List.length_eq_zero_iff.mp this.symm
      subst hDe
      have hmem : ∀ l, l ∈ T ↔ IsPath R 0 l (m - 1) := fun l => ⟨hS.t l, fun h => (hS.all l h).elim id fun ⟨p, hp, _⟩ => by cases hp⟩
      have hnd : T.Nodup := by
        have := hS.inc
        simp only [List.map_nil, List.append_nil] at this
        exact List.Pairwise.imp (S := fun a b => a ≠ b) (fun {a b} h e => by subst e; exact h.1 List.prefix_rfl) this
      refine ⟨_, rfl, a1, ts, keyT H1, rfl, .inl (sq_of ha1), fun x hx => ?_, fun ys p perm _ np => ?_⟩
      · obtain ⟨l, hl, hx2⟩ := hT.mem hx
        obtain ⟨t, rfl, e⟩ := id hx2
        rw [tr_key hx2]
        refine ⟨t, rfl, by rw [e, vn_vi], fun z => ?_⟩
        have lz : l = [] := toI_nil.mp z
        have := hS.t l hl
        rw [lz] at this
        have : (0 : Int) = m - 1 := this
        omega
      · have y1 := Evl.Ex.new (o := .lst ys) np
        obtain ⟨T', pT, hT'⟩ := (all2_tk st_Tr (tk_ex y1) hT).perm perm
        have := hwt
        refine q p ys T' _ (exH.trans y1) (fresh_back exH np) upd_same hT' (pT.nodup_iff.mpr hnd) (fun l => pT.mem_iff.trans (hmem l)) (by rw [pT.length_eq]; omega)
end K56


namespace K56
open PySem PySem.Spec PyProof.Rows L2 K56R
open Evl (Ex ex_l ex_t sq_of st_of fresh_back sz_of sz_lt)
/-! ### all explanations: the plain part -/
def subL (L : List Int) (l : List Nat) (k : Int) : List Int := upto (fun _ => true) (fun r => if r ∈ l then cf L r - k else cf L r) L.length
theorem subL_len (L : List Int) (l : List Nat) (k : Int) : (subL L l k).length = L.length := by unfold subL; rw [upto_range]; simp
theorem subL_cf {L : List Int} {l : List Nat} {k : Int} {r : Nat} (h : r < L.length) : cf (subL L l k) r = if r ∈ l then cf L r - k else cf L r := by
  unfold subL
  rw [upto_range]
  refine getD_of ?_
  rw [List.getElem?_map, List.getElem?_range h]; rfl
abbrev Part := List Pp × List Int
def nxt (l : List Nat) (p : Part) (k : Int) : Part := (p.1 ++ (if 0 < k then [(l, k)] else []), subL p.2 l k)
def asg (X : List (List Nat)) (ts : List (List Nat)) : List Pp := (ts.filter fun t => decide (0 < X.count t)).map fun t => (t, (X.count t : Int))
def wgt (X : List (List Nat)) (r : Nat) (t : List Nat) : Int := (X.count t : Int) * (t.count r : Int)
theorem wgt_nn (X : List (List Nat)) (r : Nat) (t : List Nat) : 0 ≤ wgt X r t := Int.mul_nonneg (Int.natCast_nonneg _) (Int.natCast_nonneg _)
theorem used_app (M N : List Pp) (r : Nat) : used (M ++ N) r = used M r + used N r := sm_app _ _ _
theorem used_asg (X : List (List Nat)) (r : Nat) : ∀ ts, used (asg X ts) r = sm (wgt X r) ts
  | [] => rfl
  | t :: ts => by
    have ih := used_asg X r ts
    unfold asg at ih ⊢
    by_cases h : 0 < X.count t
    · rw [List.filter_cons, if_pos (by simpa using h)]
      show ((X.count t : Int) * (t.count r : Int)) + used (List.map (fun t => (t, (X.count t : Int))) (List.filter (fun t => decide (0 < X.count t)) ts)) r = _ + _
      rw [ih]; rfl
    · rw [List.filter_cons, if_neg (by simpa using h), ih]
      show _ = wgt X r t + _
      unfold wgt
      rw [show X.count t = 0 by omega]; simp
theorem asg_snoc (X ts : List (List Nat)) (t : List Nat) : asg X (ts ++ [t]) = asg X ts ++ (if 0 < (X.count t : Int) then [(t, (X.count t : Int))] else []) := by
  unfold asg
  rw [List.filter_append, List.map_append]
  congr 1
  by_cases h : 0 < X.count t
  · rw [if_pos (by omega), List.filter_cons, if_pos (by simpa using h)]; rfl
  · rw [if_neg (by omega), List.filter_cons, if_neg (by simpa using h)]; rfl
theorem cnt_wgt {T : List (List Nat)} (nd : T.Nodup) (r : Nat) : ∀ {X : List (List Nat)}, (∀ t ∈ X, t ∈ T) → cnt r X = sm (wgt X r) T
  | [], _ => by
    show (0 : Int) = _
    refine (sm_zero fun t _ => ?_).symm
    unfold wgt; simp
  | x :: X, h => by
    have ih := cnt_wgt nd r (X := X) fun t ht => h t (List.mem_cons_of_mem _ ht)
    have e : sm (wgt (x :: X) r) T = sm (fun t => wgt X r t + b1 (decide (t = x)) * (x.count r : Int)) T := sm_congr fun t _ => by
      unfold wgt
      rw [List.count_cons]
      by_cases q : t = x
      · subst q; simp [b1, Int.add_mul]
      · rw [decide_eq_false q, show (x == t) = false from beq_eq_false_iff_ne.mpr (Ne.symm q)]; simp [b1]
    have pick : ∀ {T : List (List Nat)}, T.Nodup → x ∈ T → sm (fun t => b1 (decide (t = x)) * (x.count r : Int)) T = (x.count r : Int) := by
      intro T
      induction T with
      | nil => intro _ h; cases h
      | cons y T ih =>
        intro nd hx
        rw [List.nodup_cons] at nd
        show b1 (decide (y = x)) * _ + _ = _
        by_cases q : y = x
        · subst q
          rw [decide_eq_true rfl, sm_zero fun t ht => by
            rw [decide_eq_false fun e => nd.1 (by rw [← e]; exact ht)]; simp [b1]]
          simp [b1]
        · rw [decide_eq_false q, ih nd.2 ((List.mem_cons.mp hx).resolve_left (Ne.symm q))]; simp [b1]
    rw [e, sm_add, pick nd (h x List.mem_cons_self), ← ih]
    show (x.count r : Int) + cnt r X = _
    omega
/-- after n trips -/
structure Stg (T : List (List Nat)) (len : Nat) (c : Nat → Int) (n : Nat) (Ps : List Part) : Prop where
  snd : ∀ p ∈ Ps, p.2.length = len ∧ (∀ e ∈ p.1, e.1 ∈ T ∧ 1 ≤ e.2) ∧ p.1.length ≤ n ∧ ∀ r, r < len → 0 ≤ cf p.2 r ∧ cf p.2 r + used p.1 r = c r
  all : ∀ X : List (List Nat), (∀ t ∈ X, t ∈ T) → (∀ r, r < len → cnt r X = c r) → ∃ L, (asg X (T.take n), L) ∈ Ps ∧ ∀ r, r < len → cf L r = sm (wgt X r) (T.drop n)
/-- what the last index tells -/
def LastOk (T : List (List Nat)) (i : Nat) (lf : Nat → Option V) : Prop := ∀ r, (∃ (j : Nat) (l : List Nat), j < i ∧ T[j]? = some l ∧ r ∈ l) → ∃ j : Nat, lf r = some (.int (j : Int)) ∧ j < i ∧ ∀ (j' : Nat) (l : List Nat), j < j' → j' < i → T[j']? = some l → r ∉ l
theorem Stg.step {T : List (List Nat)} (nd : T.Nodup) {len : Nat} {c : Nat → Int} {n : Nat} {Ps Fs : List Part} {l : List Nat} (h : Stg T len c n Ps) (hl : T[n]? = some l) (lr : ∀ r ∈ l, r < len) (l1 : ∀ r ∈ l, l.count r = 1) {lf : Nat → Option V} (hlast : LastOk T T.length lf)
    (s : ∀ q ∈ Fs, ∃ p ∈ Ps, ∃ k : Int, 0 ≤ k ∧ (∀ r ∈ l, k ≤ cf p.2 r) ∧ q = nxt l p k)
    (a : ∀ p ∈ Ps, ∀ k : Int, 0 ≤ k → (∀ r ∈ l, k ≤ cf p.2 r) → (∀ r ∈ l, lf r = some (.int (n : Int)) → cf p.2 r ≤ k) → nxt l p k ∈ Fs) : Stg T len c (n + 1) Fs := by
  have tk : T.take (n + 1) = T.take n ++ [l] := by rw [List.take_add_one, hl]; rfl
  have hn : n < T.length := (List.getElem?_eq_some_iff.mp hl).1
  have dr : T.drop n = l :: T.drop (n + 1) := by
    rw [List.drop_eq_getElem_cons hn]
    congr 1
    rw [List.getElem?_eq_getElem hn] at hl
    exact Option.some.inj hl
  have lT : l ∈ T := List.mem_of_getElem? hl
  refine ⟨fun q hq => ?_, fun X hX hc => ?_⟩
  · obtain ⟨p, hp, k, k0, kl, rfl⟩ := s q hq
    obtain ⟨h1, h2, h3, h4⟩ := h.snd p hp
    refine ⟨by show (subL p.2 l k).length = len; rw [subL_len, h1], fun e he => ?_, ?_, fun r hr => ?_⟩
    · rcases List.mem_append.mp he with he | he
      · exact h2 e he
      · split at he
        · rw [List.mem_singleton.mp he]; exact ⟨lT, by show 1 ≤ k; omega⟩
        · cases he
    · show (p.1 ++ _).length ≤ n + 1
      rw [List.length_append]
      split <;> simp <;> omega
    · obtain ⟨h5, h6⟩ := h4 r hr
      show 0 ≤ cf (subL p.2 l k) r ∧ cf (subL p.2 l k) r + used (p.1 ++ _) r = c r
      rw [subL_cf (by omega), used_app]
      have eu : used (if 0 < k then [(l, k)] else []) r = k * (l.count r : Int) := by
        split
        · show k * (l.count r : Int) + 0 = _
          omega
        · rw [show k = 0 by omega]; simp [used, sm]
      rw [eu]
      by_cases m : r ∈ l
      · rw [if_pos m, l1 r m]
        have := kl r m
        simp
        omega
      · rw [if_neg m, List.count_eq_zero.mpr m]; simp; omega
  · obtain ⟨L, hL, hLr⟩ := h.all X hX hc
    have k0 : (0 : Int) ≤ (X.count l : Int) := Int.natCast_nonneg _
    have rest : ∀ r, 0 ≤ sm (wgt X r) (T.drop (n + 1)) := fun r => sm_nn fun t _ => wgt_nn X r t
    have Ll := (h.snd _ hL).1
    have hr1 : ∀ r, r ∈ l → cf L r = (X.count l : Int) + sm (wgt X r) (T.drop (n + 1)) := fun r hr => by
      rw [hLr r (lr r hr), dr]
      show wgt X r l + _ = _
      unfold wgt
      rw [l1 r hr]; simp
    refine ⟨subL L l (X.count l), ?_, fun r hr => ?_⟩
    · have := a _ hL (X.count l) k0 (fun r hr => by show (X.count l : Int) ≤ cf L r; rw [hr1 r hr]; have := rest r; omega) fun r hr e => by
        show cf L r ≤ (X.count l : Int)
        rw [hr1 r hr]
        have z : sm (wgt X r) (T.drop (n + 1)) = 0 := sm_zero fun t ht => by
          obtain ⟨i, hi⟩ := List.mem_iff_getElem?.mp ht
          rw [List.getElem?_drop] at hi
          obtain ⟨j, e1, e2, e3⟩ := hlast r ⟨n, l, hn, hl, hr⟩
          rw [e] at e1
          have jn : (n : Int) = j := V.int.inj (Option.some.inj e1)
          have := e3 (n + 1 + i) t (by omega) (List.getElem?_eq_some_iff.mp hi).1 hi
          unfold wgt
          rw [List.count_eq_zero.mpr this]; simp
        omega
      unfold nxt at this
      rw [tk, asg_snoc]
      exact this
    · rw [subL_cf (by show r < L.length; have : L.length = len := Ll; omega)]
      by_cases m : r ∈ l
      · rw [if_pos m, hr1 r m]; omega
      · rw [if_neg m, hLr r hr, dr]
        show wgt X r l + _ = _
        unfold wgt
        rw [List.count_eq_zero.mpr m]; simp
/-- the explanations, all or none -/
def AllOk (T : List (List Nat)) (len : Nat) (c : Nat → Int) (Ms : List (List Pp)) : Prop := Ms.length ≤ 200 ∧ (∀ M ∈ Ms, (∀ e ∈ M, e.1 ∈ T ∧ 1 ≤ e.2) ∧ ∀ r, r < len → used M r = c r) ∧
  ∀ X : List (List Nat), (∀ t ∈ X, t ∈ T) → (∀ r, r < len → cnt r X = c r) → asg X T ∈ Ms
theorem Stg.zero {T : List (List Nat)} (nd : T.Nodup) {c : List Int} (c0 : ∀ r, r < c.length → 0 ≤ cf c r) : Stg T c.length (cf c) 0 [([], c)] := by
  refine ⟨fun p hp => ?_, fun X hX hc => ⟨c, ?_, fun r hr => ?_⟩⟩
  · rw [List.mem_singleton.mp hp]
    exact ⟨rfl, by simp, by simp, fun r hr => ⟨c0 r hr, by show cf c r + 0 = cf c r; omega⟩⟩
  · show ([], c) ∈ _
    simp
  · rw [← hc r hr, List.drop_zero, cnt_wgt nd r hX]
theorem Stg.done {T : List (List Nat)} {len : Nat} {c : Nat → Int} {Ps : List Part} (h : Stg T len c T.length Ps) (hl : Ps.length ≤ 200) : AllOk T len c ((Ps.filter fun p => p.2.all fun x => decide (x ≤ 0)).map (·.1)) := by
  have z : ∀ p ∈ Ps, (p.2.all fun x => decide (x ≤ 0)) = true → ∀ r, r < len → cf p.2 r = 0 := fun p hp e r hr => by
    obtain ⟨h1, _, _, h4⟩ := h.snd p hp
    have := List.all_eq_true.mp e _ (List.mem_of_getElem? (cf_get (show r < p.2.length by omega)))
    have := of_decide_eq_true this
    have := (h4 r hr).1
    omega
  refine ⟨by rw [List.length_map]; exact Nat.le_trans (List.length_filter_le _ _) hl, fun M hM => ?_, fun X hX hc => ?_⟩
  · obtain ⟨p, hp, rfl⟩ := List.mem_map.mp hM
    obtain ⟨hp1, hp2⟩ := List.mem_filter.mp hp
    obtain ⟨h1, h2, _, h4⟩ := h.snd p hp1
    refine ⟨h2, fun r hr => ?_⟩
    have := z p hp1 hp2 r hr
    have := (h4 r hr).2
    omega
  · obtain ⟨L, hL, hLr⟩ := h.all X hX hc
    rw [List.take_of_length_le (Nat.le_refl _)] at hL
    refine List.mem_map.mpr ⟨_, List.mem_filter.mpr ⟨hL, List.all_eq_true.mpr fun x hx => ?_⟩, rfl⟩
    obtain ⟨r, hr⟩ := List.mem_iff_getElem?.mp hx
    have hlt := (List.getElem?_eq_some_iff.mp hr).1
    have hlen : L.length = len := (h.snd _ hL).1
    have hlt : r < L.length := hlt
    have := hLr r (by omega)
    rw [List.drop_of_length_le (Nat.le_refl _)] at this
    have e : cf L r = x := getD_of hr
    have this : cf L r = 0 := this
    exact decide_eq_true (by omega)
end K56


namespace K56
open PySem PySem.Spec PyProof.Rows L2 K56R
open Evl (Ex ex_l ex_t sq_of st_of fresh_back sz_of sz_lt)
/-! ### all explanations: the walk -/
def PartF (f : Addr) (H : Hp) (v : V) (p : Part) : Prop := ∃ a mr lr es, v = .ref a ∧ H a = some (.tup [.ref mr, .ref lr]) ∧ H mr = some (.lst es) ∧ mr ≠ f ∧ All2 (PplR H) es p.1 ∧ H lr = some (.tup (vi p.2))
def PartR (H : Hp) (v : V) (p : Part) : Prop := ∃ a mr lr es, v = .ref a ∧ H a = some (.tup [.ref mr, .ref lr]) ∧ H mr = some (.lst es) ∧ All2 (PplR H) es p.1 ∧ H lr = some (.tup (vi p.2))
theorem PartF.mo {f : Addr} {H H' : Hp} {v : V} {p : Part} (h : PartF f H v p) (m : Mo [f] H H') (t : Tk H H') : PartF f H' v p := by
  obtain ⟨a, mr, lr, es, e1, e2, e3, e4, e5, e6⟩ := h
  exact ⟨a, mr, lr, es, e1, t _ _ e2, m _ _ (by simpa using e4) e3, e4, all2_tk st_Ppl t e5, t _ _ e6⟩
theorem PartR.ex {H H' : Hp} {v : V} {p : Part} (h : PartR H v p) (m : Ex H H') : PartR H' v p := by
  obtain ⟨a, mr, lr, es, e1, e2, e3, e5, e6⟩ := h
  exact ⟨a, mr, lr, es, e1, m _ _ e2, m _ _ e3, all2_tk st_Ppl (tk_ex m) e5, m _ _ e6⟩
theorem PartR.f {H H' : Hp} {f : Addr} {v : V} {p : Part} (h : PartR H v p) (n : H f = none) (m : Ex H H') : PartF f H' v p := by
  obtain ⟨a, mr, lr, es, e1, e2, e3, e5, e6⟩ := h
  exact ⟨a, mr, lr, es, e1, m _ _ e2, m _ _ e3, ne_of_none e3 n, all2_tk st_Ppl (tk_ex m) e5, m _ _ e6⟩
theorem PartF.r {H : Hp} {f : Addr} {v : V} {p : Part} (h : PartF f H v p) : PartR H v p := by
  obtain ⟨a, mr, lr, es, e1, e2, e3, _, e5, e6⟩ := h
  exact ⟨a, mr, lr, es, e1, e2, e3, e5, e6⟩
def EvR (H : Hp) (v : V) (M : List Pp) : Prop := ∃ a es, v = .ref a ∧ H a = some (.tup es) ∧ All2 (PplR H) es M
theorem st_Ev : St EvR := fun _ _ _ _ t h => by obtain ⟨a, es, e, q, r⟩ := h; exact ⟨a, es, e, t _ _ q, all2_tk st_Ppl t r⟩
theorem last_step {T : List (List Nat)} {i : Nat} {l : List Nat} (hl : T[i]? = some l) {lf lf0 : Nat → Option V} (h : LastOk T i lf0) (a : ∀ r, r ∈ l → lf r = some (.int (i : Int))) (b : ∀ r, r ∉ l → lf r = lf0 r) : LastOk T (i + 1) lf := by
  intro r ⟨j, l', hj, hl', hr⟩
  by_cases m : r ∈ l
  · exact ⟨i, a r m, by omega, fun j' _ h1 h2 => by omega⟩
  · have ji : j ≠ i := fun e => by
      subst e
      rw [hl] at hl'
      cases hl'
      exact m hr
    obtain ⟨j2, e1, e2, e3⟩ := h r ⟨j, l', by omega, hl', hr⟩
    refine ⟨j2, by rw [b r m]; exact e1, by omega, fun j' l2 h1 h2 h3 => ?_⟩
    by_cases q : j' = i
    · subst q; rw [hl] at h3; cases h3; exact m
    · exact e3 j' l2 h1 (by omega) h3
structure AllIn (T : List (List Nat)) (c : List Int) : Prop where
  nd : T.Nodup
  len : T.length ≤ 1048576
  c1 : 1 ≤ c.length
  c2 : c.length ≤ 100
  cb : ∀ r, r < c.length → 0 ≤ cf c r ∧ cf c r ≤ 100
  tr : ∀ l ∈ T, l ≠ [] ∧ l.length ≤ 5 ∧ ∀ r ∈ l, r < c.length ∧ l.count r = 1
def sp_law_all (_ : PySem.W.Frag) : Sp := fun vs H Q _ => ∃ t a c ys T, vs = [.ref t, .ref a] ∧ H t = some (.tup (vi c)) ∧ H a = some (.lst ys) ∧ All2 (TrR H) ys T ∧ AllIn T c ∧
  ∀ e es Ms H', Ex H H' → H e = none → H' e = some (.lst es) → All2 (EvR H') es Ms → (Ms = [] ∨ AllOk T c.length (cf c) Ms) → Q (.ref e) H'
theorem ok_law_all {P : Program} {w : World} {K : PySem.W.Frag} {mg : Str → Option Value} {base : Heap} {f : Addr} {fd : FuncData} (F : L2.Fun K "_law_all" "_law_all" s_law_all f fd) (B : Bn mg) :
    FnOk P w K mg base CX0 1 f fd ["_law_tally_here", "_law_trips_here"] (sp_law_all K) := by
  refine F.ok (k := 0) sc_law_all (fun vs H Q E h => ?_) (fun cdv A outer s H vs Q E hr h => ?_)
  · obtain ⟨_, _, _, _, _, rfl, _⟩ := h
    rfl
  · obtain ⟨t, a, c, ys, T, rfl, ht, ha, hT, I, q⟩ := h
    have Tlen := I.len
    have big : 1048576 * 5 + 1048576 * 2 < sizeLine := by rw [PySem.sizeLine_eq]; decide
    have hu := hu_of hr
    refine ⟨_, (pss_cons (ps_asg (pe_tup (pa_cons (pe_lst (pa_cons (pe_tup (pa_cons (pe_lst pa_nil) (pa_cons (pv 0) pa_nil))) pa_nil)) (pa_cons pe_dnewK (pa_cons pe_int pa_nil)))) (pg_tup (by rfl) (pgs_cons (pg_name (i := 2) sc_law_all.nd rfl (Or.inl rfl)) (pgs_cons (pg_name (i := 3) sc_law_all.nd rfl (Or.inr rfl)) (pgs_cons (pg_name (i := 4) sc_law_all.nd rfl (Or.inl rfl)) pgs_nil)))))
          (pss_cons (ps_for PassesOwn.never rfl (pi_enum (by rfl) B.enumerate (pa_cons (pv 1) pa_nil)) (pg_tup (by rfl) (pgs_cons (pg_name (i := 5) sc_law_all.nd rfl (Or.inr rfl)) (pgs_cons (pg_name (i := 6) sc_law_all.nd rfl (Or.inr rfl)) pgs_nil))) (pss_one (ps_for PassesOwn.never rfl (pi_tup (pv 6)) (pg_name (i := 7) sc_law_all.nd rfl (Or.inl rfl)) (pss_one (ps_dput hu (pv 3) (pv 7) (pv 5) rfl)))))
          (pss_cons (ps_for PassesOwn.never rfl (pi_enum (by rfl) B.enumerate (pa_cons (pv 1) pa_nil)) (pg_tup (by rfl) (pgs_cons (pg_name (i := 5) sc_law_all.nd rfl (Or.inr rfl)) (pgs_cons (pg_name (i := 6) sc_law_all.nd rfl (Or.inr rfl)) pgs_nil))) (pss_cons (ps_set (i := 8) sc_law_all.nd rfl (Or.inl rfl) (pe_lst pa_nil))
          (pss_cons (ps_for PassesOwn.never rfl (pi_list (pv 2)) (pg_tup (by rfl) (pgs_cons (pg_name (i := 9) sc_law_all.nd rfl (Or.inl rfl)) (pgs_cons (pg_name (i := 10) sc_law_all.nd rfl (Or.inr rfl)) pgs_nil))) (pss_cons (ps_set (i := 11) sc_law_all.nd rfl (Or.inl rfl) (pe_callB (cr_max rfl) (by rfl) B.max (by decide +kernel) (pa_cons (pe_op op_cat (pe_lst (pa_cons pe_int pa_nil)) (pe_lc (own := [("_law_road", 7)]) rfl sc_law_all.nd (pi_tup (pv 6)) (blkOk_by (own := [("_law_road", 7)]) (N := N_law_all) (sc := defScope s_law_all) (by decide +kernel)) (fun _ _ _ _ _ => (pg_name (i := 7) sc_law_all.nd rfl (Or.inl rfl))) (fun _ _ _ _ _ => (pts_one (pt_cmpR op_eq (pe_dget hu (pv 3) (pv 7) (fun _ _ => rfl)) (pv 5) (nomark _)))) (fun _ _ _ _ _ => (pe_ix (ix_tupK K) (pv 10) (pv 7) (fun _ _ => rfl))))) pa_nil)))
          (pss_one (ps_for PassesOwn.never rfl (pi_range2 (by rfl) B.range (pa_cons (pv 11) (pa_cons (pe_op op_add (pe_callB (cr_min rfl) (by rfl) B.min (by decide +kernel) (pa_cons (pe_lc (own := [("_law_road", 7)]) rfl sc_law_all.nd (pi_tup (pv 6)) (blkOk_by (own := [("_law_road", 7)]) (N := N_law_all) (sc := defScope s_law_all) (by decide +kernel)) (fun _ _ _ _ _ => (pg_name (i := 7) sc_law_all.nd rfl (Or.inl rfl))) (fun _ _ _ _ _ => pts_nil) (fun _ _ _ _ _ => (pe_ix (ix_tupK K) (pv 10) (pv 7) (fun _ _ => rfl)))) pa_nil)) pe_int) pa_nil))) (pg_name (i := 12) sc_law_all.nd rfl (Or.inr rfl)) (pss_cons (ps_set (i := 13) sc_law_all.nd rfl (Or.inl rfl) (pe_callTy call_tuple_of (by rfl) B.tuple (by decide +kernel) (pa_cons (pe_lc (own := [("_law_road", 7), ("_law_count", 14)]) rfl sc_law_all.nd (pi_enumT (by rfl) B.enumerate (pa_cons (pv 10) pa_nil)) (blkOk_by (own := [("_law_road", 7), ("_law_count", 14)]) (N := N_law_all) (sc := defScope s_law_all) (by decide +kernel)) (fun _ _ _ _ _ => (pg_tupK K (by rfl) (pgs_cons (pg_name (i := 7) sc_law_all.nd rfl (Or.inl rfl)) (pgs_cons (pg_name (i := 14) sc_law_all.nd rfl (Or.inl rfl)) pgs_nil)))) (fun _ _ _ _ _ => pts_nil) (fun _ _ _ _ _ => (pe_ifExp (pt_cmpR (op_in_seqK K) (pv 7) (pv 6) (by rfl)) (pe_op op_sub (pv 14) (pv 12)) (pv 14)))) pa_nil)))
          (pss_one (ps_expr (pe_bm PySem.F.plainAttrs_list PySem.F.slot_list_append PySem.F.type_list_append mt_append (pv 8) (pa_cons (pe_tup (pa_cons (pe_op op_cat (pv 9) (pe_ifExp (pt_cmpR op_gt (pv 12) pe_int (nomark _)) (pe_lst (pa_cons (pe_tup (pa_cons (pv 6) (pa_cons (pv 12) pa_nil))) pa_nil)) (pe_lst pa_nil))) (pa_cons (pv 13) pa_nil))) pa_nil)))))))))
          (pss_cons (ps_par (i := 2) (j := 4) (by rfl) sc_law_all.nd rfl rfl (by decide) rfl rfl (pa_cons (pv 8) (pa_cons (pe_op op_add (pv 4) (pe_callB call_len_seq (by rfl) B.len PySem.boot_len (pa_cons (pv 8) pa_nil))) pa_nil)) (by rfl))
          (pss_one (ps_if (PW.pt (pw_or (pt_cmpR op_gt (pe_callB call_len_seq (by rfl) B.len PySem.boot_len (pa_cons (pv 2) pa_nil)) pe_int (nomark _)) (pw_or1 (pt_cmpR op_gt (pv 4) pe_int (nomark _))))) (pss_one (ps_ret (pe_lst pa_nil))) pss_nil))))))
          (pss_one (ps_ret (pe_lc (own := [("_law_made", 9), ("_law_left", 10)]) rfl sc_law_all.nd (pi_list (pv 2)) (blkOk_by (own := [("_law_made", 9), ("_law_left", 10)]) (N := N_law_all) (sc := defScope s_law_all) (by decide +kernel)) (fun _ _ _ _ _ => (pg_tupK K (by rfl) (pgs_cons (pg_name (i := 9) sc_law_all.nd rfl (Or.inl rfl)) (pgs_cons (pg_name (i := 10) sc_law_all.nd rfl (Or.inl rfl)) pgs_nil)))) (fun _ _ _ _ _ => (pts_one (pt_cmpR op_eq (pe_callB (cr_maxTK K rfl) (by rfl) B.max (by decide +kernel) (pa_cons (pv 10) pa_nil)) pe_int (nomark _)))) (fun _ _ _ _ _ => (pe_callTy (call_tuple_ofK K) (by rfl) B.tuple (by decide +kernel) (pa_cons (pv 9) pa_nil))))))))), ?_⟩
    refine ⟨Nat.zero_le _, fun e0 ne0 => ⟨_, rfl, by show 2 ≤ sizeLine; decide, fun p0 np0 => ⟨by show 1 ≤ sizeLine; decide, fun pa npa => fun d nd => ⟨by show 3 ≤ sizeLine; decide, fun T0 nT0 => ⟨T0, _, rfl, st_of upd_same, rfl, _, _, rfl, _, _, rfl, _, _, rfl, rfl, ?_⟩⟩⟩⟩⟩
    have x1 := Evl.Ex.new (o := .lst []) ne0
    have x2 := Evl.Ex.new (o := .tup [.ref e0, .ref t]) np0
    have x3 := Evl.Ex.new (o := .lst [.ref p0]) npa
    have x4 := Evl.Ex.new (o := .dK []) nd
    have x5 := Evl.Ex.new (o := .tup [.ref pa, .ref d, .int 0]) nT0
    have eA : Ex H _ := x1.trans (x2.trans x3)
    have hpa := upd_same (H := upd (upd H e0 (.lst [])) p0 (.tup [.ref e0, .ref t])) (a := pa) (o := .lst [.ref p0])
    have hp0 : PartR (upd (upd (upd H e0 (.lst [])) p0 (.tup [.ref e0, .ref t])) pa (.lst [.ref p0])) (.ref p0) ([], c) := ⟨p0, e0, t, [], rfl, x3 _ _ upd_same, (x2.trans x3) _ _ upd_same, .nil, eA _ _ ht⟩
    have hd5 := x5 _ _ (upd_same (H := upd (upd (upd H e0 (.lst [])) p0 (.tup [.ref e0, .ref t])) pa (.lst [.ref p0])) (a := d) (o := .dK []))
    have e5 : Ex (upd (upd (upd H e0 (.lst [])) p0 (.tup [.ref e0, .ref t])) pa (.lst [.ref p0])) _ := x4.trans x5
    generalize upd (upd (upd H e0 (.lst [])) p0 (.tup [.ref e0, .ref t])) pa (.lst [.ref p0]) = HA at *
    generalize upd (upd HA d (.dK [])) T0 (.tup [.ref pa, .ref d, .int 0]) = H5 at hd5 e5
    have hT_len := hT.1
    refine ⟨.ref a, rfl, a, ys, rfl, sq_of (e5 _ _ (eA _ _ ha)), ?_⟩
    refine for_it (walk_enum (xs := ys)) (fun i σ H' => ∃ y5 y6 y7 kvs, σ = [some (.ref t), some (.ref a), some (.ref pa), some (.ref d), some (.int 0), y5, y6, y7, none, none, none, none, none, none, none] ∧ Ex HA H' ∧ H' d = some (.dK kvs) ∧ kvs.length ≤ 5 * i ∧ LastOk T i (fun r => valV kvs (.inl (r : Int))))
      ⟨none, none, none, [], rfl, e5, hd5, by simp, fun r ⟨j, _, hj, _⟩ => by omega⟩ (fun i σ H' _ pv => ?_) (fun i x σ H' H2 hi pv y => ?_) fun σ HB pv => ?_
    · obtain ⟨_, _, _, _, _, e, _⟩ := pv
      exact sq_of (e _ _ (eA _ _ ha))
    · obtain ⟨y5, y6, y7, kvs, rfl, ex, hdd, hkl, hlast⟩ := pv
      obtain ⟨T1, v1, v2, rfl, nT1, rfl, f1, f2⟩ := y
      cases f1
      obtain ⟨l, el, tl, rfl, htl⟩ := hT.get' f2
      have lT := List.mem_of_getElem? el
      obtain ⟨l1, l2, l3⟩ := I.tr l lT
      have xT := Evl.Ex.new (o := .tup [.int (i : Nat), .ref tl]) nT1
      have htl2 := xT _ _ (ex _ _ (eA _ _ htl))
      refine ⟨T1, _, rfl, st_of upd_same, rfl, _, _, rfl, _, _, rfl, rfl, ?_⟩
      refine ⟨_, rfl, tl, rfl, ⟨_, st_of htl2⟩, ?_⟩
      refine for_it (walk_tup (xs := vn l)) (fun j σ H' => ∃ y7 kvs2, σ = [some (.ref t), some (.ref a), some (.ref pa), some (.ref d), some (.int 0), some (.int (i : Nat)), some (.ref tl), y7, none, none, none, none, none, none, none] ∧ Ex HA H' ∧ H' d = some (.dK kvs2) ∧ kvs2.length ≤ 5 * i + j ∧
        (∀ r : Nat, r ∈ l.take j → valV kvs2 (.inl (r : Int)) = some (.int (i : Nat))) ∧ (∀ r : Nat, r ∉ l.take j → valV kvs2 (.inl (r : Int)) = valV kvs (.inl (r : Int))))
        ⟨_, kvs, rfl, ex.trans xT, xT _ _ hdd, by omega, by simp, fun _ _ => rfl⟩ (fun j σ H' _ pv => ?_) (fun j x σ H' H3 hj pv y => ?_) fun σ H' pv => ?_
      · obtain ⟨_, _, _, e, _⟩ := pv
        exact st_of (e _ _ (eA _ _ htl))
      · obtain ⟨y7, kvs2, rfl, ex2, hd2, hk2, hin, hout⟩ := pv
        obtain ⟨rfl, ey⟩ := y
        obtain ⟨r, er, rfl⟩ := vn_get ey
        have tk : l.take (j + 1) = l.take j ++ [r] := by rw [List.take_add_one, er]; rfl
        have hj2 : j < l.length := (List.getElem?_eq_some_iff.mp er).1
        have hi2 : i < T.length := (List.getElem?_eq_some_iff.mp el).1
        refine ⟨_, rfl, _, rfl, _, rfl, d, _, rfl, DPut.k (k := .inl (r : Int)) hd2 (by omega), ?_⟩
        refine ⟨_, _, rfl, upd_ex ex2 nd, upd_same, by have := putK_len kvs2 (.inl (r : Int)) (.int (i : Nat)); omega, fun s hs => ?_, fun s hs => ?_⟩
        · rw [valV_put]
          by_cases e : s = r
          · rw [if_pos (by rw [e])]
          · rw [if_neg (by simp; omega)]
            rw [tk] at hs
            exact hin s ((List.mem_append.mp hs).resolve_right (by simpa using e))
        · rw [tk] at hs
          have hs1 : s ∉ l.take j ∧ s ≠ r := by simpa using hs
          rw [valV_put, if_neg (by simp; omega)]
          exact hout s hs1.1
      · obtain ⟨y7, kvs2, rfl, ex2, hd2, hk2, hin, hout⟩ := pv
        have e : l.take (vn l).length = l := List.take_of_length_le (by simp [vn])
        rw [e] at hin hout
        have : (vn l).length = l.length := by simp [vn]
        exact ⟨_, _, _, kvs2, rfl, ex2, hd2, by omega, last_step el hlast hin hout⟩
    · obtain ⟨y5, y6, y7, kvs, rfl, exB, hdB, _, hlast⟩ := pv
      rw [hT_len] at hlast
      have eHB := eA.trans exB
      refine ⟨.ref a, rfl, a, ys, rfl, sq_of (eHB _ _ ha), ?_⟩
      refine for_it (walk_enum (xs := ys)) (fun n σ H' => ∃ pa gone y5 y6 y7 y8 y9 y10 y11 y12 y13 y14 ps Ps, σ = [some (.ref t), some (.ref a), some (.ref pa), some (.ref d), some (.int gone), y5, y6, y7, y8, y9, y10, y11, y12, y13, y14] ∧ Ex HB H' ∧ H' pa = some (.lst ps) ∧ All2 (PartR H') ps Ps ∧ Ps.length ≤ 200 ∧ Stg T c.length (cf c) n Ps)
        ⟨pa, 0, _, _, _, none, none, none, none, none, none, none, [.ref p0], [([], c)], rfl, Evl.Ex.refl _, exB _ _ hpa, .cons (hp0.ex exB) .nil, by simp, Stg.zero I.nd fun r hr => (I.cb r hr).1⟩ (fun n σ H' _ pv => ?_) (fun n x σ H' H2 hn pv y => ?_) fun σ H9 pv => ?_
      · obtain ⟨_, _, _, _, _, _, _, _, _, _, _, _, _, _, _, e, _⟩ := pv
        exact sq_of (e _ _ (eHB _ _ ha))
      · -- one trip
        obtain ⟨pa, gone, y5, y6, y7, y8, y9, y10, y11, y12, y13, y14, ps, Ps, rfl, ex, hpa, hPs, hPl, hSt⟩ := pv
        obtain ⟨T1, v1, v2, rfl, nT1, rfl, f1, f2⟩ := y
        cases f1
        obtain ⟨l, el, tl, rfl, htl⟩ := hT.get' f2
        have lT := List.mem_of_getElem? el
        have hnT : n < T.length := (List.getElem?_eq_some_iff.mp el).1
        obtain ⟨l1, l2, l3⟩ := I.tr l lT
        have xT := Evl.Ex.new (o := .tup [.int (n : Nat), .ref tl]) nT1
        refine ⟨T1, _, rfl, st_of upd_same, rfl, _, _, rfl, _, _, rfl, rfl, ?_⟩
        refine ⟨Nat.zero_le _, fun f' nf => ?_⟩
        have xf := Evl.Ex.new (o := .lst []) nf
        have ex3 := ex.trans (xT.trans xf)
        have hpa3 := (xT.trans xf) _ _ hpa
        have hPs3 : All2 (PartF f' (upd (upd H' T1 (.tup [.int (n : Nat), .ref tl])) f' (.lst []))) ps Ps := hPs.mono fun _ _ h => (h.ex xT).f nf xf
        have nfB : HB f' = none := fresh_back (ex.trans xT) nf
        have npf : pa ≠ f' := ne_of_none (xT _ _ hpa) nf
        have hf3 := upd_same (H := upd H' T1 (.tup [.int (n : Nat), .ref tl])) (a := f') (o := .lst [])
        generalize upd (upd H' T1 (.tup [.int (n : Nat), .ref tl])) f' (.lst []) = H3 at ex3 hpa3 hPs3 hf3
        have tkM : ∀ {H' : Hp}, Mo [f'] H3 H' → Tk H3 H' := fun {H'} m b xs hb => m b _ (fun z => by rw [List.mem_singleton.mp z, hf3] at hb; cases hb) hb
        have nd' : d ≠ f' := fun z => by rw [z, nfB] at hdB; cases hdB
        have hd3 := ex3 _ _ hdB
        have htl3 := ex3 _ _ (eHB _ _ htl)
        refine ⟨_, rfl, pa, rfl, ⟨_, sq_of hpa3⟩, ?_⟩
        refine for_it (walk_list (xs := ps)) (fun i σ H' => ∃ y7 y9 y10 y11 y12 y13 y14 fs Fs, σ = [some (.ref t), some (.ref a), some (.ref pa), some (.ref d), some (.int gone), some (.int (n : Nat)), some (.ref tl), y7, some (.ref f'), y9, y10, y11, y12, y13, y14] ∧ Mo [f'] H3 H' ∧ H' f' = some (.lst fs) ∧ All2 (PartF f' H') fs Fs ∧ Fs.length ≤ 101 * i ∧
          (∀ q ∈ Fs, ∃ p ∈ Ps.take i, ∃ k : Int, 0 ≤ k ∧ (∀ r ∈ l, k ≤ cf p.2 r) ∧ q = nxt l p k) ∧ (∀ p ∈ Ps.take i, ∀ k : Int, 0 ≤ k → (∀ r ∈ l, k ≤ cf p.2 r) → (∀ r ∈ l, valV kvs (.inl (r : Int)) = some (.int (n : Int)) → cf p.2 r ≤ k) → nxt l p k ∈ Fs))
          ⟨_, _, _, _, _, _, _, [], [], rfl, Mo.refl _ _, hf3, .nil, by simp, by simp, by simp⟩ (fun i σ H' _ pv => ?_) (fun i x σ H' H4 hi pv y => ?_) fun σ H4 pv => ?_
        · obtain ⟨_, _, _, _, _, _, _, _, _, _, e, _⟩ := pv
          exact sq_of (e _ _ (by simpa using npf) hpa3)
        · obtain ⟨y7, y9, y10, y11, y12, y13, y14, fs, Fs, rfl, mo, hf, hFs, hFl, hs, hc⟩ := pv
          obtain ⟨rfl, ey⟩ := y
          obtain ⟨⟨M, L⟩, ep, hpf⟩ := hPs3.get' ey
          obtain ⟨ap, mr, lr, es, rfl, hap, hmr, nmr, hes, hlr⟩ := hpf.mo mo (tkM mo)
          have hpm := List.mem_of_getElem? ep
          obtain ⟨s1, s2, s3, s4⟩ := hSt.snd _ hpm
          have s1 : L.length = c.length := s1
          have s3 : M.length ≤ n := s3
          have Lb : ∀ r, r < c.length → 0 ≤ cf L r ∧ cf L r ≤ 100 := fun r hr => by
            have h1 := (s4 r hr).1
            have h2 : cf L r + used M r = cf c r := (s4 r hr).2
            have h3 : 0 ≤ used M r := sm_nn fun e he => Int.mul_nonneg (by have := (s2 e he).2; omega) (Int.natCast_nonneg _)
            have := (I.cb r hr).2
            exact ⟨h1, by omega⟩
          have htl4 := tkM mo _ _ htl3
          have hd4 := mo _ _ (by simpa using nd') hd3
          have hi' : i < Ps.length := (List.getElem?_eq_some_iff.mp ep).1
          refine ⟨ap, _, rfl, st_of hap, rfl, _, _, rfl, _, _, rfl, rfl, ?_⟩
          -- low
          refine ⟨by show 1 ≤ sizeLine; decide, fun c1 nc1 => ?_⟩
          have w1 := Evl.Ex.new (o := .lst [.int 0]) nc1
          refine ⟨.ref tl, rfl, tl, rfl, ⟨_, st_of (w1 _ _ htl4)⟩, fun D nD => ?_⟩
          refine lc_it (walk_tup (xs := vn l)) (Cx1 _ IsI (upto (fun i => (fun r : Nat => decide (valV kvs (.inl (r : Int)) = some (.int (n : Int)))) (l.getD i 0)) (fun i => (fun r : Nat => cf L r) (l.getD i 0))) D) (cx_zero nD rfl) (fun j H' _ pv => st_of (pv.2.1 _ _ (w1 _ _ htl4))) (fun j x H' H5 hj pv y => ?_) fun H5 pv => ?_
          · obtain ⟨rfl, ey⟩ := y
            obtain ⟨r, er, rfl⟩ := vn_get ey
            have hrl := List.mem_of_getElem? er
            obtain ⟨jj, hj1, hj2, hj3⟩ := hlast r ⟨n, l, hnT, el, hrl⟩
            have hj1 : valV kvs (.inl (r : Int)) = some (.int (jj : Int)) := hj1
            have ex5 := w1.trans pv.2.1
            refine ⟨rfl, ?_⟩
            refine ⟨_, rfl, _, rfl, d, .int jj, rfl, by rw [← hj1]; exact DGet.k (k := .inl (r : Int)) (ex5 _ _ hd4), _, rfl, rfl, _, rfl, ?_⟩
            refine cx_turn st_I pv (Evl.Ex.refl _) ?_ (by simp [vn] at hj; omega) fun _ Q k => ⟨_, rfl, _, rfl, lr, _, r, _, rfl, rfl, st_of (ex5 _ _ hlr), atI_nat (vi_get (by rw [s1]; exact (l3 r hrl).1)), k _ _ (Evl.Ex.refl _) ?_⟩
            · rw [getD_of er]
              dsimp only
              rw [hj1]
              simp
            · rw [getD_of er]; rfl
          · obtain ⟨_, ex5, acc, hD5, hA⟩ := pv
            rw [all2_I, show (vn l).length = l.length by simp [vn], upto_filter (fun r : Nat => decide (valV kvs (.inl (r : Int)) = some (.int (n : Int)))) (fun r : Nat => cf L r)] at hA
            have e45 := w1.trans ex5
            refine ⟨c1, D, [.int 0], acc, rfl, rfl, ex5 _ _ upd_same, hD5, sz_of (by
              have : acc.length ≤ l.length := by rw [hA]; simp only [vi, List.length_map]; exact List.length_filter_le _ _
              simp; omega), fun c2 nc2 => ?_⟩
            have w2 := Evl.Ex.new (o := .lst ([.int 0] ++ acc)) nc2
            refine ⟨c2, 0 :: (l.filter fun r : Nat => decide (valV kvs (.inl (r : Int)) = some (.int (n : Int)))).map (fun r : Nat => cf L r), rfl, sq_of (by rw [upd_same, hA]; rfl), by simp, fun low hlow1 hlow2 => ?_⟩
            have low0 : 0 ≤ low := hlow2 0 List.mem_cons_self
            have low100 : low ≤ 100 := by
              rcases List.mem_cons.mp hlow1 with e | e
              · omega
              · obtain ⟨r, hr, rfl⟩ := List.mem_map.mp e
                exact (Lb r (l3 r (List.mem_filter.mp hr).1).1).2
            have lowk : ∀ k : Int, 0 ≤ k → (∀ r ∈ l, valV kvs (.inl (r : Int)) = some (.int (n : Int)) → cf L r ≤ k) → low ≤ k := fun k k0 hk => by
              rcases List.mem_cons.mp hlow1 with e | e
              · omega
              · obtain ⟨r, hr, rfl⟩ := List.mem_map.mp e
                obtain ⟨hr1, hr2⟩ := List.mem_filter.mp hr
                exact hk r hr1 (of_decide_eq_true hr2)
            have e46 := e45.trans w2
            have htl6 := e46 _ _ htl4
            have hlr6 := e46 _ _ hlr
            have hmr6 := e46 _ _ hmr
            have hf6 := e46 _ _ hf
            have hes6 := all2_tk st_Ppl (tk_ex e46) hes
            have hFs6 : All2 (PartF f' (upd H5 c2 (.lst ([.int 0] ++ acc)))) fs Fs := hFs.mono fun _ _ h => h.mo (mo_ex e46) (tk_ex e46)
            have mo6 : Mo [f'] H3 (upd H5 c2 (.lst ([.int 0] ++ acc))) := mo.trans (mo_ex e46)
            generalize upd H5 c2 (.lst ([.int 0] ++ acc)) = H6 at htl6 hlr6 hmr6 hf6 hes6 hFs6 mo6
            -- hi
            refine ⟨_, rfl, .ref tl, rfl, tl, rfl, ⟨_, st_of htl6⟩, fun D2 nD2 => ?_⟩
            refine lc_it (walk_tup (xs := vn l)) (Cx1 H6 IsI (upto (fun _ => true) (fun i => (fun r : Nat => cf L r) (l.getD i 0))) D2) (cx_zero nD2 rfl) (fun j H' _ pv => st_of (pv.2.1 _ _ htl6)) (fun j x H' H7 hj pv y => ?_) fun H7 pv => ?_
            · obtain ⟨rfl, ey⟩ := y
              obtain ⟨r, er, rfl⟩ := vn_get ey
              have hrl := List.mem_of_getElem? er
              refine ⟨rfl, ?_⟩
              refine cx_all st_I pv (Evl.Ex.refl _) (by simp [vn] at hj; omega) fun Q k => ⟨_, rfl, _, rfl, lr, _, r, _, rfl, rfl, st_of (pv.2.1 _ _ hlr6), atI_nat (vi_get (by rw [s1]; exact (l3 r hrl).1)), k _ _ (Evl.Ex.refl _) ?_⟩
              rw [getD_of er]; rfl
            · obtain ⟨_, ex7, acc7, hD7, hA7⟩ := pv
              rw [all2_I, show (vn l).length = l.length by simp [vn], upto_all (fun r : Nat => cf L r) 0 l] at hA7
              refine ⟨D2, l.map (fun r : Nat => cf L r), rfl, sq_of (by rw [hD7, hA7]), by rw [List.length_map]; exact List.length_pos_iff.mpr l1, fun hi hhi1 hhi2 => ?_⟩
              obtain ⟨r1, hr1, hr1e⟩ := List.mem_map.mp hhi1
              have hib := Lb r1 (l3 r1 hr1).1
              have hiL : ∀ r ∈ l, hi ≤ cf L r := fun r hr => hhi2 _ (List.mem_map.mpr ⟨r, hr, rfl⟩)
              refine ⟨hi, 1, rfl, rfl, low, hi + 1, rfl, ⟨by omega, by omega, by omega, by omega⟩, ?_⟩
              have htl7 := ex7 _ _ htl6
              have hlr7 := ex7 _ _ hlr6
              have hmr7 := ex7 _ _ hmr6
              have hf7 := ex7 _ _ hf6
              have hes7 := all2_tk st_Ppl (tk_ex ex7) hes6
              have hFs7 : All2 (PartF f' H7) fs Fs := hFs6.mono fun _ _ h => h.mo (mo_ex ex7) (tk_ex ex7)
              have mo7 : Mo [f'] H3 H7 := mo6.trans (mo_ex ex7)
              have tkN : ∀ {H' : Hp}, Mo [f'] H7 H' → Tk H7 H' := fun {H'} m b xs hb => m b _ (fun z => by rw [List.mem_singleton.mp z, hf7] at hb; cases hb) hb
              refine for_it (walk_range (lo := low) (n := (hi + 1 - low).toNat)) (fun j σ H' => ∃ y7 y12 y13 y14 fs2 Fs2, σ = [some (.ref t), some (.ref a), some (.ref pa), some (.ref d), some (.int gone), some (.int (n : Nat)), some (.ref tl), y7, some (.ref f'), some (.ref mr), some (.ref lr), some (.int low), y12, y13, y14] ∧ Mo [f'] H7 H' ∧ H' f' = some (.lst fs2) ∧ All2 (PartF f' H') fs2 Fs2 ∧
                Fs2 = Fs ++ (List.range j).map fun i => nxt l (M, L) (low + (i : Nat)))
                ⟨_, _, _, _, fs, Fs, rfl, Mo.refl _ _, hf7, hFs7, by simp⟩ (fun j σ H' _ pv => trivial) (fun j x σ H' H8 hj pv y => ?_) fun σ H8 pv => ?_
              · obtain ⟨y7, y12, y13, y14, fs2, Fs2, rfl, mo8, hf8, hFs8, eFs⟩ := pv
                obtain ⟨rfl, rfl⟩ := y
                dsimp only
                generalize hk : low + ((j : Nat) : Int) = k
                have k0 : 0 ≤ k := by omega
                have khi : k ≤ hi := by omega
                have htl8 := tkN mo8 _ _ htl7
                have hlr8 := tkN mo8 _ _ hlr7
                have hmr8 := mo8 _ _ (by simpa using nmr) hmr7
                have hes8 := all2_tk st_Ppl (tkN mo8) hes7
                refine ⟨.ref lr, rfl, lr, vi L, rfl, st_of hlr8, fun D3 nD3 => ?_⟩
                refine lc_it (walk_enumT (xs := vi L)) (Cx1 H8 IsI (upto (fun _ => true) (fun r => if r ∈ l then cf L r - k else cf L r)) D3) (cx_zero nD3 rfl) (fun j H' _ pv => st_of (pv.2.1 _ _ hlr8)) (fun j2 x H' H9 hj2 pv y => ?_) fun H9 pv => ?_
                · obtain ⟨T2, w1', w2', rfl, nT2, rfl, g1, g2⟩ := y
                  cases g1
                  have hj3 : j2 < L.length := by simpa [vi] using hj2
                  cases (vi_get hj3).symm.trans g2
                  have xT2 := Evl.Ex.new (o := .tup [.int (j2 : Nat), .int (cf L j2)]) nT2
                  refine ⟨T2, _, rfl, st_of upd_same, rfl, _, _, rfl, _, _, rfl, rfl, rfl, ?_⟩
                  refine cx_all st_I pv xT2 (by have := I.c2; omega) fun Q kq => ?_
                  refine ⟨_, rfl, .ref tl, rfl, tl, _, rfl, .inr (st_of ((pv.2.1.trans xT2) _ _ htl8)), rfl, flat_vn _, _, rfl, ?_⟩
                  rw [if_neg (by decide), inV_vn]
                  refine itB (fun hm => ?_) (fun hm => ?_)
                  · exact ⟨_, rfl, _, rfl, _, _, rfl, rfl, kq _ _ (Evl.Ex.refl _) (by rw [if_pos (of_decide_eq_true hm)]; rfl)⟩
                  · exact ⟨_, rfl, kq _ _ (Evl.Ex.refl _) (by rw [if_neg (of_decide_eq_false hm)]; rfl)⟩
                · obtain ⟨_, ex9, acc9, hD9, hA9⟩ := pv
                  rw [all2_I, show (vi L).length = L.length by simp [vi]] at hA9
                  refine ⟨D3, acc9, rfl, .inl ⟨sq_of hD9, fun rt nrt => ?_⟩⟩
                  have w3 := Evl.Ex.new (o := .tup acc9) nrt
                  have e8 := ex9.trans w3
                  have hrt : (upd H9 rt (.tup acc9)) rt = some (.tup (vi (subL L l k))) := by rw [upd_same, hA9]; rfl
                  have mo9 : Mo [f'] H7 (upd H9 rt (.tup acc9)) := mo8.trans (mo_ex e8)
                  have hf9 := e8 _ _ hf8
                  have hFs9 : All2 (PartF f' (upd H9 rt (.tup acc9))) fs2 Fs2 := hFs8.mono fun _ _ h => h.mo (mo_ex e8) (tk_ex e8)
                  have hmr9 := e8 _ _ hmr8
                  have hes9 := all2_tk st_Ppl (tk_ex e8) hes8
                  have htl9 := e8 _ _ htl8
                  generalize upd H9 rt (.tup acc9) = HC at hrt mo9 hf9 hFs9 hmr9 hes9 htl9
                  refine ⟨_, rfl, .inl ⟨rfl, _, sq_of hf9⟩, _, rfl, _, rfl, _, _, rfl, rfl, _, rfl, itB (fun hb => ?gA) (fun hb => ?gB)⟩
                  case' gA =>
                    have hk0 : 0 < k := of_decide_eq_true hb
                    refine ⟨_, rfl, _, rfl, by show 2 ≤ sizeLine; decide, fun q1 nq1 => ⟨by show 1 ≤ sizeLine; decide, fun q2 nq2 => ?_⟩⟩
                    have v1 := Evl.Ex.new (o := .tup [.ref tl, .int k]) nq1
                    have v2 := Evl.Ex.new (o := .lst [.ref q1]) nq2
                    have eC := v1.trans v2
                    have hq2 := upd_same (H := upd HC q1 (.tup [.ref tl, .int k])) (a := q2) (o := .lst [.ref q1])
                    have hext : All2 (PplR (upd (upd HC q1 (.tup [.ref tl, .int k])) q2 (.lst [.ref q1]))) [.ref q1] (if 0 < k then [(l, k)] else []) := by
                      rw [if_pos hk0]
                      exact .cons ⟨q1, tl, rfl, v2 _ _ upd_same, eC _ _ htl9⟩ .nil
                    have extl : ([V.ref q1] : List V).length ≤ 1 := by simp
                    generalize upd (upd HC q1 (.tup [.ref tl, .int k])) q2 (.lst [.ref q1]) = HD at eC hq2 hext
                    generalize ([V.ref q1] : List V) = ext at hq2 hext extl
                  case' gB =>
                    have hk0 : ¬ 0 < k := of_decide_eq_false hb
                    refine ⟨Nat.zero_le _, fun q2 nq2 => ?_⟩
                    have eC := Evl.Ex.new (o := .lst []) nq2
                    have hq2 := upd_same (H := HC) (a := q2) (o := .lst [])
                    have hext : All2 (PplR (upd HC q2 (.lst []))) [] (if 0 < k then [(l, k)] else []) := by
                      rw [if_neg hk0]; exact .nil
                    have extl : ([] : List V).length ≤ 1 := by simp
                    generalize upd HC q2 (.lst []) = HD at eC hq2 hext
                    generalize ([] : List V) = ext at hq2 hext extl
                  all_goals
                    have esl := hes9.1
                    refine ⟨mr, q2, es, ext, rfl, rfl, eC _ _ hmr9, hq2, by omega, fun q3 nq3 => ?_⟩
                    have v3 := Evl.Ex.new (o := .lst (es ++ ext)) nq3
                    refine ⟨_, rfl, by show 2 ≤ sizeLine; decide, fun q4 nq4 => ?_⟩
                    have v4 := Evl.Ex.new (o := .tup [.ref q3, .ref rt]) nq4
                    have eE := eC.trans (v3.trans v4)
                    have hfE := eE _ _ hf9
                    have nq3f : q3 ≠ f' := Ne.symm (ne_of_none (eC _ _ hf9) nq3)
                    have hFl2 : Fs2.length ≤ Fs.length + j := by rw [eFs]; simp
                    have fsl := hFs9.1
                    refine ⟨f', fs2, _, rfl, rfl, hfE, sz_lt (by omega), ?_⟩
                    have tE : Tk HC (upd (upd (upd HD q3 (.lst (es ++ ext))) q4 (.tup [.ref q3, .ref rt])) f' (.lst (fs2 ++ [.ref q4]))) := (tk_ex eE).trans (tk_upd hfE fun xs z => by cases z)
                    have mE : Mo [f'] HC (upd (upd (upd HD q3 (.lst (es ++ ext))) q4 (.tup [.ref q3, .ref rt])) f' (.lst (fs2 ++ [.ref q4]))) := (mo_ex eE).trans (mo_at (by simp))
                    refine ⟨_, _, _, _, fs2 ++ [.ref q4], Fs2 ++ [nxt l (M, L) k], rfl, mo9.trans mE, upd_same, ?_, by rw [eFs, List.range_succ, List.map_append, ← List.append_assoc]; simp [hk]⟩
                    refine (hFs9.mono fun _ _ h => h.mo mE tE).snoc ⟨q4, q3, rt, es ++ ext, rfl, ?_, ?_, nq3f, ?_, tE _ _ hrt⟩
                    · rw [upd_ne (fun z => by rw [z] at nq4; rw [v3 _ _ (eC _ _ hf9)] at nq4; cases nq4), upd_same]
                    · rw [upd_ne nq3f]; exact v4 _ _ upd_same
                    · refine All2.app (all2_tk st_Ppl tE hes9) (all2_tk st_Ppl ?_ hext)
                      exact (tk_ex (v3.trans v4)).trans (tk_upd hfE fun xs z => by cases z)
              · obtain ⟨y7, y12, y13, y14, fs2, Fs2, rfl, mo8, hf8, hFs8, eFs⟩ := pv
                have tk : Ps.take (i + 1) = Ps.take i ++ [(M, L)] := by rw [List.take_add_one, ep]; rfl
                refine ⟨_, _, _, _, _, _, _, fs2, Fs2, rfl, mo7.trans mo8, hf8, hFs8, ?_, fun q hq => ?_, fun p hp k k0 kl kn => ?_⟩
                · rw [eFs]; simp; omega
                · rw [eFs] at hq
                  rw [tk]
                  rcases List.mem_append.mp hq with hq | hq
                  · obtain ⟨p, hp, k, r⟩ := hs q hq
                    exact ⟨p, List.mem_append_left _ hp, k, r⟩
                  · obtain ⟨j, hj, rfl⟩ := List.mem_map.mp hq
                    have hj := List.mem_range.mp hj
                    exact ⟨(M, L), by simp, low + (j : Nat), by omega, fun r hr => by have := hiL r hr; show low + (j : Nat) ≤ cf L r; omega, rfl⟩
                · rw [tk] at hp
                  rw [eFs]
                  rcases List.mem_append.mp hp with hp | hp
                  · exact List.mem_append_left _ (hc p hp k k0 kl kn)
                  · rw [List.mem_singleton.mp hp] at kl kn ⊢
                    have h1 : k ≤ hi := by rw [← hr1e]; exact kl r1 hr1
                    have h2 := lowk k k0 kn
                    exact List.mem_append_right _ (List.mem_map.mpr ⟨(k - low).toNat, List.mem_range.mpr (by omega), by congr 1; omega⟩)
        · obtain ⟨y7, y9, y10, y11, y12, y13, y14, fs, Fs, rfl, mo, hf, hFs, hFl, hs, hc⟩ := pv
          rw [List.take_of_length_le (by rw [hPs3.1]; exact Nat.le_refl _)] at hs hc
          have hSt' := hSt.step I.nd el (fun r hr => (l3 r hr).1) (fun r hr => (l3 r hr).2) hlast hs hc
          have exF : Ex HB H4 := fun b o hb => mo b o (fun z => by rw [List.mem_singleton.mp z, nfB] at hb; cases hb) (ex3 _ _ hb)
          refine ⟨_, rfl, _, rfl, .ref f', rfl, f', _, rfl, .inl (sq_of hf), _, _, rfl, rfl, _, _, rfl, ?_⟩
          have ret : tRet (tLst tNil) { nx := fun x H' => Q V.non H', rt := Q } [] H4 := ⟨Nat.zero_le _, fun e ne => q e [] [] _ ((eHB.trans exF).trans (Evl.Ex.new ne)) (fresh_back (eHB.trans exF) ne) upd_same .nil (.inl rfl)⟩
          refine ⟨.ref f', rfl, f', _, rfl, .inl (sq_of hf), _, _, rfl, rfl, _, rfl, itB (fun _ => itT ret) (fun hb => ?_)⟩
          refine ⟨_, rfl, _, _, rfl, rfl, _, rfl, itB (fun _ => ret) (fun _ => ?_)⟩
          have hb2 : ¬ (200 < (fs.length : Int)) := of_decide_eq_false hb
          have hb3 : fs.length ≤ 200 := by omega
          exact ⟨f', _, _, _, _, _, _, _, _, _, _, _, fs, Fs, rfl, exF, hf, hFs.mono fun _ _ h => h.r, by rw [← hFs.1]; exact hb3, hSt'⟩
      · -- the end
        obtain ⟨pa, gone, y5, y6, y7, y8, y9, y10, y11, y12, y13, y14, ps, Ps, rfl, ex, hpa, hPs, hPl, hSt⟩ := pv
        rw [hT_len] at hSt
        refine ⟨_, rfl, pa, rfl, ⟨_, sq_of hpa⟩, fun D nD => ?_⟩
        refine lc_it (walk_list (xs := ps)) (Cx1 H9 EvR (upto (fun i => (fun p : Part => p.2.all fun x => decide (x ≤ 0)) (Ps.getD i ([], []))) (fun i => (fun p : Part => p.1) (Ps.getD i ([], [])))) D) (cx_zero nD rfl) (fun j H' _ pv => sq_of (pv.2.1 _ _ hpa)) (fun j x H' H5 hj pv y => ?_) fun H5 pv => ?_
        · obtain ⟨rfl, ey⟩ := y
          obtain ⟨⟨M, L⟩, ep, hpr⟩ := hPs.get' ey
          obtain ⟨ap, mr, lr, es, rfl, hap, hmr, hes, hlr⟩ := hpr.ex pv.2.1
          obtain ⟨s1, s2, s3, s4⟩ := hSt.snd _ (List.mem_of_getElem? ep)
          have s1 : L.length = c.length := s1
          refine ⟨ap, _, rfl, st_of hap, rfl, _, _, rfl, _, _, rfl, rfl, rfl, ?_⟩
          refine ⟨_, rfl, lr, L, rfl, st_of hlr, by have := I.c1; omega, fun mx hm1 hm2 => ⟨rfl, _, rfl, ?_⟩⟩
          refine cx_turn st_Ev pv (Evl.Ex.refl _) ?_ (by rw [hPs.1] at hj; omega) fun _ Q k => ⟨_, rfl, mr, es, rfl, .inl ⟨sq_of hmr, fun tt ntt => k _ _ (Evl.Ex.new ntt) ⟨tt, es, rfl, upd_same, ?_⟩⟩⟩
          · rw [getD_of ep]
            dsimp only
            rw [Bool.eq_iff_iff, decide_eq_true_eq, List.all_eq_true]
            constructor
            · intro e x hx
              have e : mx = 0 := V.int.inj e
              have := hm2 x hx
              exact decide_eq_true (by omega)
            · intro h
              have h1 := of_decide_eq_true (h mx hm1)
              obtain ⟨r, hr⟩ := List.mem_iff_getElem?.mp hm1
              have hlt : r < L.length := (List.getElem?_eq_some_iff.mp hr).1
              have h2 := (s4 r (by omega)).1
              have e : cf L r = mx := getD_of hr
              have h2 : 0 ≤ cf L r := h2
              rw [show mx = 0 by omega]
          · rw [getD_of ep]
            exact all2_tk st_Ppl (tk_new ntt) hes
        · obtain ⟨nD', ex5, acc, hD5, hA⟩ := pv
          rw [hPs.1, upto_filter (fun p : Part => p.2.all fun x => decide (x ≤ 0)) (fun p : Part => p.1)] at hA
          exact q D acc _ H5 ((eHB.trans ex).trans ex5) (fresh_back (eHB.trans ex) nD) hD5 hA (.inr (hSt.done hPl))
end K56


namespace K56
open PySem PySem.Spec PyProof.Rows L2 K56R
open Evl (Ex ex_l ex_t sq_of st_of fresh_back sz_of sz_lt)
/-! ### does a question take a trip -/
theorem eqvAll_ints : ∀ a b : List Int, PyData.eqvAll (a.map PyData.int) (b.map PyData.int) = decide (a = b)
  | [], [] => rfl
  | [], _ :: _ => rfl
  | _ :: _, [] => rfl
  | x :: a, y :: b => by
    show (x == y && PyData.eqvAll (a.map PyData.int) (b.map PyData.int)) = _
    rw [eqvAll_ints a b, Bool.eq_iff_iff]
    simp
theorem shaped_tup_ints (ns : List Int) : SeqAt.shaped (.tuple (ns.map PyData.int)) = true := by
  simp [SeqAt.shaped, PyData.canLay0, PyData.depth, PySem.W.ke_canLayAll0, PySem.W.ke_depthAll]
theorem dp_vn {K : PySem.W.Frag} {H : Hp} (l : List Nat) : DpAll K H (vn l) ((toI l).map PyData.int) := by
  rw [vn_toI]; exact dp_ints _
theorem toI_inj {a b : List Nat} (h : toI a = toI b) : a = b := by
  have : (toI a).map Int.toNat = (toI b).map Int.toNat := by rw [h]
  simpa [toI, Function.comp_def] using this
theorem infix_iff {l s : List Nat} : (∃ k, k < l.length - s.length + 1 ∧ s.length ≤ l.length ∧ (l.drop k).take s.length = s) ↔ ∃ h t, l = h ++ s ++ t := by
  constructor
  · rintro ⟨k, _, _, e⟩
    refine ⟨l.take k, (l.drop k).drop s.length, ?_⟩
    have h1 : (l.drop k).take s.length ++ (l.drop k).drop s.length = l.drop k := List.take_append_drop _ _
    rw [e] at h1
    rw [List.append_assoc, h1, List.take_append_drop]
  · rintro ⟨h, t, rfl⟩
    refine ⟨h.length, by simp; omega, by simp; omega, ?_⟩
    rw [List.append_assoc, List.drop_left, List.take_left]
theorem cut_mid (l : List Nat) {k n : Nat} (h : k + n ≤ l.length) : cutV (vn l) (some (k : Int)) (some ((k : Int) + (n : Int))) = vn ((l.drop k).take n) ∧
    ((HT.sIx (vn l).length 0 (some (k : Int)) = 0 ∧ HT.sIx (vn l).length (vn l).length (some ((k : Int) + (n : Int))) = (vn l).length) → vn l = vn ((l.drop k).take n)) := by
  have e : (vn l).length = l.length := by simp [vn]
  rw [show ((k : Int) + (n : Int)) = ((k + n : Nat) : Int) from by omega]
  unfold cutV
  rw [HT.sIx_nat, HT.sIx_nat, e, show min k l.length = k from by omega, show min (k + n) l.length = k + n from by omega, Nat.add_sub_cancel_left]
  refine ⟨by unfold vn; rw [List.map_take, List.map_drop], fun ⟨h1, h2⟩ => ?_⟩
  rw [h1, List.drop_zero, List.take_of_length_le (by omega)]
/-- a question that may be asked of such trips -/
def QT (R : Arcs) : Qn → Prop
  | .along s => s.length ≤ 50 ∧ ∃ a b, IsPath R a s b
  | .touch ns => ns.length ≤ 50
  | .both _ _ => True
def sp_law_is_taken (_ : PySem.W.Frag) : Sp := fun vs H Q _ => ∃ u tt q l m R, vs = [.ref u, .ref tt] ∧ QR H u q ∧ H tt = some (.tup (vn l)) ∧ NetOk m R ∧ IsPath R 0 l (m - 1) ∧ l.length ≤ 50 ∧ QT R q ∧ ∀ H', Ex H H' → Q (.bl (decide (qf q l = 1))) H'
theorem ok_law_is_taken {P : Program} {w : World} {K : PySem.W.Frag} {mg : Str → Option Value} {base : Heap} {f : Addr} {fd : FuncData} (F : L2.Fun K "_law_is_taken" "_law_is_taken" s_law_is_taken f fd) (B : Bn mg) :
    FnOk P w K mg base CX0 1 f fd ["_law_question_here", "_law_trip"] (sp_law_is_taken K) := by
  refine F.ok (k := 0) sc_law_is_taken (fun vs H Q E h => ?_) (fun cdv A outer s H vs Q E hr h => ?_)
  · obtain ⟨_, _, _, _, _, _, rfl, _⟩ := h
    rfl
  · obtain ⟨u, tt, qn, l, m, R, rfl, hQ, htt, hN, hp, hl, hT, q⟩ := h
    have hu := hu_of hr
    refine ⟨_, (pss_cons (ps_if (pt_cmpR op_eq (pe_ix ix_tup (pv 0) pe_int (fun _ _ => rfl)) pe_str (nomark _)) (pss_cons (ps_set (i := 2) sc_law_is_taken.nd rfl (Or.inr rfl) (pe_callB call_len_seq (by rfl) B.len PySem.boot_len (pa_cons (pe_ix ix_tup (pv 0) pe_int (fun _ _ => rfl)) pa_nil)))
          (pss_one (ps_ret (pe_cmpR (op_neD hr.units) (pe_lc (own := [("_law_k", 3)]) rfl sc_law_is_taken.nd (pi_range1 (by rfl) B.range (pa_cons (pe_op op_add (pe_op op_sub (pe_callB call_len_seq (by rfl) B.len PySem.boot_len (pa_cons (pv 1) pa_nil)) (pv 2)) pe_int) pa_nil)) (blkOk_by (own := [("_law_k", 3)]) (N := N_law_is_taken) (sc := defScope s_law_is_taken) (by decide +kernel)) (fun _ _ _ _ _ => (pg_name (i := 3) sc_law_is_taken.nd rfl (Or.inl rfl))) (fun _ _ _ _ _ => (pts_one (pt_cmpR (op_eqDK K hr.units) (pe_slice (sl_tupAK K) (pv 1) (po_some (pv 3)) (po_some (pe_op op_add (pv 3) (pv 2)))) (pe_ix (ix_tupK K) (pv 0) pe_int (fun _ _ => rfl)) (nomark _)))) (fun _ _ _ _ _ => pe_int)) (pe_lst pa_nil) (nomark _))))) pss_nil)
          (pss_cons (ps_if (pt_cmpR op_eq (pe_ix ix_tup (pv 0) pe_int (fun _ _ => rfl)) pe_str (nomark _)) (pss_one (ps_ret (pe_cmpR (op_neD hr.units) (pe_lc (own := [("_law_road", 4)]) rfl sc_law_is_taken.nd (pi_tup (pe_ix ix_tup (pv 0) pe_int (fun _ _ => rfl))) (blkOk_by (own := [("_law_road", 4)]) (N := N_law_is_taken) (sc := defScope s_law_is_taken) (by decide +kernel)) (fun _ _ _ _ _ => (pg_name (i := 4) sc_law_is_taken.nd rfl (Or.inl rfl))) (fun _ _ _ _ _ => (pts_one (pt_cmpR (op_in_seqK K) (pv 4) (pv 1) (by rfl)))) (fun _ _ _ _ _ => pe_int)) (pe_lst pa_nil) (nomark _)))) pss_nil)
          (pss_one (ps_ret (pe_and (pe_cmpR op_in_seq (pe_ix ix_tup (pv 0) pe_int (fun _ _ => rfl)) (pv 1) (by rfl)) (pe_one (pe_cmpR op_in_seq (pe_ix ix_tup (pv 0) pe_int (fun _ _ => rfl)) (pv 1) (by rfl)))))))), ?_⟩
    cases qn with
    | along s =>
      obtain ⟨s', hu', hs'⟩ := hQ
      obtain ⟨hsl, a, b, hsp⟩ := hT
      have ls : (vn s).length = s.length := by simp [vn]
      have ll : (vn l).length = l.length := by simp [vn]
      refine ⟨.ref u, rfl, u, _, 0, .str "along", rfl, rfl, st_of hu', rfl, rfl, _, rfl, ?_⟩
      refine itB (fun _ => ?_) (fun hb => absurd hb (by decide +kernel))
      refine ⟨.ref u, rfl, u, _, 1, .ref s', rfl, rfl, st_of hu', rfl, s', _, rfl, .inr (st_of hs'), ?_⟩
      refine ⟨.ref tt, rfl, tt, _, rfl, .inr (st_of htt), _, rfl, _, _, rfl, rfl, _, _, rfl, rfl, _, rfl, by rw [ls, ll]; omega, by rw [ls, ll]; omega, fun D nD => ?_⟩
      rw [ls, ll]
      refine lc_it (walk_range0 (n := ((l.length : Int) - (s.length : Int) + 1).toNat)) (Cx1 H IsI (upto (fun k => decide ((l.drop k).take s.length = s)) (fun _ => 1)) D) (cx_zero nD rfl) (fun i H' _ pv => trivial) (fun i x H' H2 hi pv y => ?_) fun H' pv => ?_
      · obtain ⟨rfl, rfl⟩ := y
        have hk : i + s.length ≤ l.length := by omega
        obtain ⟨cm1, cm2⟩ := cut_mid l hk
        refine ⟨rfl, ?_⟩
        have fin : ∀ (p : Addr) (H3 : Hp), Ex H2 H3 → H3 p = some (.tup (vn ((l.drop i).take s.length))) → True := fun _ _ _ _ => trivial
        refine ⟨.ref tt, rfl, .int i, rfl, i, rfl, .int i, rfl, .int s.length, by rw [← ls]; rfl, _, _, rfl, rfl, _, rfl, tt, _, rfl, st_of (pv.2.1 _ _ htt), fun w => ?gA, fun _ p np => ?gB⟩
        case' gA =>
          have e3 := Evl.Ex.refl H2
          have h3 : H2 tt = some (.tup (vn ((l.drop i).take s.length))) := by rw [← cm2 w]; exact pv.2.1 _ _ htt
        case' gB =>
          have e3 := Evl.Ex.new (o := .tup (cutV (vn l) (some (i : Int)) (some ((i : Int) + (s.length : Int))))) np
          have h3 : (upd H2 p (.tup (cutV (vn l) (some (i : Int)) (some ((i : Int) + (s.length : Int)))))) p = some (.tup (vn ((l.drop i).take s.length))) := by rw [upd_same, cm1]
        all_goals
          have e4 := pv.2.1.trans e3
          refine ⟨.ref u, rfl, u, _, 1, .ref s', rfl, rfl, st_of (e4 _ _ hu'), rfl, _, _, .tup (st_of h3) (dp_vn _), .tup (st_of (e4 _ _ hs')) (dp_vn _), shaped_tup_ints _, shaped_tup_ints _, _, rfl, ?_⟩
          refine cx_turn st_I pv e3 ?_ (by omega) fun _ Q k => k _ _ (Evl.Ex.refl _) rfl
          show PyData.eqvAll _ _ = _
          rw [eqvAll_ints, Bool.eq_iff_iff, decide_eq_true_eq, decide_eq_true_eq]
          exact ⟨fun e => toI_inj e, fun e => by rw [e]⟩
      · obtain ⟨nD', ex, acc, hD, hA⟩ := pv
        rw [all2_I] at hA
        rw [hA] at hD
        refine ⟨Nat.zero_le _, fun t nt => ?_⟩
        have xt := Evl.Ex.new (o := .lst []) nt
        refine ⟨_, _, .lst (sq_of (xt _ _ hD)) (dp_ints _), .lst (sq_of upd_same) .nil, PySem.W.ke_shaped_ints _, shaped_nil, ?_⟩
        rw [eqv_ints]
        have := q _ (ex.trans xt)
        have e : (!decide (upto (fun k => decide ((l.drop k).take s.length = s)) (fun _ => (1 : Int)) ((l.length : Int) - (s.length : Int) + 1).toNat = [])) = decide (qf (.along s) l = 1) := by
          rw [Bool.eq_iff_iff, Bool.not_eq_true', decide_eq_false_iff_not, decide_eq_true_eq]
          show upto _ _ _ ≠ [] ↔ fAll s l = 1
          rw [upto_ne, fAll_one]
          constructor
          · rintro ⟨k, hk, e⟩
            have e := of_decide_eq_true e
            obtain ⟨h, t, rfl⟩ := infix_iff.mp ⟨k, by omega, by omega, e⟩
            intro r hr; simp [hr]
          · intro h
            obtain ⟨h', t, e⟩ := infix_of_all hN.up hsp hp h
            obtain ⟨k, k1, k2, k3⟩ := infix_iff.mpr ⟨h', t, e⟩
            exact ⟨k, by omega, decide_eq_true k3⟩
        rw [← e] at this
        exact this
    | touch ns =>
      obtain ⟨s', hu', hs'⟩ := hQ
      have hT : ns.length ≤ 50 := hT
      refine ⟨.ref u, rfl, u, _, 0, .str "touch", rfl, rfl, st_of hu', rfl, rfl, _, rfl, ?_⟩
      refine itB (fun hb => absurd hb (by decide +kernel)) (fun _ => ?_)
      refine ⟨.ref u, rfl, u, _, 0, .str "touch", rfl, rfl, st_of hu', rfl, rfl, _, rfl, ?_⟩
      refine itB (fun _ => ?_) (fun hb => absurd hb (by decide +kernel))
      refine ⟨.ref u, rfl, u, _, 1, .ref s', rfl, rfl, st_of hu', rfl, s', rfl, ⟨_, st_of hs'⟩, fun D nD => ?_⟩
      refine lc_it (walk_tup (xs := vn ns)) (Cx1 H IsI (upto (fun i => (fun r : Nat => decide (r ∈ l)) (ns.getD i 0)) (fun i => (fun _ : Nat => (1 : Int)) (ns.getD i 0))) D) (cx_zero nD rfl) (fun i H' _ pv => st_of (pv.2.1 _ _ hs')) (fun i x H' H2 hi pv y => ?_) fun H' pv => ?_
      · obtain ⟨rfl, ey⟩ := y
        obtain ⟨r, er, rfl⟩ := vn_get ey
        refine ⟨rfl, ?_⟩
        refine ⟨.int r, rfl, .ref tt, rfl, tt, _, rfl, .inr (st_of (pv.2.1 _ _ htt)), rfl, flat_vn _, _, rfl, ?_⟩
        refine cx_turn st_I pv (Evl.Ex.refl _) ?_ (by simp [vn] at hi; omega) fun _ Q k => k _ _ (Evl.Ex.refl _) rfl
        rw [if_neg (by decide), inV_vn, getD_of er]
      · obtain ⟨nD', ex, acc, hD, hA⟩ := pv
        rw [all2_I, show (vn ns).length = ns.length by simp [vn], upto_filter (fun r : Nat => decide (r ∈ l)) (fun _ : Nat => (1 : Int))] at hA
        rw [hA] at hD
        refine ⟨Nat.zero_le _, fun t nt => ?_⟩
        have xt := Evl.Ex.new (o := .lst []) nt
        refine ⟨_, _, .lst (sq_of (xt _ _ hD)) (dp_ints _), .lst (sq_of upd_same) .nil, PySem.W.ke_shaped_ints _, shaped_nil, ?_⟩
        rw [eqv_ints]
        have := q _ (ex.trans xt)
        have e : (!decide ((ns.filter fun r : Nat => decide (r ∈ l)).map (fun _ => (1 : Int)) = [])) = decide (qf (.touch ns) l = 1) := by
          rw [Bool.eq_iff_iff, Bool.not_eq_true', decide_eq_false_iff_not, decide_eq_true_eq]
          show _ ↔ fAny ns l = 1
          rw [fAny_one, List.map_eq_nil_iff]
          constructor
          · intro h
            obtain ⟨r, hr⟩ := List.exists_mem_of_ne_nil _ h
            obtain ⟨h1, h2⟩ := List.mem_filter.mp hr
            exact ⟨r, of_decide_eq_true h2, h1⟩
          · rintro ⟨r, h1, h2⟩
            exact List.ne_nil_of_mem (List.mem_filter.mpr ⟨h2, decide_eq_true h1⟩)
        rw [← e] at this
        exact this
    | both a b =>
      refine ⟨.ref u, rfl, u, _, 0, .str "both", rfl, rfl, st_of hQ, rfl, rfl, _, rfl, ?_⟩
      refine itB (fun hb => absurd hb (by decide +kernel)) (fun _ => ?_)
      refine ⟨.ref u, rfl, u, _, 0, .str "both", rfl, rfl, st_of hQ, rfl, rfl, _, rfl, ?_⟩
      refine itB (fun hb => absurd hb (by decide +kernel)) (fun _ => ?_)
      refine ⟨.ref u, rfl, u, _, 1, .int a, rfl, rfl, st_of hQ, rfl, .ref tt, rfl, tt, _, rfl, .inr (st_of htt), rfl, flat_vn _, _, rfl, ?_⟩
      have hin : ∀ a : Nat, (if false = true then !inV (.int (a : Int)) (vn l) else inV (.int (a : Int)) (vn l)) = decide (a ∈ l) := fun a => by rw [if_neg (by decide), inV_vn]
      rw [hin]
      have := q _ (Evl.Ex.refl _)
      have e : decide (qf (.both a b) l = 1) = (decide (a ∈ l) && decide (b ∈ l)) := by
        rw [Bool.eq_iff_iff, decide_eq_true_eq, Bool.and_eq_true, decide_eq_true_eq, decide_eq_true_eq]
        show fAll [a, b] l = 1 ↔ _
        rw [fAll_one]; simp
      rw [e] at this
      refine itB (fun ha => ?_) (fun ha => ?_)
      · refine ⟨.ref u, rfl, u, _, 2, .int b, rfl, rfl, st_of hQ, rfl, .ref tt, rfl, tt, _, rfl, .inr (st_of htt), rfl, flat_vn _, ?_⟩
        rw [hin]
        rw [ha, Bool.true_and] at this
        exact this
      · rw [ha, Bool.false_and] at this
        exact this
/-! ### how many people a question takes -/
theorem qf_01 (q : Qn) (l : List Nat) : qf q l = 0 ∨ qf q l = 1 := by
  cases q
  · exact fAll_01 _ _
  · exact fAny_01 _ _
  · exact fAll_01 _ _
def sp_law_many (_ : PySem.W.Frag) : Sp := fun vs H Q _ => ∃ u e es q M m R, vs = [.ref u, .ref e] ∧ QR H u q ∧ H e = some (.tup es) ∧ All2 (PplR H) es M ∧ NetOk m R ∧ (∀ p ∈ M, IsPath R 0 p.1 (m - 1) ∧ p.1.length ≤ 50) ∧ QT R q ∧ M.length ≤ 1000 ∧
  ∀ H', Ex H H' → Q (.int (sm (fun p : Pp => p.2 * qf q p.1) M)) H'
theorem ok_law_many {P : Program} {w : World} {K : PySem.W.Frag} {mg : Str → Option Value} {base : Heap} {f : Addr} {fd : FuncData} (F : L2.Fun K "_law_many" "_law_many" s_law_many f fd) (B : Bn mg)
    (C_law_is_taken : C8.Cal P w K mg base 1 "_law_is_taken" (sp_law_is_taken K) []) :
    FnOk P w K mg base CX0 2 f fd ["_law_question_here", "_law_people_here"] (sp_law_many K) := by
  refine F.ok (k := 1) sc_law_many (fun vs H Q E h => ?_) (fun cdv A outer s H vs Q E hr h => ?_)
  · obtain ⟨_, _, _, _, _, _, _, rfl, _⟩ := h
    rfl
  · obtain ⟨u, e, es, qn, M, m, R, rfl, hQ, he, hM, hN, hP, hT, hMl, q⟩ := h
    have hu := hu_of hr
    refine ⟨_, (pss_one (ps_ret (pe_callB (cr_sum rfl) (by rfl) B.sum (by decide +kernel) (pa_cons (pe_lc (own := [("_law_trip", 2), ("_law_times", 3)]) rfl sc_law_many.nd (pi_tup (pv 1)) (blkOk_by (own := [("_law_trip", 2), ("_law_times", 3)]) (N := N_law_many) (sc := defScope s_law_many) (by decide +kernel)) (fun _ _ _ _ _ => (pg_tupK K (by rfl) (pgs_cons (pg_name (i := 2) sc_law_many.nd rfl (Or.inl rfl)) (pgs_cons (pg_name (i := 3) sc_law_many.nd rfl (Or.inl rfl)) pgs_nil)))) (fun _ _ _ _ _ => (pts_one (pt_val (C8.pe_c C_law_is_taken hr (by decide) (by rfl) (pa_cons (pv 0) (pa_cons (pv 2) pa_nil)))))) (fun _ _ _ _ _ => (pv 3))) pa_nil)))), ?_⟩
    refine ⟨_, rfl, e, rfl, ⟨_, st_of he⟩, fun D nD => ?_⟩
    refine lc_it (walk_tup (xs := es)) (Cx1 H IsI (upto (fun i => (fun p : Pp => decide (qf qn p.1 = 1)) (M.getD i ([], 0))) (fun i => (fun p : Pp => p.2) (M.getD i ([], 0)))) D) (cx_zero nD rfl) (fun i H' _ pv => st_of (pv.2.1 _ _ he)) (fun i x H' H2 hi pv y => ?_) fun H' pv => ?_
    · obtain ⟨rfl, ey⟩ := y
      obtain ⟨p, ep, a, t, rfl, ha, ht⟩ := hM.get' ey
      obtain ⟨hp1, hp2⟩ := hP p (List.mem_of_getElem? ep)
      refine ⟨a, _, rfl, st_of (pv.2.1 _ _ ha), rfl, _, _, rfl, _, _, rfl, rfl, rfl, ?_⟩
      refine ⟨_, rfl, _, rfl, u, t, qn, p.1, m, R, rfl, hQ.tk (tk_ex pv.2.1), pv.2.1 _ _ ht, hN, hp1, hp2, hT, fun H3 e3 => ⟨_, rfl, ?_⟩⟩
      refine cx_turn st_I pv e3 ?_ (by rw [hM.1] at hi; omega) fun _ Q k => ⟨_, rfl, k _ _ (Evl.Ex.refl _) ?_⟩
      · rw [getD_of ep]
      · rw [getD_of ep]; rfl
    · obtain ⟨nD', ex, acc, hD, hA⟩ := pv
      rw [all2_I, hM.1, upto_filter (fun p : Pp => decide (qf qn p.1 = 1)) (fun p : Pp => p.2)] at hA
      refine ⟨D, _, rfl, sq_of (by rw [hD, hA]), ?_⟩
      rw [sum_sm]
      have : sm (fun p : Pp => p.2) (M.filter fun p => decide (qf qn p.1 = 1)) = sm (fun p : Pp => p.2 * qf qn p.1) M := by
        have gen : ∀ M : List Pp, sm (fun p : Pp => p.2) (M.filter fun p => decide (qf qn p.1 = 1)) = sm (fun p : Pp => p.2 * qf qn p.1) M := by
          intro M
          induction M with
          | nil => rfl
          | cons p M ih =>
            rcases qf_01 qn p.1 with h | h
            · rw [List.filter_cons, if_neg (by simp [h]), ih]
              show _ = p.2 * qf qn p.1 + _
              rw [h]; omega
            · rw [List.filter_cons, if_pos (by simp [h])]
              show p.2 + _ = p.2 * qf qn p.1 + _
              rw [ih, h]; omega
        exact gen M
      rw [this]
      exact q _ ex
/-! ### never called here -/
def sp_law_stretch (_ : PySem.W.Frag) : Sp := fun _ _ _ _ => False
theorem ok_law_stretch {P : Program} {w : World} {K : PySem.W.Frag} {mg : Str → Option Value} {base : Heap} {f : Addr} {fd : FuncData} (F : L2.Fun K "_law_stretch" "_law_stretch" s_law_stretch f fd) (B : Bn mg)
    (C_law_draw : C8.Cal P w K mg base 1 "_law_draw" (sp_law_draw K) [])
    (C_law_pick : C8.Cal P w K mg base 2 "_law_pick" (sp_law_pick K) []) :
    FnOk P w K mg base CX0 3 f fd ["_law_deck_here", "_law_net_here"] (sp_law_stretch K) := by
  refine F.ok (k := 2) sc_law_stretch (fun vs H Q E h => ?_) (fun cdv A outer s H vs Q E hr h => ?_)
  · exact h.elim
  · exact h.elim
end K56


namespace K56
open PySem PySem.Spec PyProof.Rows L2 K56R
open Evl (Ex ex_l ex_t sq_of st_of fresh_back sz_of sz_lt)
/-! ### doors -/
theorem GoodNet.pos {m : Int} {R : Arcs} (h : GoodNet m R) : 1 ≤ R.length := by
  obtain ⟨u, hu⟩ := h.way
  have := h.m3
  cases u with
  | nil => have : (0 : Int) = m - 1 := hu; omega
  | cons r u => have := hu.1; omega
theorem int_perm {ys : List V} {ns : List Nat} (h : ys.Perm (vn ns)) : ∃ ms : List Nat, ms.Perm ns ∧ ys = vn ms := by
  obtain ⟨ms, p, h2⟩ := All2.perm (R := fun v (r : Nat) => v = V.int (r : Int)) h (m := ns) (All2.map_fn.mpr rfl)
  exact ⟨ms, p, All2.map_fn.mp h2⟩
theorem gt_ints {H : Hp} {n : Nat} {ns : List Nat} : ∀ x ∈ vn ns, GT H n x := fun x hx => by
  obtain ⟨r, _, rfl⟩ := List.mem_map.mp hx
  exact .int _ _
theorem Deck.ntup {H : Hp} {dk g p : Addr} {xs : List V} (h : Deck H dk g) (n : H p = some (.tup xs)) : p ∉ [dk, g] := fun m => by
  obtain ⟨gs, mx, tn, h1, h2, _⟩ := h.at_
  rcases List.mem_cons.mp m with rfl | m
  · rw [h1] at n; cases n
  · rw [List.mem_singleton.mp m, h2] at n; cases n
theorem upto_sub {f : Nat → Bool} {n r : Nat} (h : r ∈ upto f (fun r => r) n) : r < n := by
  unfold upto at h
  rw [List.map_id'] at h
  exact List.mem_range.mp (List.mem_filter.mp h).1
def sp_law_doors (_ : PySem.W.Frag) : Sp := fun vs H Q _ => ∃ dk g n m R, vs = [.ref dk, .ref n] ∧ Deck H dk g ∧ Net H n m R ∧ GoodNet m R ∧
  ∀ a ns H', Mo [dk, g] H H' → Deck H' dk g → H a = none → H' a = some (.lst (vn ns)) → ns.length = 2 → (∀ r ∈ ns, r < R.length) → Q (.ref a) H'
theorem ok_law_doors {P : Program} {w : World} {K : PySem.W.Frag} {mg : Str → Option Value} {base : Heap} {f : Addr} {fd : FuncData} (F : L2.Fun K "_law_doors" "_law_doors" s_law_doors f fd) (B : Bn mg)
    (C_law_mixed : C8.Cal P w K mg base 2 "_law_mixed" (sp_law_mixed K) [])
    (C_law_draw : C8.Cal P w K mg base 1 "_law_draw" (sp_law_draw K) [])
    (C_law_pick : C8.Cal P w K mg base 2 "_law_pick" (sp_law_pick K) []) :
    FnOk P w K mg base CX0 3 f fd ["_law_deck_here", "_law_net_here"] (sp_law_doors K) := by
  refine F.ok (k := 2) sc_law_doors (fun vs H Q E h => ?_) (fun cdv A outer s H vs Q E hr h => ?_)
  · obtain ⟨_, _, _, _, _, rfl, _⟩ := h
    rfl
  · obtain ⟨dk, g, n, m, R, rfl, hD, hN, hG, q⟩ := h
    obtain ⟨r0, ps, h1, h2, h3⟩ := id hN
    have hlR := hG.len
    have hpR := hG.pos
    have hu := hu_of hr
    refine ⟨_, (pss_cons (ps_set (i := 2) sc_law_doors.nd rfl (Or.inl rfl) (pe_op op_cat (pe_lc (own := [("_law_road", 4), ("_law_pair", 5)]) rfl sc_law_doors.nd (pi_enumT (by rfl) B.enumerate (pa_cons (pe_ix ix_tup (pv 1) pe_int (fun _ _ => rfl)) pa_nil)) (blkOk_by (own := [("_law_road", 4), ("_law_pair", 5)]) (N := N_law_doors) (sc := defScope s_law_doors) (by decide +kernel)) (fun _ _ _ _ _ => (pg_tupK K (by rfl) (pgs_cons (pg_name (i := 4) sc_law_doors.nd rfl (Or.inl rfl)) (pgs_cons (pg_name (i := 5) sc_law_doors.nd rfl (Or.inl rfl)) pgs_nil)))) (fun _ _ _ _ _ => (pts_one (pt_cmpR op_eq (pe_ix (ix_tupK K) (pv 5) pe_int (fun _ _ => rfl)) pe_int (nomark _)))) (fun _ _ _ _ _ => (pv 4))) (pe_lst (pa_cons (C8.pe_c C_law_draw hr (by decide) (by rfl) (pa_cons (pv 0) (pa_cons (pe_callB call_len_seq (by rfl) B.len PySem.boot_len (pa_cons (pe_ix ix_tup (pv 1) pe_int (fun _ _ => rfl)) pa_nil)) pa_nil))) pa_nil))))
          (pss_cons (ps_set (i := 3) sc_law_doors.nd rfl (Or.inl rfl) (pe_op op_cat (pe_lc (own := [("_law_road", 4), ("_law_pair", 5)]) rfl sc_law_doors.nd (pi_enumT (by rfl) B.enumerate (pa_cons (pe_ix ix_tup (pv 1) pe_int (fun _ _ => rfl)) pa_nil)) (blkOk_by (own := [("_law_road", 4), ("_law_pair", 5)]) (N := N_law_doors) (sc := defScope s_law_doors) (by decide +kernel)) (fun _ _ _ _ _ => (pg_tupK K (by rfl) (pgs_cons (pg_name (i := 4) sc_law_doors.nd rfl (Or.inl rfl)) (pgs_cons (pg_name (i := 5) sc_law_doors.nd rfl (Or.inl rfl)) pgs_nil)))) (fun _ _ _ _ _ => (pts_one (pt_cmpR op_eq (pe_ix (ix_tupK K) (pv 5) pe_int (fun _ _ => rfl)) (pe_op op_sub (pe_ix (ix_tupK K) (pv 1) pe_int (fun _ _ => rfl)) pe_int) (nomark _)))) (fun _ _ _ _ _ => (pv 4))) (pe_lst (pa_cons (C8.pe_c C_law_draw hr (by decide) (by rfl) (pa_cons (pv 0) (pa_cons (pe_callB call_len_seq (by rfl) B.len PySem.boot_len (pa_cons (pe_ix ix_tup (pv 1) pe_int (fun _ _ => rfl)) pa_nil)) pa_nil))) pa_nil))))
          (pss_one (ps_ret (C8.pe_c C_law_mixed hr (by decide) (by rfl) (pa_cons (pv 0) (pa_cons (pe_lst (pa_cons (C8.pe_c C_law_pick hr (by decide) (by rfl) (pa_cons (pv 0) (pa_cons (pv 2) pa_nil))) (pa_cons (C8.pe_c C_law_pick hr (by decide) (by rfl) (pa_cons (pv 0) (pa_cons (pv 3) pa_nil))) pa_nil))) pa_nil))))))), ?_⟩
    refine ⟨.ref n, rfl, n, _, 1, .ref r0, rfl, rfl, st_of h1, rfl, r0, ps, rfl, st_of h2, fun D nD => ?_⟩
    refine lc_it (walk_enumT (xs := ps)) (Cx1 H IsN (upto (fun r => decide (ft R r = 0)) (fun r => r)) D) (cx_zero nD rfl) (fun j H' _ pv => st_of (pv.2.1 _ _ h2)) (fun j x H' H3 hj pv y => ?_) fun H1 pv => ?_
    · obtain ⟨T, x1, x2, rfl, nT, rfl, e1, e2⟩ := y
      cases e1
      obtain ⟨zz, ez, a, rfl, ha⟩ := h3.get' e2
      obtain ⟨g1, g2⟩ := ft_get ez
      have ex := Evl.Ex.new (o := .tup [.int (j : Nat), .ref a]) nT
      refine ⟨T, _, rfl, st_of upd_same, rfl, _, _, rfl, _, _, rfl, rfl, rfl, ?_⟩
      refine ⟨_, rfl, a, _, 0, .int zz.1, rfl, rfl, st_of ((pv.2.1.trans ex) _ _ ha), rfl, rfl, _, rfl, ?_⟩
      refine cx_turn st_N pv ex ?_ (by rw [h3.1] at hj; omega) fun _ Q k => ⟨_, rfl, k _ _ (Evl.Ex.refl _) rfl⟩
      rw [g1]; simp
    · obtain ⟨_, ex1, acc, hD1, hA⟩ := pv
      rw [all2_N, h3.1] at hA
      generalize hL1 : upto (fun r => decide (ft R r = 0)) (fun r => r) R.length = L1 at hA
      have L1b : ∀ r ∈ L1, r < R.length := fun r hr => by rw [← hL1] at hr; exact upto_sub hr
      have L1l : L1.length ≤ 14 := by rw [← hL1]; exact Nat.le_trans (upto_len _ _ _) hlR
      rw [hA] at hD1
      have apD := hD.apart nD
      have D1 := hD.ex ex1
      refine ⟨.ref dk, rfl, .ref n, rfl, n, _, 1, .ref r0, rfl, rfl, st_of (ex1 _ _ h1), rfl, r0, ps, rfl, .inr (st_of (ex1 _ _ h2)), dk, g, _, rfl, D1, by rw [h3.1]; omega, fun r H2 mo2 D2 r00 r01 => ?_⟩
      rw [h3.1] at r01
      refine ⟨by show 1 ≤ sizeLine; decide, fun z nz => ?_⟩
      have y1 := Evl.Ex.new (o := .lst [.int r]) nz
      refine ⟨D, z, _, _, rfl, rfl, y1 _ _ (mo2 _ _ apD hD1), upd_same, sz_of (by simp [vn]; omega), fun into ni => ?_⟩
      have y2 := Evl.Ex.new (o := .lst (vn L1 ++ [.int r])) ni
      have er : r = ((r.toNat : Nat) : Int) := by omega
      have hinto := upd_same (H := upd H2 z (.lst [.int r])) (a := into) (o := .lst (vn L1 ++ [.int r]))
      have eI : vn L1 ++ [V.int r] = vn (L1 ++ [r.toNat]) := by rw [show V.int r = V.int ((r.toNat : Nat) : Int) by rw [← er]]; simp [vn]
      have mo3 : Mo [dk, g] H (upd (upd H2 z (.lst [.int r])) into (.lst (vn L1 ++ [.int r]))) := (mo_ex ex1).trans (mo2.trans (mo_ex (y1.trans y2)))
      have D3 := D2.ex (y1.trans y2)
      have api := (D2.ex y1).apart ni
      generalize upd (upd H2 z (.lst [.int r])) into (.lst (vn L1 ++ [.int r])) = H3 at hinto mo3 D3
      rw [eI] at hinto
      have Ib : ∀ s ∈ L1 ++ [r.toNat], s < R.length := fun s hs => by
        rcases List.mem_append.mp hs with hs | hs
        · exact L1b s hs
        · rw [List.mem_singleton.mp hs]; omega
      have tk3 := hD.tk mo3
      -- away
      refine ⟨.ref n, rfl, n, _, 1, .ref r0, rfl, rfl, st_of (tk3 _ _ h1), rfl, r0, ps, rfl, st_of (tk3 _ _ h2), fun E1 nE => ?_⟩
      refine lc_it (walk_enumT (xs := ps)) (Cx1 H3 IsN (upto (fun r => decide (hd R r = m - 1)) (fun r => r)) E1) (cx_zero nE rfl) (fun j H' _ pv => st_of (pv.2.1 _ _ (tk3 _ _ h2))) (fun j x H' H4 hj pv y => ?_) fun H4 pv => ?_
      · obtain ⟨T, x1, x2, rfl, nT, rfl, e1, e2⟩ := y
        cases e1
        obtain ⟨zz, ez, a, rfl, ha⟩ := h3.get' e2
        obtain ⟨g1, g2⟩ := ft_get ez
        have ex := Evl.Ex.new (o := .tup [.int (j : Nat), .ref a]) nT
        have e5 := pv.2.1.trans ex
        refine ⟨T, _, rfl, st_of upd_same, rfl, _, _, rfl, _, _, rfl, rfl, rfl, ?_⟩
        refine ⟨_, rfl, a, _, 1, .int zz.2, rfl, rfl, st_of (e5 _ _ (tk3 _ _ ha)), rfl, .ref n, rfl, n, _, 0, .int m, rfl, rfl, st_of (e5 _ _ (tk3 _ _ h1)), rfl, m, 1, rfl, rfl, rfl, _, rfl, ?_⟩
        refine cx_turn st_N pv ex ?_ (by rw [h3.1] at hj; omega) fun _ Q k => ⟨_, rfl, k _ _ (Evl.Ex.refl _) rfl⟩
        rw [g2]; simp
      · obtain ⟨_, ex4, acc4, hE4, hA4⟩ := pv
        rw [all2_N, h3.1] at hA4
        generalize hL2 : upto (fun r => decide (hd R r = m - 1)) (fun r => r) R.length = L2 at hA4
        have L2b : ∀ r ∈ L2, r < R.length := fun r hr => by rw [← hL2] at hr; exact upto_sub hr
        have L2l : L2.length ≤ 14 := by rw [← hL2]; exact Nat.le_trans (upto_len _ _ _) hlR
        rw [hA4] at hE4
        have apE := D3.apart nE
        have D4 := D3.ex ex4
        have tk4 : Tk H H4 := tk3.trans (tk_ex ex4)
        refine ⟨.ref dk, rfl, .ref n, rfl, n, _, 1, .ref r0, rfl, rfl, st_of (tk4 _ _ h1), rfl, r0, ps, rfl, .inr (st_of (tk4 _ _ h2)), dk, g, _, rfl, D4, by rw [h3.1]; omega, fun s H5 mo5 D5 s00 s01 => ?_⟩
        rw [h3.1] at s01
        refine ⟨by show 1 ≤ sizeLine; decide, fun z nz => ?_⟩
        have y1 := Evl.Ex.new (o := .lst [.int s]) nz
        refine ⟨E1, z, _, _, rfl, rfl, y1 _ _ (mo5 _ _ apE hE4), upd_same, sz_of (by simp [vn]; omega), fun aw na => ?_⟩
        have y2 := Evl.Ex.new (o := .lst (vn L2 ++ [.int s])) na
        have es : s = ((s.toNat : Nat) : Int) := by omega
        have haw := upd_same (H := upd H5 z (.lst [.int s])) (a := aw) (o := .lst (vn L2 ++ [.int s]))
        have eA : vn L2 ++ [V.int s] = vn (L2 ++ [s.toNat]) := by rw [show V.int s = V.int ((s.toNat : Nat) : Int) by rw [← es]]; simp [vn]
        have mo6' : Mo [dk, g] H3 (upd (upd H5 z (.lst [.int s])) aw (.lst (vn L2 ++ [.int s]))) := (mo_ex ex4).trans (mo5.trans (mo_ex (y1.trans y2)))
        have D6 := D5.ex (y1.trans y2)
        have apa := (D5.ex y1).apart na
        generalize upd (upd H5 z (.lst [.int s])) aw (.lst (vn L2 ++ [.int s])) = H6 at haw mo6' D6
        rw [eA] at haw
        have mo6 := mo3.trans mo6'
        have hinto6 := mo6' _ _ api hinto
        have Ab : ∀ s' ∈ L2 ++ [s.toNat], s' < R.length := fun s' hs => by
          rcases List.mem_append.mp hs with hs | hs
          · exact L2b s' hs
          · rw [List.mem_singleton.mp hs]; omega
        refine ⟨.ref dk, rfl, .ref dk, rfl, .ref into, rfl, dk, g, into, _, rfl, D6, api, .inl hinto6, by simp [vn], by simp [vn]; omega, fun v1 H7 mo7 D7 hv1 => ?_⟩
        obtain ⟨p1, hp1, rfl⟩ := List.mem_map.mp hv1
        refine ⟨.ref dk, rfl, .ref aw, rfl, dk, g, aw, _, rfl, D7, apa, .inl (mo7 _ _ apa haw), by simp [vn], by simp [vn]; omega, fun v2 H8 mo8 D8 hv2 => ?_⟩
        obtain ⟨p2, hp2, rfl⟩ := List.mem_map.mp hv2
        refine ⟨by show 2 ≤ sizeLine; decide, fun z3 nz3 => ?_⟩
        have y3 := Evl.Ex.new (o := .lst [.int (p1 : Nat), .int (p2 : Nat)]) nz3
        refine ⟨dk, g, z3, vn [p1, p2], rfl, D8.ex y3, .inl upd_same, by simp [vn], gt_ints, fun a ys H9 mo9 D9 na' ha9 perm => ?_⟩
        obtain ⟨ms, pm, rfl⟩ := int_perm perm
        have mo8' := mo6.trans (mo7.trans (mo8.trans (mo_ex y3)))
        refine q a ms H9 (mo8'.trans mo9) D9 (fresh_mo mo8' ((D8.ex y3).apart na') na') ha9 (by rw [pm.length_eq]; rfl) fun r hr => ?_
        have hr := pm.mem_iff.mp hr
        rcases List.mem_cons.mp hr with rfl | hr
        · exact Ib _ hp1
        · rw [List.mem_singleton.mp hr]; exact Ab _ hp2
/-! ### questions -/
theorem cut_sub (rs : List Nat) (lo hi : Option Int) : ∃ ns : List Nat, cutV (vn rs) lo hi = vn ns ∧ ns.length ≤ rs.length ∧ ∀ r ∈ ns, r ∈ rs := by
  refine ⟨(rs.drop (HT.sIx (vn rs).length 0 lo)).take (HT.sIx (vn rs).length (vn rs).length hi - HT.sIx (vn rs).length 0 lo), ?_, ?_, fun r hr => List.mem_of_mem_drop (List.mem_of_mem_take hr)⟩
  · unfold cutV vn
    rw [List.map_take, List.map_drop]
  · rw [List.length_take, List.length_drop]; omega
theorem nat_of {ns : List Int} (h : ∀ z ∈ ns, 0 ≤ z) : ∃ ms : List Nat, vi ns = vn ms ∧ ms.length = ns.length := by
  refine ⟨ns.map Int.toNat, ?_, by simp⟩
  unfold vi vn
  rw [List.map_map]
  refine List.map_congr_left fun z hz => ?_
  have := h z hz
  show V.int z = V.int ((z.toNat : Nat) : Int)
  congr 1; omega
def QR2 (H : Hp) (v : V) (q : Qn) : Prop := ∃ u, v = .ref u ∧ QR H u q
theorem st_Q2 : St QR2 := fun _ _ _ _ t h => by obtain ⟨u, e, q⟩ := h; exact ⟨u, e, q.tk t⟩
def sp_law_question (_ : PySem.W.Frag) : Sp := fun vs H Q _ => ∃ dk g n m R s, vs = [.ref dk, .ref n, .int s] ∧ (s = 1 ∨ s = 2) ∧ Deck H dk g ∧ Net H n m R ∧ GoodNet m R ∧
  ∀ u q H', Mo [dk, g] H H' → Deck H' dk g → QR H' u q → QOk R q → QT R q → Q (.ref u) H'
theorem ok_law_question {P : Program} {w : World} {K : PySem.W.Frag} {mg : Str → Option Value} {base : Heap} {f : Addr} {fd : FuncData} (F : L2.Fun K "_law_question" "_law_question" s_law_question f fd) (B : Bn mg)
    (C_law_pick : C8.Cal P w K mg base 2 "_law_pick" (sp_law_pick K) [])
    (C_law_doors : C8.Cal P w K mg base 3 "_law_doors" (sp_law_doors K) [])
    (C_law_mixed : C8.Cal P w K mg base 2 "_law_mixed" (sp_law_mixed K) [])
    (C_law_stretch : C8.Cal P w K mg base 3 "_law_stretch" (sp_law_stretch K) [])
    (C_law_draw : C8.Cal P w K mg base 1 "_law_draw" (sp_law_draw K) []) :
    FnOk P w K mg base CX0 4 f fd ["_law_deck_here", "_law_net_here", "_law_sort"] (sp_law_question K) := by
  refine F.ok (k := 3) sc_law_question (fun vs H Q E h => ?_) (fun cdv A outer s H vs Q E hr h => ?_)
  · obtain ⟨_, _, _, _, _, _, rfl, _⟩ := h
    rfl
  · obtain ⟨dk, g, n, m, R, s, rfl, hs, hD, hN, hG, q⟩ := h
    obtain ⟨r0, ps, h1, h2, h3⟩ := id hN
    have hlR := hG.len
    have hpR := hG.pos
    have hu := hu_of hr
    refine ⟨_, (pss_cons (ps_if (pt_cmpR op_eq (pv 2) pe_int (nomark _)) (pss_one (ps_ret (pe_tup (pa_cons pe_str (pa_cons (C8.pe_c C_law_stretch hr (by decide) (by rfl) (pa_cons (pv 0) (pa_cons (pv 1) pa_nil))) pa_nil))))) pss_nil)
          (pss_cons (ps_set (i := 3) sc_law_question.nd rfl (Or.inl rfl) (pe_op op_cat (C8.pe_c C_law_doors hr (by decide) (by rfl) (pa_cons (pv 0) (pa_cons (pv 1) pa_nil))) (C8.pe_c C_law_mixed hr (by decide) (by rfl) (pa_cons (pv 0) (pa_cons (pe_listRg rfl (by rfl) B.list (prg_1 (by rfl) B.range (pe_callB call_len_seq (by rfl) B.len PySem.boot_len (pa_cons (pe_ix ix_tup (pv 1) pe_int (fun _ _ => rfl)) pa_nil)))) pa_nil)))))
          (pss_cons (ps_if (pt_cmpR op_eq (pv 2) pe_int (nomark _)) (pss_cons (ps_set (i := 4) sc_law_question.nd rfl (Or.inl rfl) (C8.pe_c C_law_pick hr (by decide) (by rfl) (pa_cons (pv 0) (pa_cons (pe_lst (pa_cons pe_int (pa_cons pe_int (pa_cons pe_int pa_nil)))) pa_nil))))
          (pss_one (ps_ret (pe_tup (pa_cons pe_str (pa_cons (pe_callTy call_tuple_of (by rfl) B.tuple (by decide +kernel) (pa_cons (pe_callB (cr_sortedSet rfl) (by rfl) B.sorted (by decide +kernel) (pa_cons (pe_callTy (cr_setL rfl) (by rfl) B.set (by decide +kernel) (pa_cons (pe_slice sl_list (pv 3) (po_some (pv 4)) (po_some (pe_op op_add (pe_op op_add (pv 4) pe_int) (C8.pe_c C_law_draw hr (by decide) (by rfl) (pa_cons (pv 0) (pa_cons pe_int pa_nil)))))) pa_nil)) pa_nil)) pa_nil)) pa_nil)))))) pss_nil)
          (pss_cons (ps_set (i := 4) sc_law_question.nd rfl (Or.inl rfl) (C8.pe_c C_law_pick hr (by decide) (by rfl) (pa_cons (pv 0) (pa_cons (pe_lst (pa_cons pe_int (pa_cons pe_int (pa_cons pe_int pa_nil)))) pa_nil))))
          (pss_one (ps_ret (pe_tup (pa_cons pe_str (pa_cons (pe_ix ix_list (pv 3) (pv 4) (fun _ _ => rfl)) (pa_cons (pe_ix ix_list (pv 3) (pe_ifExp (pt_cmpR op_lt (pe_op op_add (pv 4) pe_int) (pe_callB call_len_seq (by rfl) B.len PySem.boot_len (pa_cons (pv 3) pa_nil)) (nomark _)) (pe_op op_add (pv 4) pe_int) pe_int) (fun _ _ => rfl)) pa_nil)))))))))), ?_⟩
    refine ⟨.int s, rfl, rfl, _, rfl, itB (fun hb => ?_) (fun _ => ?_)⟩
    · have : s = 0 := V.int.inj (of_decide_eq_true hb)
      omega
    refine ⟨.ref dk, rfl, .ref n, rfl, dk, g, n, m, R, rfl, hD, hN, hG, fun a1 ns1 H1 mo1 D1 na1 ha1 len1 b1' => ?_⟩
    have tk1 := hD.tk mo1
    have ap1 := hD.apart na1
    refine ⟨.ref dk, rfl, .ref n, rfl, n, _, 1, .ref r0, rfl, rfl, st_of (tk1 _ _ h1), rfl, r0, ps, rfl, .inr (st_of (tk1 _ _ h2)), _, rfl, RgOk.of_le (by omega) (by rw [h3.1]; omega) (by omega) (by omega), fun rg nrg => ?_⟩
    have x1 := Evl.Ex.new (o := .lst (rgV 0 ((ps.length : Nat) : Int))) nrg
    have erg : rgV 0 ((ps.length : Nat) : Int) = vn (List.range ps.length) := by
      unfold rgV vn
      rw [show (((ps.length : Nat) : Int) - 0).toNat = ps.length by omega]
      exact List.map_congr_left fun i _ => by simp
    have hrg := upd_same (H := H1) (a := rg) (o := .lst (rgV 0 ((ps.length : Nat) : Int)))
    have ha1' := x1 _ _ ha1
    have D1' := D1.ex x1
    have mo1' : Mo [dk, g] H (upd H1 rg (.lst (rgV 0 ((ps.length : Nat) : Int)))) := mo1.trans (mo_ex x1)
    generalize upd H1 rg (.lst (rgV 0 ((ps.length : Nat) : Int))) = H1' at hrg ha1' D1' mo1'
    rw [erg] at hrg
    refine ⟨dk, g, rg, _, rfl, D1', .inl hrg, by simp [vn]; rw [h3.1]; omega, gt_ints, fun a2 ys H2 mo2 D2 na2 ha2 perm => ?_⟩
    obtain ⟨ns2, pm, rfl⟩ := int_perm perm
    have ha12 := mo2 _ _ ap1 ha1'
    have len2 : ns2.length = R.length := by rw [pm.length_eq, List.length_range, h3.1]
    have b2 : ∀ r ∈ ns2, r < R.length := fun r hr => by
      have := List.mem_range.mp (pm.mem_iff.mp hr)
      rw [h3.1] at this; exact this
    refine ⟨a1, a2, _, _, rfl, rfl, ha12, ha2, sz_of (by simp [vn]; omega), fun rs nrs => ?_⟩
    have x3 := Evl.Ex.new (o := .lst (vn ns1 ++ vn ns2)) nrs
    have hrs := upd_same (H := H2) (a := rs) (o := .lst (vn ns1 ++ vn ns2))
    have D3 := D2.ex x3
    have mo3 : Mo [dk, g] H (upd H2 rs (.lst (vn ns1 ++ vn ns2))) := mo1'.trans (mo2.trans (mo_ex x3))
    have aprs := D2.apart nrs
    generalize upd H2 rs (.lst (vn ns1 ++ vn ns2)) = H3 at hrs D3 mo3
    have eN : vn ns1 ++ vn ns2 = vn (ns1 ++ ns2) := by simp [vn]
    rw [eN] at hrs
    generalize hNN : ns1 ++ ns2 = NN at hrs
    have bN : ∀ r ∈ NN, r < R.length := fun r hr => by
      rw [← hNN] at hr
      rcases List.mem_append.mp hr with hr | hr
      · exact b1' r hr
      · exact b2 r hr
    have lN : NN.length = R.length + 2 := by rw [← hNN, List.length_append, len1, len2]; omega
    refine ⟨.int s, rfl, rfl, _, rfl, itB (fun hb => ?_) (fun hb => ?_)⟩
    · refine ⟨.ref dk, rfl, by show 3 ≤ sizeLine; decide, fun z nz => ?_⟩
      have y1 := Evl.Ex.new (o := .lst [.int 0, .int 0, .int 2]) nz
      refine ⟨dk, g, z, _, rfl, D3.ex y1, D3.apart nz, .inl upd_same, by simp, by simp, fun bv H4 mo4 D4 hbv => ?_⟩
      obtain ⟨bg, rfl⟩ : ∃ bg : Int, bv = .int bg := by
        rcases List.mem_cons.mp hbv with rfl | h
        · exact ⟨_, rfl⟩
        · rcases List.mem_cons.mp h with rfl | h
          · exact ⟨_, rfl⟩
          · rw [List.mem_singleton.mp h]; exact ⟨_, rfl⟩
      have mo4' := mo3.trans ((mo_ex y1).trans mo4)
      have hrs4 := mo4 _ _ aprs (y1 _ _ hrs)
      refine ⟨.ref rs, rfl, .int bg, rfl, bg, rfl, .int bg, rfl, bg, 1, rfl, rfl, .ref dk, rfl, dk, g, 3, rfl, D4, by omega, fun r H5 mo5 D5 _ _ => ⟨_, _, rfl, rfl, _, rfl, rs, _, rfl, sq_of (mo5 _ _ aprs hrs4), fun sl nsl => ?_⟩⟩
      obtain ⟨cs, ec, lc, mc⟩ := cut_sub NN (some bg) (some (bg + 1 + r))
      rw [ec]
      have y2 := Evl.Ex.new (o := .lst (vn cs)) nsl
      refine ⟨sl, toI cs, rfl, sq_of (by rw [upd_same, vn_toI]), by rw [toI_len]; show _ < 4096; omega, fun p L np ndL memL => ?_⟩
      have y3 := Evl.Ex.new (o := SetO w p (fun j => decide (j ∈ toI cs)) L.length) np
      have Ll : L.length ≤ cs.length := by
        have := List.Nodup.length_le_of_subset ndL (fun k hk => (memL k).mp hk)
        rwa [toI_len] at this
      refine ⟨p, _, _, rfl, upd_same, by omega, fun ns' p2 _ mem2 len2' np2 => ?_⟩
      have y4 := Evl.Ex.new (o := .lst (vi ns')) np2
      refine ⟨p2, _, rfl, .inl ⟨sq_of upd_same, fun p3 np3 => ?_⟩⟩
      have y5 := Evl.Ex.new (o := .tup (vi ns')) np3
      refine ⟨by show 2 ≤ sizeLine; decide, fun u nu => ?_⟩
      have y6 := Evl.Ex.new (o := .tup [.str "touch", .ref p3]) nu
      obtain ⟨ms, em, lm⟩ := nat_of (ns := ns') fun z hz => by
        have := of_decide_eq_true ((mem2 z).mp hz)
        obtain ⟨a, _, rfl⟩ := List.mem_map.mp this
        omega
      have eY := y2.trans (y3.trans (y4.trans (y5.trans y6)))
      refine q u (.touch ms) _ (mo4'.trans (mo5.trans (mo_ex eY))) (D5.ex eY) ⟨p3, upd_same, ?_⟩ trivial ?_
      · rw [← em]; exact y6 _ _ upd_same
      · show ms.length ≤ 50
        omega
    · refine ⟨.ref dk, rfl, by show 3 ≤ sizeLine; decide, fun z nz => ?_⟩
      have y1 := Evl.Ex.new (o := .lst [.int 0, .int 0, .int 1]) nz
      refine ⟨dk, g, z, _, rfl, D3.ex y1, D3.apart nz, .inl upd_same, by simp, by simp, fun bv H4 mo4 D4 hbv => ?_⟩
      obtain ⟨bg, rfl, bg2⟩ : ∃ bg : Nat, bv = .int (bg : Int) ∧ bg ≤ 1 := by
        rcases List.mem_cons.mp hbv with rfl | h
        · exact ⟨0, rfl, by omega⟩
        · rcases List.mem_cons.mp h with rfl | h
          · exact ⟨0, rfl, by omega⟩
          · rw [List.mem_singleton.mp h]; exact ⟨1, rfl, by omega⟩
      have mo4' := mo3.trans ((mo_ex y1).trans mo4)
      have hrs4 := mo4 _ _ aprs (y1 _ _ hrs)
      have g1 : NN[bg]? = some NN[bg] := List.getElem?_eq_getElem (by omega)
      have g2 : NN[bg + 1]? = some NN[bg + 1] := List.getElem?_eq_getElem (by omega)
      have v1 : (vn NN)[bg]? = some (.int ((NN[bg] : Nat) : Int)) := by unfold vn; rw [List.getElem?_map, g1]; rfl
      have v2 : (vn NN)[bg + 1]? = some (.int ((NN[bg + 1] : Nat) : Int)) := by unfold vn; rw [List.getElem?_map, g2]; rfl
      refine ⟨.ref rs, rfl, .int bg, rfl, rs, _, bg, _, rfl, rfl, sq_of hrs4, atI_nat v1, .ref rs, rfl, .int bg, rfl, bg, 1, rfl, rfl, .ref rs, rfl, rs, _, rfl, .inl (sq_of hrs4), _, _, rfl, rfl, _, rfl, itB (fun _ => ?_) (fun hb => ?_)⟩
      · refine ⟨.int bg, rfl, bg, 1, rfl, rfl, rs, _, ((bg + 1 : Nat) : Int), _, rfl, rfl, sq_of hrs4, atI_nat v2, by show 3 ≤ sizeLine; decide, fun u nu => ?_⟩
        have y6 := Evl.Ex.new (o := .tup [.str "both", .int ((NN[bg] : Nat) : Int), .int ((NN[bg + 1] : Nat) : Int)]) nu
        exact q u (.both NN[bg] NN[bg + 1]) _ (mo4'.trans (mo_ex y6)) (D4.ex y6) upd_same ⟨bN _ (List.getElem_mem _), bN _ (List.getElem_mem _)⟩ trivial
      · have h9 := of_decide_eq_false hb
        exfalso
        apply h9
        show ((bg : Nat) : Int) + 1 < ((vn NN).length : Int)
        rw [show (vn NN).length = NN.length by simp [vn]]
        omega
end K56


namespace K56
open PySem PySem.Spec PyProof.Rows L2 K56R
open Evl (Ex ex_l ex_t sq_of st_of fresh_back sz_of sz_lt)
/-! ### explanations laid out -/
def xpd (M : List Pp) : List (List Nat) := M.flatMap fun e => List.replicate e.2.toNat e.1
theorem sm_xpd (f : List Nat → Int) : ∀ {M : List Pp}, (∀ e ∈ M, 0 ≤ e.2) → sm f (xpd M) = sm (fun e : Pp => e.2 * f e.1) M
  | [], _ => rfl
  | e :: M, h => by
    have ih := sm_xpd f (M := M) fun x hx => h x (List.mem_cons_of_mem _ hx)
    have e0 := h e List.mem_cons_self
    unfold xpd at ih ⊢
    rw [List.flatMap_cons, sm_app, sm_repl, ih]
    show ((e.2.toNat : Nat) : Int) * f e.1 + _ = e.2 * f e.1 + _
    rw [show ((e.2.toNat : Nat) : Int) = e.2 by omega]
theorem cnt_xpd (r : Nat) {M : List Pp} (h : ∀ e ∈ M, 0 ≤ e.2) : cnt r (xpd M) = used M r := sm_xpd _ h
theorem mem_xpd {M : List Pp} {t : List Nat} (h : t ∈ xpd M) : ∃ e ∈ M, e.1 = t := by
  obtain ⟨e, he, ht⟩ := List.mem_flatMap.mp h
  exact ⟨e, he, (List.eq_of_mem_replicate ht).symm⟩
theorem len_xpd : ∀ {M : List Pp}, (∀ e ∈ M, 1 ≤ e.2) → M.length ≤ (xpd M).length
  | [], _ => Nat.zero_le _
  | e :: M, h => by
    have ih := len_xpd (M := M) fun x hx => h x (List.mem_cons_of_mem _ hx)
    have e0 := h e List.mem_cons_self
    unfold xpd at ih ⊢
    rw [List.flatMap_cons, List.length_append, List.length_replicate, List.length_cons]
    omega
theorem xpd_le : ∀ {M : List Pp}, (∀ p ∈ M, p.2 ≤ 2) → (xpd M).length ≤ 2 * M.length
  | [], _ => by simp [xpd]
  | e :: M, h => by
    have a := h e List.mem_cons_self
    have b := xpd_le fun p hp => h p (List.mem_cons_of_mem _ hp)
    unfold xpd at b ⊢
    rw [List.flatMap_cons, List.length_append, List.length_replicate, List.length_cons]
    omega
theorem tally_expl {m : Int} {R : Arcs} {M : List Pp} {c : List Int} (N : NetOk m R) (h : ∀ p ∈ M, IsPath R 0 p.1 (m - 1) ∧ 1 ≤ p.2 ∧ p.2 ≤ 2) (hl : M.length ≤ 6) (hc : ∀ r, r < R.length → cf c r = used M r) :
    (∃ X, Expl m R (cf c) X) ∧ tot R (cf c) ≤ 12 ∧ ∀ r, r < R.length → cf c r ≤ 12 := by
  have nn : ∀ e ∈ M, 0 ≤ e.2 := fun e he => by have := (h e he).2.1; omega
  have hX : Expl m R (cf c) (xpd M) := ⟨fun t ht => by
    obtain ⟨e, he, rfl⟩ := mem_xpd ht
    exact (h e he).1, fun r hr => by rw [cnt_xpd r nn, hc r hr]⟩
  have l1 := xpd_le fun p hp => (h p hp).2.2
  have l2 := hX.len N
  refine ⟨⟨_, hX⟩, by omega, fun r hr => ?_⟩
  rw [← hX.2 r hr]
  have : cnt r (xpd M) ≤ ((xpd M).length : Int) := by
    rw [← sm_one]
    refine sm_le fun t ht => ?_
    have := path_count N.up r (hX.1 t ht)
    omega
  omega
/-! ### what is drawn -/
def sp_law_drawn (_ : PySem.W.Frag) : Sp := fun vs H Q _ => ∃ dk g s, vs = [.ref dk, .int s] ∧ Deck H dk g ∧
  ∀ p n t m R c H', Mo [dk, g] H H' → Deck H' dk g → H' p = some (.tup [.ref n, .ref t]) → NT H' n t m R c → GoodNet m R → tot R (cf c) ≤ 12 → (∀ r, r < R.length → cf c r ≤ 12) → Q (.ref p) H'
theorem ok_law_drawn {P : Program} {w : World} {K : PySem.W.Frag} {mg : Str → Option Value} {base : Heap} {f : Addr} {fd : FuncData} (F : L2.Fun K "_law_drawn" "_law_drawn" s_law_drawn f fd) (B : Bn mg)
    (C_law_people : C8.Cal P w K mg base 4 "_law_people" (sp_law_people K) [])
    (C_law_meeting : C8.Cal P w K mg base 3 "_law_meeting" (sp_law_meeting K) [])
    (C_law_net : C8.Cal P w K mg base 3 "_law_net" (sp_law_net K) [])
    (C_law_pick : C8.Cal P w K mg base 2 "_law_pick" (sp_law_pick K) [])
    (C_law_tally : C8.Cal P w K mg base 1 "_law_tally" (sp_law_tally K) [])
    (C_law_draw : C8.Cal P w K mg base 1 "_law_draw" (sp_law_draw K) []) :
    FnOk P w K mg base CX0 5 f fd ["_law_deck_here", "_law_turn"] (sp_law_drawn K) := by
  refine F.ok (k := 4) sc_law_drawn (fun vs H Q E h => ?_) (fun cdv A outer s H vs Q E hr h => ?_)
  · obtain ⟨_, _, _, rfl, _⟩ := h
    rfl
  · obtain ⟨dk, g, s0, rfl, hD, q⟩ := h
    have hu := hu_of hr
    refine ⟨_, (pss_cons (ps_if (pt_cmpR op_lt (pv 1) pe_int (nomark _)) (pss_one (ps_set (i := 2) sc_law_drawn.nd rfl (Or.inl rfl) (C8.pe_c C_law_meeting hr (by decide) (by rfl) (pa_cons (pv 0) pa_nil)))) (pss_one (ps_set (i := 2) sc_law_drawn.nd rfl (Or.inl rfl) (C8.pe_c C_law_net hr (by decide) (by rfl) (pa_cons (pv 0) (pa_cons (C8.pe_c C_law_pick hr (by decide) (by rfl) (pa_cons (pv 0) (pa_cons (pe_lst (pa_cons pe_int (pa_cons pe_int (pa_cons pe_int (pa_cons pe_int pa_nil))))) pa_nil))) (pa_cons (pe_op op_add pe_int (C8.pe_c C_law_draw hr (by decide) (by rfl) (pa_cons (pv 0) (pa_cons pe_int pa_nil)))) pa_nil)))))))
          (pss_cons (ps_set (i := 3) sc_law_drawn.nd rfl (Or.inl rfl) (C8.pe_c C_law_people hr (by decide) (by rfl) (pa_cons (pv 0) (pa_cons (pv 2) (pa_cons (C8.pe_c C_law_pick hr (by decide) (by rfl) (pa_cons (pv 0) (pa_cons (pe_lst (pa_cons pe_int (pa_cons pe_int (pa_cons pe_int (pa_cons pe_int (pa_cons pe_int pa_nil)))))) pa_nil))) (pa_cons (C8.pe_c C_law_pick hr (by decide) (by rfl) (pa_cons (pv 0) (pa_cons (pe_lst (pa_cons pe_int (pa_cons pe_int (pa_cons pe_int pa_nil)))) pa_nil))) pa_nil))))))
          (pss_one (ps_ret (pe_tup (pa_cons (pv 2) (pa_cons (C8.pe_c C_law_tally hr (by decide) (by rfl) (pa_cons (pv 2) (pa_cons (pe_ifExp (PW.pt (pw_or (pt_cmpR op_ne (pv 1) pe_int (nomark _)) (pw_or1 (pt_cmpR op_gt (C8.pe_c C_law_draw hr (by decide) (by rfl) (pa_cons (pv 0) (pa_cons pe_int pa_nil))) pe_int (nomark _))))) (pv 3) (pe_lst pa_nil)) pa_nil))) pa_nil))))))), ?_⟩
    refine ⟨.int s0, rfl, _, _, rfl, rfl, _, rfl, itB (fun hb => ?gA) (fun hb => ?gB)⟩
    case' gA => refine ⟨.ref dk, rfl, dk, g, rfl, hD, fun n m R H1 mo1 D1 hN hG => ?_⟩
    case' gB =>
      refine ⟨.ref dk, rfl, .ref dk, rfl, by show 4 ≤ sizeLine; decide, fun z1 nz1 => ?_⟩
      have x1 := Evl.Ex.new (o := .lst [.int 3, .int 4, .int 4, .int 5]) nz1
      refine ⟨dk, g, z1, _, rfl, hD.ex x1, hD.apart nz1, .inl upd_same, by simp, by simp, fun mv H1 mo1 D1 hmv => ?_⟩
      obtain ⟨mm, rfl, m3, m5⟩ : ∃ m : Int, mv = .int m ∧ 3 ≤ m ∧ m ≤ 5 := by
        rcases List.mem_cons.mp hmv with rfl | h
        · exact ⟨3, rfl, by omega, by omega⟩
        · rcases List.mem_cons.mp h with rfl | h
          · exact ⟨4, rfl, by omega, by omega⟩
          · rcases List.mem_cons.mp h with rfl | h
            · exact ⟨4, rfl, by omega, by omega⟩
            · rw [List.mem_singleton.mp h]; exact ⟨5, rfl, by omega, by omega⟩
      refine ⟨.ref dk, rfl, dk, g, 4, rfl, D1, by omega, fun r H2 mo2 D2 r0 r1 => ⟨_, _, rfl, rfl, dk, g, mm, 2 + r, rfl, D2, m3, m5, by omega, by omega, fun n m R H3 mo3 D3 hN hG => ?_⟩⟩
      have mo1 := (mo_ex (ds := [dk, g]) x1).trans (mo1.trans (mo2.trans mo3))
      have D1 := D3
    all_goals
      refine ⟨.ref dk, rfl, .ref n, rfl, .ref dk, rfl, by show 5 ≤ sizeLine; decide, fun z2 nz2 => ?_⟩
      have y2 := Evl.Ex.new (o := .lst [.int 3, .int 4, .int 4, .int 5, .int 6]) nz2
      refine ⟨dk, g, z2, _, rfl, D1.ex y2, D1.apart nz2, .inl upd_same, by simp, by simp, fun kv H4 mo4 D4 hkv => ?_⟩
      obtain ⟨k, rfl, k0, k6⟩ : ∃ k : Int, kv = .int k ∧ 0 ≤ k ∧ k ≤ 6 := by
        rcases List.mem_cons.mp hkv with rfl | h
        · exact ⟨3, rfl, by omega, by omega⟩
        · rcases List.mem_cons.mp h with rfl | h
          · exact ⟨4, rfl, by omega, by omega⟩
          · rcases List.mem_cons.mp h with rfl | h
            · exact ⟨4, rfl, by omega, by omega⟩
            · rcases List.mem_cons.mp h with rfl | h
              · exact ⟨5, rfl, by omega, by omega⟩
              · rw [List.mem_singleton.mp h]; exact ⟨6, rfl, by omega, by omega⟩
      refine ⟨.ref dk, rfl, by show 3 ≤ sizeLine; decide, fun z3 nz3 => ?_⟩
      have y3 := Evl.Ex.new (o := .lst [.int 1, .int 1, .int 2]) nz3
      refine ⟨dk, g, z3, _, rfl, D4.ex y3, D4.apart nz3, .inl upd_same, by simp, by simp, fun gv H5 mo5 D5 hgv => ?_⟩
      obtain ⟨gr, rfl, g1, g2⟩ : ∃ gr : Int, gv = .int gr ∧ 1 ≤ gr ∧ gr ≤ 2 := by
        rcases List.mem_cons.mp hgv with rfl | h
        · exact ⟨1, rfl, by omega, by omega⟩
        · rcases List.mem_cons.mp h with rfl | h
          · exact ⟨1, rfl, by omega, by omega⟩
          · rw [List.mem_singleton.mp h]; exact ⟨2, rfl, by omega, by omega⟩
      have mo15 := (mo_ex (ds := [dk, g]) y2).trans (mo4.trans ((mo_ex y3).trans mo5))
      have hN5 := hN.tk (D1.tk mo15)
      refine ⟨dk, g, n, _, R, k, gr, rfl, D5, hN5, hG, k0, k6, g1, by omega, fun pa es pp H6 mo6 D6 npa hpa hpp hpl hpf => ?_⟩
      have mo16 := mo15.trans mo6
      have appa := D5.apart npa
      have mH6 := mo1.trans mo16
      have tk16 := D1.tk mo16
      have hN6 := hN.tk tk16
      have hpl6 : pp.length ≤ 6 := by omega
      have hpf2 : ∀ p ∈ pp, IsPath R 0 p.1 (m - 1) ∧ 1 ≤ p.2 ∧ p.2 ≤ 2 := fun p hp => by
        obtain ⟨a, b, c⟩ := hpf p hp
        exact ⟨a, b, by omega⟩
      refine ⟨.ref n, rfl, .ref n, rfl, .int s0, rfl, rfl, _, rfl, itB (fun _ => itT ?_) (fun _ => ?_)⟩
      case' refine_1 =>
        refine ⟨_, rfl, ?_⟩
        have mo7 := Mo.refl [dk, g] H6
        have D7 := D6
        have hpa7 := hpa
        have hpp7 := hpp
        have hpf7 := hpf2
        have hl7 := hpl6
      case' refine_2 => refine ⟨.ref dk, rfl, dk, g, 4, rfl, D6, by omega, fun r7 H7 mo7 D7 _ _ => ⟨_, _, rfl, rfl, _, rfl, itB (fun _ => ?_) (fun _ => ?_)⟩⟩
      case' refine_2.refine_1 =>
        refine ⟨_, rfl, ?_⟩
        have hpa7 := mo7 _ _ appa hpa
        have hpp7 := all2_tk st_Ppl (D6.tk mo7) hpp
        have hpf7 := hpf2
        have hl7 := hpl6
      case' refine_2.refine_2 =>
        refine ⟨Nat.zero_le _, fun z8 nz8 => ?_⟩
        have y8 := Evl.Ex.new (o := .lst []) nz8
        have mo7 := mo7.trans (mo_ex y8)
        have D7 := D7.ex y8
        have hpa7 := upd_same (H := H7) (a := z8) (o := .lst [])
        have hpp7 : All2 (PplR (upd H7 z8 (.lst []))) [] [] := .nil
        have hpf7 : ∀ p ∈ ([] : List Pp), IsPath R 0 p.1 (m - 1) ∧ 1 ≤ p.2 ∧ p.2 ≤ 2 := fun p hp => by cases hp
        have hl7 : ([] : List Pp).length ≤ 6 := by simp
      all_goals
        have tk7 := D6.tk mo7
        have hN7 := hN6.tk tk7
        have up := hG.ok.up
        refine ⟨n, _, R, _, _, _, rfl, hN7, by have := hG.len; omega, hpa7, hpp7, fun p hp r hr => (path_mem up (hpf7 p hp).1 hr).1, fun t c H9 e9 ht hc hcf => ?_⟩
        refine ⟨by show 2 ≤ sizeLine; decide, fun pr npr => ?_⟩
        have y9 := Evl.Ex.new (o := .tup [.ref n, .ref t]) npr
        have e79 := e9.trans y9
        obtain ⟨hX, ht12, hc12⟩ := tally_expl hG.ok hpf7 hl7 hcf
        exact q pr n t _ R c _ (mH6.trans (mo7.trans (mo_ex e79))) (D7.ex e79) upd_same ⟨hN7.tk (tk_ex e79), hG.ok, by have := hG.len; omega, y9 _ _ ht, hc, hX⟩ hG ht12 hc12
end K56


namespace K56
open PySem PySem.Spec PyProof.Rows L2 K56R
open Evl (Ex ex_l ex_t sq_of st_of fresh_back sz_of sz_lt)
/-! ### what is asked -/
def sp_law_asked (_ : PySem.W.Frag) : Sp := fun vs H Q _ => ∃ dk g n ta ys T m R, vs = [.ref dk, .ref n, .ref ta] ∧ Deck H dk g ∧ Net H n m R ∧ GoodNet m R ∧ H ta = some (.lst ys) ∧ ta ∉ [dk, g] ∧ All2 (TrR H) ys T ∧ T ≠ [] ∧ T.length ≤ 1048576 ∧ (∀ l ∈ T, IsPath R 0 l (m - 1)) ∧
  ∀ a es qs H', Mo [dk, g] H H' → Deck H' dk g → H a = none → H' a = some (.lst es) → All2 (QR2 H') es qs → (∀ q ∈ qs, QOk R q ∧ QT R q) → Q (.ref a) H'
theorem ok_law_asked {P : Program} {w : World} {K : PySem.W.Frag} {mg : Str → Option Value} {base : Heap} {f : Addr} {fd : FuncData} (F : L2.Fun K "_law_asked" "_law_asked" s_law_asked f fd) (B : Bn mg)
    (C_law_pick : C8.Cal P w K mg base 2 "_law_pick" (sp_law_pick K) [])
    (C_law_draw : C8.Cal P w K mg base 1 "_law_draw" (sp_law_draw K) [])
    (C_law_question : C8.Cal P w K mg base 4 "_law_question" (sp_law_question K) []) :
    FnOk P w K mg base CX0 5 f fd ["_law_deck_here", "_law_net_here", "_law_trips_here"] (sp_law_asked K) := by
  refine F.ok (k := 4) sc_law_asked (fun vs H Q E h => ?_) (fun cdv A outer s H vs Q E hr h => ?_)
  · obtain ⟨_, _, _, _, _, _, _, _, rfl, _⟩ := h
    rfl
  · obtain ⟨dk, g, n, ta, ys, T, m, R, rfl, hD, hN, hG, hta, nta, hT, hTne, hTl, hTp, q⟩ := h
    have m3 := hG.m3
    have m5 := hG.m5
    have hpR := hG.pos
    have hlR := hG.len
    have hu := hu_of hr
    refine ⟨_, (pss_cons (ps_setLc (i := 3) (own := [("_law_sort", 8)]) rfl sc_law_asked.nd rfl rfl (sw_true rfl rfl rfl (by decide +kernel)) (pi_tup (pe_tup (pa_cons pe_int (pa_cons pe_int (pa_cons pe_int pa_nil))))) (blkOk_by (own := [("_law_sort", 8)]) (N := N_law_asked) (sc := defScope s_law_asked) (by decide +kernel)) (fun _ _ _ _ _ => (pg_name (i := 8) sc_law_asked.nd rfl (Or.inl rfl))) (fun _ _ _ _ _ => pts_nil) (fun _ _ _ _ _ => (C8.pe_c C_law_question hr (by decide) (by rfl) (pa_cons (pv 0) (pa_cons (pv 1) (pa_cons (pv 8) pa_nil))))))
          (pss_cons (ps_set (i := 4) sc_law_asked.nd rfl (Or.inl rfl) (C8.pe_c C_law_pick hr (by decide) (by rfl) (pa_cons (pv 0) (pa_cons (pv 2) pa_nil))))
          (pss_cons (ps_set (i := 5) sc_law_asked.nd rfl (Or.inl rfl) (C8.pe_c C_law_draw hr (by decide) (by rfl) (pa_cons (pv 0) (pa_cons (pe_callB call_len_seq (by rfl) B.len PySem.boot_len (pa_cons (pv 4) pa_nil)) pa_nil))))
          (pss_cons (ps_expr (pe_bm PySem.F.plainAttrs_list PySem.F.slot_list_append PySem.F.type_list_append mt_append (pv 3) (pa_cons (pe_tup (pa_cons pe_str (pa_cons (pe_slice sl_tupA (pv 4) (po_some (pv 5)) (po_some (pe_op op_add (pe_op op_add (pv 5) pe_int) (C8.pe_c C_law_draw hr (by decide) (by rfl) (pa_cons (pv 0) (pa_cons (pe_op op_sub (pe_callB call_len_seq (by rfl) B.len PySem.boot_len (pa_cons (pv 4) pa_nil)) (pv 5)) pa_nil)))))) pa_nil))) pa_nil)))
          (pss_cons (ps_par (i := 6) (j := 7) (by rfl) sc_law_asked.nd rfl rfl (by decide) rfl rfl (pa_cons (C8.pe_c C_law_pick hr (by decide) (by rfl) (pa_cons (pv 0) (pa_cons (pv 4) pa_nil))) (pa_cons (C8.pe_c C_law_pick hr (by decide) (by rfl) (pa_cons (pv 0) (pa_cons (pv 4) pa_nil))) pa_nil)) (by rfl))
          (pss_one (ps_ret (pe_op op_cat (pv 3) (pe_lst (pa_cons (pe_tup (pa_cons pe_str (pa_cons (pv 6) (pa_cons (pv 7) pa_nil)))) (pa_cons (pe_tup (pa_cons pe_str (pa_cons (pe_callTy call_tuple_of (by rfl) B.tuple (by decide +kernel) (pa_cons (pe_callB (cr_sortedSet rfl) (by rfl) B.sorted (by decide +kernel) (pa_cons (pe_callTy (cr_setL rfl) (by rfl) B.set (by decide +kernel) (pa_cons (pe_lst (pa_cons (pv 6) (pa_cons (C8.pe_c C_law_draw hr (by decide) (by rfl) (pa_cons (pv 0) (pa_cons (pe_callB call_len_seq (by rfl) B.len PySem.boot_len (pa_cons (pe_ix ix_tup (pv 1) pe_int (fun _ _ => rfl)) pa_nil)) pa_nil))) pa_nil))) pa_nil)) pa_nil)) pa_nil)) pa_nil))) pa_nil))))))))))), ?_⟩
    refine ⟨by show 3 ≤ sizeLine; decide, fun z nz => ⟨z, rfl, ⟨_, st_of upd_same⟩, fun D nD => ?_⟩⟩
    have x1 := Evl.Ex.new (o := .tup [.int 1, .int 2, .int 2]) nz
    have D1 := hD.ex x1
    have hz := upd_same (H := H) (a := z) (o := .tup [.int 1, .int 2, .int 2])
    generalize upd H z (.tup [.int 1, .int 2, .int 2]) = H1 at x1 D1 hz nD
    have apD := D1.apart nD
    have nD0 : H D = none := fresh_back x1 nD
    refine lc_it (walk_tup (xs := [.int 1, .int 2, .int 2])) (fun i H' => Mo [dk, g] H1 H' ∧ Deck H' dk g ∧ ∃ es qs, H' D = some (.lst es) ∧ All2 (QR2 H') es qs ∧ qs.length ≤ i ∧ ∀ q ∈ qs, QOk R q ∧ QT R q) ⟨mo_new nD, D1.ex (Evl.Ex.new nD), [], [], upd_same, .nil, by simp, by simp⟩ (fun i H' _ pv => st_of (D1.tk pv.1 _ _ hz)) (fun i x H' H2 hi pv y => ?_) fun H2 pv => ?_
    · obtain ⟨mo, D2, es, qs, hD2, hA, hl, hp⟩ := pv
      obtain ⟨rfl, ey⟩ := y
      obtain ⟨s, rfl, hs⟩ : ∃ s : Int, x = .int s ∧ (s = 1 ∨ s = 2) := by
        rcases List.mem_cons.mp (List.mem_of_getElem? ey) with rfl | h
        · exact ⟨1, rfl, .inl rfl⟩
        · rcases List.mem_cons.mp h with rfl | h
          · exact ⟨2, rfl, .inr rfl⟩
          · rw [List.mem_singleton.mp h]; exact ⟨2, rfl, .inr rfl⟩
      refine ⟨rfl, tYes_of ?_⟩
      refine ⟨_, rfl, _, rfl, _, rfl, dk, g, n, m, R, s, rfl, hs, D2, (hN.tk (tk_ex x1)).tk (D1.tk mo), hG, fun u qq H3 mo3 D3 hq hok hqt => ?_⟩
      have h3 := mo3 _ _ apD hD2
      have t6 : Tk H3 (upd H3 D (.lst (es ++ [.ref u]))) := tk_upd h3 fun xs z => by cases z
      have hi3 : i < 3 := hi
      refine ⟨es, h3, sz_lt (by rw [hA.1]; omega), upd_mo (mo.trans mo3) nD, D3.beside apD, _, qs ++ [qq], upd_same, ?_, by simp; omega, fun p hpm => ?_⟩
      · exact (all2_tk st_Q2 ((D2.tk mo3).trans t6) hA).snoc ⟨u, rfl, hq.tk t6⟩
      · rcases List.mem_append.mp hpm with h | h
        · exact hp p h
        · rw [List.mem_singleton.mp h]; exact ⟨hok, hqt⟩
    · obtain ⟨mo, D2, es, qs, hD2, hA, hl, hp⟩ := pv
      have mo2 : Mo [dk, g] H H2 := (mo_ex x1).trans mo
      have hta2 := mo2 _ _ nta hta
      have hT2 := all2_tk st_Tr (hD.tk mo2) hT
      refine ⟨.ref dk, rfl, .ref ta, rfl, dk, g, ta, ys, rfl, D2, nta, .inl hta2, fun e => hTne (by rw [e] at hT; exact List.length_eq_zero_iff.mp hT.1.symm), by rw [hT.1]; omega, fun x H3 mo3 D3 hx => ?_⟩
      obtain ⟨l, hl2, tt, rfl, htt⟩ := hT2.mem hx
      have htt3 := D2.tk mo3 _ _ htt
      have hlp := hTp l hl2
      have llen : (l.length : Int) ≤ m - 1 := by have := path_len hG.ok hlp; omega
      have lne : l ≠ [] := fun e => by rw [e] at hlp; have : (0 : Int) = m - 1 := hlp; omega
      have lpos := List.length_pos_iff.mpr lne
      have lv : (vn l).length = l.length := by simp [vn]
      have lrd : ∀ r ∈ l, r < R.length := fun r hr => (path_mem hG.ok.up hlp hr).1
      have hD3 := mo3 _ _ apD hD2
      have hA3 := all2_tk st_Q2 (D2.tk mo3) hA
      refine ⟨.ref dk, rfl, .ref tt, rfl, tt, _, rfl, .inr (st_of htt3), dk, g, _, rfl, D3, by omega, fun b H4 mo4 D4 b0 b1' => ?_⟩
      rw [lv] at b1'
      have hD4 := mo4 _ _ apD hD3
      have htt4 := D3.tk mo4 _ _ htt3
      have hA4 := all2_tk st_Q2 (D3.tk mo4) hA3
      refine ⟨.ref D, rfl, .inl ⟨rfl, _, sq_of hD4⟩, .ref tt, rfl, _, rfl, b, rfl, _, rfl, b, 1, rfl, rfl, .ref dk, rfl, .ref tt, rfl, tt, _, rfl, .inr (st_of htt4), _, rfl, _, b, rfl, rfl, dk, g, _, rfl, D4, by rw [lv]; omega, fun r H5 mo5 D5 r0 r1 => ⟨_, _, rfl, rfl, _, rfl, ?_⟩⟩
      rw [lv] at r1
      obtain ⟨kb, rfl⟩ : ∃ kb : Nat, b = kb := ⟨b.toNat, by omega⟩
      obtain ⟨kn, ekn⟩ : ∃ kn : Nat, 1 + r = kn := ⟨(1 + r).toNat, by omega⟩
      have ebr : (kb : Int) + 1 + r = (kb : Int) + (kn : Int) := by omega
      rw [ebr]
      have hkl : kb + kn ≤ l.length := by omega
      obtain ⟨cm1, cm2⟩ := cut_mid l hkl
      generalize hS : (l.drop kb).take kn = S at cm1 cm2
      have Slen : S.length = kn := by rw [← hS, List.length_take, List.length_drop]; omega
      have Sok : QOk R (.along S) ∧ QT R (.along S) := by
        have e : l = l.take kb ++ (S ++ (l.drop kb).drop kn) := by rw [← hS, List.take_append_drop, List.take_append_drop]
        rw [e] at hlp
        obtain ⟨w1, _, p2⟩ := path_app.mp hlp
        obtain ⟨w2, p3, _⟩ := path_app.mp p2
        refine ⟨?_, by omega, w1, w2, p3⟩
        cases hSS : S with
        | nil => rw [hSS] at Slen; simp at Slen; omega
        | cons x l' => exact ⟨x, l', rfl, by rw [hSS] at Slen; simp at Slen; omega, w1, w2, by rw [← hSS]; exact p3⟩
      have hD5 := mo5 _ _ apD hD4
      have htt5 := D4.tk mo5 _ _ htt4
      have hA5 := all2_tk st_Q2 (D4.tk mo5) hA4
      have mo15 : Mo [dk, g] H H5 := mo2.trans (mo3.trans (mo4.trans mo5))
      refine ⟨tt, vn l, rfl, st_of htt5, fun wh => ?_, fun _ p np => ?_⟩
      · have eS : H5 tt = some (.tup (vn S)) := by rw [← cm2 wh]; exact htt5
        have e6 := Evl.Ex.refl H5
        refine ⟨by show 2 ≤ sizeLine; decide, fun u nu => ?_⟩
        have y1 := Evl.Ex.new (o := .tup [.str "along", .ref tt]) nu
        have e7 := e6.trans y1
        have hD7 := e7 _ _ hD5
        have esl := hA5.1
        refine ⟨D, es, _, rfl, rfl, hD7, sz_lt (by have : qs.length ≤ 3 := hl; omega), ?_⟩
        have t8 : Tk (upd H5 u (.tup [.str "along", .ref tt])) (upd (upd H5 u (.tup [.str "along", .ref tt])) D (.lst (es ++ [.ref u]))) := tk_upd hD7 fun xs z => by cases z
        have hQ8 : QR (upd (upd H5 u (.tup [.str "along", .ref tt])) D (.lst (es ++ [.ref u]))) u (.along S) := ⟨_, t8 _ _ upd_same, t8 _ _ (y1 _ _ eS)⟩
        have hA8 : All2 (QR2 (upd (upd H5 u (.tup [.str "along", .ref tt])) D (.lst (es ++ [.ref u])))) (es ++ [.ref u]) (qs ++ [.along S]) := (all2_tk st_Q2 ((tk_ex e7).trans t8) hA5).snoc ⟨u, rfl, hQ8⟩
        have D8 := (D5.ex e7).beside (o := .lst (es ++ [.ref u])) apD
        have mo8 := upd_mo (o := .lst (es ++ [.ref u])) (mo15.trans (mo_ex e7)) nD0
        have htt8 := t8 _ _ (e7 _ _ htt5)
        have hD8 := upd_same (H := upd H5 u (.tup [.str "along", .ref tt])) (a := D) (o := .lst (es ++ [.ref u]))
        generalize upd (upd H5 u (.tup [.str "along", .ref tt])) D (.lst (es ++ [.ref u])) = H8 at hA8 D8 mo8 htt8 hD8
        refine ⟨.ref dk, rfl, .ref tt, rfl, dk, g, tt, _, rfl, D8, D8.ntup htt8, .inr htt8, by simpa [vn] using lne, by rw [lv]; omega, fun v1 H9 mo9 D9 hv1 => ?_⟩
        obtain ⟨p1, hp1, rfl⟩ := List.mem_map.mp hv1
        have htt9 := D8.tk mo9 _ _ htt8
        refine ⟨.ref dk, rfl, .ref tt, rfl, dk, g, tt, _, rfl, D9, D9.ntup htt9, .inr htt9, by simpa [vn] using lne, by rw [lv]; omega, fun v2 H10 mo10 D10 hv2 => ⟨_, _, rfl, ?_⟩⟩
        obtain ⟨p2, hp2, rfl⟩ := List.mem_map.mp hv2
        have mo810 := mo9.trans mo10
        have hD10 := mo810 _ _ apD hD8
        have hA10 := all2_tk st_Q2 (D8.tk mo810) hA8
        have mo11 := mo8.trans mo810
        obtain ⟨r0', ps, g1, g2, g3⟩ := hN.tk (hD.tk mo11)
        refine ⟨.ref D, rfl, _, rfl, _, rfl, by show 3 ≤ sizeLine; decide, fun u2 nu2 => ?_⟩
        have w1 := Evl.Ex.new (o := .tup [.str "both", .int (p1 : Nat), .int (p2 : Nat)]) nu2
        refine ⟨.int p1, rfl, .ref dk, rfl, .ref n, rfl, n, _, 1, .ref r0', rfl, rfl, st_of (w1 _ _ g1), rfl, r0', ps, rfl, .inr (st_of (w1 _ _ g2)), dk, g, _, rfl, D10.ex w1, by rw [g3.1]; omega, fun s H11 mo11' D11 s0 s1 => ?_⟩
        rw [g3.1] at s1
        obtain ⟨ks, rfl⟩ : ∃ ks : Nat, s = ks := ⟨s.toNat, by omega⟩
        refine ⟨by show 2 ≤ sizeLine; decide, fun sl nsl => ?_⟩
        have w2 := Evl.Ex.new (o := .lst [.int (p1 : Nat), .int (ks : Nat)]) nsl
        refine ⟨sl, [(p1 : Int), (ks : Int)], rfl, sq_of upd_same, by show 2 + 1 < 4096; decide, fun p L np ndL memL => ?_⟩
        have w3 := Evl.Ex.new (o := SetO w p (fun j => decide (j ∈ [(p1 : Int), (ks : Int)])) L.length) np
        have Ll : L.length ≤ 2 := List.Nodup.length_le_of_subset (l₂ := [(p1 : Int), (ks : Int)]) ndL (fun k hk => (memL k).mp hk)
        refine ⟨p, _, _, rfl, upd_same, by omega, fun ns' p2' _ mem2 len2' np2 => ?_⟩
        have w4 := Evl.Ex.new (o := .lst (vi ns')) np2
        refine ⟨p2', _, rfl, .inl ⟨sq_of upd_same, fun p3 np3 => ?_⟩⟩
        have w5 := Evl.Ex.new (o := .tup (vi ns')) np3
        refine ⟨by show 2 ≤ sizeLine; decide, fun u3 nu3 => ?_⟩
        have w6 := Evl.Ex.new (o := .tup [.str "touch", .ref p3]) nu3
        refine ⟨by show 2 ≤ sizeLine; decide, fun fl nfl => ?_⟩
        have w7 := Evl.Ex.new (o := .lst [.ref u2, .ref u3]) nfl
        have eW := w2.trans (w3.trans (w4.trans (w5.trans (w6.trans w7))))
        have moW : Mo [dk, g] H10 _ := (mo_ex w1).trans (mo11'.trans (mo_ex eW))
        refine ⟨D, fl, _, _, rfl, rfl, moW _ _ apD hD10, upd_same, sz_of (by simp; have : qs.length ≤ 3 := hl; omega), fun fin nfin => ?_⟩
        have w8 := Evl.Ex.new (o := .lst ((es ++ [.ref u]) ++ [.ref u2, .ref u3])) nfin
        obtain ⟨ms, em, lm⟩ := nat_of (ns := ns') fun z hz => by
          have := of_decide_eq_true ((mem2 z).mp hz)
          have : z = p1 ∨ z = ks := by simpa using this
          omega
        have DW : Deck _ dk g := D11.ex eW
        refine q fin _ ((qs ++ [.along S]) ++ [.both p1 p2, .touch ms]) _ (mo11.trans (moW.trans (mo_ex w8))) (DW.ex w8) (fresh_mo (mo11.trans moW) (DW.apart nfin) nfin) upd_same ?_ fun qq hqq => ?_
        · refine (all2_tk st_Q2 ((D10.tk moW).trans (tk_ex w8)) hA10).app (.cons ⟨u2, rfl, ?_⟩ (.cons ⟨u3, rfl, p3, ?_, ?_⟩ .nil))
          · exact w8 _ _ (eW _ _ ((D10.ex w1).tk mo11' _ _ upd_same))
          · exact w8 _ _ (w7 _ _ upd_same)
          · rw [← em]; exact w8 _ _ (w7 _ _ (w6 _ _ upd_same))
        · rcases List.mem_append.mp hqq with h | h
          · rcases List.mem_append.mp h with h | h
            · exact hp qq h
            · rw [List.mem_singleton.mp h]; exact Sok
          · rcases List.mem_cons.mp h with rfl | h
            · exact ⟨⟨lrd _ hp1, lrd _ hp2⟩, trivial⟩
            · rw [List.mem_singleton.mp h]
              exact ⟨trivial, by show ms.length ≤ 50; omega⟩
      · have e6 := Evl.Ex.new (o := .tup (cutV (vn l) (some (kb : Int)) (some ((kb : Int) + (kn : Int))))) np
        have eS := upd_same (H := H5) (a := p) (o := .tup (cutV (vn l) (some (kb : Int)) (some ((kb : Int) + (kn : Int)))))
        rw [cm1] at eS e6 ⊢
        generalize upd H5 p (.tup (vn S)) = H6 at eS e6
        refine ⟨by show 2 ≤ sizeLine; decide, fun u nu => ?_⟩
        have y1 := Evl.Ex.new (o := .tup [.str "along", .ref p]) nu
        have e7 := e6.trans y1
        have hD7 := e7 _ _ hD5
        have esl := hA5.1
        refine ⟨D, es, _, rfl, rfl, hD7, sz_lt (by have : qs.length ≤ 3 := hl; omega), ?_⟩
        have t8 : Tk (upd H6 u (.tup [.str "along", .ref p])) (upd (upd H6 u (.tup [.str "along", .ref p])) D (.lst (es ++ [.ref u]))) := tk_upd hD7 fun xs z => by cases z
        have hQ8 : QR (upd (upd H6 u (.tup [.str "along", .ref p])) D (.lst (es ++ [.ref u]))) u (.along S) := ⟨_, t8 _ _ upd_same, t8 _ _ (y1 _ _ eS)⟩
        have hA8 : All2 (QR2 (upd (upd H6 u (.tup [.str "along", .ref p])) D (.lst (es ++ [.ref u])))) (es ++ [.ref u]) (qs ++ [.along S]) := (all2_tk st_Q2 ((tk_ex e7).trans t8) hA5).snoc ⟨u, rfl, hQ8⟩
        have D8 := (D5.ex e7).beside (o := .lst (es ++ [.ref u])) apD
        have mo8 := upd_mo (o := .lst (es ++ [.ref u])) (mo15.trans (mo_ex e7)) nD0
        have htt8 := t8 _ _ (e7 _ _ htt5)
        have hD8 := upd_same (H := upd H6 u (.tup [.str "along", .ref p])) (a := D) (o := .lst (es ++ [.ref u]))
        generalize upd (upd H6 u (.tup [.str "along", .ref p])) D (.lst (es ++ [.ref u])) = H8 at hA8 D8 mo8 htt8 hD8
        refine ⟨.ref dk, rfl, .ref tt, rfl, dk, g, tt, _, rfl, D8, D8.ntup htt8, .inr htt8, by simpa [vn] using lne, by rw [lv]; omega, fun v1 H9 mo9 D9 hv1 => ?_⟩
        obtain ⟨p1, hp1, rfl⟩ := List.mem_map.mp hv1
        have htt9 := D8.tk mo9 _ _ htt8
        refine ⟨.ref dk, rfl, .ref tt, rfl, dk, g, tt, _, rfl, D9, D9.ntup htt9, .inr htt9, by simpa [vn] using lne, by rw [lv]; omega, fun v2 H10 mo10 D10 hv2 => ⟨_, _, rfl, ?_⟩⟩
        obtain ⟨p2, hp2, rfl⟩ := List.mem_map.mp hv2
        have mo810 := mo9.trans mo10
        have hD10 := mo810 _ _ apD hD8
        have hA10 := all2_tk st_Q2 (D8.tk mo810) hA8
        have mo11 := mo8.trans mo810
        obtain ⟨r0', ps, g1, g2, g3⟩ := hN.tk (hD.tk mo11)
        refine ⟨.ref D, rfl, _, rfl, _, rfl, by show 3 ≤ sizeLine; decide, fun u2 nu2 => ?_⟩
        have w1 := Evl.Ex.new (o := .tup [.str "both", .int (p1 : Nat), .int (p2 : Nat)]) nu2
        refine ⟨.int p1, rfl, .ref dk, rfl, .ref n, rfl, n, _, 1, .ref r0', rfl, rfl, st_of (w1 _ _ g1), rfl, r0', ps, rfl, .inr (st_of (w1 _ _ g2)), dk, g, _, rfl, D10.ex w1, by rw [g3.1]; omega, fun s H11 mo11' D11 s0 s1 => ?_⟩
        rw [g3.1] at s1
        obtain ⟨ks, rfl⟩ : ∃ ks : Nat, s = ks := ⟨s.toNat, by omega⟩
        refine ⟨by show 2 ≤ sizeLine; decide, fun sl nsl => ?_⟩
        have w2 := Evl.Ex.new (o := .lst [.int (p1 : Nat), .int (ks : Nat)]) nsl
        refine ⟨sl, [(p1 : Int), (ks : Int)], rfl, sq_of upd_same, by show 2 + 1 < 4096; decide, fun pp L np ndL memL => ?_⟩
        have w3 := Evl.Ex.new (o := SetO w pp (fun j => decide (j ∈ [(p1 : Int), (ks : Int)])) L.length) np
        have Ll : L.length ≤ 2 := List.Nodup.length_le_of_subset (l₂ := [(p1 : Int), (ks : Int)]) ndL (fun k hk => (memL k).mp hk)
        refine ⟨pp, _, _, rfl, upd_same, by omega, fun ns' p2' _ mem2 len2' np2 => ?_⟩
        have w4 := Evl.Ex.new (o := .lst (vi ns')) np2
        refine ⟨p2', _, rfl, .inl ⟨sq_of upd_same, fun p3 np3 => ?_⟩⟩
        have w5 := Evl.Ex.new (o := .tup (vi ns')) np3
        refine ⟨by show 2 ≤ sizeLine; decide, fun u3 nu3 => ?_⟩
        have w6 := Evl.Ex.new (o := .tup [.str "touch", .ref p3]) nu3
        refine ⟨by show 2 ≤ sizeLine; decide, fun fl nfl => ?_⟩
        have w7 := Evl.Ex.new (o := .lst [.ref u2, .ref u3]) nfl
        have eW := w2.trans (w3.trans (w4.trans (w5.trans (w6.trans w7))))
        have moW : Mo [dk, g] H10 _ := (mo_ex w1).trans (mo11'.trans (mo_ex eW))
        refine ⟨D, fl, _, _, rfl, rfl, moW _ _ apD hD10, upd_same, sz_of (by simp; have : qs.length ≤ 3 := hl; omega), fun fin nfin => ?_⟩
        have w8 := Evl.Ex.new (o := .lst ((es ++ [.ref u]) ++ [.ref u2, .ref u3])) nfin
        obtain ⟨ms, em, lm⟩ := nat_of (ns := ns') fun z hz => by
          have := of_decide_eq_true ((mem2 z).mp hz)
          have : z = p1 ∨ z = ks := by simpa using this
          omega
        have DW : Deck _ dk g := D11.ex eW
        refine q fin _ ((qs ++ [.along S]) ++ [.both p1 p2, .touch ms]) _ (mo11.trans (moW.trans (mo_ex w8))) (DW.ex w8) (fresh_mo (mo11.trans moW) (DW.apart nfin) nfin) upd_same ?_ fun qq hqq => ?_
        · refine (all2_tk st_Q2 ((D10.tk moW).trans (tk_ex w8)) hA10).app (.cons ⟨u2, rfl, ?_⟩ (.cons ⟨u3, rfl, p3, ?_, ?_⟩ .nil))
          · exact w8 _ _ (eW _ _ ((D10.ex w1).tk mo11' _ _ upd_same))
          · exact w8 _ _ (w7 _ _ upd_same)
          · rw [← em]; exact w8 _ _ (w7 _ _ (w6 _ _ upd_same))
        · rcases List.mem_append.mp hqq with h | h
          · rcases List.mem_append.mp h with h | h
            · exact hp qq h
            · rw [List.mem_singleton.mp h]; exact Sok
          · rcases List.mem_cons.mp h with rfl | h
            · exact ⟨⟨lrd _ hp1, lrd _ hp2⟩, trivial⟩
            · rw [List.mem_singleton.mp h]
              exact ⟨trivial, by show ms.length ≤ 50; omega⟩
end K56


namespace K56
open PySem PySem.Spec PyProof.Rows L2 K56R
open Evl (Ex ex_l ex_t sq_of st_of fresh_back sz_of sz_lt)
/-! ### repr of small data -/
structure Rp (d : PyData) (dep b : Nat) : Prop where
  sh : d.showable = true
  hd : d.hasDict = false
  dp : d.depth ≤ dep
  ls : d.leavesShort 13 = true
  bk : d.bulk ≤ b
structure RpA (ds : List PyData) (dep b : Nat) : Prop where
  sh : PyData.showableAll ds = true
  hd : PyData.hasDictAll ds = false
  dp : PyData.depthAll ds ≤ dep
  ls : PyData.leavesShortAll 13 ds = true
  bk : PyData.bulkAll ds ≤ b
theorem log2_1920 {i : Int} (h0 : 0 ≤ i) (h1 : i ≤ 1000) : i.natAbs.log2 < 1920 := by
  by_cases z : i.natAbs = 0
  · rw [z]; decide
  · have : i.natAbs < 2 ^ 1920 := Nat.lt_of_lt_of_le (by omega : i.natAbs < 2 ^ 10) (Nat.pow_le_pow_right (by decide) (by decide))
    exact (Nat.log2_lt z).mpr this
theorem rp_int {i : Int} (h0 : 0 ≤ i) (h1 : i ≤ 1000) (dep : Nat) : Rp (.int i) dep 0 := by
  refine ⟨?_, by simp only [PyData.hasDict], by simp only [PyData.depth]; omega, ?_, by simp only [PyData.bulk]; omega⟩
  · simp only [PyData.showable]; exact decide_eq_true (log2_1920 h0 h1)
  · have := intsShort_of_noneOrIn (lo := -1) (hi := 1001) (by decide) (by decide) (.int i) (by simp [noneOrIn]; omega)
    simpa only [PyData.leavesShort, PyData.intsShort] using this
theorem rpa_nil (dep : Nat) : RpA [] dep 0 := ⟨rfl, rfl, Nat.zero_le _, rfl, Nat.le_refl _⟩
theorem rpa_cons {d : PyData} {ds : List PyData} {dep b b' : Nat} (h : Rp d dep b) (k : RpA ds dep b') : RpA (d :: ds) dep (b + 1 + b') := by
  refine ⟨?_, ?_, ?_, ?_, ?_⟩
  · simp only [PyData.showableAll, h.sh, k.sh, Bool.and_self]
  · simp only [PyData.hasDictAll, h.hd, k.hd, Bool.or_self]
  · simp only [PyData.depthAll]; have := h.dp; have := k.dp; omega
  · simp only [PyData.leavesShortAll, h.ls, k.ls, Bool.and_self]
  · simp only [PyData.bulkAll]; have := h.bk; have := k.bk; omega
theorem RpA.le {ds : List PyData} {dep b b' : Nat} (h : RpA ds dep b) (e : b ≤ b') : RpA ds dep b' := ⟨h.sh, h.hd, h.dp, h.ls, Nat.le_trans h.bk e⟩
theorem Rp.up {d : PyData} {dep dep' b : Nat} (h : Rp d dep b) (e : dep ≤ dep') : Rp d dep' b := ⟨h.sh, h.hd, Nat.le_trans h.dp e, h.ls, h.bk⟩
theorem rp_list {ds : List PyData} {dep b : Nat} (h : RpA ds dep b) : Rp (.list ds) (dep + 1) b := by
  refine ⟨?_, ?_, ?_, ?_, ?_⟩
  · simp only [PyData.showable]; exact h.sh
  · simp only [PyData.hasDict]; exact h.hd
  · simp only [PyData.depth]; have := h.dp; omega
  · simp only [PyData.leavesShort]; exact h.ls
  · simp only [PyData.bulk]; exact h.bk
theorem rp_tup {ds : List PyData} {dep b : Nat} (h : RpA ds dep b) : Rp (.tuple ds) (dep + 1) b := by
  refine ⟨?_, ?_, ?_, ?_, ?_⟩
  · simp only [PyData.showable]; exact h.sh
  · simp only [PyData.hasDict]; exact h.hd
  · simp only [PyData.depth]; have := h.dp; omega
  · simp only [PyData.leavesShort]; exact h.ls
  · simp only [PyData.bulk]; exact h.bk
theorem rpa_ints (dep : Nat) : ∀ {ns : List Int}, (∀ z ∈ ns, 0 ≤ z ∧ z ≤ 1000) → RpA (ns.map PyData.int) dep ns.length
  | [], _ => rpa_nil dep
  | z :: ns, h => (rpa_cons (rp_int (h z List.mem_cons_self).1 (h z List.mem_cons_self).2 dep) (rpa_ints dep fun y hy => h y (List.mem_cons_of_mem _ hy))).le (by simp; omega)
theorem Rp.fits {d : PyData} {dep b : Nat} (h : Rp d dep b) (hb : b ≤ 1000) : d.shown.length ≤ sizeLine := PyData.shown_fits_bulk (B := 13) (by decide) (by decide) h.ls (by have := h.bk; omega)
/-! ### the numbers -/
theorem sorted_ext : ∀ {l m : List Int}, l.Pairwise (· < ·) → m.Pairwise (· < ·) → (∀ k, k ∈ l ↔ k ∈ m) → l = m
  | [], [], _, _, _ => rfl
  | [], y :: m, _, _, h => by have := (h y).mpr List.mem_cons_self; cases this
  | x :: l, [], _, _, h => by have := (h x).mp List.mem_cons_self; cases this
  | x :: l, y :: m, hl, hm, h => by
    obtain ⟨l1, l2⟩ := List.pairwise_cons.mp hl
    obtain ⟨m1, m2⟩ := List.pairwise_cons.mp hm
    have e : x = y := by
      rcases List.mem_cons.mp ((h x).mp List.mem_cons_self) with e | e
      · exact e
      · rcases List.mem_cons.mp ((h y).mpr List.mem_cons_self) with e2 | e2
        · exact e2.symm
        · have := m1 x e; have := l1 y e2; omega
    subst e
    congr 1
    refine sorted_ext l2 m2 fun k => ⟨fun hk => ?_, fun hk => ?_⟩
    · rcases List.mem_cons.mp ((h k).mp (List.mem_cons_of_mem _ hk)) with e | e
      · have := l1 k hk; omega
      · exact e
    · rcases List.mem_cons.mp ((h k).mpr (List.mem_cons_of_mem _ hk)) with e | e
      · have := m1 k hk; omega
      · exact e
def rng (lo hi : Int) : List Int := (List.range (hi + 1 - lo).toNat).map fun i => lo + (i : Nat)
theorem mem_rng {lo hi k : Int} : k ∈ rng lo hi ↔ lo ≤ k ∧ k ≤ hi := by
  unfold rng
  rw [List.mem_map]
  constructor
  · rintro ⟨i, hi', rfl⟩
    have := List.mem_range.mp hi'
    omega
  · rintro ⟨h1, h2⟩
    exact ⟨(k - lo).toNat, List.mem_range.mpr (by omega), by omega⟩
theorem rng_sorted (lo hi : Int) : (rng lo hi).Pairwise (· < ·) := by
  unfold rng
  rw [List.pairwise_map]
  exact List.pairwise_lt_range.imp fun h => by omega
theorem mild_q {m : Int} {R : Arcs} (N : NetOk m R) (q : Qn) : Mild R 0 (m - 1) (qf q) := by
  cases q
  · exact mild_all N.up _
  · exact mild_any _
  · exact mild_all N.up _
theorem told_eq {m : Int} {R : Arcs} (N : NetOk m R) {c : Nat → Int} {q : Qn} {lo hi : Int} (hlo : IsLo m R c (qf q) lo) (hhi : IsHi m R c (qf q) hi) {ns : List Int} (hs : ns.Pairwise (· < ·)) (hm : ∀ k, k ∈ ns ↔ ∃ X, Expl m R c X ∧ sm (qf q) X = k) : ns = rng lo hi ∧ lo ≤ hi := by
  obtain ⟨X, x1, x2⟩ := hlo.2
  obtain ⟨Y, y1, y2⟩ := hhi.2
  refine ⟨sorted_ext hs (rng_sorted lo hi) fun k => (hm k).trans (Iff.trans ?_ mem_rng.symm), ?_⟩
  · constructor
    · rintro ⟨Z, z1, rfl⟩
      exact ⟨hlo.1 Z z1, hhi.1 Z z1⟩
    · rintro ⟨h1, h2⟩
      obtain ⟨Z, z1, z2⟩ := no_gap N (mild_q N q) x1 y1 (k := k) (by omega) (by omega)
      exact ⟨Z, z1, z2⟩
  · have := hlo.1 Y y1; omega
theorem lo_one {m : Int} {R : Arcs} {c : Nat → Int} {f : List Nat → Int} {a b : Int} (h : IsLo m R c f a) (k : IsLo m R c f b) : a = b := by
  obtain ⟨X, x1, x2⟩ := h.2
  obtain ⟨Y, y1, y2⟩ := k.2
  have := h.1 Y y1
  have := k.1 X x1
  omega
def num (q : Qn) (M : List Pp) : Int := sm (fun p : Pp => p.2 * qf q p.1) M
theorem sm_cnt {T : List (List Nat)} (nd : T.Nodup) (f : List Nat → Int) : ∀ {X : List (List Nat)}, (∀ t ∈ X, t ∈ T) → sm f X = sm (fun t => (X.count t : Int) * f t) T
  | [], _ => by
    show (0 : Int) = _
    exact (sm_zero fun t _ => by simp).symm
  | x :: X, h => by
    have ih := sm_cnt nd f (X := X) fun t ht => h t (List.mem_cons_of_mem _ ht)
    have e : sm (fun t => ((x :: X).count t : Int) * f t) T = sm (fun t => (X.count t : Int) * f t + b1 (decide (t = x)) * f x) T := sm_congr fun t _ => by
      rw [List.count_cons]
      by_cases q : t = x
      · subst q; simp [b1, Int.add_mul]
      · rw [decide_eq_false q, show (x == t) = false from beq_eq_false_iff_ne.mpr (Ne.symm q)]; simp [b1]
    have pick : ∀ {T : List (List Nat)}, T.Nodup → x ∈ T → sm (fun t => b1 (decide (t = x)) * f x) T = f x := by
      intro T
      induction T with
      | nil => intro _ h; cases h
      | cons y T ih =>
        intro nd hx
        rw [List.nodup_cons] at nd
        show b1 (decide (y = x)) * _ + _ = _
        by_cases q : y = x
        · subst q
          rw [decide_eq_true rfl, sm_zero fun t ht => by
            rw [decide_eq_false fun e => nd.1 (by rw [← e]; exact ht)]; simp [b1]]
          simp [b1]
        · rw [decide_eq_false q, ih nd.2 ((List.mem_cons.mp hx).resolve_left (Ne.symm q))]; simp [b1]
    rw [e, sm_add, pick nd (h x List.mem_cons_self), ← ih]
    show f x + sm f X = _
    omega
theorem num_asg (q : Qn) (X : List (List Nat)) : ∀ ts, num q (asg X ts) = sm (fun t => (X.count t : Int) * qf q t) ts
  | [] => rfl
  | t :: ts => by
    have ih := num_asg q X ts
    unfold asg num at ih ⊢
    by_cases h : 0 < X.count t
    · rw [List.filter_cons, if_pos (by simpa using h)]
      show ((X.count t : Int) * qf q t) + sm _ (List.map (fun t => (t, (X.count t : Int))) (List.filter (fun t => decide (0 < X.count t)) ts)) = _ + _
      rw [ih]
    · rw [List.filter_cons, if_neg (by simpa using h), ih]
      show _ = (X.count t : Int) * qf q t + _
      rw [show X.count t = 0 by omega]; simp
theorem ev_expl {m : Int} {R : Arcs} {c : Nat → Int} {T : List (List Nat)} (hT : ∀ l, l ∈ T ↔ IsPath R 0 l (m - 1)) {Ms : List (List Pp)} (hA : AllOk T R.length c Ms) {M : List Pp} (hM : M ∈ Ms) : Expl m R c (xpd M) ∧ (∀ q, num q M = sm (qf q) (xpd M)) ∧ M.length ≤ (xpd M).length := by
  obtain ⟨_, h2, _⟩ := hA
  obtain ⟨h3, h4⟩ := h2 M hM
  have nn : ∀ e ∈ M, 0 ≤ e.2 := fun e he => by have := (h3 e he).2; omega
  refine ⟨⟨fun t ht => ?_, fun r hr => by rw [cnt_xpd r nn, h4 r hr]⟩, fun q => (sm_xpd _ nn).symm, len_xpd fun e he => (h3 e he).2⟩
  obtain ⟨e, he, rfl⟩ := mem_xpd ht
  exact (hT _).mp (h3 e he).1
theorem ev_mem {m : Int} {R : Arcs} {c : Nat → Int} {T : List (List Nat)} (nd : T.Nodup) (hT : ∀ l, l ∈ T ↔ IsPath R 0 l (m - 1)) {Ms : List (List Pp)} (hA : AllOk T R.length c Ms) (q : Qn) (k : Int) : k ∈ Ms.map (num q) ↔ ∃ X, Expl m R c X ∧ sm (qf q) X = k := by
  rw [List.mem_map]
  constructor
  · rintro ⟨M, hM, rfl⟩
    obtain ⟨h1, h2, _⟩ := ev_expl hT hA hM
    exact ⟨_, h1, (h2 q).symm⟩
  · rintro ⟨X, hX, rfl⟩
    have hXT : ∀ t ∈ X, t ∈ T := fun t ht => (hT t).mpr (hX.1 t ht)
    exact ⟨_, hA.2.2 X hXT hX.2, by rw [num_asg, ← sm_cnt nd _ hXT]⟩
theorem num_le {m : Int} {R : Arcs} (N : NetOk m R) {c : Nat → Int} {X : List (List Nat)} (hX : Expl m R c X) (q : Qn) : 0 ≤ sm (qf q) X ∧ sm (qf q) X ≤ tot R c := by
  refine ⟨sm_nn fun t _ => by rcases qf_01 q t with h | h <;> omega, ?_⟩
  rw [← hX.len N, ← sm_one]
  exact sm_le fun t _ => by rcases qf_01 q t with h | h <;> omega
/-! ### is_told -/
def kw_least : List V → List V → List V
  | [], [q, n, t] => [n, t, q]
  | _, _ => []
def kw_most : List V → List V → List V
  | [], [t, q, n] => [n, t, q]
  | _, _ => []
def sp_law_is_told (_ : PySem.W.Frag) : Sp := fun vs H Q _ => ∃ n t u e nm m R c q es Ms T, vs = [.ref n, .ref t, .ref u, .ref e, .bl nm] ∧ NT H n t m R c ∧ GoodNet m R ∧ tot R (cf c) ≤ 12 ∧ QR H u q ∧ QOk R q ∧ QT R q ∧ H e = some (.lst es) ∧ All2 (EvR H) es Ms ∧
  T.Nodup ∧ (∀ l, l ∈ T ↔ IsPath R 0 l (m - 1)) ∧ AllOk T R.length (cf c) Ms ∧ ∀ H', Ex H H' → Q (.bl true) H'
theorem ok_law_is_told {P : Program} {w : World} {K : PySem.W.Frag} {mg : Str → Option Value} {base : Heap} {f : Addr} {fd : FuncData} (F : L2.Fun K "_law_is_told" "_law_is_told" s_law_is_told f fd) (B : Bn mg)
    (C_least : C8.Cal P w K mg base 6 "least" (sp_least K) [])
    (C_most : C8.Cal P w K mg base 6 "most" (sp_most K) [])
    (C_law_many : C8.Cal P w K mg base 2 "_law_many" (sp_law_many K) [])
    (K_least : CalK P w K mg base 6 "least" (sp_least K) ["question", "net", "tally"] kw_least)
    (K_most : CalK P w K mg base 6 "most" (sp_most K) ["tally", "question", "net"] kw_most) :
    FnG P w K mg base 7 f fd ["_law_net_here", "_law_tally_here", "_law_question_here", "_law_every", "_law_is_named"] (sp_law_is_told K) := by
  refine fnG_of (k := 6) F sc_law_is_told (fun vs H Q E h => ?_) (fun cdv A outer s H vs Q E gd hr h => ?_)
  · obtain ⟨_, _, _, _, _, _, _, _, _, _, _, _, rfl, _⟩ := h
    rfl
  · obtain ⟨n, t, u, e, nm, m, R, c, qn, es, Ms, T, rfl, hNT, hG, htot, hQ, hO, hQT, he, hE, nd, hT, hA, q⟩ := h
    have m5 := hG.m5
    have hu := hu_of hr
    refine ⟨_, (pss_cons (ps_set (i := 5) sc_law_is_told.nd rfl (Or.inl rfl) (pe_callB (cr_sortedSet rfl) (by rfl) B.sorted (by decide +kernel) (pa_cons (pe_callTy (cr_setL rfl) (by rfl) B.set (by decide +kernel) (pa_cons (pe_lc (own := [("_law_made", 7)]) rfl sc_law_is_told.nd (pi_list (pv 3)) (blkOk_by (own := [("_law_made", 7)]) (N := N_law_is_told) (sc := defScope s_law_is_told) (by decide +kernel)) (fun _ _ _ _ _ => (pg_name (i := 7) sc_law_is_told.nd rfl (Or.inl rfl))) (fun _ _ _ _ _ => pts_nil) (fun _ _ _ _ _ => (C8.pe_c C_law_many hr (by decide) (by rfl) (pa_cons (pv 2) (pa_cons (pv 7) pa_nil))))) pa_nil)) pa_nil)))
          (pss_cons (ps_if (pt_val (pv 4)) (pss_one (ps_set (i := 6) sc_law_is_told.nd rfl (Or.inl rfl) (pe_lst (pa_cons (pe_ck K_least hr (by decide) (by rfl) (pk_cons (pv 2) (pk_cons (pv 0) (pk_cons (pv 1) pk_nil)))) (pa_cons (pe_ck K_most hr (by decide) (by rfl) (pk_cons (pv 1) (pk_cons (pv 2) (pk_cons (pv 0) pk_nil)))) pa_nil))))) (pss_one (ps_set (i := 6) sc_law_is_told.nd rfl (Or.inl rfl) (pe_lst (pa_cons (C8.pe_c C_least hr (by decide) (by rfl) (pa_cons (pv 0) (pa_cons (pv 1) (pa_cons (pv 2) pa_nil)))) (pa_cons (C8.pe_c C_most hr (by decide) (by rfl) (pa_cons (pv 0) (pa_cons (pv 1) (pa_cons (pv 2) pa_nil)))) pa_nil))))))
          (pss_cons (ps_if (pt_cmpR op_ne (pe_callB (call_reprD hr.units gd) (by rfl) B.repr (by decide +kernel) (pa_cons (pv 6) pa_nil)) (pe_callB (call_reprD hr.units gd) (by rfl) B.repr (by decide +kernel) (pa_cons (pe_lst (pa_cons (pe_ix ix_list (pv 5) pe_int (fun _ _ => rfl)) (pa_cons (pe_ix ix_list (pv 5) (pe_un un_neg pe_int) (fun _ _ => rfl)) pa_nil))) pa_nil)) (nomark _)) (pss_one (ps_ret pe_bl)) pss_nil)
          (pss_one (ps_ret (pe_and (pe_cmpR (op_eqD hr.units) (pe_listRg rfl (by rfl) B.list (prg_2 (by rfl) B.range (pe_ix ix_list (pv 6) pe_int (fun _ _ => rfl)) (pe_op op_add (pe_ix ix_list (pv 6) pe_int (fun _ _ => rfl)) pe_int))) (pv 5) (nomark _)) (pe_one (pe_cmpR op_eq (pe_callB SkE.call_repr_int (by rfl) B.repr (by decide +kernel) (pa_cons (C8.pe_c C_least hr (by decide) (by rfl) (pa_cons (pv 0) (pa_cons (pv 1) (pa_cons (pv 2) pa_nil)))) pa_nil)) (pe_callB SkE.call_repr_int (by rfl) B.repr (by decide +kernel) (pa_cons (pe_ix ix_list (pv 5) pe_int (fun _ _ => rfl)) pa_nil)) (nomark _))))))))), ?_⟩
    refine ⟨_, rfl, e, rfl, ⟨_, sq_of he⟩, fun D nD => ?_⟩
    refine lc_it (walk_list (xs := es)) (Cx1 H IsI (upto (fun _ => true) (fun i => num qn (Ms.getD i []))) D) (cx_zero nD rfl) (fun i H' _ pv => sq_of (pv.2.1 _ _ he)) (fun i x H' H2 hi pv y => ?_) fun H2 pv => ?_
    · obtain ⟨rfl, ey⟩ := y
      obtain ⟨M, eM, a, ms, rfl, ha, hms⟩ := hE.get' ey
      have hMm := List.mem_of_getElem? eM
      obtain ⟨hX, _, hl⟩ := ev_expl hT hA hMm
      have hXl := hX.len hG.ok
      refine ⟨rfl, ?_⟩
      refine cx_all st_I pv (Evl.Ex.refl _) (by have := hA.1; rw [hE.1] at hi; omega) fun Q k => ⟨_, rfl, _, rfl, u, a, ms, qn, M, m, R, rfl, hQ.tk (tk_ex pv.2.1), pv.2.1 _ _ ha, all2_tk st_Ppl (tk_ex pv.2.1) hms, hG.ok, fun p hp => ?_, hQT, by omega, fun H3 e3 => k _ _ e3 ?_⟩
      · have hp1 := (hT _).mp ((hA.2.1 M hMm).1 p hp).1
        have := path_len hG.ok hp1
        exact ⟨hp1, by omega⟩
      · rw [getD_of eM]; rfl
    · obtain ⟨_, ex2, acc, hD, hAc⟩ := pv
      rw [all2_I, hE.1, upto_all (num qn) [] Ms] at hAc
      have mem := ev_mem nd hT hA qn
      refine ⟨D, Ms.map (num qn), rfl, sq_of (by rw [hD, hAc]), by rw [List.length_map]; have := hA.1; show _ < 4096; omega, fun p L np ndL memL => ?_⟩
      have x3 := Evl.Ex.new (o := SetO w p (fun j => decide (j ∈ Ms.map (num qn))) L.length) np
      have Ll : L.length ≤ 13 := by
        have := List.Nodup.length_le_of_subset (l₂ := (List.range 13).map fun i => ((i : Nat) : Int)) ndL (fun k hk => by
          obtain ⟨X, hX, rfl⟩ := (mem k).mp ((memL k).mp hk)
          have := num_le hG.ok hX qn
          exact List.mem_map.mpr ⟨(sm (qf qn) X).toNat, List.mem_range.mpr (by omega), by omega⟩)
        simpa using this
      refine ⟨p, _, _, rfl, upd_same, by omega, fun ns p2 hsort hmem _ np2 => ?_⟩
      have x4 := Evl.Ex.new (o := .lst (vi ns)) np2
      have hp2 := upd_same (H := upd H2 p (SetO w p (fun j => decide (j ∈ Ms.map (num qn))) L.length)) (a := p2) (o := .lst (vi ns))
      have e5 := ex2.trans (x3.trans x4)
      have hmem' : ∀ k, k ∈ ns ↔ ∃ X, Expl m R (cf c) X ∧ sm (qf qn) X = k := fun k => by
        rw [hmem k, decide_eq_true_eq]; exact mem k
      have hNT5 := hNT.tk (tk_ex e5)
      have hQ5 := hQ.tk (tk_ex e5)
      refine ⟨_, rfl, nm, rfl, itB (fun _ => ?_) (fun _ => ?_)⟩
      case' refine_1 => refine ⟨.ref u, rfl, .ref n, rfl, .ref t, rfl, n, t, m, R, c, u, qn, rfl, hNT5, hQ5, hO, fun lo H6 e6 hlo => ⟨.ref t, rfl, .ref u, rfl, .ref n, rfl, n, t, m, R, c, u, qn, rfl, hNT5.tk (tk_ex e6), hQ5.tk (tk_ex e6), hO, fun hi H7 e7 hhi => ⟨by show 2 ≤ sizeLine; decide, fun told nt => ?_⟩⟩⟩
      case' refine_2 => refine ⟨.ref n, rfl, .ref t, rfl, .ref u, rfl, n, t, m, R, c, u, qn, rfl, hNT5, hQ5, hO, fun lo H6 e6 hlo => ⟨.ref n, rfl, .ref t, rfl, .ref u, rfl, n, t, m, R, c, u, qn, rfl, hNT5.tk (tk_ex e6), hQ5.tk (tk_ex e6), hO, fun hi H7 e7 hhi => ⟨by show 2 ≤ sizeLine; decide, fun told nt => ?_⟩⟩⟩
      all_goals
        have x8 := Evl.Ex.new (o := .lst [.int lo, .int hi]) nt
        have htold := upd_same (H := H7) (a := told) (o := .lst [.int lo, .int hi])
        have e58 := (e6.trans e7).trans x8
        have hp28 := e58 _ _ hp2
        have e8 := e5.trans e58
        generalize upd H7 told (.lst [.int lo, .int hi]) = H8 at htold e58 hp28 e8
        obtain ⟨ens, lohi⟩ := told_eq hG.ok hlo hhi hsort hmem'
        have lo0 : 0 ≤ lo ∧ lo ≤ 12 := by
          obtain ⟨X, hX, e⟩ := hlo.2
          have := num_le hG.ok hX qn
          omega
        have hi0 : 0 ≤ hi ∧ hi ≤ 12 := by
          obtain ⟨X, hX, e⟩ := hhi.2
          have := num_le hG.ok hX qn
          omega
        have at0 : atI (vi ns) 0 = some (.int lo) := by
          refine atI_nat (j := 0) ?_
          rw [ens]; unfold rng vi
          rw [List.getElem?_map, List.getElem?_map, List.getElem?_range (by omega)]
          show some (V.int (lo + ((0 : Nat) : Int))) = _
          simp
        have atl : atI (vi ns) (-1) = some (.int hi) := by
          have : vi ns = ((List.range (hi - lo).toNat).map fun i => V.int (lo + (i : Nat))) ++ [.int hi] := by
            rw [ens]; unfold rng vi
            rw [show (hi + 1 - lo).toNat = (hi - lo).toNat + 1 by omega, List.range_succ, List.map_append, List.map_append, List.map_map]
            congr 1
            show [V.int (lo + (((hi - lo).toNat : Nat) : Int))] = [V.int hi]
            congr 2; omega
          rw [this]; exact atI_last _ _
        have rp := rp_list (rpa_ints 0 (ns := [lo, hi]) fun z hz => by
          have : z = lo ∨ z = hi := by simpa using hz
          omega)
        have rpf := rp.fits (by simp)
        refine ⟨.ref told, rfl, told, _, rfl, .lst (sq_of htold) (dp_ints [lo, hi]), rp.sh, rp.hd, by have := rp.dp; omega, rpf, ?_⟩
        refine ⟨.ref p2, rfl, p2, _, 0, .int lo, rfl, rfl, sq_of hp28, at0, .ref p2, rfl, 1, rfl, p2, _, -1, .int hi, rfl, rfl, sq_of hp28, atl, by show 2 ≤ sizeLine; decide, fun z9 nz9 => ?_⟩
        have x9 := Evl.Ex.new (o := .lst [.int lo, .int hi]) nz9
        refine ⟨z9, _, rfl, .lst (sq_of upd_same) (dp_ints [lo, hi]), rp.sh, rp.hd, by have := rp.dp; omega, rpf, rfl, _, rfl, itB (fun hb => absurd hb (by simp)) (fun _ => ?_)⟩
        have htold9 := x9 _ _ htold
        have hp29 := x9 _ _ hp28
        refine ⟨.ref told, rfl, told, _, 0, .int lo, rfl, rfl, sq_of htold9, atI_nat (j := 0) rfl, .ref told, rfl, told, _, 1, .int hi, rfl, rfl, sq_of htold9, atI_nat (j := 1) rfl, hi, 1, rfl, rfl, lo, hi + 1, rfl, rfl, RgOk.of_le (by omega) (by omega) (by omega) (by omega), fun z10 nz10 => ?_⟩
        have x10 := Evl.Ex.new (o := .lst (rgV lo (hi + 1))) nz10
        have erg : rgV lo (hi + 1) = vi (rng lo hi) := by
          unfold rgV rng vi
          rw [List.map_map]; rfl
        have hz10 := upd_same (H := upd H8 z9 (.lst [.int lo, .int hi])) (a := z10) (o := .lst (rgV lo (hi + 1)))
        rw [erg] at hz10 x10 ⊢
        have hp210 := x10 _ _ hp29
        refine ⟨.ref p2, rfl, _, _, .lst (sq_of hz10) (dp_ints _), .lst (sq_of hp210) (dp_ints _), PySem.W.ke_shaped_ints _, PySem.W.ke_shaped_ints _, _, rfl, ?_⟩
        have eqt : PyData.eqv (.list ((rng lo hi).map PyData.int)) (.list (ns.map PyData.int)) = true := by
          show PyData.eqvAll _ _ = true
          rw [eqvAll_ints, ens, decide_eq_true rfl]
        rw [eqt]
        have e10 := e8.trans (x9.trans x10)
        refine itT ⟨.ref n, rfl, .ref t, rfl, .ref u, rfl, n, t, m, R, c, u, qn, rfl, hNT.tk (tk_ex e10), hQ.tk (tk_ex e10), hO, fun lo2 H11 e11 hlo2 => ?_⟩
        have el := lo_one hlo2 hlo
        subst el
        refine ⟨lo2, rfl, log2_1920 (by omega) (by omega), .ref p2, rfl, p2, _, 0, .int lo2, rfl, rfl, sq_of (e11 _ _ hp210), at0, lo2, rfl, log2_1920 (by omega) (by omega), rfl, ?_⟩
        rw [decide_eq_true rfl]
        exact q _ (e10.trans e11)
end K56


namespace K56
open PySem PySem.Spec PyProof.Rows L2 K56R
open Evl (Ex ex_l ex_t sq_of st_of fresh_back sz_of sz_lt)
/-! ### a net and its tally as data -/
def prD (p : Int × Int) : PyData := .tuple [.int p.1, .int p.2]
def dNT (m : Int) (R : Arcs) (c : List Int) : PyData := .list [.tuple [.int m, .tuple (R.map prD)], .tuple (c.map PyData.int)]
theorem dp_pairs {K : PySem.W.Frag} {H : Hp} : ∀ {ps : List V} {R : Arcs}, All2 (Pr H) ps R → DpAll K H ps (R.map prD)
  | [], R, h => by
    have : R = [] := List.length_eq_zero_iff.mp h.1.symm
    subst this; exact .nil
  | v :: ps, R, h => by
    obtain ⟨p, R', rfl, ⟨a, rfl, ha⟩, h'⟩ := h.uncons
    exact .cons (.tup (st_of ha) (.cons (.int _) (.cons (.int _) .nil))) (dp_pairs h')
theorem dp_nt {K : PySem.W.Frag} {H : Hp} {n t z : Addr} {m : Int} {R : Arcs} {c : List Int} (h : NT H n t m R c) (hz : H z = some (.lst [.ref n, .ref t])) : Dp K H (.ref z) (dNT m R c) := by
  obtain ⟨r, ps, h1, h2, h3⟩ := h.net
  exact .lst (sq_of hz) (.cons (.tup (st_of h1) (.cons (.int _) (.cons (.tup (st_of h2) (dp_pairs h3)) .nil))) (.cons (.tup (st_of h.ht) (dp_ints c)) .nil))
theorem rpa_pairs {m : Int} (m5 : m ≤ 5) : ∀ {R : Arcs}, (∀ p ∈ R, 0 ≤ p.1 ∧ p.1 < p.2 ∧ p.2 < m) → RpA (R.map prD) 1 (3 * R.length)
  | [], _ => rpa_nil 1
  | p :: R, h => by
    have hp := h p List.mem_cons_self
    have : Rp (prD p) 1 2 := rp_tup (rpa_ints 0 (ns := [p.1, p.2]) fun z hz => by
      have : z = p.1 ∨ z = p.2 := by simpa using hz
      omega)
    exact (rpa_cons this (rpa_pairs m5 fun q hq => h q (List.mem_cons_of_mem _ hq))).le (by simp; omega)
theorem rp_nt {m : Int} {R : Arcs} {c : List Int} (hG : GoodNet m R) (hc : c.length = R.length) (nn : ∀ r, r < R.length → 0 ≤ cf c r ∧ cf c r ≤ 12) : Rp (dNT m R c) 4 200 := by
  have hl := hG.len
  have m5 := hG.m5
  have m3 := hG.m3
  have a := rpa_pairs m5 (R := R) fun p hp => by
    obtain ⟨i, hi⟩ := List.mem_iff_getElem?.mp hp
    obtain ⟨e1, e2⟩ := ft_get hi
    have := hG.ok.rd i (List.getElem?_eq_some_iff.mp hi).1
    rw [e1, e2] at this
    exact this
  have b := rp_tup (rpa_cons (rp_int (i := m) (by omega) (by omega) 2) (rpa_cons ((rp_tup a).up (Nat.le_refl 2)) (rpa_nil 2)))
  have d := rp_tup (rpa_ints 0 (ns := c) fun z hz => by
    obtain ⟨r, hr⟩ := List.mem_iff_getElem?.mp hz
    have hlt : r < c.length := (List.getElem?_eq_some_iff.mp hr).1
    have := nn r (by omega)
    have e : cf c r = z := getD_of hr
    omega)
  have e := rp_list ((rpa_cons b (rpa_cons (d.up (by decide)) (rpa_nil 3))).le (b' := 200) (by omega))
  exact e
theorem gt_ev {H : Hp} {v : V} {M : List Pp} (h : EvR H v M) : GT H 3 v := by
  obtain ⟨a, es, rfl, e, q⟩ := h
  refine .tup e fun x hx => ?_
  obtain ⟨p, _, hp⟩ := q.mem hx
  exact gt_ppl hp
/-! ### the law -/
def sp_law (K : PySem.W.Frag) : Sp := fun vs H Q _ => ∃ a ns, vs = [.ref a] ∧ SqL K H a (vi ns) ∧ ns.length ≤ 63 ∧ ∀ H', Q (.bl true) H'
theorem ok_law {P : Program} {w : World} {K : PySem.W.Frag} {mg : Str → Option Value} {base : Heap} {f : Addr} {fd : FuncData} (F : L2.Fun K "law" "law" s_law f fd) (B : Bn mg)
    (C_law_deck : C8.Cal P w K mg base 1 "_law_deck" (sp_law_deck K) [])
    (C_law_drawn : C8.Cal P w K mg base 5 "_law_drawn" (sp_law_drawn K) [])
    (C_law_trips : C8.Cal P w K mg base 1 "_law_trips" (sp_law_trips K) [])
    (C_law_all : C8.Cal P w K mg base 1 "_law_all" (sp_law_all K) [])
    (C_law_asked : C8.Cal P w K mg base 5 "_law_asked" (sp_law_asked K) [])
    (C_law_is_told : CalG P w K mg base 7 "_law_is_told" (sp_law_is_told K)) :
    FnG P w K mg base 8 f fd ["_law_script"] (sp_law K) := by
  refine fnG_of (k := 7) F sc_law (fun vs H Q E h => ?_) (fun cdv A outer s H vs Q E gd hr h => ?_)
  · obtain ⟨_, _, rfl, _⟩ := h
    rfl
  · obtain ⟨a, ns, rfl, hS, hl, q⟩ := h
    have hu := hu_of hr
    refine ⟨_, L2.PSs.nox (pss_cons (ps_set (i := 1) sc_law.nd rfl (Or.inl rfl) (C8.pe_c C_law_deck hr (by decide) (by rfl) (pa_cons (pv 0) pa_nil)))
          (pss_cons (ps_for PassesOwn.never rfl (pi_range1 (by rfl) B.range (pa_cons pe_int pa_nil)) (pg_name (i := 2) sc_law.nd rfl (Or.inl rfl)) (pss_cons (ps_asg (C8.pe_c C_law_drawn hr (by decide) (by rfl) (pa_cons (pv 1) (pa_cons (pv 2) pa_nil))) (pg_tup (by rfl) (pgs_cons (pg_name (i := 3) sc_law.nd rfl (Or.inl rfl)) (pgs_cons (pg_name (i := 4) sc_law.nd rfl (Or.inl rfl)) pgs_nil))))
          (pss_cons (ps_set (i := 5) sc_law.nd rfl (Or.inl rfl) (C8.pe_c C_law_trips hr (by decide) (by rfl) (pa_cons (pv 3) pa_nil)))
          (pss_cons (ps_par (i := 6) (j := 7) (by rfl) sc_law.nd rfl rfl (by decide) rfl rfl (pa_cons (C8.pe_c C_law_all hr (by decide) (by rfl) (pa_cons (pv 4) (pa_cons (pv 5) pa_nil))) (pa_cons (pe_callB (call_reprD hr.units gd) (by rfl) B.repr (by decide +kernel) (pa_cons (pe_lst (pa_cons (pv 3) (pa_cons (pv 4) pa_nil))) pa_nil)) pa_nil)) (by rfl))
          (pss_cons (ps_for PassesOwn.never rfl (pi_enum (by rfl) B.enumerate (pa_cons (pe_ifExp (pt_cmpR (op_neD hr.units) (pv 6) (pe_lst pa_nil) (nomark _)) (C8.pe_c C_law_asked hr (by decide) (by rfl) (pa_cons (pv 1) (pa_cons (pv 3) (pa_cons (pv 5) pa_nil)))) (pe_lst pa_nil)) pa_nil)) (pg_tup (by rfl) (pgs_cons (pg_name (i := 8) sc_law.nd rfl (Or.inl rfl)) (pgs_cons (pg_name (i := 9) sc_law.nd rfl (Or.inl rfl)) pgs_nil))) (pss_one (ps_if (pt_not (pt_val (pe_g C_law_is_told gd hr (by decide) (by rfl) (pa_cons (pv 3) (pa_cons (pv 4) (pa_cons (pv 9) (pa_cons (pv 6) (pa_cons (pe_and (pe_cmpR op_eq (pv 2) pe_int (nomark _)) (pe_one (pe_cmpR op_eq (pv 8) pe_int (nomark _)))) pa_nil)))))))) (pss_one (ps_ret pe_bl)) pss_nil)))
          (pss_one (ps_if (pt_cmpR op_ne (pe_callB (call_reprD hr.units gd) (by rfl) B.repr (by decide +kernel) (pa_cons (pe_lst (pa_cons (pv 3) (pa_cons (pv 4) pa_nil))) pa_nil)) (pv 7) (nomark _)) (pss_one (ps_ret pe_bl)) pss_nil)))))))
          (pss_one (ps_ret pe_bl)))), ?_⟩
    refine ⟨.ref a, rfl, a, ns, rfl, hS, hl, fun dk g H1 e1 D1 => ?_⟩
    refine ⟨5, rfl, by omega, by omega, ?_⟩
    refine for_it (walk_range0 (n := (5 : Int).toNat)) (fun i σ H' => ∃ y2 y3 y4 y5 y6 y7 y8 y9, σ = [some (.ref a), some (.ref dk), y2, y3, y4, y5, y6, y7, y8, y9] ∧ Deck H' dk g) ⟨none, none, none, none, none, none, none, none, rfl, D1⟩ (fun i σ H' _ pv => trivial) (fun i x σ H' H2 hi pv y => ?_) fun σ H' pv => ?_
    · obtain ⟨y2, y3, y4, y5, y6, y7, y8, y9, rfl, D0⟩ := pv
      obtain ⟨rfl, rfl⟩ := y
      refine ⟨.ref dk, rfl, _, rfl, dk, g, _, rfl, D0, fun p n t m R c H2' mo2 D2 hp hNT hG htot hc => ?_⟩
      refine ⟨p, _, rfl, st_of hp, rfl, _, _, rfl, _, _, rfl, rfl, ?_⟩
      refine ⟨.ref n, rfl, n, m, R, rfl, hNT.net, hG, fun ta ys T H3 e3 nta hta hT nd hmem hTl => ?_⟩
      have hNT3 := hNT.tk (tk_ex e3)
      have D3 := D2.ex e3
      have apta := D2.apart nta
      have hI : AllIn T c := ⟨nd, hTl, by rw [hNT.hc]; exact hG.pos, by rw [hNT.hc]; have := hG.len; omega, fun r hr => by
        rw [hNT.hc] at hr
        have := hc r hr
        exact ⟨hNT.nn r hr, by omega⟩, fun l hl => by
        have hp := (hmem l).mp hl
        have h1 := path_len hG.ok hp
        have h2 := hG.m5
        have h3 := hG.m3
        refine ⟨fun e => ?_, by omega, fun r hr => ?_⟩
        · rw [e] at hp; have : (0 : Int) = m - 1 := hp; omega
        · have h4 := (path_mem hG.ok.up hp hr).1
          have h5 := path_count hG.ok.up r hp
          have h6 := List.count_pos_iff.mpr hr
          exact ⟨by rw [hNT.hc]; exact h4, by omega⟩⟩
      refine ⟨.ref t, rfl, .ref ta, rfl, t, ta, c, ys, T, rfl, hNT3.ht, hta, hT, hI, fun ev es Ms H4 e4 nev hev hEs hMs => ?_⟩
      rw [hNT.hc] at hMs
      have D4 := D3.ex e4
      have hNT4 := hNT3.tk (tk_ex e4)
      have apev := D3.apart nev
      have hta4 := e4 _ _ hta
      have hT4 := all2_tk st_Tr (tk_ex e4) hT
      have rp := rp_nt hG hNT.hc fun r hr => ⟨hNT.nn r hr, hc r hr⟩
      have rpf := rp.fits (by omega)
      refine ⟨.ref n, rfl, .ref t, rfl, by show 2 ≤ sizeLine; decide, fun z nz => ?_⟩
      have x5 := Evl.Ex.new (o := .lst [.ref n, .ref t]) nz
      have hz := upd_same (H := H4) (a := z) (o := .lst [.ref n, .ref t])
      have D5 := D4.ex x5
      have hNT5 := hNT4.tk (tk_ex x5)
      have hev5 := x5 _ _ hev
      have hEs5 := all2_tk st_Ev (tk_ex x5) hEs
      have hta5 := x5 _ _ hta4
      have hT5 := all2_tk st_Tr (tk_ex x5) hT4
      generalize upd H4 z (.lst [.ref n, .ref t]) = H5 at hz D5 hNT5 hev5 hEs5 hta5 hT5
      refine ⟨z, _, rfl, dp_nt hNT5 hz, rp.sh, rp.hd, by have := rp.dp; omega, rpf, _, _, rfl, ?_⟩
      refine ⟨.ref ev, rfl, Nat.zero_le _, fun z6 nz6 => ?_⟩
      have x6 := Evl.Ex.new (o := .lst []) nz6
      obtain ⟨dd, d1, d2, d3⟩ := gt_list (K := K) (n := 3) (x6 _ _ hev5) (fun x hx => by
        obtain ⟨M, _, hM⟩ := hEs5.mem hx
        exact (gt_ev hM).tk (tk_ex x6)) (by decide)
      refine ⟨_, _, d1, .lst (sq_of upd_same) .nil, d2, shaped_nil, _, rfl, ?_⟩
      rw [d3]
      have D6 := D5.ex x6
      have hNT6 := hNT5.tk (tk_ex x6)
      have hev6 := x6 _ _ hev5
      have hEs6 := all2_tk st_Ev (tk_ex x6) hEs5
      have hta6 := x6 _ _ hta5
      have hT6 := all2_tk st_Tr (tk_ex x6) hT5
      generalize upd H5 z6 (.lst []) = H6 at D6 hNT6 hev6 hEs6 hta6 hT6 nz6
      refine itB (fun hb => ?_) (fun hb => ?_)
      case' refine_1 =>
        have hes : es ≠ [] := by simpa using hb
        have hOk : AllOk T R.length (cf c) Ms := hMs.resolve_left fun e => hes (by rw [e] at hEs; exact List.length_eq_zero_iff.mp hEs.1)
        have hTne : T ≠ [] := by
          obtain ⟨u, hu⟩ := hG.way
          exact List.ne_nil_of_mem ((hmem u).mpr hu)
        refine ⟨.ref dk, rfl, .ref n, rfl, .ref ta, rfl, dk, g, n, ta, ys, T, m, R, rfl, D6, hNT6.net, hG, hta6, apta, hT6, hTne, hTl, fun l hl => (hmem l).mp hl, fun qa qes qs H7 mo7 D7 nqa hqa hqs hqok => ?_⟩
        have hNT7 := hNT6.tk (D6.tk mo7)
        have hev7 := mo7 _ _ apev hev6
        have hEs7 := all2_tk st_Ev (D6.tk mo7) hEs6
        have hok : ∀ q ∈ qs, AllOk T R.length (cf c) Ms := fun _ _ => hOk
      case' refine_2 =>
        refine ⟨Nat.zero_le _, fun qa nqa => ?_⟩
        have x7 := Evl.Ex.new (o := .lst []) nqa
        have D7 := D6.ex x7
        have hNT7 := hNT6.tk (tk_ex x7)
        have hev7 := x7 _ _ hev6
        have hEs7 := all2_tk st_Ev (tk_ex x7) hEs6
        have hqa := upd_same (H := H6) (a := qa) (o := .lst [])
        have hqs : All2 (QR2 (upd H6 qa (.lst []))) [] [] := .nil
        have hqok : ∀ q ∈ ([] : List Qn), QOk R q ∧ QT R q := fun q hq => by cases hq
        have hok : ∀ q ∈ ([] : List Qn), AllOk T R.length (cf c) Ms := fun q hq => by cases hq
        generalize upd H6 qa (.lst []) = H7 at D7 hNT7 hev7 hEs7 hqa hqs
        obtain ⟨qs, eqs⟩ : ∃ qs : List Qn, qs = [] := ⟨_, rfl⟩
        obtain ⟨qes, eqes⟩ : ∃ qes : List V, qes = [] := ⟨_, rfl⟩
        rw [← eqes] at hqa
        rw [← eqs, ← eqes] at hqs
        rw [← eqs] at hqok hok
      all_goals
        refine ⟨qa, qes, rfl, sq_of hqa, ?_⟩
        refine for_it (walk_enum (xs := qes)) (fun j σ H' => ∃ y8 y9, σ = [some (.ref a), some (.ref dk), some (.int (i : Nat)), some (.ref n), some (.ref t), some (.ref ta), some (.ref ev), some (.str (dNT m R c).shown), y8, y9] ∧ Ex H7 H') ⟨_, _, rfl, Evl.Ex.refl _⟩ (fun j σ H' _ pv => ?_) (fun j x σ H' H8 hj pv y => ?_) fun σ H8 pv => ?_
        · obtain ⟨_, _, _, ex⟩ := pv
          exact sq_of (ex _ _ hqa)
        · obtain ⟨y8, y9, rfl, ex⟩ := pv
          obtain ⟨T1, v1, v2, rfl, nT1, rfl, f1, f2⟩ := y
          cases f1
          obtain ⟨qq, eq, u, rfl, hu⟩ := hqs.get' f2
          have hqm := List.mem_of_getElem? eq
          obtain ⟨ok1, ok2⟩ := hqok qq hqm
          have xT := Evl.Ex.new (o := .tup [.int (j : Nat), .ref u]) nT1
          have e8 := ex.trans xT
          refine ⟨T1, _, rfl, st_of upd_same, rfl, _, _, rfl, _, _, rfl, rfl, ?_⟩
          refine ⟨.ref n, rfl, .ref t, rfl, .ref u, rfl, .ref ev, rfl, _, rfl, rfl, _, rfl, itB (fun _ => ?_) (fun _ => ?_)⟩
          · refine ⟨_, rfl, rfl, n, t, u, ev, _, m, R, c, qq, es, Ms, T, rfl, hNT7.tk (tk_ex e8), hG, htot, hu.tk (tk_ex e8), ok1, ok2, e8 _ _ hev7, all2_tk st_Ev (tk_ex e8) hEs7, nd, hmem, hok qq hqm, fun H9 e9 => ⟨true, rfl, itF ?_⟩⟩
            exact ⟨_, _, rfl, e8.trans e9⟩
          · refine ⟨n, t, u, ev, _, m, R, c, qq, es, Ms, T, rfl, hNT7.tk (tk_ex e8), hG, htot, hu.tk (tk_ex e8), ok1, ok2, e8 _ _ hev7, all2_tk st_Ev (tk_ex e8) hEs7, nd, hmem, hok qq hqm, fun H9 e9 => ⟨true, rfl, itF ?_⟩⟩
            exact ⟨_, _, rfl, e8.trans e9⟩
        · obtain ⟨y8, y9, rfl, ex⟩ := pv
          have hNT8 := hNT7.tk (tk_ex ex)
          refine ⟨.ref n, rfl, .ref t, rfl, by show 2 ≤ sizeLine; decide, fun z9 nz9 => ?_⟩
          have x9 := Evl.Ex.new (o := .lst [.ref n, .ref t]) nz9
          refine ⟨z9, _, rfl, dp_nt (hNT8.tk (tk_ex x9)) upd_same, rp.sh, rp.hd, by have := rp.dp; omega, rpf, _, rfl, rfl, _, rfl, itB (fun hb => absurd hb (by simp)) (fun _ => ?_)⟩
          exact ⟨_, _, _, _, _, _, _, _, rfl, D7.ex (ex.trans x9)⟩
    · obtain ⟨y2, y3, y4, y5, y6, y7, y8, y9, rfl, _⟩ := pv
      exact q _
end K56


/-! all defs together -/
namespace K56
open PySem PySem.Spec PyProof.Rows L2 K56R
/-- a def as it stands -/
def DF (K : PySem.W.Frag) (mg : Str → Option Value) (x : Str) (st : Stmt) (ps : List Str) : Prop := ∃ (f : Addr) (fd : FuncData), mg x = some (.ref f) ∧ L2.Fun K x x st f fd ∧ Binds K fd ps []
theorem df {K : PySem.W.Frag} {mg : Str → Option Value} {h : Heap} {x : Str} {st : Stmt} {ps : List Str} {f : Addr} {od an : Option Addr} {sl : Array (Option Value)} {oc kV dc pm cd ct : Value} (X : K.In h) (G : h.Ns mainGlobals mg)
    (a : PySem.W.nsIn K mainGlobals x = some (some (.ref f))) (l : K.lookup f = some ⟨oc, od, .func (PySem.W.fnOf x x (defArgs st) (defBody st) (defScope st) .none kV dc pm an cd ct), sl⟩) (c : PySem.W.codeIn K cd x = true) (k : PySem.W.keepIn K (.ref f) = true)
    (hb : ∀ (kV doc pm : Value) (an : Option Addr) (cdv ct : Value) (us : List Value), us.length = ps.length → bindArgs (PySem.W.fnOf x x (defArgs st) (defBody st) (defScope st) .none kV doc pm an cdv ct) ⟨us, []⟩ = pure (ps.zip us)) : DF K mg x st ps :=
  ⟨f, _, PySem.W.mg_of X G a, fun_mk l c k, (fun_mk l c k).binds hb⟩
theorem DF.cal {P : Program} {w : World} {K : PySem.W.Frag} {mg : Str → Option Value} {base : Heap} {x : Str} {st : Stmt} {ps : List Str} {k : Nat} {sp : Sp} (d : DF K mg x st ps) (F : ∀ (f : Addr) (fd : FuncData), L2.Fun K x x st f fd → FnOk P w K mg base CX0 k f fd ps sp) : C8.Cal P w K mg base k x sp [] := by
  obtain ⟨f, fd, hm, hF, hb⟩ := d
  exact ⟨f, fd, ps, [], F f fd hF, hm, hF.kp, hb, .nil⟩
theorem DF.calG {P : Program} {w : World} {K : PySem.W.Frag} {mg : Str → Option Value} {base : Heap} {x : Str} {st : Stmt} {ps : List Str} {k : Nat} {sp : Sp} (d : DF K mg x st ps) (F : ∀ (f : Addr) (fd : FuncData), L2.Fun K x x st f fd → FnG P w K mg base k f fd ps sp) : CalG P w K mg base k x sp := by
  obtain ⟨f, fd, hm, hF, hb⟩ := d
  exact ⟨f, fd, ps, F f fd hF, hm, hF.kp, hb⟩
/-- by keywords alone -/
def gk_least : List Value → List Value → List Value
  | [], [q, n, t] => [n, t, q]
  | _, _ => []
def gk_most : List Value → List Value → List Value
  | [], [t, q, n] => [n, t, q]
  | _, _ => []
theorem kb_least {K : PySem.W.Frag} {f : Addr} {fd : FuncData} (F : L2.Fun K "least" "least" s_least f fd) : KBinds K fd ["net", "tally", "question"] ["question", "net", "tally"] gk_least kw_least := by
  obtain ⟨oc, od, kV, doc, pm, an, cdv, ct, osl, rfl, lk, hcd⟩ := F.ex
  refine ⟨fun s us ws _ hl => ?_, fun {vs us zs ws} r1 r2 => ?_⟩
  · match us, ws, hl with
    | [], [q, n, t], _ => exact .of_eq rfl
  · match vs, us, r1 with
    | [], [], _ =>
      match zs, ws, r2 with
      | [_, _, _], [_, _, _], .cons a (.cons b (.cons c .nil)) => exact .cons b (.cons c (.cons a .nil))
      | [], [], _ => exact .nil
      | [_], [_], _ => exact .nil
      | [_, _], [_, _], _ => exact .nil
      | _ :: _ :: _ :: _ :: _, _ :: _ :: _ :: _ :: _, _ => exact .nil
    | _ :: _, _ :: _, _ => exact .nil
theorem kb_most {K : PySem.W.Frag} {f : Addr} {fd : FuncData} (F : L2.Fun K "most" "most" s_most f fd) : KBinds K fd ["net", "tally", "question"] ["tally", "question", "net"] gk_most kw_most := by
  obtain ⟨oc, od, kV, doc, pm, an, cdv, ct, osl, rfl, lk, hcd⟩ := F.ex
  refine ⟨fun s us ws _ hl => ?_, fun {vs us zs ws} r1 r2 => ?_⟩
  · match us, ws, hl with
    | [], [t, q, n], _ => exact .of_eq rfl
  · match vs, us, r1 with
    | [], [], _ =>
      match zs, ws, r2 with
      | [_, _, _], [_, _, _], .cons a (.cons b (.cons c .nil)) => exact .cons c (.cons a (.cons b .nil))
      | [], [], _ => exact .nil
      | [_], [_], _ => exact .nil
      | [_, _], [_, _], _ => exact .nil
      | _ :: _ :: _ :: _ :: _, _ :: _ :: _ :: _ :: _, _ => exact .nil
    | _ :: _, _ :: _, _ => exact .nil
theorem DF.calK {P : Program} {w : World} {K : PySem.W.Frag} {mg : Str → Option Value} {base : Heap} {x : Str} {st : Stmt} {ps ks : List Str} {k : Nat} {sp : Sp} {g : List Value → List Value → List Value} {gV : List V → List V → List V} (d : DF K mg x st ps)
    (hk : ∀ (f : Addr) (fd : FuncData), L2.Fun K x x st f fd → KBinds K fd ps ks g gV) (F : ∀ (f : Addr) (fd : FuncData), L2.Fun K x x st f fd → FnOk P w K mg base CX0 k f fd ps sp) : CalK P w K mg base k x sp ks gV := by
  obtain ⟨f, fd, hm, hF, hb⟩ := d
  exact ⟨f, fd, ps, g, F f fd hF, hm, hF.kp, hk f fd hF⟩
theorem bn_mk {K : PySem.W.Frag} {mg : Str → Option Value} {h : Heap} {tb te : Tok} (X : K.In h) (G : h.Ns mainGlobals mg) (zlen : PySem.W.nsIn K mainGlobals "len" = some none) (zrange : PySem.W.nsIn K mainGlobals "range" = some none) (zenumerate : PySem.W.nsIn K mainGlobals "enumerate" = some none) (ztuple : PySem.W.nsIn K mainGlobals "tuple" = some none) (zlist : PySem.W.nsIn K mainGlobals "list" = some none) (zset : PySem.W.nsIn K mainGlobals "set" = some none) (zsorted : PySem.W.nsIn K mainGlobals "sorted" = some none) (zsum : PySem.W.nsIn K mainGlobals "sum" = some none) (zmin : PySem.W.nsIn K mainGlobals "min" = some none) (zmax : PySem.W.nsIn K mainGlobals "max" = some none) (zint : PySem.W.nsIn K mainGlobals "int" = some none) (zabs : PySem.W.nsIn K mainGlobals "abs" = some none) (zrepr : PySem.W.nsIn K mainGlobals "repr" = some none) (zzip : PySem.W.nsIn K mainGlobals "zip" = some none)
    (zb : PySem.W.nsIn K mainGlobals "BEGIN" = some (some (.int (-1) tb))) (ze : PySem.W.nsIn K mainGlobals "END" = some (some (.int (-2) te))) : Bn mg :=
  ⟨PySem.W.mg_none_of X G zlen, PySem.W.mg_none_of X G zrange, PySem.W.mg_none_of X G zenumerate, PySem.W.mg_none_of X G ztuple, PySem.W.mg_none_of X G zlist, PySem.W.mg_none_of X G zset, PySem.W.mg_none_of X G zsorted, PySem.W.mg_none_of X G zsum, PySem.W.mg_none_of X G zmin, PySem.W.mg_none_of X G zmax, PySem.W.mg_none_of X G zint, PySem.W.mg_none_of X G zabs, PySem.W.mg_none_of X G zrepr, PySem.W.mg_none_of X G zzip, ⟨_, PySem.W.mg_of X G zb⟩, ⟨_, PySem.W.mg_of X G ze⟩⟩
theorem all_mk {P : Program} {w : World} {K : PySem.W.Frag} {h : Heap} {mg : Str → Option Value} {fa f : Addr} {od an : Option Addr} {sl : Array (Option Value)} {oc kV dc pm cd ct : Value} (X : K.In h) (G : h.Ns mainGlobals mg) (hfa : mg "law" = some (.ref fa)) (B : Bn mg)
    (d_roads_from : DF K mg "roads_from" s_roads_from ["net", "place"])
    (d_places_from : DF K mg "places_from" s_places_from ["net", "place"])
    (d_led_ways : DF K mg "led_ways" s_led_ways ["arcs"])
    (d_has_room : DF K mg "has_room" s_has_room ["room", "flow", "arc", "is_forth"])
    (d_steps_back : DF K mg "steps_back" s_steps_back ["came", "end"])
    (d_least_left : DF K mg "least_left" s_least_left ["room", "flow", "steps"])
    (d_arcs_for : DF K mg "arcs_for" s_arcs_for ["net", "feet", "heads", "ends"])
    (d_most_along : DF K mg "most_along" s_most_along ["net", "tally", "stretch"])
    (d_shut_room : DF K mg "shut_room" s_shut_room ["tally", "roads"])
    (d_law_deck : DF K mg "_law_deck" s_law_deck ["_law_script"])
    (d_law_draw : DF K mg "_law_draw" s_law_draw ["_law_deck_here", "_law_many_here"])
    (d_law_home : DF K mg "_law_home" s_law_home ["_law_net_here"])
    (d_law_tally : DF K mg "_law_tally" s_law_tally ["_law_net_here", "_law_people_here"])
    (d_law_trips : DF K mg "_law_trips" s_law_trips ["_law_net_here"])
    (d_law_all : DF K mg "_law_all" s_law_all ["_law_tally_here", "_law_trips_here"])
    (d_law_is_taken : DF K mg "_law_is_taken" s_law_is_taken ["_law_question_here", "_law_trip"])
    (d_leads : DF K mg "leads" s_leads ["net", "one", "other"])
    (d_reached : DF K mg "reached" s_reached ["ways", "room", "flow", "begin", "end"])
    (d_going : DF K mg "going" s_going ["net", "counts", "place"])
    (d_leaving_roads : DF K mg "leaving_roads" s_leaving_roads ["net", "stretch"])
    (d_law_pick : DF K mg "_law_pick" s_law_pick ["_law_deck_here", "_law_items"])
    (d_law_mixed : DF K mg "_law_mixed" s_law_mixed ["_law_deck_here", "_law_items"])
    (d_law_many : DF K mg "_law_many" s_law_many ["_law_question_here", "_law_people_here"])
    (d_pushed : DF K mg "pushed" s_pushed ["arcs", "room", "begin", "end"])
    (d_endless_way : DF K mg "endless_way" s_endless_way ["net", "room", "feet", "heads", "ends"])
    (d_total : DF K mg "total" s_total ["net", "tally"])
    (d_excess : DF K mg "excess" s_excess ["net", "tally", "stretch"])
    (d_in_order : DF K mg "in_order" s_in_order ["net", "question"])
    (d_law_net : DF K mg "_law_net" s_law_net ["_law_deck_here", "_law_many_here", "_law_more"])
    (d_law_walk : DF K mg "_law_walk" s_law_walk ["_law_deck_here", "_law_net_here", "_law_home_here"])
    (d_law_stretch : DF K mg "_law_stretch" s_law_stretch ["_law_deck_here", "_law_net_here"])
    (d_law_doors : DF K mg "_law_doors" s_law_doors ["_law_deck_here", "_law_net_here"])
    (d_law_meeting : DF K mg "_law_meeting" s_law_meeting ["_law_deck_here"])
    (d_greatest_flow : DF K mg "greatest_flow" s_greatest_flow ["net", "room", "feet", "heads", "ends"])
    (d_least_along : DF K mg "least_along" s_least_along ["net", "tally", "stretch"])
    (d_law_people : DF K mg "_law_people" s_law_people ["_law_deck_here", "_law_net_here", "_law_many_here", "_law_greatest"])
    (d_law_question : DF K mg "_law_question" s_law_question ["_law_deck_here", "_law_net_here", "_law_sort"])
    (d_flow_of_least : DF K mg "flow_of_least" s_flow_of_least ["net", "tally", "question"])
    (d_flow_of_most : DF K mg "flow_of_most" s_flow_of_most ["net", "tally", "question"])
    (d_law_drawn : DF K mg "_law_drawn" s_law_drawn ["_law_deck_here", "_law_turn"])
    (d_law_asked : DF K mg "_law_asked" s_law_asked ["_law_deck_here", "_law_net_here", "_law_trips_here"])
    (d_least : DF K mg "least" s_least ["net", "tally", "question"])
    (d_most : DF K mg "most" s_most ["net", "tally", "question"])
    (d_law_is_told : DF K mg "_law_is_told" s_law_is_told ["_law_net_here", "_law_tally_here", "_law_question_here", "_law_every", "_law_is_named"])
    (a : PySem.W.nsIn K mainGlobals "law" = some (some (.ref f))) (l : K.lookup f = some ⟨oc, od, .func (PySem.W.fnOf "law" "law" (defArgs s_law) (defBody s_law) (defScope s_law) .none kV dc pm an cd ct), sl⟩) (c : PySem.W.codeIn K cd "law" = true) (k : PySem.W.keepIn K (.ref f) = true) :
    ∃ fd : FuncData, (∀ (s : Shared) (v : Value), BindsTo s fd ⟨[v], []⟩ [("_law_script", v)]) ∧ ∀ base : Heap, K.In base → base.Ns mainGlobals mg → FnG P w K mg base 8 fa fd ["_law_script"] (sp_law K) := by
  have e := hfa.symm.trans (PySem.W.mg_of X G a)
  cases e
  refine ⟨PySem.W.fnOf "law" "law" (defArgs s_law) (defBody s_law) (defScope s_law) .none kV dc pm an cd ct, fun s v => .of_eq rfl, fun base _ _ => ?_⟩
  have C_roads_from : C8.Cal P w K mg base 1 "roads_from" (sp_roads_from K) [] := d_roads_from.cal fun f fd F => ok_roads_from F B 
  have C_places_from : C8.Cal P w K mg base 1 "places_from" (sp_places_from K) [] := d_places_from.cal fun f fd F => ok_places_from F B 
  have C_led_ways : C8.Cal P w K mg base 1 "led_ways" (sp_led_ways K) [] := d_led_ways.cal fun f fd F => ok_led_ways F B 
  have C_has_room : C8.Cal P w K mg base 1 "has_room" (sp_has_room K) [] := d_has_room.cal fun f fd F => ok_has_room F B 
  have C_steps_back : C8.Cal P w K mg base 1 "steps_back" (sp_steps_back K) [] := d_steps_back.cal fun f fd F => ok_steps_back F B 
  have C_least_left : C8.Cal P w K mg base 1 "least_left" (sp_least_left K) [] := d_least_left.cal fun f fd F => ok_least_left F B 
  have C_arcs_for : C8.Cal P w K mg base 1 "arcs_for" (sp_arcs_for K) [] := d_arcs_for.cal fun f fd F => ok_arcs_for F B 
  have C_most_along : C8.Cal P w K mg base 1 "most_along" (sp_most_along K) [] := d_most_along.cal fun f fd F => ok_most_along F B 
  have C_shut_room : C8.Cal P w K mg base 1 "shut_room" (sp_shut_room K) [] := d_shut_room.cal fun f fd F => ok_shut_room F B 
  have C_law_deck : C8.Cal P w K mg base 1 "_law_deck" (sp_law_deck K) [] := d_law_deck.cal fun f fd F => ok_law_deck F B 
  have C_law_draw : C8.Cal P w K mg base 1 "_law_draw" (sp_law_draw K) [] := d_law_draw.cal fun f fd F => ok_law_draw F B 
  have C_law_home : C8.Cal P w K mg base 1 "_law_home" (sp_law_home K) [] := d_law_home.cal fun f fd F => ok_law_home F B 
  have C_law_tally : C8.Cal P w K mg base 1 "_law_tally" (sp_law_tally K) [] := d_law_tally.cal fun f fd F => ok_law_tally F B 
  have C_law_trips : C8.Cal P w K mg base 1 "_law_trips" (sp_law_trips K) [] := d_law_trips.cal fun f fd F => ok_law_trips F B 
  have C_law_all : C8.Cal P w K mg base 1 "_law_all" (sp_law_all K) [] := d_law_all.cal fun f fd F => ok_law_all F B 
  have C_law_is_taken : C8.Cal P w K mg base 1 "_law_is_taken" (sp_law_is_taken K) [] := d_law_is_taken.cal fun f fd F => ok_law_is_taken F B 
  have C_leads : C8.Cal P w K mg base 2 "leads" (sp_leads K) [] := d_leads.cal fun f fd F => ok_leads F B C_places_from
  have C_reached : C8.Cal P w K mg base 2 "reached" (sp_reached K) [] := d_reached.cal fun f fd F => ok_reached F B C_has_room
  have C_going : C8.Cal P w K mg base 2 "going" (sp_going K) [] := d_going.cal fun f fd F => ok_going F B C_roads_from
  have C_leaving_roads : C8.Cal P w K mg base 2 "leaving_roads" (sp_leaving_roads K) [] := d_leaving_roads.cal fun f fd F => ok_leaving_roads F B C_roads_from
  have C_law_pick : C8.Cal P w K mg base 2 "_law_pick" (sp_law_pick K) [] := d_law_pick.cal fun f fd F => ok_law_pick F B C_law_draw
  have C_law_mixed : C8.Cal P w K mg base 2 "_law_mixed" (sp_law_mixed K) [] := d_law_mixed.cal fun f fd F => ok_law_mixed F B C_law_draw
  have C_law_many : C8.Cal P w K mg base 2 "_law_many" (sp_law_many K) [] := d_law_many.cal fun f fd F => ok_law_many F B C_law_is_taken
  have C_pushed : C8.Cal P w K mg base 3 "pushed" (sp_pushed K) [] := d_pushed.cal fun f fd F => ok_pushed F B C_reached C_led_ways C_steps_back C_least_left
  have C_endless_way : C8.Cal P w K mg base 3 "endless_way" (sp_endless_way K) [] := d_endless_way.cal fun f fd F => ok_endless_way F B C_arcs_for C_reached C_led_ways C_steps_back
  have C_total : C8.Cal P w K mg base 3 "total" (sp_total K) [] := d_total.cal fun f fd F => ok_total F B C_going
  have C_excess : C8.Cal P w K mg base 3 "excess" (sp_excess K) [] := d_excess.cal fun f fd F => ok_excess F B C_leaving_roads
  have C_in_order : C8.Cal P w K mg base 3 "in_order" (sp_in_order K) [] := d_in_order.cal fun f fd F => ok_in_order F B C_leads
  have C_law_net : C8.Cal P w K mg base 3 "_law_net" (sp_law_net K) [] := d_law_net.cal fun f fd F => ok_law_net F B C_law_draw C_law_mixed C_law_pick
  have C_law_walk : C8.Cal P w K mg base 3 "_law_walk" (sp_law_walk K) [] := d_law_walk.cal fun f fd F => ok_law_walk F B C_law_pick
  have C_law_stretch : C8.Cal P w K mg base 3 "_law_stretch" (sp_law_stretch K) [] := d_law_stretch.cal fun f fd F => ok_law_stretch F B C_law_draw C_law_pick
  have C_law_doors : C8.Cal P w K mg base 3 "_law_doors" (sp_law_doors K) [] := d_law_doors.cal fun f fd F => ok_law_doors F B C_law_mixed C_law_draw C_law_pick
  have C_law_meeting : C8.Cal P w K mg base 3 "_law_meeting" (sp_law_meeting K) [] := d_law_meeting.cal fun f fd F => ok_law_meeting F B C_law_pick C_law_draw C_law_mixed
  have C_greatest_flow : C8.Cal P w K mg base 4 "greatest_flow" (sp_greatest_flow K) [] := d_greatest_flow.cal fun f fd F => ok_greatest_flow F B C_endless_way C_pushed C_arcs_for
  have C_least_along : C8.Cal P w K mg base 4 "least_along" (sp_least_along K) [] := d_least_along.cal fun f fd F => ok_least_along F B C_excess
  have C_law_people : C8.Cal P w K mg base 4 "_law_people" (sp_law_people K) [] := d_law_people.cal fun f fd F => ok_law_people F B C_law_home C_law_walk C_law_draw
  have C_law_question : C8.Cal P w K mg base 4 "_law_question" (sp_law_question K) [] := d_law_question.cal fun f fd F => ok_law_question F B C_law_pick C_law_doors C_law_mixed C_law_stretch C_law_draw
  have C_flow_of_least : C8.Cal P w K mg base 5 "flow_of_least" (sp_flow_of_least K) [] := d_flow_of_least.cal fun f fd F => ok_flow_of_least F B C_greatest_flow C_in_order C_shut_room
  have C_flow_of_most : C8.Cal P w K mg base 5 "flow_of_most" (sp_flow_of_most K) [] := d_flow_of_most.cal fun f fd F => ok_flow_of_most F B C_greatest_flow C_in_order
  have C_law_drawn : C8.Cal P w K mg base 5 "_law_drawn" (sp_law_drawn K) [] := d_law_drawn.cal fun f fd F => ok_law_drawn F B C_law_people C_law_meeting C_law_net C_law_pick C_law_tally C_law_draw
  have C_law_asked : C8.Cal P w K mg base 5 "_law_asked" (sp_law_asked K) [] := d_law_asked.cal fun f fd F => ok_law_asked F B C_law_pick C_law_draw C_law_question
  have C_least : C8.Cal P w K mg base 6 "least" (sp_least K) [] := d_least.cal fun f fd F => ok_least F B C_in_order C_least_along C_total C_flow_of_least
  have K_least : CalK P w K mg base 6 "least" (sp_least K) ["question", "net", "tally"] kw_least := d_least.calK (fun f fd F => kb_least F) fun f fd F => ok_least F B C_in_order C_least_along C_total C_flow_of_least
  have C_most : C8.Cal P w K mg base 6 "most" (sp_most K) [] := d_most.cal fun f fd F => ok_most F B C_most_along C_in_order C_flow_of_most
  have K_most : CalK P w K mg base 6 "most" (sp_most K) ["tally", "question", "net"] kw_most := d_most.calK (fun f fd F => kb_most F) fun f fd F => ok_most F B C_most_along C_in_order C_flow_of_most
  have C_law_is_told : CalG P w K mg base 7 "_law_is_told" (sp_law_is_told K) := d_law_is_told.calG fun f fd F => ok_law_is_told F B C_least C_most C_law_many K_least K_most
  exact ok_law (fun_mk (st := s_law) l c k) B C_law_deck C_law_drawn C_law_trips C_law_all C_law_asked C_law_is_told
theorem walk {l : PySem.W.OpenLaw} {q : Program} {loose : List Str} {XP : (Str → Option Value) → Heap → Prop} {YP : World → Heap → Prop} {d : DefRec} {K : Params → PySem.W.Frag} (hn : l.most = some 63) (hdf : d.params.defaults = [])
    (hY : ∀ (w : World) (h : Heap), YP w h → (K w.params).In h)
    (F : ∀ (w : World) (mg : Str → Option Value) (fa : Addr) (h : Heap), (K w.params).In h → h.Ns mainGlobals mg → mg d.name = some (.ref fa) →
      ∃ fd : FuncData, (∀ (s : Shared) (u : Value), BindsTo s fd ⟨[u], []⟩ [("_law_script", u)]) ∧ ∀ base : Heap, (K w.params).In base → base.Ns mainGlobals mg → FnG l.prog w (K w.params) mg base 8 fa fd ["_law_script"] (sp_law (K w.params))) :
    PySem.W.WalkO q loose XP YP l.row.toRowW d [] (fun f vs => PySem.call f vs) :=
  walkG (n := 63) (k := 8) (x := "_law_script") (sp := fun w => sp_law (K w.params)) hn (by decide) hdf ⟨rfl, by decide, by decide⟩ hY F fun _ _ a ns hl hS _ => ⟨a, ns, rfl, hS, hl, fun _ => rfl⟩
end K56

open PySem PySem.W PyProof.Rows in
set_option maxRecDepth 100000 in
set_option maxHeartbeats 0 in
theorem PySem.Challenge.cw_suretrips_k56_whole_main_all_numbers_of_holds : PySem.Challenge.rw_suretrips_k56_whole_main_all_numbers_of.Holds := by
  w_on; o_law; k_head; (case hw => w_witness2)
  k_fill
  refine K56.walk (l := PySem.Challenge.rw_suretrips_k56_whole_main_all_numbers_of) rfl rfl (fun w h Y => PySem.W.kIn_of Y) ?F
  case F =>
    intro w mg fa h KX G hmg
    refine' K56.all_mk KX G hmg (K56.bn_mk KX G ?zlen ?zrange ?zenumerate ?ztuple ?zlist ?zset ?zsorted ?zsum ?zmin ?zmax ?zint ?zabs ?zrepr ?zzip ?zb ?ze)
      (K56.df KX G ?a1 ?l1 ?c1 ?k1 fun _ _ _ _ _ _ us hl => match us, hl with | [_, _], _ => rfl)
      (K56.df KX G ?a2 ?l2 ?c2 ?k2 fun _ _ _ _ _ _ us hl => match us, hl with | [_, _], _ => rfl)
      (K56.df KX G ?a3 ?l3 ?c3 ?k3 fun _ _ _ _ _ _ us hl => match us, hl with | [_], _ => rfl)
      (K56.df KX G ?a4 ?l4 ?c4 ?k4 fun _ _ _ _ _ _ us hl => match us, hl with | [_, _, _, _], _ => rfl)
      (K56.df KX G ?a5 ?l5 ?c5 ?k5 fun _ _ _ _ _ _ us hl => match us, hl with | [_, _], _ => rfl)
      (K56.df KX G ?a6 ?l6 ?c6 ?k6 fun _ _ _ _ _ _ us hl => match us, hl with | [_, _, _], _ => rfl)
      (K56.df KX G ?a7 ?l7 ?c7 ?k7 fun _ _ _ _ _ _ us hl => match us, hl with | [_, _, _, _], _ => rfl)
      (K56.df KX G ?a8 ?l8 ?c8 ?k8 fun _ _ _ _ _ _ us hl => match us, hl with | [_, _, _], _ => rfl)
      (K56.df KX G ?a9 ?l9 ?c9 ?k9 fun _ _ _ _ _ _ us hl => match us, hl with | [_, _], _ => rfl)
      (K56.df KX G ?a10 ?l10 ?c10 ?k10 fun _ _ _ _ _ _ us hl => match us, hl with | [_], _ => rfl)
      (K56.df KX G ?a11 ?l11 ?c11 ?k11 fun _ _ _ _ _ _ us hl => match us, hl with | [_, _], _ => rfl)
      (K56.df KX G ?a12 ?l12 ?c12 ?k12 fun _ _ _ _ _ _ us hl => match us, hl with | [_], _ => rfl)
      (K56.df KX G ?a13 ?l13 ?c13 ?k13 fun _ _ _ _ _ _ us hl => match us, hl with | [_, _], _ => rfl)
      (K56.df KX G ?a14 ?l14 ?c14 ?k14 fun _ _ _ _ _ _ us hl => match us, hl with | [_], _ => rfl)
      (K56.df KX G ?a15 ?l15 ?c15 ?k15 fun _ _ _ _ _ _ us hl => match us, hl with | [_, _], _ => rfl)
      (K56.df KX G ?a16 ?l16 ?c16 ?k16 fun _ _ _ _ _ _ us hl => match us, hl with | [_, _], _ => rfl)
      (K56.df KX G ?a17 ?l17 ?c17 ?k17 fun _ _ _ _ _ _ us hl => match us, hl with | [_, _, _], _ => rfl)
      (K56.df KX G ?a18 ?l18 ?c18 ?k18 fun _ _ _ _ _ _ us hl => match us, hl with | [_, _, _, _, _], _ => rfl)
      (K56.df KX G ?a19 ?l19 ?c19 ?k19 fun _ _ _ _ _ _ us hl => match us, hl with | [_, _, _], _ => rfl)
      (K56.df KX G ?a20 ?l20 ?c20 ?k20 fun _ _ _ _ _ _ us hl => match us, hl with | [_, _], _ => rfl)
      (K56.df KX G ?a21 ?l21 ?c21 ?k21 fun _ _ _ _ _ _ us hl => match us, hl with | [_, _], _ => rfl)
      (K56.df KX G ?a22 ?l22 ?c22 ?k22 fun _ _ _ _ _ _ us hl => match us, hl with | [_, _], _ => rfl)
      (K56.df KX G ?a23 ?l23 ?c23 ?k23 fun _ _ _ _ _ _ us hl => match us, hl with | [_, _], _ => rfl)
      (K56.df KX G ?a24 ?l24 ?c24 ?k24 fun _ _ _ _ _ _ us hl => match us, hl with | [_, _, _, _], _ => rfl)
      (K56.df KX G ?a25 ?l25 ?c25 ?k25 fun _ _ _ _ _ _ us hl => match us, hl with | [_, _, _, _, _], _ => rfl)
      (K56.df KX G ?a26 ?l26 ?c26 ?k26 fun _ _ _ _ _ _ us hl => match us, hl with | [_, _], _ => rfl)
      (K56.df KX G ?a27 ?l27 ?c27 ?k27 fun _ _ _ _ _ _ us hl => match us, hl with | [_, _, _], _ => rfl)
      (K56.df KX G ?a28 ?l28 ?c28 ?k28 fun _ _ _ _ _ _ us hl => match us, hl with | [_, _], _ => rfl)
      (K56.df KX G ?a29 ?l29 ?c29 ?k29 fun _ _ _ _ _ _ us hl => match us, hl with | [_, _, _], _ => rfl)
      (K56.df KX G ?a30 ?l30 ?c30 ?k30 fun _ _ _ _ _ _ us hl => match us, hl with | [_, _, _], _ => rfl)
      (K56.df KX G ?a31 ?l31 ?c31 ?k31 fun _ _ _ _ _ _ us hl => match us, hl with | [_, _], _ => rfl)
      (K56.df KX G ?a32 ?l32 ?c32 ?k32 fun _ _ _ _ _ _ us hl => match us, hl with | [_, _], _ => rfl)
      (K56.df KX G ?a33 ?l33 ?c33 ?k33 fun _ _ _ _ _ _ us hl => match us, hl with | [_], _ => rfl)
      (K56.df KX G ?a34 ?l34 ?c34 ?k34 fun _ _ _ _ _ _ us hl => match us, hl with | [_, _, _, _, _], _ => rfl)
      (K56.df KX G ?a35 ?l35 ?c35 ?k35 fun _ _ _ _ _ _ us hl => match us, hl with | [_, _, _], _ => rfl)
      (K56.df KX G ?a36 ?l36 ?c36 ?k36 fun _ _ _ _ _ _ us hl => match us, hl with | [_, _, _, _], _ => rfl)
      (K56.df KX G ?a37 ?l37 ?c37 ?k37 fun _ _ _ _ _ _ us hl => match us, hl with | [_, _, _], _ => rfl)
      (K56.df KX G ?a38 ?l38 ?c38 ?k38 fun _ _ _ _ _ _ us hl => match us, hl with | [_, _, _], _ => rfl)
      (K56.df KX G ?a39 ?l39 ?c39 ?k39 fun _ _ _ _ _ _ us hl => match us, hl with | [_, _, _], _ => rfl)
      (K56.df KX G ?a40 ?l40 ?c40 ?k40 fun _ _ _ _ _ _ us hl => match us, hl with | [_, _], _ => rfl)
      (K56.df KX G ?a41 ?l41 ?c41 ?k41 fun _ _ _ _ _ _ us hl => match us, hl with | [_, _, _], _ => rfl)
      (K56.df KX G ?a42 ?l42 ?c42 ?k42 fun _ _ _ _ _ _ us hl => match us, hl with | [_, _, _], _ => rfl)
      (K56.df KX G ?a43 ?l43 ?c43 ?k43 fun _ _ _ _ _ _ us hl => match us, hl with | [_, _, _], _ => rfl)
      (K56.df KX G ?a44 ?l44 ?c44 ?k44 fun _ _ _ _ _ _ us hl => match us, hl with | [_, _, _, _, _], _ => rfl)
      ?a45 ?l45 ?c45 ?k45
    (case zlen => k_is)
    (case zrange => k_is)
    (case zenumerate => k_is)
    (case ztuple => k_is)
    (case zlist => k_is)
    (case zset => k_is)
    (case zsorted => k_is)
    (case zsum => k_is)
    (case zmin => k_is)
    (case zmax => k_is)
    (case zint => k_is)
    (case zabs => k_is)
    (case zrepr => k_is)
    (case zzip => k_is)
    (case zb => k_is)
    (case ze => k_is)
    (case a1 => k_is)
    (case l1 => k_is)
    (case c1 => k_is)
    (case k1 => k_is)
    (case a2 => k_is)
    (case l2 => k_is)
    (case c2 => k_is)
    (case k2 => k_is)
    (case a3 => k_is)
    (case l3 => k_is)
    (case c3 => k_is)
    (case k3 => k_is)
    (case a4 => k_is)
    (case l4 => k_is)
    (case c4 => k_is)
    (case k4 => k_is)
    (case a5 => k_is)
    (case l5 => k_is)
    (case c5 => k_is)
    (case k5 => k_is)
    (case a6 => k_is)
    (case l6 => k_is)
    (case c6 => k_is)
    (case k6 => k_is)
    (case a7 => k_is)
    (case l7 => k_is)
    (case c7 => k_is)
    (case k7 => k_is)
    (case a8 => k_is)
    (case l8 => k_is)
    (case c8 => k_is)
    (case k8 => k_is)
    (case a9 => k_is)
    (case l9 => k_is)
    (case c9 => k_is)
    (case k9 => k_is)
    (case a10 => k_is)
    (case l10 => k_is)
    (case c10 => k_is)
    (case k10 => k_is)
    (case a11 => k_is)
    (case l11 => k_is)
    (case c11 => k_is)
    (case k11 => k_is)
    (case a12 => k_is)
    (case l12 => k_is)
    (case c12 => k_is)
    (case k12 => k_is)
    (case a13 => k_is)
    (case l13 => k_is)
    (case c13 => k_is)
    (case k13 => k_is)
    (case a14 => k_is)
    (case l14 => k_is)
    (case c14 => k_is)
    (case k14 => k_is)
    (case a15 => k_is)
    (case l15 => k_is)
    (case c15 => k_is)
    (case k15 => k_is)
    (case a16 => k_is)
    (case l16 => k_is)
    (case c16 => k_is)
    (case k16 => k_is)
    (case a17 => k_is)
    (case l17 => k_is)
    (case c17 => k_is)
    (case k17 => k_is)
    (case a18 => k_is)
    (case l18 => k_is)
    (case c18 => k_is)
    (case k18 => k_is)
    (case a19 => k_is)
    (case l19 => k_is)
    (case c19 => k_is)
    (case k19 => k_is)
    (case a20 => k_is)
    (case l20 => k_is)
    (case c20 => k_is)
    (case k20 => k_is)
    (case a21 => k_is)
    (case l21 => k_is)
    (case c21 => k_is)
    (case k21 => k_is)
    (case a22 => k_is)
    (case l22 => k_is)
    (case c22 => k_is)
    (case k22 => k_is)
    (case a23 => k_is)
    (case l23 => k_is)
    (case c23 => k_is)
    (case k23 => k_is)
    (case a24 => k_is)
    (case l24 => k_is)
    (case c24 => k_is)
    (case k24 => k_is)
    (case a25 => k_is)
    (case l25 => k_is)
    (case c25 => k_is)
    (case k25 => k_is)
    (case a26 => k_is)
    (case l26 => k_is)
    (case c26 => k_is)
    (case k26 => k_is)
    (case a27 => k_is)
    (case l27 => k_is)
    (case c27 => k_is)
    (case k27 => k_is)
    (case a28 => k_is)
    (case l28 => k_is)
    (case c28 => k_is)
    (case k28 => k_is)
    (case a29 => k_is)
    (case l29 => k_is)
    (case c29 => k_is)
    (case k29 => k_is)
    (case a30 => k_is)
    (case l30 => k_is)
    (case c30 => k_is)
    (case k30 => k_is)
    (case a31 => k_is)
    (case l31 => k_is)
    (case c31 => k_is)
    (case k31 => k_is)
    (case a32 => k_is)
    (case l32 => k_is)
    (case c32 => k_is)
    (case k32 => k_is)
    (case a33 => k_is)
    (case l33 => k_is)
    (case c33 => k_is)
    (case k33 => k_is)
    (case a34 => k_is)
    (case l34 => k_is)
    (case c34 => k_is)
    (case k34 => k_is)
    (case a35 => k_is)
    (case l35 => k_is)
    (case c35 => k_is)
    (case k35 => k_is)
    (case a36 => k_is)
    (case l36 => k_is)
    (case c36 => k_is)
    (case k36 => k_is)
    (case a37 => k_is)
    (case l37 => k_is)
    (case c37 => k_is)
    (case k37 => k_is)
    (case a38 => k_is)
    (case l38 => k_is)
    (case c38 => k_is)
    (case k38 => k_is)
    (case a39 => k_is)
    (case l39 => k_is)
    (case c39 => k_is)
    (case k39 => k_is)
    (case a40 => k_is)
    (case l40 => k_is)
    (case c40 => k_is)
    (case k40 => k_is)
    (case a41 => k_is)
    (case l41 => k_is)
    (case c41 => k_is)
    (case k41 => k_is)
    (case a42 => k_is)
    (case l42 => k_is)
    (case c42 => k_is)
    (case k42 => k_is)
    (case a43 => k_is)
    (case l43 => k_is)
    (case c43 => k_is)
    (case k43 => k_is)
    (case a44 => k_is)
    (case l44 => k_is)
    (case c44 => k_is)
    (case k44 => k_is)
    (case a45 => k_is)
    (case l45 => k_is)
    (case c45 => k_is)
    (case k45 => k_is)

