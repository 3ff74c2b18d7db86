import PyProof.Rows.All
import Wide.All
import OpenK.AllK
import Wide.FinOn
import HandS.ForMost
import HandS.ForExc
import HandS.CallSlots
import HandS.IsInst
import HandS.TupAny
import HandS.Wide
import HandS.EndBits
import HandS.Walk
import HandS.RevRange
import PyProof.ReprRoads
import PySem.Challenge.RW_judgedplay_k56_parcels
set_option Elab.async false
set_option linter.all false
set_option maxRecDepth 100000
set_option maxHeartbeats 4000000
set_option autoImplicit false
/-! Mi: a clean state (slots, cells) over the hand layer, and what each reading does to it. -/
namespace Mi
open PySem PySem.Spec PyProof.Rows L2

/-- a clean value: ref n is the n-th cell; rol: a list that nobody changes -/
inductive AV where
  | non | bl (b : Bool) | int (i : Int) | str (x : Str) | tup (xs : List AV) | rol (xs : List AV) | ref (n : Nat)

inductive Cell where
  | lst (xs : List AV)

abbrev Sto := List Cell
abbrev Slots := List (Option AV)

structure Exn where
  cn : Str
  fs : List (Str × AV)

inductive R (α : Type) where
  | ok (a : α) (S : Sto) | ex (e : Exn) (S : Sto) | no

def R.bind {α β : Type} (r : R α) (k : α → Sto → R β) : R β := match r with
  | .ok a S => k a S
  | .ex e S => .ex e S
  | .no => .no

structure Kx where
  K : PySem.W.Frag
  cl : Str → Option Addr

/-- a list that stands still -/
def RoL (K : PySem.W.Frag) (H : Hp) (a : Addr) (xs : List V) : Prop :=
  (∃ o, H a = some (.frz o (.lst xs))) ∨
    ∃ (o : Obj) (its : Array Value) (n : Nat), K.lookup a = some o ∧ o.cls = .type "list" ∧ o.dict = none ∧ o.data = .seq its n ∧ its.size ≤ sizeLine ∧ Vals xs its.toList
theorem RoL.sq {K : PySem.W.Frag} {H : Hp} {a : Addr} {xs : List V} (h : RoL K H a xs) : SqL K H a xs := h.elim (fun ⟨o, e⟩ => .inl (.inr ⟨o, e⟩)) .inr

mutual
inductive Rv (Z : Kx) (μ : List Addr) (H : Hp) : V → AV → Prop
  | non : Rv Z μ H .non .non
  | bl (b : Bool) : Rv Z μ H (.bl b) (.bl b)
  | int (i : Int) : Rv Z μ H (.int i) (.int i)
  | str (x : Str) : Rv Z μ H (.str x) (.str x)
  | tup {a : Addr} {vs : List V} {xs : List AV} : SqT Z.K H a vs → Rvs Z μ H vs xs → Rv Z μ H (.ref a) (.tup xs)
  | rol {a : Addr} {vs : List V} {xs : List AV} : RoL Z.K H a vs → Rvs Z μ H vs xs → Rv Z μ H (.ref a) (.rol xs)
  | ref {n : Nat} {a : Addr} : μ[n]? = some a → Rv Z μ H (.ref a) (.ref n)
inductive Rvs (Z : Kx) (μ : List Addr) (H : Hp) : List V → List AV → Prop
  | nil : Rvs Z μ H [] []
  | cons {v : V} {x : AV} {vs : List V} {xs : List AV} : Rv Z μ H v x → Rvs Z μ H vs xs → Rvs Z μ H (v :: vs) (x :: xs)
end

section
variable {Z : Kx} {μ μ' : List Addr} {H H' : Hp}
mutual
theorem Rv.mono (hp : ∀ (n : Nat) (a : Addr), μ[n]? = some a → μ'[n]? = some a) (im : ∀ a xs, SqT Z.K H a xs → SqT Z.K H' a xs) (il : ∀ a xs, RoL Z.K H a xs → RoL Z.K H' a xs) :
    ∀ (x : AV) (v : V), Rv Z μ H v x → Rv Z μ' H' v x
  | .non, _, h => by cases h; exact .non
  | .bl b, _, h => by cases h; exact .bl b
  | .int i, _, h => by cases h; exact .int i
  | .str x, _, h => by cases h; exact .str x
  | .tup xs, _, h => by
    cases h with
    | tup h1 h2 => exact .tup (im _ _ h1) (Rvs.mono hp im il xs _ h2)
  | .rol xs, _, h => by
    cases h with
    | rol h1 h2 => exact .rol (il _ _ h1) (Rvs.mono hp im il xs _ h2)
  | .ref n, _, h => by
    cases h with
    | ref h1 => exact .ref (hp _ _ h1)
theorem Rvs.mono (hp : ∀ (n : Nat) (a : Addr), μ[n]? = some a → μ'[n]? = some a) (im : ∀ a xs, SqT Z.K H a xs → SqT Z.K H' a xs) (il : ∀ a xs, RoL Z.K H a xs → RoL Z.K H' a xs) :
    ∀ (xs : List AV) (vs : List V), Rvs Z μ H vs xs → Rvs Z μ' H' vs xs
  | [], _, h => by cases h; exact .nil
  | x :: xs, _, h => by
    cases h with
    | cons h1 h2 => exact .cons (Rv.mono hp im il x _ h1) (Rvs.mono hp im il xs _ h2)
end
theorem Rvs.len {vs : List V} {xs : List AV} (h : Rvs Z μ H vs xs) : vs.length = xs.length := by
  induction xs generalizing vs with
  | nil => cases h; rfl
  | cons x xs ih =>
    cases h with
    | cons _ h2 => simp [ih h2]
theorem Rvs.get {vs : List V} {xs : List AV} (h : Rvs Z μ H vs xs) {i : Nat} {x : AV} (e : xs[i]? = some x) : ∃ v, vs[i]? = some v ∧ Rv Z μ H v x := by
  induction xs generalizing vs i with
  | nil => simp at e
  | cons y ys ih =>
    cases h with
    | cons h1 h2 =>
      cases i with
      | zero =>
        simp at e
        subst e
        exact ⟨_, rfl, h1⟩
      | succ i => exact ih h2 (by simpa using e)
theorem Rvs.get' {vs : List V} {xs : List AV} (h : Rvs Z μ H vs xs) {i : Nat} {v : V} (e : vs[i]? = some v) : ∃ x, xs[i]? = some x ∧ Rv Z μ H v x := by
  have hl : i < xs.length := by
    rw [← h.len]
    exact (List.getElem?_eq_some_iff.mp e).1
  obtain ⟨w, h1, h2⟩ := h.get (List.getElem?_eq_getElem hl)
  rw [e] at h1
  cases h1
  exact ⟨_, List.getElem?_eq_getElem hl, h2⟩
theorem Rvs.append {vs ws : List V} {xs ys : List AV} (h : Rvs Z μ H vs xs) (g : Rvs Z μ H ws ys) : Rvs Z μ H (vs ++ ws) (xs ++ ys) := by
  induction xs generalizing vs with
  | nil => cases h; exact g
  | cons x xs ih =>
    cases h with
    | cons h1 h2 => exact .cons h1 (ih h2)
theorem Rvs.take {vs : List V} {xs : List AV} (h : Rvs Z μ H vs xs) (n : Nat) : Rvs Z μ H (vs.take n) (xs.take n) := by
  induction xs generalizing vs n with
  | nil => cases h; simp; exact .nil
  | cons x xs ih =>
    cases h with
    | cons h1 h2 =>
      cases n with
      | zero => exact .nil
      | succ n => exact .cons h1 (ih h2 n)
theorem Rvs.drop {vs : List V} {xs : List AV} (h : Rvs Z μ H vs xs) (n : Nat) : Rvs Z μ H (vs.drop n) (xs.drop n) := by
  induction xs generalizing vs n with
  | nil => cases h; simp; exact .nil
  | cons x xs ih =>
    cases h with
    | cons h1 h2 =>
      cases n with
      | zero => exact .cons h1 h2
      | succ n => exact ih h2 n
theorem Rvs.set {vs : List V} {xs : List AV} (h : Rvs Z μ H vs xs) (n : Nat) {v : V} {x : AV} (g : Rv Z μ H v x) : Rvs Z μ H (vs.set n v) (xs.set n x) := by
  induction xs generalizing vs n with
  | nil => cases h; exact .nil
  | cons y xs ih =>
    cases h with
    | cons h1 h2 =>
      cases n with
      | zero => exact .cons g h2
      | succ n => exact .cons h1 (ih h2 n)
theorem Rvs.of_ints (ns : List Int) : Rvs Z μ H (ns.map V.int) (ns.map AV.int) := by
  induction ns with
  | nil => exact .nil
  | cons n ns ih => exact .cons (.int n) ih
end

/-- what stood stands, but for the cells of μ; the cells keep their numbers -/
structure Grow (Z : Kx) (μ : List Addr) (H : Hp) (μ' : List Addr) (H' : Hp) : Prop where
  pre : ∀ (n : Nat) (a : Addr), μ[n]? = some a → μ'[n]? = some a
  fr : ∀ a o, a ∉ μ → H a = some o → H' a = some o
  new : ∀ a, a ∈ μ' → a ∉ μ → H a = none
  im : ∀ a xs, SqT Z.K H a xs → SqT Z.K H' a xs
  il : ∀ a xs, RoL Z.K H a xs → RoL Z.K H' a xs
section
variable {Z : Kx} {μ μ1 μ' : List Addr} {H H1 H' : Hp}
theorem Grow.refl : Grow Z μ H μ H := ⟨fun _ _ h => h, fun _ _ _ h => h, fun _ h k => absurd h k, fun _ _ h => h, fun _ _ h => h⟩
theorem Grow.trans (a : Grow Z μ H μ1 H1) (b : Grow Z μ1 H1 μ' H') : Grow Z μ H μ' H' := by
  refine ⟨fun n x h => b.pre n x (a.pre n x h), fun x o h e => ?_, fun x h k => ?_, fun x xs h => b.im x xs (a.im x xs h), fun x xs h => b.il x xs (a.il x xs h)⟩
  · refine b.fr x o (fun q => ?_) (a.fr x o h e)
    have := a.new x q h
    rw [this] at e
    cases e
  · by_cases q : x ∈ μ1
    · exact a.new x q k
    · have z := b.new x h q
      cases e : H x with
      | none => rfl
      | some o =>
        rw [a.fr x o k e] at z
        cases z
theorem Grow.rv (g : Grow Z μ H μ' H') {v : V} {x : AV} (h : Rv Z μ H v x) : Rv Z μ' H' v x := Rv.mono g.pre g.im g.il x v h
theorem Grow.rvs (g : Grow Z μ H μ' H') {v : List V} {x : List AV} (h : Rvs Z μ H v x) : Rvs Z μ' H' v x := Rvs.mono g.pre g.im g.il x v h
end

def CellR (Z : Kx) (μ : List Addr) (H : Hp) (a : Addr) : Cell → Prop
  | .lst xs => ∃ vs, H a = some (.lst vs) ∧ Rvs Z μ H vs xs

structure CellsOk (Z : Kx) (μ : List Addr) (S : Sto) (H : Hp) : Prop where
  nd : μ.Nodup
  len : μ.length = S.length
  at_ : ∀ (n : Nat) (c : Cell) (a : Addr), S[n]? = some c → μ[n]? = some a → CellR Z μ H a c

structure SlotsOk (Z : Kx) (μ : List Addr) (ρ : Slots) (σ : L2.St) (H : Hp) : Prop where
  len : σ.length = ρ.length
  at_ : ∀ (i : Nat) (x : AV), ρ[i]? = some (some x) → ∃ v, σ[i]? = some (some v) ∧ Rv Z μ H v x

section
variable {Z : Kx} {μ μ1 μ' : List Addr} {H H1 H' : Hp} {S S' : Sto} {ρ : Slots} {σ : L2.St}
theorem SlotsOk.grow (h : SlotsOk Z μ ρ σ H) (g : Grow Z μ H μ' H') : SlotsOk Z μ' ρ σ H' :=
  ⟨h.len, fun i x e => let ⟨v, h1, h2⟩ := h.at_ i x e; ⟨v, h1, g.rv h2⟩⟩
theorem SlotsOk.set (h : SlotsOk Z μ ρ σ H) {i : Nat} {v : V} {x : AV} (r : Rv Z μ H v x) : SlotsOk Z μ (ρ.set i (some x)) (σ.set i (some v)) H := by
  refine ⟨by simp [h.len], fun j y e => ?_⟩
  rw [List.getElem?_set] at e ⊢
  by_cases hij : i = j
  · subst hij
    rw [if_pos rfl] at e ⊢
    by_cases hi : i < ρ.length
    · rw [if_pos hi] at e
      rw [if_pos (by rw [h.len]; exact hi)]
      cases e
      exact ⟨v, rfl, r⟩
    · rw [if_neg hi] at e
      cases e
  · rw [if_neg hij] at e ⊢
    exact h.at_ j y e
theorem CellsOk.get (h : CellsOk Z μ S H) {n : Nat} {c : Cell} (e : S[n]? = some c) : ∃ a, μ[n]? = some a ∧ CellR Z μ H a c := by
  have hn : n < μ.length := by
    rw [h.len]
    exact (List.getElem?_eq_some_iff.mp e).1
  exact ⟨_, List.getElem?_eq_getElem hn, h.at_ n c _ e (List.getElem?_eq_getElem hn)⟩
theorem CellR.tracked {a : Addr} {c : Cell} (h : CellR Z μ H a c) : ∃ vs, H a = some (.lst vs) := by
  cases c with
  | lst xs =>
    obtain ⟨vs, h1, _⟩ := h
    exact ⟨vs, h1⟩
theorem CellsOk.tracked (h : CellsOk Z μ S H) {a : Addr} (m : a ∈ μ) : ∃ vs, H a = some (.lst vs) := by
  obtain ⟨n, hn, e⟩ := List.getElem_of_mem m
  have hs : n < S.length := by
    rw [← h.len]
    exact hn
  exact (h.at_ n S[n] a (List.getElem?_eq_getElem hs) (by rw [List.getElem?_eq_getElem hn, e])).tracked
theorem CellsOk.notin (h : CellsOk Z μ S H) {a : Addr} (e : H a = none) : a ∉ μ := fun m => by
  obtain ⟨vs, q⟩ := h.tracked m
  rw [e] at q
  cases q
/-- all that stood stands: the cells too -/
theorem CellsOk.same (h : CellsOk Z μ S H) (k : ∀ a o, H a = some o → H' a = some o) (im : ∀ a xs, SqT Z.K H a xs → SqT Z.K H' a xs) (il : ∀ a xs, RoL Z.K H a xs → RoL Z.K H' a xs) : CellsOk Z μ S H' := by
  refine ⟨h.nd, h.len, fun n c a e1 e2 => ?_⟩
  have q := h.at_ n c a e1 e2
  cases c with
  | lst xs =>
    obtain ⟨vs, h1, h2⟩ := q
    exact ⟨vs, k a _ h1, Rvs.mono (fun _ _ h => h) im il _ _ h2⟩
theorem sqT_keep {K : PySem.W.Frag} {a : Addr} {xs : List V} (k : ∀ o, H a = some o → H' a = some o) (h : SqT K H a xs) : SqT K H' a xs := by
  rcases h with (h | ⟨o, h⟩) | h
  · exact .inl (.inl (k _ h))
  · exact .inl (.inr ⟨o, k _ h⟩)
  · exact .inr h
theorem roL_keep {K : PySem.W.Frag} {a : Addr} {xs : List V} (k : ∀ o, H a = some o → H' a = some o) (h : RoL K H a xs) : RoL K H' a xs := by
  rcases h with ⟨o, h⟩ | h
  · exact .inl ⟨o, k _ h⟩
  · exact .inr h
theorem Grow.same (k : ∀ a o, H a = some o → H' a = some o) : Grow Z μ H μ H' :=
  ⟨fun _ _ h => h, fun a o _ h => k a o h, fun _ h n => absurd h n, fun a xs h => sqT_keep (k a) h, fun a xs h => roL_keep (k a) h⟩
theorem CellsOk.keep (h : CellsOk Z μ S H) (k : ∀ a o, H a = some o → H' a = some o) : CellsOk Z μ S H' :=
  h.same k (fun a xs h => sqT_keep (k a) h) (fun a xs h => roL_keep (k a) h)
theorem new_keep {p : Addr} {o : HO} (h : H p = none) : ∀ a u, H a = some u → upd H p o a = some u := fun a u e => by
  rw [upd_ne (ne_of_none e h)]
  exact e
theorem getElem?_append_some {α : Type} {l r : List α} {n : Nat} {a : α} (h : l[n]? = some a) : (l ++ r)[n]? = some a := by
  rw [List.getElem?_append_left (List.getElem?_eq_some_iff.mp h).1]
  exact h
/-- a new list becomes a cell -/
theorem CellsOk.push (h : CellsOk Z μ S H) {p : Addr} {vs : List V} {xs : List AV} (hp : H p = some (.lst vs)) (np : p ∉ μ) (r : Rvs Z μ H vs xs) : CellsOk Z (μ ++ [p]) (S ++ [.lst xs]) H := by
  have up : ∀ (n : Nat) (a : Addr), μ[n]? = some a → (μ ++ [p])[n]? = some a := fun n a e => getElem?_append_some e
  refine ⟨List.nodup_append.mpr ⟨h.nd, by simp, fun a ha b hb => ?_⟩, by simp [h.len], fun n c a e1 e2 => ?_⟩
  · simp at hb
    subst hb
    exact fun q => np (q ▸ ha)
  · by_cases hn : n < S.length
    · rw [List.getElem?_append_left hn] at e1
      rw [List.getElem?_append_left (by rw [h.len]; exact hn)] at e2
      have q := h.at_ n c a e1 e2
      cases c with
      | lst ys =>
        obtain ⟨ws, h1, h2⟩ := q
        exact ⟨ws, h1, Rvs.mono up (fun _ _ h => h) (fun _ _ h => h) _ _ h2⟩
    · rw [List.getElem?_append_right (by omega)] at e1
      rw [List.getElem?_append_right (by rw [h.len]; omega), h.len] at e2
      cases q : n - S.length with
      | zero =>
        rw [q] at e1 e2
        simp at e1 e2
        subst e1 e2
        exact ⟨vs, hp, Rvs.mono up (fun _ _ h => h) (fun _ _ h => h) _ _ r⟩
      | succ k =>
        rw [q] at e1
        simp at e1
theorem nodup_ix' {α : Type} {l : List α} {i j : Nat} {x : α} (hN : l.Nodup) (a : l[i]? = some x) (b : l[j]? = some x) : i = j := by
  obtain ⟨h1, e1⟩ := List.getElem?_eq_some_iff.mp a
  obtain ⟨h2, e2⟩ := List.getElem?_eq_some_iff.mp b
  exact (List.getElem_inj hN).mp (e1.trans e2.symm)
/-- a cell is changed -/
theorem CellsOk.put (h : CellsOk Z μ S H) {n : Nat} {p : Addr} {ws vs : List V} {xs : List AV} (hn : μ[n]? = some p) (h0 : H p = some (.lst ws)) (r : Rvs Z μ H vs xs) :
    CellsOk Z μ (S.set n (.lst xs)) (upd H p (.lst vs)) ∧ Grow Z μ H μ (upd H p (.lst vs)) := by
  have pm : p ∈ μ := List.mem_of_getElem? hn
  have im : ∀ a xs, SqT Z.K H a xs → SqT Z.K (upd H p (.lst vs)) a xs := fun a xs q => by
    rcases q with (q | ⟨o, q⟩) | q
    · refine .inl (.inl ?_)
      rw [upd_ne (ne_of q h0 (by intro z; cases z))]
      exact q
    · refine .inl (.inr ⟨o, ?_⟩)
      rw [upd_ne (ne_of q h0 (by intro z; cases z))]
      exact q
    · exact .inr q
  have il : ∀ a xs, RoL Z.K H a xs → RoL Z.K (upd H p (.lst vs)) a xs := fun a xs q => by
    rcases q with ⟨o, q⟩ | q
    · refine .inl ⟨o, ?_⟩
      rw [upd_ne (ne_of q h0 (by intro z; cases z))]
      exact q
    · exact .inr q
  refine ⟨⟨h.nd, by simp [h.len], fun m c a e1 e2 => ?_⟩, fun _ _ q => q, fun a o ha e => ?_, fun _ q k => absurd q k, im, il⟩
  · by_cases hm : n = m
    · subst hm
      rw [hn] at e2
      cases e2
      rw [List.getElem?_set, if_pos rfl] at e1
      by_cases hl : n < S.length
      · rw [if_pos hl] at e1
        cases e1
        exact ⟨vs, upd_same, Rvs.mono (fun _ _ h => h) im il _ _ r⟩
      · rw [if_neg hl] at e1
        cases e1
    · rw [List.getElem?_set, if_neg hm] at e1
      have q := h.at_ m c a e1 e2
      have hne : a ≠ p := fun z => by
        subst z
        exact hm (nodup_ix' h.nd hn e2)
      cases c with
      | lst ys =>
        obtain ⟨us, q1, q2⟩ := q
        refine ⟨us, ?_, Rvs.mono (fun _ _ h => h) im il _ _ q2⟩
        rw [upd_ne hne]
        exact q1
  · rw [upd_ne (show a ≠ p from fun z => ha (by rw [z]; exact pm))]
    exact e
end
end Mi
/-! Mi2: what an expression does to the clean state; operators. -/
namespace Mi
open PySem PySem.Spec PyProof.Rows L2

/-- how an error of the program's own lies -/
def ExR (Z : Kx) (μ : List Addr) (H : Hp) (e : Exn) (cls : Value) (d : Option Addr) : Prop :=
  ∃ C, Z.cl e.cn = some C ∧ cls = .ref C ∧ ((e.fs = [] ∧ d = none) ∨
    ∃ (a : Addr) (vs : List (Str × V)), d = some a ∧ H a = some (.xd vs) ∧ vs.map (·.1) = e.fs.map (·.1) ∧ Rvs Z μ H (vs.map (·.2)) (e.fs.map (·.2)))

abbrev Rel (β α : Type) := Hp → List Addr → Hp → β → α → Prop
/-- the heap at the beginning may be an earlier one -/
def Anti {β α : Type} (Z : Kx) (Rl : Rel β α) : Prop :=
  ∀ (μ : List Addr) (H : Hp) (μ1 : List Addr) (H1 : Hp) (S1 : Sto) (μ' : List Addr) (H' : Hp) (b : β) (a : α), Grow Z μ H μ1 H1 → CellsOk Z μ1 S1 H1 → Rl H1 μ' H' b a → Rl H μ' H' b a

/-- what is wanted of a result -/
def Post {β α : Type} (Z : Kx) (μ : List Addr) (H : Hp) (σ : L2.St) (W : WX) (Rl : Rel β α) (Q : β → Hp → Prop) : R α → Prop
  | .ok a S => ∀ (μ' : List Addr) (b : β) (H' : Hp), Grow Z μ H μ' H' → CellsOk Z μ' S H' → Rl H μ' H' b a → Q b H'
  | .ex e S => ∀ (μ' : List Addr) (H' : Hp) (cls : Value) (d : Option Addr), Grow Z μ H μ' H' → CellsOk Z μ' S H' → ExR Z μ' H' e cls d → W cls d σ H'
  | .no => False

abbrev RlV (Z : Kx) : Rel V AV := fun _ μ H v x => Rv Z μ H v x
abbrev RlA (Z : Kx) : Rel (List V) (List AV) := fun _ μ H v x => Rvs Z μ H v x
abbrev RlB : Rel Bool Bool := fun _ _ _ b c => b = c
abbrev RlO : Rel (Option Int) (Option Int) := fun _ _ _ b c => b = c
/-- a new list, not a cell -/
abbrev RlL (Z : Kx) : Rel V (List AV) := fun H0 μ H v xs => ∃ p vs, v = .ref p ∧ H0 p = none ∧ p ∉ μ ∧ H p = some (.lst vs) ∧ Rvs Z μ H vs xs

section
variable {Z : Kx}
theorem anti_V : Anti Z (RlV Z) := fun _ _ _ _ _ _ _ _ _ _ _ h => h
theorem anti_A : Anti Z (RlA Z) := fun _ _ _ _ _ _ _ _ _ _ _ h => h
theorem anti_B : Anti Z RlB := fun _ _ _ _ _ _ _ _ _ _ _ h => h
theorem anti_O : Anti Z RlO := fun _ _ _ _ _ _ _ _ _ _ _ h => h
theorem Grow.none {μ μ1 : List Addr} {H H1 : Hp} {S1 : Sto} (g : Grow Z μ H μ1 H1) (c : CellsOk Z μ1 S1 H1) {p : Addr} (h : H1 p = none) : H p = none := by
  cases e : H p with
  | none => rfl
  | some o =>
    by_cases m : p ∈ μ
    · obtain ⟨n, hn, q⟩ := List.getElem_of_mem m
      have m1 : p ∈ μ1 := List.mem_of_getElem? (g.pre n p (by rw [List.getElem?_eq_getElem hn, q]))
      obtain ⟨vs, z⟩ := c.tracked m1
      rw [h] at z
      cases z
    · rw [g.fr p o m e] at h
      cases h
theorem anti_L : Anti Z (RlL Z) := fun μ H μ1 H1 S1 μ' H' b a g c h => by
  obtain ⟨p, vs, h1, h2, h3, h4, h5⟩ := h
  exact ⟨p, vs, h1, g.none c h2, h3, h4, h5⟩
end

section
variable {β γ α δ : Type} {Z : Kx} {μ : List Addr} {H : Hp} {σ : L2.St} {W : WX} {Rl1 : Rel β α} {Rl2 : Rel γ δ}
theorem Post.shift (hA : Anti Z Rl2) {μ1 : List Addr} {H1 : Hp} {S1 : Sto} (g : Grow Z μ H μ1 H1) (c : CellsOk Z μ1 S1 H1) {Q : γ → Hp → Prop} {r : R δ} (h : Post Z μ H σ W Rl2 Q r) : Post Z μ1 H1 σ W Rl2 Q r := by
  cases r with
  | ok a S => exact fun μ' b H' g' c' rl => h μ' b H' (g.trans g') c' (hA _ _ _ _ _ _ _ _ _ g c rl)
  | ex e S => exact fun μ' H' cls d g' c' x => h μ' H' cls d (g.trans g') c' x
  | no => exact h
theorem Post.bind (hA : Anti Z Rl2) {r : R α} {k : α → Sto → R δ} {Q1 : β → Hp → Prop} {Q2 : γ → Hp → Prop} (h : Post Z μ H σ W Rl2 Q2 (r.bind k))
    (q : ∀ (μ1 : List Addr) (b : β) (H1 : Hp) (a : α) (S1 : Sto), r = .ok a S1 → Grow Z μ H μ1 H1 → CellsOk Z μ1 S1 H1 → Rl1 H μ1 H1 b a → Post Z μ1 H1 σ W Rl2 Q2 (k a S1) → Q1 b H1) : Post Z μ H σ W Rl1 Q1 r := by
  cases r with
  | ok a S => exact fun μ1 b H1 g c rl => q μ1 b H1 a S rfl g c rl (Post.shift hA g c h)
  | ex e S => exact h
  | no => exact h
end

/-- an expression's reading and what it does -/
def Ev {β α : Type} (Z : Kx) (W : WX) (Rl : Rel β α) (te : L2.St → Hp → (β → Hp → Prop) → Prop) (f : Slots → Sto → R α) : Prop :=
  ∀ (μ : List Addr) (ρ : Slots) (S : Sto) (σ : L2.St) (H : Hp) (Q : β → Hp → Prop), CellsOk Z μ S H → SlotsOk Z μ ρ σ H → Post Z μ H σ W Rl Q (f ρ S) → te σ H Q

abbrev ME := Slots → Sto → R AV
abbrev MA := Slots → Sto → R (List AV)
abbrev MB := Slots → Sto → R Bool

def PX (X : Cx) (cl : Str → Option Addr) (W : WX) (e : Expr) (f : ME) : Prop := ∃ te, PE X e te ∧ Ev ⟨X.K, cl⟩ W (RlV ⟨X.K, cl⟩) te f
def PLX (X : Cx) (cl : Str → Option Addr) (W : WX) (e : Expr) (f : MA) : Prop := ∃ te, PE X e te ∧ Ev ⟨X.K, cl⟩ W (RlL ⟨X.K, cl⟩) te f
def PAX (X : Cx) (cl : Str → Option Addr) (W : WX) (es : List Expr) (f : MA) : Prop := ∃ te, PA X es te ∧ Ev ⟨X.K, cl⟩ W (RlA ⟨X.K, cl⟩) te f
def PTX (X : Cx) (cl : Str → Option Addr) (W : WX) (e : Expr) (f : MB) : Prop := ∃ te, PT X e te ∧ Ev ⟨X.K, cl⟩ W RlB te f
def PWX (X : Cx) (cl : Str → Option Addr) (W : WX) (e : Expr) (f : MB) : Prop := ∃ te, PW X e te ∧ Ev ⟨X.K, cl⟩ W RlB te f
def POX (X : Cx) (cl : Str → Option Addr) (W : WX) (e : Option Expr) (f : Slots → Sto → R (Option Int)) : Prop := ∃ te, PO X e te ∧ Ev ⟨X.K, cl⟩ W RlO te f

/-! ### the words of the mirror -/
def R.of {α : Type} (o : Option α) (S : Sto) : R α := match o with
  | some a => .ok a S
  | none => .no
def mVar (i : Nat) : ME := fun ρ S => match ρ[i]? with
  | some (some v) => .ok v S
  | _ => .no
def mC (v : AV) : ME := fun _ S => .ok v S
def mOp (g : AV → AV → Option AV) (f1 f2 : ME) : ME := fun ρ S => (f1 ρ S).bind fun a S1 => (f2 ρ S1).bind fun b S2 => R.of (g a b) S2
def mUn (g : AV → Option AV) (f1 : ME) : ME := fun ρ S => (f1 ρ S).bind fun a S1 => R.of (g a) S1
def mNil : MA := fun _ S => .ok [] S
def mCons (f : ME) (g : MA) : MA := fun ρ S => (f ρ S).bind fun a S1 => (g ρ S1).bind fun as S2 => .ok (a :: as) S2
def mTup (g : MA) : ME := fun ρ S => (g ρ S).bind fun as S1 => if as.length ≤ 100000 then .ok (.tup as) S1 else .no
def lLst (g : MA) : MA := fun ρ S => (g ρ S).bind fun as S1 => if as.length ≤ 100000 then .ok as S1 else .no
/-- a new list becomes a cell -/
def mNew (g : MA) : ME := fun ρ S => (g ρ S).bind fun as S1 => .ok (.ref S1.length) (S1 ++ [.lst as])
def mToTup (g : MA) : ME := fun ρ S => (g ρ S).bind fun as S1 => .ok (.tup as) S1
def mIf (c : MB) (f g : ME) : ME := fun ρ S => (c ρ S).bind fun b S1 => if b then f ρ S1 else g ρ S1
def bAnd (c d : MB) : MB := fun ρ S => (c ρ S).bind fun b S1 => if b then d ρ S1 else .ok false S1
def bOr (c d : MB) : MB := fun ρ S => (c ρ S).bind fun b S1 => if b then .ok true S1 else d ρ S1
def bNot (c : MB) : MB := fun ρ S => (c ρ S).bind fun b S1 => .ok (!b) S1
/-- a value's truth -/
def aTru (S : Sto) : AV → Option Bool
  | .non => some false
  | .bl b => some b
  | .int i => some (i != 0)
  | .str y => if y.length ≤ 100000 then some ((y.length : Int) != 0) else none
  | .tup xs => some (!xs.isEmpty)
  | .rol xs => some (!xs.isEmpty)
  | .ref n => match S[n]? with
    | some (.lst xs) => some (!xs.isEmpty)
    | none => none
def bVal (f : ME) : MB := fun ρ S => (f ρ S).bind fun a S1 => R.of (aTru S1 a) S1
def isBl : AV → Option Bool
  | .bl b => some b
  | _ => none
/-- and, or of values: all but the last are truth values -/
def mAnd (f g : ME) : ME := fun ρ S => (f ρ S).bind fun a S1 => (R.of (isBl a) S1).bind fun b S2 => if b then g ρ S2 else .ok (.bl false) S2
def mOr (f g : ME) : ME := fun ρ S => (f ρ S).bind fun a S1 => (R.of (isBl a) S1).bind fun b S2 => if b then .ok (.bl true) S2 else g ρ S2
def mNot (f : ME) : ME := fun ρ S => (f ρ S).bind fun a S1 => (R.of (isBl a) S1).bind fun b S2 => .ok (.bl (!b)) S2
/-- a op1 b op2 c -/
def mChain (g h : AV → AV → Option AV) (f1 f2 f3 : ME) : ME := fun ρ S => (f1 ρ S).bind fun a S1 => (f2 ρ S1).bind fun b S2 => (R.of ((g a b).bind isBl) S2).bind fun k S3 =>
  if k then (f3 ρ S3).bind fun c S4 => R.of (h b c) S4 else .ok (.bl false) S3
def oNone : Slots → Sto → R (Option Int) := fun _ S => .ok none S
def isInt : AV → Option Int
  | .int i => some i
  | _ => none
def oSome (f : ME) : Slots → Sto → R (Option Int) := fun ρ S => (f ρ S).bind fun a S1 => R.of ((isInt a).map some) S1

section
variable {X : Cx} {cl : Str → Option Addr} {W : WX} {a b c : Expr} {es : List Expr} {f g h : ME} {pos : Pos}

/-! ### names, constants -/
theorem px_var (i : Nat) {x : Str} (hN : X.N[i]? = some x := by rfl) (hv : Vis X.env.scope x := by first | exact Or.inl rfl | exact Or.inr (Or.inl rfl) | exact Or.inr (Or.inr rfl)) (hd : (x == ("__debug__" : Str)) = false := by decide)
    (hcd : (x == ("__classdict__" : Str)) = false := by decide) : PX X cl W (.Name x pos) (mVar i) := by
  refine ⟨tVar i, pe_var hN hv hd hcd, fun μ ρ S σ H Q hc hs hp => ?_⟩
  unfold mVar at hp
  split at hp
  · rename_i v e
    obtain ⟨w, h1, h2⟩ := hs.at_ i v e
    exact ⟨w, h1, hp μ w H Grow.refl hc h2⟩
  · exact hp.elim
theorem px_c {v : V} {x : AV} (h : PE X a (tC v)) (r : ∀ μ H, Rv ⟨X.K, cl⟩ μ H v x) : PX X cl W a (mC x) :=
  ⟨tC v, h, fun μ ρ S σ H Q hc hs hp => hp μ v H Grow.refl hc (r μ H)⟩
theorem px_int {i : Int} {j : Nat} : PX X cl W (.Constant (.int i) j pos) (mC (.int i)) := px_c pe_int fun _ _ => .int i
theorem px_bl {i : Bool} {j : Nat} : PX X cl W (.Constant (.bool i) j pos) (mC (.bl i)) := px_c pe_bl fun _ _ => .bl i
theorem px_non {j : Nat} : PX X cl W (.Constant .none j pos) (mC .non) := px_c pe_non fun _ _ => .non
theorem px_str {i : String} {j : Nat} : PX X cl W (.Constant (.str i) j pos) (mC (.str i)) := px_c pe_str fun _ _ => .str i
theorem px_gint {x : Str} {i : Int} {u : Value} (hg : Gl X x) (hm : X.mg x = some u) (r : RelV (.int i) u) (hd : (x == ("__debug__" : Str)) = false := by decide) : PX X cl W (.Name x pos) (mC (.int i)) := px_c (pe_glob hg hm r hd) fun _ _ => .int i
theorem px_gstr {x y : Str} {u : Value} (hg : Gl X x) (hm : X.mg x = some u) (r : RelV (.str y) u) (hd : (x == ("__debug__" : Str)) = false := by decide) : PX X cl W (.Name x pos) (mC (.str y)) := px_c (pe_glob hg hm r hd) fun _ _ => .str y

/-! ### operators -/
def OpS (Z : Kx) (W : WX) (r : R2) (g : AV → AV → Option AV) : Prop :=
  ∀ (μ : List Addr) (S : Sto) (σ : L2.St) (H : Hp) (x y : V) (a b : AV) (Q : VK), CellsOk Z μ S H → Rv Z μ H x a → Rv Z μ H y b → Post Z μ H σ W (RlV Z) Q (R.of (g a b) S) → r x y H Q
theorem ev_op {Z : Kx} {r : R2} {g0 : AV → AV → Option AV} {ta tb : TE} (hr : OpS Z W r g0) (ha : Ev Z W (RlV Z) ta f) (hb : Ev Z W (RlV Z) tb g) : Ev Z W (RlV Z) (tOp r ta tb) (mOp g0 f g) := by
  intro μ ρ S σ H Q hc hs hp
  refine ha μ ρ S σ H _ hc hs (Post.bind anti_V hp fun μ1 x H1 a S1 _ g1 c1 r1 p1 => ?_)
  refine hb μ1 ρ S1 σ H1 _ c1 (hs.grow g1) (Post.bind anti_V p1 fun μ2 y H2 b S2 _ g2 c2 r2 p2 => ?_)
  exact hr μ2 S2 σ H2 x y a b Q c2 (g2.rv r1) r2 p2
theorem px_bin {op : Operator} {r : R2} {g0 : AV → AV → Option AV} (ho : OpR X (binaryOp op) r) (hr : OpS ⟨X.K, cl⟩ W r g0) (ha : PX X cl W a f) (hb : PX X cl W b g) : PX X cl W (.BinOp a op b pos) (mOp g0 f g) := by
  obtain ⟨ta, h1, e1⟩ := ha
  obtain ⟨tb, h2, e2⟩ := hb
  exact ⟨_, pe_op ho h1 h2, ev_op hr e1 e2⟩
theorem px_cmp {op : CmpOp} {r : R2} {g0 : AV → AV → Option AV} (ho : OpR X (compareOp op) r) (hr : OpS ⟨X.K, cl⟩ W r g0) (ha : PX X cl W a f) (hb : PX X cl W b g) (hm : behindInMarks op b = false := by first | exact nomark _ | with_unfolding_all rfl) : PX X cl W (.Compare a [op] [b] pos) (mOp g0 f g) := by
  obtain ⟨ta, h1, e1⟩ := ha
  obtain ⟨tb, h2, e2⟩ := hb
  exact ⟨_, pe_cmpR ho h1 h2 hm, ev_op hr e1 e2⟩
theorem ev_chain {Z : Kx} {r r' : R2} {g0 g1 : AV → AV → Option AV} {ta tb tc : TE} (hr : OpS Z W r g0) (hr' : OpS Z W r' g1) (e1 : Ev Z W (RlV Z) ta f) (e2 : Ev Z W (RlV Z) tb g) (e3 : Ev Z W (RlV Z) tc h) : Ev Z W (RlV Z) (tChain r r' ta tb tc) (mChain g0 g1 f g h) := by
  intro μ ρ S σ H Q hc hs hp
  refine e1 μ ρ S σ H _ hc hs (Post.bind anti_V hp fun μ1 x H1 a1 S1 _ k1 c1 r1 p1 => ?_)
  refine e2 μ1 ρ S1 σ H1 _ c1 (hs.grow k1) (Post.bind anti_V p1 fun μ2 y H2 b1 S2 _ k2 c2 r2 p2 => ?_)
  refine hr μ2 S2 σ H2 x y a1 b1 _ c2 (k2.rv r1) r2 ?_
  cases e : g0 a1 b1 with
  | none =>
    rw [e] at p2
    exact p2
  | some v =>
    rw [e] at p2
    intro μ3 z H3 k3 c3 r3
    cases v with
    | bl k =>
      cases r3
      refine ⟨k, rfl, ?_⟩
      have p3 : Post Z μ2 H2 σ W (RlV Z) Q (if k = true then (h ρ S2).bind fun c S4 => R.of (g1 b1 c) S4 else .ok (.bl false) S2) := p2
      cases k with
      | true =>
        rw [if_pos rfl] at p3 ⊢
        have p4 := Post.shift anti_V k3 c3 p3
        refine e3 μ3 ρ S2 σ H3 _ c3 (((hs.grow k1).grow k2).grow k3) (Post.bind anti_V p4 fun μ4 w H4 c4 S4 _ k4 c5 r4 p5 => ?_)
        exact hr' μ4 S4 σ H4 y w b1 c4 Q c5 (k4.rv (k3.rv r2)) r4 p5
      | false =>
        rw [if_neg (by decide)] at p3 ⊢
        exact p3 μ3 _ H3 k3 c3 (.bl false)
    | non => exact p2.elim
    | int i => exact p2.elim
    | str i => exact p2.elim
    | tup i => exact p2.elim
    | rol i => exact p2.elim
    | ref i => exact p2.elim
theorem px_chain {op op' : CmpOp} {r r' : R2} {g0 g1 : AV → AV → Option AV} (ho : OpR X (compareOp op) r) (ho' : OpR X (compareOp op') r') (hr : OpS ⟨X.K, cl⟩ W r g0) (hr' : OpS ⟨X.K, cl⟩ W r' g1) (ha : PX X cl W a f) (hb : PX X cl W b g) (hc : PX X cl W c h)
    (hm : lastMarks [op, op'] [b, c] = false := by with_unfolding_all rfl) : PX X cl W (.Compare a [op, op'] [b, c] pos) (mChain g0 g1 f g h) := by
  obtain ⟨ta, h1, e1⟩ := ha
  obtain ⟨tb, h2, e2⟩ := hb
  obtain ⟨tc, h3, e3⟩ := hc
  exact ⟨_, pe_chain ho ho' h1 h2 h3 hm, ev_chain hr hr' e1 e2 e3⟩
theorem px_un {op : UnaryOp} {r : V → Hp → VK → Prop} {g0 : AV → Option AV} (ho : UnR X (unaryOp op) r)
    (hr : ∀ (μ : List Addr) (S : Sto) (σ : L2.St) (H : Hp) (x : V) (a : AV) (Q : VK), CellsOk ⟨X.K, cl⟩ μ S H → Rv ⟨X.K, cl⟩ μ H x a → Post ⟨X.K, cl⟩ μ H σ W (RlV ⟨X.K, cl⟩) Q (R.of (g0 a) S) → r x H Q) (ha : PX X cl W a f) : PX X cl W (.UnaryOp op a pos) (mUn g0 f) := by
  obtain ⟨ta, h1, e1⟩ := ha
  refine ⟨_, pe_un ho h1, fun μ ρ S σ H Q hc hs hp => ?_⟩
  refine e1 μ ρ S σ H _ hc hs (Post.bind anti_V hp fun μ1 x H1 a1 S1 _ k1 c1 r1 p1 => ?_)
  exact hr μ1 S1 σ H1 x a1 Q c1 r1 p1

/-! ### lists of expressions, tuples, lists -/
theorem pa0 : PAX X cl W [] mNil := ⟨tNil, pa_nil, fun μ ρ S σ H Q hc hs hp => hp μ [] H Grow.refl hc .nil⟩
theorem pa1 {m : MA} (ha : PX X cl W a f) (hr : PAX X cl W es m) (hs : starEach (a :: es) X.env = (false, eval a X.env) :: starEach es X.env := by rfl) : PAX X cl W (a :: es) (mCons f m) := by
  obtain ⟨ta, h1, e1⟩ := ha
  obtain ⟨tb, h2, e2⟩ := hr
  refine ⟨_, pa_cons h1 h2 hs, fun μ ρ S σ H Q hc hs hp => ?_⟩
  refine e1 μ ρ S σ H _ hc hs (Post.bind anti_A hp fun μ1 x H1 a1 S1 _ k1 c1 r1 p1 => ?_)
  refine e2 μ1 ρ S1 σ H1 _ c1 (hs.grow k1) (Post.bind anti_A p1 fun μ2 y H2 b1 S2 _ k2 c2 r2 p2 => ?_)
  exact p2 μ2 (x :: y) H2 Grow.refl c2 (.cons (k2.rv r1) r2)
theorem sz_of {n : Nat} (h : n ≤ 100000) : n ≤ sizeLine := Nat.le_trans h (by decide)
theorem px_tup {m : MA} {x1 : Nat} (ha : PAX X cl W es m) : PX X cl W (.Tuple es x1 pos) (mTup m) := by
  obtain ⟨ta, h1, e1⟩ := ha
  refine ⟨_, pe_tup h1, fun μ ρ S σ H Q hc hs hp => ?_⟩
  refine e1 μ ρ S σ H _ hc hs (Post.bind anti_V hp fun μ1 xs H1 as S1 _ k1 c1 r1 p1 => ?_)
  by_cases hl : as.length ≤ 100000
  · rw [if_pos hl] at p1
    refine ⟨by rw [r1.len]; exact sz_of hl, fun p np => ?_⟩
    have nk := new_keep (o := .tup xs) np
    have G := Grow.same (Z := ⟨X.K, cl⟩) (μ := μ1) nk
    exact p1 μ1 _ _ G (c1.keep nk) (.tup (SqT.of upd_same) (G.rvs r1))
  · rw [if_neg hl] at p1
    exact p1.elim
theorem plx_lst {m : MA} (ha : PAX X cl W es m) : PLX X cl W (.List es pos) (lLst m) := by
  obtain ⟨ta, h1, e1⟩ := ha
  refine ⟨_, pe_lst h1, fun μ ρ S σ H Q hc hs hp => ?_⟩
  refine e1 μ ρ S σ H _ hc hs (Post.bind anti_L hp fun μ1 xs H1 as S1 _ k1 c1 r1 p1 => ?_)
  by_cases hl : as.length ≤ 100000
  · rw [if_pos hl] at p1
    refine ⟨by rw [r1.len]; exact sz_of hl, fun p np => ?_⟩
    have nk := new_keep (o := .lst xs) np
    have G := Grow.same (Z := ⟨X.K, cl⟩) (μ := μ1) nk
    exact p1 μ1 _ _ G (c1.keep nk) ⟨p, xs, rfl, np, c1.notin np, upd_same, G.rvs r1⟩
  · rw [if_neg hl] at p1
    exact p1.elim
/-- a new list, from now on a cell -/
theorem ev_new {Z : Kx} {m : MA} {te : TE} (e1 : Ev Z W (RlL Z) te m) : Ev Z W (RlV Z) te (mNew m) := by
  intro μ ρ S σ H Q hc hs hp
  refine e1 μ ρ S σ H _ hc hs ?_
  unfold mNew at hp
  revert hp
  cases m ρ S with
  | no => exact fun hp => hp
  | ex e S1 => exact fun hp => hp
  | ok as S1 =>
    intro hp μ1 v H1 k1 c1 r1
    obtain ⟨p, vs, rfl, n0, nm, h4, h5⟩ := r1
    have G : Grow Z μ H (μ1 ++ [p]) H1 := ⟨fun n x e => getElem?_append_some (k1.pre n x e), k1.fr, fun x hx nx => by
      rcases List.mem_append.mp hx with q | q
      · exact k1.new x q nx
      · simp at q
        subst q
        exact n0, k1.im, k1.il⟩
    refine hp (μ1 ++ [p]) _ H1 G (c1.push h4 nm h5) (.ref ?_)
    rw [List.getElem?_append_right (by rw [c1.len]; exact Nat.le_refl _), c1.len]
    simp
theorem px_new {m : MA} (h : PLX X cl W a m) : PX X cl W a (mNew m) := by
  obtain ⟨ta, h1, e1⟩ := h
  exact ⟨_, h1, ev_new e1⟩

/-! ### tests, conditions -/
end
end Mi
/-! Mi3: tests, calls, subscripts. -/
namespace Mi
open PySem PySem.Spec PyProof.Rows L2

def bIs (f : ME) : MB := fun ρ S => (f ρ S).bind fun a S1 => R.of (isBl a) S1

section
variable {X : Cx} {cl : Str → Option Addr} {W : WX} {a b c : Expr} {es : List Expr} {f g h : ME} {u v : MB} {pos : Pos}
theorem Post.is {Z : Kx} {μ : List Addr} {H : Hp} {σ : L2.St} {Q : Bool → Hp → Prop} {r : R AV} (h : Post Z μ H σ W RlB Q (r.bind fun a S1 => R.of (isBl a) S1)) : Post Z μ H σ W (RlV Z) (fun x H' => ∃ k, x = .bl k ∧ Q k H') r :=
  Post.bind anti_B h fun μ1 x H1 a S1 _ g c rl p => by
    cases a with
    | bl k => cases rl; exact ⟨k, rfl, p μ1 k H1 Grow.refl c rfl⟩
    | non => exact p.elim
    | int i => exact p.elim
    | str i => exact p.elim
    | tup i => exact p.elim
    | rol i => exact p.elim
    | ref i => exact p.elim
theorem ptx_cmp {op : CmpOp} {r : R2} {g0 : AV → AV → Option AV} (ho : OpR X (compareOp op) r) (hr : OpS ⟨X.K, cl⟩ W r g0) (ha : PX X cl W a f) (hb : PX X cl W b g) (hm : behindInMarks op b = false := by first | exact nomark _ | with_unfolding_all rfl) : PTX X cl W (.Compare a [op] [b] pos) (bIs (mOp g0 f g)) := by
  obtain ⟨ta, h1, e1⟩ := ha
  obtain ⟨tb, h2, e2⟩ := hb
  exact ⟨_, pt_cmpR ho h1 h2 hm, fun μ ρ S σ H Q hc hs hp => ev_op hr e1 e2 μ ρ S σ H _ hc hs (Post.is hp)⟩
theorem ptx_chain {op op' : CmpOp} {r r' : R2} {g0 g1 : AV → AV → Option AV} (ho : OpR X (compareOp op) r) (ho' : OpR X (compareOp op') r') (hr : OpS ⟨X.K, cl⟩ W r g0) (hr' : OpS ⟨X.K, cl⟩ W r' g1) (ha : PX X cl W a f) (hb : PX X cl W b g) (hc : PX X cl W c h)
    (hm : lastMarks [op, op'] [b, c] = false := by with_unfolding_all rfl) : PTX X cl W (.Compare a [op, op'] [b, c] pos) (bIs (mChain g0 g1 f g h)) := by
  obtain ⟨ta, h1, e1⟩ := ha
  obtain ⟨tb, h2, e2⟩ := hb
  obtain ⟨tc, h3, e3⟩ := hc
  exact ⟨_, pt_chain ho ho' h1 h2 h3 hm, fun μ ρ S σ H Q hc hs hp => ev_chain hr hr' e1 e2 e3 μ ρ S σ H _ hc hs (Post.is hp)⟩
theorem aTru_ok {Z : Kx} {μ : List Addr} {S : Sto} {H : Hp} {x : V} {a : AV} {k : Bool} (c : CellsOk Z μ S H) (r : Rv Z μ H x a) (e : aTru S a = some k) : TruV Z.K x H k := by
  cases r with
  | non => cases e; rfl
  | bl b => cases e; rfl
  | int i => cases e; rfl
  | str y =>
    have e' : (if y.length ≤ 100000 then some ((y.length : Int) != 0) else none) = some k := e
    by_cases hl : y.length ≤ 100000
    · rw [if_pos hl] at e'
      cases e'
      exact ⟨sz_of hl, rfl⟩
    · rw [if_neg hl] at e'
      cases e'
  | tup h1 h2 =>
    cases e
    refine .inr (.inl ⟨_, h1, ?_⟩)
    have := h2.len
    rename_i vs xs
    cases vs <;> cases xs <;> simp_all
  | rol h1 h2 =>
    cases e
    refine .inl ⟨_, h1.sq, ?_⟩
    have := h2.len
    rename_i vs xs
    cases vs <;> cases xs <;> simp_all
  | ref h1 =>
    rename_i n p
    have e' : (match S[n]? with
      | some (.lst xs) => some (!xs.isEmpty)
      | none => none) = some k := e
    revert e'
    cases q : S[n]? with
    | none => intro e; cases e
    | some cc =>
      cases cc with
      | lst xs =>
        intro e
        cases e
        obtain ⟨vs, z1, z2⟩ := c.at_ n _ p q h1
        refine .inl ⟨vs, SqL.of z1, ?_⟩
        have := z2.len
        cases vs <;> cases xs <;> simp_all
/-- any expression (no comparison) by its value's truth -/
theorem ptx_val (ha : PX X cl W a f) (he : ∀ whole, isTrue a X.env whole = (do let v ← whole; standAt a.pos; holding [v] (truthy v)) := by intro _; rfl) : PTX X cl W a (bVal f) := by
  obtain ⟨ta, h1, e1⟩ := ha
  refine ⟨_, pt_truth h1 he, fun μ ρ S σ H Q hc hs hp => e1 μ ρ S σ H _ hc hs (Post.bind anti_B hp fun μ1 x H1 a S1 _ g c rl p => ?_)⟩
  cases e : aTru S1 a with
  | none =>
    rw [e] at p
    exact p.elim
  | some k =>
    rw [e] at p
    exact ⟨k, aTru_ok c rl e, p μ1 k H1 Grow.refl c rfl⟩
theorem ptx_not (h : PTX X cl W a u) : PTX X cl W (.UnaryOp .Not a pos) (bNot u) := by
  obtain ⟨ta, h1, e1⟩ := h
  refine ⟨_, pt_not h1, fun μ ρ S σ H Q hc hs hp => e1 μ ρ S σ H _ hc hs (Post.bind anti_B hp fun μ1 x H1 k S1 _ g c rl p => ?_)⟩
  cases rl
  exact p μ1 _ H1 Grow.refl c rfl
theorem pwx_and1 (h : PTX X cl W a u) : PWX X cl W (.BoolOp .And [a] pos) u := let ⟨ta, h1, e1⟩ := h; ⟨ta, pw_and1 h1, e1⟩
theorem pwx_or1 (h : PTX X cl W a u) : PWX X cl W (.BoolOp .Or [a] pos) u := let ⟨ta, h1, e1⟩ := h; ⟨ta, pw_or1 h1, e1⟩
theorem ptx_w (h : PWX X cl W a u) : PTX X cl W a u := let ⟨ta, h1, e1⟩ := h; ⟨ta, PW.pt h1, e1⟩
theorem pwx_and {rest : List Expr} (ha : PTX X cl W a u) (hb : PWX X cl W (.BoolOp .And (b :: rest) pos) v) : PWX X cl W (.BoolOp .And (a :: b :: rest) pos) (bAnd u v) := by
  obtain ⟨ta, h1, e1⟩ := ha
  obtain ⟨tb, h2, e2⟩ := hb
  refine ⟨_, pw_and h1 h2, fun μ ρ S σ H Q hc hs hp => e1 μ ρ S σ H _ hc hs (Post.bind anti_B hp fun μ1 x H1 k S1 _ g c rl p => ?_)⟩
  cases rl
  cases x with
  | true => exact e2 μ1 ρ S1 σ H1 Q c (hs.grow g) p
  | false => exact p μ1 false H1 Grow.refl c rfl
theorem pwx_or {rest : List Expr} (ha : PTX X cl W a u) (hb : PWX X cl W (.BoolOp .Or (b :: rest) pos) v) : PWX X cl W (.BoolOp .Or (a :: b :: rest) pos) (bOr u v) := by
  obtain ⟨ta, h1, e1⟩ := ha
  obtain ⟨tb, h2, e2⟩ := hb
  refine ⟨_, pw_or h1 h2, fun μ ρ S σ H Q hc hs hp => e1 μ ρ S σ H _ hc hs (Post.bind anti_B hp fun μ1 x H1 k S1 _ g c rl p => ?_)⟩
  cases rl
  cases x with
  | true => exact p μ1 true H1 Grow.refl c rfl
  | false => exact e2 μ1 ρ S1 σ H1 Q c (hs.grow g) p
/-! values of and, or, not -/
theorem px_one {op : BoolOp} (h : PX X cl W a f) : PX X cl W (.BoolOp op [a] pos) f := let ⟨ta, h1, e1⟩ := h; ⟨ta, pe_one h1, e1⟩
theorem isBl_some {x : AV} {k : Bool} (e : isBl x = some k) : x = .bl k := by
  cases x <;> simp [isBl] at e
  rw [e]
theorem px_and {rest : List Expr} (ha : PX X cl W a f) (hb : PX X cl W (.BoolOp .And (b :: rest) pos) g) : PX X cl W (.BoolOp .And (a :: b :: rest) pos) (mAnd f g) := by
  obtain ⟨ta, h1, e1⟩ := ha
  obtain ⟨tb, h2, e2⟩ := hb
  refine ⟨_, pe_and h1 h2, fun μ ρ S σ H Q hc hs hp => e1 μ ρ S σ H _ hc hs (Post.bind anti_V hp fun μ1 x H1 a1 S1 _ g1 c rl p => ?_)⟩
  cases e : isBl a1 with
  | none =>
    rw [e] at p
    exact p.elim
  | some k =>
    rw [e] at p
    cases isBl_some e
    cases rl
    refine ⟨k, rfl, ?_⟩
    cases k with
    | true => exact e2 μ1 ρ S1 σ H1 Q c (hs.grow g1) p
    | false => exact p μ1 _ H1 Grow.refl c (.bl false)
theorem px_or {rest : List Expr} (ha : PX X cl W a f) (hb : PX X cl W (.BoolOp .Or (b :: rest) pos) g) : PX X cl W (.BoolOp .Or (a :: b :: rest) pos) (mOr f g) := by
  obtain ⟨ta, h1, e1⟩ := ha
  obtain ⟨tb, h2, e2⟩ := hb
  refine ⟨_, pe_or h1 h2, fun μ ρ S σ H Q hc hs hp => e1 μ ρ S σ H _ hc hs (Post.bind anti_V hp fun μ1 x H1 a1 S1 _ g1 c rl p => ?_)⟩
  cases e : isBl a1 with
  | none =>
    rw [e] at p
    exact p.elim
  | some k =>
    rw [e] at p
    cases isBl_some e
    cases rl
    refine ⟨k, rfl, ?_⟩
    cases k with
    | true => exact p μ1 _ H1 Grow.refl c (.bl true)
    | false => exact e2 μ1 ρ S1 σ H1 Q c (hs.grow g1) p
theorem px_not (ha : PX X cl W a f) : PX X cl W (.UnaryOp .Not a pos) (mNot f) := by
  obtain ⟨ta, h1, e1⟩ := ha
  refine ⟨_, pe_not h1, fun μ ρ S σ H Q hc hs hp => e1 μ ρ S σ H _ hc hs (Post.bind anti_V hp fun μ1 x H1 a1 S1 _ g1 c rl p => ?_)⟩
  cases e : isBl a1 with
  | none =>
    rw [e] at p
    exact p.elim
  | some k =>
    rw [e] at p
    cases isBl_some e
    cases rl
    exact ⟨k, rfl, p μ1 _ H1 Grow.refl c (.bl (!k))⟩
theorem px_if (hc : PTX X cl W c u) (ha : PX X cl W a f) (hb : PX X cl W b g) : PX X cl W (.IfExp c a b pos) (mIf u f g) := by
  obtain ⟨tc, h0, e0⟩ := hc
  obtain ⟨ta, h1, e1⟩ := ha
  obtain ⟨tb, h2, e2⟩ := hb
  refine ⟨_, pe_ifExp h0 h1 h2, fun μ ρ S σ H Q hc hs hp => e0 μ ρ S σ H _ hc hs (Post.bind anti_V hp fun μ1 x H1 k S1 _ g c rl p => ?_)⟩
  cases rl
  cases x with
  | true => exact e1 μ1 ρ S1 σ H1 Q c (hs.grow g) p
  | false => exact e2 μ1 ρ S1 σ H1 Q c (hs.grow g) p

/-! ### calls of what is built in -/
def CallS {α : Type} (Z : Kx) (W : WX) (Rl : Rel V α) (r : List V → Hp → VK → Prop) (g : List AV → Sto → R α) : Prop :=
  ∀ (μ : List Addr) (S : Sto) (σ : L2.St) (H : Hp) (vs : List V) (as : List AV) (Q : VK), CellsOk Z μ S H → Rvs Z μ H vs as → Post Z μ H σ W Rl Q (g as S) → r vs H Q
def mCallB {α : Type} (g : List AV → Sto → R α) (m : MA) : Slots → Sto → R α := fun ρ S => (m ρ S).bind fun as S1 => g as S1
theorem ev_callB {α : Type} {Z : Kx} {Rl : Rel V α} (hA : Anti Z Rl) {r : List V → Hp → VK → Prop} {g0 : List AV → Sto → R α} {t : TA} {m : MA} (hr : CallS Z W Rl r g0) (ht : Ev Z W (RlA Z) t m) : Ev Z W Rl (tCB r t) (mCallB g0 m) :=
  fun μ ρ S σ H Q hc hs hp => ht μ ρ S σ H _ hc hs (Post.bind hA hp fun μ1 vs H1 as S1 _ g c rl p => hr μ1 S1 σ H1 vs as Q c rl p)
theorem px_callB {id : String} {x : Str} {r : List V → Hp → VK → Prop} {g0 : List AV → Sto → R AV} {m : MA} {p : Pos} (hc : CallR X (.builtin id) r) (hr : CallS ⟨X.K, cl⟩ W (RlV ⟨X.K, cl⟩) r g0) (hg : Gl X x) (hm : X.mg x = none) (hv : bootBuiltins x = some (.builtin id)) (ha : PAX X cl W (a :: es) m)
    (hn : x ≠ "__name__" := by decide) (hdb : (x == ("__debug__" : Str)) = false := by decide) (he : starEach (a :: es) X.env = (false, eval a X.env) :: starEach es X.env := by rfl) (hpl : (backTo pos (starEach es X.env)).any (·.1) = false := by rfl) : PX X cl W (.Call (.Name x p) (a :: es) [] pos) (mCallB g0 m) := by
  obtain ⟨t, h1, e1⟩ := ha
  exact ⟨_, pe_callB hc hg hm hv h1 hn hdb he hpl, ev_callB anti_V hr e1⟩
theorem px_callTy {T : String} {x : Str} {r : List V → Hp → VK → Prop} {g0 : List AV → Sto → R AV} {m : MA} {p : Pos} (hc : CallR X (.type T) r) (hr : CallS ⟨X.K, cl⟩ W (RlV ⟨X.K, cl⟩) r g0) (hg : Gl X x) (hm : X.mg x = none) (hv : bootBuiltins x = some (.type T)) (ha : PAX X cl W (a :: es) m)
    (hn : x ≠ "__name__" := by decide) (hdb : (x == ("__debug__" : Str)) = false := by decide) (he : starEach (a :: es) X.env = (false, eval a X.env) :: starEach es X.env := by rfl) (hpl : (backTo pos (starEach es X.env)).any (·.1) = false := by rfl) : PX X cl W (.Call (.Name x p) (a :: es) [] pos) (mCallB g0 m) := by
  obtain ⟨t, h1, e1⟩ := ha
  exact ⟨_, pe_callTy hc hg hm hv h1 hn hdb he hpl, ev_callB anti_V hr e1⟩
theorem plx_callTy {T : String} {x : Str} {r : List V → Hp → VK → Prop} {g0 : List AV → Sto → R (List AV)} {m : MA} {p : Pos} (hc : CallR X (.type T) r) (hr : CallS ⟨X.K, cl⟩ W (RlL ⟨X.K, cl⟩) r g0) (hg : Gl X x) (hm : X.mg x = none) (hv : bootBuiltins x = some (.type T)) (ha : PAX X cl W (a :: es) m)
    (hn : x ≠ "__name__" := by decide) (hdb : (x == ("__debug__" : Str)) = false := by decide) (he : starEach (a :: es) X.env = (false, eval a X.env) :: starEach es X.env := by rfl) (hpl : (backTo pos (starEach es X.env)).any (·.1) = false := by rfl) : PLX X cl W (.Call (.Name x p) (a :: es) [] pos) (mCallB g0 m) := by
  obtain ⟨t, h1, e1⟩ := ha
  exact ⟨_, pe_callTy hc hg hm hv h1 hn hdb he hpl, ev_callB anti_L hr e1⟩
/-- a built-in of one new list that is not kept -/
def LstS {α : Type} (Z : Kx) (W : WX) (Rl : Rel V α) (r : List V → Hp → VK → Prop) (g : List AV → Sto → R α) : Prop :=
  ∀ (μ : List Addr) (S : Sto) (σ : L2.St) (H : Hp) (p : Addr) (vs : List V) (as : List AV) (Q : VK), CellsOk Z μ S H → p ∉ μ → H p = some (.lst vs) → Rvs Z μ H vs as → Post Z μ H σ W Rl Q (g as S) → r [.ref p] H Q
theorem ev_callL {α : Type} {Z : Kx} {Rl : Rel V α} (hA : Anti Z Rl) {r : List V → Hp → VK → Prop} {g0 : List AV → Sto → R α} {t : TE} {m : MA} (hr : LstS Z W Rl r g0) (ht : Ev Z W (RlL Z) t m) : Ev Z W Rl (tCB r (tCons t tNil)) (mCallB g0 m) :=
  fun μ ρ S σ H Q hc hs hp => ht μ ρ S σ H _ hc hs (Post.bind hA hp fun μ1 v H1 as S1 _ g c rl p => by
    obtain ⟨q, vs, rfl, n0, nm, h4, h5⟩ := rl
    exact hr μ1 S1 σ H1 q vs as Q c nm h4 h5 p)
theorem px_callBL {id : String} {x : Str} {r : List V → Hp → VK → Prop} {g0 : List AV → Sto → R AV} {m : MA} {p : Pos} (hc : CallR X (.builtin id) r) (hr : LstS ⟨X.K, cl⟩ W (RlV ⟨X.K, cl⟩) r g0) (hg : Gl X x) (hm : X.mg x = none) (hv : bootBuiltins x = some (.builtin id)) (ha : PLX X cl W a m)
    (hn : x ≠ "__name__" := by decide) (hdb : (x == ("__debug__" : Str)) = false := by decide) (hs : starEach [a] X.env = (false, eval a X.env) :: starEach [] X.env := by rfl) (hpl : (backTo pos (starEach [] X.env)).any (·.1) = false := by rfl) : PX X cl W (.Call (.Name x p) [a] [] pos) (mCallB g0 m) := by
  obtain ⟨t, h1, e1⟩ := ha
  exact ⟨_, pe_callB hc hg hm hv (pa_cons h1 pa_nil hs) hn hdb hs hpl, ev_callL anti_V hr e1⟩
theorem px_callTyL {T : String} {x : Str} {r : List V → Hp → VK → Prop} {g0 : List AV → Sto → R AV} {m : MA} {p : Pos} (hc : CallR X (.type T) r) (hr : LstS ⟨X.K, cl⟩ W (RlV ⟨X.K, cl⟩) r g0) (hg : Gl X x) (hm : X.mg x = none) (hv : bootBuiltins x = some (.type T)) (ha : PLX X cl W a m)
    (hn : x ≠ "__name__" := by decide) (hdb : (x == ("__debug__" : Str)) = false := by decide) (hs : starEach [a] X.env = (false, eval a X.env) :: starEach [] X.env := by rfl) (hpl : (backTo pos (starEach [] X.env)).any (·.1) = false := by rfl) : PX X cl W (.Call (.Name x p) [a] [] pos) (mCallB g0 m) := by
  obtain ⟨t, h1, e1⟩ := ha
  exact ⟨_, pe_callTy hc hg hm hv (pa_cons h1 pa_nil hs) hn hdb hs hpl, ev_callL anti_V hr e1⟩

/-! ### subscripts, slices -/
theorem px_ix {r : R2} {g0 : Sto → AV → AV → Option AV} (hr : IxR X r)
    (hS : ∀ (μ : List Addr) (S : Sto) (σ : L2.St) (H : Hp) (x y : V) (a b : AV) (Q : VK), CellsOk ⟨X.K, cl⟩ μ S H → Rv ⟨X.K, cl⟩ μ H x a → Rv ⟨X.K, cl⟩ μ H y b → Post ⟨X.K, cl⟩ μ H σ W (RlV ⟨X.K, cl⟩) Q (R.of (g0 S a b) S) → r x y H Q)
    (ha : PX X cl W a f) (hb : PX X cl W b g) (hs : PlainIx b := by exact fun _ _ => rfl) : PX X cl W (.Subscript a b pos) (fun ρ S => (f ρ S).bind fun a S1 => (g ρ S1).bind fun b S2 => R.of (g0 S2 a b) S2) := by
  obtain ⟨ta, h1, e1⟩ := ha
  obtain ⟨tb, h2, e2⟩ := hb
  refine ⟨_, pe_ix hr h1 h2 hs, fun μ ρ S σ H Q hc hs hp => ?_⟩
  refine e1 μ ρ S σ H _ hc hs (Post.bind anti_V hp fun μ1 x H1 a S1 _ g1 c1 r1 p1 => ?_)
  refine e2 μ1 ρ S1 σ H1 _ c1 (hs.grow g1) (Post.bind anti_V p1 fun μ2 y H2 b S2 _ g2 c2 r2 p2 => ?_)
  exact hS μ2 S2 σ H2 x y a b Q c2 (g2.rv r1) r2 p2
theorem pox_none : POX X cl W none oNone := ⟨_, po_none, fun μ ρ S σ H Q hc hs hp => hp μ none H Grow.refl hc rfl⟩
theorem pox_some (ha : PX X cl W a f) : POX X cl W (some a) (oSome f) := by
  obtain ⟨ta, h1, e1⟩ := ha
  refine ⟨_, po_some h1, fun μ ρ S σ H Q hc hs hp => e1 μ ρ S σ H _ hc hs (Post.bind anti_O hp fun μ1 x H1 a S1 _ g c rl p => ?_)⟩
  cases a with
  | int i => cases rl; exact ⟨i, rfl, p μ1 (some i) H1 Grow.refl c rfl⟩
  | non => exact p.elim
  | bl i => exact p.elim
  | str i => exact p.elim
  | tup i => exact p.elim
  | rol i => exact p.elim
  | ref i => exact p.elim
def mSl {α : Type} (g0 : AV → Option Int → Option Int → Sto → R α) (f : ME) (l h : Slots → Sto → R (Option Int)) : Slots → Sto → R α := fun ρ S => (f ρ S).bind fun a S1 => (l ρ S1).bind fun lo S2 => (h ρ S2).bind fun hi S3 => g0 a lo hi S3
def SlS {α : Type} (Z : Kx) (W : WX) (Rl : Rel V α) (r : V → Option Int → Option Int → Hp → VK → Prop) (g0 : AV → Option Int → Option Int → Sto → R α) : Prop :=
  ∀ (μ : List Addr) (S : Sto) (σ : L2.St) (H : Hp) (x : V) (a : AV) (lo hi : Option Int) (Q : VK), CellsOk Z μ S H → Rv Z μ H x a → Post Z μ H σ W Rl Q (g0 a lo hi S) → r x lo hi H Q
theorem ev_sl {α : Type} {Z : Kx} {Rl : Rel V α} (hA : Anti Z Rl) {r : V → Option Int → Option Int → Hp → VK → Prop} {g0 : AV → Option Int → Option Int → Sto → R α} {te : TE} {tl th : TO} {ml mh : Slots → Sto → R (Option Int)} (hr : SlS Z W Rl r g0) (he : Ev Z W (RlV Z) te f) (hl : Ev Z W RlO tl ml) (hh : Ev Z W RlO th mh) :
    Ev Z W Rl (tSl r te tl th) (mSl g0 f ml mh) := by
  intro μ ρ S σ H Q hc hs hp
  refine he μ ρ S σ H _ hc hs (Post.bind hA hp fun μ1 x H1 a S1 _ g1 c1 r1 p1 => ?_)
  refine hl μ1 ρ S1 σ H1 _ c1 (hs.grow g1) (Post.bind hA p1 fun μ2 y H2 lo S2 _ g2 c2 r2 p2 => ?_)
  refine hh μ2 ρ S2 σ H2 _ c2 ((hs.grow g1).grow g2) (Post.bind hA p2 fun μ3 z H3 hi S3 _ g3 c3 r3 p3 => ?_)
  cases r2
  cases r3
  exact hr μ3 S3 σ H3 x a y z Q c3 (g3.rv (g2.rv r1)) p3
theorem px_sl {r : V → Option Int → Option Int → Hp → VK → Prop} {g0 : AV → Option Int → Option Int → Sto → R AV} {lo hi : Option Expr} {ml mh : Slots → Sto → R (Option Int)} {p2 : Pos} (hsl : SlR X r) (hr : SlS ⟨X.K, cl⟩ W (RlV ⟨X.K, cl⟩) r g0) (ha : PX X cl W a f) (hl : POX X cl W lo ml) (hh : POX X cl W hi mh) : PX X cl W (.Subscript a (.Slice lo hi none p2) pos) (mSl g0 f ml mh) := by
  obtain ⟨ta, h1, e1⟩ := ha
  obtain ⟨tl, h2, e2⟩ := hl
  obtain ⟨th, h3, e3⟩ := hh
  exact ⟨_, pe_slice hsl h1 h2 h3, ev_sl anti_V hr e1 e2 e3⟩
theorem plx_sl {r : V → Option Int → Option Int → Hp → VK → Prop} {g0 : AV → Option Int → Option Int → Sto → R (List AV)} {lo hi : Option Expr} {ml mh : Slots → Sto → R (Option Int)} {p2 : Pos} (hsl : SlR X r) (hr : SlS ⟨X.K, cl⟩ W (RlL ⟨X.K, cl⟩) r g0) (ha : PX X cl W a f) (hl : POX X cl W lo ml) (hh : POX X cl W hi mh) : PLX X cl W (.Subscript a (.Slice lo hi none p2) pos) (mSl g0 f ml mh) := by
  obtain ⟨ta, h1, e1⟩ := ha
  obtain ⟨tl, h2, e2⟩ := hl
  obtain ⟨th, h3, e3⟩ := hh
  exact ⟨_, pe_slice hsl h1 h2 h3, ev_sl anti_L hr e1 e2 e3⟩
end
end Mi
/-! Mi4: statements, loops, comprehensions. -/
namespace Mi
open PySem PySem.Spec PyProof.Rows L2

inductive SR where
  | nx (ρ : Slots) (S : Sto) | rt (v : AV) (S : Sto) | bk (ρ : Slots) (S : Sto) | ct (ρ : Slots) (S : Sto) | ex (e : Exn) (ρ : Slots) (S : Sto) | no
abbrev MS := Slots → Sto → SR
def R.thn {α : Type} (r : R α) (ρ : Slots) (k : α → Sto → SR) : SR := match r with
  | .ok a S => k a S
  | .ex e S => .ex e ρ S
  | .no => .no
def SR.thn (r : SR) (k : Slots → Sto → SR) : SR := match r with
  | .nx ρ S => k ρ S
  | .rt v S => .rt v S
  | .bk ρ S => .bk ρ S
  | .ct ρ S => .ct ρ S
  | .ex e ρ S => .ex e ρ S
  | .no => .no

def PostS (Z : Kx) (μ : List Addr) (H : Hp) (W : WX) (D : Ends) : SR → Prop
  | .nx ρ S => ∀ (μ' : List Addr) (σ' : L2.St) (H' : Hp), Grow Z μ H μ' H' → CellsOk Z μ' S H' → SlotsOk Z μ' ρ σ' H' → D.nx σ' H'
  | .bk ρ S => ∀ (μ' : List Addr) (σ' : L2.St) (H' : Hp), Grow Z μ H μ' H' → CellsOk Z μ' S H' → SlotsOk Z μ' ρ σ' H' → D.bk σ' H'
  | .ct ρ S => ∀ (μ' : List Addr) (σ' : L2.St) (H' : Hp), Grow Z μ H μ' H' → CellsOk Z μ' S H' → SlotsOk Z μ' ρ σ' H' → D.ct σ' H'
  | .rt v S => ∀ (μ' : List Addr) (x : V) (H' : Hp), Grow Z μ H μ' H' → CellsOk Z μ' S H' → Rv Z μ' H' x v → D.rt x H'
  | .ex e ρ S => ∀ (μ' : List Addr) (σ' : L2.St) (H' : Hp) (cls : Value) (d : Option Addr), Grow Z μ H μ' H' → CellsOk Z μ' S H' → SlotsOk Z μ' ρ σ' H' → ExR Z μ' H' e cls d → W cls d σ' H'
  | .no => False

section
variable {Z : Kx} {μ μ1 : List Addr} {H H1 : Hp} {W : WX} {D : Ends} {ρ : Slots} {σ : L2.St}
theorem PostS.shift {r : SR} (g : Grow Z μ H μ1 H1) (h : PostS Z μ H W D r) : PostS Z μ1 H1 W D r := by
  cases r with
  | nx ρ S => exact fun μ' σ' H' g' c s => h μ' σ' H' (g.trans g') c s
  | bk ρ S => exact fun μ' σ' H' g' c s => h μ' σ' H' (g.trans g') c s
  | ct ρ S => exact fun μ' σ' H' g' c s => h μ' σ' H' (g.trans g') c s
  | rt v S => exact fun μ' x H' g' c s => h μ' x H' (g.trans g') c s
  | ex e ρ S => exact fun μ' σ' H' cls d g' c s x => h μ' σ' H' cls d (g.trans g') c s x
  | no => exact h
theorem PostS.thn {β α : Type} {Rl1 : Rel β α} {r : R α} {k : α → Sto → SR} {Q1 : β → Hp → Prop} (hs : SlotsOk Z μ ρ σ H) (h : PostS Z μ H W D (r.thn ρ k))
    (q : ∀ (μ1 : List Addr) (b : β) (H1 : Hp) (a : α) (S1 : Sto), r = .ok a S1 → Grow Z μ H μ1 H1 → CellsOk Z μ1 S1 H1 → Rl1 H μ1 H1 b a → SlotsOk Z μ1 ρ σ H1 → PostS Z μ1 H1 W D (k a S1) → Q1 b H1) : Post Z μ H σ W Rl1 Q1 r := by
  cases r with
  | ok a S => exact fun μ1 b H1 g c rl => q μ1 b H1 a S rfl g c rl (hs.grow g) (PostS.shift g h)
  | ex e S => exact fun μ1 H1 cls d g c x => h μ1 σ H1 cls d g c (hs.grow g) x
  | no => exact h
end
def Sv (Z : Kx) (W : WX) (ts : TS) (g : MS) : Prop :=
  ∀ (μ : List Addr) (ρ : Slots) (S : Sto) (σ : L2.St) (H : Hp) (D : Ends), CellsOk Z μ S H → SlotsOk Z μ ρ σ H → PostS Z μ H W D (g ρ S) → ts D σ H
def PSX (X : Cx) (cl : Str → Option Addr) (W : WX) (st : Stmt) (g : MS) : Prop := ∃ ts, PS X st ts ∧ Sv ⟨X.K, cl⟩ W ts g
def PBX (X : Cx) (cl : Str → Option Addr) (W : WX) (sts : List Stmt) (g : MS) : Prop := ∃ ts, PSs X sts ts ∧ Sv ⟨X.K, cl⟩ W ts g

/-! ### targets -/
def Gv (Z : Kx) (g : TG) (bd : AV → Slots → Option Slots) : Prop :=
  ∀ (μ : List Addr) (ρ ρ' : Slots) (S : Sto) (σ : L2.St) (H : Hp) (x : V) (v : AV) (Q : L2.St → Hp → Prop), CellsOk Z μ S H → SlotsOk Z μ ρ σ H → Rv Z μ H x v → bd v ρ = some ρ' → (∀ σ', SlotsOk Z μ ρ' σ' H → Q σ' H) → g x σ H Q
def PGX (X : Cx) (cl : Str → Option Addr) (tg : Expr) (bd : AV → Slots → Option Slots) : Prop := ∃ g, PG X tg g ∧ Gv ⟨X.K, cl⟩ g bd
def PGsX (X : Cx) (cl : Str → Option Addr) (tgs : List Expr) (bd : List AV → Slots → Option Slots) : Prop :=
  ∃ g, PGs X tgs g ∧ ∀ (μ : List Addr) (ρ ρ' : Slots) (S : Sto) (σ : L2.St) (H : Hp) (xs : List V) (vs : List AV) (Q : L2.St → Hp → Prop), CellsOk ⟨X.K, cl⟩ μ S H → SlotsOk ⟨X.K, cl⟩ μ ρ σ H → Rvs ⟨X.K, cl⟩ μ H xs vs → bd vs ρ = some ρ' → (∀ σ', SlotsOk ⟨X.K, cl⟩ μ ρ' σ' H → Q σ' H) → g xs σ H Q
def gN (i : Nat) : AV → Slots → Option Slots := fun v ρ => some (ρ.set i (some v))
def gs0 : List AV → Slots → Option Slots
  | [], ρ => some ρ
  | _ :: _, _ => none
def gs1 (g : AV → Slots → Option Slots) (h : List AV → Slots → Option Slots) : List AV → Slots → Option Slots
  | [], _ => none
  | v :: vs, ρ => (g v ρ).bind (h vs)
def gT (n : Nat) (h : List AV → Slots → Option Slots) : AV → Slots → Option Slots
  | .tup xs, ρ => if xs.length = n then h xs ρ else none
  | _, _ => none
section
variable {X : Cx} {cl : Str → Option Addr} {W : WX} {e : Expr} {es : List Expr} {pos : Pos}
theorem pgx_name (i : Nat) {x : Str} (hN : X.N.Nodup) (hi : X.N[i]? = some x := by rfl) (hx : Loc X.env.scope x := by first | exact Or.inl rfl | exact Or.inr rfl) (hf : X.fn x = true ∨ X.env.scope.names.lookup x = some .local := by first | exact .inl rfl | exact .inr rfl) : PGX X cl (.Name x pos) (gN i) :=
  ⟨_, pg_name hN hi hx hf, fun μ ρ ρ' S σ H x v Q hc hs r e q => by
    cases e
    exact q _ (hs.set r)⟩
theorem pgs0 : PGsX X cl [] gs0 := ⟨_, pgs_nil, fun μ ρ ρ' S σ H xs vs Q hc hs r e q => by
  cases r with
  | nil =>
    cases e
    exact ⟨rfl, q _ hs⟩
  | cons h1 h2 => cases e⟩
theorem pgs1 {g : AV → Slots → Option Slots} {h : List AV → Slots → Option Slots} (h1 : PGX X cl e g) (h2 : PGsX X cl es h) (hs : (assignEach (e :: es) X.env).map (·.2) = assign e X.env :: (assignEach es X.env).map (·.2) := by rfl) : PGsX X cl (e :: es) (gs1 g h) := by
  obtain ⟨t1, p1, q1⟩ := h1
  obtain ⟨t2, p2, q2⟩ := h2
  refine ⟨_, pgs_cons p1 p2 hs, fun μ ρ ρ' S σ H xs vs Q hc hs r e q => ?_⟩
  cases r with
  | nil => cases e
  | cons r1 r2 =>
    rename_i v x vs xs
    have e' : (g x ρ).bind (h xs) = some ρ' := e
    cases e1 : g x ρ with
    | none =>
      rw [e1] at e'
      cases e'
    | some ρ1 =>
      rw [e1] at e'
      exact ⟨_, _, rfl, q1 μ ρ ρ1 S σ H _ x _ hc hs r1 e1 fun σ1 s1 => q2 μ ρ1 ρ' S σ1 H _ xs _ hc s1 r2 e' q⟩
theorem pgx_tup {h : List AV → Slots → Option Slots} {k n : Nat} (hc : X.calm = true) (h1 : PGsX X cl es h) (hn : (assignEach es X.env).length = n := by rfl) (hst : (assignEach es X.env).findIdx? (·.1) = none := by rfl) : PGX X cl (.Tuple es k pos) (gT n h) := by
  obtain ⟨t1, p1, q1⟩ := h1
  refine ⟨_, pg_tup hc p1 hn hst, fun μ ρ ρ' S σ H x v Q hc hs r e q => ?_⟩
  cases r with
  | tup r1 r2 =>
    rename_i a vs xs
    have e' : (if xs.length = n then h xs ρ else none) = some ρ' := e
    by_cases hl : xs.length = n
    · rw [if_pos hl] at e'
      exact ⟨a, vs, rfl, r1, by rw [r2.len]; exact hl, q1 μ ρ ρ' S σ H vs xs Q hc hs r2 e' q⟩
    · rw [if_neg hl] at e'
      cases e'
  | non => cases e
  | bl b => cases e
  | int b => cases e
  | str b => cases e
  | rol _ _ => cases e
  | ref _ => cases e
end

/-! ### statements -/
def sNext : MS := fun ρ S => .nx ρ S
def sBrk : MS := fun ρ S => .bk ρ S
def sCont : MS := fun ρ S => .ct ρ S
def sSeq (a b : MS) : MS := fun ρ S => (a ρ S).thn b
def sSet (i : Nat) (f : ME) : MS := fun ρ S => (f ρ S).thn ρ fun v S1 => .nx (ρ.set i (some v)) S1
def SR.of (o : Option Slots) (S : Sto) : SR := match o with
  | some ρ => .nx ρ S
  | none => .no
def sAsg (bd : AV → Slots → Option Slots) (f : ME) : MS := fun ρ S => (f ρ S).thn ρ fun v S1 => SR.of (bd v ρ) S1
def sDrop (f : ME) : MS := fun ρ S => (f ρ S).thn ρ fun _ S1 => .nx ρ S1
def sRet (f : ME) : MS := fun ρ S => (f ρ S).thn ρ fun v S1 => .rt v S1
def sRetN : MS := fun _ S => .rt .non S
def sIf (c : MB) (a b : MS) : MS := fun ρ S => (c ρ S).thn ρ fun k S1 => if k then a ρ S1 else b ρ S1
def sNo : MS := fun _ _ => .no
def cellOf (S : Sto) (n : Nat) : Option (List AV) := match S[n]? with
  | some (.lst xs) => some xs
  | none => none
def refOf : AV → Option Nat
  | .ref n => some n
  | _ => none
/-- the receiver is a cell -/
def mRef (o : ME) : Slots → Sto → R Nat := fun ρ S => (o ρ S).bind fun l S1 => R.of (refOf l) S1
def mCell (n : Nat) (S : Sto) : R (List AV) := R.of (cellOf S n) S
/-- xs.append(e), the list a cell -/
def sApp (o f : ME) : MS := fun ρ S => (mRef o ρ S).thn ρ fun n S1 => (f ρ S1).thn ρ fun v S2 => (mCell n S2).thn ρ fun xs S3 => if xs.length < 100000 then .nx ρ (S3.set n (.lst (xs ++ [v]))) else .no
def sExt (o : ME) (f : MA) : MS := fun ρ S => (mRef o ρ S).thn ρ fun n S1 => (f ρ S1).thn ρ fun vs S2 => (mCell n S2).thn ρ fun xs S3 => if xs.length + vs.length ≤ 100000 then .nx ρ (S3.set n (.lst (xs ++ vs))) else .no
def mInt (i : ME) : Slots → Sto → R Int := fun ρ S => (i ρ S).bind fun l S1 => R.of (isInt l) S1
/-- xs[i] = e -/
def sPut (f o i : ME) : MS := fun ρ S => (f ρ S).thn ρ fun v S1 => (mRef o ρ S1).thn ρ fun n S2 => (mInt i ρ S2).thn ρ fun k S3 => (mCell n S3).thn ρ fun xs S4 => (R.of (ixN xs.length k) S4).thn ρ fun j S5 => .nx ρ (S5.set n (.lst (xs.set j v)))
/-- xs[i] += e, of ints -/
def sAugI (g0 : Int → Int → Int) (o i f : ME) : MS := fun ρ S => (mRef o ρ S).thn ρ fun n S1 => (mInt i ρ S1).thn ρ fun k S2 => (mCell n S2).thn ρ fun xs S3 => (R.of ((atI xs k).bind isInt) S3).thn ρ fun old S4 =>
  (mInt f ρ S4).thn ρ fun b S5 => (mCell n S5).thn ρ fun ys S6 => (R.of (ixN ys.length k) S6).thn ρ fun j S7 => .nx ρ (S7.set n (.lst (ys.set j (.int (g0 old b)))))

section
variable {X : Cx} {cl : Str → Option Addr} {W : WX} {e o a i c : Expr} {es : List Expr} {pos : Pos} {f g h : ME} {m : MA} {o' : ME} {u v : MS} {st : Stmt} {rest : List Stmt}
theorem pb_nil : PBX X cl W [] sNext := ⟨_, pss_nil, fun μ ρ S σ H D hc hs hp => hp μ σ H Grow.refl hc hs⟩
theorem Sv.seq {Z : Kx} {t1 t2 : TS} (h1 : Sv Z W t1 u) (h2 : Sv Z W t2 v) : Sv Z W (tSeq t1 t2) (sSeq u v) := by
  intro μ ρ S σ H D hc hs hp
  refine h1 μ ρ S σ H _ hc hs ?_
  unfold sSeq at hp
  revert hp
  cases u ρ S with
  | nx ρ' S' => exact fun hp μ' σ' H' g' c' s' => h2 μ' ρ' S' σ' H' D c' s' (PostS.shift g' hp)
  | rt _ _ => exact fun hp => hp
  | bk _ _ => exact fun hp => hp
  | ct _ _ => exact fun hp => hp
  | ex _ _ _ => exact fun hp => hp
  | no => exact fun hp => hp
theorem pb_cons (h1 : PSX X cl W st u) (h2 : PBX X cl W rest v) : PBX X cl W (st :: rest) (sSeq u v) :=
  let ⟨_, p1, e1⟩ := h1
  let ⟨_, p2, e2⟩ := h2
  ⟨_, pss_cons p1 p2, e1.seq e2⟩
theorem pb_one (h1 : PSX X cl W st u) : PBX X cl W [st] u := let ⟨_, p1, e1⟩ := h1; ⟨_, pss_one p1, e1⟩
theorem psx_pass : PSX X cl W (.Pass pos) sNext := ⟨_, ps_pass, fun μ ρ S σ H D hc hs hp => hp μ σ H Grow.refl hc hs⟩
theorem psx_break : PSX X cl W (.Break pos) sBrk := ⟨_, ps_break, fun μ ρ S σ H D hc hs hp => hp μ σ H Grow.refl hc hs⟩
theorem psx_cont : PSX X cl W (.Continue pos) sCont := ⟨_, ps_continue, fun μ ρ S σ H D hc hs hp => hp μ σ H Grow.refl hc hs⟩
theorem psx_doc {x : String} {j : Nat} {pos' : Pos} : PSX X cl W (.Expr (.Constant (.str x) j pos) pos') sNext := ⟨_, ps_doc, fun μ ρ S σ H D hc hs hp => hp μ σ H Grow.refl hc hs⟩
theorem psx_never : PSX X cl W st sNo := ⟨_, ps_never, fun μ ρ S σ H D hc hs hp => hp.elim⟩
theorem psx_set (i : Nat) {x : Str} {pos' : Pos} (hN : X.N.Nodup) (he : PX X cl W e f) (hi : X.N[i]? = some x := by rfl) (hx : Loc X.env.scope x := by first | exact Or.inl rfl | exact Or.inr rfl) (hs : swapsWith e (some (.Name x pos')) pos.line X.env = pure false := by rfl)
    (hf : X.fn x = true ∨ X.env.scope.names.lookup x = some .local := by first | exact .inl rfl | exact .inr rfl) : PSX X cl W (.Assign [.Name x pos'] e pos) (sSet i f) := by
  obtain ⟨te, h1, e1⟩ := he
  refine ⟨_, ps_set hN hi hx h1 hs hf, fun μ ρ S σ H D hc hs hp => e1 μ ρ S σ H _ hc hs (PostS.thn hs hp fun μ1 x H1 a S1 _ g c rl s1 p => ?_)⟩
  exact p μ1 _ H1 Grow.refl c (s1.set rl)
theorem psx_asg {tg : Expr} {bd : AV → Slots → Option Slots} (he : PX X cl W e f) (hg : PGX X cl tg bd) (hs : swapsWithSole [tg] e pos.line X.env = pure false := by rfl) (hw : swappedStores [tg] e X.env = pure none := by rfl)
    (hst : (assignEach [tg] X.env).map (·.2) = [assign tg X.env] := by rfl) : PSX X cl W (.Assign [tg] e pos) (sAsg bd f) := by
  obtain ⟨te, h1, e1⟩ := he
  obtain ⟨tg, h2, e2⟩ := hg
  refine ⟨_, ps_asg h1 h2 hs hw hst, fun μ ρ S σ H D hc hs hp => e1 μ ρ S σ H _ hc hs (PostS.thn hs hp fun μ1 x H1 a S1 _ g c rl s1 p => ?_)⟩
  cases e : bd a ρ with
  | none =>
    rw [e] at p
    exact p.elim
  | some ρ' =>
    rw [e] at p
    exact e2 μ1 ρ ρ' S1 σ H1 x a _ c s1 rl e fun σ' s' => p μ1 σ' H1 Grow.refl c s'
theorem psx_expr (he : PX X cl W e f) (hs : swapsWith e none pos.line X.env = pure false := by rfl) : PSX X cl W (.Expr e pos) (sDrop f) := by
  obtain ⟨te, h1, e1⟩ := he
  exact ⟨_, ps_expr h1 hs, fun μ ρ S σ H D hc hs hp => e1 μ ρ S σ H _ hc hs (PostS.thn hs hp fun μ1 x H1 a S1 _ g c rl s1 p => p μ1 σ H1 Grow.refl c s1)⟩
theorem psx_ret (he : PX X cl W e f) : PSX X cl W (.Return (some e) pos) (sRet f) := by
  obtain ⟨te, h1, e1⟩ := he
  exact ⟨_, ps_ret h1, fun μ ρ S σ H D hc hs hp => e1 μ ρ S σ H _ hc hs (PostS.thn hs hp fun μ1 x H1 a S1 _ g c rl s1 p => p μ1 x H1 Grow.refl c rl)⟩
theorem psx_retN : PSX X cl W (.Return none pos) sRetN := ⟨_, ps_retN, fun μ ρ S σ H D hc hs hp => hp μ .non H Grow.refl hc .non⟩
theorem psx_if {b : MB} {yes els : List Stmt} (hc : PTX X cl W c b) (h1 : PBX X cl W yes u) (h2 : PBX X cl W els v) : PSX X cl W (.If c yes els pos) (sIf b u v) := by
  obtain ⟨tc, p0, e0⟩ := hc
  obtain ⟨t1, p1, e1⟩ := h1
  obtain ⟨t2, p2, e2⟩ := h2
  refine ⟨_, ps_if p0 p1 p2, fun μ ρ S σ H D hc hs hp => e0 μ ρ S σ H _ hc hs (PostS.thn hs hp fun μ1 x H1 k S1 _ g c rl s1 p => ?_)⟩
  cases rl
  cases x with
  | true => exact e1 μ1 ρ S1 σ H1 D c s1 p
  | false => exact e2 μ1 ρ S1 σ H1 D c s1 p

/-! methods that change a cell -/
theorem Post.ref {Z : Kx} {μ : List Addr} {H : Hp} {ρ : Slots} {S : Sto} {σ : L2.St} {Q : V → Hp → Prop} {D : Ends} {k : Nat → Sto → SR} (hs : SlotsOk Z μ ρ σ H) (h : PostS Z μ H W D ((mRef o' ρ S).thn ρ k))
    (q : ∀ (μ1 : List Addr) (p : Addr) (H1 : Hp) (n : Nat) (S1 : Sto) (vs : List V), Grow Z μ H μ1 H1 → CellsOk Z μ1 S1 H1 → μ1[n]? = some p → H1 p = some (.lst vs) → SlotsOk Z μ1 ρ σ H1 → PostS Z μ1 H1 W D (k n S1) → Q (.ref p) H1) : Post Z μ H σ W (RlV Z) Q (o' ρ S) := by
  unfold mRef at h
  revert h
  cases o' ρ S with
  | no => exact fun h => h
  | ex e S1 => exact fun h μ' H' cls d g c x => h μ' σ H' cls d g c (hs.grow g) x
  | ok a S1 =>
    intro h μ1 b H1 g c rl
    cases rl with
    | ref hn =>
      obtain ⟨vs, z⟩ := c.tracked (List.mem_of_getElem? hn)
      exact q μ1 _ H1 _ S1 vs g c hn z (hs.grow g) (PostS.shift g h)
    | non => exact h.elim
    | bl b => exact h.elim
    | int b => exact h.elim
    | str b => exact h.elim
    | tup _ _ => exact h.elim
    | rol _ _ => exact h.elim
theorem Post.int {Z : Kx} {μ : List Addr} {H : Hp} {ρ : Slots} {S : Sto} {σ : L2.St} {Q : V → Hp → Prop} {D : Ends} {k : Int → Sto → SR} (hs : SlotsOk Z μ ρ σ H) (h : PostS Z μ H W D ((mInt o' ρ S).thn ρ k))
    (q : ∀ (μ1 : List Addr) (H1 : Hp) (n : Int) (S1 : Sto), Grow Z μ H μ1 H1 → CellsOk Z μ1 S1 H1 → SlotsOk Z μ1 ρ σ H1 → PostS Z μ1 H1 W D (k n S1) → Q (.int n) H1) : Post Z μ H σ W (RlV Z) Q (o' ρ S) := by
  unfold mInt at h
  revert h
  cases o' ρ S with
  | no => exact fun h => h
  | ex e S1 => exact fun h μ' H' cls d g c x => h μ' σ H' cls d g c (hs.grow g) x
  | ok a S1 =>
    intro h μ1 b H1 g c rl
    cases rl with
    | int n => exact q μ1 H1 n S1 g c (hs.grow g) (PostS.shift g h)
    | ref hn => exact h.elim
    | non => exact h.elim
    | bl b => exact h.elim
    | str b => exact h.elim
    | tup _ _ => exact h.elim
    | rol _ _ => exact h.elim
theorem PostS.cell {Z : Kx} {μ : List Addr} {H : Hp} {ρ : Slots} {S : Sto} {D : Ends} {n : Nat} {p : Addr} {k : List AV → Sto → SR} (c : CellsOk Z μ S H) (hn : μ[n]? = some p) (h : PostS Z μ H W D ((mCell n S).thn ρ k)) : ∃ xs vs, H p = some (.lst vs) ∧ Rvs Z μ H vs xs ∧ S[n]? = some (.lst xs) ∧ PostS Z μ H W D (k xs S) := by
  unfold mCell cellOf at h
  revert h
  cases z : S[n]? with
  | none => exact fun h => h.elim
  | some cc =>
    cases cc with
    | lst xs =>
      intro h
      obtain ⟨vs, w1, w2⟩ := c.at_ n _ p z hn
      exact ⟨xs, vs, w1, w2, rfl, h⟩
theorem PostS.opt {Z : Kx} {μ : List Addr} {H : Hp} {ρ : Slots} {S : Sto} {D : Ends} {α : Type} {o : Option α} {k : α → Sto → SR} (h : PostS Z μ H W D ((R.of o S).thn ρ k)) : ∃ a, o = some a ∧ PostS Z μ H W D (k a S) := by
  cases o with
  | none => exact h.elim
  | some a => exact ⟨a, rfl, h⟩
theorem psx_app {p1 p2 p3 : Pos} (ho : PX X cl W o g) (he : PX X cl W e f) (hst : starEach [e] X.env = (false, eval e X.env) :: starEach [] X.env := by rfl) (hbase : attributeBase o "append" X.env (eval o X.env) = eval o X.env := by rfl)
    (hfew : ((backTo p2 (starEach [e] X.env)).all (fun x => !x.1) && (backToKw p2 (keywordEach [] X.env)).all (fun x => x.1.isSome) && decide ([e].length + ([] : List Keyword).length + (if ([] : List Keyword).isEmpty then 0 else 1) < 30)) = true := by rfl)
    (hline : (p1.endLine == p2.line) = true := by rfl) (hpl : (backTo p2 (starEach [] X.env)).any (·.1) = false := by rfl) (hs : swapsWith (.Call (.Attribute o "append" p1) [e] [] p2) none p3.line X.env = pure false := by rfl) : PSX X cl W (.Expr (.Call (.Attribute o "append" p1) [e] [] p2) p3) (sApp g f) := by
  obtain ⟨to, h1, e1⟩ := ho
  obtain ⟨te, h2, e2⟩ := he
  refine ⟨_, ps_expr (pe_bm PySem.F.plainAttrs_list PySem.F.slot_list_append PySem.F.type_list_append mt_append h1 (pa_cons h2 pa_nil hst) hbase hfew hline hst hpl) hs, fun μ ρ S σ H D hc hs hp => ?_⟩
  refine e1 μ ρ S σ H _ hc hs (Post.ref hs hp fun μ1 q H1 n S1 zs k1 c1 hn z1 s1 p1 => ⟨.inl ⟨rfl, zs, SqL.of z1⟩, ?_⟩)
  refine e2 μ1 ρ S1 σ H1 _ c1 s1 (PostS.thn s1 p1 fun μ2 y H2 b S2 _ k2 c2 r2 s2 p2 => ?_)
  have hn2 := k2.pre n q hn
  obtain ⟨xs, vs, w1, w2, w3, p3⟩ := PostS.cell c2 hn2 p2
  by_cases hz : xs.length < 100000
  · simp only [hz, if_true] at p3
    obtain ⟨c3, g3⟩ := c2.put hn2 w1 (w2.append (.cons r2 .nil))
    exact ⟨q, vs, y, rfl, rfl, w1, by rw [w2.len]; exact Nat.lt_of_lt_of_le hz (by decide), p3 μ2 σ _ g3 c3 (s2.grow g3)⟩
  · simp only [hz, if_false] at p3
    exact p3.elim
theorem psx_ext {p1 p2 p3 : Pos} (ho : PX X cl W o g) (he : PLX X cl W e m) (hst : starEach [e] X.env = (false, eval e X.env) :: starEach [] X.env := by rfl) (hbase : attributeBase o "extend" X.env (eval o X.env) = eval o X.env := by rfl)
    (hfew : ((backTo p2 (starEach [e] X.env)).all (fun x => !x.1) && (backToKw p2 (keywordEach [] X.env)).all (fun x => x.1.isSome) && decide ([e].length + ([] : List Keyword).length + (if ([] : List Keyword).isEmpty then 0 else 1) < 30)) = true := by rfl)
    (hline : (p1.endLine == p2.line) = true := by rfl) (hpl : (backTo p2 (starEach [] X.env)).any (·.1) = false := by rfl) (hs : swapsWith (.Call (.Attribute o "extend" p1) [e] [] p2) none p3.line X.env = pure false := by rfl) : PSX X cl W (.Expr (.Call (.Attribute o "extend" p1) [e] [] p2) p3) (sExt g m) := by
  obtain ⟨to, h1, e1⟩ := ho
  obtain ⟨te, h2, e2⟩ := he
  refine ⟨_, ps_expr (pe_bm PySem.F.plainAttrs_list PySem.F.slot_list_extend PySem.F.type_list_extend mt_extend h1 (pa_cons h2 pa_nil hst) hbase hfew hline hst hpl) hs, fun μ ρ S σ H D hc hs hp => ?_⟩
  refine e1 μ ρ S σ H _ hc hs (Post.ref hs hp fun μ1 q H1 n S1 zs k1 c1 hn z1 s1 p1 => ⟨.inl ⟨rfl, zs, SqL.of z1⟩, ?_⟩)
  refine e2 μ1 ρ S1 σ H1 _ c1 s1 (PostS.thn s1 p1 fun μ2 y H2 b S2 _ k2 c2 r2 s2 p2 => ?_)
  obtain ⟨l, ws, rfl, _, nl, hl, rl⟩ := r2
  have hn2 := k2.pre n q hn
  obtain ⟨xs, vs, w1, w2, w3, p3⟩ := PostS.cell c2 hn2 p2
  by_cases hz : xs.length + b.length ≤ 100000
  · simp only [hz, if_true] at p3
    obtain ⟨c3, g3⟩ := c2.put hn2 w1 (w2.append rl)
    exact ⟨q, l, vs, ws, rfl, rfl, w1, hl, by rw [w2.len, rl.len]; exact sz_of hz, p3 μ2 σ _ g3 c3 (s2.grow g3)⟩
  · simp only [hz, if_false] at p3
    exact p3.elim
theorem ixN_lt {n : Nat} {i : Int} {j : Nat} (h : ixN n i = some j) : j < n := (ixN_seq h).2.1
theorem psx_put {ps : Pos} (he : PX X cl W e f) (ho : PX X cl W o g) (hi : PX X cl W i h)
    (ha : ∀ v, assign (.Subscript o i ps) X.env v = (do
      let ov ← holding [v] (eval o X.env)
      let iv ← holding [v, ov] (eval i X.env)
      standAt ps
      holding [v, ov, iv] (setItem ov iv v)
      release [v, ov, iv] []) := by intro _; rfl)
    (hs : swapsWithSole [.Subscript o i ps] e pos.line X.env = pure false := by rfl) (hw : swappedStores [.Subscript o i ps] e X.env = pure none := by rfl) (hst : (assignEach [.Subscript o i ps] X.env).map (·.2) = [assign (.Subscript o i ps) X.env] := by rfl) :
    PSX X cl W (.Assign [.Subscript o i ps] e pos) (sPut f g h) := by
  obtain ⟨te, h1, e1⟩ := he
  obtain ⟨to, h2, e2⟩ := ho
  obtain ⟨ti, h3, e3⟩ := hi
  refine ⟨_, ps_asg h1 (pg_sub h2 h3 set_list ha) hs hw hst, fun μ ρ S σ H D hc hs hp => ?_⟩
  refine e1 μ ρ S σ H _ hc hs (PostS.thn hs hp fun μ1 x H1 a S1 _ k1 c1 r1 s1 p1 => ?_)
  refine e2 μ1 ρ S1 σ H1 _ c1 s1 (Post.ref s1 p1 fun μ2 q H2 n S2 zs k2 c2 hn z2 s2 p2 => ?_)
  refine e3 μ2 ρ S2 σ H2 _ c2 s2 (Post.int s2 p2 fun μ3 H3 k S3 k3 c3 s3 p3 => ?_)
  have hn3 := k3.pre n q hn
  obtain ⟨xs, vs, w1, w2, w3, p4⟩ := PostS.cell c3 hn3 p3
  obtain ⟨j, ej, p5⟩ := PostS.opt p4
  obtain ⟨c5, g5⟩ := c3.put hn3 w1 (w2.set j (k3.rv (k2.rv r1)))
  exact ⟨q, vs, k, j, rfl, rfl, w1, by rw [w2.len]; exact ej, p5 μ3 σ _ g5 c5 (s3.grow g5)⟩
/-- xs[i], read for xs[i] op= e -/
theorem get_lst : PGet X (rIxL X.K) := by
  intro pins s σ H ov iv v u Q I ro ri hh
  obtain ⟨p, xs, k, z, rfl, rfl, hq, he, q⟩ := hh
  cases ro
  obtain ⟨t, rfl⟩ := ri
  obtain ⟨its, rr, pl, hz⟩ := I.list hq
  obtain ⟨j, h1, h2, h3, h4, h5⟩ := atI_get he
  obtain ⟨w, ew, rw'⟩ := rr.get h2
  have hlen := rr.length
  have hbig := line63
  have done : EP X pins σ Q w s := ⟨z, H, I, rw', q⟩
  by_cases h0 : 0 ≤ k
  · have hj : k.toNat = j := Option.some.inj ((seqIndex_of h0 h5).symm.trans h1)
    exact wpAny_getItem_list pl.isList h0 (by omega) (by rw [hj]; simpa using ew) done
  · have hj : (k + (its.toArray.size : Int)).toNat = j := by
      have e := h1
      rw [seqIndex_neg (by omega) h4] at e
      have e' := Option.some.inj e
      simpa [hlen] using e'
    exact wpAny_getItem_list_neg pl.isList (by omega) (by simp; omega) (by omega) (by rw [hj]; simpa using ew) done
theorem psx_augI {op : Operator} {g0 : Int → Int → Int} {ps : Pos} (hip : PIp X op (ipI g0)) (ho : PX X cl W o g) (hi : PX X cl W i h) (he : PX X cl W e f)
    (ha : ∀ ov iv new, augStore i ov iv new = (do holding [new, ov, iv] (setItem ov iv new); release [new, ov, iv] []; pure .next) := by intros; rfl) : PSX X cl W (.AugAssign (.Subscript o i ps) op e pos) (sAugI g0 g h f) := by
  obtain ⟨te, h1, e1⟩ := he
  obtain ⟨to, h2, e2⟩ := ho
  obtain ⟨ti, h3, e3⟩ := hi
  refine ⟨_, ps_augS h2 h3 get_lst h1 hip set_list ha, fun μ ρ S σ H D hc hs hp => ?_⟩
  refine e2 μ ρ S σ H _ hc hs (Post.ref hs hp fun μ1 q H1 n S1 zs k1 c1 hn z1 s1 p1 => ?_)
  refine e3 μ1 ρ S1 σ H1 _ c1 s1 (Post.int s1 p1 fun μ2 H2 k S2 k2 c2 s2 p2 => ?_)
  have hn2 := k2.pre n q hn
  obtain ⟨xs, vs, w1, w2, w3, p3⟩ := PostS.cell c2 hn2 p2
  obtain ⟨old, eo, p4⟩ := PostS.opt p3
  have hat : atI vs k = some (.int old) := by
    unfold atI at eo ⊢
    rw [w2.len]
    cases ej : ixN xs.length k with
    | none =>
      rw [ej] at eo
      cases eo
    | some j =>
      rw [ej] at eo
      simp only [Option.bind] at eo ⊢
      cases ex : xs[j]? with
      | none =>
        rw [ex] at eo
        cases eo
      | some y =>
        rw [ex] at eo
        obtain ⟨vv, hv, rv⟩ := w2.get ex
        cases rv <;> simp [isInt] at eo
        subst eo
        exact hv
  refine ⟨q, vs, k, _, rfl, rfl, SqL.of w1, hat, ?_⟩
  refine e1 μ2 ρ S2 σ H2 _ c2 s2 (Post.int s2 p4 fun μ3 H3 b S3 k3 c3 s3 p5 => ⟨old, b, rfl, rfl, ?_⟩)
  have hn3 := k3.pre n q hn2
  obtain ⟨ys, us, y1, y2, y3, p6⟩ := PostS.cell c3 hn3 p5
  obtain ⟨j, ej, p7⟩ := PostS.opt p6
  obtain ⟨c5, g5⟩ := c3.put hn3 y1 (y2.set j (.int (g0 old b)))
  exact ⟨q, us, k, j, rfl, rfl, y1, by rw [y2.len]; exact ej, p7 μ3 σ _ g5 c5 (s3.grow g5)⟩
end
end Mi
/-! Mi5: walks: for, while, comprehensions. -/
namespace Mi
open PySem PySem.Spec PyProof.Rows L2

/-- the cell that is walked still holds what it held -/
def Still (src : Option Nat) (items : List AV) (S : Sto) : Prop := match src with
  | none => True
  | some n => S[n]? = some (.lst items)
noncomputable instance (src : Option Nat) (items : List AV) (S : Sto) : Decidable (Still src items S) := Classical.propDecidable _

abbrev Src := List AV × Option Nat
/-- J gives the items, one a turn, while the cell walked is still -/
def ItOk (Z : Kx) (μ1 : List Addr) (H1 : Hp) (J : It) (s : Src) : Prop :=
  ∀ (i : Nat) (μ' : List Addr) (S' : Sto) (H' : Hp), Grow Z μ1 H1 μ' H' → CellsOk Z μ' S' H' → Still s.2 s.1 S' →
    (∀ v, s.1[i]? = some v → J.go i H' ∧ ∀ x H'', J.yld i H' x H'' → Grow Z μ' H' μ' H'' ∧ CellsOk Z μ' S' H'' ∧ Rv Z μ' H'' x v) ∧ (i = s.1.length → J.stop i H')
abbrev RlI (Z : Kx) : Rel It Src := fun _ μ H J s => ItOk Z μ H J s
theorem anti_I {Z : Kx} : Anti Z (RlI Z) := fun _ _ _ _ _ _ _ _ _ _ _ h => h
def PIX (X : Cx) (cl : Str → Option Addr) (W : WX) (tg iter : Expr) (f : Slots → Sto → R Src) : Prop := ∃ wi, PI X tg iter wi ∧ Ev ⟨X.K, cl⟩ W (RlI ⟨X.K, cl⟩) wi f

/-! ### what is walked -/
def srcOf (S : Sto) : AV → Option Src
  | .tup xs => some (xs, none)
  | .rol xs => some (xs, none)
  | .ref n => (cellOf S n).map fun xs => (xs, some n)
  | _ => none
def iVal (f : ME) : Slots → Sto → R Src := fun ρ S => (f ρ S).bind fun a S1 => R.of (srcOf S1 a) S1
def iNew (m : MA) : Slots → Sto → R Src := fun ρ S => (m ρ S).bind fun xs S1 => .ok (xs, none) S1
def rngOf (lo hi : Int) : Option Src := if (-100000 ≤ lo ∧ lo ≤ 100000) ∧ (-100000 ≤ hi ∧ hi ≤ 100000) then some ((List.range (hi - lo).toNat).map fun (k : Nat) => AV.int (lo + (k : Int)), none) else none
def iRg1 (f : ME) : Slots → Sto → R Src := fun ρ S => (mInt f ρ S).bind fun n S1 => R.of (rngOf 0 n) S1
def iRg2 (f g : ME) : Slots → Sto → R Src := fun ρ S => (mInt f ρ S).bind fun a S1 => (mInt g ρ S1).bind fun b S2 => R.of (rngOf a b) S2

section
variable {X : Cx} {cl : Str → Option Addr} {W : WX} {tg e : Expr} {es : List Expr} {pos : Pos} {f : ME} {m : MA}
theorem it_tup {Z : Kx} {μ1 : List Addr} {H1 : Hp} {a : Addr} {vs : List V} {xs : List AV} (h : SqT Z.K H1 a vs) (r : Rvs Z μ1 H1 vs xs) : ItOk Z μ1 H1 (Itt Z.K a) (xs, none) := by
  intro i μ' S' H' g c _
  have h' := g.im a vs h
  refine ⟨fun v hv => ?_, fun hi => ⟨vs, h', by rw [r.len, hi]; exact Nat.le_refl _⟩⟩
  obtain ⟨x, hx, rx⟩ := r.get hv
  refine ⟨⟨vs, x, h', hx⟩, fun y H'' hy => ?_⟩
  obtain ⟨rfl, hy⟩ := hy
  have ey : vs[i]? = some y := hy vs h'
  rw [hx] at ey
  cases ey
  exact ⟨Grow.refl, c, g.rv rx⟩
theorem it_lst {Z : Kx} {μ1 : List Addr} {H1 : Hp} {a : Addr} {vs : List V} {xs : List AV} (h : ∀ μ' H', Grow Z μ1 H1 μ' H' → SqL Z.K H' a vs) (r : Rvs Z μ1 H1 vs xs) : ItOk Z μ1 H1 (Itl Z.K a) (xs, none) := by
  intro i μ' S' H' g c _
  have h' := h μ' H' g
  refine ⟨fun v hv => ?_, fun hi => ⟨vs, h', by rw [r.len, hi]; exact Nat.le_refl _⟩⟩
  obtain ⟨x, hx, rx⟩ := r.get hv
  refine ⟨⟨vs, x, h', hx⟩, fun y H'' hy => ?_⟩
  obtain ⟨rfl, hy⟩ := hy
  have ey : vs[i]? = some y := hy vs h'
  rw [hx] at ey
  cases ey
  exact ⟨Grow.refl, c, g.rv rx⟩
theorem it_cell {Z : Kx} {μ1 : List Addr} {H1 : Hp} {a : Addr} {n : Nat} {xs : List AV} (hn : μ1[n]? = some a) : ItOk Z μ1 H1 (Itl Z.K a) (xs, some n) := by
  intro i μ' S' H' g c st
  obtain ⟨vs, h1, r⟩ := c.at_ n _ a st (g.pre n a hn)
  have h' : SqL Z.K H' a vs := SqL.of h1
  refine ⟨fun v hv => ?_, fun hi => ⟨vs, h', by rw [r.len, hi]; exact Nat.le_refl _⟩⟩
  obtain ⟨x, hx, rx⟩ := r.get hv
  refine ⟨⟨vs, x, h', hx⟩, fun y H'' hy => ?_⟩
  obtain ⟨rfl, hy⟩ := hy
  have ey : vs[i]? = some y := hy vs h'
  rw [hx] at ey
  cases ey
  exact ⟨Grow.refl, c, rx⟩
theorem it_rng {Z : Kx} {μ1 : List Addr} {H1 : Hp} {lo : Int} {n : Nat} : ItOk Z μ1 H1 (Itr lo n) ((List.range n).map fun (k : Nat) => AV.int (lo + (k : Int)), none) := by
  intro i μ' S' H' g c _
  refine ⟨fun v hv => ?_, fun hi => ?_⟩
  · rw [List.getElem?_map] at hv
    have hi : i < n := by
      cases e : (List.range n)[i]? with
      | none =>
        rw [e] at hv
        cases hv
      | some k =>
        have := (List.getElem?_eq_some_iff.mp e).1
        simpa using this
    rw [List.getElem?_range hi] at hv
    cases hv
    refine ⟨hi, fun y H'' hy => ?_⟩
    obtain ⟨rfl, rfl⟩ := hy
    exact ⟨Grow.refl, c, .int _⟩
  · show n ≤ i
    rw [hi]
    simp
/-- an iterator over a list, a tuple, just asked for -/
theorem begin_list {pins : List (Addr × Obj)} {s : Shared} {σ : L2.St} {H : Hp} {R' : It → Hp → Prop} {E : Value → Shared → Prop} {a : Addr} {vs : List V} (I : Inv X pins σ H s) (h : SqL X.K H a vs) (q : R' (Itl X.K a) H) : wpAny (model X.prog X.w) X.A (pyIter (.ref a)) (PIE X pins σ tg R') E s := by
  obtain ⟨its, _, pl, _⟩ := I.list h
  have fresh : H s.heap.objs.size = none := I.hok.fresh (Nat.le_refl _)
  exact wpAny_pyIter_list pl.isList ⟨_, [s.heap.objs.size], _, _, H, rfl, I.kept (t' := s.toks) fun _ _ k => Heap.get?_push_of_some _ k, turn_list a _, ⟨_, Heap.get?_push_size _ rfl, rfl, rfl⟩, fun b hb => by
    cases List.mem_singleton.mp hb
    exact I.fpOk (Nat.le_refl _) fresh, q⟩
theorem begin_tuple {pins : List (Addr × Obj)} {s : Shared} {σ : L2.St} {H : Hp} {R' : It → Hp → Prop} {E : Value → Shared → Prop} {a : Addr} {vs : List V} (I : Inv X pins σ H s) (h : SqT X.K H a vs) (q : R' (Itt X.K a) H) : wpAny (model X.prog X.w) X.A (pyIter (.ref a)) (PIE X pins σ tg R') E s := by
  obtain ⟨its, _, pl, _⟩ := I.tuple h
  have fresh : H s.heap.objs.size = none := I.hok.fresh (Nat.le_refl _)
  exact wpAny_pyIter_tuple (show s.heap.IsTuple a its.toArray from pl) ⟨_, [s.heap.objs.size], _, _, H, rfl, I.kept (t' := s.toks) fun _ _ k => Heap.get?_push_of_some _ k, turn_tuple a _, ⟨_, Heap.get?_push_size _ rfl, rfl, rfl⟩, fun b hb => by
    cases List.mem_singleton.mp hb
    exact I.fpOk (Nat.le_refl _) fresh, q⟩
/-- a list or a tuple, whichever it is -/
def iAny (K : PySem.W.Frag) (tl : TE) : TI := fun σ H R' => tl σ H fun x H1 => ∃ a, x = .ref a ∧ ((∃ vs, SqL K H1 a vs ∧ R' (Itl K a) H1) ∨ ∃ vs, SqT K H1 a vs ∧ R' (Itt K a) H1)
theorem pi_any {tl : TE} (hl : PE X e tl) : PI X tg e (iAny X.K tl) := by
  refine ⟨fun pins s σ H R' I h => thn (hl.run pins s σ H _ I h) fun v s1 ⟨x, H1, I1, r1, q1⟩ => ?_⟩
  obtain ⟨a, rfl, q1⟩ := q1
  cases r1
  rcases q1 with ⟨vs, h1, q⟩ | ⟨vs, h1, q⟩
  · exact begin_list I1 h1 q
  · exact begin_tuple I1 h1 q
theorem pix_val (h : PX X cl W e f) : PIX X cl W tg e (iVal f) := by
  obtain ⟨te, h1, e1⟩ := h
  refine ⟨_, pi_any h1, fun μ ρ S σ H Q hc hs hp => e1 μ ρ S σ H _ hc hs (Post.bind anti_I hp fun μ1 x H1 a S1 _ g c rl p => ?_)⟩
  cases rl with
  | tup h2 h3 => exact ⟨_, rfl, .inr ⟨_, h2, p μ1 _ H1 Grow.refl c (it_tup h2 h3)⟩⟩
  | rol h2 h3 => exact ⟨_, rfl, .inl ⟨_, h2.sq, p μ1 _ H1 Grow.refl c (it_lst (fun _ _ g => (g.il _ _ h2).sq) h3)⟩⟩
  | ref hn =>
    rename_i n q _
    obtain ⟨vs, z⟩ := c.tracked (List.mem_of_getElem? hn)
    cases e : cellOf S1 n with
    | none =>
      have p' : Post ⟨X.K, cl⟩ μ1 H1 σ W (RlI ⟨X.K, cl⟩) Q (R.of ((cellOf S1 n).map fun xs => (xs, some n)) S1) := p
      rw [e] at p'
      exact p'.elim
    | some xs =>
      have p' : Post ⟨X.K, cl⟩ μ1 H1 σ W (RlI ⟨X.K, cl⟩) Q (R.of ((cellOf S1 n).map fun xs => (xs, some n)) S1) := p
      rw [e] at p'
      exact ⟨_, rfl, .inl ⟨vs, SqL.of z, p' μ1 _ H1 Grow.refl c (it_cell hn)⟩⟩
  | non => exact p.elim
  | bl b => exact p.elim
  | int b => exact p.elim
  | str b => exact p.elim
theorem pix_new (h : PLX X cl W e m) : PIX X cl W tg e (iNew m) := by
  obtain ⟨te, h1, e1⟩ := h
  refine ⟨_, pi_list h1, fun μ ρ S σ H Q hc hs hp => e1 μ ρ S σ H _ hc hs (Post.bind anti_I hp fun μ1 x H1 xs S1 _ g c rl p => ?_)⟩
  obtain ⟨l, vs, rfl, _, nl, hl, r⟩ := rl
  exact ⟨l, rfl, ⟨vs, SqL.of hl⟩, p μ1 _ H1 Grow.refl c (it_lst (fun _ _ g => SqL.of (g.fr l _ nl hl)) r)⟩
theorem Post.intE {β α : Type} {Z : Kx} {Rl : Rel β α} (hA : Anti Z Rl) {μ : List Addr} {H : Hp} {σ : L2.St} {Q : V → Hp → Prop} {Q2 : β → Hp → Prop} {r : R AV} {k : Int → Sto → R α} (h : Post Z μ H σ W Rl Q2 ((r.bind fun l S1 => R.of (isInt l) S1).bind k))
    (q : ∀ (μ1 : List Addr) (H1 : Hp) (n : Int) (S1 : Sto), Grow Z μ H μ1 H1 → CellsOk Z μ1 S1 H1 → Post Z μ1 H1 σ W Rl Q2 (k n S1) → Q (.int n) H1) : Post Z μ H σ W (RlV Z) Q r := by
  revert h
  cases r with
  | no => exact fun h => h
  | ex e S1 => exact fun h => h
  | ok a S1 =>
    intro h μ1 b H1 g c rl
    cases rl with
    | int n => exact q μ1 H1 n S1 g c (Post.shift hA g c h)
    | ref hn => exact h.elim
    | non => exact h.elim
    | bl b => exact h.elim
    | str b => exact h.elim
    | tup _ _ => exact h.elim
    | rol _ _ => exact h.elim
theorem rngOf_some {lo hi : Int} {s : Src} (e : rngOf lo hi = some s) : ((-100000 ≤ lo ∧ lo ≤ 100000) ∧ (-100000 ≤ hi ∧ hi ≤ 100000)) ∧ s = ((List.range (hi - lo).toNat).map fun (k : Nat) => AV.int (lo + (k : Int)), none) := by
  unfold rngOf at e
  split at e
  · rename_i h
    exact ⟨h, (Option.some.inj e).symm⟩
  · cases e
theorem pix_rng1 {a : Expr} {p : Pos} (hg : Gl X "range") (hm : X.mg "range" = none) (ha : PX X cl W a f) (hs : starEach [a] X.env = [(false, eval a X.env)] := by rfl) : PIX X cl W tg (.Call (.Name "range" p) [a] [] pos) (iRg1 f) := by
  obtain ⟨ta, h1, e1⟩ := ha
  refine ⟨_, pi_range1 hg hm (pa_cons h1 pa_nil (by rw [hs]; rfl)) hs, fun μ ρ S σ H Q hc hs hp => e1 μ ρ S σ H _ hc hs (Post.intE anti_I hp fun μ1 H1 n S1 g c p => ?_)⟩
  cases e : rngOf 0 n with
  | none =>
    rw [e] at p
    exact p.elim
  | some s =>
    rw [e] at p
    obtain ⟨hb, rfl⟩ := rngOf_some e
    refine ⟨n, rfl, by omega, by omega, p μ1 _ H1 Grow.refl c ?_⟩
    have q := it_rng (Z := ⟨X.K, cl⟩) (μ1 := μ1) (H1 := H1) (lo := 0) (n := n.toNat)
    rw [show (n - 0).toNat = n.toNat by omega]
    exact q
theorem pix_rng2 {a b : Expr} {g : ME} {p : Pos} (hg : Gl X "range") (hm : X.mg "range" = none) (ha : PX X cl W a f) (hb : PX X cl W b g) (hs : starEach [a, b] X.env = [(false, eval a X.env), (false, eval b X.env)] := by rfl) (hs2 : starEach [b] X.env = [(false, eval b X.env)] := by rfl) : PIX X cl W tg (.Call (.Name "range" p) [a, b] [] pos) (iRg2 f g) := by
  obtain ⟨ta, h1, e1⟩ := ha
  obtain ⟨tb, h2, e2⟩ := hb
  refine ⟨_, pi_range2 hg hm (pa_cons h1 (pa_cons h2 pa_nil (by rw [hs2]; rfl)) (by rw [hs, hs2])) hs hs2, fun μ ρ S σ H Q hc hs hp => e1 μ ρ S σ H _ hc hs (Post.intE anti_I hp fun μ1 H1 i S1 g1 c1 p1 => ?_)⟩
  refine e2 μ1 ρ S1 σ H1 _ c1 (hs.grow g1) (Post.intE anti_I p1 fun μ2 H2 j S2 g2 c2 p2 => ?_)
  cases e : rngOf i j with
  | none =>
    rw [e] at p2
    exact p2.elim
  | some s =>
    rw [e] at p2
    obtain ⟨hb, rfl⟩ := rngOf_some e
    exact ⟨i, j, rfl, by omega, p2 μ2 _ H2 Grow.refl c2 it_rng⟩

/-! ### for -/
end
/-- the turns: binding, body -/
noncomputable def turns (src : Option Nat) (all : List AV) (bd : AV → Slots → Option Slots) (body : MS) : List AV → MS
  | [] => fun ρ S => if Still src all S then .nx ρ S else .no
  | v :: vs => fun ρ S => if Still src all S then
      match bd v ρ with
      | none => .no
      | some ρ1 => match body ρ1 S with
        | .nx ρ' S' => turns src all bd body vs ρ' S'
        | .ct ρ' S' => turns src all bd body vs ρ' S'
        | .bk ρ' S' => .nx ρ' S'
        | .rt v S' => .rt v S'
        | .ex e ρ' S' => .ex e ρ' S'
        | .no => .no
    else .no
noncomputable def sFor (it : Slots → Sto → R Src) (bd : AV → Slots → Option Slots) (body : MS) : MS := fun ρ S => (it ρ S).thn ρ fun s S1 => turns s.2 s.1 bd body s.1 ρ S1
/-- a while of at most so many turns -/
def spins (c : MB) (body : MS) : Nat → MS
  | 0 => fun _ _ => .no
  | n + 1 => fun ρ S => (c ρ S).thn ρ fun k S1 => if k then
      match body ρ S1 with
      | .nx ρ' S' => spins c body n ρ' S'
      | .ct ρ' S' => spins c body n ρ' S'
      | .bk ρ' S' => .nx ρ' S'
      | .rt v S' => .rt v S'
      | .ex e ρ' S' => .ex e ρ' S'
      | .no => .no
    else .nx ρ S1
section
variable {X : Cx} {cl : Str → Option Addr} {W : WX} {tg e c : Expr} {body : List Stmt} {pos : Pos} {it : Slots → Sto → R Src} {bd : AV → Slots → Option Slots} {b : MS} {u : MB}
theorem psx_for (hp : PassesOwn (model X.prog X.w) X.A X.env X.xe) (hcm : X.calm = true) (hi : PIX X cl W tg e it) (hg : PGX X cl tg bd) (hb : PBX X cl W body b) (hs : ∀ x, foldedSetIterable e X.env x = pure x := by intro _; rfl) : PSX X cl W (.For tg e body [] pos) (sFor it bd b) := by
  obtain ⟨wi, h1, e1⟩ := hi
  obtain ⟨g, h2, e2⟩ := hg
  obtain ⟨tb, h3, e3⟩ := hb
  refine ⟨_, ps_for hp hcm h1 h2 h3 hs, fun μ ρ S σ H D hc hs hp => e1 μ ρ S σ H _ hc hs (PostS.thn hs hp fun μ1 J H1 s S1 _ g1 c1 io s1 p => ?_)⟩
  refine ⟨fun i m σ2 H2 => i + m = s.1.length ∧ ∃ μ2 ρ2 S2, Grow ⟨X.K, cl⟩ μ1 H1 μ2 H2 ∧ CellsOk ⟨X.K, cl⟩ μ2 S2 H2 ∧ SlotsOk ⟨X.K, cl⟩ μ2 ρ2 σ2 H2 ∧ PostS ⟨X.K, cl⟩ μ2 H2 W D (turns s.2 s.1 bd b (s.1.drop i) ρ2 S2),
    ⟨s.1.length, by omega, μ1, ρ, S1, Grow.refl, c1, s1, by simpa using p⟩, ?_⟩
  rintro i m σ2 H2 ⟨him, μ2, ρ2, S2, g2, c2, s2, p2⟩
  have hst : Still s.2 s.1 S2 := by
    cases hd : s.1.drop i with
    | nil =>
      rw [hd] at p2
      unfold turns at p2
      by_cases h : Still s.2 s.1 S2
      · exact h
      · rw [if_neg h] at p2
        exact p2.elim
    | cons v vs =>
      rw [hd] at p2
      unfold turns at p2
      by_cases h : Still s.2 s.1 S2
      · exact h
      · rw [if_neg h] at p2
        exact p2.elim
  obtain ⟨go, stop⟩ := io i μ2 S2 H2 g2 c2 hst
  cases hd : s.1.drop i with
  | nil =>
    rw [hd] at p2
    have hle : s.1.length ≤ i := by
      have := congrArg List.length hd
      simp at this
      omega
    unfold turns at p2
    rw [if_pos hst] at p2
    exact .inl ⟨stop (by omega), p2 μ2 σ2 H2 Grow.refl c2 s2⟩
  | cons v vs =>
    have hv : s.1[i]? = some v := by
      have := congrArg (fun l => l[0]?) hd
      simpa using this
    have hvs : s.1.drop (i + 1) = vs := by
      have := congrArg List.tail hd
      simpa [List.tail_drop] using this
    rw [hd] at p2
    unfold turns at p2
    rw [if_pos hst] at p2
    have hm : m ≠ 0 := by
      have := (List.getElem?_eq_some_iff.mp hv).1
      omega
    obtain ⟨hgo, hy⟩ := go v hv
    refine .inr ⟨hgo, fun σ' H' => ∃ μ' ρ' S', Grow ⟨X.K, cl⟩ μ1 H1 μ' H' ∧ CellsOk ⟨X.K, cl⟩ μ' S' H' ∧ SlotsOk ⟨X.K, cl⟩ μ' ρ' σ' H' ∧ PostS ⟨X.K, cl⟩ μ' H' W D (turns s.2 s.1 bd b vs ρ' S'), fun σ' H' hN => ?_, fun x H' hyy => ?_⟩
    · obtain ⟨μ', ρ', S', k1, k2, k3, k4⟩ := hN
      exact ⟨m - 1, by omega, by omega, μ', ρ', S', k1, k2, k3, by rw [hvs]; exact k4⟩
    · obtain ⟨g3, c3, r3⟩ := hy x H' hyy
      cases hb : bd v ρ2 with
      | none =>
        rw [hb] at p2
        exact p2.elim
      | some ρ3 =>
        rw [hb] at p2
        refine e2 μ2 ρ2 ρ3 S2 σ2 H' x v _ c3 (s2.grow g3) r3 hb fun σ3 s3 => ?_
        refine e3 μ2 ρ3 S2 σ3 H' _ c3 s3 ?_
        have p3 := PostS.shift g3 p2
        revert p3
        simp only
        cases b ρ3 S2 with
        | nx ρ' S' => exact fun p3 μ' σ' H'' g' c' s' => ⟨μ', ρ', S', (g2.trans g3).trans g', c', s', PostS.shift g' p3⟩
        | ct ρ' S' => exact fun p3 μ' σ' H'' g' c' s' => ⟨μ', ρ', S', (g2.trans g3).trans g', c', s', PostS.shift g' p3⟩
        | bk ρ' S' => exact fun p3 => p3
        | rt v S' => exact fun p3 => p3
        | ex e ρ' S' => exact fun p3 => p3
        | no => exact fun p3 => p3
theorem psx_while (n : Nat) (hp : PassesOwn (model X.prog X.w) X.A X.env X.xe) (hc : PTX X cl W c u) (hb : PBX X cl W body b) : PSX X cl W (.While c body [] pos) (spins u b n) := by
  obtain ⟨tc, h1, e1⟩ := hc
  obtain ⟨tb, h2, e2⟩ := hb
  refine ⟨_, ps_while hp h1 h2, fun μ ρ S σ H D hc hs hp => ?_⟩
  refine ⟨fun m σ2 H2 => ∃ μ2 ρ2 S2, CellsOk ⟨X.K, cl⟩ μ2 S2 H2 ∧ SlotsOk ⟨X.K, cl⟩ μ2 ρ2 σ2 H2 ∧ PostS ⟨X.K, cl⟩ μ2 H2 W D (spins u b m ρ2 S2), ⟨n, μ, ρ, S, hc, hs, hp⟩, ?_⟩
  rintro m σ2 H2 ⟨μ2, ρ2, S2, c2, s2, p2⟩
  cases m with
  | zero => exact p2.elim
  | succ m =>
    refine e1 μ2 ρ2 S2 σ2 H2 _ c2 s2 (PostS.thn s2 p2 fun μ3 k H3 a S3 _ g3 c3 rl s3 p3 => ?_)
    cases rl
    cases k with
    | false => exact p3 μ3 σ2 H3 Grow.refl c3 s3
    | true =>
      refine ⟨fun σ' H' => ∃ μ' ρ' S', CellsOk ⟨X.K, cl⟩ μ' S' H' ∧ SlotsOk ⟨X.K, cl⟩ μ' ρ' σ' H' ∧ PostS ⟨X.K, cl⟩ μ' H' W D (spins u b m ρ' S'), fun σ' H' hN => ⟨m, Nat.lt_succ_self m, hN⟩, ?_⟩
      refine e2 μ3 ρ2 S3 σ2 H3 _ c3 s3 ?_
      revert p3
      simp only [if_true]
      cases b ρ2 S3 with
      | nx ρ' S' => exact fun p3 μ' σ' H'' g' c' s' => ⟨μ', ρ', S', c', s', PostS.shift g' p3⟩
      | ct ρ' S' => exact fun p3 μ' σ' H'' g' c' s' => ⟨μ', ρ', S', c', s', PostS.shift g' p3⟩
      | bk ρ' S' => exact fun p3 => p3
      | rt v S' => exact fun p3 => p3
      | ex e ρ' S' => exact fun p3 => p3
      | no => exact fun p3 => p3
end
end Mi
/-! Mi6: comprehensions; calls of the program's own; a def. -/
namespace Mi
open PySem PySem.Spec PyProof.Rows L2

/-- the reading that hangs on the mirror alone -/
def can {β α : Type} (Z : Kx) (W : WX) (Rl : Rel β α) (f : Slots → Sto → R α) : L2.St → Hp → (β → Hp → Prop) → Prop :=
  fun σ H Q => ∃ (μ : List Addr) (ρ : Slots) (S : Sto), CellsOk Z μ S H ∧ SlotsOk Z μ ρ σ H ∧ Post Z μ H σ W Rl Q (f ρ S)
theorem can_ev {β α : Type} {Z : Kx} {W : WX} {Rl : Rel β α} {f : Slots → Sto → R α} : Ev Z W Rl (can Z W Rl f) f := fun μ ρ S σ H Q hc hs hp => ⟨μ, ρ, S, hc, hs, hp⟩
def R.nox {α : Type} : R α → R α
  | .ok a S => .ok a S
  | _ => .no
abbrev WF : WX := fun _ _ _ _ => False

/-! ### targets of a comprehension: a name, or a row of names -/
inductive Tg where
  | n (i : Nat) | t (is : List Nat)
def gFlat : List Nat → TGs
  | [] => gNil
  | i :: is => gCons (gName i) (gFlat is)
def tgOf (K : PySem.W.Frag) : Tg → TG
  | .n i => gName i
  | .t is => gTup K is.length (gFlat is)
def setAll {α : Type} : List Nat → List α → List (Option α) → List (Option α)
  | i :: is, x :: xs, σ => setAll is xs (σ.set i (some x))
  | _, _, σ => σ
def bdOf : Tg → AV → Slots → Option Slots
  | .n i, v, ρ => some (ρ.set i (some v))
  | .t is, .tup xs, ρ => if xs.length = is.length then some (setAll is xs ρ) else none
  | .t _, _, _ => none
def Tg.places : Tg → List Nat
  | .n i => [i]
  | .t is => is
def wipeA (ρ : Slots) : List Nat → Slots
  | [] => ρ
  | v :: vs => (wipeA ρ vs).set v none
theorem wipe_set {σ : L2.St} {i : Nat} {x : Option V} : ∀ {vs : List Nat}, i ∈ vs → wipe (σ.set i x) vs = wipe σ vs
  | v :: vs, h => by
    show (wipe (σ.set i x) vs).set v none = (wipe σ vs).set v none
    by_cases hv : i ∈ vs
    · rw [wipe_set hv]
    · have e : i = v := by
        rcases List.mem_cons.mp h with q | q
        · exact q
        · exact absurd q hv
      subst e
      rw [wipe_swap hv, List.set_set]
where wipe_swap {σ : L2.St} {i : Nat} {x : Option V} : ∀ {vs : List Nat}, i ∉ vs → wipe (σ.set i x) vs = (wipe σ vs).set i x
  | [], _ => rfl
  | v :: vs, h => by
    show (wipe (σ.set i x) vs).set v none = ((wipe σ vs).set v none).set i x
    rw [wipe_swap (fun q => h (List.mem_cons_of_mem _ q)), List.set_comm]
    intro e
    exact h (by rw [e]; exact List.mem_cons_self ..)
theorem wipe_all {is : List Nat} {xs : List V} {vs : List Nat} : ∀ {σ : L2.St}, (∀ i ∈ is, i ∈ vs) → wipe (setAll is xs σ) vs = wipe σ vs := by
  induction is generalizing xs with
  | nil => intro σ h; cases xs <;> rfl
  | cons i is ih =>
    intro σ h
    cases xs with
    | nil => rfl
    | cons x xs =>
      show wipe (setAll is xs (σ.set i (some x))) vs = wipe σ vs
      rw [ih (fun j hj => h j (List.mem_cons_of_mem _ hj)), wipe_set (h i (List.mem_cons_self ..))]
theorem wipe_none {σ : L2.St} : ∀ {vs : List Nat} {i : Nat}, i ∈ vs → i < σ.length → (wipe σ vs)[i]? = some none
  | v :: vs, i, h, hl => by
    show ((wipe σ vs).set v none)[i]? = some none
    rw [List.getElem?_set]
    by_cases e : v = i
    · rw [if_pos e, if_pos (by rw [wipe_length]; omega)]
    · rw [if_neg e]
      rcases List.mem_cons.mp h with q | q
      · exact absurd q.symm e
      · exact wipe_none q hl
theorem wipe_wipe {σ : L2.St} {vs : List Nat} : wipe (wipe σ vs) vs = wipe σ vs := by
  apply List.ext_getElem?
  intro i
  by_cases h : i ∈ vs
  · by_cases hl : i < σ.length
    · rw [wipe_none h (by rw [wipe_length]; exact hl), wipe_none h hl]
    · rw [List.getElem?_eq_none (by rw [wipe_length, wipe_length]; omega), List.getElem?_eq_none (by rw [wipe_length]; omega)]
  · rw [wipe_out h]
section
variable {Z : Kx} {μ : List Addr} {H : Hp} {ρ : Slots} {σ : L2.St}
theorem SlotsOk.unset (h : SlotsOk Z μ ρ σ H) (i : Nat) : SlotsOk Z μ (ρ.set i none) (σ.set i none) H := by
  refine ⟨by simp [h.len], fun j x e => ?_⟩
  rw [List.getElem?_set] at e ⊢
  by_cases hij : i = j
  · rw [if_pos hij] at e
    split at e <;> cases e
  · rw [if_neg hij] at e ⊢
    exact h.at_ j x e
theorem SlotsOk.wipe (h : SlotsOk Z μ ρ σ H) : ∀ vs : List Nat, SlotsOk Z μ (wipeA ρ vs) (L2.wipe σ vs) H
  | [] => h
  | v :: vs => (SlotsOk.wipe h vs).unset v
theorem SlotsOk.all (is : List Nat) : ∀ {ρ : Slots} {σ : L2.St} {xs : List V} {ys : List AV}, SlotsOk Z μ ρ σ H → Rvs Z μ H xs ys → SlotsOk Z μ (setAll is ys ρ) (setAll is xs σ) H := by
  induction is with
  | nil =>
    intro ρ σ xs ys h r
    cases r <;> exact h
  | cons i is ih =>
    intro ρ σ xs ys h r
    cases r with
    | nil => exact h
    | cons r1 r2 => exact ih (h.set r1) r2
theorem gFlat_ok {Q : L2.St → Hp → Prop} (is : List Nat) : ∀ {σ : L2.St} {xs : List V}, xs.length = is.length → Q (setAll is xs σ) H → gFlat is xs σ H Q := by
  induction is with
  | nil =>
    intro σ xs e q
    cases xs with
    | nil => exact ⟨rfl, q⟩
    | cons _ _ => cases e
  | cons i is ih =>
    intro σ xs e q
    cases xs with
    | nil => cases e
    | cons x xs => exact ⟨x, xs, rfl, ih (by simpa using e) q⟩
/-- the target is bound: the slots of the comprehension's own alone change -/
theorem tg_ok {t : Tg} {vs : List Nat} {x : V} {v : AV} {ρ' : Slots} {Q : L2.St → Hp → Prop} (hs : SlotsOk Z μ ρ σ H) (r : Rv Z μ H x v) (e : bdOf t v ρ = some ρ') (hp : ∀ i ∈ t.places, i ∈ vs)
    (q : ∀ σ', SlotsOk Z μ ρ' σ' H → wipe σ' vs = wipe σ vs → Q σ' H) : tgOf Z.K t x σ H Q := by
  cases t with
  | n i =>
    cases e
    exact q _ (hs.set r) (wipe_set (hp i (List.mem_singleton.mpr rfl)))
  | t is =>
    cases r with
    | tup h1 h2 =>
      rename_i a ws xs
      have e' : (if xs.length = is.length then some (setAll is xs ρ) else none) = some ρ' := e
      by_cases hl : xs.length = is.length
      · rw [if_pos hl] at e'
        cases e'
        have hw : ws.length = is.length := h2.len.trans hl
        exact ⟨a, ws, rfl, h1, hw, gFlat_ok is hw (q _ (SlotsOk.all is hs h2) (wipe_all hp))⟩
      · rw [if_neg hl] at e'
        cases e'
    | non => cases e
    | bl b => cases e
    | int b => cases e
    | str b => cases e
    | rol _ _ => cases e
    | ref _ => cases e
end

/-! ### the comprehension -/
noncomputable def compT (src : Option Nat) (all : List AV) (t : Tg) (c : MB) (f : ME) : List AV → Slots → Sto → R (List AV)
  | [] => fun ρ S => if Still src all S then .ok [] S else .no
  | v :: vs => fun ρ S => if Still src all S then
      match bdOf t v ρ with
      | none => .no
      | some ρ1 => (R.nox (c ρ1 S)).bind fun k S1 => if k then (R.nox (f ρ1 S1)).bind fun y S2 => (compT src all t c f vs ρ S2).bind fun ys S3 => .ok (y :: ys) S3 else compT src all t c f vs ρ S1
    else .no
noncomputable def lComp (own : List Nat) (it : Slots → Sto → R Src) (t : Tg) (c : MB) (f : ME) : MA := fun ρ S => (it ρ S).bind fun s S1 => if s.1.length ≤ 100000 then compT s.2 s.1 t c f s.1 (wipeA ρ own) S1 else .no
def bYes : MB := fun _ S => .ok true S

section
variable {Z : Kx} {W : WX} {wi : TI} {it : Slots → Sto → R Src} {c : MB} {f : ME} {t : Tg} {own : List Nat}
theorem R.bind_bind {α β γ : Type} (r : R α) (k : α → Sto → R β) (l : β → Sto → R γ) : (r.bind k).bind l = r.bind fun a S => (k a S).bind l := by cases r <;> rfl
theorem R.bind_ok {α : Type} (r : R α) : (r.bind fun a S => .ok a S) = r := by cases r <;> rfl
theorem nox_some {α β : Type} {Rl : Rel β α} {μ : List Addr} {H : Hp} {σ : L2.St} {Q : β → Hp → Prop} {r : R α} {γ δ : Type} {Rl2 : Rel γ δ} {μ0 : List Addr} {H0 : Hp} {σ0 : L2.St} {Q2 : γ → Hp → Prop} {k : α → Sto → R δ} (h : Post Z μ0 H0 σ0 W Rl2 Q2 ((R.nox r).bind k))
    (q : ∀ (μ1 : List Addr) (b : β) (H1 : Hp) (a : α) (S1 : Sto), Grow Z μ H μ1 H1 → CellsOk Z μ1 S1 H1 → Rl H μ1 H1 b a → Post Z μ0 H0 σ0 W Rl2 Q2 (k a S1) → Q b H1) : Post Z μ H σ WF Rl Q r := by
  cases r with
  | ok a S => exact fun μ1 b H1 g c' rl => q μ1 b H1 a S g c' rl h
  | ex e S => exact h.elim
  | no => exact h.elim
theorem ev_lc (hi : Ev Z W (RlI Z) wi it) (hp : ∀ i ∈ t.places, i ∈ own) : Ev Z W (RlL Z) (tLc wi (tgOf Z.K t) (can Z WF RlB c) (can Z WF (RlV Z) f) own) (lComp own it t c f) := by
  intro μ ρ S σ H Q hc hs hpo
  refine hi μ ρ S σ H _ hc hs (Post.bind anti_L hpo fun μ1 J H1 s S1 _ g1 c1 io p1 => ?_)
  by_cases hz : s.1.length ≤ 100000
  case neg =>
    rw [if_neg hz] at p1
    exact p1.elim
  rw [if_pos hz] at p1
  intro D nD
  have sw := (hs.grow g1).wipe own
  have k0 := new_keep (o := .lst []) nD
  have G0 : Grow Z μ1 H1 μ1 (upd H1 D (.lst [])) := Grow.same k0
  refine ⟨fun i m H2 => i + m = s.1.length ∧ ∃ μ2 S2 acc ws, Grow Z μ1 H1 μ2 H2 ∧ CellsOk Z μ2 S2 H2 ∧ D ∉ μ2 ∧ H2 D = some (.lst ws) ∧ Rvs Z μ2 H2 ws acc ∧ acc.length ≤ i ∧
      Post Z μ1 H1 σ W (RlL Z) Q ((compT s.2 s.1 t c f (s.1.drop i) (wipeA ρ own) S2).bind fun ys S3 => .ok (acc ++ ys) S3),
    ⟨s.1.length, by omega, μ1, S1, [], [], G0, c1.keep k0, c1.notin nD, upd_same, .nil, Nat.le_refl _, by simpa [R.bind_ok] using p1⟩, ?_⟩
  rintro i m H2 ⟨him, μ2, S2, acc, ws, g2, c2, nd2, hD2, r2, hacc, p2⟩
  have hst : Still s.2 s.1 S2 := by
    cases hd : s.1.drop i with
    | nil =>
      rw [hd] at p2
      unfold compT at p2
      by_cases h : Still s.2 s.1 S2
      · exact h
      · rw [if_neg h] at p2
        exact p2.elim
    | cons v vs =>
      rw [hd] at p2
      unfold compT at p2
      by_cases h : Still s.2 s.1 S2
      · exact h
      · rw [if_neg h] at p2
        exact p2.elim
  obtain ⟨go, stop⟩ := io i μ2 S2 H2 g2 c2 hst
  cases hd : s.1.drop i with
  | nil =>
    rw [hd] at p2
    have hle : s.1.length ≤ i := by
      have := congrArg List.length hd
      simp at this
      omega
    unfold compT at p2
    rw [if_pos hst] at p2
    have p3 : Post Z μ1 H1 σ W (RlL Z) Q (.ok acc S2) := by simpa [R.bind] using p2
    exact .inl ⟨stop (by omega), p3 μ2 _ H2 g2 c2 ⟨D, ws, rfl, nD, nd2, hD2, r2⟩⟩
  | cons v vs =>
    have hv : s.1[i]? = some v := by
      have := congrArg (fun l => l[0]?) hd
      simpa using this
    have hvs : s.1.drop (i + 1) = vs := by
      have := congrArg List.tail hd
      simpa [List.tail_drop] using this
    rw [hd] at p2
    unfold compT at p2
    rw [if_pos hst] at p2
    have hlt := (List.getElem?_eq_some_iff.mp hv).1
    obtain ⟨hgo, hy⟩ := go v hv
    refine .inr ⟨hgo, fun H' => ∃ μ' S' acc' ws', Grow Z μ1 H1 μ' H' ∧ CellsOk Z μ' S' H' ∧ D ∉ μ' ∧ H' D = some (.lst ws') ∧ Rvs Z μ' H' ws' acc' ∧ acc'.length ≤ i + 1 ∧ Post Z μ1 H1 σ W (RlL Z) Q ((compT s.2 s.1 t c f vs (wipeA ρ own) S').bind fun ys S3 => .ok (acc' ++ ys) S3), fun H' hN => ?_, fun x H' hyy => ?_⟩
    · obtain ⟨μ', S', acc', ws', q1, q2, q3, q4, q5, q6, q7⟩ := hN
      exact ⟨m - 1, by omega, by omega, μ', S', acc', ws', q1, q2, q3, q4, q5, q6, by rw [hvs]; exact q7⟩
    · obtain ⟨g3, c3, r3⟩ := hy x H' hyy
      cases hb : bdOf t v (wipeA ρ own) with
      | none =>
        rw [hb] at p2
        exact p2.elim
      | some ρ1 =>
        rw [hb] at p2
        have sw2 : SlotsOk Z μ2 (wipeA ρ own) (wipe σ own) H' := (sw.grow g2).grow g3
        refine tg_ok (vs := own) sw2 r3 hb hp fun σ1 s1 hw => ?_
        refine ⟨by rw [hw, wipe_wipe], μ2, ρ1, S2, c3, s1, ?_⟩
        have hD3 := g3.fr D _ nd2 hD2
        have p3 : Post Z μ1 H1 σ W (RlL Z) Q ((R.nox (c ρ1 S2)).bind fun k S1 => ((if k then (R.nox (f ρ1 S1)).bind fun y S2 => (compT s.2 s.1 t c f vs (wipeA ρ own) S2).bind fun ys S3 => .ok (y :: ys) S3 else compT s.2 s.1 t c f vs (wipeA ρ own) S1).bind fun ys S3 => .ok (acc ++ ys) S3)) := by
          simpa [R.bind_bind] using p2
        refine nox_some p3 fun μ4 k H4 k' S4 g4 c4 rl4 p4 => ?_
        cases rl4
        have nd4 : D ∉ μ4 := fun q => by
          have := g4.new D q nd2
          rw [hD3] at this
          cases this
        have hD4 := g4.fr D _ nd2 hD3
        have G4 : Grow Z μ1 H1 μ4 H4 := (g2.trans g3).trans g4
        cases k with
        | false => exact ⟨μ4, S4, acc, ws, G4, c4, nd4, hD4, g4.rvs (g3.rvs r2), by omega, p4⟩
        | true =>
          refine ⟨μ4, ρ1, S4, c4, s1.grow g4, ?_⟩
          have p5 : Post Z μ1 H1 σ W (RlL Z) Q ((R.nox (f ρ1 S4)).bind fun y S2 => (compT s.2 s.1 t c f vs (wipeA ρ own) S2).bind fun ys S3 => .ok (acc ++ y :: ys) S3) := by
            rw [if_pos rfl, R.bind_bind] at p4
            simp only [R.bind_bind] at p4
            exact p4
          refine nox_some p5 fun μ5 y H5 y' S5 g5 c5 rl5 p6 => ?_
          have nd5 : D ∉ μ5 := fun q => by
            have := g5.new D q nd4
            rw [hD4] at this
            cases this
          have hD5 := g5.fr D _ nd4 hD4
          have im5 : ∀ a xs, SqT Z.K H5 a xs → SqT Z.K (upd H5 D (.lst (ws ++ [y]))) a xs := fun a xs q => by
            rcases q with (q | ⟨o, q⟩) | q
            · exact .inl (.inl (by rw [upd_ne (ne_of q hD5 (by intro z; cases z))]; exact q))
            · exact .inl (.inr ⟨o, by rw [upd_ne (ne_of q hD5 (by intro z; cases z))]; exact q⟩)
            · exact .inr q
          have il5 : ∀ a xs, RoL Z.K H5 a xs → RoL Z.K (upd H5 D (.lst (ws ++ [y]))) a xs := fun a xs q => by
            rcases q with ⟨o, q⟩ | q
            · exact .inl ⟨o, by rw [upd_ne (ne_of q hD5 (by intro z; cases z))]; exact q⟩
            · exact .inr q
          refine ⟨ws, hD5, ?_, μ5, S5, acc ++ [y'], ws ++ [y], ?_, ?_, nd5, upd_same, ?_, ?_, ?_⟩
          · rw [r2.len]
            exact Nat.lt_of_le_of_lt (show acc.length ≤ 100000 by omega) (by decide)
          · have G5 := G4.trans g5
            refine ⟨G5.pre, fun a o na e => ?_, G5.new, fun a xs q => im5 a xs (G5.im a xs q), fun a xs q => il5 a xs (G5.il a xs q)⟩
            rw [upd_ne (ne_of_none e nD)]
            exact G5.fr a o na e
          · refine ⟨c5.nd, c5.len, fun n cc a e1 e2 => ?_⟩
            have q := c5.at_ n cc a e1 e2
            cases cc with
            | lst xs =>
              obtain ⟨us, q1, q2⟩ := q
              refine ⟨us, ?_, Rvs.mono (fun _ _ h => h) im5 il5 _ _ q2⟩
              rw [upd_ne (fun z => nd5 (by rw [← z]; exact List.mem_of_getElem? e2))]
              exact q1
          · exact Rvs.mono (fun _ _ h => h) im5 il5 _ _ ((g5.rvs (g4.rvs (g3.rvs r2))).append (.cons rl5 .nil))
          · simp
            omega
          · simpa using p6
end
def PTsX (X : Cx) (cl : Str → Option Addr) (es : List Expr) (f : MB) : Prop := PTs X es (can ⟨X.K, cl⟩ WF RlB f)
section
variable {X : Cx} {cl : Str → Option Addr} {W : WX} {elt tg iter e : Expr} {ifs : List Expr} {scope : Scope} {own : List (Str × Nat)} {pos : Pos} {it : Slots → Sto → R Src} {t : Tg} {c : MB} {f : ME}
theorem PX.can (h : PX X cl W e f) : PE X e (can ⟨X.K, cl⟩ W (RlV ⟨X.K, cl⟩) f) := by
  obtain ⟨te, h1, e1⟩ := h
  exact ⟨fun pins s σ H Q I ⟨μ, ρ, S, hc, hs, hp⟩ => h1.run pins s σ H Q I (e1 μ ρ S σ H Q hc hs hp)⟩
theorem PTX.can (h : PTX X cl W e c) : PT X e (can ⟨X.K, cl⟩ W RlB c) := by
  obtain ⟨te, h1, e1⟩ := h
  exact ⟨fun pins s σ H Q I ⟨μ, ρ, S, hc, hs, hp⟩ => h1.run pins s σ H Q I (e1 μ ρ S σ H Q hc hs hp)⟩
theorem ptsx_nil : PTsX X cl [] bYes := by
  refine ⟨fun pins s σ H Q I ⟨μ, ρ, S, hc, hs, hp⟩ => ?_⟩
  exact pts_nil.run pins s σ H Q I (hp μ true H Grow.refl hc rfl)
theorem ptsx_one (h : PTX X cl WF e c) : PTsX X cl [e] c := pts_one h.can
theorem plx_lc (hc : X.calm = true) (hN : X.N.Nodup) (hi : PIX X cl W tg iter it) (ok : BlkOk X.N X.env.scope scope own) {vs : List Nat} (ho : own.map (·.2) = vs) (hp : ∀ i ∈ t.places, i ∈ vs)
    (hg : ∀ (s : Shared) (H : Hp) (C : Addr) (cs : List (Str × Addr)) (fp : List Addr), PG (X.blk s H scope (compEnvC scope cs C X.env) fp) tg (tgOf X.K t))
    (ht : ∀ (s : Shared) (H : Hp) (C : Addr) (cs : List (Str × Addr)) (fp : List Addr), PTsX (X.blk s H scope (compEnvC scope cs C X.env) fp) cl ifs c)
    (he : ∀ (s : Shared) (H : Hp) (C : Addr) (cs : List (Str × Addr)) (fp : List Addr), PX (X.blk s H scope (compEnvC scope cs C X.env) fp) cl WF elt f) (hs : ∀ x, foldedSetIterable iter X.env x = pure x := by intro _; rfl) :
    PLX X cl W (.ListComp elt [⟨tg, iter, ifs, 0⟩] scope pos) (lComp vs it t c f) := by
  subst ho
  obtain ⟨wi, h1, e1⟩ := hi
  exact ⟨_, pe_lc (tt := can ⟨X.K, cl⟩ WF RlB c) (te := can ⟨X.K, cl⟩ WF (RlV ⟨X.K, cl⟩) f) hc hN h1 ok hg (fun s H C cs fp => ht s H C cs fp) (fun s H C cs fp => (he s H C cs fp).can) hs, ev_lc (Z := ⟨X.K, cl⟩) e1 hp⟩
theorem psx_setLc (i : Nat) {y : Str} {py spos : Pos} (hc : X.calm = true) (hN : X.N.Nodup) (hi : PIX X cl W tg iter it) (ok : BlkOk X.N X.env.scope scope own) {vs : List Nat} (ho : own.map (·.2) = vs) (hp : ∀ i ∈ t.places, i ∈ vs)
    (hg : ∀ (s : Shared) (H : Hp) (C : Addr) (cs : List (Str × Addr)) (fp : List Addr), PG (X.blk s H scope (compEnvC scope cs C X.env) fp) tg (tgOf X.K t))
    (ht : ∀ (s : Shared) (H : Hp) (C : Addr) (cs : List (Str × Addr)) (fp : List Addr), PTsX (X.blk s H scope (compEnvC scope cs C X.env) fp) cl ifs c)
    (he : ∀ (s : Shared) (H : Hp) (C : Addr) (cs : List (Str × Addr)) (fp : List Addr), PX (X.blk s H scope (compEnvC scope cs C X.env) fp) cl WF elt f)
    (hy : X.N[i]? = some y := by rfl) (hyl : X.env.scope.names.lookup y = some .local := by rfl) (hsw : swapsWith (.ListComp elt [⟨tg, iter, ifs, 0⟩] scope pos) (some (.Name y py)) spos.line X.env = pure true := by exact sw_true rfl rfl rfl (by decide +kernel)) (hs : ∀ x, foldedSetIterable iter X.env x = pure x := by intro _; rfl) :
    PSX X cl W (.Assign [.Name y py] (.ListComp elt [⟨tg, iter, ifs, 0⟩] scope pos) spos) (sSet i (mNew (lComp vs it t c f))) := by
  subst ho
  obtain ⟨wi, h1, e1⟩ := hi
  refine ⟨_, ps_setLc (tt := can ⟨X.K, cl⟩ WF RlB c) (te := can ⟨X.K, cl⟩ WF (RlV ⟨X.K, cl⟩) f) hc hN hy hyl hsw h1 ok hg (fun s H C cs fp => ht s H C cs fp) (fun s H C cs fp => (he s H C cs fp).can) hs, fun μ ρ S σ H D hcs hs hpo => ?_⟩
  refine ev_new (Z := ⟨X.K, cl⟩) (ev_lc (Z := ⟨X.K, cl⟩) e1 hp) μ ρ S σ H _ hcs hs (PostS.thn hs hpo fun μ1 x H1 a S1 _ g c rl s1 p => ?_)
  exact p μ1 _ H1 Grow.refl c (s1.set rl)
end
end Mi
/-! Mi7: calls of the program's own defs; a def by its mirror; the same where repr is asked. -/
namespace Mi
open PySem PySem.Spec PyProof.Rows L2

/-- a def's promise: what the mirror says -/
def spM (Z : Kx) (n : Nat) (m : List AV → Sto → R AV) : Sp := fun vs H Q E => vs.length = n ∧ ∃ (μ : List Addr) (S : Sto) (as : List AV), CellsOk Z μ S H ∧ Rvs Z μ H vs as ∧ Post Z μ H [] (fun cls d _ H => E cls d H) (RlV Z) Q (m as S)
/-- the body, run from the arguments -/
def endM : SR → R AV
  | .rt v S' => .ok v S'
  | .nx _ S' => .ok .non S'
  | .ex e _ S' => .ex e S'
  | _ => .no
def callM (N np : Nat) (g : MS) : List AV → Sto → R AV := fun as S => if as.length = np then endM (g (as.map some ++ List.replicate (N - np) none) S) else .no
mutual
/-- no cell in it -/
def AV.pure : AV → Bool
  | .tup xs => AV.pures xs
  | .rol xs => AV.pures xs
  | .ref _ => false
  | _ => true
def AV.pures : List AV → Bool
  | [] => true
  | x :: xs => x.pure && AV.pures xs
end
mutual
theorem Rv.move {Z : Kx} {μ μ' : List Addr} {H : Hp} : ∀ (x : AV) (v : V), x.pure = true → Rv Z μ H v x → Rv Z μ' H v x
  | .non, _, _, h => by cases h; exact .non
  | .bl b, _, _, h => by cases h; exact .bl b
  | .int i, _, _, h => by cases h; exact .int i
  | .str i, _, _, h => by cases h; exact .str i
  | .tup xs, _, hp, h => by
    cases h with
    | tup h1 h2 => exact .tup h1 (Rvs.move xs _ (by simpa [AV.pure] using hp) h2)
  | .rol xs, _, hp, h => by
    cases h with
    | rol h1 h2 => exact .rol h1 (Rvs.move xs _ (by simpa [AV.pure] using hp) h2)
  | .ref n, _, hp, _ => by simp [AV.pure] at hp
theorem Rvs.move {Z : Kx} {μ μ' : List Addr} {H : Hp} : ∀ (xs : List AV) (vs : List V), AV.pures xs = true → Rvs Z μ H vs xs → Rvs Z μ' H vs xs
  | [], _, _, h => by cases h; exact .nil
  | x :: xs, _, hp, h => by
    have hp' : x.pure = true ∧ AV.pures xs = true := by simpa [AV.pures] using hp
    cases h with
    | cons h1 h2 => exact .cons (Rv.move x _ hp'.1 h1) (Rvs.move xs _ hp'.2 h2)
end

/-- the callee sees the whole store -/
def mCall (n : Nat) (m : List AV → Sto → R AV) (g : MA) : ME := fun ρ S => (g ρ S).bind fun as S1 => if as.length = n then m as S1 else .no
/-- the callee sees its arguments alone, and gives back what holds no cell -/
def runP (n : Nat) (m : List AV → Sto → R AV) (as : List AV) (S : Sto) : R AV := if as.length = n ∧ AV.pures as = true then
    match m as [] with
    | .ok v _ => if v.pure = true then .ok v S else .no
    | .ex e _ => if AV.pures (e.fs.map (·.2)) = true then .ex e S else .no
    | .no => .no
  else .no
def mCallP (n : Nat) (m : List AV → Sto → R AV) (g : MA) : ME := fun ρ S => (g ρ S).bind fun as S1 => runP n m as S1
/-- .. and gives back a new list -/
def runL (n : Nat) (m : List AV → Sto → R AV) (as : List AV) (S : Sto) : R (List AV) := if as.length = n ∧ AV.pures as = true then
    match m as [] with
    | .ok (.ref k) S' => match cellOf S' k with
      | some xs => if AV.pures xs = true then .ok xs S else .no
      | none => .no
    | .ex e _ => if AV.pures (e.fs.map (·.2)) = true then .ex e S else .no
    | _ => .no
  else .no
def lCallP (n : Nat) (m : List AV → Sto → R AV) (g : MA) : MA := fun ρ S => (g ρ S).bind fun as S1 => runL n m as S1

section
variable {Z : Kx} {W : WX} {μ : List Addr} {S : Sto} {H : Hp} {σ : L2.St} {vs : List V} {as : List AV} {n : Nat} {m : List AV → Sto → R AV} {Q : VK} {E : XK}
theorem Post.wish {β α : Type} {Rl : Rel β α} {Q : β → Hp → Prop} {r : R α} {W' : WX} {σ' : L2.St} (h : Post Z μ H σ W Rl Q r) (hw : ∀ cls d H, W cls d σ H → W' cls d σ' H) : Post Z μ H σ' W' Rl Q r := by
  cases r with
  | ok a S => exact h
  | ex e S => exact fun μ' H' cls d g c x => hw _ _ _ (h μ' H' cls d g c x)
  | no => exact h
theorem CellsOk.empty : CellsOk Z [] [] H := ⟨List.nodup_nil, rfl, fun n c a e _ => by simp at e⟩
theorem ExR.move {μ' : List Addr} {e : Exn} {cls : Value} {d : Option Addr} (hp : AV.pures (e.fs.map (·.2)) = true) (x : ExR Z μ H e cls d) : ExR Z μ' H e cls d := by
  obtain ⟨C, h1, h2, h3⟩ := x
  refine ⟨C, h1, h2, h3.imp id ?_⟩
  rintro ⟨a, fs, q1, q2, q3, q4⟩
  exact ⟨a, fs, q1, q2, q3, Rvs.move _ _ hp q4⟩
/-- a heap in which all stands, and the cells with it -/
theorem Grow.nil_same {μ0 : List Addr} {H' : Hp} (g : Grow Z [] H μ0 H') : ∀ a o, H a = some o → H' a = some o := fun a o e => g.fr a o (by simp) e
theorem sp_S (hW : ∀ cls d H, W cls d σ H → E cls d H) (c : CellsOk Z μ S H) (r : Rvs Z μ H vs as) (hl : as.length = n) (hp : Post Z μ H σ W (RlV Z) Q (m as S)) : spM Z n m vs H Q E :=
  ⟨by rw [r.len]; exact hl, μ, S, as, c, r, hp.wish hW⟩
theorem sp_P (hW : ∀ cls d H, W cls d σ H → E cls d H) (c : CellsOk Z μ S H) (r : Rvs Z μ H vs as) (hp : Post Z μ H σ W (RlV Z) Q (runP n m as S)) : spM Z n m vs H Q E := by
  unfold runP at hp
  by_cases hc : as.length = n ∧ AV.pures as = true
  case neg =>
    rw [if_neg hc] at hp
    exact hp.elim
  rw [if_pos hc] at hp
  refine ⟨by rw [r.len]; exact hc.1, [], [], as, CellsOk.empty, Rvs.move as vs hc.2 r, ?_⟩
  revert hp
  cases m as [] with
  | no => exact fun hp => hp
  | ok v S' =>
    simp only
    by_cases hv : v.pure = true
    · rw [if_pos hv]
      intro hp μ' x H' g c' rv
      exact hp μ x H' (Grow.same g.nil_same) (c.keep g.nil_same) (Rv.move v x hv rv)
    · rw [if_neg hv]
      exact fun hp => hp.elim
  | ex e S' =>
    simp only
    by_cases hv : AV.pures (e.fs.map (·.2)) = true
    · rw [if_pos hv]
      intro hp μ' H' cls d g c' x
      exact hW _ _ _ (hp μ H' cls d (Grow.same g.nil_same) (c.keep g.nil_same) (x.move hv))
    · rw [if_neg hv]
      exact fun hp => hp.elim
theorem sp_L (hW : ∀ cls d H, W cls d σ H → E cls d H) (c : CellsOk Z μ S H) (r : Rvs Z μ H vs as) (hp : Post Z μ H σ W (RlL Z) Q (runL n m as S)) : spM Z n m vs H Q E := by
  unfold runL at hp
  by_cases hc : as.length = n ∧ AV.pures as = true
  case neg =>
    rw [if_neg hc] at hp
    exact hp.elim
  rw [if_pos hc] at hp
  refine ⟨by rw [r.len]; exact hc.1, [], [], as, CellsOk.empty, Rvs.move as vs hc.2 r, ?_⟩
  revert hp
  cases m as [] with
  | no => exact fun hp => hp
  | ok v S' =>
    cases v with
    | ref k =>
      simp only
      cases ek : cellOf S' k with
      | none => exact fun hp => hp.elim
      | some xs =>
        simp only
        by_cases hv : AV.pures xs = true
        · rw [if_pos hv]
          intro hp μ' x H' g c' rv
          cases rv with
          | ref hn =>
            rename_i p
            have eS : S'[k]? = some (.lst xs) := by
              unfold cellOf at ek
              split at ek
              · rename_i e
                rw [e, Option.some.inj ek]
              · cases ek
            obtain ⟨ws, w1, w2⟩ := c'.at_ k _ p eS hn
            have fresh : H p = none := g.new p (List.mem_of_getElem? hn) (by simp)
            exact hp μ _ H' (Grow.same g.nil_same) (c.keep g.nil_same) ⟨p, ws, rfl, fresh, c.notin fresh, w1, Rvs.move xs ws hv w2⟩
        · rw [if_neg hv]
          exact fun hp => hp.elim
    | non => exact fun hp => hp.elim
    | bl b => exact fun hp => hp.elim
    | int b => exact fun hp => hp.elim
    | str b => exact fun hp => hp.elim
    | tup b => exact fun hp => hp.elim
    | rol b => exact fun hp => hp.elim
  | ex e S' =>
    simp only
    by_cases hv : AV.pures (e.fs.map (·.2)) = true
    · rw [if_pos hv]
      intro hp μ' H' cls d g c' x
      exact hW _ _ _ (hp μ H' cls d (Grow.same g.nil_same) (c.keep g.nil_same) (x.move hv))
    · rw [if_neg hv]
      exact fun hp => hp.elim
end

section
variable {X : Cx} {cl : Str → Option Addr} {W : WX} {e : Expr} {es : List Expr} {g : MA} {k n : Nat} {f : Addr} {fd : FuncData} {ps : List Str} {m : List AV → Sto → R AV} {x : Str} {p pos : Pos}
theorem px_call (F : FnOk X.prog X.w X.K X.mg X.base (L2.CX X.prog X.w) k f fd ps (spM ⟨X.K, cl⟩ n m)) (hr : Room k X.A) (hg : Gl X x) (hm : X.mg x = some (.ref f)) (hk : PySem.W.keepIn X.K (.ref f) = true) (hb : Binds X.K fd ps []) (tk : Takes X W) (ha : PAX X cl W (e :: es) g)
    (hdb : (x == ("__debug__" : Str)) = false := by decide) (he : starEach (e :: es) X.env = (false, eval e X.env) :: starEach es X.env := by rfl) (hpl : (backTo pos (starEach es X.env)).any (·.1) = false := by rfl) : PX X cl W (.Call (.Name x p) (e :: es) [] pos) (mCall n m g) := by
  obtain ⟨t, h1, e1⟩ := ha
  refine ⟨_, pe_callS F hr hg hm hk hb (fun σ => passAt tk σ) h1 hdb he hpl, fun μ ρ S σ H Q hc hs hp => e1 μ ρ S σ H _ hc hs (Post.bind anti_V hp fun μ1 vs H1 as S1 _ g c rl p => ?_)⟩
  by_cases hl : as.length = n
  · rw [if_pos hl] at p
    exact sp_S (fun _ _ _ h => h) c rl hl p
  · rw [if_neg hl] at p
    exact p.elim
theorem px_callP (F : FnOk X.prog X.w X.K X.mg X.base (L2.CX X.prog X.w) k f fd ps (spM ⟨X.K, cl⟩ n m)) (hr : Room k X.A) (hg : Gl X x) (hm : X.mg x = some (.ref f)) (hk : PySem.W.keepIn X.K (.ref f) = true) (hb : Binds X.K fd ps []) (tk : Takes X W) (ha : PAX X cl W (e :: es) g)
    (hdb : (x == ("__debug__" : Str)) = false := by decide) (he : starEach (e :: es) X.env = (false, eval e X.env) :: starEach es X.env := by rfl) (hpl : (backTo pos (starEach es X.env)).any (·.1) = false := by rfl) : PX X cl W (.Call (.Name x p) (e :: es) [] pos) (mCallP n m g) := by
  obtain ⟨t, h1, e1⟩ := ha
  exact ⟨_, pe_callS F hr hg hm hk hb (fun σ => passAt tk σ) h1 hdb he hpl, fun μ ρ S σ H Q hc hs hp => e1 μ ρ S σ H _ hc hs (Post.bind anti_V hp fun μ1 vs H1 as S1 _ g c rl p => sp_P (fun _ _ _ h => h) c rl p)⟩
theorem plx_callP (F : FnOk X.prog X.w X.K X.mg X.base (L2.CX X.prog X.w) k f fd ps (spM ⟨X.K, cl⟩ n m)) (hr : Room k X.A) (hg : Gl X x) (hm : X.mg x = some (.ref f)) (hk : PySem.W.keepIn X.K (.ref f) = true) (hb : Binds X.K fd ps []) (tk : Takes X W) (ha : PAX X cl W (e :: es) g)
    (hdb : (x == ("__debug__" : Str)) = false := by decide) (he : starEach (e :: es) X.env = (false, eval e X.env) :: starEach es X.env := by rfl) (hpl : (backTo pos (starEach es X.env)).any (·.1) = false := by rfl) : PLX X cl W (.Call (.Name x p) (e :: es) [] pos) (lCallP n m g) := by
  obtain ⟨t, h1, e1⟩ := ha
  exact ⟨_, pe_callS F hr hg hm hk hb (fun σ => passAt tk σ) h1 hdb he hpl, fun μ ρ S σ H Q hc hs hp => e1 μ ρ S σ H _ hc hs (Post.bind anti_L hp fun μ1 vs H1 as S1 _ g c rl p => sp_L (fun _ _ _ h => h) c rl p)⟩
end

/-! ### a def -/
section
variable {P : Program} {w : World} {K : PySem.W.Frag} {mg : Str → Option Value} {base : Heap} {cl : Str → Option Addr}
theorem start_ok {Z : Kx} {μ : List Addr} {H : Hp} {N : List Str} {vs : List V} {as : List AV} (r : Rvs Z μ H vs as) : SlotsOk Z μ (as.map some ++ List.replicate (N.length - as.length) none) (L2.start N vs) H := by
  unfold L2.start
  rw [r.len]
  refine ⟨by simp [r.len], fun i x e => ?_⟩
  by_cases hi : i < as.length
  · rw [List.getElem?_append_left (by simpa using hi), List.getElem?_map] at e
    cases q : as[i]? with
    | none =>
      rw [q] at e
      cases e
    | some y =>
      rw [q] at e
      cases e
      obtain ⟨v, h1, h2⟩ := r.get q
      refine ⟨v, ?_, h2⟩
      rw [List.getElem?_append_left (by simp [r.len]; exact hi), List.getElem?_map, h1]
      rfl
  · rw [List.getElem?_append_right (by simpa using hi), List.getElem?_replicate] at e
    split at e <;> cases e
theorem body_ok {Z : Kx} {μ : List Addr} {S : Sto} {H : Hp} {N : List Str} {np : Nat} {vs : List V} {as : List AV} {g : MS} {ts : TS} {Q : VK} {E : XK} (e1 : Sv Z (fun cls d _ H => E cls d H) ts g) (c : CellsOk Z μ S H) (r : Rvs Z μ H vs as)
    (hp : Post Z μ H [] (fun cls d _ H => E cls d H) (RlV Z) Q (callM N.length np g as S)) : ts { nx := fun _ H' => Q .non H', rt := Q } (L2.start N vs) H := by
  unfold callM at hp
  by_cases hl : as.length = np
  case neg =>
    rw [if_neg hl] at hp
    exact hp.elim
  rw [if_pos hl, ← hl] at hp
  refine e1 μ _ S _ H _ c (start_ok r) ?_
  revert hp
  cases g (as.map some ++ List.replicate (N.length - as.length) none) S with
  | nx ρ S' => exact fun hp μ' σ' H' g' c' _ => hp μ' .non H' g' c' .non
  | rt v S' => exact fun hp μ' x H' g' c' rv => hp μ' x H' g' c' rv
  | ex e ρ S' => exact fun hp μ' σ' H' cls d g' c' _ x => hp μ' H' cls d g' c' x
  | bk ρ S' => exact fun hp => hp.elim
  | ct ρ S' => exact fun hp => hp.elim
  | no => exact fun hp => hp.elim
theorem okM {x qual : Str} {st : Stmt} {f : Addr} {fd : FuncData} {N ps : List Str} {k nN np : Nat} {g : MS} {m : List AV → Sto → R AV} (F : Fun K x qual st f fd) (S : FnScope N ps (defScope st)) (hN : N.length = nN) (hps : ps.length = np) (hm : m = callM nN np g)
    (hb : ∀ (cdv : Value) (A : Around) (outer : List Env) (s : Shared) (H : Hp) (E : XK), Room k (A.deeper (envOfC qual (defScope st) s.heap.objs.size f cdv)) →
      PBX (cxOf (L2.CX P w) P w K mg base N qual (defScope st) f cdv A outer s H E) cl (fun cls d _ H => E cls d H) (defBody st) g) :
    FnOk P w K mg base (L2.CX P w) (k + 1) f fd ps (spM ⟨K, cl⟩ np m) := by
  subst hN hps hm
  refine F.okX S (fun vs H Q E h => h.1) fun cdv A outer s H vs Q E hr h => ?_
  obtain ⟨ts, h1, e1⟩ := hb cdv A outer s H E hr
  obtain ⟨_, μ, S', as, c, r, hp⟩ := h
  exact ⟨ts, h1, body_ok e1 c r hp⟩

/-! ### where nothing around is being shown by repr -/
structure FnG (P : Program) (w : World) (K : PySem.W.Frag) (mg : Str → Option Value) (base : Heap) (CX : CXT) (k : Nat) (f : Addr) (fd : FuncData) (ps : List Str) (sp : Sp) : Prop where
  len : ∀ vs H Q E, sp vs H Q E → vs.length = ps.length
  go : ∀ (A : Around) (outer : List Env) (s : Shared) (H : Hp) (args : Args) (us : List Value) (vs : List V) (Q : VK) (E : XK), Room k A → A.guards = some [] → Env0 P w K mg base A outer s H → BindsTo s fd args (ps.zip us) → Vals vs us → sp vs H Q E →
    codeAny (model P w) A (.call (.ref f) args) (CR CX outer P w H s Q E) s
theorem FnG.of {CX : CXT} {k : Nat} {f : Addr} {fd : FuncData} {ps : List Str} {sp : Sp} (F : FnOk P w K mg base CX k f fd ps sp) : FnG P w K mg base CX k f fd ps sp :=
  ⟨F.len, fun A outer s H args us vs Q E hr _ => F.run A outer s H args us vs Q E hr⟩
theorem okG {x qual : Str} {st : Stmt} {f : Addr} {fd : FuncData} {N ps : List Str} {k nN np : Nat} {g : MS} {m : List AV → Sto → R AV} (F : Fun K x qual st f fd) (S : FnScope N ps (defScope st)) (hN : N.length = nN) (hps : ps.length = np) (hm : m = callM nN np g)
    (hb : ∀ (cdv : Value) (A : Around) (outer : List Env) (s : Shared) (H : Hp) (E : XK), Room k (A.deeper (envOfC qual (defScope st) s.heap.objs.size f cdv)) → A.guards = some [] →
      PBX (cxOf (L2.CX P w) P w K mg base N qual (defScope st) f cdv A outer s H E) cl (fun cls d _ H => E cls d H) (defBody st) g) :
    FnG P w K mg base (L2.CX P w) (k + 1) f fd ps (spM ⟨K, cl⟩ np m) := by
  subst hN hps hm
  obtain ⟨oc, od, kV, doc, pm, an, cdv, ct, osl, rfl, lk, hcd⟩ := F.ex
  refine ⟨fun vs H Q E h => h.1, fun A outer s H args us vs Q E room gds env binds rel hsp => ?_⟩
  have inK : K.In s.heap := env.mod.kin.keeps fun b o q => (env.bs b o q).1
  have nolim : s.heap.NoLimit := env.mod.nolimit.keeps fun b o q => (env.bs b o q).1
  have kinds : ∀ y ∈ ps.zip us, (defScope st).names.lookup y.1 = some .local ∨ ((defScope st).names.lookup y.1 = some .cell ∧ ((cellsFrom (s.heap.objs.size + 1) (defScope st).names []).lookup y.1).isSome = true) := by
    rintro ⟨n, v⟩ hy
    exact (S.par n (List.of_mem_zip hy).1).imp id fun q => ⟨q, PySem.W.cellsFrom_some _ _ _ (.inl q)⟩
  have roomD := room.deeper (envOfC qual (defScope st) s.heap.objs.size f cdv)
  refine codeAny_call_function room.depth (inK _ _ lk) rfl S.co S.gen rfl (PySem.W.codeRec_of inK hcd) (binds _ _ _ _ (wpAny_newFunctionEnv_cells S.kind kinds fun fenv hfe s1 xx => ?_))
  subst hfe
  refine ⟨nolim.keeps xx.toInCall.keep, codeAny_func ?_⟩
  obtain ⟨ts, h1, e1⟩ := hb cdv A outer s H E roomD gds
  have I0 := inv_start (CX := L2.CX P w) (mg := mg) (base := base) (E := E) S room.hd env hsp.1 rel xx
  obtain ⟨hl, μ, S', as, c, r, hp⟩ := hsp
  refine wpAny_mono (h1.run [] s1 (L2.start N vs) H _ I0 (body_ok e1 c r hp)) (fun fl s' hs => ?_) fun e s' hs => hs
  have out : ∀ {σ' : L2.St} {H' : Hp} {v : V} {u : Value}, Inv (cxOf (L2.CX P w) P w K mg base N qual (defScope st) f cdv A outer s H E) [] σ' H' s' → RelV v u → Q v H' → CE outer P w H s Q u s' :=
    fun J rv q => ⟨_, _, J.os, J.bare, J.base, J.hok, rv, q⟩
  cases fl with
  | ret u =>
    obtain ⟨v, σ', H', J, rv, q⟩ := hs
    exact out J rv q
  | next =>
    obtain ⟨σ', H', J, q⟩ := hs
    exact out (v := V.non) (u := Value.none) J rfl q
  | brk => exact let ⟨_, _, _, q⟩ := hs; q.elim
  | cont => exact let ⟨_, _, _, q⟩ := hs; q.elim
end
section
variable {X : Cx} {cl : Str → Option Addr} {W : WX} {e : Expr} {es : List Expr} {g : MA} {k n : Nat} {f : Addr} {fd : FuncData} {ps : List Str} {m : List AV → Sto → R AV} {x : Str} {p pos : Pos}
theorem pe_callG {sp : Sp} {t : TA} (F : FnG X.prog X.w X.K X.mg X.base (L2.CX X.prog X.w) k f fd ps sp) (hr : Room k X.A) (gds : X.A.guards = some []) (hg : Gl X x) (hm : X.mg x = some (.ref f)) (hk : PySem.W.keepIn X.K (.ref f) = true) (hb : Binds X.K fd ps []) (tk : Takes X W) (ha : PA X (e :: es) t)
    (hdb : (x == ("__debug__" : Str)) = false) (he : starEach (e :: es) X.env = (false, eval e X.env) :: starEach es X.env) (hpl : (backTo pos (starEach es X.env)).any (·.1) = false) : PE X (.Call (.Name x p) (e :: es) [] pos) (tCallS sp (fun σ => WE W σ) t) := by
  refine ⟨fun pins s σ H Q I h => wpAny_Call_Name_kw (ld_glob I hg hm (PySem.W.callWith_K (h₀ := X.base) I.ok.mod.kin hk (thn (ha.run pos pins s σ H _ I h) fun us s1 ⟨vs, H1, I1, rr, qq⟩ => ⟨I1.kIn, ?_⟩) he hpl) hdb)⟩
  have hl : us.length = ps.length := rr.length ▸ F.len _ _ _ _ qq
  have bb := hb s1 us I1.kIn (by simpa using hl)
  rw [List.append_nil] at bb
  refine wpAny_call (codeAny_mono (F.go X.A X.stack s1 H1 ⟨us, []⟩ us vs Q (WE W σ) hr gds I1.env0 bb rr qq) fun res s2 hq => ?_)
  cases res with
  | error er => exact passAt tk σ pins H1 s1 er s2 I1 hq
  | ok fl =>
    cases fl with
    | ret u => exact I1.after hq
    | next => exact hq.elim
    | brk => exact hq.elim
    | cont => exact hq.elim
theorem px_callG (F : FnG X.prog X.w X.K X.mg X.base (L2.CX X.prog X.w) k f fd ps (spM ⟨X.K, cl⟩ n m)) (hr : Room k X.A) (gds : X.A.guards = some []) (hg : Gl X x) (hm : X.mg x = some (.ref f)) (hk : PySem.W.keepIn X.K (.ref f) = true) (hb : Binds X.K fd ps []) (tk : Takes X W) (ha : PAX X cl W (e :: es) g)
    (hdb : (x == ("__debug__" : Str)) = false := by decide) (he : starEach (e :: es) X.env = (false, eval e X.env) :: starEach es X.env := by rfl) (hpl : (backTo pos (starEach es X.env)).any (·.1) = false := by rfl) : PX X cl W (.Call (.Name x p) (e :: es) [] pos) (mCall n m g) := by
  obtain ⟨t, h1, e1⟩ := ha
  refine ⟨_, pe_callG F hr gds hg hm hk hb tk h1 hdb he hpl, fun μ ρ S σ H Q hc hs hp => e1 μ ρ S σ H _ hc hs (Post.bind anti_V hp fun μ1 vs H1 as S1 _ g c rl p => ?_)⟩
  by_cases hl : as.length = n
  · rw [if_pos hl] at p
    exact sp_S (fun _ _ _ h => h) c rl hl p
  · rw [if_neg hl] at p
    exact p.elim
theorem px_callPG (F : FnG X.prog X.w X.K X.mg X.base (L2.CX X.prog X.w) k f fd ps (spM ⟨X.K, cl⟩ n m)) (hr : Room k X.A) (gds : X.A.guards = some []) (hg : Gl X x) (hm : X.mg x = some (.ref f)) (hk : PySem.W.keepIn X.K (.ref f) = true) (hb : Binds X.K fd ps []) (tk : Takes X W) (ha : PAX X cl W (e :: es) g)
    (hdb : (x == ("__debug__" : Str)) = false := by decide) (he : starEach (e :: es) X.env = (false, eval e X.env) :: starEach es X.env := by rfl) (hpl : (backTo pos (starEach es X.env)).any (·.1) = false := by rfl) : PX X cl W (.Call (.Name x p) (e :: es) [] pos) (mCallP n m g) := by
  obtain ⟨t, h1, e1⟩ := ha
  exact ⟨_, pe_callG F hr gds hg hm hk hb tk h1 hdb he hpl, fun μ ρ S σ H Q hc hs hp => e1 μ ρ S σ H _ hc hs (Post.bind anti_V hp fun μ1 vs H1 as S1 _ g c rl p => sp_P (fun _ _ _ h => h) c rl p)⟩
end
end Mi
/-! Mi8: the operators and the built-ins that are used; the law's end. -/
namespace Mi
open PySem PySem.Spec PyProof.Rows L2

/-! ### operators -/
def aAdd : AV → AV → Option AV
  | .int i, .int j => some (.int (i + j))
  | .str x, .str y => if x.length + y.length ≤ 100000 then some (.str (x ++ y)) else none
  | .tup xs, .tup ys => if xs.length + ys.length ≤ 100000 then some (.tup (xs ++ ys)) else none
  | _, _ => none
def aInt (C : Int → Int → Prop) [∀ i j, Decidable (C i j)] (g : Int → Int → AV) : AV → AV → Option AV
  | .int i, .int j => if C i j then some (g i j) else none
  | _, _ => none
def aInt0 (g : Int → Int → AV) : AV → AV → Option AV
  | .int i, .int j => some (g i j)
  | _, _ => none
def cMul (i j : Int) : Prop := (-(2 ^ 64) < i ∧ i < 2 ^ 64) ∨ (-(2 ^ 64) < j ∧ j < 2 ^ 64)
instance (i j : Int) : Decidable (cMul i j) := by unfold cMul; exact inferInstance
def cDiv (_ j : Int) : Prop := 0 < j ∧ j < 1073741824
instance (i j : Int) : Decidable (cDiv i j) := by unfold cDiv; exact inferInstance
def cMod (_ j : Int) : Prop := 0 < j
instance (i j : Int) : Decidable (cMod i j) := by unfold cMod; exact inferInstance
def cPow (i j : Int) : Prop := 0 ≤ j ∧ j ≤ 1000000 ∧ i.natAbs < 2 ^ 64
instance (i j : Int) : Decidable (cPow i j) := by unfold cPow; exact inferInstance
def aSub := aInt0 fun i j => .int (i - j)
def aMul := aInt cMul fun i j => .int (i * j)
def aDiv := aInt cDiv fun i j => .int (i / j)
def aMod := aInt cMod fun i j => .int (i % j)
def aPow := aInt cPow fun i j => .int (i ^ j.toNat)
def aShl := aInt cPow fun i j => .int (i * 2 ^ j.toNat)
def aLt := aInt0 fun i j => .bl (decide (i < j))
def aLe := aInt0 fun i j => .bl (decide (i ≤ j))
def aGt := aInt0 fun i j => .bl (decide (j < i))
def aGe := aInt0 fun i j => .bl (decide (j ≤ i))
def aNeg : AV → Option AV
  | .int i => some (.int (-i))
  | _ => none
mutual
def AV.data : AV → Option PyData
  | .non => some .none
  | .bl b => some (.bool b)
  | .int i => some (.int i)
  | .str x => some (.str x)
  | .tup xs => (AV.datas xs).map .tuple
  | .rol xs => (AV.datas xs).map .list
  | .ref _ => none
def AV.datas : List AV → Option (List PyData)
  | [] => some []
  | x :: xs => x.data.bind fun d => (AV.datas xs).map fun ds => d :: ds
end
def aEqB : AV → AV → Option Bool
  | .int i, .int j => some (decide (i = j))
  | .str x, .str y => some (decide (x = y))
  | x, y => x.data.bind fun d => y.data.bind fun e => if SeqAt.shaped d = true ∧ SeqAt.shaped e = true then some (PyData.eqv d e) else none
def aEq (x y : AV) : Option AV := (aEqB x y).map .bl
def aNe (x y : AV) : Option AV := (aEqB x y).map fun b => .bl (!b)
def AV.isNon : AV → Bool
  | .non => true
  | _ => false
def aIs (x y : AV) : Option AV := match y with
  | .non => some (.bl x.isNon)
  | _ => none
def aNs (x y : AV) : Option AV := match y with
  | .non => some (.bl (!x.isNon))
  | _ => none

section
variable {Z : Kx} {W : WX}
theorem Post.val {μ : List Addr} {S : Sto} {H : Hp} {σ : L2.St} {Q : VK} {v : V} {x : AV} (c : CellsOk Z μ S H) (r : Rv Z μ H v x) (p : Post Z μ H σ W (RlV Z) Q (.ok x S)) : Q v H := p μ v H Grow.refl c r
theorem os_int {C : Int → Int → Prop} [∀ i j, Decidable (C i j)] {D : Int → Int → Prop} {g : Int → Int → AV} {g' : Int → Int → V} (hD : ∀ i j, C i j → D i j) (hg : ∀ i j μ H, Rv Z μ H (g' i j) (g i j)) : OpS Z W (rI D g') (aInt C g) := by
  intro μ S σ H x y a b Q c ra rb p
  cases ra <;> try exact p.elim
  rename_i i
  cases rb <;> try exact p.elim
  rename_i j
  have p' : Post Z μ H σ W (RlV Z) Q (R.of (if C i j then some (g i j) else none) S) := p
  by_cases h : C i j
  · rw [if_pos h] at p'
    exact ⟨i, j, rfl, rfl, hD i j h, p'.val c (hg i j μ H)⟩
  · rw [if_neg h] at p'
    exact p'.elim
theorem os_int0 {g : Int → Int → AV} {g' : Int → Int → V} (hg : ∀ i j μ H, Rv Z μ H (g' i j) (g i j)) : OpS Z W (rI0 g') (aInt0 g) := by
  intro μ S σ H x y a b Q c ra rb p
  cases ra <;> try exact p.elim
  rename_i i
  cases rb <;> try exact p.elim
  rename_i j
  exact ⟨i, j, rfl, rfl, Post.val (x := g i j) c (hg i j μ H) p⟩
theorem tup_of {μ : List Addr} {S : Sto} {H : Hp} {σ : L2.St} {Q : VK} {vs : List V} {xs : List AV} {p : Addr} (c : CellsOk Z μ S H) (np : H p = none) (r : Rvs Z μ H vs xs) (q : Post Z μ H σ W (RlV Z) Q (.ok (.tup xs) S)) : Q (.ref p) (upd H p (.tup vs)) := by
  have nk := new_keep (o := .tup vs) np
  have G := Grow.same (Z := Z) (μ := μ) nk
  exact q μ _ _ G (c.keep nk) (.tup (SqT.of upd_same) (G.rvs r))
theorem lst_of {μ : List Addr} {S : Sto} {H : Hp} {σ : L2.St} {Q : VK} {vs : List V} {xs : List AV} {p : Addr} (c : CellsOk Z μ S H) (np : H p = none) (r : Rvs Z μ H vs xs) (q : Post Z μ H σ W (RlL Z) Q (.ok xs S)) : Q (.ref p) (upd H p (.lst vs)) := by
  have nk := new_keep (o := .lst vs) np
  have G := Grow.same (Z := Z) (μ := μ) nk
  exact q μ _ _ G (c.keep nk) ⟨p, vs, rfl, np, c.notin np, upd_same, G.rvs r⟩
theorem os_add {K : PySem.W.Frag} (hK : K = Z.K) : OpS Z W (fun x y H Q => rI0 (fun i j => .int (i + j)) x y H Q ∨ ((∃ i j, x = .str i ∧ y = .str j ∧ i.length + j.length ≤ sizeLine ∧ Q (.str (i ++ j)) H) ∨ rCatA K x y H Q)) aAdd := by
  subst hK
  intro μ S σ H x y a b Q c ra rb p
  cases ra <;> try exact p.elim
  · rename_i i
    cases rb <;> try exact p.elim
    rename_i j
    exact .inl ⟨i, j, rfl, rfl, Post.val (x := .int (i + j)) c (.int _) p⟩
  · rename_i i
    cases rb <;> try exact p.elim
    rename_i j
    have p' : Post Z μ H σ W (RlV Z) Q (R.of (if i.length + j.length ≤ 100000 then some (.str (i ++ j)) else none) S) := p
    by_cases h : i.length + j.length ≤ 100000
    · rw [if_pos h] at p'
      exact .inr (.inl ⟨i, j, rfl, rfl, sz_of h, p'.val c (.str _)⟩)
    · rw [if_neg h] at p'
      exact p'.elim
  · rename_i a1 vs xs h1 h2
    cases rb <;> try exact p.elim
    rename_i b1 ws ys h3 h4
    have p' : Post Z μ H σ W (RlV Z) Q (R.of (if xs.length + ys.length ≤ 100000 then some (.tup (xs ++ ys)) else none) S) := p
    by_cases h : xs.length + ys.length ≤ 100000
    · rw [if_pos h] at p'
      refine .inr (.inr ⟨a1, b1, vs, ws, rfl, rfl, h1, h3, by rw [h2.len, h4.len]; exact sz_of h, fun e => ?_, fun _ e => ?_, fun _ _ q nq => tup_of c nq (h2.append h4) p'⟩)
      · subst e
        cases h2
        exact p'.val c (.tup h3 h4)
      · subst e
        cases h4
        have p2 : Post Z μ H σ W (RlV Z) Q (R.of (some (.tup (xs ++ []))) S) := p'
        rw [List.append_nil] at p2
        exact Post.val (x := .tup xs) c (.tup h1 h2) p2
    · rw [if_neg h] at p'
      exact p'.elim
mutual
theorem dp_of {μ : List Addr} {H : Hp} : ∀ (x : AV) (v : V) (d : PyData), Rv Z μ H v x → x.data = some d → Dp Z.K H v d
  | .non, _, _, r, e => by cases r; cases e; exact .non
  | .bl b, _, _, r, e => by cases r; cases e; exact .bl b
  | .int b, _, _, r, e => by cases r; cases e; exact .int b
  | .str b, _, _, r, e => by cases r; cases e; exact .str b
  | .tup xs, _, d, r, e => by
    cases r with
    | tup h1 h2 =>
      have e' : (AV.datas xs).map PyData.tuple = some d := by simpa [AV.data] using e
      cases q : AV.datas xs with
      | none => rw [q] at e'; cases e'
      | some ds =>
        rw [q] at e'
        cases e'
        exact .tup h1 (dps_of xs _ ds h2 q)
  | .rol xs, _, d, r, e => by
    cases r with
    | rol h1 h2 =>
      have e' : (AV.datas xs).map PyData.list = some d := by simpa [AV.data] using e
      cases q : AV.datas xs with
      | none => rw [q] at e'; cases e'
      | some ds =>
        rw [q] at e'
        cases e'
        exact .lst h1.sq (dps_of xs _ ds h2 q)
  | .ref n, _, _, _, e => by simp [AV.data] at e
theorem dps_of {μ : List Addr} {H : Hp} : ∀ (xs : List AV) (vs : List V) (ds : List PyData), Rvs Z μ H vs xs → AV.datas xs = some ds → DpAll Z.K H vs ds
  | [], _, _, r, e => by cases r; cases e; exact .nil
  | x :: xs, _, ds, r, e => by
    cases r with
    | cons h1 h2 =>
      have e' : (x.data.bind fun d => (AV.datas xs).map fun ds => d :: ds) = some ds := by simpa [AV.datas] using e
      cases q : x.data with
      | none => rw [q] at e'; cases e'
      | some d =>
        rw [q] at e'
        cases q2 : AV.datas xs with
        | none => rw [q2] at e'; cases e'
        | some es =>
          rw [q2] at e'
          cases e'
          exact .cons (dp_of x _ d h1 q) (dps_of xs _ es h2 q2)
end
theorem eqB_ok {μ : List Addr} {H : Hp} {x y : V} {a b : AV} {k : Bool} (ra : Rv Z μ H x a) (rb : Rv Z μ H y b) (e : aEqB a b = some k) : (scal x y = true ∧ decide (x = y) = k) ∨ ∃ d e, Dp Z.K H x d ∧ Dp Z.K H y e ∧ SeqAt.shaped d = true ∧ SeqAt.shaped e = true ∧ PyData.eqv d e = k := by
  have gen : (a.data.bind fun d => b.data.bind fun e => if SeqAt.shaped d = true ∧ SeqAt.shaped e = true then some (PyData.eqv d e) else none) = some k → ∃ d e, Dp Z.K H x d ∧ Dp Z.K H y e ∧ SeqAt.shaped d = true ∧ SeqAt.shaped e = true ∧ PyData.eqv d e = k := fun z => by
    cases q : a.data with
    | none => rw [q] at z; cases z
    | some d =>
      rw [q] at z
      cases q2 : b.data with
      | none => rw [q2] at z; cases z
      | some e2 =>
        rw [q2] at z
        have z' : (if SeqAt.shaped d = true ∧ SeqAt.shaped e2 = true then some (PyData.eqv d e2) else none) = some k := z
        by_cases h : SeqAt.shaped d = true ∧ SeqAt.shaped e2 = true
        · rw [if_pos h] at z'
          exact ⟨d, e2, dp_of a x d ra q, dp_of b y e2 rb q2, h.1, h.2, Option.some.inj z'⟩
        · rw [if_neg h] at z'
          cases z'
  unfold aEqB at e
  split at e
  · cases ra
    cases rb
    have e' := Option.some.inj e
    refine .inl ⟨rfl, ?_⟩
    rw [← e']
    simp
  · cases ra
    cases rb
    have e' := Option.some.inj e
    refine .inl ⟨rfl, ?_⟩
    rw [← e']
    simp
  · exact .inr (gen e)
theorem os_eq {K : PySem.W.Frag} (hK : K = Z.K) : OpS Z W (fun x y H Q => rEq x y H Q ∨ rEqD K x y H Q) aEq := by
  subst hK
  intro μ S σ H x y a b Q c ra rb p
  unfold aEq at p
  cases e : aEqB a b with
  | none => rw [e] at p; exact p.elim
  | some k =>
    rw [e] at p
    rcases eqB_ok ra rb e with ⟨h1, h2⟩ | ⟨d, e2, h1, h2, h3, h4, h5⟩
    · exact .inl ⟨h1, by rw [h2]; exact p.val c (.bl k)⟩
    · exact .inr ⟨d, e2, h1, h2, h3, h4, by rw [h5]; exact p.val c (.bl k)⟩
theorem os_ne {K : PySem.W.Frag} (hK : K = Z.K) : OpS Z W (fun x y H Q => rNe x y H Q ∨ rNeD K x y H Q) aNe := by
  subst hK
  intro μ S σ H x y a b Q c ra rb p
  unfold aNe at p
  cases e : aEqB a b with
  | none => rw [e] at p; exact p.elim
  | some k =>
    rw [e] at p
    rcases eqB_ok ra rb e with ⟨h1, h2⟩ | ⟨d, e2, h1, h2, h3, h4, h5⟩
    · exact .inl ⟨h1, by rw [h2]; exact p.val c (.bl (!k))⟩
    · exact .inr ⟨d, e2, h1, h2, h3, h4, by rw [h5]; exact p.val c (.bl (!k))⟩
theorem isNon_ok {μ : List Addr} {H : Hp} {x : V} {a : AV} (r : Rv Z μ H x a) : decide (x = .non) = a.isNon := by
  cases r <;> simp [AV.isNon]
theorem os_is : OpS Z W (fun x y H Q => y = .non ∧ Q (.bl (decide (x = .non))) H) aIs := by
  intro μ S σ H x y a b Q c ra rb p
  cases rb <;> try exact p.elim
  exact ⟨rfl, by rw [isNon_ok ra]; exact Post.val (x := .bl a.isNon) c (.bl _) p⟩
theorem os_ns : OpS Z W (fun x y H Q => y = .non ∧ Q (.bl (!decide (x = .non))) H) aNs := by
  intro μ S σ H x y a b Q c ra rb p
  cases rb <;> try exact p.elim
  exact ⟨rfl, by rw [isNon_ok ra]; exact Post.val (x := .bl (!a.isNon)) c (.bl _) p⟩
end

/-! ### rules by their Python word -/
section
variable {X : Cx} {cl : Str → Option Addr} {W : WX} {a b c e : Expr} {f g h : ME} {m m2 : MA} {pos : Pos}
theorem px_add (ha : PX X cl W a f) (hb : PX X cl W b g) : PX X cl W (.BinOp a .Add b pos) (mOp aAdd f g) := px_bin (op_add.or (op_add_str.or op_catA)) (os_add rfl) ha hb
theorem px_sub (ha : PX X cl W a f) (hb : PX X cl W b g) : PX X cl W (.BinOp a .Sub b pos) (mOp aSub f g) := px_bin op_sub (os_int0 fun _ _ _ _ => .int _) ha hb
theorem px_mul (ha : PX X cl W a f) (hb : PX X cl W b g) : PX X cl W (.BinOp a .Mult b pos) (mOp aMul f g) := px_bin op_mul (os_int (fun _ _ h => h) fun _ _ _ _ => .int _) ha hb
theorem px_div (ha : PX X cl W a f) (hb : PX X cl W b g) : PX X cl W (.BinOp a .FloorDiv b pos) (mOp aDiv f g) := px_bin op_fdiv (os_int (fun _ _ h => h) fun _ _ _ _ => .int _) ha hb
theorem px_mod (ha : PX X cl W a f) (hb : PX X cl W b g) : PX X cl W (.BinOp a .Mod b pos) (mOp aMod f g) := px_bin op_mod (os_int (fun _ _ h => h) fun _ _ _ _ => .int _) ha hb
theorem px_pow (ha : PX X cl W a f) (hb : PX X cl W b g) : PX X cl W (.BinOp a .Pow b pos) (mOp aPow f g) := px_bin op_pow (os_int (fun _ _ h => h) fun _ _ _ _ => .int _) ha hb
theorem px_shl (ha : PX X cl W a f) (hb : PX X cl W b g) : PX X cl W (.BinOp a .LShift b pos) (mOp aShl f g) := px_bin op_shl (os_int (fun _ _ h => h) fun _ _ _ _ => .int _) ha hb
theorem px_neg (ha : PX X cl W a f) : PX X cl W (.UnaryOp .USub a pos) (mUn aNeg f) := px_un un_neg (fun μ S σ H x a Q c r p => by
  cases r <;> try exact p.elim
  rename_i i
  exact ⟨i, rfl, Post.val (x := .int (-i)) c (.int _) p⟩) ha
theorem os_lt {Z : Kx} : OpS Z W (rI0 fun i j => .bl (decide (i < j))) aLt := os_int0 fun _ _ _ _ => .bl _
theorem os_le {Z : Kx} : OpS Z W (rI0 fun i j => .bl (decide (i ≤ j))) aLe := os_int0 fun _ _ _ _ => .bl _
theorem os_gt {Z : Kx} : OpS Z W (rI0 fun i j => .bl (decide (j < i))) aGt := os_int0 fun _ _ _ _ => .bl _
theorem os_ge {Z : Kx} : OpS Z W (rI0 fun i j => .bl (decide (j ≤ i))) aGe := os_int0 fun _ _ _ _ => .bl _
theorem op_eqA (hu : X.A.units + 64 < cLine) : OpR X (compareOp .Eq) (fun x y H Q => rEq x y H Q ∨ rEqD X.K x y H Q) := op_eq.or (op_eqD hu)
theorem op_neA (hu : X.A.units + 64 < cLine) : OpR X (compareOp .NotEq) (fun x y H Q => rNe x y H Q ∨ rNeD X.K x y H Q) := op_ne.or (op_neD hu)
theorem hu64 {A : Around} {k : Nat} (hr : Room k A) : A.units + 64 < cLine := Nat.lt_of_le_of_lt (by omega) hr.un

/-! lists side by side -/
def lCatFF (m m2 : MA) : MA := fun ρ S => (m ρ S).bind fun xs S1 => (m2 ρ S1).bind fun ys S2 => if xs.length + ys.length ≤ 100000 then .ok (xs ++ ys) S2 else .no
def lCatCF (f : ME) (m2 : MA) : MA := fun ρ S => (mRef f ρ S).bind fun n S1 => (m2 ρ S1).bind fun ys S2 => (mCell n S2).bind fun xs S3 => if xs.length + ys.length ≤ 100000 then .ok (xs ++ ys) S3 else .no
def lCatFC (m : MA) (g : ME) : MA := fun ρ S => (m ρ S).bind fun xs S1 => (mRef g ρ S1).bind fun n S2 => (mCell n S2).bind fun ys S3 => if xs.length + ys.length ≤ 100000 then .ok (xs ++ ys) S3 else .no
theorem Post.refE {β α : Type} {Z : Kx} {Rl : Rel β α} (hA : Anti Z Rl) {μ : List Addr} {H : Hp} {σ : L2.St} {Q : V → Hp → Prop} {Q2 : β → Hp → Prop} {ρ : Slots} {S : Sto} {o' : ME} {k : Nat → Sto → R α} (h : Post Z μ H σ W Rl Q2 ((mRef o' ρ S).bind k))
    (q : ∀ (μ1 : List Addr) (p : Addr) (H1 : Hp) (n : Nat) (S1 : Sto), Grow Z μ H μ1 H1 → CellsOk Z μ1 S1 H1 → μ1[n]? = some p → Post Z μ1 H1 σ W Rl Q2 (k n S1) → Q (.ref p) H1) : Post Z μ H σ W (RlV Z) Q (o' ρ S) := by
  unfold mRef at h
  revert h
  cases o' ρ S with
  | no => exact fun h => h
  | ex e S1 => exact fun h => h
  | ok a S1 =>
    intro h μ1 b H1 g c rl
    cases rl with
    | ref hn => exact q μ1 _ H1 _ S1 g c hn (Post.shift hA g c h)
    | int n => exact h.elim
    | non => exact h.elim
    | bl b => exact h.elim
    | str b => exact h.elim
    | tup _ _ => exact h.elim
    | rol _ _ => exact h.elim
theorem Post.cellE {β α : Type} {Z : Kx} {Rl : Rel β α} {μ : List Addr} {H : Hp} {σ : L2.St} {Q2 : β → Hp → Prop} {S : Sto} {n : Nat} {p : Addr} {k : List AV → Sto → R α} (c : CellsOk Z μ S H) (hn : μ[n]? = some p) (h : Post Z μ H σ W Rl Q2 ((mCell n S).bind k)) : ∃ xs vs, H p = some (.lst vs) ∧ Rvs Z μ H vs xs ∧ S[n]? = some (.lst xs) ∧ Post Z μ H σ W Rl Q2 (k xs S) := by
  unfold mCell cellOf at h
  revert h
  cases z : S[n]? with
  | none => exact fun h => h.elim
  | some cc =>
    cases cc with
    | lst xs =>
      intro h
      obtain ⟨vs, w1, w2⟩ := c.at_ n _ p z hn
      exact ⟨xs, vs, w1, w2, rfl, h⟩
theorem cat_end {Z : Kx} {μ : List Addr} {S : Sto} {H : Hp} {σ : L2.St} {Q : VK} {p q : Addr} {vs ws : List V} {xs ys : List AV} (c : CellsOk Z μ S H) (h1 : H p = some (.lst vs)) (h2 : H q = some (.lst ws)) (r1 : Rvs Z μ H vs xs) (r2 : Rvs Z μ H ws ys)
    (h : Post Z μ H σ W (RlL Z) Q (if xs.length + ys.length ≤ 100000 then .ok (xs ++ ys) S else .no)) : rCat (.ref p) (.ref q) H Q := by
  by_cases hz : xs.length + ys.length ≤ 100000
  · rw [if_pos hz] at h
    exact ⟨p, q, vs, ws, rfl, rfl, h1, h2, by rw [r1.len, r2.len]; exact sz_of hz, fun l nl => lst_of c nl (r1.append r2) h⟩
  · rw [if_neg hz] at h
    exact h.elim
theorem plx_catFF (ha : PLX X cl W a m) (hb : PLX X cl W b m2) : PLX X cl W (.BinOp a .Add b pos) (lCatFF m m2) := by
  obtain ⟨ta, h1, e1⟩ := ha
  obtain ⟨tb, h2, e2⟩ := hb
  refine ⟨_, pe_op op_cat h1 h2, fun μ ρ S σ H Q hc hs hp => ?_⟩
  refine e1 μ ρ S σ H _ hc hs (Post.bind anti_L hp fun μ1 x H1 xs S1 _ g1 c1 r1 p1 => ?_)
  refine e2 μ1 ρ S1 σ H1 _ c1 (hs.grow g1) (Post.bind anti_L p1 fun μ2 y H2 ys S2 _ g2 c2 r2 p2 => ?_)
  obtain ⟨p, vs, rfl, _, np, hp1, rp⟩ := r1
  obtain ⟨q, ws, rfl, _, nq, hq1, rq⟩ := r2
  exact cat_end c2 (g2.fr p _ np hp1) hq1 (g2.rvs rp) rq p2
theorem plx_catCF (ha : PX X cl W a f) (hb : PLX X cl W b m2) : PLX X cl W (.BinOp a .Add b pos) (lCatCF f m2) := by
  obtain ⟨ta, h1, e1⟩ := ha
  obtain ⟨tb, h2, e2⟩ := hb
  refine ⟨_, pe_op op_cat h1 h2, fun μ ρ S σ H Q hc hs hp => ?_⟩
  refine e1 μ ρ S σ H _ hc hs (Post.refE anti_L hp fun μ1 p H1 n S1 g1 c1 hn p1 => ?_)
  refine e2 μ1 ρ S1 σ H1 _ c1 (hs.grow g1) (Post.bind anti_L p1 fun μ2 y H2 ys S2 _ g2 c2 r2 p2 => ?_)
  obtain ⟨q, ws, rfl, _, nq, hq1, rq⟩ := r2
  obtain ⟨xs, vs, w1, w2, _, p3⟩ := Post.cellE c2 (g2.pre n p hn) p2
  exact cat_end c2 w1 hq1 w2 rq p3
theorem plx_catFC (ha : PLX X cl W a m) (hb : PX X cl W b g) : PLX X cl W (.BinOp a .Add b pos) (lCatFC m g) := by
  obtain ⟨ta, h1, e1⟩ := ha
  obtain ⟨tb, h2, e2⟩ := hb
  refine ⟨_, pe_op op_cat h1 h2, fun μ ρ S σ H Q hc hs hp => ?_⟩
  refine e1 μ ρ S σ H _ hc hs (Post.bind anti_L hp fun μ1 x H1 xs S1 _ g1 c1 r1 p1 => ?_)
  refine e2 μ1 ρ S1 σ H1 _ c1 (hs.grow g1) (Post.refE anti_L p1 fun μ2 q H2 n S2 g2 c2 hn p2 => ?_)
  obtain ⟨p, vs, rfl, _, np, hp1, rp⟩ := r1
  obtain ⟨ys, ws, w1, w2, _, p3⟩ := Post.cellE c2 hn p2
  exact cat_end c2 (g2.fr p _ np hp1) w1 (g2.rvs rp) w2 p3

/-! built-ins -/
def lenA (S : Sto) : AV → Option Nat
  | .tup xs => some xs.length
  | .rol xs => some xs.length
  | .str x => if x.length ≤ 100000 then some x.length else none
  | .ref n => (cellOf S n).map List.length
  | _ => none
def bLen : List AV → Sto → R AV := fun as S => match as with
  | [a] => R.of ((lenA S a).map fun (n : Nat) => AV.int (n : Int)) S
  | _ => .no
def bLenL : List AV → Sto → R AV := fun xs S => .ok (.int (xs.length : Int)) S
def bInt : List AV → Sto → R AV := fun as S => match as with
  | [.int i] => .ok (.int i) S
  | [.bl k] => .ok (.int (if k then 1 else 0)) S
  | _ => .no
def bAbs : List AV → Sto → R AV := fun as S => match as with
  | [.int i] => .ok (.int (if i < 0 then -i else i)) S
  | _ => .no
def seqA (S : Sto) : AV → Option (List AV)
  | .tup xs => some xs
  | .rol xs => some xs
  | .ref n => cellOf S n
  | _ => none
def bTup : List AV → Sto → R AV := fun as S => match as with
  | [a] => R.of ((seqA S a).map .tup) S
  | _ => .no
def bTupL : List AV → Sto → R AV := fun xs S => .ok (.tup xs) S
def bList : List AV → Sto → R (List AV) := fun as S => match as with
  | [a] => R.of (seqA S a) S
  | _ => .no
def blsOf : List AV → Option (List Bool)
  | [] => some []
  | .bl b :: r => (blsOf r).map (b :: ·)
  | _ :: _ => none
def bAllL : List AV → Sto → R AV := fun xs S => R.of ((blsOf xs).map fun bs => .bl (bs.all id)) S
def reprA (x : AV) : Option AV := match x with
  | .tup _ => x.data.bind fun d => if d.showable = true ∧ d.hasDict = false ∧ d.depth ≤ 64 ∧ d.shown.length ≤ 100000 then some (.str d.shown) else none
  | _ => none
def bRepr : List AV → Sto → R AV := fun as S => match as with
  | [a] => R.of (reprA a) S
  | _ => .no
section
variable {Z : Kx}
theorem one_of {μ : List Addr} {H : Hp} {vs : List V} {x : AV} (r : Rvs Z μ H vs [x]) : ∃ v, vs = [v] ∧ Rv Z μ H v x := by
  cases r with
  | cons h1 h2 => cases h2; exact ⟨_, rfl, h1⟩
theorem cellOf_some {S : Sto} {k : Nat} {xs : List AV} (e : cellOf S k = some xs) : S[k]? = some (.lst xs) := by
  unfold cellOf at e
  split at e
  · rename_i q
    rw [q, Option.some.inj e]
  · cases e
theorem lenA_ok {μ : List Addr} {S : Sto} {H : Hp} {v : V} {x : AV} {n : Nat} (c : CellsOk Z μ S H) (r : Rv Z μ H v x) (e : lenA S x = some n) : LenV Z.K v H n := by
  cases r with
  | tup h1 h2 => cases e; exact .inr ⟨_, h1, h2.len.symm⟩
  | rol h1 h2 => cases e; exact .inl ⟨_, h1.sq, h2.len.symm⟩
  | str x =>
    have e' : (if x.length ≤ 100000 then some x.length else none) = some n := e
    by_cases h : x.length ≤ 100000
    · rw [if_pos h] at e'
      cases e'
      exact ⟨sz_of h, rfl⟩
    · rw [if_neg h] at e'
      cases e'
  | ref hn =>
    rename_i k p
    have e' : (cellOf S k).map List.length = some n := e
    cases q : cellOf S k with
    | none => rw [q] at e'; cases e'
    | some xs =>
      rw [q] at e'
      cases e'
      obtain ⟨vs, w1, w2⟩ := c.at_ k _ p (cellOf_some q) hn
      exact .inl ⟨vs, SqL.of w1, w2.len.symm⟩
  | non => cases e
  | bl b => cases e
  | int b => cases e
theorem cs_len : CallS Z W (RlV Z) (fun xs H Q => ∃ x n, xs = [x] ∧ LenV Z.K x H n ∧ Q (.int n) H) bLen := by
  intro μ S σ H vs as Q c r p
  match as, r, p with
  | [a], r, p =>
    obtain ⟨v, rfl, rv⟩ := one_of r
    have p' : Post Z μ H σ W (RlV Z) Q (R.of ((lenA S a).map fun (n : Nat) => AV.int (n : Int)) S) := p
    cases e : lenA S a with
    | none => rw [e] at p'; exact p'.elim
    | some n =>
      rw [e] at p'
      exact ⟨v, n, rfl, lenA_ok c rv e, p'.val c (.int _)⟩
  | [], _, p => exact p.elim
  | _ :: _ :: _, _, p => exact p.elim
theorem ls_len : LstS Z W (RlV Z) (fun xs H Q => ∃ x n, xs = [x] ∧ LenV Z.K x H n ∧ Q (.int n) H) bLenL := fun μ S σ H p vs as Q c np hp r q => by
  refine ⟨_, vs.length, rfl, .inl ⟨vs, SqL.of hp, rfl⟩, ?_⟩
  rw [r.len]
  exact Post.val (x := .int (as.length : Int)) c (.int _) q
theorem cs_int : CallS Z W (RlV Z) (fun xs H Q => (∃ i, xs = [.int i] ∧ Q (.int i) H) ∨ ∃ k, xs = [.bl k] ∧ Q (.int (if k then 1 else 0)) H) bInt := by
  intro μ S σ H vs as Q c r p
  unfold bInt at p
  split at p
  · obtain ⟨v, rfl, rv⟩ := one_of r
    cases rv
    exact .inl ⟨_, rfl, Post.val c (.int _) p⟩
  · obtain ⟨v, rfl, rv⟩ := one_of r
    cases rv
    rename_i k
    exact .inr ⟨k, rfl, Post.val c (.int _) p⟩
  · exact p.elim
theorem cs_abs : CallS Z W (RlV Z) (fun xs H Q => ∃ i, xs = [.int i] ∧ Q (.int (if i < 0 then -i else i)) H) bAbs := by
  intro μ S σ H vs as Q c r p
  unfold bAbs at p
  split at p
  · obtain ⟨v, rfl, rv⟩ := one_of r
    cases rv
    exact ⟨_, rfl, Post.val c (.int _) p⟩
  · exact p.elim
theorem seqA_ok {μ : List Addr} {S : Sto} {H : Hp} {v : V} {x : AV} {xs : List AV} (c : CellsOk Z μ S H) (r : Rv Z μ H v x) (e : seqA S x = some xs) : ∃ p vs, v = .ref p ∧ Rvs Z μ H vs xs ∧ (SqL Z.K H p vs ∨ (SqT Z.K H p vs ∧ x = .tup xs)) := by
  cases r with
  | tup h1 h2 => cases e; exact ⟨_, _, rfl, h2, .inr ⟨h1, rfl⟩⟩
  | rol h1 h2 => cases e; exact ⟨_, _, rfl, h2, .inl h1.sq⟩
  | ref hn =>
    rename_i k p
    obtain ⟨vs, w1, w2⟩ := c.at_ k _ p (cellOf_some e) hn
    exact ⟨p, vs, rfl, w2, .inl (SqL.of w1)⟩
  | str x => cases e
  | non => cases e
  | bl b => cases e
  | int b => cases e
abbrev rTupC (K : PySem.W.Frag) : List V → Hp → VK → Prop := fun xs H Q => ∃ p ys, xs = [.ref p] ∧ ((SqL K H p ys ∧ ∀ l, H l = none → Q (.ref l) (upd H l (.tup ys))) ∨ (SqT K H p ys ∧ Q (.ref p) H))
abbrev rLstC (K : PySem.W.Frag) : List V → Hp → VK → Prop := fun xs H Q => ∃ p ys, xs = [.ref p] ∧ (SqL K H p ys ∨ SqT K H p ys) ∧ ∀ l, H l = none → Q (.ref l) (upd H l (.lst ys))
theorem cs_tup : CallS Z W (RlV Z) (rTupC Z.K) bTup := by
  intro μ S σ H vs as Q c r p
  match as, r, p with
  | [a], r, p =>
    obtain ⟨v, rfl, rv⟩ := one_of r
    have p' : Post Z μ H σ W (RlV Z) Q (R.of ((seqA S a).map .tup) S) := p
    cases e : seqA S a with
    | none => rw [e] at p'; exact p'.elim
    | some xs =>
      rw [e] at p'
      obtain ⟨q, ws, rfl, rw', h⟩ := seqA_ok c rv e
      rcases h with h | ⟨h, rfl⟩
      · exact ⟨q, ws, rfl, .inl ⟨h, fun l nl => tup_of c nl rw' p'⟩⟩
      · exact ⟨q, ws, rfl, .inr ⟨h, p'.val c rv⟩⟩
  | [], _, p => exact p.elim
  | _ :: _ :: _, _, p => exact p.elim
theorem ls_tup : LstS Z W (RlV Z) (rTupC Z.K) bTupL := fun μ S σ H p vs as Q c np hp r q => ⟨p, vs, rfl, .inl ⟨SqL.of hp, fun l nl => tup_of c nl r q⟩⟩
theorem cs_list : CallS Z W (RlL Z) (rLstC Z.K) bList := by
  intro μ S σ H vs as Q c r p
  match as, r, p with
  | [a], r, p =>
    obtain ⟨v, rfl, rv⟩ := one_of r
    have p' : Post Z μ H σ W (RlL Z) Q (R.of (seqA S a) S) := p
    cases e : seqA S a with
    | none => rw [e] at p'; exact p'.elim
    | some xs =>
      rw [e] at p'
      obtain ⟨q, ws, rfl, rw', h⟩ := seqA_ok c rv e
      exact ⟨q, ws, rfl, h.imp id (·.1), fun l nl => lst_of c nl rw' p'⟩
  | [], _, p => exact p.elim
  | _ :: _ :: _, _, p => exact p.elim
theorem bls_ok {μ : List Addr} {H : Hp} : ∀ {xs : List AV} {vs : List V} {bs : List Bool}, Rvs Z μ H vs xs → blsOf xs = some bs → vs = bs.map V.bl
  | [], _, _, r, e => by cases r; cases e; rfl
  | x :: xs, _, bs, r, e => by
    cases r with
    | cons h1 h2 =>
      cases h1 <;> try (simp [blsOf] at e; done)
      rename_i k
      have e' : (blsOf xs).map (k :: ·) = some bs := by simpa [blsOf] using e
      cases q : blsOf xs with
      | none => rw [q] at e'; cases e'
      | some cs =>
        rw [q] at e'
        cases e'
        rw [bls_ok h2 q]
        rfl
theorem ls_all : LstS Z W (RlV Z) (rAll Z.K) bAllL := fun μ S σ H p vs as Q c np hp r q => by
  unfold bAllL at q
  cases e : blsOf as with
  | none => rw [e] at q; exact q.elim
  | some bs =>
    rw [e] at q
    have ev := bls_ok r e
    subst ev
    exact ⟨p, bs, rfl, SqL.of hp, Post.val (x := .bl (bs.all id)) c (.bl _) q⟩
/-- repr of a tuple -/
def rReprT (K : PySem.W.Frag) : List V → Hp → VK → Prop := fun xs H Q => ∃ (a : Addr) (d : PyData), xs = [.ref a] ∧ Dp K H (.ref a) d ∧ (d.showable = true ∧ d.hasDict = false ∧ d.depth ≤ 64 ∧ d.shown.length ≤ 100000) ∧ Q (.str d.shown) H
theorem call_reprT (gds : X.A.guards = some []) (hu : X.A.units + 100 < cLine) : CallR X (.builtin "repr") (rReprT X.K) := by
  intro pins s σ H xs us Q I r h
  obtain ⟨a, d, rfl, hd, ⟨h1, h2, h3, h4⟩, q⟩ := h
  cases r with
  | cons r1 r2 =>
    cases r2
    obtain ⟨as, rd⟩ := Dp.reads I d _ _ hd r1
    cases r1
    exact repr_of_reads' rd h1 (PyData.noDict_hsm h2) gds (by omega) (fun _ _ e => e) (fun h' u tk hk => ⟨.str d.shown, H, I.kept hk, ⟨u, rfl⟩, q⟩) (sz_of h4)
theorem cs_repr : CallS Z W (RlV Z) (rReprT Z.K) bRepr := by
  intro μ S σ H vs as Q c r p
  match as, r, p with
  | [.tup xs], r, p =>
    obtain ⟨v, rfl, rv⟩ := one_of r
    have p' : Post Z μ H σ W (RlV Z) Q (R.of ((AV.tup xs).data.bind fun d => if d.showable = true ∧ d.hasDict = false ∧ d.depth ≤ 64 ∧ d.shown.length ≤ 100000 then some (.str d.shown) else none) S) := p
    cases e : (AV.tup xs).data with
    | none => rw [e] at p'; exact p'.elim
    | some d =>
      rw [e] at p'
      have p2 : Post Z μ H σ W (RlV Z) Q (R.of (if d.showable = true ∧ d.hasDict = false ∧ d.depth ≤ 64 ∧ d.shown.length ≤ 100000 then some (.str d.shown) else none) S) := p'
      by_cases h : d.showable = true ∧ d.hasDict = false ∧ d.depth ≤ 64 ∧ d.shown.length ≤ 100000
      · rw [if_pos h] at p2
        have dp := dp_of _ v d rv e
        cases rv with
        | tup h1 h2 => exact ⟨_, d, rfl, dp, h, p2.val c (.str _)⟩
      · rw [if_neg h] at p2
        exact p2.elim
  | [.non], _, p => exact p.elim
  | [.bl _], _, p => exact p.elim
  | [.int _], _, p => exact p.elim
  | [.str _], _, p => exact p.elim
  | [.rol _], _, p => exact p.elim
  | [.ref _], _, p => exact p.elim
  | [], _, p => exact p.elim
  | _ :: _ :: _, _, p => exact p.elim
end

/-! isinstance with a built-in class -/
def AV.ty : AV → String
  | .non => "NoneType"
  | .bl _ => "bool"
  | .int _ => "int"
  | .str _ => "str"
  | .tup _ => "tuple"
  | .rol _ => "list"
  | .ref _ => "list"
def aIsi (T : String) (x : AV) : Option AV := (kitB x.ty T).map .bl
theorem ty_ok {Z : Kx} {μ : List Addr} {S : Sto} {H : Hp} {v : V} {x : AV} (c : CellsOk Z μ S H) (r : Rv Z μ H v x) : TyX Z.K H v (.type x.ty) := by
  cases r with
  | non => exact .base .non
  | bl b => exact .base (.bl b)
  | int b => exact .base (.int b)
  | str b => exact .base (.str b)
  | tup h1 h2 =>
    rcases h1 with (h | ⟨o, h⟩) | ⟨o, its, n, h, hc, _⟩
    · exact .base (.tup h)
    · exact .fTuple h
    · exact .kTuple h hc
  | rol h1 h2 =>
    rcases h1 with ⟨o, h⟩ | ⟨o, its, n, h, hc, _⟩
    · exact .base (.frz h)
    · exact .kList h hc
  | ref hn =>
    obtain ⟨vs, z⟩ := c.tracked (List.mem_of_getElem? hn)
    exact .base (.lst z)
theorem px_isi {T : String} {x y : Str} {p p2 : Pos} (hg : Gl X x) (hm : X.mg x = none) (hv : bootBuiltins x = some (.builtin "isinstance")) (ha : PX X cl W a f) (hg2 : Gl X y) (hm2 : X.mg y = none) (hv2 : bootBuiltins y = some (.type T))
    (hn : x ≠ "__name__" := by decide) (hdb : (x == ("__debug__" : Str)) = false := by decide) (hn2 : y ≠ "__name__" := by decide) (hdb2 : (y == ("__debug__" : Str)) = false := by decide)
    (he : starEach [a, .Name y p2] X.env = (false, eval a X.env) :: starEach [.Name y p2] X.env := by rfl) (hpl : (backTo pos (starEach [.Name y p2] X.env)).any (·.1) = false := by rfl) : PX X cl W (.Call (.Name x p) [a, .Name y p2] [] pos) (mUn (aIsi T) f) := by
  obtain ⟨ta, h1, e1⟩ := ha
  refine ⟨_, pe_callB call_isi hg hm hv (pa_cons h1 (pa_cons (pe_bltn (v := .ty T) hg2 hm2 hv2 rfl hn2 hdb2) pa_nil) he) hn hdb he hpl, fun μ ρ S σ H Q hc hs hp => e1 μ ρ S σ H _ hc hs (Post.bind anti_V hp fun μ1 v H1 k S1 _ g c rl q => ?_)⟩
  unfold aIsi at q
  cases e : kitB k.ty T with
  | none => rw [e] at q; exact q.elim
  | some b =>
    rw [e] at q
    exact ⟨v, .ty T, _, _, b, rfl, .ty T, ty_ok c rl, kit_ty e, Post.val (x := .bl b) c (.bl b) q⟩

/-! subscripts, slices -/
def ixA (S : Sto) : AV → AV → Option AV
  | .tup xs, .int i => atI xs i
  | .rol xs, .int i => atI xs i
  | .ref n, .int i => (cellOf S n).bind fun xs => atI xs i
  | .str z, .int i => if z.length ≤ 100000 then (atI z.cps.toList i).map fun c => .str ⟨#[c]⟩ else none
  | _, _ => none
def mIx (f g : ME) : ME := fun ρ S => (f ρ S).bind fun a S1 => (g ρ S1).bind fun b S2 => R.of (ixA S2 a b) S2
theorem atI_rel {Z : Kx} {μ : List Addr} {H : Hp} {vs : List V} {xs : List AV} {i : Int} {x : AV} (r : Rvs Z μ H vs xs) (e : atI xs i = some x) : ∃ v, atI vs i = some v ∧ Rv Z μ H v x := by
  unfold atI at e ⊢
  rw [r.len]
  cases ej : ixN xs.length i with
  | none => rw [ej] at e; cases e
  | some j =>
    rw [ej] at e
    exact r.get e
theorem px_at (ha : PX X cl W a f) (hb : PX X cl W b g) (hs : PlainIx b := by exact fun _ _ => rfl) : PX X cl W (.Subscript a b pos) (mIx f g) := px_ix (g0 := ixA) ix_seq (fun μ S σ H x y k l Q c ra rb p => by
  cases ra with
  | tup h1 h2 =>
    cases rb <;> try exact p.elim
    rename_i q vs xs i
    have p' : Post ⟨X.K, cl⟩ μ H σ W (RlV ⟨X.K, cl⟩) Q (R.of (atI xs i) S) := p
    cases e : atI xs i with
    | none => rw [e] at p'; exact p'.elim
    | some z =>
      rw [e] at p'
      obtain ⟨v, hv, rv⟩ := atI_rel h2 e
      exact .inr (.inl ⟨_, _, i, v, rfl, rfl, h1, hv, p'.val c rv⟩)
  | rol h1 h2 =>
    cases rb <;> try exact p.elim
    rename_i q vs xs i
    have p' : Post ⟨X.K, cl⟩ μ H σ W (RlV ⟨X.K, cl⟩) Q (R.of (atI xs i) S) := p
    cases e : atI xs i with
    | none => rw [e] at p'; exact p'.elim
    | some z =>
      rw [e] at p'
      obtain ⟨v, hv, rv⟩ := atI_rel h2 e
      exact .inl ⟨_, _, i, v, rfl, rfl, h1.sq, hv, p'.val c rv⟩
  | ref hn =>
    cases rb <;> try exact p.elim
    rename_i n q i
    have p' : Post ⟨X.K, cl⟩ μ H σ W (RlV ⟨X.K, cl⟩) Q (R.of ((cellOf S n).bind fun xs => atI xs i) S) := p
    cases e0 : cellOf S n with
    | none => rw [e0] at p'; exact p'.elim
    | some xs =>
      rw [e0] at p'
      have p2 : Post ⟨X.K, cl⟩ μ H σ W (RlV ⟨X.K, cl⟩) Q (R.of (atI xs i) S) := p'
      obtain ⟨vs, w1, w2⟩ := c.at_ n _ q (cellOf_some e0) hn
      cases e : atI xs i with
      | none => rw [e] at p2; exact p2.elim
      | some z =>
        rw [e] at p2
        obtain ⟨v, hv, rv⟩ := atI_rel w2 e
        exact .inl ⟨_, _, i, v, rfl, rfl, SqL.of w1, hv, p2.val c rv⟩
  | str z =>
    cases rb <;> try exact p.elim
    rename_i i
    have p' : Post ⟨X.K, cl⟩ μ H σ W (RlV ⟨X.K, cl⟩) Q (R.of (if z.length ≤ 100000 then (atI z.cps.toList i).map fun c => .str ⟨#[c]⟩ else none) S) := p
    by_cases hz : z.length ≤ 100000
    · rw [if_pos hz] at p'
      cases e : atI z.cps.toList i with
      | none => rw [e] at p'; exact p'.elim
      | some ch =>
        rw [e] at p'
        exact .inr (.inr ⟨z, i, ch, rfl, rfl, sz_of hz, e, p'.val c (.str _)⟩)
    · rw [if_neg hz] at p'
      exact p'.elim
  | non => exact p.elim
  | bl _ => exact p.elim
  | int _ => exact p.elim) ha hb hs
def cutA {α : Type} (xs : List α) (lo hi : Option Int) : List α := (xs.drop (HT.sIx xs.length 0 lo)).take (HT.sIx xs.length xs.length hi - HT.sIx xs.length 0 lo)
def slT : AV → Option Int → Option Int → Sto → R AV := fun a lo hi S => match a with
  | .tup xs => .ok (.tup (cutA xs lo hi)) S
  | _ => .no
def slL : AV → Option Int → Option Int → Sto → R (List AV) := fun a lo hi S => match a with
  | .rol xs => .ok (cutA xs lo hi) S
  | .ref n => R.of ((cellOf S n).map fun xs => cutA xs lo hi) S
  | _ => .no
theorem cut_rel {Z : Kx} {μ : List Addr} {H : Hp} {vs : List V} {xs : List AV} (r : Rvs Z μ H vs xs) (lo hi : Option Int) : Rvs Z μ H (cutV vs lo hi) (cutA xs lo hi) := by
  unfold cutV cutA
  rw [r.len]
  exact (r.drop _).take _
theorem px_slT {lo hi : Option Expr} {ml mh : Slots → Sto → R (Option Int)} {p2 : Pos} (ha : PX X cl W a f) (hl : POX X cl W lo ml) (hh : POX X cl W hi mh) : PX X cl W (.Subscript a (.Slice lo hi none p2) pos) (mSl slT f ml mh) := px_sl sl_tupA (fun μ S σ H x k lo hi Q c ra p => by
  cases ra with
  | tup h1 h2 =>
    rename_i q vs xs
    refine ⟨q, vs, rfl, h1, fun hw => ?_, fun _ l nl => tup_of c nl (cut_rel h2 lo hi) p⟩
    have e : cutA xs lo hi = xs := by
      unfold cutA
      rw [← h2.len, hw.1, hw.2]
      simp [h2.len]
    have p' : Post ⟨X.K, cl⟩ μ H σ W (RlV ⟨X.K, cl⟩) Q (.ok (.tup (cutA xs lo hi)) S) := p
    rw [e] at p'
    exact p'.val c (.tup h1 h2)
  | rol _ _ => exact p.elim
  | ref _ => exact p.elim
  | str _ => exact p.elim
  | non => exact p.elim
  | bl _ => exact p.elim
  | int _ => exact p.elim) ha hl hh
theorem plx_slL {lo hi : Option Expr} {ml mh : Slots → Sto → R (Option Int)} {p2 : Pos} (ha : PX X cl W a f) (hl : POX X cl W lo ml) (hh : POX X cl W hi mh) : PLX X cl W (.Subscript a (.Slice lo hi none p2) pos) (mSl slL f ml mh) := plx_sl sl_list (fun μ S σ H x k lo hi Q c ra p => by
  cases ra with
  | rol h1 h2 => exact ⟨_, _, rfl, h1.sq, fun l nl => lst_of c nl (cut_rel h2 lo hi) p⟩
  | ref hn =>
    rename_i n q
    have p' : Post ⟨X.K, cl⟩ μ H σ W (RlL ⟨X.K, cl⟩) Q (R.of ((cellOf S n).map fun xs => cutA xs lo hi) S) := p
    cases e0 : cellOf S n with
    | none => rw [e0] at p'; exact p'.elim
    | some xs =>
      rw [e0] at p'
      obtain ⟨vs, w1, w2⟩ := c.at_ n _ q (cellOf_some e0) hn
      exact ⟨q, vs, rfl, SqL.of w1, fun l nl => lst_of c nl (cut_rel w2 lo hi) p'⟩
  | tup _ _ => exact p.elim
  | str _ => exact p.elim
  | non => exact p.elim
  | bl _ => exact p.elim
  | int _ => exact p.elim) ha hl hh
/-- a slice of a new list that is not kept -/
def lSlL (m : MA) (ml mh : Slots → Sto → R (Option Int)) : MA := fun ρ S => (m ρ S).bind fun xs S1 => (ml ρ S1).bind fun lo S2 => (mh ρ S2).bind fun hi S3 => .ok (cutA xs lo hi) S3
theorem plx_slF {lo hi : Option Expr} {ml mh : Slots → Sto → R (Option Int)} {p2 : Pos} (ha : PLX X cl W a m) (hl : POX X cl W lo ml) (hh : POX X cl W hi mh) : PLX X cl W (.Subscript a (.Slice lo hi none p2) pos) (lSlL m ml mh) := by
  obtain ⟨ta, h1, e1⟩ := ha
  obtain ⟨tl, h2, e2⟩ := hl
  obtain ⟨th, h3, e3⟩ := hh
  refine ⟨_, pe_slice sl_list h1 h2 h3, fun μ ρ S σ H Q hc hs hp => ?_⟩
  refine e1 μ ρ S σ H _ hc hs (Post.bind anti_L hp fun μ1 x H1 xs S1 _ g1 c1 r1 p1 => ?_)
  refine e2 μ1 ρ S1 σ H1 _ c1 (hs.grow g1) (Post.bind anti_L p1 fun μ2 y H2 lo S2 _ g2 c2 r2 p2 => ?_)
  refine e3 μ2 ρ S2 σ H2 _ c2 ((hs.grow g1).grow g2) (Post.bind anti_L p2 fun μ3 z H3 hi S3 _ g3 c3 r3 p3 => ?_)
  cases r2
  cases r3
  obtain ⟨q, vs, rfl, n0, nq, hq, rq⟩ := r1
  have g23 := g2.trans g3
  exact ⟨q, vs, rfl, SqL.of (g23.fr q _ nq hq), fun l nl => lst_of c3 nl (cut_rel (g23.rvs rq) y z) p3⟩
end

/-! ### the law's end -/
section
theorem only_rol {K : PySem.W.Frag} {H : Hp} {a : Addr} {xs : List V} (h0 : Only H) (h : SqL K H a xs) : RoL K H a xs := by
  rcases h with (h | h) | h
  · rcases h0 a with z | ⟨o, ys, z⟩
    · rw [z] at h; cases h
    · rw [z] at h; cases h
  · exact .inl h
  · exact .inr h
/-- what the law's def is to say: True -/
def spLaw (K : PySem.W.Frag) : Sp := fun vs H Q _ => ∃ (a : Addr) (ns : List Int), vs = [.ref a] ∧ Only H ∧ SqL K H a (ns.map V.int) ∧ ns.length ≤ 63 ∧ (∀ z ∈ ns, Builtin.Int.intBits z ≤ 1048576) ∧ ∀ H', Q (.bl true) H'
theorem law_sp {K : PySem.W.Frag} {cl : Str → Option Addr} {m : List AV → Sto → R AV} (hm : ∀ ns : List Int, ns.length ≤ 63 → (∀ z ∈ ns, Builtin.Int.intBits z ≤ 1048576) → ∃ S, m [.rol (ns.map .int)] [] = .ok (.bl true) S) :
    ∀ vs H Q E, spLaw K vs H Q E → spM ⟨K, cl⟩ 1 m vs H Q E := by
  rintro vs H Q E ⟨a, ns, rfl, h0, hS, hl, hb, q⟩
  obtain ⟨S, e⟩ := hm ns hl hb
  refine ⟨rfl, [], [], [.rol (ns.map .int)], CellsOk.empty, .cons (.rol (only_rol h0 hS) (Rvs.of_ints ns)) .nil, ?_⟩
  rw [e]
  intro μ' x H' _ _ r
  cases r
  exact q H'
end
end Mi
namespace Mi
open PySem PySem.Spec PyProof.Rows L2
section
variable {X : Cx} {cl : Str → Option Addr} {W : WX} {pos : Pos}
theorem px_gI {x : Str} {i : Int} (hg : Gl X x) (hm : ∃ t, X.mg x = some (.int i t)) (hd : (x == ("__debug__" : Str)) = false := by decide) : PX X cl W (.Name x pos) (mC (.int i)) := let ⟨t, e⟩ := hm; px_gint hg e ⟨t, rfl⟩ hd
theorem px_gS {x y : Str} (hg : Gl X x) (hm : ∃ t, X.mg x = some (.str y t)) (hd : (x == ("__debug__" : Str)) = false := by decide) : PX X cl W (.Name x pos) (mC (.str y)) := let ⟨t, e⟩ := hm; px_gstr hg e ⟨t, rfl⟩ hd
end
theorem hu100 {A : Around} {k : Nat} (hr : Room k A) : A.units + 100 < cLine := Nat.lt_of_le_of_lt (by omega) hr.un
end Mi
/-! Mi9: the law's end, where no repr is under way. -/
namespace Mi
open PySem PySem.Spec PyProof.Rows L2

theorem only_end {P : Program} {w : World} {H : Hp} {s s' : Shared} {v : V} {u : Value} (h0 : Only H) (hok : HOk P w H s.heap) (hv : v = .bl true) (h : CE [] P w H s (fun v _ => v = .bl true) u s') : u = .bool true ∧ OldK s.heap s'.heap ∧ s'.os = s.os ∧ AllBare s'.gens := by
  obtain ⟨x, H', os, bare, un, hok', rel, q⟩ := h
  have q2 : x = .bl true := q
  subst q2
  have eu : u = Value.bool true := rel
  refine ⟨eu, OldK.of_keep fun b o e => ?_, os, bare⟩
  cases hb : H b with
  | none => exact un.keep b o e hb (fun z => absurd z (List.not_mem_nil)) (fun z => absurd z (List.not_mem_nil))
  | some uu =>
    rcases h0 b with z | ⟨ob, xs, z⟩
    · exact absurd (hb.symm.trans z) (by simp)
    · have k1 := (hok b _ z).1
      have k2 := (hok' b _ (un.frzs b ob _ z)).1
      rw [k1] at e
      cases e
      exact k2
/-- the call of the law's def, from a heap H in which at most the script is known -/
theorem law_goes {P : Program} {w : World} {K : PySem.W.Frag} {mg mb : Str → Option Value} {k : Nat} {fa a : Addr} {fd : FuncData} {sp : Sp} {s₁ : Shared} {vs : List Value} {H : Hp}
    (KX : K.In s₁.heap) (hns : s₁.heap.Ns mainGlobals mg) (hb : s₁.heap.Ns builtinsNs mb) (hbb : ∀ x : Str, x ≠ "__name__" → mb x = bootBuiltins x) (hlim : s₁.heap.NoLimit) (hg : s₁.gens = #[])
    (ha : s₁.heap.get? a = some { cls := .type "list", data := .seq vs.toArray }) (hr : Room k callerA)
    (F : ∀ base : Heap, K.In base → base.Ns mainGlobals mg → FnG P w K mg base (L2.CX P w) k fa fd ["script"] sp) (hbind : ∀ (s : Shared) (u : Value), BindsTo s fd ⟨[u], []⟩ [("script", u)])
    (h0 : Only H) (hok : HOk P w H s₁.heap) (hone : ∀ b, H b ≠ none → b = a) (hnoK : H a ≠ none → K.lookup a = none) (hsp : sp [.ref a] H (fun v _ => v = .bl true) fun _ _ _ => False) :
    codeAny (model P w) callerA (.call (.ref fa) ⟨[.ref a], []⟩) (fun r s' => r = .ok (.ret (.bool true)) ∧ OldK s₁.heap s'.heap ∧ s'.os = s₁.os ∧ AllBare s'.gens) s₁ := by
  have dictfree : ∀ {b : Addr} {o : Obj} {es : Array DictEntry} {ep : Nat}, s₁.heap.get? b = some o → o.data = .dict es ep → H b = none := fun {b o es ep} e d => by
    by_cases q : H b = none
    · exact q
    · have hba := hone b q
      subst hba
      rw [ha] at e
      cases e
      cases d
  have keepNs : ∀ {b : Addr} {m : Str → Option Value}, s₁.heap.Ns b m → (hidT s₁.heap H).Ns b m := fun {b m} ⟨o, es, ep, e, d, r⟩ => ⟨o, es, ep, hidT_get e (dictfree e d), d, r⟩
  have inB : K.In (hidT s₁.heap H) := fun b o e => hidT_get (KX b o e) (by
    by_cases q : H b = none
    · exact q
    · have hba := hone b q
      subst hba
      rw [hnoK q] at e
      cases e)
  obtain ⟨mc, l1, l2⟩ := hlim
  have env : Env0 P w K mg (hidT s₁.heap H) callerA [] s₁ H := ⟨rfl, ⟨inB, keepNs hns, ⟨mb, keepNs hb, hbb⟩, ⟨mc, keepNs l1, l2⟩⟩, fun b o e => of_hidT e, Nat.le_of_eq (hidT_size _ _), trivial, fun b hb => absurd hb (List.not_mem_nil), hok, .of_eq hg⟩
  refine codeAny_mono ((F _ inB (keepNs hns)).go callerA [] s₁ H ⟨[.ref a], []⟩ [.ref a] [.ref a] _ _ hr rfl env (hbind s₁ (.ref a)) (.cons rfl .nil) hsp) fun r s' h => ?_
  cases r with
  | error e =>
    obtain ⟨_, _, _, _, _, _, _, _, _, _, _, _, q⟩ := h
    exact q.elim
  | ok fl =>
    cases fl with
    | next => exact h.elim
    | brk => exact h.elim
    | cont => exact h.elim
    | ret u =>
      obtain ⟨rfl, k1, k2, k3⟩ := only_end h0 hok rfl h
      exact ⟨rfl, k1, k2, k3⟩
theorem walkG {l : PySem.W.OpenLaw} {k : Nat} {q : Program} {loose : List Str} {XP : (Str → Option Value) → Heap → Prop} {YP : World → Heap → Prop} {d : DefRec} {K : Params → PySem.W.Frag} {cl : Str → Option Addr} {m : List AV → Sto → R AV}
    (hn : l.most = some 63) (hdf : d.params.defaults = []) (hr : Room k callerA) (hY : ∀ (w : World) (h : Heap), YP w h → (K w.params).In h)
    (F : ∀ (w : World) (mg : Str → Option Value) (fa : Addr) (h : Heap), (K w.params).In h → h.Ns mainGlobals mg → mg d.name = some (.ref fa) →
      ∃ fd : FuncData, (∀ (s : Shared) (u : Value), BindsTo s fd ⟨[u], []⟩ [("script", u)]) ∧ ∀ base : Heap, (K w.params).In base → base.Ns mainGlobals mg → FnG l.prog w (K w.params) mg base (L2.CX l.prog w) k fa fd ["script"] (spM ⟨K w.params, cl⟩ 1 m))
    (hm : ∀ ns : List Int, ns.length ≤ 63 → (∀ z ∈ ns, Builtin.Int.intBits z ≤ 1048576) → ∃ S, m [.rol (ns.map .int)] [] = .ok (.bl true) S) :
    PySem.W.WalkO q loose XP YP l.row.toRowW d [] (fun f vs => PySem.call f vs) := by
  refine Att.attach_callB hn hdf fun w s₀ s₁ mg mb fa o pm cd doc a vs ns G Y ho hd hcd hmg hobj hints hlen hbits hg => ?_
  have KX := hY w _ Y
  obtain ⟨fd, hbind, hF⟩ := F w mg fa _ KX G.T.g hmg
  have rv := vals_ints hints
  have hlv := hints.length
  have hz : ns.length ≤ sizeLine := Nat.le_trans hlen (by decide)
  have go := fun (H : Hp) (h0 : Only H) (hS : SqL (K w.params) H a (ns.map V.int)) => law_sp (K := K w.params) (cl := cl) hm [.ref a] H (fun v _ => v = .bl true) (fun _ _ _ => False) ⟨a, ns, rfl, h0, hS, hlen, hbits, fun _ => rfl⟩
  cases hk : (K w.params).lookup a with
  | some ob =>
    have e := KX a ob hk
    rw [hobj] at e
    cases e
    have h0 : Only (fun _ => none) := fun _ => .inl rfl
    exact law_goes (H := fun _ => none) KX G.T.g G.T.b G.T.builtins G.T.nolimit hg hobj hr hF hbind h0 (fun b u z => absurd z (by simp)) (fun b z => absurd rfl z) (fun z => absurd rfl z)
      (go _ h0 (.inr ⟨_, vs.toArray, _, hk, rfl, rfl, rfl, by simpa [hlv] using hz, by simpa using rv⟩))
  | none =>
    let ob : Obj := { cls := .type "list", data := .seq vs.toArray }
    let H1 : Hp := fun b => if b = a then some (.frz ob (.lst (ns.map V.int))) else none
    have at1 : H1 a = some (.frz ob (.lst (ns.map V.int))) := if_pos rfl
    have off : ∀ b, b ≠ a → H1 b = none := fun b hb => if_neg hb
    have h0 : Only H1 := fun b => by
      by_cases hb : b = a
      · exact .inr ⟨_, _, hb ▸ at1⟩
      · exact .inl (off b hb)
    refine law_goes (H := H1) KX G.T.g G.T.b G.T.builtins G.T.nolimit hg hobj hr hF hbind h0 (fun b u z => ?_) (fun b z => ?_) (fun _ => hk) (go _ h0 (.inl (.inr ⟨ob, at1⟩)))
    · by_cases hb : b = a
      · subst hb
        rw [at1] at z
        cases z
        exact ⟨hobj, by simpa using hz, vs, _, rv, hobj⟩
      · rw [off b hb] at z
        cases z
    · by_cases hb : b = a
      · exact hb
      · exact absurd (off b hb) z
end Mi
namespace Pg
open PySem PySem.Spec PyProof.Rows L2 Mi
def topS (i : Nat) : Stmt := PySem.Challenge.pw_judgedplay_k56_parcels.main.body.getD i (.Pass ⟨0, 0, 0, 0⟩)
abbrev s_is_int : Stmt := topS 2
abbrev s_is_ints : Stmt := topS 3
abbrev s_is_ints_between : Stmt := topS 4
abbrev s_tick_number : Stmt := topS 7
abbrev s_tick_of : Stmt := topS 8
abbrev s_parcel_of : Stmt := topS 9
abbrev s_opened_parcel : Stmt := topS 10
abbrev s__law_begin : Stmt := topS 12
abbrev s__law_draw : Stmt := topS 13
abbrev s__law_pick : Stmt := topS 14
abbrev s__law_is_int : Stmt := topS 15
abbrev s__law_is_ints : Stmt := topS 16
abbrev s__law_some_facts : Stmt := topS 17
abbrev s__law_some_state : Stmt := topS 18
abbrev s__law_row_of : Stmt := topS 19
abbrev s__law_is_same : Stmt := topS 20
abbrev s__law_is_cut_right : Stmt := topS 21
abbrev s__law_is_refused : Stmt := topS 22
abbrev s_law : Stmt := topS 23
/-- where the defs stand -/
structure Defs where
  f_is_int : Addr
  fd_is_int : FuncData
  f_is_ints : Addr
  fd_is_ints : FuncData
  f_is_ints_between : Addr
  fd_is_ints_between : FuncData
  f_tick_number : Addr
  fd_tick_number : FuncData
  f_tick_of : Addr
  fd_tick_of : FuncData
  f_parcel_of : Addr
  fd_parcel_of : FuncData
  f_opened_parcel : Addr
  fd_opened_parcel : FuncData
  f__law_begin : Addr
  fd__law_begin : FuncData
  f__law_draw : Addr
  fd__law_draw : FuncData
  f__law_pick : Addr
  fd__law_pick : FuncData
  f__law_is_int : Addr
  fd__law_is_int : FuncData
  f__law_is_ints : Addr
  fd__law_is_ints : FuncData
  f__law_some_facts : Addr
  fd__law_some_facts : FuncData
  f__law_some_state : Addr
  fd__law_some_state : FuncData
  f__law_row_of : Addr
  fd__law_row_of : FuncData
  f__law_is_same : Addr
  fd__law_is_same : FuncData
  f__law_is_cut_right : Addr
  fd__law_is_cut_right : FuncData
  f__law_is_refused : Addr
  fd__law_is_refused : FuncData
  f_law : Addr
  fd_law : FuncData
/-- what the top has left -/
structure Tx (K : PySem.W.Frag) (mg : Str → Option Value) (D : Defs) : Prop where
  F_is_int : Fun K "is_int" "is_int" s_is_int D.f_is_int D.fd_is_int
  b_is_int : Binds K D.fd_is_int ["thing"] []
  g_is_int : mg "is_int" = some (.ref D.f_is_int)
  F_is_ints : Fun K "is_ints" "is_ints" s_is_ints D.f_is_ints D.fd_is_ints
  b_is_ints : Binds K D.fd_is_ints ["thing"] []
  g_is_ints : mg "is_ints" = some (.ref D.f_is_ints)
  F_is_ints_between : Fun K "is_ints_between" "is_ints_between" s_is_ints_between D.f_is_ints_between D.fd_is_ints_between
  b_is_ints_between : Binds K D.fd_is_ints_between ["thing", "low", "high"] []
  g_is_ints_between : mg "is_ints_between" = some (.ref D.f_is_ints_between)
  F_tick_number : Fun K "tick_number" "tick_number" s_tick_number D.f_tick_number D.fd_tick_number
  b_tick_number : Binds K D.fd_tick_number ["tick"] []
  g_tick_number : mg "tick_number" = some (.ref D.f_tick_number)
  F_tick_of : Fun K "tick_of" "tick_of" s_tick_of D.f_tick_of D.fd_tick_of
  b_tick_of : Binds K D.fd_tick_of ["number"] []
  g_tick_of : mg "tick_of" = some (.ref D.f_tick_of)
  F_parcel_of : Fun K "parcel_of" "parcel_of" s_parcel_of D.f_parcel_of D.fd_parcel_of
  b_parcel_of : Binds K D.fd_parcel_of ["facts", "state"] []
  g_parcel_of : mg "parcel_of" = some (.ref D.f_parcel_of)
  F_opened_parcel : Fun K "opened_parcel" "opened_parcel" s_opened_parcel D.f_opened_parcel D.fd_opened_parcel
  b_opened_parcel : Binds K D.fd_opened_parcel ["numbers", "seats"] []
  g_opened_parcel : mg "opened_parcel" = some (.ref D.f_opened_parcel)
  F__law_begin : Fun K "_law_begin" "_law_begin" s__law_begin D.f__law_begin D.fd__law_begin
  b__law_begin : Binds K D.fd__law_begin ["script"] []
  g__law_begin : mg "_law_begin" = some (.ref D.f__law_begin)
  F__law_draw : Fun K "_law_draw" "_law_draw" s__law_draw D.f__law_draw D.fd__law_draw
  b__law_draw : Binds K D.fd__law_draw ["d", "many"] []
  g__law_draw : mg "_law_draw" = some (.ref D.f__law_draw)
  F__law_pick : Fun K "_law_pick" "_law_pick" s__law_pick D.f__law_pick D.fd__law_pick
  b__law_pick : Binds K D.fd__law_pick ["d", "row"] []
  g__law_pick : mg "_law_pick" = some (.ref D.f__law_pick)
  F__law_is_int : Fun K "_law_is_int" "_law_is_int" s__law_is_int D.f__law_is_int D.fd__law_is_int
  b__law_is_int : Binds K D.fd__law_is_int ["thing"] []
  g__law_is_int : mg "_law_is_int" = some (.ref D.f__law_is_int)
  F__law_is_ints : Fun K "_law_is_ints" "_law_is_ints" s__law_is_ints D.f__law_is_ints D.fd__law_is_ints
  b__law_is_ints : Binds K D.fd__law_is_ints ["row"] []
  g__law_is_ints : mg "_law_is_ints" = some (.ref D.f__law_is_ints)
  F__law_some_facts : Fun K "_law_some_facts" "_law_some_facts" s__law_some_facts D.f__law_some_facts D.fd__law_some_facts
  b__law_some_facts : Binds K D.fd__law_some_facts ["d", "seats"] []
  g__law_some_facts : mg "_law_some_facts" = some (.ref D.f__law_some_facts)
  F__law_some_state : Fun K "_law_some_state" "_law_some_state" s__law_some_state D.f__law_some_state D.fd__law_some_state
  b__law_some_state : Binds K D.fd__law_some_state ["d", "seats"] []
  g__law_some_state : mg "_law_some_state" = some (.ref D.f__law_some_state)
  F__law_row_of : Fun K "_law_row_of" "_law_row_of" s__law_row_of D.f__law_row_of D.fd__law_row_of
  b__law_row_of : Binds K D.fd__law_row_of ["facts", "state"] []
  g__law_row_of : mg "_law_row_of" = some (.ref D.f__law_row_of)
  F__law_is_same : Fun K "_law_is_same" "_law_is_same" s__law_is_same D.f__law_is_same D.fd__law_is_same
  b__law_is_same : Binds K D.fd__law_is_same ["told", "due"] []
  g__law_is_same : mg "_law_is_same" = some (.ref D.f__law_is_same)
  F__law_is_cut_right : Fun K "_law_is_cut_right" "_law_is_cut_right" s__law_is_cut_right D.f__law_is_cut_right D.fd__law_is_cut_right
  b__law_is_cut_right : Binds K D.fd__law_is_cut_right ["row", "seats", "facts", "state", "size"] []
  g__law_is_cut_right : mg "_law_is_cut_right" = some (.ref D.f__law_is_cut_right)
  F__law_is_refused : Fun K "_law_is_refused" "_law_is_refused" s__law_is_refused D.f__law_is_refused D.fd__law_is_refused
  b__law_is_refused : Binds K D.fd__law_is_refused ["d", "row", "seats"] []
  g__law_is_refused : mg "_law_is_refused" = some (.ref D.f__law_is_refused)
  F_law : Fun K "law" "law" s_law D.f_law D.fd_law
  b_law : Binds K D.fd_law ["script"] []
  g_law : mg "law" = some (.ref D.f_law)
  z_abs : mg "abs" = none
  z_all : mg "all" = none
  z_bool : mg "bool" = none
  z_int : mg "int" = none
  z_isinstance : mg "isinstance" = none
  z_len : mg "len" = none
  z_list : mg "list" = none
  z_range : mg "range" = none
  z_repr : mg "repr" = none
  z_tuple : mg "tuple" = none
  c_LOW : ∃ t, mg "LOW" = some (.int (-32768) t)
  c_MOST_NUMBER : ∃ t, mg "MOST_NUMBER" = some (.int 65536 t)
section
variable {P : Program} {w : World} {K : PySem.W.Frag} {mg : Str → Option Value} {base : Heap} {cl : Str → Option Addr} {D : Defs}
end
end Pg
namespace Pg
open PySem PySem.Spec PyProof.Rows L2 Mi
section
variable {P : Program} {w : World} {K : PySem.W.Frag} {mg : Str → Option Value} {base : Heap} {cl : Str → Option Addr} {D : Defs}
abbrev N_is_int : List Str := ["thing"]
theorem sc_is_int : FnScope N_is_int ["thing"] (defScope s_is_int) := ⟨rfl, rfl, rfl, by decide +kernel, rfl, by decide +kernel, by decide +kernel⟩
noncomputable def g_is_int : MS := (sRet (mAnd (mUn (aIsi "int") (mVar 0)) (mNot (mUn (aIsi "bool") (mVar 0)))))
@[irreducible] noncomputable def m_is_int : List AV → Sto → R AV := callM 1 1 g_is_int
theorem ok_is_int (T : Tx K mg D) : FnOk P w K mg base (L2.CX P w) 1 D.f_is_int D.fd_is_int ["thing"] (spM ⟨K, cl⟩ 1 m_is_int) :=
  okM (g := g_is_int) T.F_is_int sc_is_int rfl rfl (by unfold m_is_int; rfl) fun cdv A outer s H E hr => (pb_one (psx_ret (px_and (px_isi (by rfl) T.z_isinstance boot_isinstance (px_var 0) (by rfl) T.z_int boot_int) (px_one (px_not (px_isi (by rfl) T.z_isinstance boot_isinstance (px_var 0) (by rfl) T.z_bool boot_bool))))))
end
end Pg
namespace Pg
open PySem PySem.Spec PyProof.Rows L2 Mi
section
variable {P : Program} {w : World} {K : PySem.W.Frag} {mg : Str → Option Value} {base : Heap} {cl : Str → Option Addr} {D : Defs}
abbrev N_is_ints : List Str := ["thing", "one"]
theorem sc_is_ints : FnScope N_is_ints ["thing"] (defScope s_is_ints) := ⟨rfl, rfl, rfl, by decide +kernel, rfl, by decide +kernel, by decide +kernel⟩
noncomputable def g_is_ints : MS := (sSeq (sIf (bNot (bVal (mUn (aIsi "tuple") (mVar 0)))) (sRet (mC (.bl false))) sNext)
      (sSeq (sFor (iVal (mVar 0)) (gN 1) (sIf (bNot (bVal (mCall 1 m_is_int (mCons (mVar 1) mNil)))) (sRet (mC (.bl false))) sNext))
      (sRet (mC (.bl true)))))
@[irreducible] noncomputable def m_is_ints : List AV → Sto → R AV := callM 2 1 g_is_ints
theorem ok_is_ints (T : Tx K mg D) : FnOk P w K mg base (L2.CX P w) 2 D.f_is_ints D.fd_is_ints ["thing"] (spM ⟨K, cl⟩ 1 m_is_ints) :=
  okM (g := g_is_ints) T.F_is_ints sc_is_ints rfl rfl (by unfold m_is_ints; rfl) fun cdv A outer s H E hr => (pb_cons (psx_if (ptx_not (ptx_val (px_isi (by rfl) T.z_isinstance boot_isinstance (px_var 0) (by rfl) T.z_tuple boot_tuple))) (pb_one (psx_ret px_bl)) pb_nil)
      (pb_cons (psx_for (passes_of rfl) rfl (pix_val (px_var 0)) (pgx_name 1 sc_is_ints.nd) (pb_one (psx_if (ptx_not (ptx_val (px_call (ok_is_int T) (hr.mono (by decide)) (by rfl) T.g_is_int T.F_is_int.kp T.b_is_int (takes_of rfl rfl rfl rfl) (pa1 (px_var 1) pa0)))) (pb_one (psx_ret px_bl)) pb_nil)))
      (pb_one (psx_ret px_bl))))
end
end Pg
namespace Pg
open PySem PySem.Spec PyProof.Rows L2 Mi
section
variable {P : Program} {w : World} {K : PySem.W.Frag} {mg : Str → Option Value} {base : Heap} {cl : Str → Option Addr} {D : Defs}
abbrev N_is_ints_between : List Str := ["thing", "low", "high", "one"]
theorem sc_is_ints_between : FnScope N_is_ints_between ["thing", "low", "high"] (defScope s_is_ints_between) := ⟨rfl, rfl, rfl, by decide +kernel, rfl, by decide +kernel, by decide +kernel⟩
noncomputable def g_is_ints_between : MS := (sSeq (sIf (bNot (bVal (mCall 1 m_is_ints (mCons (mVar 0) mNil)))) (sRet (mC (.bl false))) sNext)
      (sSeq (sFor (iVal (mVar 0)) (gN 3) (sIf (bNot (bIs (mChain aLe aLe (mVar 1) (mVar 3) (mVar 2)))) (sRet (mC (.bl false))) sNext))
      (sRet (mC (.bl true)))))
@[irreducible] noncomputable def m_is_ints_between : List AV → Sto → R AV := callM 4 3 g_is_ints_between
theorem ok_is_ints_between (T : Tx K mg D) : FnOk P w K mg base (L2.CX P w) 3 D.f_is_ints_between D.fd_is_ints_between ["thing", "low", "high"] (spM ⟨K, cl⟩ 3 m_is_ints_between) :=
  okM (g := g_is_ints_between) T.F_is_ints_between sc_is_ints_between rfl rfl (by unfold m_is_ints_between; rfl) fun cdv A outer s H E hr => (pb_cons (psx_if (ptx_not (ptx_val (px_call (ok_is_ints T) (hr.mono (by decide)) (by rfl) T.g_is_ints T.F_is_ints.kp T.b_is_ints (takes_of rfl rfl rfl rfl) (pa1 (px_var 0) pa0)))) (pb_one (psx_ret px_bl)) pb_nil)
      (pb_cons (psx_for (passes_of rfl) rfl (pix_val (px_var 0)) (pgx_name 3 sc_is_ints_between.nd) (pb_one (psx_if (ptx_not (ptx_chain op_le op_le os_le os_le (px_var 1) (px_var 3) (px_var 2))) (pb_one (psx_ret px_bl)) pb_nil)))
      (pb_one (psx_ret px_bl))))
end
end Pg
namespace Pg
open PySem PySem.Spec PyProof.Rows L2 Mi
section
variable {P : Program} {w : World} {K : PySem.W.Frag} {mg : Str → Option Value} {base : Heap} {cl : Str → Option Addr} {D : Defs}
abbrev N_tick_number : List Str := ["tick"]
theorem sc_tick_number : FnScope N_tick_number ["tick"] (defScope s_tick_number) := ⟨rfl, rfl, rfl, by decide +kernel, rfl, by decide +kernel, by decide +kernel⟩
noncomputable def g_tick_number : MS := (sRet (mIf (bIs (mOp aIs (mVar 0) (mC .non))) (mC (.int 0)) (mOp aAdd (mVar 0) (mC (.int 1)))))
@[irreducible] noncomputable def m_tick_number : List AV → Sto → R AV := callM 1 1 g_tick_number
theorem ok_tick_number (T : Tx K mg D) : FnOk P w K mg base (L2.CX P w) 1 D.f_tick_number D.fd_tick_number ["tick"] (spM ⟨K, cl⟩ 1 m_tick_number) :=
  okM (g := g_tick_number) T.F_tick_number sc_tick_number rfl rfl (by unfold m_tick_number; rfl) fun cdv A outer s H E hr => (pb_one (psx_ret (px_if (ptx_cmp op_isN os_is (px_var 0) px_non) px_int (px_add (px_var 0) px_int))))
end
end Pg
namespace Pg
open PySem PySem.Spec PyProof.Rows L2 Mi
section
variable {P : Program} {w : World} {K : PySem.W.Frag} {mg : Str → Option Value} {base : Heap} {cl : Str → Option Addr} {D : Defs}
abbrev N_tick_of : List Str := ["number"]
theorem sc_tick_of : FnScope N_tick_of ["number"] (defScope s_tick_of) := ⟨rfl, rfl, rfl, by decide +kernel, rfl, by decide +kernel, by decide +kernel⟩
noncomputable def g_tick_of : MS := (sRet (mIf (bIs (mOp aEq (mVar 0) (mC (.int 0)))) (mC .non) (mOp aSub (mVar 0) (mC (.int 1)))))
@[irreducible] noncomputable def m_tick_of : List AV → Sto → R AV := callM 1 1 g_tick_of
theorem ok_tick_of (T : Tx K mg D) : FnOk P w K mg base (L2.CX P w) 1 D.f_tick_of D.fd_tick_of ["number"] (spM ⟨K, cl⟩ 1 m_tick_of) :=
  okM (g := g_tick_of) T.F_tick_of sc_tick_of rfl rfl (by unfold m_tick_of; rfl) fun cdv A outer s H E hr => (pb_one (psx_ret (px_if (ptx_cmp (op_eqA (hu64 hr)) (os_eq rfl) (px_var 0) px_int) px_non (px_sub (px_var 0) px_int))))
end
end Pg
namespace Pg
open PySem PySem.Spec PyProof.Rows L2 Mi
section
variable {P : Program} {w : World} {K : PySem.W.Frag} {mg : Str → Option Value} {base : Heap} {cl : Str → Option Addr} {D : Defs}
abbrev N_parcel_of : List Str := ["facts", "state", "row", "tick", "order", "value"]
theorem sc_parcel_of : FnScope N_parcel_of ["facts", "state"] (defScope s_parcel_of) := ⟨rfl, rfl, rfl, by decide +kernel, rfl, by decide +kernel, by decide +kernel⟩
noncomputable def g_parcel_of : MS := (sSeq (sSet 2 (mNew (lLst (mCons (mIx (mVar 0) (mC (.int 1))) (mCons (mIx (mVar 0) (mC (.int 2))) mNil)))))
      (sSeq (sExt (mVar 2) (lComp [3] (iVal (mIx (mVar 0) (mC (.int 3)))) (.n 3) bYes (mCall 1 m_tick_number (mCons (mVar 3) mNil))))
      (sSeq (sExt (mVar 2) (lComp [3] (iVal (mIx (mVar 0) (mC (.int 4)))) (.n 3) bYes (mCall 1 m_tick_number (mCons (mVar 3) mNil))))
      (sSeq (sApp (mVar 2) (mCallB bLen (mCons (mIx (mVar 0) (mC (.int 5))) mNil)))
      (sSeq (sFor (iVal (mIx (mVar 0) (mC (.int 5)))) (gT 2 (gs1 (gN 3) (gs1 (gN 4) gs0))) (sSeq (sApp (mVar 2) (mVar 3))
      (sApp (mVar 2) (mVar 4))))
      (sSeq (sExt (mVar 2) (lComp [5] (iVal (mVar 1)) (.n 5) bYes (mOp aSub (mVar 5) (mC (.int (-32768))))))
      (sRet (mCallB bTup (mCons (mVar 2) mNil)))))))))
@[irreducible] noncomputable def m_parcel_of : List AV → Sto → R AV := callM 6 2 g_parcel_of
theorem ok_parcel_of (T : Tx K mg D) : FnOk P w K mg base (L2.CX P w) 2 D.f_parcel_of D.fd_parcel_of ["facts", "state"] (spM ⟨K, cl⟩ 2 m_parcel_of) :=
  okM (g := g_parcel_of) T.F_parcel_of sc_parcel_of rfl rfl (by unfold m_parcel_of; rfl) fun cdv A outer s H E hr => (pb_cons (psx_set 2 sc_parcel_of.nd (px_new (plx_lst (pa1 (px_at (px_var 0) px_int) (pa1 (px_at (px_var 0) px_int) pa0)))))
      (pb_cons (psx_ext (px_var 2) (plx_lc (t := .n 3) rfl sc_parcel_of.nd (pix_val (px_at (px_var 0) px_int)) (blkOk_by (own := [("tick", 3)]) (N := N_parcel_of) (sc := defScope s_parcel_of) (by decide +kernel)) rfl (by decide) (fun _ _ _ _ _ => pg_name (i := 3) sc_parcel_of.nd rfl (by first | exact Or.inl rfl | exact Or.inr rfl)) (fun _ _ _ _ _ => ptsx_nil) (fun _ _ _ _ _ => (px_call (ok_tick_number T) (hr.mono (by decide)) (by rfl) T.g_tick_number T.F_tick_number.kp T.b_tick_number takes0 (pa1 (px_var 3) pa0)))))
      (pb_cons (psx_ext (px_var 2) (plx_lc (t := .n 3) rfl sc_parcel_of.nd (pix_val (px_at (px_var 0) px_int)) (blkOk_by (own := [("tick", 3)]) (N := N_parcel_of) (sc := defScope s_parcel_of) (by decide +kernel)) rfl (by decide) (fun _ _ _ _ _ => pg_name (i := 3) sc_parcel_of.nd rfl (by first | exact Or.inl rfl | exact Or.inr rfl)) (fun _ _ _ _ _ => ptsx_nil) (fun _ _ _ _ _ => (px_call (ok_tick_number T) (hr.mono (by decide)) (by rfl) T.g_tick_number T.F_tick_number.kp T.b_tick_number takes0 (pa1 (px_var 3) pa0)))))
      (pb_cons (psx_app (px_var 2) (px_callB call_len cs_len (by rfl) T.z_len boot_len (pa1 (px_at (px_var 0) px_int) pa0)))
      (pb_cons (psx_for (passes_of rfl) rfl (pix_val (px_at (px_var 0) px_int)) (pgx_tup rfl (pgs1 (pgx_name 3 sc_parcel_of.nd) (pgs1 (pgx_name 4 sc_parcel_of.nd) pgs0))) (pb_cons (psx_app (px_var 2) (px_var 3))
      (pb_one (psx_app (px_var 2) (px_var 4)))))
      (pb_cons (psx_ext (px_var 2) (plx_lc (t := .n 5) rfl sc_parcel_of.nd (pix_val (px_var 1)) (blkOk_by (own := [("value", 5)]) (N := N_parcel_of) (sc := defScope s_parcel_of) (by decide +kernel)) rfl (by decide) (fun _ _ _ _ _ => pg_name (i := 5) sc_parcel_of.nd rfl (by first | exact Or.inl rfl | exact Or.inr rfl)) (fun _ _ _ _ _ => ptsx_nil) (fun _ _ _ _ _ => (px_sub (px_var 5) (px_gI (by rfl) T.c_LOW)))))
      (pb_one (psx_ret (px_callTy call_tuple_of cs_tup (by rfl) T.z_tuple boot_tuple (pa1 (px_var 2) pa0))))))))))
end
end Pg
namespace Pg
open PySem PySem.Spec PyProof.Rows L2 Mi
section
variable {P : Program} {w : World} {K : PySem.W.Frag} {mg : Str → Option Value} {base : Heap} {cl : Str → Option Addr} {D : Defs}
abbrev N_opened_parcel : List Str := ["numbers", "seats", "begin", "many", "rest", "entered", "gone", "pending", "facts", "number", "k"]
theorem sc_opened_parcel : FnScope N_opened_parcel ["numbers", "seats"] (defScope s_opened_parcel) := ⟨rfl, rfl, rfl, by decide +kernel, rfl, by decide +kernel, by decide +kernel⟩
noncomputable def g_opened_parcel : MS := (sSeq (sIf (bNot (bVal (mCall 3 m_is_ints_between (mCons (mVar 0) (mCons (mC (.int 0)) (mCons (mC (.int 65536)) mNil)))))) (sRet (mC .non)) sNext)
      (sSeq (sSet 2 (mOp aAdd (mC (.int 3)) (mOp aMul (mC (.int 2)) (mVar 1))))
      (sSeq (sIf (bIs (mOp aLt (mCallB bLen (mCons (mVar 0) mNil)) (mVar 2))) (sRet (mC .non)) sNext)
      (sSeq (sSet 3 (mIx (mVar 0) (mOp aSub (mVar 2) (mC (.int 1)))))
      (sSeq (sSet 4 (mOp aAdd (mVar 2) (mOp aMul (mC (.int 2)) (mVar 3))))
      (sSeq (sIf (bIs (mOp aLt (mCallB bLen (mCons (mVar 0) mNil)) (mOp aAdd (mVar 4) (mC (.int 2))))) (sRet (mC .non)) sNext)
      (sSeq (sSet 5 (mCallB bTupL (lComp [9] (iVal (mSl slT (mVar 0) (oSome (mC (.int 2))) (oSome (mOp aAdd (mC (.int 2)) (mVar 1))))) (.n 9) bYes (mCall 1 m_tick_of (mCons (mVar 9) mNil)))))
      (sSeq (sSet 6 (mCallB bTupL (lComp [9] (iVal (mSl slT (mVar 0) (oSome (mOp aAdd (mC (.int 2)) (mVar 1))) (oSome (mOp aAdd (mC (.int 2)) (mOp aMul (mC (.int 2)) (mVar 1)))))) (.n 9) bYes (mCall 1 m_tick_of (mCons (mVar 9) mNil)))))
      (sSeq (sSet 7 (mCallB bTupL (lComp [10] (iRg1 (mVar 3)) (.n 10) bYes (mTup (mCons (mIx (mVar 0) (mOp aAdd (mVar 2) (mOp aMul (mC (.int 2)) (mVar 10)))) (mCons (mIx (mVar 0) (mOp aAdd (mOp aAdd (mVar 2) (mOp aMul (mC (.int 2)) (mVar 10))) (mC (.int 1)))) mNil))))))
      (sSeq (sSet 8 (mTup (mCons (mC (.str "facts")) (mCons (mIx (mVar 0) (mC (.int 0))) (mCons (mIx (mVar 0) (mC (.int 1))) (mCons (mVar 5) (mCons (mVar 6) (mCons (mVar 7) mNil))))))))
      (sRet (mTup (mCons (mVar 8) (mCons (mCallB bTupL (lComp [9] (iVal (mSl slT (mVar 0) (oSome (mVar 4)) oNone)) (.n 9) bYes (mOp aAdd (mVar 9) (mC (.int (-32768)))))) mNil))))))))))))))
@[irreducible] noncomputable def m_opened_parcel : List AV → Sto → R AV := callM 11 2 g_opened_parcel
theorem ok_opened_parcel (T : Tx K mg D) : FnOk P w K mg base (L2.CX P w) 4 D.f_opened_parcel D.fd_opened_parcel ["numbers", "seats"] (spM ⟨K, cl⟩ 2 m_opened_parcel) :=
  okM (g := g_opened_parcel) T.F_opened_parcel sc_opened_parcel rfl rfl (by unfold m_opened_parcel; rfl) fun cdv A outer s H E hr => (pb_cons (psx_if (ptx_not (ptx_val (px_call (ok_is_ints_between T) (hr.mono (by decide)) (by rfl) T.g_is_ints_between T.F_is_ints_between.kp T.b_is_ints_between (takes_of rfl rfl rfl rfl) (pa1 (px_var 0) (pa1 px_int (pa1 (px_gI (by rfl) T.c_MOST_NUMBER) pa0)))))) (pb_one (psx_ret px_non)) pb_nil)
      (pb_cons (psx_set 2 sc_opened_parcel.nd (px_add px_int (px_mul px_int (px_var 1))))
      (pb_cons (psx_if (ptx_cmp op_lt os_lt (px_callB call_len cs_len (by rfl) T.z_len boot_len (pa1 (px_var 0) pa0)) (px_var 2)) (pb_one (psx_ret px_non)) pb_nil)
      (pb_cons (psx_set 3 sc_opened_parcel.nd (px_at (px_var 0) (px_sub (px_var 2) px_int)))
      (pb_cons (psx_set 4 sc_opened_parcel.nd (px_add (px_var 2) (px_mul px_int (px_var 3))))
      (pb_cons (psx_if (ptx_cmp op_lt os_lt (px_callB call_len cs_len (by rfl) T.z_len boot_len (pa1 (px_var 0) pa0)) (px_add (px_var 4) px_int)) (pb_one (psx_ret px_non)) pb_nil)
      (pb_cons (psx_set 5 sc_opened_parcel.nd (px_callTyL call_tuple_of ls_tup (by rfl) T.z_tuple boot_tuple (plx_lc (t := .n 9) rfl sc_opened_parcel.nd (pix_val (px_slT (px_var 0) (pox_some px_int) (pox_some (px_add px_int (px_var 1))))) (blkOk_by (own := [("number", 9)]) (N := N_opened_parcel) (sc := defScope s_opened_parcel) (by decide +kernel)) rfl (by decide) (fun _ _ _ _ _ => pg_name (i := 9) sc_opened_parcel.nd rfl (by first | exact Or.inl rfl | exact Or.inr rfl)) (fun _ _ _ _ _ => ptsx_nil) (fun _ _ _ _ _ => (px_call (ok_tick_of T) (hr.mono (by decide)) (by rfl) T.g_tick_of T.F_tick_of.kp T.b_tick_of takes0 (pa1 (px_var 9) pa0))))))
      (pb_cons (psx_set 6 sc_opened_parcel.nd (px_callTyL call_tuple_of ls_tup (by rfl) T.z_tuple boot_tuple (plx_lc (t := .n 9) rfl sc_opened_parcel.nd (pix_val (px_slT (px_var 0) (pox_some (px_add px_int (px_var 1))) (pox_some (px_add px_int (px_mul px_int (px_var 1)))))) (blkOk_by (own := [("number", 9)]) (N := N_opened_parcel) (sc := defScope s_opened_parcel) (by decide +kernel)) rfl (by decide) (fun _ _ _ _ _ => pg_name (i := 9) sc_opened_parcel.nd rfl (by first | exact Or.inl rfl | exact Or.inr rfl)) (fun _ _ _ _ _ => ptsx_nil) (fun _ _ _ _ _ => (px_call (ok_tick_of T) (hr.mono (by decide)) (by rfl) T.g_tick_of T.F_tick_of.kp T.b_tick_of takes0 (pa1 (px_var 9) pa0))))))
      (pb_cons (psx_set 7 sc_opened_parcel.nd (px_callTyL call_tuple_of ls_tup (by rfl) T.z_tuple boot_tuple (plx_lc (t := .n 10) rfl sc_opened_parcel.nd (pix_rng1 (by rfl) T.z_range (px_var 3)) (blkOk_by (own := [("k", 10)]) (N := N_opened_parcel) (sc := defScope s_opened_parcel) (by decide +kernel)) rfl (by decide) (fun _ _ _ _ _ => pg_name (i := 10) sc_opened_parcel.nd rfl (by first | exact Or.inl rfl | exact Or.inr rfl)) (fun _ _ _ _ _ => ptsx_nil) (fun _ _ _ _ _ => (px_tup (pa1 (px_at (px_var 0) (px_add (px_var 2) (px_mul px_int (px_var 10)))) (pa1 (px_at (px_var 0) (px_add (px_add (px_var 2) (px_mul px_int (px_var 10))) px_int)) pa0)))))))
      (pb_cons (psx_set 8 sc_opened_parcel.nd (px_tup (pa1 px_str (pa1 (px_at (px_var 0) px_int) (pa1 (px_at (px_var 0) px_int) (pa1 (px_var 5) (pa1 (px_var 6) (pa1 (px_var 7) pa0))))))))
      (pb_one (psx_ret (px_tup (pa1 (px_var 8) (pa1 (px_callTyL call_tuple_of ls_tup (by rfl) T.z_tuple boot_tuple (plx_lc (t := .n 9) rfl sc_opened_parcel.nd (pix_val (px_slT (px_var 0) (pox_some (px_var 4)) pox_none)) (blkOk_by (own := [("number", 9)]) (N := N_opened_parcel) (sc := defScope s_opened_parcel) (by decide +kernel)) rfl (by decide) (fun _ _ _ _ _ => pg_name (i := 9) sc_opened_parcel.nd rfl (by first | exact Or.inl rfl | exact Or.inr rfl)) (fun _ _ _ _ _ => ptsx_nil) (fun _ _ _ _ _ => (px_add (px_var 9) (px_gI (by rfl) T.c_LOW))))) pa0)))))))))))))))
end
end Pg
namespace Pg
open PySem PySem.Spec PyProof.Rows L2 Mi
section
variable {P : Program} {w : World} {K : PySem.W.Frag} {mg : Str → Option Value} {base : Heap} {cl : Str → Option Addr} {D : Defs}
abbrev N__law_begin : List Str := ["script", "cell"]
theorem sc__law_begin : FnScope N__law_begin ["script"] (defScope s__law_begin) := ⟨rfl, rfl, rfl, by decide +kernel, rfl, by decide +kernel, by decide +kernel⟩
noncomputable def g__law_begin : MS := (sRet (mNew (lLst (mCons (mNew (lComp [1] (iVal (mVar 0)) (.n 1) bYes (mCallB bInt (mCons (mVar 1) mNil)))) (mCons (mC (.int 0)) (mCons (mC (.int 0)) (mCons (mC (.int 11)) mNil)))))))
@[irreducible] noncomputable def m__law_begin : List AV → Sto → R AV := callM 2 1 g__law_begin
theorem ok__law_begin (T : Tx K mg D) : FnOk P w K mg base (L2.CX P w) 1 D.f__law_begin D.fd__law_begin ["script"] (spM ⟨K, cl⟩ 1 m__law_begin) :=
  okM (g := g__law_begin) T.F__law_begin sc__law_begin rfl rfl (by unfold m__law_begin; rfl) fun cdv A outer s H E hr => (pb_one (psx_ret (px_new (plx_lst (pa1 (px_new (plx_lc (t := .n 1) rfl sc__law_begin.nd (pix_val (px_var 0)) (blkOk_by (own := [("cell", 1)]) (N := N__law_begin) (sc := defScope s__law_begin) (by decide +kernel)) rfl (by decide) (fun _ _ _ _ _ => pg_name (i := 1) sc__law_begin.nd rfl (by first | exact Or.inl rfl | exact Or.inr rfl)) (fun _ _ _ _ _ => ptsx_nil) (fun _ _ _ _ _ => (px_callTy call_int1 cs_int (by rfl) T.z_int boot_int (pa1 (px_var 1) pa0))))) (pa1 px_int (pa1 px_int (pa1 px_int pa0))))))))
end
end Pg
namespace Pg
open PySem PySem.Spec PyProof.Rows L2 Mi
section
variable {P : Program} {w : World} {K : PySem.W.Frag} {mg : Str → Option Value} {base : Heap} {cl : Str → Option Addr} {D : Defs}
abbrev N__law_draw : List Str := ["d", "many", "found", "size", "cell"]
theorem sc__law_draw : FnScope N__law_draw ["d", "many"] (defScope s__law_draw) := ⟨rfl, rfl, rfl, by decide +kernel, rfl, by decide +kernel, by decide +kernel⟩
noncomputable def g__law_draw : MS := (sSeq (sIf (bIs (mOp aGt (mIx (mVar 0) (mC (.int 2))) (mC (.int 0)))) (sSeq (sSet 2 (mIx (mVar 0) (mC (.int 2))))
      (sSeq (sPut (mOp aDiv (mVar 2) (mVar 1)) (mVar 0) (mC (.int 2)))
      (sRet (mOp aMod (mCallB bInt (mCons (mVar 2) mNil)) (mVar 1))))) sNext)
      (sSeq (sSet 3 (mC (.int 0)))
      (sSeq (sIf (bIs (mOp aLt (mIx (mVar 0) (mC (.int 1))) (mCallB bLen (mCons (mIx (mVar 0) (mC (.int 0))) mNil)))) (sSeq (sSet 4 (mIx (mIx (mVar 0) (mC (.int 0))) (mIx (mVar 0) (mC (.int 1)))))
      (sSet 3 (mOp aAdd (mOp aMul (mC (.int 2)) (mCallB bAbs (mCons (mVar 4) mNil))) (mCallB bInt (mCons (mOp aLt (mVar 4) (mC (.int 0))) mNil))))) sNext)
      (sSeq (sAugI (fun i j => i + j) (mVar 0) (mC (.int 1)) (mC (.int 1)))
      (sSeq (sIf (bIs (mOp aGe (mVar 3) (mOp aMul (mC (.int 2)) (mOp aPow (mC (.int 10)) (mC (.int 18)))))) (sSeq (sSet 2 (mOp aMod (mCallB bInt (mCons (mOp aDiv (mVar 3) (mC (.int 2))) mNil)) (mOp aShl (mC (.int 1)) (mC (.int 6000)))))
      (sSeq (sPut (mOp aDiv (mVar 2) (mVar 1)) (mVar 0) (mC (.int 2)))
      (sRet (mOp aMod (mCallB bInt (mCons (mVar 2) mNil)) (mVar 1))))) sNext)
      (sSeq (sPut (mOp aMod (mCallB bInt (mCons (mOp aAdd (mOp aAdd (mOp aAdd (mOp aMul (mIx (mVar 0) (mC (.int 3))) (mC (.int 48271))) (mOp aMul (mOp aMod (mCallB bInt (mCons (mVar 3) mNil)) (mC (.int 2147483629))) (mC (.int 16807)))) (mOp aMul (mIx (mVar 0) (mC (.int 1))) (mC (.int 69621)))) (mC (.int 13))) mNil)) (mC (.int 2147483647))) (mVar 0) (mC (.int 3)))
      (sRet (mOp aMod (mCallB bInt (mCons (mOp aDiv (mIx (mVar 0) (mC (.int 3))) (mC (.int 16))) mNil)) (mVar 1)))))))))
@[irreducible] noncomputable def m__law_draw : List AV → Sto → R AV := callM 5 2 g__law_draw
theorem ok__law_draw (T : Tx K mg D) : FnOk P w K mg base (L2.CX P w) 1 D.f__law_draw D.fd__law_draw ["d", "many"] (spM ⟨K, cl⟩ 2 m__law_draw) :=
  okM (g := g__law_draw) T.F__law_draw sc__law_draw rfl rfl (by unfold m__law_draw; rfl) fun cdv A outer s H E hr => (pb_cons (psx_if (ptx_cmp op_gt os_gt (px_at (px_var 0) px_int) px_int) (pb_cons (psx_set 2 sc__law_draw.nd (px_at (px_var 0) px_int))
      (pb_cons (psx_put (px_div (px_var 2) (px_var 1)) (px_var 0) px_int)
      (pb_one (psx_ret (px_mod (px_callTy call_int1 cs_int (by rfl) T.z_int boot_int (pa1 (px_var 2) pa0)) (px_var 1)))))) pb_nil)
      (pb_cons (psx_set 3 sc__law_draw.nd px_int)
      (pb_cons (psx_if (ptx_cmp op_lt os_lt (px_at (px_var 0) px_int) (px_callB call_len cs_len (by rfl) T.z_len boot_len (pa1 (px_at (px_var 0) px_int) pa0))) (pb_cons (psx_set 4 sc__law_draw.nd (px_at (px_at (px_var 0) px_int) (px_at (px_var 0) px_int)))
      (pb_one (psx_set 3 sc__law_draw.nd (px_add (px_mul px_int (px_callB call_abs cs_abs (by rfl) T.z_abs boot_abs (pa1 (px_var 4) pa0))) (px_callTy call_int1 cs_int (by rfl) T.z_int boot_int (pa1 (px_cmp op_lt os_lt (px_var 4) px_int) pa0)))))) pb_nil)
      (pb_cons (psx_augI ip_add (px_var 0) px_int px_int)
      (pb_cons (psx_if (ptx_cmp op_ge os_ge (px_var 3) (px_mul px_int (px_pow px_int px_int))) (pb_cons (psx_set 2 sc__law_draw.nd (px_mod (px_callTy call_int1 cs_int (by rfl) T.z_int boot_int (pa1 (px_div (px_var 3) px_int) pa0)) (px_shl px_int px_int)))
      (pb_cons (psx_put (px_div (px_var 2) (px_var 1)) (px_var 0) px_int)
      (pb_one (psx_ret (px_mod (px_callTy call_int1 cs_int (by rfl) T.z_int boot_int (pa1 (px_var 2) pa0)) (px_var 1)))))) pb_nil)
      (pb_cons (psx_put (px_mod (px_callTy call_int1 cs_int (by rfl) T.z_int boot_int (pa1 (px_add (px_add (px_add (px_mul (px_at (px_var 0) px_int) px_int) (px_mul (px_mod (px_callTy call_int1 cs_int (by rfl) T.z_int boot_int (pa1 (px_var 3) pa0)) px_int) px_int)) (px_mul (px_at (px_var 0) px_int) px_int)) px_int) pa0)) px_int) (px_var 0) px_int)
      (pb_one (psx_ret (px_mod (px_callTy call_int1 cs_int (by rfl) T.z_int boot_int (pa1 (px_div (px_at (px_var 0) px_int) px_int) pa0)) (px_var 1))))))))))
end
end Pg
namespace Pg
open PySem PySem.Spec PyProof.Rows L2 Mi
section
variable {P : Program} {w : World} {K : PySem.W.Frag} {mg : Str → Option Value} {base : Heap} {cl : Str → Option Addr} {D : Defs}
abbrev N__law_pick : List Str := ["d", "row"]
theorem sc__law_pick : FnScope N__law_pick ["d", "row"] (defScope s__law_pick) := ⟨rfl, rfl, rfl, by decide +kernel, rfl, by decide +kernel, by decide +kernel⟩
noncomputable def g__law_pick : MS := (sRet (mIx (mVar 1) (mCall 2 m__law_draw (mCons (mVar 0) (mCons (mCallB bLen (mCons (mVar 1) mNil)) mNil)))))
@[irreducible] noncomputable def m__law_pick : List AV → Sto → R AV := callM 2 2 g__law_pick
theorem ok__law_pick (T : Tx K mg D) : FnOk P w K mg base (L2.CX P w) 2 D.f__law_pick D.fd__law_pick ["d", "row"] (spM ⟨K, cl⟩ 2 m__law_pick) :=
  okM (g := g__law_pick) T.F__law_pick sc__law_pick rfl rfl (by unfold m__law_pick; rfl) fun cdv A outer s H E hr => (pb_one (psx_ret (px_at (px_var 1) (px_call (ok__law_draw T) (hr.mono (by decide)) (by rfl) T.g__law_draw T.F__law_draw.kp T.b__law_draw (takes_of rfl rfl rfl rfl) (pa1 (px_var 0) (pa1 (px_callB call_len cs_len (by rfl) T.z_len boot_len (pa1 (px_var 1) pa0)) pa0))))))
end
end Pg
namespace Pg
open PySem PySem.Spec PyProof.Rows L2 Mi
section
variable {P : Program} {w : World} {K : PySem.W.Frag} {mg : Str → Option Value} {base : Heap} {cl : Str → Option Addr} {D : Defs}
abbrev N__law_is_int : List Str := ["thing"]
theorem sc__law_is_int : FnScope N__law_is_int ["thing"] (defScope s__law_is_int) := ⟨rfl, rfl, rfl, by decide +kernel, rfl, by decide +kernel, by decide +kernel⟩
noncomputable def g__law_is_int : MS := (sRet (mAnd (mUn (aIsi "int") (mVar 0)) (mNot (mUn (aIsi "bool") (mVar 0)))))
@[irreducible] noncomputable def m__law_is_int : List AV → Sto → R AV := callM 1 1 g__law_is_int
theorem ok__law_is_int (T : Tx K mg D) : FnOk P w K mg base (L2.CX P w) 1 D.f__law_is_int D.fd__law_is_int ["thing"] (spM ⟨K, cl⟩ 1 m__law_is_int) :=
  okM (g := g__law_is_int) T.F__law_is_int sc__law_is_int rfl rfl (by unfold m__law_is_int; rfl) fun cdv A outer s H E hr => (pb_one (psx_ret (px_and (px_isi (by rfl) T.z_isinstance boot_isinstance (px_var 0) (by rfl) T.z_int boot_int) (px_one (px_not (px_isi (by rfl) T.z_isinstance boot_isinstance (px_var 0) (by rfl) T.z_bool boot_bool))))))
end
end Pg
namespace Pg
open PySem PySem.Spec PyProof.Rows L2 Mi
section
variable {P : Program} {w : World} {K : PySem.W.Frag} {mg : Str → Option Value} {base : Heap} {cl : Str → Option Addr} {D : Defs}
abbrev N__law_is_ints : List Str := ["row", "part"]
theorem sc__law_is_ints : FnScope N__law_is_ints ["row"] (defScope s__law_is_ints) := ⟨rfl, rfl, rfl, by decide +kernel, rfl, by decide +kernel, by decide +kernel⟩
noncomputable def g__law_is_ints : MS := (sRet (mAnd (mUn (aIsi "tuple") (mVar 0)) (mCallB bAllL (lComp [1] (iVal (mVar 0)) (.n 1) bYes (mCall 1 m__law_is_int (mCons (mVar 1) mNil))))))
@[irreducible] noncomputable def m__law_is_ints : List AV → Sto → R AV := callM 2 1 g__law_is_ints
theorem ok__law_is_ints (T : Tx K mg D) : FnOk P w K mg base (L2.CX P w) 2 D.f__law_is_ints D.fd__law_is_ints ["row"] (spM ⟨K, cl⟩ 1 m__law_is_ints) :=
  okM (g := g__law_is_ints) T.F__law_is_ints sc__law_is_ints rfl rfl (by unfold m__law_is_ints; rfl) fun cdv A outer s H E hr => (pb_one (psx_ret (px_and (px_isi (by rfl) T.z_isinstance boot_isinstance (px_var 0) (by rfl) T.z_tuple boot_tuple) (px_one (px_callBL (cr_all rfl) ls_all (by rfl) T.z_all boot_all (plx_lc (t := .n 1) rfl sc__law_is_ints.nd (pix_val (px_var 0)) (blkOk_by (own := [("part", 1)]) (N := N__law_is_ints) (sc := defScope s__law_is_ints) (by decide +kernel)) rfl (by decide) (fun _ _ _ _ _ => pg_name (i := 1) sc__law_is_ints.nd rfl (by first | exact Or.inl rfl | exact Or.inr rfl)) (fun _ _ _ _ _ => ptsx_nil) (fun _ _ _ _ _ => (px_call (ok__law_is_int T) (hr.mono (by decide)) (by rfl) T.g__law_is_int T.F__law_is_int.kp T.b__law_is_int takes0 (pa1 (px_var 1) pa0)))))))))
end
end Pg
namespace Pg
open PySem PySem.Spec PyProof.Rows L2 Mi
section
variable {P : Program} {w : World} {K : PySem.W.Frag} {mg : Str → Option Value} {base : Heap} {cl : Str → Option Addr} {D : Defs}
abbrev N__law_some_facts : List Str := ["d", "seats", "tick", "entered", "gone", "seat", "entry", "left", "many", "pending", "now", "k"]
theorem sc__law_some_facts : FnScope N__law_some_facts ["d", "seats"] (defScope s__law_some_facts) := ⟨rfl, rfl, rfl, by decide +kernel, rfl, by decide +kernel, by decide +kernel⟩
noncomputable def g__law_some_facts : MS := (sSeq (sSet 2 (mCall 2 m__law_pick (mCons (mVar 0) (mCons (mNew (lLst (mCons (mC (.int 0)) (mCons (mC (.int 1)) (mCons (mC (.int 24)) (mCons (mC (.int 7)) (mCons (mCall 2 m__law_draw (mCons (mVar 0) (mCons (mC (.int 25)) mNil))) mNil))))))) mNil))))
      (sSeq (sSet 3 (mNew (lLst mNil)))
      (sSeq (sSet 4 (mNew (lLst mNil)))
      (sSeq (sFor (iRg1 (mVar 1)) (gN 5) (sSeq (sSet 6 (mCall 2 m__law_pick (mCons (mVar 0) (mCons (mNew (lLst (mCons (mC (.int 0)) (mCons (mC (.int 0)) (mCons (mC .non) (mCons (mVar 2) (mCons (mCall 2 m__law_draw (mCons (mVar 0) (mCons (mOp aAdd (mVar 2) (mC (.int 1))) mNil))) mNil))))))) mNil))))
      (sSeq (sSet 7 (mC .non))
      (sSeq (sIf (bAnd (bIs (mOp aNs (mVar 6) (mC .non))) (bIs (mOp aEq (mCall 2 m__law_draw (mCons (mVar 0) (mCons (mC (.int 3)) mNil))) (mC (.int 0))))) (sSet 7 (mOp aAdd (mVar 6) (mCall 2 m__law_draw (mCons (mVar 0) (mCons (mOp aAdd (mOp aSub (mVar 2) (mVar 6)) (mC (.int 1))) mNil))))) sNext)
      (sSeq (sApp (mVar 3) (mVar 6))
      (sApp (mVar 4) (mVar 7)))))))
      (sSeq (sSet 8 (mCall 2 m__law_pick (mCons (mVar 0) (mCons (mNew (lLst (mCons (mC (.int 0)) (mCons (mC (.int 0)) (mCons (mC (.int 1)) (mCons (mC (.int 2)) (mCons (mC (.int 3)) (mCons (mC (.int 5)) (mCons (mC (.int 20)) mNil))))))))) mNil))))
      (sSeq (sSet 9 (mNew (lLst mNil)))
      (sSeq (sSet 10 (mVar 2))
      (sSeq (sFor (iRg1 (mVar 8)) (gN 11) (sSeq (sSet 10 (mOp aAdd (mVar 10) (mC (.int 1))))
      (sSeq (sIf (bIs (mOp aLt (mVar 8) (mC (.int 6)))) (sSet 10 (mOp aAdd (mVar 10) (mCall 2 m__law_draw (mCons (mVar 0) (mCons (mC (.int 4)) mNil))))) sNext)
      (sApp (mVar 9) (mTup (mCons (mVar 10) (mCons (mOp aAdd (mC (.int 1)) (mCall 2 m__law_draw (mCons (mVar 0) (mCons (mC (.int 7)) mNil)))) mNil)))))))
      (sRet (mTup (mCons (mC (.str "facts")) (mCons (mVar 2) (mCons (mCall 2 m__law_draw (mCons (mVar 0) (mCons (mC (.int 4)) mNil))) (mCons (mCallB bTup (mCons (mVar 3) mNil)) (mCons (mCallB bTup (mCons (mVar 4) mNil)) (mCons (mCallB bTup (mCons (mVar 9) mNil)) mNil))))))))))))))))
@[irreducible] noncomputable def m__law_some_facts : List AV → Sto → R AV := callM 12 2 g__law_some_facts
theorem ok__law_some_facts (T : Tx K mg D) : FnOk P w K mg base (L2.CX P w) 3 D.f__law_some_facts D.fd__law_some_facts ["d", "seats"] (spM ⟨K, cl⟩ 2 m__law_some_facts) :=
  okM (g := g__law_some_facts) T.F__law_some_facts sc__law_some_facts rfl rfl (by unfold m__law_some_facts; rfl) fun cdv A outer s H E hr => (pb_cons (psx_set 2 sc__law_some_facts.nd (px_call (ok__law_pick T) (hr.mono (by decide)) (by rfl) T.g__law_pick T.F__law_pick.kp T.b__law_pick (takes_of rfl rfl rfl rfl) (pa1 (px_var 0) (pa1 (px_new (plx_lst (pa1 px_int (pa1 px_int (pa1 px_int (pa1 px_int (pa1 (px_call (ok__law_draw T) (hr.mono (by decide)) (by rfl) T.g__law_draw T.F__law_draw.kp T.b__law_draw (takes_of rfl rfl rfl rfl) (pa1 (px_var 0) (pa1 px_int pa0))) pa0))))))) pa0))))
      (pb_cons (psx_set 3 sc__law_some_facts.nd (px_new (plx_lst pa0)))
      (pb_cons (psx_set 4 sc__law_some_facts.nd (px_new (plx_lst pa0)))
      (pb_cons (psx_for (passes_of rfl) rfl (pix_rng1 (by rfl) T.z_range (px_var 1)) (pgx_name 5 sc__law_some_facts.nd) (pb_cons (psx_set 6 sc__law_some_facts.nd (px_call (ok__law_pick T) (hr.mono (by decide)) (by rfl) T.g__law_pick T.F__law_pick.kp T.b__law_pick (takes_of rfl rfl rfl rfl) (pa1 (px_var 0) (pa1 (px_new (plx_lst (pa1 px_int (pa1 px_int (pa1 px_non (pa1 (px_var 2) (pa1 (px_call (ok__law_draw T) (hr.mono (by decide)) (by rfl) T.g__law_draw T.F__law_draw.kp T.b__law_draw (takes_of rfl rfl rfl rfl) (pa1 (px_var 0) (pa1 (px_add (px_var 2) px_int) pa0))) pa0))))))) pa0))))
      (pb_cons (psx_set 7 sc__law_some_facts.nd px_non)
      (pb_cons (psx_if (ptx_w (pwx_and (ptx_cmp op_notN os_ns (px_var 6) px_non) (pwx_and1 (ptx_cmp (op_eqA (hu64 hr)) (os_eq rfl) (px_call (ok__law_draw T) (hr.mono (by decide)) (by rfl) T.g__law_draw T.F__law_draw.kp T.b__law_draw (takes_of rfl rfl rfl rfl) (pa1 (px_var 0) (pa1 px_int pa0))) px_int)))) (pb_one (psx_set 7 sc__law_some_facts.nd (px_add (px_var 6) (px_call (ok__law_draw T) (hr.mono (by decide)) (by rfl) T.g__law_draw T.F__law_draw.kp T.b__law_draw (takes_of rfl rfl rfl rfl) (pa1 (px_var 0) (pa1 (px_add (px_sub (px_var 2) (px_var 6)) px_int) pa0)))))) pb_nil)
      (pb_cons (psx_app (px_var 3) (px_var 6))
      (pb_one (psx_app (px_var 4) (px_var 7))))))))
      (pb_cons (psx_set 8 sc__law_some_facts.nd (px_call (ok__law_pick T) (hr.mono (by decide)) (by rfl) T.g__law_pick T.F__law_pick.kp T.b__law_pick (takes_of rfl rfl rfl rfl) (pa1 (px_var 0) (pa1 (px_new (plx_lst (pa1 px_int (pa1 px_int (pa1 px_int (pa1 px_int (pa1 px_int (pa1 px_int (pa1 px_int pa0))))))))) pa0))))
      (pb_cons (psx_set 9 sc__law_some_facts.nd (px_new (plx_lst pa0)))
      (pb_cons (psx_set 10 sc__law_some_facts.nd (px_var 2))
      (pb_cons (psx_for (passes_of rfl) rfl (pix_rng1 (by rfl) T.z_range (px_var 8)) (pgx_name 11 sc__law_some_facts.nd) (pb_cons (psx_set 10 sc__law_some_facts.nd (px_add (px_var 10) px_int))
      (pb_cons (psx_if (ptx_cmp op_lt os_lt (px_var 8) px_int) (pb_one (psx_set 10 sc__law_some_facts.nd (px_add (px_var 10) (px_call (ok__law_draw T) (hr.mono (by decide)) (by rfl) T.g__law_draw T.F__law_draw.kp T.b__law_draw (takes_of rfl rfl rfl rfl) (pa1 (px_var 0) (pa1 px_int pa0)))))) pb_nil)
      (pb_one (psx_app (px_var 9) (px_tup (pa1 (px_var 10) (pa1 (px_add px_int (px_call (ok__law_draw T) (hr.mono (by decide)) (by rfl) T.g__law_draw T.F__law_draw.kp T.b__law_draw (takes_of rfl rfl rfl rfl) (pa1 (px_var 0) (pa1 px_int pa0)))) pa0))))))))
      (pb_one (psx_ret (px_tup (pa1 px_str (pa1 (px_var 2) (pa1 (px_call (ok__law_draw T) (hr.mono (by decide)) (by rfl) T.g__law_draw T.F__law_draw.kp T.b__law_draw (takes_of rfl rfl rfl rfl) (pa1 (px_var 0) (pa1 px_int pa0))) (pa1 (px_callTy call_tuple_of cs_tup (by rfl) T.z_tuple boot_tuple (pa1 (px_var 3) pa0)) (pa1 (px_callTy call_tuple_of cs_tup (by rfl) T.z_tuple boot_tuple (pa1 (px_var 4) pa0)) (pa1 (px_callTy call_tuple_of cs_tup (by rfl) T.z_tuple boot_tuple (pa1 (px_var 9) pa0)) pa0)))))))))))))))))
end
end Pg
namespace Pg
open PySem PySem.Spec PyProof.Rows L2 Mi
section
variable {P : Program} {w : World} {K : PySem.W.Frag} {mg : Str → Option Value} {base : Heap} {cl : Str → Option Addr} {D : Defs}
abbrev N__law_some_state : List Str := ["d", "seats", "found", "k"]
theorem sc__law_some_state : FnScope N__law_some_state ["d", "seats"] (defScope s__law_some_state) := ⟨rfl, rfl, rfl, by decide +kernel, rfl, by decide +kernel, by decide +kernel⟩
noncomputable def g__law_some_state : MS := (sSeq (sSet 2 (mNew (lLst (mCons (mCall 2 m__law_pick (mCons (mVar 0) (mCons (mNew (lLst (mCons (mC (.int 0)) (mCons (mC (.int 32748)) (mCons (mCall 2 m__law_draw (mCons (mVar 0) (mCons (mC (.int 32749)) mNil))) mNil))))) mNil))) (mCons (mCall 2 m__law_draw (mCons (mVar 0) (mCons (mOp aAdd (mC (.int 2)) (mVar 1)) mNil))) mNil)))))
      (sSeq (sFor (iRg1 (mCall 2 m__law_pick (mCons (mVar 0) (mCons (mNew (lLst (mCons (mC (.int 0)) (mCons (mC (.int 1)) (mCons (mC (.int 2)) (mCons (mC (.int 3)) (mCons (mC (.int 5)) (mCons (mC (.int 12)) (mCons (mC (.int 42)) mNil))))))))) mNil)))) (gN 3) (sApp (mVar 2) (mCall 2 m__law_pick (mCons (mVar 0) (mCons (mNew (lLst (mCons (mC (.int 0)) (mCons (mC (.int 1)) (mCons (mC (.int 255)) (mCons (mUn aNeg (mC (.int 1))) (mCons (mC (.int 32767)) (mCons (mUn aNeg (mC (.int 32768))) (mCons (mOp aSub (mCall 2 m__law_draw (mCons (mVar 0) (mCons (mC (.int 65536)) mNil))) (mC (.int 32768))) mNil))))))))) mNil)))))
      (sRet (mCallB bTup (mCons (mVar 2) mNil)))))
@[irreducible] noncomputable def m__law_some_state : List AV → Sto → R AV := callM 4 2 g__law_some_state
theorem ok__law_some_state (T : Tx K mg D) : FnOk P w K mg base (L2.CX P w) 3 D.f__law_some_state D.fd__law_some_state ["d", "seats"] (spM ⟨K, cl⟩ 2 m__law_some_state) :=
  okM (g := g__law_some_state) T.F__law_some_state sc__law_some_state rfl rfl (by unfold m__law_some_state; rfl) fun cdv A outer s H E hr => (pb_cons (psx_set 2 sc__law_some_state.nd (px_new (plx_lst (pa1 (px_call (ok__law_pick T) (hr.mono (by decide)) (by rfl) T.g__law_pick T.F__law_pick.kp T.b__law_pick (takes_of rfl rfl rfl rfl) (pa1 (px_var 0) (pa1 (px_new (plx_lst (pa1 px_int (pa1 px_int (pa1 (px_call (ok__law_draw T) (hr.mono (by decide)) (by rfl) T.g__law_draw T.F__law_draw.kp T.b__law_draw (takes_of rfl rfl rfl rfl) (pa1 (px_var 0) (pa1 px_int pa0))) pa0))))) pa0))) (pa1 (px_call (ok__law_draw T) (hr.mono (by decide)) (by rfl) T.g__law_draw T.F__law_draw.kp T.b__law_draw (takes_of rfl rfl rfl rfl) (pa1 (px_var 0) (pa1 (px_add px_int (px_var 1)) pa0))) pa0)))))
      (pb_cons (psx_for (passes_of rfl) rfl (pix_rng1 (by rfl) T.z_range (px_call (ok__law_pick T) (hr.mono (by decide)) (by rfl) T.g__law_pick T.F__law_pick.kp T.b__law_pick (takes_of rfl rfl rfl rfl) (pa1 (px_var 0) (pa1 (px_new (plx_lst (pa1 px_int (pa1 px_int (pa1 px_int (pa1 px_int (pa1 px_int (pa1 px_int (pa1 px_int pa0))))))))) pa0)))) (pgx_name 3 sc__law_some_state.nd) (pb_one (psx_app (px_var 2) (px_call (ok__law_pick T) (hr.mono (by decide)) (by rfl) T.g__law_pick T.F__law_pick.kp T.b__law_pick (takes_of rfl rfl rfl rfl) (pa1 (px_var 0) (pa1 (px_new (plx_lst (pa1 px_int (pa1 px_int (pa1 px_int (pa1 (px_neg px_int) (pa1 px_int (pa1 (px_neg px_int) (pa1 (px_sub (px_call (ok__law_draw T) (hr.mono (by decide)) (by rfl) T.g__law_draw T.F__law_draw.kp T.b__law_draw (takes_of rfl rfl rfl rfl) (pa1 (px_var 0) (pa1 px_int pa0))) px_int) pa0))))))))) pa0))))))
      (pb_one (psx_ret (px_callTy call_tuple_of cs_tup (by rfl) T.z_tuple boot_tuple (pa1 (px_var 2) pa0))))))
end
end Pg
namespace Pg
open PySem PySem.Spec PyProof.Rows L2 Mi
section
variable {P : Program} {w : World} {K : PySem.W.Frag} {mg : Str → Option Value} {base : Heap} {cl : Str → Option Addr} {D : Defs}
abbrev N__law_row_of : List Str := ["facts", "state", "tick", "ticks", "found", "wanted", "entry"]
theorem sc__law_row_of : FnScope N__law_row_of ["facts", "state"] (defScope s__law_row_of) := ⟨rfl, rfl, rfl, by decide +kernel, rfl, by decide +kernel, by decide +kernel⟩
noncomputable def g__law_row_of : MS := (sSeq (sSet 3 (mNew (lComp [2] (iVal (mOp aAdd (mIx (mVar 0) (mC (.int 3))) (mIx (mVar 0) (mC (.int 4))))) (.n 2) bYes (mIf (bIs (mOp aIs (mVar 2) (mC .non))) (mC (.int 0)) (mOp aAdd (mVar 2) (mC (.int 1)))))))
      (sSeq (sSet 4 (mNew (lCatFF (lCatFC (lLst (mCons (mIx (mVar 0) (mC (.int 1))) (mCons (mIx (mVar 0) (mC (.int 2))) mNil))) (mVar 3)) (lLst (mCons (mCallB bLen (mCons (mIx (mVar 0) (mC (.int 5))) mNil)) mNil)))))
      (sSeq (sFor (iVal (mIx (mVar 0) (mC (.int 5)))) (gT 2 (gs1 (gN 2) (gs1 (gN 5) gs0))) (sSet 4 (mNew (lCatCF (mVar 4) (lLst (mCons (mVar 2) (mCons (mVar 5) mNil)))))))
      (sRet (mCallB bTupL (lCatCF (mVar 4) (lComp [6] (iVal (mVar 1)) (.n 6) bYes (mOp aAdd (mVar 6) (mC (.int 32768))))))))))
@[irreducible] noncomputable def m__law_row_of : List AV → Sto → R AV := callM 7 2 g__law_row_of
theorem ok__law_row_of (T : Tx K mg D) : FnOk P w K mg base (L2.CX P w) 1 D.f__law_row_of D.fd__law_row_of ["facts", "state"] (spM ⟨K, cl⟩ 2 m__law_row_of) :=
  okM (g := g__law_row_of) T.F__law_row_of sc__law_row_of rfl rfl (by unfold m__law_row_of; rfl) fun cdv A outer s H E hr => (pb_cons (psx_setLc 3 (t := .n 2) rfl sc__law_row_of.nd (pix_val (px_add (px_at (px_var 0) px_int) (px_at (px_var 0) px_int))) (blkOk_by (own := [("tick", 2)]) (N := N__law_row_of) (sc := defScope s__law_row_of) (by decide +kernel)) rfl (by decide) (fun _ _ _ _ _ => pg_name (i := 2) sc__law_row_of.nd rfl (by first | exact Or.inl rfl | exact Or.inr rfl)) (fun _ _ _ _ _ => ptsx_nil) (fun _ _ _ _ _ => (px_if (ptx_cmp op_isN os_is (px_var 2) px_non) px_int (px_add (px_var 2) px_int))))
      (pb_cons (psx_set 4 sc__law_row_of.nd (px_new (plx_catFF (plx_catFC (plx_lst (pa1 (px_at (px_var 0) px_int) (pa1 (px_at (px_var 0) px_int) pa0))) (px_var 3)) (plx_lst (pa1 (px_callB call_len cs_len (by rfl) T.z_len boot_len (pa1 (px_at (px_var 0) px_int) pa0)) pa0)))))
      (pb_cons (psx_for (passes_of rfl) rfl (pix_val (px_at (px_var 0) px_int)) (pgx_tup rfl (pgs1 (pgx_name 2 sc__law_row_of.nd) (pgs1 (pgx_name 5 sc__law_row_of.nd) pgs0))) (pb_one (psx_set 4 sc__law_row_of.nd (px_new (plx_catCF (px_var 4) (plx_lst (pa1 (px_var 2) (pa1 (px_var 5) pa0))))))))
      (pb_one (psx_ret (px_callTyL call_tuple_of ls_tup (by rfl) T.z_tuple boot_tuple (plx_catCF (px_var 4) (plx_lc (t := .n 6) rfl sc__law_row_of.nd (pix_val (px_var 1)) (blkOk_by (own := [("entry", 6)]) (N := N__law_row_of) (sc := defScope s__law_row_of) (by decide +kernel)) rfl (by decide) (fun _ _ _ _ _ => pg_name (i := 6) sc__law_row_of.nd rfl (by first | exact Or.inl rfl | exact Or.inr rfl)) (fun _ _ _ _ _ => ptsx_nil) (fun _ _ _ _ _ => (px_add (px_var 6) px_int))))))))))
end
end Pg
namespace Pg
open PySem PySem.Spec PyProof.Rows L2 Mi
section
variable {P : Program} {w : World} {K : PySem.W.Frag} {mg : Str → Option Value} {base : Heap} {cl : Str → Option Addr} {D : Defs}
abbrev N__law_is_same : List Str := ["told", "due"]
theorem sc__law_is_same : FnScope N__law_is_same ["told", "due"] (defScope s__law_is_same) := ⟨rfl, rfl, rfl, by decide +kernel, rfl, by decide +kernel, by decide +kernel⟩
noncomputable def g__law_is_same : MS := (sRet (mAnd (mOp aEq (mVar 0) (mVar 1)) (mOp aEq (mCallB bRepr (mCons (mVar 0) mNil)) (mCallB bRepr (mCons (mVar 1) mNil)))))
@[irreducible] noncomputable def m__law_is_same : List AV → Sto → R AV := callM 2 2 g__law_is_same
theorem ok__law_is_same (T : Tx K mg D) : FnG P w K mg base (L2.CX P w) 1 D.f__law_is_same D.fd__law_is_same ["told", "due"] (spM ⟨K, cl⟩ 2 m__law_is_same) :=
  okG (g := g__law_is_same) T.F__law_is_same sc__law_is_same rfl rfl (by unfold m__law_is_same; rfl) fun cdv A outer s H E hr gds => (pb_one (psx_ret (px_and (px_cmp (op_eqA (hu64 hr)) (os_eq rfl) (px_var 0) (px_var 1)) (px_one (px_cmp (op_eqA (hu64 hr)) (os_eq rfl) (px_callB (call_reprT gds (hu100 hr)) cs_repr (by rfl) T.z_repr boot_repr (pa1 (px_var 0) pa0)) (px_callB (call_reprT gds (hu100 hr)) cs_repr (by rfl) T.z_repr boot_repr (pa1 (px_var 1) pa0)))))))
end
end Pg
namespace Pg
open PySem PySem.Spec PyProof.Rows L2 Mi
section
variable {P : Program} {w : World} {K : PySem.W.Frag} {mg : Str → Option Value} {base : Heap} {cl : Str → Option Addr} {D : Defs}
abbrev N__law_is_cut_right : List Str := ["row", "seats", "facts", "state", "size", "least", "told"]
theorem sc__law_is_cut_right : FnScope N__law_is_cut_right ["row", "seats", "facts", "state", "size"] (defScope s__law_is_cut_right) := ⟨rfl, rfl, rfl, by decide +kernel, rfl, by decide +kernel, by decide +kernel⟩
noncomputable def g__law_is_cut_right : MS := (sSeq (sSet 5 (mOp aAdd (mOp aSub (mCallB bLen (mCons (mVar 0) mNil)) (mCallB bLen (mCons (mVar 3) mNil))) (mC (.int 2))))
      (sSeq (sSet 6 (mCallP 2 m_opened_parcel (mCons (mSl slT (mVar 0) oNone (oSome (mVar 4))) (mCons (mVar 1) mNil))))
      (sSeq (sIf (bIs (mOp aLt (mVar 4) (mVar 5))) (sRet (mOp aIs (mVar 6) (mC .non))) sNext)
      (sRet (mCall 2 m__law_is_same (mCons (mVar 6) (mCons (mTup (mCons (mVar 2) (mCons (mSl slT (mVar 3) oNone (oSome (mOp aAdd (mOp aSub (mVar 4) (mVar 5)) (mC (.int 2))))) mNil))) mNil)))))))
@[irreducible] noncomputable def m__law_is_cut_right : List AV → Sto → R AV := callM 7 5 g__law_is_cut_right
theorem ok__law_is_cut_right (T : Tx K mg D) : FnG P w K mg base (L2.CX P w) 5 D.f__law_is_cut_right D.fd__law_is_cut_right ["row", "seats", "facts", "state", "size"] (spM ⟨K, cl⟩ 5 m__law_is_cut_right) :=
  okG (g := g__law_is_cut_right) T.F__law_is_cut_right sc__law_is_cut_right rfl rfl (by unfold m__law_is_cut_right; rfl) fun cdv A outer s H E hr gds => (pb_cons (psx_set 5 sc__law_is_cut_right.nd (px_add (px_sub (px_callB call_len cs_len (by rfl) T.z_len boot_len (pa1 (px_var 0) pa0)) (px_callB call_len cs_len (by rfl) T.z_len boot_len (pa1 (px_var 3) pa0))) px_int))
      (pb_cons (psx_set 6 sc__law_is_cut_right.nd (px_callP (ok_opened_parcel T) (hr.mono (by decide)) (by rfl) T.g_opened_parcel T.F_opened_parcel.kp T.b_opened_parcel (takes_of rfl rfl rfl rfl) (pa1 (px_slT (px_var 0) pox_none (pox_some (px_var 4))) (pa1 (px_var 1) pa0))))
      (pb_cons (psx_if (ptx_cmp op_lt os_lt (px_var 4) (px_var 5)) (pb_one (psx_ret (px_cmp op_isN os_is (px_var 6) px_non))) pb_nil)
      (pb_one (psx_ret (px_callG (ok__law_is_same T) (hr.mono (by decide)) gds (by rfl) T.g__law_is_same T.F__law_is_same.kp T.b__law_is_same (takes_of rfl rfl rfl rfl) (pa1 (px_var 6) (pa1 (px_tup (pa1 (px_var 2) (pa1 (px_slT (px_var 3) pox_none (pox_some (px_add (px_sub (px_var 4) (px_var 5)) px_int))) pa0))) pa0))))))))
end
end Pg
namespace Pg
open PySem PySem.Spec PyProof.Rows L2 Mi
section
variable {P : Program} {w : World} {K : PySem.W.Frag} {mg : Str → Option Value} {base : Heap} {cl : Str → Option Addr} {D : Defs}
abbrev N__law_is_refused : List Str := ["d", "row", "seats", "header", "most", "many", "at", "number", "thing"]
theorem sc__law_is_refused : FnScope N__law_is_refused ["d", "row", "seats"] (defScope s__law_is_refused) := ⟨rfl, rfl, rfl, by decide +kernel, rfl, by decide +kernel, by decide +kernel⟩
noncomputable def g__law_is_refused : MS := (sSeq (sSet 3 (mOp aAdd (mC (.int 3)) (mOp aMul (mC (.int 2)) (mVar 2))))
      (sSeq (sSet 4 (mOp aDiv (mOp aSub (mOp aSub (mCallB bLen (mCons (mVar 1) mNil)) (mVar 3)) (mC (.int 2))) (mC (.int 2))))
      (sSeq (sFor (iNew (lLst (mCons (mOp aAdd (mVar 4) (mC (.int 1))) (mCons (mOp aAdd (mOp aAdd (mVar 4) (mC (.int 2))) (mCall 2 m__law_draw (mCons (mVar 0) (mCons (mC (.int 40)) mNil)))) (mCons (mC (.int 65536)) mNil))))) (gN 5) (sIf (bIs (mOp aNs (mCallP 2 m_opened_parcel (mCons (mOp aAdd (mOp aAdd (mSl slT (mVar 1) oNone (oSome (mOp aSub (mVar 3) (mC (.int 1))))) (mTup (mCons (mVar 5) mNil))) (mSl slT (mVar 1) (oSome (mVar 3)) oNone)) (mCons (mVar 2) mNil))) (mC .non))) (sRet (mC (.bl false))) sNext))
      (sSeq (sSet 6 (mCall 2 m__law_pick (mCons (mVar 0) (mCons (mNew (lLst (mCons (mC (.int 0)) (mCons (mC (.int 1)) (mCons (mOp aSub (mVar 3) (mC (.int 1))) (mCons (mVar 3) (mCons (mOp aSub (mCallB bLen (mCons (mVar 1) mNil)) (mC (.int 1))) (mCons (mCall 2 m__law_draw (mCons (mVar 0) (mCons (mCallB bLen (mCons (mVar 1) mNil)) mNil))) mNil)))))))) mNil))))
      (sSeq (sFor (iNew (lLst (mCons (mUn aNeg (mC (.int 1))) (mCons (mOp aSub (mUn aNeg (mC (.int 1))) (mCall 2 m__law_draw (mCons (mVar 0) (mCons (mC (.int 70000)) mNil)))) (mCons (mC (.int 65537)) (mCons (mOp aAdd (mC (.int 65537)) (mCall 2 m__law_draw (mCons (mVar 0) (mCons (mC (.int 70000)) mNil)))) mNil)))))) (gN 7) (sIf (bIs (mOp aNs (mCallP 2 m_opened_parcel (mCons (mOp aAdd (mOp aAdd (mSl slT (mVar 1) oNone (oSome (mVar 6))) (mTup (mCons (mVar 7) mNil))) (mSl slT (mVar 1) (oSome (mOp aAdd (mVar 6) (mC (.int 1)))) oNone)) (mCons (mVar 2) mNil))) (mC .non))) (sRet (mC (.bl false))) sNext))
      (sSeq (sFor (iNew (lLst (mCons (mC .non) (mCons (mC (.str "1")) (mCons (mTup mNil) (mCons (mTup (mCons (mC (.int 1)) mNil)) mNil)))))) (gN 8) (sIf (bIs (mOp aNs (mCallP 2 m_opened_parcel (mCons (mOp aAdd (mOp aAdd (mSl slT (mVar 1) oNone (oSome (mVar 6))) (mTup (mCons (mVar 8) mNil))) (mSl slT (mVar 1) (oSome (mOp aAdd (mVar 6) (mC (.int 1)))) oNone)) (mCons (mVar 2) mNil))) (mC .non))) (sRet (mC (.bl false))) sNext))
      (sSeq (sFor (iNew (lLst (mCons (mC .non) (mCons (mTup mNil) (mCons (mC (.str "")) (mCons (mC (.str "facts")) (mCons (mC (.int 7)) (mCons (mNew (mCallB bList (mCons (mVar 1) mNil))) (mCons (mTup (mCons (mVar 1) mNil)) mNil))))))))) (gN 8) (sIf (bIs (mOp aNs (mCall 2 m_opened_parcel (mCons (mVar 8) (mCons (mVar 2) mNil))) (mC .non))) (sRet (mC (.bl false))) sNext))
      (sRet (mC (.bl true))))))))))
@[irreducible] noncomputable def m__law_is_refused : List AV → Sto → R AV := callM 9 3 g__law_is_refused
theorem ok__law_is_refused (T : Tx K mg D) : FnOk P w K mg base (L2.CX P w) 5 D.f__law_is_refused D.fd__law_is_refused ["d", "row", "seats"] (spM ⟨K, cl⟩ 3 m__law_is_refused) :=
  okM (g := g__law_is_refused) T.F__law_is_refused sc__law_is_refused rfl rfl (by unfold m__law_is_refused; rfl) fun cdv A outer s H E hr => (pb_cons (psx_set 3 sc__law_is_refused.nd (px_add px_int (px_mul px_int (px_var 2))))
      (pb_cons (psx_set 4 sc__law_is_refused.nd (px_div (px_sub (px_sub (px_callB call_len cs_len (by rfl) T.z_len boot_len (pa1 (px_var 1) pa0)) (px_var 3)) px_int) px_int))
      (pb_cons (psx_for (passes_of rfl) rfl (pix_new (plx_lst (pa1 (px_add (px_var 4) px_int) (pa1 (px_add (px_add (px_var 4) px_int) (px_call (ok__law_draw T) (hr.mono (by decide)) (by rfl) T.g__law_draw T.F__law_draw.kp T.b__law_draw (takes_of rfl rfl rfl rfl) (pa1 (px_var 0) (pa1 px_int pa0)))) (pa1 px_int pa0))))) (pgx_name 5 sc__law_is_refused.nd) (pb_one (psx_if (ptx_cmp op_notN os_ns (px_callP (ok_opened_parcel T) (hr.mono (by decide)) (by rfl) T.g_opened_parcel T.F_opened_parcel.kp T.b_opened_parcel (takes_of rfl rfl rfl rfl) (pa1 (px_add (px_add (px_slT (px_var 1) pox_none (pox_some (px_sub (px_var 3) px_int))) (px_tup (pa1 (px_var 5) pa0))) (px_slT (px_var 1) (pox_some (px_var 3)) pox_none)) (pa1 (px_var 2) pa0))) px_non) (pb_one (psx_ret px_bl)) pb_nil)))
      (pb_cons (psx_set 6 sc__law_is_refused.nd (px_call (ok__law_pick T) (hr.mono (by decide)) (by rfl) T.g__law_pick T.F__law_pick.kp T.b__law_pick (takes_of rfl rfl rfl rfl) (pa1 (px_var 0) (pa1 (px_new (plx_lst (pa1 px_int (pa1 px_int (pa1 (px_sub (px_var 3) px_int) (pa1 (px_var 3) (pa1 (px_sub (px_callB call_len cs_len (by rfl) T.z_len boot_len (pa1 (px_var 1) pa0)) px_int) (pa1 (px_call (ok__law_draw T) (hr.mono (by decide)) (by rfl) T.g__law_draw T.F__law_draw.kp T.b__law_draw (takes_of rfl rfl rfl rfl) (pa1 (px_var 0) (pa1 (px_callB call_len cs_len (by rfl) T.z_len boot_len (pa1 (px_var 1) pa0)) pa0))) pa0)))))))) pa0))))
      (pb_cons (psx_for (passes_of rfl) rfl (pix_new (plx_lst (pa1 (px_neg px_int) (pa1 (px_sub (px_neg px_int) (px_call (ok__law_draw T) (hr.mono (by decide)) (by rfl) T.g__law_draw T.F__law_draw.kp T.b__law_draw (takes_of rfl rfl rfl rfl) (pa1 (px_var 0) (pa1 px_int pa0)))) (pa1 px_int (pa1 (px_add px_int (px_call (ok__law_draw T) (hr.mono (by decide)) (by rfl) T.g__law_draw T.F__law_draw.kp T.b__law_draw (takes_of rfl rfl rfl rfl) (pa1 (px_var 0) (pa1 px_int pa0)))) pa0)))))) (pgx_name 7 sc__law_is_refused.nd) (pb_one (psx_if (ptx_cmp op_notN os_ns (px_callP (ok_opened_parcel T) (hr.mono (by decide)) (by rfl) T.g_opened_parcel T.F_opened_parcel.kp T.b_opened_parcel (takes_of rfl rfl rfl rfl) (pa1 (px_add (px_add (px_slT (px_var 1) pox_none (pox_some (px_var 6))) (px_tup (pa1 (px_var 7) pa0))) (px_slT (px_var 1) (pox_some (px_add (px_var 6) px_int)) pox_none)) (pa1 (px_var 2) pa0))) px_non) (pb_one (psx_ret px_bl)) pb_nil)))
      (pb_cons (psx_for (passes_of rfl) rfl (pix_new (plx_lst (pa1 px_non (pa1 px_str (pa1 (px_tup pa0) (pa1 (px_tup (pa1 px_int pa0)) pa0)))))) (pgx_name 8 sc__law_is_refused.nd) (pb_one (psx_if (ptx_cmp op_notN os_ns (px_callP (ok_opened_parcel T) (hr.mono (by decide)) (by rfl) T.g_opened_parcel T.F_opened_parcel.kp T.b_opened_parcel (takes_of rfl rfl rfl rfl) (pa1 (px_add (px_add (px_slT (px_var 1) pox_none (pox_some (px_var 6))) (px_tup (pa1 (px_var 8) pa0))) (px_slT (px_var 1) (pox_some (px_add (px_var 6) px_int)) pox_none)) (pa1 (px_var 2) pa0))) px_non) (pb_one (psx_ret px_bl)) pb_nil)))
      (pb_cons (psx_for (passes_of rfl) rfl (pix_new (plx_lst (pa1 px_non (pa1 (px_tup pa0) (pa1 px_str (pa1 px_str (pa1 px_int (pa1 (px_new (plx_callTy call_list_of cs_list (by rfl) T.z_list boot_list (pa1 (px_var 1) pa0))) (pa1 (px_tup (pa1 (px_var 1) pa0)) pa0))))))))) (pgx_name 8 sc__law_is_refused.nd) (pb_one (psx_if (ptx_cmp op_notN os_ns (px_call (ok_opened_parcel T) (hr.mono (by decide)) (by rfl) T.g_opened_parcel T.F_opened_parcel.kp T.b_opened_parcel (takes_of rfl rfl rfl rfl) (pa1 (px_var 8) (pa1 (px_var 2) pa0))) px_non) (pb_one (psx_ret px_bl)) pb_nil)))
      (pb_one (psx_ret px_bl)))))))))
end
end Pg
namespace Pg
open PySem PySem.Spec PyProof.Rows L2 Mi
section
variable {P : Program} {w : World} {K : PySem.W.Frag} {mg : Str → Option Value} {base : Heap} {cl : Str → Option Addr} {D : Defs}
abbrev N_law : List Str := ["script", "d", "turn", "seats", "facts", "state", "row", "told", "least", "header", "size"]
theorem sc_law : FnScope N_law ["script"] (defScope s_law) := ⟨rfl, rfl, rfl, by decide +kernel, rfl, by decide +kernel, by decide +kernel⟩
noncomputable def g_law : MS := (sSeq (sSet 1 (mCall 1 m__law_begin (mCons (mVar 0) mNil)))
      (sSeq (sFor (iRg1 (mC (.int 2))) (gN 2) (sSeq (sSet 3 (mCall 2 m__law_pick (mCons (mVar 1) (mCons (mNew (lLst (mCons (mC (.int 2)) (mCons (mC (.int 1)) (mCons (mC (.int 3)) (mCons (mC (.int 4)) (mCons (mC (.int 2)) mNil))))))) mNil))))
      (sSeq (sSet 4 (mCall 2 m__law_some_facts (mCons (mVar 1) (mCons (mVar 3) mNil))))
      (sSeq (sSet 5 (mCall 2 m__law_some_state (mCons (mVar 1) (mCons (mVar 3) mNil))))
      (sSeq (sSet 6 (mCallP 2 m__law_row_of (mCons (mVar 4) (mCons (mVar 5) mNil))))
      (sSeq (sSet 7 (mCallP 2 m_parcel_of (mCons (mVar 4) (mCons (mVar 5) mNil))))
      (sSeq (sIf (bOr (bNot (bVal (mCall 1 m__law_is_ints (mCons (mVar 7) mNil)))) (bIs (mOp aNe (mVar 7) (mVar 6)))) (sRet (mC (.bl false))) sNext)
      (sSeq (sIf (bNot (bVal (mCall 2 m__law_is_same (mCons (mCallP 2 m_opened_parcel (mCons (mVar 6) (mCons (mVar 3) mNil))) (mCons (mTup (mCons (mVar 4) (mCons (mVar 5) mNil))) mNil))))) (sRet (mC (.bl false))) sNext)
      (sSeq (sSet 8 (mOp aAdd (mOp aSub (mCallB bLen (mCons (mVar 6) mNil)) (mCallB bLen (mCons (mVar 5) mNil))) (mC (.int 2))))
      (sSeq (sSet 9 (mOp aAdd (mC (.int 3)) (mOp aMul (mC (.int 2)) (mVar 3))))
      (sSeq (sFor (iNew (lLst (mCons (mC (.int 0)) (mCons (mOp aSub (mVar 9) (mC (.int 1))) (mCons (mVar 9) (mCons (mOp aSub (mVar 8) (mC (.int 1))) (mCons (mVar 8) (mCons (mOp aSub (mCallB bLen (mCons (mVar 6) mNil)) (mC (.int 1))) (mCons (mCall 2 m__law_draw (mCons (mVar 1) (mCons (mCallB bLen (mCons (mVar 6) mNil)) mNil))) mNil))))))))) (gN 10) (sIf (bNot (bVal (mCall 5 m__law_is_cut_right (mCons (mVar 6) (mCons (mVar 3) (mCons (mVar 4) (mCons (mVar 5) (mCons (mVar 10) mNil)))))))) (sRet (mC (.bl false))) sNext))
      (sSeq (sIf (bNot (bVal (mCall 3 m__law_is_refused (mCons (mVar 1) (mCons (mVar 6) (mCons (mVar 3) mNil)))))) (sRet (mC (.bl false))) sNext)
      (sSeq (sSet 7 (mCallP 2 m_opened_parcel (mCons (mVar 6) (mCons (mVar 3) mNil))))
      (sIf (bOr (bNot (bVal (mCall 2 m__law_is_same (mCons (mVar 7) (mCons (mTup (mCons (mVar 4) (mCons (mVar 5) mNil))) mNil))))) (bIs (mOp aNe (mCallP 2 m_parcel_of (mCons (mIx (mVar 7) (mC (.int 0))) (mCons (mIx (mVar 7) (mC (.int 1))) mNil))) (mVar 6)))) (sRet (mC (.bl false))) sNext))))))))))))))
      (sRet (mC (.bl true)))))
@[irreducible] noncomputable def m_law : List AV → Sto → R AV := callM 11 1 g_law
theorem ok_law (T : Tx K mg D) : FnG P w K mg base (L2.CX P w) 6 D.f_law D.fd_law ["script"] (spM ⟨K, cl⟩ 1 m_law) :=
  okG (g := g_law) T.F_law sc_law rfl rfl (by unfold m_law; rfl) fun cdv A outer s H E hr gds => (pb_cons (psx_set 1 sc_law.nd (px_call (ok__law_begin T) (hr.mono (by decide)) (by rfl) T.g__law_begin T.F__law_begin.kp T.b__law_begin (takes_of rfl rfl rfl rfl) (pa1 (px_var 0) pa0)))
      (pb_cons (psx_for (passes_of rfl) rfl (pix_rng1 (by rfl) T.z_range px_int) (pgx_name 2 sc_law.nd) (pb_cons (psx_set 3 sc_law.nd (px_call (ok__law_pick T) (hr.mono (by decide)) (by rfl) T.g__law_pick T.F__law_pick.kp T.b__law_pick (takes_of rfl rfl rfl rfl) (pa1 (px_var 1) (pa1 (px_new (plx_lst (pa1 px_int (pa1 px_int (pa1 px_int (pa1 px_int (pa1 px_int pa0))))))) pa0))))
      (pb_cons (psx_set 4 sc_law.nd (px_call (ok__law_some_facts T) (hr.mono (by decide)) (by rfl) T.g__law_some_facts T.F__law_some_facts.kp T.b__law_some_facts (takes_of rfl rfl rfl rfl) (pa1 (px_var 1) (pa1 (px_var 3) pa0))))
      (pb_cons (psx_set 5 sc_law.nd (px_call (ok__law_some_state T) (hr.mono (by decide)) (by rfl) T.g__law_some_state T.F__law_some_state.kp T.b__law_some_state (takes_of rfl rfl rfl rfl) (pa1 (px_var 1) (pa1 (px_var 3) pa0))))
      (pb_cons (psx_set 6 sc_law.nd (px_callP (ok__law_row_of T) (hr.mono (by decide)) (by rfl) T.g__law_row_of T.F__law_row_of.kp T.b__law_row_of (takes_of rfl rfl rfl rfl) (pa1 (px_var 4) (pa1 (px_var 5) pa0))))
      (pb_cons (psx_set 7 sc_law.nd (px_callP (ok_parcel_of T) (hr.mono (by decide)) (by rfl) T.g_parcel_of T.F_parcel_of.kp T.b_parcel_of (takes_of rfl rfl rfl rfl) (pa1 (px_var 4) (pa1 (px_var 5) pa0))))
      (pb_cons (psx_if (ptx_w (pwx_or (ptx_not (ptx_val (px_call (ok__law_is_ints T) (hr.mono (by decide)) (by rfl) T.g__law_is_ints T.F__law_is_ints.kp T.b__law_is_ints (takes_of rfl rfl rfl rfl) (pa1 (px_var 7) pa0)))) (pwx_or1 (ptx_cmp (op_neA (hu64 hr)) (os_ne rfl) (px_var 7) (px_var 6))))) (pb_one (psx_ret px_bl)) pb_nil)
      (pb_cons (psx_if (ptx_not (ptx_val (px_callG (ok__law_is_same T) (hr.mono (by decide)) gds (by rfl) T.g__law_is_same T.F__law_is_same.kp T.b__law_is_same (takes_of rfl rfl rfl rfl) (pa1 (px_callP (ok_opened_parcel T) (hr.mono (by decide)) (by rfl) T.g_opened_parcel T.F_opened_parcel.kp T.b_opened_parcel (takes_of rfl rfl rfl rfl) (pa1 (px_var 6) (pa1 (px_var 3) pa0))) (pa1 (px_tup (pa1 (px_var 4) (pa1 (px_var 5) pa0))) pa0))))) (pb_one (psx_ret px_bl)) pb_nil)
      (pb_cons (psx_set 8 sc_law.nd (px_add (px_sub (px_callB call_len cs_len (by rfl) T.z_len boot_len (pa1 (px_var 6) pa0)) (px_callB call_len cs_len (by rfl) T.z_len boot_len (pa1 (px_var 5) pa0))) px_int))
      (pb_cons (psx_set 9 sc_law.nd (px_add px_int (px_mul px_int (px_var 3))))
      (pb_cons (psx_for (passes_of rfl) rfl (pix_new (plx_lst (pa1 px_int (pa1 (px_sub (px_var 9) px_int) (pa1 (px_var 9) (pa1 (px_sub (px_var 8) px_int) (pa1 (px_var 8) (pa1 (px_sub (px_callB call_len cs_len (by rfl) T.z_len boot_len (pa1 (px_var 6) pa0)) px_int) (pa1 (px_call (ok__law_draw T) (hr.mono (by decide)) (by rfl) T.g__law_draw T.F__law_draw.kp T.b__law_draw (takes_of rfl rfl rfl rfl) (pa1 (px_var 1) (pa1 (px_callB call_len cs_len (by rfl) T.z_len boot_len (pa1 (px_var 6) pa0)) pa0))) pa0))))))))) (pgx_name 10 sc_law.nd) (pb_one (psx_if (ptx_not (ptx_val (px_callG (ok__law_is_cut_right T) (hr.mono (by decide)) gds (by rfl) T.g__law_is_cut_right T.F__law_is_cut_right.kp T.b__law_is_cut_right (takes_of rfl rfl rfl rfl) (pa1 (px_var 6) (pa1 (px_var 3) (pa1 (px_var 4) (pa1 (px_var 5) (pa1 (px_var 10) pa0)))))))) (pb_one (psx_ret px_bl)) pb_nil)))
      (pb_cons (psx_if (ptx_not (ptx_val (px_call (ok__law_is_refused T) (hr.mono (by decide)) (by rfl) T.g__law_is_refused T.F__law_is_refused.kp T.b__law_is_refused (takes_of rfl rfl rfl rfl) (pa1 (px_var 1) (pa1 (px_var 6) (pa1 (px_var 3) pa0)))))) (pb_one (psx_ret px_bl)) pb_nil)
      (pb_cons (psx_set 7 sc_law.nd (px_callP (ok_opened_parcel T) (hr.mono (by decide)) (by rfl) T.g_opened_parcel T.F_opened_parcel.kp T.b_opened_parcel (takes_of rfl rfl rfl rfl) (pa1 (px_var 6) (pa1 (px_var 3) pa0))))
      (pb_one (psx_if (ptx_w (pwx_or (ptx_not (ptx_val (px_callG (ok__law_is_same T) (hr.mono (by decide)) gds (by rfl) T.g__law_is_same T.F__law_is_same.kp T.b__law_is_same (takes_of rfl rfl rfl rfl) (pa1 (px_var 7) (pa1 (px_tup (pa1 (px_var 4) (pa1 (px_var 5) pa0))) pa0))))) (pwx_or1 (ptx_cmp (op_neA (hu64 hr)) (os_ne rfl) (px_callP (ok_parcel_of T) (hr.mono (by decide)) (by rfl) T.g_parcel_of T.F_parcel_of.kp T.b_parcel_of (takes_of rfl rfl rfl rfl) (pa1 (px_at (px_var 7) px_int) (pa1 (px_at (px_var 7) px_int) pa0))) (px_var 6))))) (pb_one (psx_ret px_bl)) pb_nil)))))))))))))))
      (pb_one (psx_ret px_bl))))
end
end Pg
/-! Mi10: how the words of a mirror are reckoned out (for simp). -/
namespace Mi
open PySem PySem.Spec PyProof.Rows L2
section
variable {α β : Type} {ρ : Slots} {S : Sto} {f g h : ME} {m m2 : MA} {c d : MB} {u v : MS}
@[simp] theorem R.bind_k {a : α} {k : α → Sto → R β} : (R.ok a S).bind k = k a S := rfl
@[simp] theorem R.bind_n {k : α → Sto → R β} : (R.no).bind k = .no := rfl
@[simp] theorem R.bind_e {e : Exn} {k : α → Sto → R β} : (R.ex e S).bind k = .ex e S := rfl
@[simp] theorem R.thn_k {a : α} {k : α → Sto → SR} : (R.ok a S).thn ρ k = k a S := rfl
@[simp] theorem R.thn_n {k : α → Sto → SR} : (R.no).thn ρ k = .no := rfl
@[simp] theorem R.thn_e {e : Exn} {k : α → Sto → SR} : (R.ex e S).thn ρ k = .ex e ρ S := rfl
@[simp] theorem SR.thn_nx {k : Slots → Sto → SR} : (SR.nx ρ S).thn k = k ρ S := rfl
@[simp] theorem SR.thn_rt {a : AV} {k : Slots → Sto → SR} : (SR.rt a S).thn k = .rt a S := rfl
@[simp] theorem SR.thn_bk {k : Slots → Sto → SR} : (SR.bk ρ S).thn k = .bk ρ S := rfl
@[simp] theorem SR.thn_ct {k : Slots → Sto → SR} : (SR.ct ρ S).thn k = .ct ρ S := rfl
@[simp] theorem SR.thn_ex {e : Exn} {k : Slots → Sto → SR} : (SR.ex e ρ S).thn k = .ex e ρ S := rfl
@[simp] theorem SR.thn_no {k : Slots → Sto → SR} : (SR.no).thn k = .no := rfl
@[simp] theorem R.of_s {a : α} : R.of (some a) S = .ok a S := rfl
@[simp] theorem R.of_n : (R.of none S : R α) = .no := rfl
@[simp] theorem SR.of_s : SR.of (some ρ) S = .nx ρ S := rfl
@[simp] theorem SR.of_n : SR.of none S = .no := rfl
@[simp] theorem R.nox_k {a : α} : R.nox (.ok a S) = .ok a S := rfl
@[simp] theorem mVar_ev {i : Nat} : mVar i ρ S = match ρ[i]? with
  | some (some v) => .ok v S
  | _ => .no := rfl
@[simp] theorem mC_ev {a : AV} : mC a ρ S = .ok a S := rfl
@[simp] theorem mOp_ev {o : AV → AV → Option AV} : mOp o f g ρ S = (f ρ S).bind fun a S1 => (g ρ S1).bind fun b S2 => R.of (o a b) S2 := rfl
@[simp] theorem mUn_ev {o : AV → Option AV} : mUn o f ρ S = (f ρ S).bind fun a S1 => R.of (o a) S1 := rfl
@[simp] theorem mNil_ev : mNil ρ S = .ok [] S := rfl
@[simp] theorem mCons_ev : mCons f m ρ S = (f ρ S).bind fun a S1 => (m ρ S1).bind fun as S2 => .ok (a :: as) S2 := rfl
@[simp] theorem mTup_ev : mTup m ρ S = (m ρ S).bind fun as S1 => if as.length ≤ 100000 then .ok (.tup as) S1 else .no := rfl
@[simp] theorem lLst_ev : lLst m ρ S = (m ρ S).bind fun as S1 => if as.length ≤ 100000 then .ok as S1 else .no := rfl
@[simp] theorem mNew_ev : mNew m ρ S = (m ρ S).bind fun as S1 => .ok (.ref S1.length) (S1 ++ [.lst as]) := rfl
@[simp] theorem mIf_ev : mIf c f g ρ S = (c ρ S).bind fun b S1 => if b then f ρ S1 else g ρ S1 := rfl
@[simp] theorem bAnd_ev : bAnd c d ρ S = (c ρ S).bind fun b S1 => if b then d ρ S1 else .ok false S1 := rfl
@[simp] theorem bOr_ev : bOr c d ρ S = (c ρ S).bind fun b S1 => if b then .ok true S1 else d ρ S1 := rfl
@[simp] theorem bNot_ev : bNot c ρ S = (c ρ S).bind fun b S1 => .ok (!b) S1 := rfl
@[simp] theorem bVal_ev : bVal f ρ S = (f ρ S).bind fun a S1 => R.of (aTru S1 a) S1 := rfl
@[simp] theorem bIs_ev : bIs f ρ S = (f ρ S).bind fun a S1 => R.of (isBl a) S1 := rfl
@[simp] theorem bYes_ev : bYes ρ S = .ok true S := rfl
@[simp] theorem isBl_bl {b : Bool} : isBl (.bl b) = some b := rfl
@[simp] theorem aTru_bl {b : Bool} : aTru S (.bl b) = some b := rfl
@[simp] theorem aTru_int {i : Int} : aTru S (.int i) = some (i != 0) := rfl
@[simp] theorem aTru_non : aTru S .non = some false := rfl
@[simp] theorem mAnd_ev : mAnd f g ρ S = (f ρ S).bind fun a S1 => (R.of (isBl a) S1).bind fun b S2 => if b then g ρ S2 else .ok (.bl false) S2 := rfl
@[simp] theorem mOr_ev : mOr f g ρ S = (f ρ S).bind fun a S1 => (R.of (isBl a) S1).bind fun b S2 => if b then .ok (.bl true) S2 else g ρ S2 := rfl
@[simp] theorem mNot_ev : mNot f ρ S = (f ρ S).bind fun a S1 => (R.of (isBl a) S1).bind fun b S2 => .ok (.bl (!b)) S2 := rfl
@[simp] theorem mChain_ev {o1 o2 : AV → AV → Option AV} : mChain o1 o2 f g h ρ S = (f ρ S).bind fun a S1 => (g ρ S1).bind fun b S2 => (R.of ((o1 a b).bind isBl) S2).bind fun k S3 => if k then (h ρ S3).bind fun c S4 => R.of (o2 b c) S4 else .ok (.bl false) S3 := rfl
@[simp] theorem oNone_ev : oNone ρ S = .ok none S := rfl
@[simp] theorem isInt_int {i : Int} : Mi.isInt (.int i) = some i := rfl
@[simp] theorem oSome_ev : oSome f ρ S = (f ρ S).bind fun a S1 => R.of ((Mi.isInt a).map some) S1 := rfl
@[simp] theorem mCallB_ev {b : List AV → Sto → R α} : mCallB b m ρ S = (m ρ S).bind fun as S1 => b as S1 := rfl
@[simp] theorem mCall_ev {n : Nat} {q : List AV → Sto → R AV} : mCall n q m ρ S = (m ρ S).bind fun as S1 => if as.length = n then q as S1 else .no := rfl
@[simp] theorem mCallP_ev {n : Nat} {q : List AV → Sto → R AV} : mCallP n q m ρ S = (m ρ S).bind fun as S1 => runP n q as S1 := rfl
@[simp] theorem lCallP_ev {n : Nat} {q : List AV → Sto → R AV} : lCallP n q m ρ S = (m ρ S).bind fun as S1 => runL n q as S1 := rfl
theorem runP_ok {n : Nat} {q : List AV → Sto → R AV} {as : List AV} {a : AV} {S' : Sto} (h1 : as.length = n) (h2 : AV.pures as = true) (h3 : q as [] = .ok a S') (h4 : a.pure = true) : runP n q as S = .ok a S := by
  unfold runP
  rw [if_pos ⟨h1, h2⟩, h3]
  simp [h4]
theorem runL_ok {n : Nat} {q : List AV → Sto → R AV} {as xs : List AV} {k : Nat} {S' : Sto} (h1 : as.length = n) (h2 : AV.pures as = true) (h3 : q as [] = .ok (.ref k) S') (h4 : Mi.cellOf S' k = some xs) (h5 : AV.pures xs = true) : runL n q as S = .ok xs S := by
  unfold runL
  rw [if_pos ⟨h1, h2⟩, h3]
  simp [h4, h5]
@[simp] theorem mSl_ev {q : AV → Option Int → Option Int → Sto → R α} {l k : Slots → Sto → R (Option Int)} : mSl q f l k ρ S = (f ρ S).bind fun a S1 => (l ρ S1).bind fun lo S2 => (k ρ S2).bind fun hi S3 => q a lo hi S3 := rfl
@[simp] theorem lSlL_ev {l k : Slots → Sto → R (Option Int)} : lSlL m l k ρ S = (m ρ S).bind fun a S1 => (l ρ S1).bind fun lo S2 => (k ρ S2).bind fun hi S3 => .ok (cutA a lo hi) S3 := rfl
@[simp] theorem slT_ev {xs : List AV} {l k : Option Int} : slT (.tup xs) l k S = .ok (.tup (cutA xs l k)) S := rfl
@[simp] theorem slL_ref {n : Nat} {l k : Option Int} : slL (.ref n) l k S = R.of ((Mi.cellOf S n).map fun xs => cutA xs l k) S := rfl
@[simp] theorem mIx_ev : mIx f g ρ S = (f ρ S).bind fun a S1 => (g ρ S1).bind fun b S2 => R.of (ixA S2 a b) S2 := rfl
@[simp] theorem ixA_tup {xs : List AV} {i : Int} : ixA S (.tup xs) (.int i) = atI xs i := rfl
@[simp] theorem ixA_rol {xs : List AV} {i : Int} : ixA S (.rol xs) (.int i) = atI xs i := rfl
@[simp] theorem ixA_ref {n : Nat} {i : Int} : ixA S (.ref n) (.int i) = (Mi.cellOf S n).bind fun xs => atI xs i := rfl
@[simp] theorem cellOf_ev {n : Nat} : Mi.cellOf S n = match S[n]? with
  | some (.lst xs) => some xs
  | none => none := rfl
@[simp] theorem refOf_ref {n : Nat} : refOf (.ref n) = some n := rfl
@[simp] theorem mRef_ev : mRef f ρ S = (f ρ S).bind fun l S1 => R.of (refOf l) S1 := rfl
@[simp] theorem mCell_ev {n : Nat} : mCell n S = R.of (Mi.cellOf S n) S := rfl
@[simp] theorem mInt_ev : mInt f ρ S = (f ρ S).bind fun l S1 => R.of (Mi.isInt l) S1 := rfl
@[simp] theorem sNext_ev : sNext ρ S = .nx ρ S := rfl
@[simp] theorem sBrk_ev : sBrk ρ S = .bk ρ S := rfl
@[simp] theorem sCont_ev : sCont ρ S = .ct ρ S := rfl
@[simp] theorem sSeq_ev : sSeq u v ρ S = (u ρ S).thn v := rfl
@[simp] theorem sSet_ev {i : Nat} : sSet i f ρ S = (f ρ S).thn ρ fun x S1 => .nx (ρ.set i (some x)) S1 := rfl
@[simp] theorem sAsg_ev {b : AV → Slots → Option Slots} : sAsg b f ρ S = (f ρ S).thn ρ fun x S1 => SR.of (b x ρ) S1 := rfl
@[simp] theorem sDrop_ev : sDrop f ρ S = (f ρ S).thn ρ fun _ S1 => .nx ρ S1 := rfl
@[simp] theorem sRet_ev : sRet f ρ S = (f ρ S).thn ρ fun x S1 => .rt x S1 := rfl
@[simp] theorem sRetN_ev : sRetN ρ S = .rt .non S := rfl
@[simp] theorem sIf_ev : sIf c u v ρ S = (c ρ S).thn ρ fun k S1 => if k then u ρ S1 else v ρ S1 := rfl
@[simp] theorem sApp_ev : sApp f g ρ S = (mRef f ρ S).thn ρ fun n S1 => (g ρ S1).thn ρ fun x S2 => (mCell n S2).thn ρ fun xs S3 => if xs.length < 100000 then .nx ρ (S3.set n (.lst (xs ++ [x]))) else .no := rfl
@[simp] theorem sExt_ev : sExt f m ρ S = (mRef f ρ S).thn ρ fun n S1 => (m ρ S1).thn ρ fun vs S2 => (mCell n S2).thn ρ fun xs S3 => if xs.length + vs.length ≤ 100000 then .nx ρ (S3.set n (.lst (xs ++ vs))) else .no := rfl
@[simp] theorem sPut_ev : sPut f g h ρ S = (f ρ S).thn ρ fun x S1 => (mRef g ρ S1).thn ρ fun n S2 => (mInt h ρ S2).thn ρ fun k S3 => (mCell n S3).thn ρ fun xs S4 => (R.of (ixN xs.length k) S4).thn ρ fun j S5 => .nx ρ (S5.set n (.lst (xs.set j x))) := rfl
@[simp] theorem sAugI_ev {o : Int → Int → Int} : sAugI o f g h ρ S = (mRef f ρ S).thn ρ fun n S1 => (mInt g ρ S1).thn ρ fun k S2 => (mCell n S2).thn ρ fun xs S3 => (R.of ((atI xs k).bind Mi.isInt) S3).thn ρ fun old S4 =>
  (mInt h ρ S4).thn ρ fun b S5 => (mCell n S5).thn ρ fun ys S6 => (R.of (ixN ys.length k) S6).thn ρ fun j S7 => .nx ρ (S7.set n (.lst (ys.set j (.int (o old b))))) := rfl
@[simp] theorem gN_ev {i : Nat} {x : AV} : gN i x ρ = some (ρ.set i (some x)) := rfl
@[simp] theorem gs0_ev : gs0 [] ρ = some ρ := rfl
@[simp] theorem gs1_ev {a : AV → Slots → Option Slots} {b : List AV → Slots → Option Slots} {x : AV} {xs : List AV} : gs1 a b (x :: xs) ρ = (a x ρ).bind (b xs) := rfl
@[simp] theorem gT_ev {n : Nat} {b : List AV → Slots → Option Slots} {xs : List AV} : gT n b (.tup xs) ρ = if xs.length = n then b xs ρ else none := rfl
@[simp] theorem lCatFF_ev : lCatFF m m2 ρ S = (m ρ S).bind fun xs S1 => (m2 ρ S1).bind fun ys S2 => if xs.length + ys.length ≤ 100000 then .ok (xs ++ ys) S2 else .no := rfl
@[simp] theorem lCatCF_ev : lCatCF f m ρ S = (mRef f ρ S).bind fun n S1 => (m ρ S1).bind fun ys S2 => (mCell n S2).bind fun xs S3 => if xs.length + ys.length ≤ 100000 then .ok (xs ++ ys) S3 else .no := rfl
@[simp] theorem lCatFC_ev : lCatFC m f ρ S = (m ρ S).bind fun xs S1 => (mRef f ρ S1).bind fun n S2 => (mCell n S2).bind fun ys S3 => if xs.length + ys.length ≤ 100000 then .ok (xs ++ ys) S3 else .no := rfl
/-! operators -/
@[simp] theorem aAdd_int {i j : Int} : aAdd (.int i) (.int j) = some (.int (i + j)) := rfl
@[simp] theorem aAdd_tup {xs ys : List AV} : aAdd (.tup xs) (.tup ys) = if xs.length + ys.length ≤ 100000 then some (.tup (xs ++ ys)) else none := rfl
@[simp] theorem aSub_int {i j : Int} : aSub (.int i) (.int j) = some (.int (i - j)) := rfl
@[simp] theorem aMul_int {i j : Int} : aMul (.int i) (.int j) = if cMul i j then some (.int (i * j)) else none := rfl
@[simp] theorem aDiv_int {i j : Int} : aDiv (.int i) (.int j) = if cDiv i j then some (.int (i / j)) else none := rfl
@[simp] theorem aMod_int {i j : Int} : aMod (.int i) (.int j) = if cMod i j then some (.int (i % j)) else none := rfl
@[simp] theorem aPow_int {i j : Int} : aPow (.int i) (.int j) = if cPow i j then some (.int (i ^ j.toNat)) else none := rfl
@[simp] theorem aShl_int {i j : Int} : aShl (.int i) (.int j) = if cPow i j then some (.int (i * 2 ^ j.toNat)) else none := rfl
@[simp] theorem aLt_int {i j : Int} : aLt (.int i) (.int j) = some (.bl (decide (i < j))) := rfl
@[simp] theorem aLe_int {i j : Int} : aLe (.int i) (.int j) = some (.bl (decide (i ≤ j))) := rfl
@[simp] theorem aGt_int {i j : Int} : aGt (.int i) (.int j) = some (.bl (decide (j < i))) := rfl
@[simp] theorem aGe_int {i j : Int} : aGe (.int i) (.int j) = some (.bl (decide (j ≤ i))) := rfl
@[simp] theorem aNeg_int {i : Int} : aNeg (.int i) = some (.int (-i)) := rfl
@[simp] theorem aIs_ev {x : AV} : aIs x .non = some (.bl x.isNon) := rfl
@[simp] theorem aNs_ev {x : AV} : aNs x .non = some (.bl (!x.isNon)) := rfl
@[simp] theorem isNon_non : AV.non.isNon = true := rfl
@[simp] theorem isNon_int {i : Int} : (AV.int i).isNon = false := rfl
@[simp] theorem isNon_bl {i : Bool} : (AV.bl i).isNon = false := rfl
@[simp] theorem isNon_str {i : Str} : (AV.str i).isNon = false := rfl
@[simp] theorem isNon_tup {i : List AV} : (AV.tup i).isNon = false := rfl
@[simp] theorem isNon_rol {i : List AV} : (AV.rol i).isNon = false := rfl
@[simp] theorem isNon_ref {i : Nat} : (AV.ref i).isNon = false := rfl
@[simp] theorem aEq_ev {x y : AV} : aEq x y = (aEqB x y).map .bl := rfl
@[simp] theorem aNe_ev {x y : AV} : aNe x y = (aEqB x y).map fun b => .bl (!b) := rfl
@[simp] theorem aEqB_int {i j : Int} : aEqB (.int i) (.int j) = some (decide (i = j)) := rfl
@[simp] theorem aEqB_str {i j : Str} : aEqB (.str i) (.str j) = some (decide (i = j)) := rfl
/-! built-ins -/
@[simp] theorem bLen_ev {x : AV} : bLen [x] S = R.of ((lenA S x).map fun (n : Nat) => AV.int (n : Int)) S := rfl
@[simp] theorem lenA_tup {xs : List AV} : lenA S (.tup xs) = some xs.length := rfl
@[simp] theorem lenA_rol {xs : List AV} : lenA S (.rol xs) = some xs.length := rfl
@[simp] theorem lenA_ref {n : Nat} : lenA S (.ref n) = (Mi.cellOf S n).map List.length := rfl
@[simp] theorem bLenL_ev {xs : List AV} : bLenL xs S = .ok (.int (xs.length : Int)) S := rfl
@[simp] theorem bInt_int {i : Int} : bInt [.int i] S = .ok (.int i) S := rfl
@[simp] theorem bInt_bl {i : Bool} : bInt [.bl i] S = .ok (.int (if i then 1 else 0)) S := rfl
@[simp] theorem bAbs_ev {i : Int} : bAbs [.int i] S = .ok (.int (if i < 0 then -i else i)) S := rfl
@[simp] theorem bTup_ev {x : AV} : bTup [x] S = R.of ((seqA S x).map .tup) S := rfl
@[simp] theorem seqA_tup {xs : List AV} : seqA S (.tup xs) = some xs := rfl
@[simp] theorem seqA_rol {xs : List AV} : seqA S (.rol xs) = some xs := rfl
@[simp] theorem seqA_ref {n : Nat} : seqA S (.ref n) = Mi.cellOf S n := rfl
@[simp] theorem bTupL_ev {xs : List AV} : bTupL xs S = .ok (.tup xs) S := rfl
@[simp] theorem bList_ev {x : AV} : bList [x] S = R.of (seqA S x) S := rfl
@[simp] theorem bAllL_ev {xs : List AV} : bAllL xs S = R.of ((blsOf xs).map fun bs => .bl (bs.all id)) S := rfl
@[simp] theorem bRepr_ev {x : AV} : bRepr [x] S = R.of (reprA x) S := rfl
theorem kit_i {a b : String} {r : Bool} (x : AV) (h : x.ty = a) (h2 : kitB a b = some r) : aIsi b x = some (.bl r) := by
  unfold aIsi
  rw [h, h2]
  rfl
/-! places -/
theorem atI_lit {xs : List α} (n : Nat) : atI xs (n : Int) = xs[n]? := by
  unfold atI ixN
  rw [if_pos (Int.natCast_nonneg n)]
  by_cases h : (n : Int) < xs.length
  · rw [if_pos h]
    rfl
  · rw [if_neg h]
    exact (List.getElem?_eq_none (by omega)).symm
@[simp] theorem atI_0 {xs : List α} : atI xs 0 = xs[0]? := atI_lit 0
@[simp] theorem atI_1 {xs : List α} : atI xs 1 = xs[1]? := atI_lit 1
@[simp] theorem atI_2 {xs : List α} : atI xs 2 = xs[2]? := atI_lit 2
@[simp] theorem atI_3 {xs : List α} : atI xs 3 = xs[3]? := atI_lit 3
@[simp] theorem atI_4 {xs : List α} : atI xs 4 = xs[4]? := atI_lit 4
@[simp] theorem atI_5 {xs : List α} : atI xs 5 = xs[5]? := atI_lit 5
@[simp] theorem atI_6 {xs : List α} : atI xs 6 = xs[6]? := atI_lit 6
@[simp] theorem atI_7 {xs : List α} : atI xs 7 = xs[7]? := atI_lit 7
@[simp] theorem atI_8 {xs : List α} : atI xs 8 = xs[8]? := atI_lit 8
theorem ixN_lit {n k : Nat} (h : k < n) : ixN n (k : Int) = some k := by
  unfold ixN
  rw [if_pos (Int.natCast_nonneg k), if_pos (by omega)]
  rfl
/-- a def by its body -/
@[simp] theorem endM_rt {a : AV} : endM (.rt a S) = .ok a S := rfl
@[simp] theorem endM_nx : endM (.nx ρ S) = .ok .non S := rfl
@[simp] theorem endM_ex {e : Exn} : endM (.ex e ρ S) = .ex e S := rfl
theorem callM_ev {N np : Nat} {b : MS} {as : List AV} (h : as.length = np) : callM N np b as S = endM (b (as.map some ++ List.replicate (N - np) none) S) := by
  unfold callM
  rw [if_pos h]
end
end Mi
/-! Mi11: loops and comprehensions reckoned out. -/
namespace Mi
open PySem PySem.Spec PyProof.Rows L2

def SR.turn (r : SR) (k : Slots → Sto → SR) : SR := match r with
  | .nx ρ S => k ρ S
  | .ct ρ S => k ρ S
  | .bk ρ S => .nx ρ S
  | .rt v S => .rt v S
  | .ex e ρ S => .ex e ρ S
  | .no => .no
section
variable {ρ : Slots} {S : Sto} {k : Slots → Sto → SR} {src : Option Nat} {all vs : List AV} {v : AV} {bd : AV → Slots → Option Slots} {body : MS} {t : Tg} {c : MB} {f : ME} {it : Slots → Sto → R Src} {own : List Nat}
@[simp] theorem SR.turn_nx : (SR.nx ρ S).turn k = k ρ S := rfl
@[simp] theorem SR.turn_ct : (SR.ct ρ S).turn k = k ρ S := rfl
@[simp] theorem SR.turn_bk : (SR.bk ρ S).turn k = .nx ρ S := rfl
@[simp] theorem SR.turn_rt {a : AV} : (SR.rt a S).turn k = .rt a S := rfl
@[simp] theorem SR.turn_ex {e : Exn} : (SR.ex e ρ S).turn k = .ex e ρ S := rfl
@[simp] theorem SR.turn_no : (SR.no).turn k = .no := rfl
@[simp] theorem still0 : Still none all S := trivial
theorem still_some {n : Nat} (h : S[n]? = some (.lst all)) : Still (some n) all S := h
theorem turns_nil (h : Still src all S) : turns src all bd body [] ρ S = .nx ρ S := by
  unfold turns
  rw [if_pos h]
theorem turns_cons (h : Still src all S) {ρ1 : Slots} (hb : bd v ρ = some ρ1) : turns src all bd body (v :: vs) ρ S = (body ρ1 S).turn (turns src all bd body vs) := by
  rw [turns]
  simp only [if_pos h, hb]
  cases body ρ1 S <;> rfl
@[simp] theorem turns_nil0 : turns none all bd body [] ρ S = .nx ρ S := turns_nil trivial
@[simp] theorem sFor_ev : sFor it bd body ρ S = (it ρ S).thn ρ fun s S1 => turns s.2 s.1 bd body s.1 ρ S1 := rfl
@[simp] theorem iVal_ev : iVal f ρ S = (f ρ S).bind fun a S1 => R.of (srcOf S1 a) S1 := rfl
@[simp] theorem iNew_ev {m : MA} : iNew m ρ S = (m ρ S).bind fun xs S1 => .ok (xs, none) S1 := rfl
@[simp] theorem iRg1_ev : iRg1 f ρ S = (mInt f ρ S).bind fun n S1 => R.of (rngOf 0 n) S1 := rfl
@[simp] theorem iRg2_ev {g : ME} : iRg2 f g ρ S = (mInt f ρ S).bind fun a S1 => (mInt g ρ S1).bind fun b S2 => R.of (rngOf a b) S2 := rfl
@[simp] theorem srcOf_tup {xs : List AV} : srcOf S (.tup xs) = some (xs, none) := rfl
@[simp] theorem srcOf_rol {xs : List AV} : srcOf S (.rol xs) = some (xs, none) := rfl
@[simp] theorem srcOf_ref {n : Nat} : srcOf S (.ref n) = (Mi.cellOf S n).map fun xs => (xs, some n) := rfl
theorem rngOf_nat {n : Nat} (h : n ≤ 100000) : rngOf 0 (n : Int) = some ((List.range n).map fun (k : Nat) => AV.int (k : Int), none) := by
  unfold rngOf
  rw [if_pos (by omega)]
  simp
/-- a loop that carries a state to its end: st is the state behind so many turns -/
theorem turns_run {β : Type} (mk : β → Slots) (ms : β → Sto) (step : β → AV → β) (vs : List AV) (b : β) (hs : ∀ b, Still src all (ms b))
    (h : ∀ b v, v ∈ vs → ∃ ρ1, bd v (mk b) = some ρ1 ∧ (body ρ1 (ms b) = .nx (mk (step b v)) (ms (step b v)) ∨ body ρ1 (ms b) = .ct (mk (step b v)) (ms (step b v)))) :
    turns src all bd body vs (mk b) (ms b) = .nx (mk (vs.foldl step b)) (ms (vs.foldl step b)) := by
  induction vs generalizing b with
  | nil => exact turns_nil (hs b)
  | cons v vs ih =>
    obtain ⟨ρ1, h1, h2⟩ := h b v (List.mem_cons_self ..)
    rw [turns_cons (hs b) h1]
    have q := ih (step b v) (fun b w hw => h b w (List.mem_cons_of_mem _ hw))
    rcases h2 with h2 | h2 <;> rw [h2] <;> exact q
/-- a loop by what holds between its turns -/
theorem turns_inv (I : List AV → Slots → Sto → Prop) (hst : ∀ vs ρ S, I vs ρ S → Still src all S) (vs : List AV) (hI : I vs ρ S)
    (h : ∀ v vs ρ S, I (v :: vs) ρ S → ∃ ρ1, bd v ρ = some ρ1 ∧ ∃ ρ' S', body ρ1 S = .nx ρ' S' ∧ I vs ρ' S') : ∃ ρ' S', turns src all bd body vs ρ S = .nx ρ' S' ∧ I [] ρ' S' := by
  induction vs generalizing ρ S with
  | nil => exact ⟨ρ, S, turns_nil (hst _ _ _ hI), hI⟩
  | cons v vs ih =>
    obtain ⟨ρ1, h1, ρ', S', h2, h3⟩ := h v vs ρ S hI
    rw [turns_cons (hst _ _ _ hI) h1, h2]
    exact ih h3
/-- a loop that looks at its items alone and stores nothing -/
theorem turns_look (i : Nat) (hi : i < ρ.length) (vs : List AV) (h : ∀ v ∈ vs, ∀ w : Option AV, body ((ρ.set i w).set i (some v)) S = .nx (ρ.set i (some v)) S) : ∃ w, turns none all (gN i) body vs ρ S = .nx (ρ.set i w) S := by
  have key : ∀ (vs : List AV) (w : Option AV), (∀ v ∈ vs, ∀ w : Option AV, body ((ρ.set i w).set i (some v)) S = .nx (ρ.set i (some v)) S) → ∃ w', turns none all (gN i) body vs (ρ.set i w) S = .nx (ρ.set i w') S := by
    intro vs
    induction vs with
    | nil => exact fun w _ => ⟨w, turns_nil0⟩
    | cons v vs ih =>
      intro w h
      rw [turns_cons (src := none) (all := all) (ρ1 := (ρ.set i w).set i (some v)) still0 rfl, h v (List.mem_cons_self ..) w]
      exact ih _ fun u hu => h u (List.mem_cons_of_mem _ hu)
  obtain ⟨w', e⟩ := key vs ρ[i] h
  exact ⟨w', by simpa using e⟩
/-! ### comprehensions -/
theorem compT_nil (h : Still src all S) : compT src all t c f [] ρ S = .ok [] S := by
  rw [compT]
  exact if_pos h
theorem compT_cons (h : Still src all S) {ρ1 : Slots} (hb : bdOf t v ρ = some ρ1) : compT src all t c f (v :: vs) ρ S = (R.nox (c ρ1 S)).bind fun k S1 => if k then (R.nox (f ρ1 S1)).bind fun y S2 => (compT src all t c f vs ρ S2).bind fun ys S3 => .ok (y :: ys) S3 else compT src all t c f vs ρ S1 := by
  rw [compT]
  simp only [if_pos h, hb]
@[simp] theorem lComp_ev : lComp own it t c f ρ S = (it ρ S).bind fun s S1 => if s.1.length ≤ 100000 then compT s.2 s.1 t c f s.1 (wipeA ρ own) S1 else .no := rfl
/-- every item gives one, nothing else changes -/
theorem compT_map (F : AV → AV) (hst : Still src all S) (vs : List AV) (h : ∀ v ∈ vs, ∃ ρ1, bdOf t v ρ = some ρ1 ∧ f ρ1 S = .ok (F v) S) : compT src all t bYes f vs ρ S = .ok (vs.map F) S := by
  induction vs with
  | nil => exact compT_nil hst
  | cons v vs ih =>
    obtain ⟨ρ1, h1, h2⟩ := h v (List.mem_cons_self ..)
    rw [compT_cons hst h1, bYes_ev, R.nox_k, R.bind_k, if_pos rfl, h2, R.nox_k, R.bind_k, ih fun w hw => h w (List.mem_cons_of_mem _ hw)]
    rfl
/-- the same with a test -/
theorem compT_filter (P : AV → Bool) (F : AV → AV) (hst : Still src all S) (vs : List AV) (h : ∀ v ∈ vs, ∃ ρ1, bdOf t v ρ = some ρ1 ∧ c ρ1 S = .ok (P v) S ∧ (P v = true → f ρ1 S = .ok (F v) S)) : compT src all t c f vs ρ S = .ok ((vs.filter P).map F) S := by
  induction vs with
  | nil => exact compT_nil hst
  | cons v vs ih =>
    obtain ⟨ρ1, h1, h2, h3⟩ := h v (List.mem_cons_self ..)
    have q := ih fun w hw => h w (List.mem_cons_of_mem _ hw)
    rw [compT_cons hst h1, h2, R.nox_k, R.bind_k]
    cases hp : P v with
    | true =>
      rw [if_pos rfl, h3 hp, R.nox_k, R.bind_k, q, List.filter_cons_of_pos hp]
      rfl
    | false =>
      rw [if_neg (by decide), q, List.filter_cons_of_neg (by simp [hp])]
/-- a comprehension whose element changes the store, by what holds between its turns -/
theorem compT_inv (I : List AV → List AV → Sto → Prop) (hst : ∀ vs ys S, I vs ys S → Still src all S) (vs ys : List AV) (hI : I vs ys S)
    (h : ∀ v vs ys S, I (v :: vs) ys S → ∃ ρ1, bdOf t v ρ = some ρ1 ∧ ∃ y S', f ρ1 S = .ok y S' ∧ I vs (ys ++ [y]) S') : ∃ zs S', compT src all t bYes f vs ρ S = .ok zs S' ∧ I [] (ys ++ zs) S' := by
  induction vs generalizing ys S with
  | nil => exact ⟨[], S, compT_nil (hst _ _ _ hI), by simpa using hI⟩
  | cons v vs ih =>
    obtain ⟨ρ1, h1, y, S', h2, h3⟩ := h v vs ys S hI
    obtain ⟨zs, S2, h4, h5⟩ := ih (ys ++ [y]) h3
    refine ⟨y :: zs, S2, ?_, by simpa using h5⟩
    rw [compT_cons (hst _ _ _ hI) h1, bYes_ev, R.nox_k, R.bind_k, if_pos rfl, h2, R.nox_k, R.bind_k, h4]
    rfl
end
end Mi
namespace Pg
open PySem PySem.Spec PyProof.Rows L2 Mi
abbrev D (ns : List AV) (a b c : Int) (rest : Sto) : Sto := .lst ns :: .lst [.ref 0, .int a, .int b, .int c] :: rest
structure Good (a b c : Int) : Prop where
  a0 : 0 ≤ a
  b0 : 0 ≤ b
  c0 : 0 ≤ c
theorem atI_ints {ns : List Int} {a : Int} (h0 : 0 ≤ a) (h : a < ns.length) : ∃ x, atI (ns.map AV.int) a = some (.int x) := by
  obtain ⟨n, rfl⟩ := Int.eq_ofNat_of_zero_le h0
  rw [atI_lit]
  have hn : n < ns.length := by omega
  exact ⟨ns[n], by simp [hn]⟩
theorem big_pos : (0 : Int) < 2 ^ 6000 := Int.pow_pos (by decide)
def Drawn (many : Int) (ns : List AV) (rest : Sto) (t : R AV) : Prop := ∃ r a' b' c', 0 ≤ r ∧ r < many ∧ Good a' b' c' ∧ t = .ok (.int r) (D ns a' b' c' rest)
theorem Drawn.mk {many x a b c : Int} {ns : List AV} {rest : Sto} (h0 : 0 < many) (g : Good a b c) : Drawn many ns rest (.ok (.int (x % many)) (D ns a b c rest)) :=
  ⟨x % many, a, b, c, Int.emod_nonneg _ (by omega), Int.emod_lt_of_pos _ h0, g, rfl⟩
theorem draw_ok (ns : List Int) (a b c many : Int) (rest : Sto) (h : Good a b c) (h0 : 0 < many) (h1 : many < 1000000) : Drawn many (ns.map .int) rest (m__law_draw [.ref 1, .int many] (D (ns.map .int) a b c rest)) := by
  have hd : ∀ x, cDiv x many := fun _ => ⟨h0, by omega⟩
  have hm : ∀ x, cMod x many := fun _ => h0
  by_cases hb : 0 < b
  · have e : m__law_draw [.ref 1, .int many] (D (ns.map .int) a b c rest) = .ok (.int (b % many)) (D (ns.map .int) a (b / many) c rest) := by
      simp [m__law_draw, callM, g__law_draw, D, hb, hd, hm, ixN]
    rw [e]
    exact .mk h0 ⟨h.a0, Int.ediv_nonneg h.b0 (by omega), h.c0⟩
  · -- the rest of the draw, from the size of the number that is met
    have m2 : ∀ x, cMul 2 x := fun _ => .inl (by decide)
    have p18 : cPow 10 18 := by decide
    have p60 : cPow 1 6000 := by decide
    have q2 : ∀ x, cDiv x 2 := fun _ => by unfold cDiv; decide
    have q16 : ∀ x, cDiv x 16 := fun _ => by unfold cDiv; decide
    have r60 : ∀ x, cMod x (2 ^ 6000) := fun _ => big_pos
    have r1 : ∀ x, cMod x 2147483647 := fun _ => by unfold cMod; decide
    have r2 : ∀ x, cMod x 2147483629 := fun _ => by unfold cMod; decide
    have k1 : ∀ x, cMul x 48271 := fun _ => .inr (by decide)
    have k2 : ∀ x, cMul x 16807 := fun _ => .inr (by decide)
    have k3 : ∀ x, cMul x 69621 := fun _ => .inr (by decide)
    have fin : ∀ size : Int, 0 ≤ size % (2 ^ 6000) := fun size => Int.emod_nonneg _ (by have := big_pos; omega)
    have cnn : ∀ x : Int, 0 ≤ x % 2147483647 := fun x => Int.emod_nonneg _ (by omega)
    have ha1 : (0 : Int) ≤ a + 1 := by have := h.a0; omega
    have many0 : 0 ≤ many := by omega
    generalize hP : Drawn many (ns.map .int) rest = P
    have mk : ∀ x a b c, Good a b c → P (.ok (.int (x % many)) (D (ns.map .int) a b c rest)) := fun x a b c g => hP ▸ Drawn.mk h0 g
    unfold m__law_draw callM g__law_draw
    by_cases ha : a < ns.length
    · obtain ⟨x, hx⟩ := atI_ints h.a0 ha
      by_cases hx0 : x < 0
      · by_cases hz : 2000000000000000000 ≤ 2 * -x + 1
        · simp [D, hb, ha, hx, hx0, hz, hd, hm, ixN, m2, p18, p60, q2, r60]
          exact mk _ _ _ _ ⟨ha1, Int.ediv_nonneg (fin _) many0, h.c0⟩
        · simp [D, hb, ha, hx, hx0, hz, hd, hm, ixN, m2, p18, p60, q2, r1, r2, k1, k2, k3, q16]
          exact mk _ _ _ _ ⟨ha1, h.b0, cnn _⟩
      · by_cases hz : 2000000000000000000 ≤ 2 * x
        · simp [D, hb, ha, hx, hx0, hz, hd, hm, ixN, m2, p18, p60, q2, r60]
          exact mk _ _ _ _ ⟨ha1, Int.ediv_nonneg (fin _) many0, h.c0⟩
        · simp [D, hb, ha, hx, hx0, hz, hd, hm, ixN, m2, p18, p60, q2, r1, r2, k1, k2, k3, q16]
          exact mk _ _ _ _ ⟨ha1, h.b0, cnn _⟩
    · simp [D, hb, ha, hd, hm, ixN, m2, p18, p60, q2, r1, r2, k1, k2, k3, q16]
      exact mk _ _ _ _ ⟨ha1, h.b0, cnn _⟩

theorem D_get (ns : List AV) (a b c : Int) (rest : Sto) (j : Nat) : (D ns a b c rest)[j + 2]? = rest[j]? := rfl
theorem pick_ok (ns : List Int) (a b c : Int) (rest : Sto) (h : Good a b c) (j : Nat) (xs : List AV) (hj : rest[j]? = some (.lst xs)) (h0 : xs ≠ []) (h1 : xs.length < 1000000) :
    ∃ x a' b' c', x ∈ xs ∧ Good a' b' c' ∧ m__law_pick [.ref 1, .ref (j + 2)] (D (ns.map .int) a b c rest) = .ok x (D (ns.map .int) a' b' c' rest) := by
  have hl : 0 < xs.length := List.length_pos_iff.mpr h0
  obtain ⟨r, a', b', c', r0, r1, g, e⟩ := draw_ok ns a b c (xs.length : Int) rest h (by omega) (by omega)
  obtain ⟨n, rfl⟩ := Int.eq_ofNat_of_zero_le r0
  have hn : n < xs.length := by omega
  refine ⟨xs[n], a', b', c', List.getElem_mem hn, g, ?_⟩
  have e' : m__law_draw [.ref 1, .int (xs.length : Int)] (.lst (ns.map .int) :: .lst [.ref 0, .int a, .int b, .int c] :: rest) = .ok (.int (n : Int)) (D (ns.map .int) a' b' c' rest) := e
  unfold m__law_pick g__law_pick D
  simp [callM, hj, e', atI_lit, hn]
/-- the store behind the first words of the law -/
theorem begin_ok (ns : List Int) (hl : ns.length ≤ 63) : m__law_begin [.rol (ns.map .int)] [] = .ok (.ref 1) (D (ns.map .int) 0 0 11 []) := by
  have e : compT none (ns.map AV.int) (.n 1) bYes (mCallB bInt (mCons (mVar 1) mNil)) (ns.map AV.int) (wipeA [some (AV.rol (ns.map AV.int)), none] [1]) [] = .ok (ns.map AV.int) [] := by
    have q := compT_map (src := none) (all := ns.map AV.int) (t := .n 1) (f := mCallB bInt (mCons (mVar 1) mNil)) (ρ := wipeA [some (AV.rol (ns.map AV.int)), none] [1]) (S := []) id still0 (ns.map AV.int) (fun v hv => by
      obtain ⟨i, _, rfl⟩ := List.mem_map.mp hv
      exact ⟨_, rfl, by simp [wipeA]⟩)
    simpa using q
  have hz : ns.length ≤ 100000 := by omega
  unfold m__law_begin g__law_begin
  simp [callM, hz, e, D]
end Pg
namespace Pg
open PySem PySem.Spec PyProof.Rows L2 Mi
/-! ### questions -/
def isI : AV → Bool
  | .int _ => true
  | _ => false
theorem kII : kitB "int" "int" = some true := by decide +kernel
theorem kBI : kitB "bool" "int" = some true := by decide +kernel
theorem kSI : kitB "str" "int" = some false := by decide +kernel
theorem kNI : kitB "NoneType" "int" = some false := by decide +kernel
theorem kTI : kitB "tuple" "int" = some false := by decide +kernel
theorem kLI : kitB "list" "int" = some false := by decide +kernel
theorem kIB : kitB "int" "bool" = some false := by decide +kernel
theorem kBB : kitB "bool" "bool" = some true := by decide +kernel
theorem kTT : kitB "tuple" "tuple" = some true := by decide +kernel
theorem kIT : kitB "int" "tuple" = some false := by decide +kernel
theorem kBT : kitB "bool" "tuple" = some false := by decide +kernel
theorem kST : kitB "str" "tuple" = some false := by decide +kernel
theorem kNT : kitB "NoneType" "tuple" = some false := by decide +kernel
theorem kLT : kitB "list" "tuple" = some false := by decide +kernel
theorem isi_int (x : AV) : aIsi "int" x = some (.bl (match x with | .int _ => true | .bl _ => true | _ => false)) := by
  cases x <;> exact kit_i _ rfl (by first | exact kII | exact kBI | exact kSI | exact kNI | exact kTI | exact kLI)
theorem isi_tup (x : AV) : aIsi "tuple" x = some (.bl (match x with | .tup _ => true | _ => false)) := by
  cases x <;> exact kit_i _ rfl (by first | exact kTT | exact kIT | exact kBT | exact kST | exact kNT | exact kLT)
theorem isi_bool_int (i : Int) : aIsi "bool" (.int i) = some (.bl false) := kit_i _ rfl kIB
theorem isi_bool_bl (i : Bool) : aIsi "bool" (.bl i) = some (.bl true) := kit_i _ rfl kBB
theorem is_int_ok (x : AV) (S : Sto) : m_is_int [x] S = .ok (.bl (isI x)) S := by
  unfold m_is_int g_is_int
  cases x <;> simp [callM, isi_int, isi_bool_int, isi_bool_bl, isI]
theorem law_is_int_ok (x : AV) (S : Sto) : m__law_is_int [x] S = .ok (.bl (isI x)) S := by
  unfold m__law_is_int g__law_is_int
  cases x <;> simp [callM, isi_int, isi_bool_int, isi_bool_bl, isI]
theorem is_ints_ok (xs : List AV) (S : Sto) : m_is_ints [.tup xs] S = .ok (.bl (xs.all isI)) S := by
  have key : ∀ (all vs : List AV) (w : Option AV), ∃ w', turns none all (gN 1) (sIf (bNot (bVal (mCall 1 m_is_int (mCons (mVar 1) mNil)))) (sRet (mC (.bl false))) sNext) vs [some (.tup xs), w] S = if vs.all isI then .nx [some (.tup xs), w'] S else .rt (.bl false) S := by
    intro all vs
    induction vs with
    | nil => exact fun w => ⟨w, by simp⟩
    | cons v vs ih =>
      intro w
      obtain ⟨w', e⟩ := ih (some v)
      refine ⟨w', ?_⟩
      rw [turns_cons (ρ1 := [some (.tup xs), some v]) still0 (by simp)]
      cases hv : isI v <;> simp [is_int_ok, hv, e]
  obtain ⟨w', e⟩ := key xs xs none
  unfold m_is_ints g_is_ints
  cases ha : xs.all isI <;> rw [ha] at e <;> simp [callM, isi_tup, e]
theorem is_ints_no (x : AV) (hx : ∀ xs, x ≠ .tup xs) (S : Sto) : m_is_ints [x] S = .ok (.bl false) S := by
  unfold m_is_ints g_is_ints
  cases x <;> simp [callM, isi_tup]
  exact (hx _ rfl).elim
def okN : AV → Bool
  | .int i => decide (0 ≤ i) && decide (i ≤ 65536)
  | _ => false
theorem okN_isI {xs : List AV} (h : xs.all okN = true) : xs.all isI = true := by
  rw [List.all_eq_true] at h ⊢
  intro x hx
  have := h x hx
  cases x <;> simp [okN, isI] at this ⊢
theorem between_ok (xs : List AV) (S : Sto) : m_is_ints_between [.tup xs, .int 0, .int 65536] S = .ok (.bl (xs.all okN)) S := by
  by_cases hI : xs.all isI = true
  · have key : ∀ (all vs : List AV) (w : Option AV), vs.all isI = true → ∃ w', turns none all (gN 3) (sIf (bNot (bIs (mChain aLe aLe (mVar 1) (mVar 3) (mVar 2)))) (sRet (mC (.bl false))) sNext) vs [some (.tup xs), some (.int 0), some (.int 65536), w] S = if vs.all okN then .nx [some (.tup xs), some (.int 0), some (.int 65536), w'] S else .rt (.bl false) S := by
      intro all vs
      induction vs with
      | nil => exact fun w _ => ⟨w, by simp⟩
      | cons v vs ih =>
        intro w hv
        simp only [List.all_cons, Bool.and_eq_true] at hv
        obtain ⟨w', e⟩ := ih (some v) hv.2
        refine ⟨w', ?_⟩
        rw [turns_cons (ρ1 := [some (.tup xs), some (.int 0), some (.int 65536), some v]) still0 (by simp)]
        cases v with
        | int i =>
          by_cases h1 : 0 ≤ i <;> by_cases h2 : i ≤ 65536 <;> simp [okN, h1, h2, e]
        | _ => simp [isI] at hv
    obtain ⟨w', e⟩ := key xs xs none hI
    unfold m_is_ints_between g_is_ints_between
    cases ha : xs.all okN <;> rw [ha] at e <;> simp [callM, is_ints_ok, hI, e]
  · have h2 : xs.all okN = false := by
      cases q : xs.all okN with
      | false => rfl
      | true => exact absurd (okN_isI q) hI
    have hI' : xs.all isI = false := by simpa using hI
    unfold m_is_ints_between g_is_ints_between
    simp only [h2]
    simp [callM, is_ints_ok, hI']
theorem between_no (x : AV) (hx : ∀ xs, x ≠ .tup xs) (S : Sto) : m_is_ints_between [x, .int 0, .int 65536] S = .ok (.bl false) S := by
  unfold m_is_ints_between g_is_ints_between
  simp [callM, is_ints_no x hx]
theorem opened_no (x : AV) (hx : ∀ xs, x ≠ .tup xs) (seats : Int) (S : Sto) : m_opened_parcel [x, .int seats] S = .ok .non S := by
  unfold m_opened_parcel g_opened_parcel
  simp [callM, between_no x hx]
theorem opened_bad (xs : List AV) (h : xs.all okN = false) (seats : Int) (S : Sto) : m_opened_parcel [.tup xs, .int seats] S = .ok .non S := by
  unfold m_opened_parcel g_opened_parcel
  simp [callM, between_ok, h]
/-! ### numbers of ticks -/
def oi : Option Int → AV
  | none => .non
  | some t => .int t
def num : Option Int → Int
  | none => 0
  | some t => t + 1
theorem tick_number_ok (o : Option Int) (S : Sto) : m_tick_number [oi o] S = .ok (.int (num o)) S := by
  unfold m_tick_number g_tick_number
  cases o <;> simp [callM, oi, num]
theorem tick_of_ok (o : Option Int) (h : ∀ t, o = some t → 0 ≤ t) (S : Sto) : m_tick_of [.int (num o)] S = .ok (oi o) S := by
  unfold m_tick_of g_tick_of
  cases o with
  | none => simp [callM, oi, num]
  | some t =>
    have := h t rfl
    have h2 : ¬ t + 1 = 0 := by omega
    simp [callM, oi, num, h2]
end Pg
namespace Pg
open PySem PySem.Spec PyProof.Rows L2 Mi
/-! ### facts, states, rows -/
def pr (p : Int × Int) : AV := .tup [.int p.1, .int p.2]
def flat : List (Int × Int) → List Int
  | [] => []
  | (t, o) :: r => t :: o :: flat r
theorem flat_len : ∀ ps : List (Int × Int), (flat ps).length = 2 * ps.length
  | [] => rfl
  | (t, o) :: r => by simp [flat, flat_len r]; omega
def factsA (tick force : Int) (en go : List (Option Int)) (ps : List (Int × Int)) : AV := .tup [.str "facts", .int tick, .int force, .tup (en.map oi), .tup (go.map oi), .tup (ps.map pr)]
def rowOf (tick force : Int) (en go : List (Option Int)) (ps : List (Int × Int)) (st : List Int) : List Int :=
  tick :: force :: (en.map num ++ (go.map num ++ ((ps.length : Int) :: (flat ps ++ st.map (· + 32768)))))
theorem comp_num {ρ : Slots} {S : Sto} {src : Option Nat} {all : List AV} (h : Still src all S) (i : Nat) (es : List (Option Int)) (f : ME) (hf : ∀ o : Option Int, f (ρ.set i (some (oi o))) S = .ok (.int (num o)) S) : compT src all (.n i) bYes f (es.map oi) ρ S = .ok ((es.map num).map .int) S := by
  have q := compT_map (src := src) (all := all) (t := .n i) (f := f) (ρ := ρ) (S := S) (fun v => match v with | .int t => .int (t + 1) | _ => .int 0) h (es.map oi) (fun v hv => by
    obtain ⟨o, _, rfl⟩ := List.mem_map.mp hv
    refine ⟨_, rfl, ?_⟩
    rw [hf]
    cases o <;> rfl)
  rw [q]
  congr 1
  rw [List.map_map, List.map_map]
  apply List.map_congr_left
  intro o _
  cases o <;> rfl
theorem comp_ints {ρ : Slots} {S : Sto} {src : Option Nat} {all : List AV} (h : Still src all S) (i : Nat) (es : List Int) (f : ME) (F : Int → Int) (hf : ∀ o : Int, f (ρ.set i (some (.int o))) S = .ok (.int (F o)) S) : compT src all (.n i) bYes f (es.map AV.int) ρ S = .ok ((es.map F).map .int) S := by
  have q := compT_map (src := src) (all := all) (t := .n i) (f := f) (ρ := ρ) (S := S) (fun v => match v with | .int t => .int (F t) | _ => .int 0) h (es.map AV.int) (fun v hv => by
    obtain ⟨o, _, rfl⟩ := List.mem_map.mp hv
    exact ⟨_, rfl, hf o⟩)
  rw [q]
  congr 1
  simp
theorem pairs_turn {all : List AV} (ρf : Option AV → Option AV → Slots) (body : MS) (bd : AV → Slots → Option Slots) (mk : List AV → Sto)
    (hb : ∀ a b (p : Int × Int), bd (pr p) (ρf a b) = some (ρf (some (.int p.1)) (some (.int p.2))))
    (h : ∀ acc t o, acc.length < 1000 → body (ρf (some (.int t)) (some (.int o))) (mk acc) = .nx (ρf (some (.int t)) (some (.int o))) (mk (acc ++ [.int t, .int o]))) :
    ∀ (ps : List (Int × Int)) (a b : Option AV) (acc : List AV), acc.length + 2 * ps.length < 1000 → ∃ a' b', turns none all bd body (ps.map pr) (ρf a b) (mk acc) = .nx (ρf a' b') (mk (acc ++ (flat ps).map .int))
  | [], a, b, acc, _ => ⟨a, b, by simp [flat]⟩
  | (t, o) :: ps, a, b, acc, hz => by
    simp only [List.length_cons] at hz
    obtain ⟨a', b', e⟩ := pairs_turn ρf body bd mk hb h ps (some (.int t)) (some (.int o)) (acc ++ [.int t, .int o]) (by simp; omega)
    refine ⟨a', b', ?_⟩
    rw [List.map_cons, turns_cons still0 (hb a b (t, o)), h acc t o (by omega), SR.turn_nx, e]
    simp [flat]
theorem parcel_ok (tick force : Int) (en go : List (Option Int)) (ps : List (Int × Int)) (st : List Int) (h1 : en.length ≤ 4) (h2 : go.length ≤ 4) (h3 : ps.length ≤ 40) (h4 : st.length ≤ 100) :
    ∃ S, m_parcel_of [factsA tick force en go ps, .tup (st.map .int)] [] = .ok (.tup ((rowOf tick force en go ps st).map .int)) S := by
  have c1 := fun (i : Nat) (ρ : Slots) (S : Sto) (es : List (Option Int)) (hi : i < ρ.length) (hi3 : i = 3) => comp_num (ρ := ρ) (S := S) (src := none) (all := es.map oi) still0 i es (mCall 1 m_tick_number (mCons (mVar 3) mNil)) (fun o => by
    subst hi3
    simp [hi, tick_number_ok])
  have c2 := fun (ρ : Slots) (S : Sto) (hi : 5 < ρ.length) => comp_ints (ρ := ρ) (S := S) (src := none) (all := st.map .int) still0 5 st (mOp aSub (mVar 5) (mC (.int (-32768)))) (· + 32768) (fun o => by simp [hi])
  have lp : ∀ (acc : List AV), acc.length < 100 → ∃ a' b', turns none (ps.map pr) (gT 2 (gs1 (gN 3) (gs1 (gN 4) gs0))) (sSeq (sApp (mVar 2) (mVar 3)) (sApp (mVar 2) (mVar 4))) (ps.map pr) [some (factsA tick force en go ps), some (.tup (st.map .int)), some (.ref 0), none, none, none] [.lst acc] = .nx [some (factsA tick force en go ps), some (.tup (st.map .int)), some (.ref 0), a', b', none] [.lst (acc ++ (flat ps).map .int)] := fun acc ha => by
    refine pairs_turn (fun a b => [some (factsA tick force en go ps), some (.tup (st.map .int)), some (.ref 0), a, b, none]) _ _ (fun acc => [.lst acc]) (fun a b p => by simp [pr]) (fun acc t o hz => ?_) ps none none acc (by omega)
    have z1 : acc.length < 100000 := by omega
    have z2 : acc.length + 1 < 100000 := by omega
    simp [z1, z2]
  obtain ⟨a', b', e⟩ := lp ((AV.int tick) :: (AV.int force) :: ((en.map num).map .int ++ ((go.map num).map .int ++ [.int (ps.length : Int)]))) (by simp; omega)
  have z1 : en.length ≤ 100000 := by omega
  have z2 : go.length ≤ 100000 := by omega
  have z3 : st.length ≤ 100000 := by omega
  have z4 : 2 + en.length ≤ 100000 := by omega
  have z5 : en.length + 1 + 1 + go.length ≤ 100000 := by omega
  have z6 : en.length + go.length + 1 + 1 < 100000 := by omega
  have z7 : en.length + (go.length + (1 + (flat ps).length)) + 1 + 1 + st.length ≤ 100000 := by rw [flat_len]; omega
  simp [factsA, -List.map_map] at e
  unfold m_parcel_of g_parcel_of
  simp [callM, factsA, wipeA, z1, z2, z3, z4, z5, z6, z7, c1, c2, -List.map_map]
  rw [e]
  simp [wipeA, z3, c2, -List.map_map]
  rw [if_pos (by have := flat_len ps; omega)]
  simp [rowOf]
/-- the same row, built by the law -/
theorem new_turn {all : List AV} (ρf : Option AV → Option AV → Nat → Slots) (body : MS) (bd : AV → Slots → Option Slots)
    (hb : ∀ a b k (p : Int × Int), bd (pr p) (ρf a b k) = some (ρf (some (.int p.1)) (some (.int p.2)) k))
    (h : ∀ S k acc t o, S[k]? = some (.lst acc) → acc.length < 1000 → body (ρf (some (.int t)) (some (.int o)) k) S = .nx (ρf (some (.int t)) (some (.int o)) S.length) (S ++ [.lst (acc ++ [.int t, .int o])])) :
    ∀ (ps : List (Int × Int)) (a b : Option AV) (k : Nat) (S : Sto) (acc : List AV), S[k]? = some (.lst acc) → acc.length + 2 * ps.length < 1000 → ∃ a' b' k' S', turns none all bd body (ps.map pr) (ρf a b k) S = .nx (ρf a' b' k') S' ∧ S'[k']? = some (.lst (acc ++ (flat ps).map .int))
  | [], a, b, k, S, acc, hk, _ => ⟨a, b, k, S, by simp [flat], by simpa [flat] using hk⟩
  | (t, o) :: ps, a, b, k, S, acc, hk, hz => by
    simp only [List.length_cons] at hz
    obtain ⟨a', b', k', S', e, e2⟩ := new_turn ρf body bd hb h ps (some (.int t)) (some (.int o)) S.length (S ++ [.lst (acc ++ [.int t, .int o])]) (acc ++ [.int t, .int o]) (by simp) (by simp; omega)
    refine ⟨a', b', k', S', ?_, by simpa [flat] using e2⟩
    rw [List.map_cons, turns_cons still0 (hb a b k (t, o)), h S k acc t o hk (by omega)]
    exact e
theorem row_ok (tick force : Int) (en go : List (Option Int)) (ps : List (Int × Int)) (st : List Int) (h1 : en.length ≤ 4) (h2 : go.length ≤ 4) (h3 : ps.length ≤ 40) (h4 : st.length ≤ 100) :
    ∃ S, m__law_row_of [factsA tick force en go ps, .tup (st.map .int)] [] = .ok (.tup ((rowOf tick force en go ps st).map .int)) S := by
  have c1 := fun (ρ : Slots) (S : Sto) (hi : 2 < ρ.length) => comp_num (ρ := ρ) (S := S) (src := none) (all := (en ++ go).map oi) still0 2 (en ++ go) (mIf (bIs (mOp aIs (mVar 2) (mC .non))) (mC (.int 0)) (mOp aAdd (mVar 2) (mC (.int 1)))) (fun o => by
    cases o <;> simp [hi, oi, num])
  have c2 := fun (ρ : Slots) (S : Sto) (hi : 6 < ρ.length) => comp_ints (ρ := ρ) (S := S) (src := none) (all := st.map .int) still0 6 st (mOp aAdd (mVar 6) (mC (.int 32768))) (· + 32768) (fun o => by simp [hi])
  have lp := new_turn (all := ps.map pr) (fun a b k => [some (factsA tick force en go ps), some (.tup (st.map .int)), a, some (.ref 0), some (.ref k), b, none]) (sSet 4 (mNew (lCatCF (mVar 4) (lLst (mCons (mVar 2) (mCons (mVar 5) mNil)))))) (gT 2 (gs1 (gN 2) (gs1 (gN 5) gs0))) (fun a b k p => by simp [pr]) (fun S k acc t o hk hz => by
    have z1 : acc.length ≤ 99998 := by omega
    simp [hk, z1]) ps
  simp only [List.map_append] at c1
  have z1 : en.length + go.length ≤ 100000 := by omega
  have z2 : 2 + (en.length + go.length) ≤ 100000 := by omega
  have z3 : en.length + go.length ≤ 99997 := by omega
  have z4 : st.length ≤ 100000 := by omega
  obtain ⟨a', b', k', S', e, e2⟩ := lp none none 1 [.lst ((en.map num).map .int ++ (go.map num).map .int), .lst (AV.int tick :: AV.int force :: ((en.map num).map .int ++ ((go.map num).map .int ++ [.int (ps.length : Int)])))] _ rfl (by simp; omega)
  simp [factsA, -List.map_map] at e
  unfold m__law_row_of g__law_row_of
  simp [callM, factsA, wipeA, z1, z2, z3, c1, -List.map_map]
  rw [e]
  simp [e2, wipeA, z4, c2, -List.map_map]
  rw [if_pos (by have := flat_len ps; omega)]
  simp [rowOf]
end Pg
namespace Pg
open PySem PySem.Spec PyProof.Rows L2 Mi
theorem cutA_mid {α : Type} (xs : List α) (a b : Nat) (h1 : a ≤ xs.length) (h2 : b ≤ xs.length) : cutA xs (some (a : Int)) (some (b : Int)) = (xs.drop a).take (b - a) := by
  have e1 : HT.sIx xs.length 0 (some (a : Int)) = a := by
    simp [HT.sIx]
    rw [if_neg (by omega)]
    omega
  have e2 : HT.sIx xs.length xs.length (some (b : Int)) = b := by
    simp [HT.sIx]
    rw [if_neg (by omega)]
    omega
  unfold cutA
  rw [e1, e2]
theorem cutA_from {α : Type} (xs : List α) (a : Nat) (h1 : a ≤ xs.length) : cutA xs (some (a : Int)) none = xs.drop a := by
  have e1 : HT.sIx xs.length 0 (some (a : Int)) = a := by
    simp [HT.sIx]
    rw [if_neg (by omega)]
    omega
  unfold cutA
  rw [e1]
  simp only [HT.sIx]
  rw [List.take_of_length_le (by simp)]
theorem cutA_to {α : Type} (xs : List α) (a : Nat) (h1 : a ≤ xs.length) : cutA xs none (some (a : Int)) = xs.take a := by
  have e1 : HT.sIx xs.length xs.length (some (a : Int)) = a := by
    simp [HT.sIx]
    rw [if_neg (by omega)]
    omega
  unfold cutA
  rw [e1]
  simp [HT.sIx]
theorem m2 (x : Int) : cMul 2 x := .inl (by decide)
theorem opened_short1 (xs : List AV) (n : Nat) (S : Sto) (h : xs.all okN = true) (hl : xs.length < 3 + 2 * n) : m_opened_parcel [.tup xs, .int (n : Int)] S = .ok .non S := by
  have h1 : (xs.length : Int) < 3 + 2 * (n : Int) := by omega
  unfold m_opened_parcel g_opened_parcel
  simp [callM, between_ok, h, m2, h1]
theorem opened_short2 (xs : List AV) (n many : Nat) (S : Sto) (h : xs.all okN = true) (hl : 3 + 2 * n ≤ xs.length) (hm : xs[2 + 2 * n]? = some (.int (many : Int))) (hs : xs.length < 3 + 2 * n + 2 * many + 2) : m_opened_parcel [.tup xs, .int (n : Int)] S = .ok .non S := by
  have h1 : ¬ (xs.length : Int) < 3 + 2 * (n : Int) := by omega
  have h2 : (xs.length : Int) < 3 + 2 * (n : Int) + 2 * (many : Int) + 2 := by omega
  have h3 : atI xs (3 + 2 * (n : Int) - 1) = some (.int (many : Int)) := by
    have e : 3 + 2 * (n : Int) - 1 = ((2 + 2 * n : Nat) : Int) := by omega
    rw [e, atI_lit, hm]
  unfold m_opened_parcel g_opened_parcel
  simp [callM, between_ok, h, m2, h1, h2, h3]
theorem comp_of {ρ : Slots} {S : Sto} {src : Option Nat} {all : List AV} (h : Still src all S) (i : Nat) (es : List (Option Int)) (f : ME) (hs : ∀ o ∈ es, ∀ t, o = some t → 0 ≤ t) (hf : ∀ o : Option Int, (∀ t, o = some t → 0 ≤ t) → f (ρ.set i (some (.int (num o)))) S = .ok (oi o) S) : compT src all (.n i) bYes f ((es.map num).map AV.int) ρ S = .ok (es.map oi) S := by
  have fe : ∀ o : Option Int, (∀ t, o = some t → 0 ≤ t) → (match (AV.int (num o)) with | .int z => if z = 0 then AV.non else .int (z - 1) | _ => AV.non) = oi o := by
    intro o ho
    cases o with
    | none => rfl
    | some t =>
      have := ho t rfl
      have h2 : ¬ t + 1 = 0 := by omega
      simp [num, oi, h2]
  have q := compT_map (src := src) (all := all) (t := .n i) (f := f) (ρ := ρ) (S := S) (fun v => match v with | .int z => if z = 0 then AV.non else .int (z - 1) | _ => AV.non) h ((es.map num).map AV.int) (fun v hv => by
    rw [List.map_map] at hv
    obtain ⟨o, ho, rfl⟩ := List.mem_map.mp hv
    refine ⟨_, rfl, ?_⟩
    rw [Function.comp_apply, hf o (hs o ho), fe o (hs o ho)])
  rw [q]
  congr 1
  rw [List.map_map, List.map_map]
  apply List.map_congr_left
  intro o ho
  exact fe o (hs o ho)
theorem comp_pairs {ρ : Slots} {S : Sto} {src : Option Nat} {all : List AV} (h : Still src all S) (i : Nat) (ps : List (Int × Int)) (f : ME) (hf : ∀ (k : Nat) (p : Int × Int), ps[k]? = some p → f (ρ.set i (some (.int (k : Int)))) S = .ok (pr p) S) : compT src all (.n i) bYes f ((List.range ps.length).map fun (k : Nat) => AV.int (k : Int)) ρ S = .ok (ps.map pr) S := by
  have q := compT_map (src := src) (all := all) (t := .n i) (f := f) (ρ := ρ) (S := S) (fun v => match v with | .int z => (ps[z.toNat]?.map pr).getD .non | _ => AV.non) h ((List.range ps.length).map fun (k : Nat) => AV.int (k : Int)) (fun v hv => by
    obtain ⟨k, hk, rfl⟩ := List.mem_map.mp hv
    have hk' : k < ps.length := List.mem_range.mp hk
    refine ⟨_, rfl, ?_⟩
    rw [hf k ps[k] (List.getElem?_eq_getElem hk')]
    simp [hk'])
  rw [q]
  congr 1
  apply List.ext_getElem
  · simp
  · intro k h1 h2
    have hk : k < ps.length := by simpa using h2
    simp [hk]
theorem flat_get : ∀ (ps : List (Int × Int)) (k : Nat) (p : Int × Int), ps[k]? = some p → (flat ps)[2 * k]? = some p.1 ∧ (flat ps)[2 * k + 1]? = some p.2
  | [], k, p, h => by simp at h
  | (t, o) :: ps, 0, p, h => by
    simp at h
    subst h
    simp [flat]
  | (t, o) :: ps, k + 1, p, h => by
    have q := flat_get ps k p (by simpa using h)
    have e : 2 * (k + 1) = 2 * k + 1 + 1 := by omega
    rw [e]
    simpa [flat] using q
theorem opened_full (xs : List AV) (n : Nat) (S : Sto) (en go : List (Option Int)) (ps : List (Int × Int)) (st : List Int) (tick force : Int) (h : xs.all okN = true) (hl : 3 + 2 * n + 2 * ps.length + 2 ≤ xs.length) (hz : xs.length ≤ 1000) (hm : xs[2 + 2 * n]? = some (.int (ps.length : Int)))
    (h0 : xs[0]? = some (.int tick)) (h1 : xs[1]? = some (.int force))
    (hA : (xs.drop 2).take n = (en.map num).map .int) (hB : (xs.drop (2 + n)).take n = (go.map num).map .int) (hP : ∀ (k : Nat) (p : Int × Int), ps[k]? = some p → xs[3 + 2 * n + 2 * k]? = some (.int p.1) ∧ xs[3 + 2 * n + 2 * k + 1]? = some (.int p.2))
    (hS : xs.drop (3 + 2 * n + 2 * ps.length) = (st.map (· + 32768)).map .int) (he : ∀ o ∈ en, ∀ t, o = some t → 0 ≤ t) (hg : ∀ o ∈ go, ∀ t, o = some t → 0 ≤ t) :
    m_opened_parcel [.tup xs, .int (n : Int)] S = .ok (.tup [factsA tick force en go ps, .tup (st.map .int)]) S := by
  have i1 : ¬ (xs.length : Int) < 3 + 2 * (n : Int) := by omega
  have i2 : ¬ (xs.length : Int) < 3 + 2 * (n : Int) + 2 * (ps.length : Int) + 2 := by omega
  have i3 : atI xs (3 + 2 * (n : Int) - 1) = some (.int (ps.length : Int)) := by
    have e : 3 + 2 * (n : Int) - 1 = ((2 + 2 * n : Nat) : Int) := by omega
    rw [e, atI_lit, hm]
  have kA : cutA xs (some 2) (some (2 + (n : Int))) = (en.map num).map .int := by
    have e : 2 + (n : Int) = ((2 + n : Nat) : Int) := by omega
    have e2 : 2 + n - 2 = n := by omega
    rw [e]
    refine (cutA_mid xs 2 (2 + n) (by omega) (by omega)).trans ?_
    rw [e2, hA]
  have kB : cutA xs (some (2 + (n : Int))) (some (2 + 2 * (n : Int))) = (go.map num).map .int := by
    have e : 2 + (n : Int) = ((2 + n : Nat) : Int) := by omega
    have e' : 2 + 2 * (n : Int) = ((2 + 2 * n : Nat) : Int) := by omega
    have e2 : 2 + 2 * n - (2 + n) = n := by omega
    rw [e, e', cutA_mid xs (2 + n) (2 + 2 * n) (by omega) (by omega), e2, hB]
  have kS : cutA xs (some (3 + 2 * (n : Int) + 2 * (ps.length : Int))) none = (st.map (· + 32768)).map .int := by
    have e : 3 + 2 * (n : Int) + 2 * (ps.length : Int) = ((3 + 2 * n + 2 * ps.length : Nat) : Int) := by omega
    rw [e, cutA_from xs _ (by omega), hS]
  have c1 := fun (ρ : Slots) (S : Sto) (all : List AV) (es : List (Option Int)) (hs : ∀ o ∈ es, ∀ t, o = some t → 0 ≤ t) (hi : 9 < ρ.length) => comp_of (ρ := ρ) (S := S) (src := none) (all := all) still0 9 es (mCall 1 m_tick_of (mCons (mVar 9) mNil)) hs (fun o ho => by
    simp [hi, tick_of_ok o ho])
  have c3 := fun (ρ : Slots) (S : Sto) (all : List AV) (hi : 9 < ρ.length) => comp_ints (ρ := ρ) (S := S) (src := none) (all := all) still0 9 (st.map (· + 32768)) (mOp aAdd (mVar 9) (mC (.int (-32768)))) (fun z => z + -32768) (fun o => by simp [hi])
  have c2 := fun (all : List AV) (ρ : Slots) (S : Sto) (hi : 10 < ρ.length) (q0 : ρ[0]? = some (some (.tup xs))) (q2 : ρ[2]? = some (some (.int (3 + 2 * (n : Int))))) => comp_pairs (ρ := ρ) (S := S) (src := none) (all := all) still0 10 ps (mTup (mCons (mIx (mVar 0) (mOp aAdd (mVar 2) (mOp aMul (mC (.int 2)) (mVar 10)))) (mCons (mIx (mVar 0) (mOp aAdd (mOp aAdd (mVar 2) (mOp aMul (mC (.int 2)) (mVar 10))) (mC (.int 1)))) mNil))) (fun k p hp => by
    obtain ⟨u1, u2⟩ := hP k p hp
    have v1 : atI xs (3 + 2 * (n : Int) + 2 * (k : Int)) = some (.int p.1) := by
      have e : 3 + 2 * (n : Int) + 2 * (k : Int) = ((3 + 2 * n + 2 * k : Nat) : Int) := by omega
      rw [e, atI_lit, u1]
    have v2 : atI xs (3 + 2 * (n : Int) + 2 * (k : Int) + 1) = some (.int p.2) := by
      have e : 3 + 2 * (n : Int) + 2 * (k : Int) + 1 = ((3 + 2 * n + 2 * k + 1 : Nat) : Int) := by omega
      rw [e, atI_lit, u2]
    simp [hi, q0, q2, m2, v1, v2, pr])
  have rg : rngOf 0 (ps.length : Int) = some ((List.range ps.length).map fun (k : Nat) => AV.int (k : Int), none) := rngOf_nat (by omega)
  have z1 : en.length ≤ 100000 := by
    have := congrArg List.length hA
    simp at this
    omega
  have z2 : go.length ≤ 100000 := by
    have := congrArg List.length hB
    simp at this
    omega
  have z3 : st.length ≤ 100000 := by
    have := congrArg List.length hS
    simp at this
    omega
  have z4 : ps.length ≤ 100000 := by omega
  unfold m_opened_parcel g_opened_parcel
  have c1e := fun ρ S all hi => c1 ρ S all en he hi
  have c1g := fun ρ S all hi => c1 ρ S all go hg hi
  simp [callM, between_ok, h, m2, i1, i2, i3, kA, kB, kS, wipeA, c1e, c1g, c2, c3, h0, h1, rg, z1, z2, z3, z4, factsA, -List.map_map]
  simp [List.map_map, Function.comp_def]
  intro a _
  omega
/-! ### the rows of fine facts -/
def pre (tick force : Int) (en go : List (Option Int)) (ps : List (Int × Int)) : List Int := tick :: force :: (en.map num ++ (go.map num ++ ((ps.length : Int) :: flat ps)))
theorem rowOf_pre (tick force : Int) (en go : List (Option Int)) (ps : List (Int × Int)) (st : List Int) : rowOf tick force en go ps st = pre tick force en go ps ++ st.map (· + 32768) := by simp [rowOf, pre]
structure Fine (n : Nat) (tick force : Int) (en go : List (Option Int)) (ps : List (Int × Int)) (st : List Int) : Prop where
  n1 : 1 ≤ n
  n4 : n ≤ 4
  le : en.length = n
  lg : go.length = n
  lp : ps.length ≤ 40
  s2 : 2 ≤ st.length
  s100 : st.length ≤ 100
  t : 0 ≤ tick ∧ tick ≤ 1000
  f : 0 ≤ force ∧ force ≤ 1000
  he : ∀ o ∈ en, ∀ t, o = some t → 0 ≤ t ∧ t ≤ 1000
  hg : ∀ o ∈ go, ∀ t, o = some t → 0 ≤ t ∧ t ≤ 1000
  hp : ∀ p ∈ ps, (0 ≤ p.1 ∧ p.1 ≤ 1000) ∧ (0 ≤ p.2 ∧ p.2 ≤ 1000)
  hs : ∀ z ∈ st, -32768 ≤ z ∧ z ≤ 32767
variable {n : Nat} {tick force : Int} {en go : List (Option Int)} {ps : List (Int × Int)} {st : List Int}
theorem pre_len (F : Fine n tick force en go ps st) : (pre tick force en go ps).length = 3 + 2 * n + 2 * ps.length := by
  simp [pre, flat_len, F.le, F.lg]
  omega
theorem row_len (F : Fine n tick force en go ps st) : (rowOf tick force en go ps st).length = 3 + 2 * n + 2 * ps.length + st.length := by
  rw [rowOf_pre, List.length_append, pre_len F, List.length_map]
theorem flat_all : ∀ (ps : List (Int × Int)) (P : Int → Prop), (∀ p ∈ ps, P p.1 ∧ P p.2) → ∀ z ∈ flat ps, P z
  | [], P, h, z, hz => by cases hz
  | (t, o) :: ps, P, h, z, hz => by
    simp only [flat, List.mem_cons] at hz
    have h1 := h (t, o) (List.mem_cons_self ..)
    rcases hz with rfl | rfl | hz
    · exact h1.1
    · exact h1.2
    · exact flat_all ps P (fun p hp => h p (List.mem_cons_of_mem _ hp)) z hz
theorem row_mem (F : Fine n tick force en go ps st) : ∀ z ∈ rowOf tick force en go ps st, 0 ≤ z ∧ z ≤ 65536 := by
  intro z hz
  have hn : ∀ (es : List (Option Int)), (∀ o ∈ es, ∀ t, o = some t → 0 ≤ t ∧ t ≤ 1000) → ∀ z ∈ es.map num, 0 ≤ z ∧ z ≤ 65536 := by
    intro es he z hz
    obtain ⟨o, ho, rfl⟩ := List.mem_map.mp hz
    cases o with
    | none => exact ⟨by decide, by decide⟩
    | some t =>
      have := he _ ho t rfl
      simp only [num]
      omega
  simp only [rowOf, List.mem_cons, List.mem_append] at hz
  have := F.t
  have := F.f
  have := F.lp
  rcases hz with rfl | rfl | hz | hz | rfl | hz | hz
  · omega
  · omega
  · exact hn _ F.he z hz
  · exact hn _ F.hg z hz
  · omega
  · exact flat_all ps (fun z => 0 ≤ z ∧ z ≤ 65536) (fun p hp => by
      have := F.hp p hp
      omega) z hz
  · obtain ⟨y, hy, rfl⟩ := List.mem_map.mp hz
    have := F.hs y hy
    omega
theorem okN_of {zs : List Int} (h : ∀ z ∈ zs, 0 ≤ z ∧ z ≤ 65536) : (zs.map AV.int).all okN = true := by
  rw [List.all_eq_true]
  intro x hx
  obtain ⟨z, hz, rfl⟩ := List.mem_map.mp hx
  simp [okN, h z hz]
theorem pre_at (F : Fine n tick force en go ps st) : (pre tick force en go ps)[2 + 2 * n]? = some (ps.length : Int) := by
  have e : 2 + 2 * n = n + n + 1 + 1 := by omega
  rw [e]
  simp [pre, List.getElem?_append, F.le, F.lg]
theorem row_at (F : Fine n tick force en go ps st) : ((rowOf tick force en go ps st).map AV.int)[2 + 2 * n]? = some (.int (ps.length : Int)) := by
  rw [List.getElem?_map, rowOf_pre, List.getElem?_append_left (by rw [pre_len F]; omega), pre_at F]
  rfl
theorem opened_row (F : Fine n tick force en go ps st) (S : Sto) : m_opened_parcel [.tup ((rowOf tick force en go ps st).map .int), .int (n : Int)] S = .ok (.tup [factsA tick force en go ps, .tup (st.map .int)]) S := by
  have hl := row_len F
  have := F.lp
  have := F.s2
  have := F.n4
  have := F.s100
  refine opened_full ((rowOf tick force en go ps st).map .int) n S en go ps st tick force (okN_of (row_mem F)) (by rw [List.length_map, hl]; omega) (by rw [List.length_map, hl]; omega) (row_at F) rfl rfl ?_ ?_ ?_ ?_ (fun o ho t e => (F.he o ho t e).1) (fun o ho t e => (F.hg o ho t e).1)
  · rw [← List.map_drop, ← List.map_take]
    congr 1
    simp [rowOf, List.take_append, F.le]
  · rw [← List.map_drop, ← List.map_take]
    congr 1
    rw [Nat.add_comm 2 n]
    simp [rowOf, List.drop_append, List.take_append, F.le, F.lg]
  · intro k p hp
    obtain ⟨u1, u2⟩ := flat_get ps k p hp
    have hk : k < ps.length := (List.getElem?_eq_some_iff.mp hp).1
    have g : ∀ j, j < 2 * ps.length → ((rowOf tick force en go ps st).map AV.int)[3 + 2 * n + j]? = (flat ps)[j]?.map AV.int := by
      intro j hj
      rw [List.getElem?_map, rowOf_pre, List.getElem?_append_left (by rw [pre_len F]; omega)]
      have e : 3 + 2 * n + j = n + n + (j + 1) + 1 + 1 := by omega
      have e1 : ¬ n + n + (j + 1) < n := by omega
      have e2 : n + n + (j + 1) - n = n + (j + 1) := by omega
      have e3 : ¬ n + (j + 1) < n := by omega
      have e4 : n + (j + 1) - n = j + 1 := by omega
      rw [e]
      simp [pre, List.getElem?_append, F.le, F.lg, e1, e2, e3, e4]
    rw [Nat.add_assoc (3 + 2 * n), g _ (by omega), g _ (by omega), u1, u2]
    exact ⟨rfl, rfl⟩
  · rw [← List.map_drop, rowOf_pre, ← pre_len F, List.drop_left]
theorem opened_cut (F : Fine n tick force en go ps st) (S : Sto) (size : Nat) (h : size < 3 + 2 * n + 2 * ps.length + 2) : m_opened_parcel [.tup (((rowOf tick force en go ps st).map .int).take size), .int (n : Int)] S = .ok .non S := by
  have hl := row_len F
  have ok : (((rowOf tick force en go ps st).map AV.int).take size).all okN = true := by
    have q := okN_of (row_mem F)
    rw [List.all_eq_true] at q ⊢
    exact fun x hx => q x (List.mem_of_mem_take hx)
  have hz : (((rowOf tick force en go ps st).map AV.int).take size).length ≤ size := by
    rw [List.length_take]
    exact Nat.min_le_left ..
  by_cases h1 : (((rowOf tick force en go ps st).map AV.int).take size).length < 3 + 2 * n
  · exact opened_short1 _ n S ok h1
  · refine opened_short2 _ n ps.length S ok (by omega) ?_ (by omega)
    rw [List.getElem?_take_of_lt (by omega), row_at F]
theorem fine_take (F : Fine n tick force en go ps st) (k : Nat) (h : 2 ≤ k) : Fine n tick force en go ps (st.take k) :=
  { F with s2 := by have := F.s2; rw [List.length_take]; omega, s100 := by have := F.s100; rw [List.length_take]; omega, hs := fun z hz => F.hs z (List.mem_of_mem_take hz) }
theorem row_take (F : Fine n tick force en go ps st) (k : Nat) : (rowOf tick force en go ps st).take (3 + 2 * n + 2 * ps.length + k) = rowOf tick force en go ps (st.take k) := by
  rw [rowOf_pre, rowOf_pre, ← pre_len F, List.map_take, List.take_append, List.take_of_length_le (by omega), Nat.add_sub_cancel_left]
theorem opened_many (F : Fine n tick force en go ps st) (S : Sto) (m : Nat) (h : 2 * ps.length + st.length < 2 * m + 2) (h2 : m ≤ 65536) : m_opened_parcel [.tup (((rowOf tick force en go ps st).map .int).take (2 + 2 * n) ++ [.int (m : Int)] ++ ((rowOf tick force en go ps st).map .int).drop (3 + 2 * n)), .int (n : Int)] S = .ok .non S := by
  have hl := row_len F
  have q := okN_of (row_mem F)
  rw [List.all_eq_true] at q
  refine opened_short2 _ n m S ?_ ?_ ?_ ?_
  · rw [List.all_eq_true]
    intro x hx
    simp only [List.mem_append, List.mem_singleton] at hx
    rcases hx with (hx | rfl) | hx
    · exact q x (List.mem_of_mem_take hx)
    · simp [okN]; omega
    · exact q x (List.mem_of_mem_drop hx)
  · simp [hl]; omega
  · have e : (((rowOf tick force en go ps st).map AV.int).take (2 + 2 * n)).length = 2 + 2 * n := by simp [hl]; omega
    rw [List.append_assoc, List.getElem?_append_right (by omega), e]
    simp
  · simp [hl]; omega
theorem opened_swap (xs : List AV) (i : Nat) (x : AV) (S : Sto) (h : okN x = false) : m_opened_parcel [.tup (xs.take i ++ [x] ++ xs.drop (i + 1)), .int (n : Int)] S = .ok .non S := by
  refine opened_bad _ ?_ _ _
  rw [List.all_append, List.all_append, List.all_cons, h]
  simp
end Pg
namespace Pg
open PySem PySem.Spec PyProof.Rows L2 Mi
/-! ### small data: what may be shown and matched -/
structure Sm (d : PyData) (k w : Nat) : Prop where
  lay : d.canLay0 = true
  dep : d.depth ≤ k
  int : d.intsShort 13 = true
  sho : d.showable = true
  wei : d.weight ≤ w
structure SmL (ds : List PyData) (k w : Nat) : Prop where
  lay : PyData.canLayAll0 ds = true
  dep : PyData.depthAll ds ≤ k
  int : PyData.intsShortAll 13 ds = true
  sho : PyData.showableAll ds = true
  wei : PyData.weightAll ds ≤ w
def SmA (x : AV) (k w : Nat) : Prop := ∃ d, x.data = some d ∧ Sm d k w
def SmAs (xs : List AV) (k w : Nat) : Prop := ∃ ds, AV.datas xs = some ds ∧ SmL ds k w
theorem smA_non : SmA .non 0 0 := ⟨.none, rfl, rfl, by decide, rfl, rfl, by decide⟩
theorem smA_str (s : Str) (w : Nat) (h : PyData.strOk s = true) (hw : s.cps.size ≤ w) : SmA (.str s) 0 w := ⟨.str s, rfl, by simpa [PyData.canLay0] using h, by simp [PyData.depth], rfl, rfl, by simpa [PyData.weight] using hw⟩
theorem smA_int (z : Int) (h : -100000 ≤ z ∧ z ≤ 100000) : SmA (.int z) 0 17 := by
  have hl : z.natAbs.log2 < 17 := by
    by_cases h0 : z.natAbs = 0
    · rw [h0]
      decide
    · refine (Nat.log2_lt h0).mpr ?_
      have : (2 : Nat) ^ 17 = 131072 := by decide
      omega
  refine ⟨.int z, rfl, by simp [PyData.canLay0], by simp [PyData.depth], ?_, ?_, ?_⟩
  · have q := int_text_length_le10 (a := z) (k := 6) (by decide) (by
      have : (10 : Nat) ^ 6 = 1000000 := by decide
      omega)
    simp only [PyData.intsShort, decide_eq_true_eq]
    show (Str.ofString (toString z)).length ≤ 13
    rw [PySem.ofString_length]
    omega
  · simp only [PyData.showable, decide_eq_true_eq]
    omega
  · simp only [PyData.weight]
    split <;> omega
theorem smAs_nil (k : Nat) : SmAs [] k 0 := ⟨[], rfl, rfl, by simp [PyData.depthAll], rfl, rfl, by simp [PyData.weightAll]⟩
theorem smAs_cons {x : AV} {xs : List AV} {k w k2 w2 : Nat} (h : SmA x k w) (h2 : SmAs xs k2 w2) (hk : k ≤ k2) : SmAs (x :: xs) k2 (w + 1 + w2) := by
  obtain ⟨d, e, s⟩ := h
  obtain ⟨ds, e2, s2⟩ := h2
  refine ⟨d :: ds, by simp [AV.datas, e, e2], by simp [PyData.canLayAll0, s.lay, s2.lay], ?_, by simp [PyData.intsShortAll, s.int, s2.int], by simp [PyData.showableAll, s.sho, s2.sho], ?_⟩
  · simp only [PyData.depthAll]
    have := s.dep
    have := s2.dep
    omega
  · simp only [PyData.weightAll]
    have := s.wei
    have := s2.wei
    omega
theorem smA_tup {xs : List AV} {k w : Nat} (h : SmAs xs k w) : SmA (.tup xs) (k + 1) w := by
  obtain ⟨ds, e, s⟩ := h
  refine ⟨.tuple ds, by simp [AV.data, e], by simp [PyData.canLay0, s.lay], ?_, by simp [PyData.intsShort, s.int], by simp [PyData.showable, s.sho], by simp [PyData.weight, s.wei]⟩
  simp only [PyData.depth]
  have := s.dep
  omega
theorem smAs_all {k w : Nat} : ∀ (xs : List AV), (∀ x ∈ xs, SmA x k w) → SmAs xs k (xs.length * (w + 1))
  | [], h => by simpa using smAs_nil k
  | x :: xs, h => by
    have q := smAs_cons (h x (List.mem_cons_self ..)) (smAs_all xs fun y hy => h y (List.mem_cons_of_mem _ hy)) (Nat.le_refl k)
    have e : (x :: xs).length * (w + 1) = w + 1 + xs.length * (w + 1) := by
      rw [List.length_cons, Nat.succ_mul, Nat.add_comm]
    rw [e]
    exact q
theorem smA_mono {x : AV} {k w k2 w2 : Nat} (h : SmA x k w) (hk : k ≤ k2) (hw : w ≤ w2) : SmA x k2 w2 := by
  obtain ⟨d, e, s⟩ := h
  exact ⟨d, e, s.lay, Nat.le_trans s.dep hk, s.int, s.sho, Nat.le_trans s.wei hw⟩
theorem same_ok (xs : List AV) (S : Sto) (h : SmA (.tup xs) 60 6600) : m__law_is_same [.tup xs, .tup xs] S = .ok (.bl true) S := by
  obtain ⟨d, e, s⟩ := h
  have e1 : aEqB (.tup xs) (.tup xs) = some true := by
    have sh : SeqAt.shaped d = true := by
      have := s.dep
      simp [SeqAt.shaped, s.lay]
      omega
    show ((AV.tup xs).data.bind fun d => (AV.tup xs).data.bind fun e => if SeqAt.shaped d = true ∧ SeqAt.shaped e = true then some (PyData.eqv d e) else none) = some true
    rw [e]
    simp [sh, PySem.SeqAt.eqv_refl d s.lay]
  have e2 : reprA (.tup xs) = some (.str d.shown) := by
    have hd := PyData.hasDict_of_canLay d s.lay
    have hl := PyData.shown_le 13 (by decide) d (PyData.leavesShort_of_canLay0 13 d s.lay s.int)
    have := s.dep
    have := s.wei
    have c1 : d.depth ≤ 64 := by omega
    have c2 : d.shown.length ≤ 100000 := by omega
    show ((AV.tup xs).data.bind fun d => if d.showable = true ∧ d.hasDict = false ∧ d.depth ≤ 64 ∧ d.shown.length ≤ 100000 then some (AV.str d.shown) else none) = some (.str d.shown)
    rw [e]
    simp [s.sho, hd, c1, c2]
  unfold m__law_is_same g__law_is_same
  simp [callM, e1, e2]
/-- the pair of facts and state -/
theorem fine_small {n : Nat} {tick force : Int} {en go : List (Option Int)} {ps : List (Int × Int)} {st : List Int} (F : Fine n tick force en go ps st) : SmA (.tup [factsA tick force en go ps, .tup (st.map .int)]) 60 6600 := by
  have hi : ∀ (zs : List Int), (∀ z ∈ zs, -100000 ≤ z ∧ z ≤ 100000) → SmAs (zs.map .int) 0 ((zs.map AV.int).length * 18) := fun zs h => smAs_all _ fun x hx => by
    obtain ⟨z, hz, rfl⟩ := List.mem_map.mp hx
    exact smA_int z (h z hz)
  have ho : ∀ (es : List (Option Int)), (∀ o ∈ es, ∀ t, o = some t → 0 ≤ t ∧ t ≤ 1000) → SmAs (es.map oi) 0 ((es.map oi).length * 18) := fun es h => smAs_all _ fun x hx => by
    obtain ⟨o, ho, rfl⟩ := List.mem_map.mp hx
    cases o with
    | none => exact smA_mono smA_non (by decide) (by decide)
    | some t =>
      have := h _ ho t rfl
      exact smA_int t (by omega)
  have hp : SmAs (ps.map pr) 1 ((ps.map pr).length * 37) := smAs_all _ fun x hx => by
    obtain ⟨p, h, rfl⟩ := List.mem_map.mp hx
    have := F.hp p h
    exact smA_mono (smA_tup (smAs_cons (smA_int p.1 (by omega)) (smAs_cons (smA_int p.2 (by omega)) (smAs_nil 0) (by decide)) (by decide))) (by decide) (by decide)
  have h1 := F.le
  have h2 := F.lg
  have h3 := F.n4
  have h4 := F.lp
  have h5 := F.s100
  have h6 := F.t
  have h7 := F.f
  have hf : SmA (factsA tick force en go ps) 3 _ := smA_tup (k := 2) (smAs_cons (k := 0) (smA_str "facts" 5 (by decide +kernel) (by decide +kernel)) (smAs_cons (smA_int tick (by omega)) (smAs_cons (smA_int force (by omega)) (smAs_cons (smA_mono (smA_tup (ho en F.he)) (Nat.le_refl 1) (Nat.le_refl _)) (smAs_cons (smA_tup (ho go F.hg)) (smAs_cons (smA_mono (smA_tup hp) (Nat.le_refl 2) (Nat.le_refl _)) (smAs_nil 2) (by decide)) (by decide)) (by decide)) (by decide)) (by decide)) (by decide))
  refine smA_mono (smA_tup (smAs_cons hf (smAs_cons (smA_mono (smA_tup (hi st fun z hz => by
    have := F.hs z hz
    omega)) (show 1 ≤ 3 by decide) (Nat.le_refl _)) (smAs_nil 3) (by decide)) (by decide))) (by decide) ?_
  simp only [List.length_map]
  omega
end Pg
namespace Pg
open PySem PySem.Spec PyProof.Rows L2 Mi
/-- the store of the law: the script's numbers, the place of the draws, and what else was made -/
def E (ns : List Int) (a b c : Int) (rest : Sto) : Sto := D (ns.map .int) a b c rest
section
variable {ns : List Int} {a b c : Int} {rest : Sto}
theorem E_len : (E ns a b c rest).length = rest.length + 2 := rfl
theorem E_app {xs : Sto} : E ns a b c rest ++ xs = E ns a b c (rest ++ xs) := rfl
theorem E_get {j : Nat} : (E ns a b c rest)[j + 2]? = rest[j]? := rfl
theorem E_set {j : Nat} {x : Cell} : (E ns a b c rest).set (j + 2) x = E ns a b c (rest.set j x) := rfl
theorem drawE (ns : List Int) {a b c : Int} (rest : Sto) (many : Int) (g : Good a b c) (h0 : 0 < many) (h1 : many < 1000000) : ∃ r a' b' c', (0 ≤ r ∧ r < many) ∧ Good a' b' c' ∧ m__law_draw [.ref 1, .int many] (E ns a b c rest) = .ok (.int r) (E ns a' b' c' rest) := by
  obtain ⟨r, a', b', c', r0, r1, g', e⟩ := draw_ok ns a b c many rest g h0 h1
  refine ⟨r, a', b', c', ⟨r0, r1⟩, g', ?_⟩
  simp only [E]
  exact e
theorem pickE (ns : List Int) {a b c : Int} (rest : Sto) (xs : List AV) (g : Good a b c) (h0 : xs ≠ []) (h1 : xs.length < 1000000) : ∃ x a' b' c', x ∈ xs ∧ Good a' b' c' ∧ m__law_pick [.ref 1, .ref (rest.length + 2)] (E ns a b c (rest ++ [.lst xs])) = .ok x (E ns a' b' c' (rest ++ [.lst xs])) := by
  simp only [E]
  exact pick_ok ns a b c (rest ++ [.lst xs]) g rest.length xs (by simp) h0 h1
theorem get_app {S T : Sto} {j : Nat} {x : Cell} (h : S[j]? = some x) : (S ++ T)[j]? = some x := by
  rw [List.getElem?_append_left (List.getElem?_eq_some_iff.mp h).1, h]
theorem get_set {S : Sto} {j : Nat} {x y : Cell} (h : S[j]? = some x) : (S.set j y)[j]? = some y := by
  rw [List.getElem?_set_self (List.getElem?_eq_some_iff.mp h).1]
theorem get_set_ne {S : Sto} {i j : Nat} {x y : Cell} (h : S[j]? = some x) (hn : i ≠ j) : (S.set i y)[j]? = some x := by
  rw [List.getElem?_set_ne hn, h]
end
def StI (ns : List Int) (seats : AV) (vs : List AV) (ρ : Slots) (S : Sto) : Prop := ∃ (a b c : Int) (rest : Sto) (j : Nat) (zs : List Int) (kk : Option AV), Good a b c ∧ ρ = [some (.ref 1), some seats, some (.ref (j + 2)), kk] ∧ S = E ns a b c rest ∧ rest[j]? = some (.lst (zs.map .int)) ∧ (∀ z ∈ zs, (-32768 : Int) ≤ z ∧ z ≤ 32767) ∧ 2 ≤ zs.length ∧ zs.length + vs.length ≤ 44
theorem some_state_ok (ns : List Int) (a b c : Int) (rest : Sto) (n : Nat) (g : Good a b c) (hn : n ≤ 4) : ∃ (st : List Int) (a' b' c' : Int) (rest' : Sto), Good a' b' c' ∧ (∀ z ∈ st, (-32768 : Int) ≤ z ∧ z ≤ 32767) ∧ 2 ≤ st.length ∧ st.length ≤ 44 ∧ m__law_some_state [.ref 1, .int (n : Int)] (E ns a b c rest) = .ok (.tup (st.map .int)) (E ns a' b' c' rest') := by
  obtain ⟨r1, a1, b1, c1, l1, g1, e1⟩ := drawE ns rest 32749 g (by decide) (by decide)
  obtain ⟨x2, a2, b2, c2, l2, g2, e2⟩ := pickE ns rest [.int 0, .int 32748, .int r1] g1 (by simp) (by simp)
  obtain ⟨r3, a3, b3, c3, l3, g3, e3⟩ := drawE ns (rest ++ [.lst [.int 0, .int 32748, .int r1]]) (2 + (n : Int)) g2 (by omega) (by omega)
  have hx2 : ∃ z : Int, x2 = .int z ∧ 0 ≤ z ∧ z ≤ 32748 := by
    simp only [List.mem_cons, List.not_mem_nil, or_false] at l2
    rcases l2 with rfl | rfl | rfl
    · exact ⟨_, rfl, by omega⟩
    · exact ⟨_, rfl, by omega⟩
    · exact ⟨_, rfl, by omega⟩
  obtain ⟨z2, rfl, lz2⟩ := hx2
  obtain ⟨x4, a4, b4, c4, l4, g4, e4⟩ := pickE ns (rest ++ [.lst [.int 0, .int 32748, .int r1]] ++ [.lst [.int z2, .int r3]]) [.int 0, .int 1, .int 2, .int 3, .int 5, .int 12, .int 42] g3 (by simp) (by simp)
  have hx4 : ∃ m : Nat, x4 = .int (m : Int) ∧ m ≤ 42 := by
    simp only [List.mem_cons, List.not_mem_nil, or_false] at l4
    rcases l4 with rfl | rfl | rfl | rfl | rfl | rfl | rfl
    · exact ⟨0, rfl, by omega⟩
    · exact ⟨1, rfl, by omega⟩
    · exact ⟨2, rfl, by omega⟩
    · exact ⟨3, rfl, by omega⟩
    · exact ⟨5, rfl, by omega⟩
    · exact ⟨12, rfl, by omega⟩
    · exact ⟨42, rfl, by omega⟩
  obtain ⟨m4, rfl, lm4⟩ := hx4
  have rg := rngOf_nat (n := m4) (by omega)
  obtain ⟨ρ', S', e5, a5, b5, c5, rest5, j5, zs, kk, g5, hρ, hS, hj, hz, hl, hl2⟩ := turns_inv (src := none) (all := (List.range m4).map fun (k : Nat) => AV.int (k : Int)) (bd := gN 3) (body := sApp (mVar 2) (mCall 2 m__law_pick (mCons (mVar 0) (mCons (mNew (lLst (mCons (mC (.int 0)) (mCons (mC (.int 1)) (mCons (mC (.int 255)) (mCons (mUn aNeg (mC (.int 1))) (mCons (mC (.int 32767)) (mCons (mUn aNeg (mC (.int 32768))) (mCons (mOp aSub (mCall 2 m__law_draw (mCons (mVar 0) (mCons (mC (.int 65536)) mNil))) (mC (.int 32768))) mNil))))))))) mNil))))
    (StI ns (.int (n : Int))) (fun _ _ _ _ => still0) ((List.range m4).map fun (k : Nat) => AV.int (k : Int))
    ⟨a4, b4, c4, rest ++ [.lst [.int 0, .int 32748, .int r1]] ++ [.lst [.int z2, .int r3]] ++ [.lst [.int 0, .int 1, .int 2, .int 3, .int 5, .int 12, .int 42]], rest.length + 1, [z2, r3], none, g4, rfl, rfl, get_app (by simp), by
      intro z hz
      simp only [List.mem_cons, List.not_mem_nil, or_false] at hz
      rcases hz with rfl | rfl
      · omega
      · omega, by simp, by simp; omega⟩
    (fun v vs ρ S ⟨a, b, c, rest, j, zs, kk, g, hρ, hS, hj, hz, hl, hl2⟩ => by
      subst hρ hS
      refine ⟨_, rfl, ?_⟩
      obtain ⟨r1, a1, b1, c1, l1, g1, e1⟩ := drawE ns rest 65536 g (by decide) (by decide)
      obtain ⟨x2, a2, b2, c2, l2, g2, e2⟩ := pickE ns rest [.int 0, .int 1, .int 255, .int (-1), .int 32767, .int (-32768), .int (r1 - 32768)] g1 (by simp) (by simp)
      have hx2 : ∃ z : Int, x2 = .int z ∧ -32768 ≤ z ∧ z ≤ 32767 := by
        simp only [List.mem_cons, List.not_mem_nil, or_false] at l2
        rcases l2 with rfl | rfl | rfl | rfl | rfl | rfl | rfl <;> exact ⟨_, rfl, by omega⟩
      obtain ⟨z2, rfl, lz2⟩ := hx2
      have hj2 := get_app (T := [.lst [.int 0, .int 1, .int 255, .int (-1), .int 32767, .int (-32768), .int (r1 - 32768)]]) hj
      simp only [List.length_cons] at hl2
      have z1 : zs.length < 100000 := by omega
      refine ⟨_, _, ?_, a2, b2, c2, _, j, zs ++ [z2], some v, g2, rfl, rfl, get_set hj2, ?_, ?_, ?_⟩
      · simp [E_len, E_app, E_get, E_set, e1, e2, hj2, z1]
      · intro z hz'
        simp only [List.mem_append, List.mem_singleton] at hz'
        rcases hz' with hz' | rfl
        · exact hz z hz'
        · exact lz2
      · simp; omega
      · simp; omega)
  subst hρ hS
  refine ⟨zs, a5, b5, c5, rest5, g5, hz, hl, by simpa using hl2, ?_⟩
  simp at e4 e5
  unfold m__law_some_state g__law_some_state
  simp [callM, E_len, E_app, E_get, E_set, e1, e2, e3, e4, rg, e5, hj]

end Pg
namespace Pg
open PySem PySem.Spec PyProof.Rows L2 Mi
def Bd (tick : Int) (es : List (Option Int)) : Prop := ∀ o ∈ es, ∀ t, o = some t → 0 ≤ t ∧ t ≤ tick
theorem Bd.app {tick : Int} {es : List (Option Int)} {o : Option Int} (h : Bd tick es) (ho : ∀ t, o = some t → 0 ≤ t ∧ t ≤ tick) : Bd tick (es ++ [o]) := by
  intro x hx
  rw [List.mem_append, List.mem_singleton] at hx
  rcases hx with hx | rfl
  · exact h x hx
  · exact ho
def FcI (ns : List Int) (n : Nat) (tick : Int) (vs : List AV) (ρ : Slots) (S : Sto) : Prop := ∃ (a b c : Int) (rest : Sto) (j1 j2 : Nat) (en go : List (Option Int)) (k5 k6 k7 : Option AV), Good a b c ∧ ρ = [some (.ref 1), some (.int (n : Int)), some (.int tick), some (.ref (j1 + 2)), some (.ref (j2 + 2)), k5, k6, k7, none, none, none, none] ∧ S = E ns a b c rest ∧ j1 ≠ j2 ∧ rest[j1]? = some (.lst (en.map oi)) ∧ rest[j2]? = some (.lst (go.map oi)) ∧ Bd tick en ∧ Bd tick go ∧ en.length + vs.length = n ∧ go.length + vs.length = n
noncomputable def bodyF : MS := (sSeq (sSet 6 (mCall 2 m__law_pick (mCons (mVar 0) (mCons (mNew (lLst (mCons (mC (.int 0)) (mCons (mC (.int 0)) (mCons (mC .non) (mCons (mVar 2) (mCons (mCall 2 m__law_draw (mCons (mVar 0) (mCons (mOp aAdd (mVar 2) (mC (.int 1))) mNil))) mNil))))))) mNil))))
      (sSeq (sSet 7 (mC .non))
      (sSeq (sIf (bAnd (bIs (mOp aNs (mVar 6) (mC .non))) (bIs (mOp aEq (mCall 2 m__law_draw (mCons (mVar 0) (mCons (mC (.int 3)) mNil))) (mC (.int 0))))) (sSet 7 (mOp aAdd (mVar 6) (mCall 2 m__law_draw (mCons (mVar 0) (mCons (mOp aAdd (mOp aSub (mVar 2) (mVar 6)) (mC (.int 1))) mNil))))) sNext)
      (sSeq (sApp (mVar 3) (mVar 6))
      (sApp (mVar 4) (mVar 7))))))
theorem facts_turn (ns : List Int) (n : Nat) (tick : Int) (ht : 0 ≤ tick ∧ tick ≤ 24) (hn : n ≤ 4) (v : AV) (vs : List AV) (ρ : Slots) (S : Sto) (I : FcI ns n tick (v :: vs) ρ S) : ∃ ρ1, gN 5 v ρ = some ρ1 ∧ ∃ ρ' S', bodyF ρ1 S = .nx ρ' S' ∧ FcI ns n tick vs ρ' S' := by
  obtain ⟨a, b, c, rest, j1, j2, en, go, k5, k6, k7, g, rfl, rfl, h12, hj1, hj2, b1, b2, l1, l2⟩ := I
  simp only [List.length_cons] at l1 l2
  refine ⟨_, rfl, ?_⟩
  obtain ⟨r1, a1, b1', c1, lr1, g1, e1⟩ := drawE ns rest (tick + 1) g (by omega) (by omega)
  obtain ⟨x2, a2, b2', c2, lx2, g2, e2⟩ := pickE ns rest [.int 0, .int 0, .non, .int tick, .int r1] g1 (by simp) (by simp)
  have hx2 : ∃ o : Option Int, x2 = oi o ∧ ∀ t, o = some t → 0 ≤ t ∧ t ≤ tick := by
    simp only [List.mem_cons, List.not_mem_nil, or_false] at lx2
    rcases lx2 with rfl | rfl | rfl | rfl | rfl
    · exact ⟨some 0, rfl, fun t e => by cases e; omega⟩
    · exact ⟨some 0, rfl, fun t e => by cases e; omega⟩
    · exact ⟨none, rfl, fun t e => by cases e⟩
    · exact ⟨some tick, rfl, fun t e => by cases e; omega⟩
    · exact ⟨some r1, rfl, fun t e => by cases e; omega⟩
  obtain ⟨o, rfl, ho⟩ := hx2
  have q1 := get_app (T := [.lst [.int 0, .int 0, .non, .int tick, .int r1]]) hj1
  have q2 := get_app (T := [.lst [.int 0, .int 0, .non, .int tick, .int r1]]) hj2
  have z1 : en.length < 100000 := by omega
  have z2 : go.length < 100000 := by omega
  have fin : ∀ (u : Option Int) (a b c : Int), Good a b c → (∀ t, u = some t → 0 ≤ t ∧ t ≤ tick) → FcI ns n tick vs [some (.ref 1), some (.int (n : Int)), some (.int tick), some (.ref (j1 + 2)), some (.ref (j2 + 2)), some v, some (oi o), some (oi u), none, none, none, none] (E ns a b c (((rest ++ [Cell.lst [.int 0, .int 0, .non, .int tick, .int r1]]).set j1 (.lst (en.map oi ++ [oi o]))).set j2 (.lst (go.map oi ++ [oi u])))) := fun u a b c g hu =>
    ⟨a, b, c, _, j1, j2, en ++ [o], go ++ [u], _, _, _, g, rfl, rfl, h12, by rw [get_set_ne (get_set q1) (Ne.symm h12)]; simp, by rw [get_set (get_set_ne q2 h12)]; simp, b1.app ho, b2.app hu, by simp; omega, by simp; omega⟩
  unfold bodyF
  cases o with
  | none =>
    refine ⟨_, _, ?_, fin none a2 b2' c2 g2 (fun t e => by cases e)⟩
    simp [E_len, E_app, E_get, E_set, e1, e2, oi, h12, q1, q2, z1, z2]
  | some t =>
    have hb := ho t rfl
    obtain ⟨r3, a3, b3, c3, lr3, g3, e3⟩ := drawE ns (rest ++ [.lst [.int 0, .int 0, .non, .int tick, .int r1]]) 3 g2 (by omega) (by omega)
    by_cases h3 : r3 = 0
    · subst h3
      obtain ⟨r4, a4, b4, c4, lr4, g4, e4⟩ := drawE ns (rest ++ [.lst [.int 0, .int 0, .non, .int tick, .int r1]]) (tick - t + 1) g3 (by omega) (by omega)
      refine ⟨_, _, ?_, fin (some (t + r4)) a4 b4 c4 g4 (fun u e => by cases e; omega)⟩
      simp only [oi] at e2 ⊢
      simp [E_len, E_app, E_get, E_set, e1, e2, e3, e4, oi, h12, q1, q2, z1, z2]
    · refine ⟨_, _, ?_, fin none a3 b3 c3 g3 (fun t e => by cases e)⟩
      simp only [oi] at e2 ⊢
      simp [E_len, E_app, E_get, E_set, e1, e2, e3, h3, oi, h12, q1, q2, z1, z2]
def PnI (ns : List Int) (n : Nat) (tick : Int) (j1 j2 : Nat) (x1 x2 : List AV) (m : Nat) (k5 k6 k7 : Option AV) (vs : List AV) (ρ : Slots) (S : Sto) : Prop := ∃ (a b c : Int) (rest : Sto) (j : Nat) (ps : List (Int × Int)) (now : Int) (k11 : Option AV), Good a b c ∧ ρ = [some (.ref 1), some (.int (n : Int)), some (.int tick), some (.ref (j1 + 2)), some (.ref (j2 + 2)), k5, k6, k7, some (.int (m : Int)), some (.ref (j + 2)), some (.int now), k11] ∧ S = E ns a b c rest ∧ j ≠ j1 ∧ j ≠ j2 ∧ rest[j1]? = some (.lst x1) ∧ rest[j2]? = some (.lst x2) ∧ rest[j]? = some (.lst (ps.map pr)) ∧ (0 ≤ now ∧ now ≤ 24 + 4 * ps.length) ∧ (∀ p ∈ ps, (0 ≤ p.1 ∧ p.1 ≤ 1000) ∧ (0 ≤ p.2 ∧ p.2 ≤ 1000)) ∧ ps.length + vs.length ≤ 20
noncomputable def bodyP : MS := (sSeq (sSet 10 (mOp aAdd (mVar 10) (mC (.int 1))))
      (sSeq (sIf (bIs (mOp aLt (mVar 8) (mC (.int 6)))) (sSet 10 (mOp aAdd (mVar 10) (mCall 2 m__law_draw (mCons (mVar 0) (mCons (mC (.int 4)) mNil))))) sNext)
      (sApp (mVar 9) (mTup (mCons (mVar 10) (mCons (mOp aAdd (mC (.int 1)) (mCall 2 m__law_draw (mCons (mVar 0) (mCons (mC (.int 7)) mNil)))) mNil))))))
theorem pend_turn (ns : List Int) (n : Nat) (tick : Int) (j1 j2 : Nat) (x1 x2 : List AV) (m : Nat) (k5 k6 k7 : Option AV) (v : AV) (vs : List AV) (ρ : Slots) (S : Sto) (I : PnI ns n tick j1 j2 x1 x2 m k5 k6 k7 (v :: vs) ρ S) : ∃ ρ1, gN 11 v ρ = some ρ1 ∧ ∃ ρ' S', bodyP ρ1 S = .nx ρ' S' ∧ PnI ns n tick j1 j2 x1 x2 m k5 k6 k7 vs ρ' S' := by
  obtain ⟨a, b, c, rest, j, ps, now, k11, g, rfl, rfl, n1, n2, hj1, hj2, hj, hnow, hps, hl⟩ := I
  simp only [List.length_cons] at hl
  refine ⟨_, rfl, ?_⟩
  have z1 : ps.length < 100000 := by omega
  have fin : ∀ (y o a b c : Int), Good a b c → (now + 1 ≤ y ∧ y ≤ now + 4) → (0 ≤ o ∧ o ≤ 10) → PnI ns n tick j1 j2 x1 x2 m k5 k6 k7 vs [some (.ref 1), some (.int (n : Int)), some (.int tick), some (.ref (j1 + 2)), some (.ref (j2 + 2)), k5, k6, k7, some (.int (m : Int)), some (.ref (j + 2)), some (.int y), some v] (E ns a b c (rest.set j (.lst (ps.map pr ++ [.tup [.int y, .int o]])))) := fun y o a b c g hy ho =>
    ⟨a, b, c, _, j, ps ++ [(y, o)], y, _, g, rfl, rfl, n1, n2, get_set_ne hj1 n1, get_set_ne hj2 n2, by rw [get_set hj]; simp [pr], by simp; omega, by
      intro p hp
      rw [List.mem_append, List.mem_singleton] at hp
      rcases hp with hp | rfl
      · exact hps p hp
      · simp only
        omega, by simp; omega⟩
  unfold bodyP
  by_cases hm : (m : Int) < 6
  · obtain ⟨r1, a1, b1, c1, l1, g1, e1⟩ := drawE ns rest 4 g (by omega) (by omega)
    obtain ⟨r2, a2, b2, c2, l2, g2, e2⟩ := drawE ns rest 7 g1 (by omega) (by omega)
    refine ⟨_, _, ?_, fin (now + 1 + r1) (1 + r2) a2 b2 c2 g2 (by omega) (by omega)⟩
    simp [E_len, E_app, E_get, E_set, hm, e1, e2, hj, z1]
  · obtain ⟨r2, a2, b2, c2, l2, g2, e2⟩ := drawE ns rest 7 g (by omega) (by omega)
    refine ⟨_, _, ?_, fin (now + 1) (1 + r2) a2 b2 c2 g2 (by omega) (by omega)⟩
    simp [E_len, E_app, E_get, E_set, hm, e2, hj, z1]
theorem some_facts_ok (ns : List Int) (a b c : Int) (rest : Sto) (n : Nat) (g : Good a b c) (hn : n ≤ 4) : ∃ (tick force : Int) (en go : List (Option Int)) (ps : List (Int × Int)) (a' b' c' : Int) (rest' : Sto), Good a' b' c' ∧ (0 ≤ tick ∧ tick ≤ 1000) ∧ (0 ≤ force ∧ force ≤ 1000) ∧ en.length = n ∧ go.length = n ∧ ps.length ≤ 40 ∧ Bd 1000 en ∧ Bd 1000 go ∧ (∀ p ∈ ps, (0 ≤ p.1 ∧ p.1 ≤ 1000) ∧ (0 ≤ p.2 ∧ p.2 ≤ 1000)) ∧ m__law_some_facts [.ref 1, .int (n : Int)] (E ns a b c rest) = .ok (factsA tick force en go ps) (E ns a' b' c' rest') := by
  obtain ⟨r1, a1, b1, c1, l1, g1, e1⟩ := drawE ns rest 25 g (by decide) (by decide)
  obtain ⟨x2, a2, b2, c2, l2, g2, e2⟩ := pickE ns rest [.int 0, .int 1, .int 24, .int 7, .int r1] g1 (by simp) (by simp)
  have hx2 : ∃ z : Int, x2 = .int z ∧ 0 ≤ z ∧ z ≤ 24 := by
    simp only [List.mem_cons, List.not_mem_nil, or_false] at l2
    rcases l2 with rfl | rfl | rfl | rfl | rfl <;> exact ⟨_, rfl, by omega⟩
  obtain ⟨tick, rfl, ht⟩ := hx2
  have rg := rngOf_nat (n := n) (by omega)
  obtain ⟨ρ3, S3, e3, a3, b3, c3, rest3, j1, j2, en, go, k5, k6, k7, g3, hρ, hS, h12, hj1, hj2, be, bg, le, lg⟩ := Mi.turns_inv (src := none) (all := (List.range n).map fun (k : Nat) => AV.int (k : Int)) (bd := gN 5) (body := bodyF) (FcI ns n tick) (fun _ _ _ _ => still0) ((List.range n).map fun (k : Nat) => AV.int (k : Int))
    ⟨a2, b2, c2, rest ++ [.lst [.int 0, .int 1, .int 24, .int 7, .int r1], .lst [], .lst []], rest.length + 1, rest.length + 2, [], [], none, none, none, g2, rfl, rfl, by omega, by simp, by simp, (fun _ h => by cases h), (fun _ h => by cases h), by simp, by simp⟩
    (fun v vs ρ S I => facts_turn ns n tick ht hn v vs ρ S I)
  subst hρ hS
  obtain ⟨x4, a4, b4, c4, l4, g4, e4⟩ := pickE ns rest3 [.int 0, .int 0, .int 1, .int 2, .int 3, .int 5, .int 20] g3 (by simp) (by simp)
  have hx4 : ∃ m : Nat, x4 = .int (m : Int) ∧ m ≤ 20 := by
    simp only [List.mem_cons, List.not_mem_nil, or_false] at l4
    rcases l4 with rfl | rfl | rfl | rfl | rfl | rfl | rfl
    · exact ⟨0, rfl, by omega⟩
    · exact ⟨0, rfl, by omega⟩
    · exact ⟨1, rfl, by omega⟩
    · exact ⟨2, rfl, by omega⟩
    · exact ⟨3, rfl, by omega⟩
    · exact ⟨5, rfl, by omega⟩
    · exact ⟨20, rfl, by omega⟩
  obtain ⟨m, rfl, lm⟩ := hx4
  have rgm := rngOf_nat (n := m) (by omega)
  have i1 : j1 < rest3.length := (List.getElem?_eq_some_iff.mp hj1).1
  have i2 : j2 < rest3.length := (List.getElem?_eq_some_iff.mp hj2).1
  obtain ⟨ρ5, S5, e5, a5, b5, c5, rest5, j, ps, now, k11, g5, hρ, hS, n1, n2, hk1, hk2, hk, hnow, hps, lps⟩ := Mi.turns_inv (src := none) (all := (List.range m).map fun (k : Nat) => AV.int (k : Int)) (bd := gN 11) (body := bodyP) (PnI ns n tick j1 j2 (en.map oi) (go.map oi) m k5 k6 k7) (fun _ _ _ _ => still0) ((List.range m).map fun (k : Nat) => AV.int (k : Int))
    ⟨a4, b4, c4, rest3 ++ [.lst [.int 0, .int 0, .int 1, .int 2, .int 3, .int 5, .int 20], .lst []], rest3.length + 1, [], tick, none, g4, rfl, rfl, by omega, by omega, get_app hj1, get_app hj2, by simp, by simp; omega, (fun _ h => by cases h), by simp; omega⟩
    (fun v vs ρ S I => pend_turn ns n tick j1 j2 _ _ m k5 k6 k7 v vs ρ S I)
  subst hρ hS
  obtain ⟨r6, a6, b6, c6, l6, g6, e6⟩ := drawE ns rest5 4 g5 (by decide) (by decide)
  refine ⟨tick, r6, en, go, ps, a6, b6, c6, rest5, g6, by omega, by omega, by simpa using le, by simpa using lg, by simp at lps; omega, (fun o h t e => by have := be o h t e; omega), (fun o h t e => by have := bg o h t e; omega), hps, ?_⟩
  unfold bodyF at e3
  unfold bodyP at e5
  try simp at e3 e5
  have q1 := get_app (T := [.lst [.int 0, .int 0, .int 1, .int 2, .int 3, .int 5, .int 20]]) hj1
  unfold m__law_some_facts g__law_some_facts
  simp [callM, E_len, E_app, E_get, E_set, e1, e2, rg, e3, e4, rgm]
  rw [e5]
  simp [E_len, E_app, E_get, E_set, e6, hk1, hk2, hk, factsA]
end Pg
namespace Pg
open PySem PySem.Spec PyProof.Rows L2 Mi
theorem pures_of : ∀ {xs : List AV}, (∀ x ∈ xs, x.pure = true) → AV.pures xs = true
  | [], _ => rfl
  | x :: xs, h => by
    simp [AV.pures, h x (List.mem_cons_self ..), pures_of fun y hy => h y (List.mem_cons_of_mem _ hy)]
theorem pures_ints (zs : List Int) : AV.pures (zs.map .int) = true := pures_of fun x hx => by
  obtain ⟨z, _, rfl⟩ := List.mem_map.mp hx
  rfl
theorem pures_app {xs ys : List AV} (h : AV.pures xs = true) (h2 : AV.pures ys = true) : AV.pures (xs ++ ys) = true := by
  induction xs with
  | nil => exact h2
  | cons x xs ih =>
    simp only [AV.pures, Bool.and_eq_true] at h
    simp [AV.pures, h.1, ih h.2]
theorem pures_mem {xs : List AV} (h : AV.pures xs = true) : ∀ x ∈ xs, x.pure = true := by
  induction xs with
  | nil => intro x hx; cases hx
  | cons x xs ih =>
    simp only [AV.pures, Bool.and_eq_true] at h
    intro y hy
    rcases List.mem_cons.mp hy with rfl | hy
    · exact h.1
    · exact ih h.2 y hy
theorem pure_facts (tick force : Int) (en go : List (Option Int)) (ps : List (Int × Int)) : (factsA tick force en go ps).pure = true := by
  have ho : ∀ es : List (Option Int), AV.pures (es.map oi) = true := fun es => pures_of fun x hx => by
    obtain ⟨o, _, rfl⟩ := List.mem_map.mp hx
    cases o <;> rfl
  have hp : AV.pures (ps.map pr) = true := pures_of fun x hx => by
    obtain ⟨p, _, rfl⟩ := List.mem_map.mp hx
    rfl
  simp [factsA, AV.pure, AV.pures, ho, hp]
section
variable {n : Nat} {tick force : Int} {en go : List (Option Int)} {ps : List (Int × Int)} {st : List Int}
/-- one call of the program, from any store -/
theorem run_opened {x r : AV} {S : Sto} (hx : x.pure = true) (hr : r.pure = true) (h : ∀ S, m_opened_parcel [x, .int (n : Int)] S = .ok r S) : runP 2 m_opened_parcel [x, .int (n : Int)] S = .ok r S :=
  runP_ok rfl (by simp [AV.pures, AV.pure, hx]) (h []) hr
theorem pure_tup {xs : List AV} (h : AV.pures xs = true) : (AV.tup xs).pure = true := by simpa [AV.pure] using h
theorem pure_pair (tick force : Int) (en go : List (Option Int)) (ps : List (Int × Int)) (st : List Int) : (AV.tup [factsA tick force en go ps, .tup (st.map .int)]).pure = true := pure_tup (by simp [AV.pures, pure_facts, pure_tup (pures_ints st)])
theorem cut_right_ok (F : Fine n tick force en go ps st) (S : Sto) (size : Nat) (h : size ≤ (rowOf tick force en go ps st).length) : m__law_is_cut_right [.tup ((rowOf tick force en go ps st).map .int), .int (n : Int), factsA tick force en go ps, .tup (st.map .int), .int (size : Int)] S = .ok (.bl true) S := by
  have hl := row_len F
  have s2 := F.s2
  have k1 : cutA ((rowOf tick force en go ps st).map AV.int) none (some (size : Int)) = ((rowOf tick force en go ps st).map AV.int).take size := cutA_to _ _ (by simpa using h)
  have pt : (AV.tup (((rowOf tick force en go ps st).map AV.int).take size)).pure = true := pure_tup (by rw [← List.map_take]; exact pures_ints _)
  unfold m__law_is_cut_right g__law_is_cut_right
  by_cases hc : size < 3 + 2 * n + 2 * ps.length + 2
  · have e := run_opened (n := n) (S := S) pt (r := .non) rfl (fun S => opened_cut F S size hc)
    have i1 : (size : Int) < ((rowOf tick force en go ps st).length : Int) - (st.length : Int) + 2 := by omega
    simp [callM, k1, e, i1]
  · have hk : size = 3 + 2 * n + 2 * ps.length + (size - (3 + 2 * n + 2 * ps.length)) := by omega
    generalize hkk : size - (3 + 2 * n + 2 * ps.length) = k at hk
    have F2 := fine_take F k (by omega)
    have e0 : ((rowOf tick force en go ps st).map AV.int).take size = (rowOf tick force en go ps (st.take k)).map AV.int := by
      rw [hk, ← List.map_take, row_take F k]
    have e := run_opened (n := n) (S := S) pt (r := .tup [factsA tick force en go ps, .tup ((st.take k).map .int)]) (pure_pair ..) (fun S => by rw [e0]; exact opened_row F2 S)
    have i1 : ¬ (size : Int) < ((rowOf tick force en go ps st).length : Int) - (st.length : Int) + 2 := by omega
    have k2 : cutA (st.map AV.int) none (some ((size : Int) - (((rowOf tick force en go ps st).length : Int) - (st.length : Int) + 2) + 2)) = (st.take k).map .int := by
      have q : (size : Int) - (((rowOf tick force en go ps st).length : Int) - (st.length : Int) + 2) + 2 = (k : Int) := by omega
      rw [q, cutA_to _ _ (by rw [List.length_map]; omega), List.map_take]
    have sm := same_ok [factsA tick force en go ps, .tup ((st.take k).map .int)] S (fine_small F2)
    simp only [List.map_take] at sm
    simp [callM, k1, e, i1, k2, sm]
theorem swap_ok (S : Sto) (row : List Int) (i : Nat) (x : AV) (hx : okN x = false) (hp : x.pure = true) : runP 2 m_opened_parcel [.tup ((row.map .int).take i ++ [x] ++ (row.map .int).drop (i + 1)), .int (n : Int)] S = .ok .non S :=
  run_opened (pure_tup (pures_app (pures_app (by rw [← List.map_take]; exact pures_ints _) (by simp [AV.pures, hp])) (by rw [← List.map_drop]; exact pures_ints _))) rfl (fun S => opened_swap _ i x S hx)
theorem many_ok (F : Fine n tick force en go ps st) (S : Sto) (m : Nat) (h : 2 * ps.length + st.length < 2 * m + 2) (h2 : m ≤ 65536) : runP 2 m_opened_parcel [.tup (((rowOf tick force en go ps st).map .int).take (2 + 2 * n) ++ [.int (m : Int)] ++ ((rowOf tick force en go ps st).map .int).drop (3 + 2 * n)), .int (n : Int)] S = .ok .non S :=
  run_opened (pure_tup (pures_app (pures_app (by rw [← List.map_take]; exact pures_ints _) (by simp [AV.pures, AV.pure])) (by rw [← List.map_drop]; exact pures_ints _))) rfl (fun S => opened_many F S m h h2)
theorem mC2 (x : Int) : cDiv x 2 := by unfold cDiv; decide
theorem refused_ok (F : Fine n tick force en go ps st) (ns : List Int) (a b c : Int) (rest : Sto) (g : Good a b c) : ∃ (a' b' c' : Int) (rest' : Sto), Good a' b' c' ∧ m__law_is_refused [.ref 1, .tup ((rowOf tick force en go ps st).map .int), .int (n : Int)] (E ns a b c rest) = .ok (.bl true) (E ns a' b' c' rest') := by
  have hl := row_len F
  have s2 := F.s2
  have s100 := F.s100
  have n4 := F.n4
  have lp := F.lp
  have sw := fun (S : Sto) (i : Nat) (x : AV) (hx : okN x = false) (hp : x.pure = true) => swap_ok (n := n) S (rowOf tick force en go ps st) i x hx hp
  have mo := fun (S : Sto) (m : Nat) (h : 2 * ps.length + st.length < 2 * m + 2) (h2 : m ≤ 65536) => many_ok F S m h h2
  generalize hrow : rowOf tick force en go ps st = row at *
  have hd : ∃ M : Nat, ((row.length : Int) - (3 + 2 * (n : Int)) - 2) / 2 = (M : Int) ∧ 2 * ps.length + st.length < 2 * (M + 1) + 2 ∧ M ≤ 100 := by
    refine ⟨(2 * ps.length + st.length - 2) / 2, ?_, ?_, ?_⟩
    · rw [hl]
      omega
    · omega
    · omega
  obtain ⟨M, hM, hM1, hM2⟩ := hd
  obtain ⟨r1, a1, b1, c1, l1, g1, e1⟩ := drawE ns rest 40 g (by decide) (by decide)
  have u1 : cutA (row.map AV.int) none (some (3 + 2 * (n : Int) - 1)) = (row.map AV.int).take (2 + 2 * n) := by
    have e : 3 + 2 * (n : Int) - 1 = ((2 + 2 * n : Nat) : Int) := by omega
    rw [e]
    exact cutA_to _ _ (by rw [List.length_map]; omega)
  have u2 : cutA (row.map AV.int) (some (3 + 2 * (n : Int))) none = (row.map AV.int).drop (3 + 2 * n) := by
    have e : 3 + 2 * (n : Int) = ((3 + 2 * n : Nat) : Int) := by omega
    rw [e]
    exact cutA_from _ _ (by rw [List.length_map]; omega)
  have z1 : ((row.map AV.int).take (2 + 2 * n)).length ≤ 1000 := by rw [List.length_take, List.length_map]; omega
  have z2 : ((row.map AV.int).drop (3 + 2 * n)).length ≤ 1000 := by rw [List.length_drop, List.length_map]; omega
  obtain ⟨w2, e2⟩ := turns_look (ρ := [some (.ref 1), some (.tup (row.map .int)), some (.int (n : Int)), some (.int (3 + 2 * (n : Int))), some (.int (M : Int)), none, none, none, none]) (S := E ns a1 b1 c1 rest) (all := [.int ((M : Int) + 1), .int ((M : Int) + 2 + r1), .int 65536]) (body := (sIf (bIs (mOp aNs (mCallP 2 m_opened_parcel (mCons (mOp aAdd (mOp aAdd (mSl slT (mVar 1) oNone (oSome (mOp aSub (mVar 3) (mC (.int 1))))) (mTup (mCons (mVar 5) mNil))) (mSl slT (mVar 1) (oSome (mVar 3)) oNone)) (mCons (mVar 2) mNil))) (mC .non))) (sRet (mC (.bl false))) sNext)) 5 (by simp) [.int ((M : Int) + 1), .int ((M : Int) + 2 + r1), .int 65536] (by
    intro v hv w
    have hx : ∃ m : Nat, v = .int (m : Int) ∧ 2 * ps.length + st.length < 2 * m + 2 ∧ m ≤ 65536 := by
      simp only [List.mem_cons, List.not_mem_nil, or_false] at hv
      rcases hv with rfl | rfl | rfl
      · exact ⟨M + 1, rfl, by omega, by omega⟩
      · obtain ⟨k, rfl⟩ := Int.eq_ofNat_of_zero_le l1.1
        exact ⟨M + 2 + k, rfl, by omega, by omega⟩
      · exact ⟨65536, rfl, by omega, by omega⟩
    obtain ⟨m, rfl, h1, h2⟩ := hx
    have q := mo (E ns a1 b1 c1 rest) m h1 h2
    generalize (row.map AV.int).take (2 + 2 * n) = A at *
    generalize (row.map AV.int).drop (3 + 2 * n) = B at *
    have z3 : A.length ≤ 99999 := by omega
    have z4 : A.length + 1 + B.length ≤ 100000 := by omega
    simp only [List.append_assoc] at q
    simp at q
    simp [u1, u2, q, z3, z4])
  obtain ⟨r3, a3, b3, c3, l3, g3, e3⟩ := drawE ns rest (row.length : Int) g1 (by omega) (by omega)
  obtain ⟨x4, a4, b4, c4, l4, g4, e4⟩ := pickE ns rest [.int 0, .int 1, .int (3 + 2 * (n : Int) - 1), .int (3 + 2 * (n : Int)), .int ((row.length : Int) - 1), .int r3] g3 (by simp) (by simp)
  have hx4 : ∃ k : Nat, x4 = .int (k : Int) ∧ k < row.length := by
    simp only [List.mem_cons, List.not_mem_nil, or_false] at l4
    rcases l4 with rfl | rfl | rfl | rfl | rfl | rfl
    · exact ⟨0, rfl, by omega⟩
    · exact ⟨1, rfl, by omega⟩
    · exact ⟨2 + 2 * n, congrArg AV.int (by omega), by omega⟩
    · exact ⟨3 + 2 * n, congrArg AV.int (by omega), by omega⟩
    · exact ⟨row.length - 1, congrArg AV.int (by omega), by omega⟩
    · exact ⟨r3.toNat, congrArg AV.int (by omega), by omega⟩
  obtain ⟨k, rfl, hk⟩ := hx4
  have v1 : cutA (row.map AV.int) none (some (k : Int)) = (row.map AV.int).take k := cutA_to _ _ (by rw [List.length_map]; omega)
  have v2 : cutA (row.map AV.int) (some ((k : Int) + 1)) none = (row.map AV.int).drop (k + 1) := by
    have e : (k : Int) + 1 = ((k + 1 : Nat) : Int) := by omega
    rw [e]
    exact cutA_from _ _ (by rw [List.length_map]; omega)
  have y1 : ((row.map AV.int).take k).length ≤ 1000 := by rw [List.length_take, List.length_map]; omega
  have y2 : ((row.map AV.int).drop (k + 1)).length ≤ 1000 := by rw [List.length_drop, List.length_map]; omega
  obtain ⟨r5, a5, b5, c5, l5, g5, e5⟩ := drawE ns (rest ++ [.lst [.int 0, .int 1, .int (3 + 2 * (n : Int) - 1), .int (3 + 2 * (n : Int)), .int ((row.length : Int) - 1), .int r3]]) 70000 g4 (by decide) (by decide)
  obtain ⟨r6, a6, b6, c6, l6, g6, e6⟩ := drawE ns (rest ++ [.lst [.int 0, .int 1, .int (3 + 2 * (n : Int) - 1), .int (3 + 2 * (n : Int)), .int ((row.length : Int) - 1), .int r3]]) 70000 g5 (by decide) (by decide)
  have swap : ∀ (i : Nat) (ρ : Slots) (S : Sto) (x : AV), ρ[1]? = some (some (.tup (row.map .int))) → ρ[2]? = some (some (.int (n : Int))) → ρ[6]? = some (some (.int (k : Int))) → ρ[i]? = some (some x) → okN x = false → x.pure = true → (sIf (bIs (mOp aNs (mCallP 2 m_opened_parcel (mCons (mOp aAdd (mOp aAdd (mSl slT (mVar 1) oNone (oSome (mVar 6))) (mTup (mCons (mVar i) mNil))) (mSl slT (mVar 1) (oSome (mOp aAdd (mVar 6) (mC (.int 1)))) oNone)) (mCons (mVar 2) mNil))) (mC .non))) (sRet (mC (.bl false))) sNext) ρ S = .nx ρ S := by
    intro i ρ S x p1 p2 p6 pi hx hp
    have q := sw S k x hx hp
    generalize (row.map AV.int).take k = A at *
    generalize (row.map AV.int).drop (k + 1) = B at *
    have z3 : A.length ≤ 99999 := by omega
    have z4 : A.length + 1 + B.length ≤ 100000 := by omega
    simp only [List.append_assoc] at q
    simp at q
    simp [p1, p2, p6, pi, v1, v2, q, z3, z4]
  obtain ⟨w7, e7⟩ := turns_look (ρ := [some (.ref 1), some (.tup (row.map .int)), some (.int (n : Int)), some (.int (3 + 2 * (n : Int))), some (.int (M : Int)), w2, some (.int (k : Int)), none, none]) (S := E ns a6 b6 c6 (rest ++ [.lst [.int 0, .int 1, .int (3 + 2 * (n : Int) - 1), .int (3 + 2 * (n : Int)), .int ((row.length : Int) - 1), .int r3]])) (all := [.int (-1), .int (-1 - r5), .int 65537, .int (65537 + r6)]) 7 (by simp) [.int (-1), .int (-1 - r5), .int 65537, .int (65537 + r6)] (fun v hv w => swap 7 _ _ v (by simp) (by simp) (by simp) (by simp) (by
    simp only [List.mem_cons, List.not_mem_nil, or_false] at hv
    rcases hv with rfl | rfl | rfl | rfl <;> simp [okN] <;> omega) (by
    simp only [List.mem_cons, List.not_mem_nil, or_false] at hv
    rcases hv with rfl | rfl | rfl | rfl <;> rfl))
  obtain ⟨w8, e8⟩ := turns_look (ρ := [some (.ref 1), some (.tup (row.map .int)), some (.int (n : Int)), some (.int (3 + 2 * (n : Int))), some (.int (M : Int)), w2, some (.int (k : Int)), w7, none]) (S := E ns a6 b6 c6 (rest ++ [.lst [.int 0, .int 1, .int (3 + 2 * (n : Int) - 1), .int (3 + 2 * (n : Int)), .int ((row.length : Int) - 1), .int r3]])) (all := [.non, .str "1", .tup [], .tup [.int 1]]) 8 (by simp) [.non, .str "1", .tup [], .tup [.int 1]] (fun v hv w => swap 8 _ _ v (by simp) (by simp) (by simp) (by simp) (by
    simp only [List.mem_cons, List.not_mem_nil, or_false] at hv
    rcases hv with rfl | rfl | rfl | rfl <;> rfl) (by
    simp only [List.mem_cons, List.not_mem_nil, or_false] at hv
    rcases hv with rfl | rfl | rfl | rfl <;> rfl))
  have thing : ∀ (S : Sto) (j : Nat) (x : AV), x ∈ [.non, .tup [], .str "", .str "facts", .int 7, .ref j, .tup [.tup (row.map .int)]] → m_opened_parcel [x, .int (n : Int)] S = .ok .non S := by
    intro S j x hx
    simp only [List.mem_cons, List.not_mem_nil, or_false] at hx
    rcases hx with rfl | rfl | rfl | rfl | rfl | rfl | rfl
    · exact opened_no _ (by intro xs h; cases h) _ _
    · exact opened_short1 [] n S rfl (by simp only [List.length_nil]; omega)
    · exact opened_no _ (by intro xs h; cases h) _ _
    · exact opened_no _ (by intro xs h; cases h) _ _
    · exact opened_no _ (by intro xs h; cases h) _ _
    · exact opened_no _ (by intro xs h; cases h) _ _
    · exact opened_bad _ rfl _ _
  obtain ⟨w9, e9⟩ := turns_look (ρ := [some (.ref 1), some (.tup (row.map .int)), some (.int (n : Int)), some (.int (3 + 2 * (n : Int))), some (.int (M : Int)), w2, some (.int (k : Int)), w7, w8]) (S := E ns a6 b6 c6 (rest ++ [.lst [.int 0, .int 1, .int (3 + 2 * (n : Int) - 1), .int (3 + 2 * (n : Int)), .int ((row.length : Int) - 1), .int r3], .lst (row.map .int)])) (all := [.non, .tup [], .str "", .str "facts", .int 7, .ref (rest.length + 1 + 2), .tup [.tup (row.map .int)]]) (body := (sIf (bIs (mOp aNs (mCall 2 m_opened_parcel (mCons (mVar 8) (mCons (mVar 2) mNil))) (mC .non))) (sRet (mC (.bl false))) sNext)) 8 (by simp) [.non, .tup [], .str "", .str "facts", .int 7, .ref (rest.length + 1 + 2), .tup [.tup (row.map .int)]] (fun v hv w => by
    have q := thing (E ns a6 b6 c6 (rest ++ [.lst [.int 0, .int 1, .int (3 + 2 * (n : Int) - 1), .int (3 + 2 * (n : Int)), .int ((row.length : Int) - 1), .int r3], .lst (row.map .int)])) _ v hv
    simp [q])
  have y3 : row.length ≤ 100000 := by omega
  refine ⟨a6, b6, c6, rest ++ [.lst [.int 0, .int 1, .int (3 + 2 * (n : Int) - 1), .int (3 + 2 * (n : Int)), .int ((row.length : Int) - 1), .int r3], .lst (row.map .int)], g6, ?_⟩
  unfold m__law_is_refused g__law_is_refused
  simp [m2] at e2 e7 e8 e9
  simp [callM, m2, mC2, hM, E_len, E_app, E_get, E_set, e1, e2, e3, e4, e5, e6, e7, e8]
  rw [e9]
  simp
end
end Pg
namespace Pg
open PySem PySem.Spec PyProof.Rows L2 Mi
theorem eqB_self (xs : List AV) (h : SmA (.tup xs) 60 6600) : aEqB (.tup xs) (.tup xs) = some true := by
  obtain ⟨d, e, s⟩ := h
  have sh : SeqAt.shaped d = true := by
    have := s.dep
    simp [SeqAt.shaped, s.lay]
    omega
  show ((AV.tup xs).data.bind fun d => (AV.tup xs).data.bind fun e => if SeqAt.shaped d = true ∧ SeqAt.shaped e = true then some (PyData.eqv d e) else none) = some true
  rw [e]
  simp [sh, PySem.SeqAt.eqv_refl d s.lay]
theorem blsOf_true : ∀ n : Nat, blsOf (List.replicate n (.bl true)) = some (List.replicate n true)
  | 0 => rfl
  | n + 1 => by simp [List.replicate_succ, blsOf, blsOf_true n]
theorem law_is_ints_ok (zs : List Int) (S : Sto) (h : zs.length ≤ 100000) : m__law_is_ints [.tup (zs.map .int)] S = .ok (.bl true) S := by
  have q := compT_map (src := none) (all := zs.map AV.int) (t := .n 1) (f := mCall 1 m__law_is_int (mCons (mVar 1) mNil)) (ρ := [some (.tup (zs.map .int)), none]) (S := S) (fun _ => .bl true) still0 (zs.map AV.int) (fun v hv => by
    obtain ⟨z, _, rfl⟩ := List.mem_map.mp hv
    exact ⟨_, rfl, by simp [law_is_int_ok, isI]⟩)
  have e : (zs.map AV.int).map (fun _ => AV.bl true) = List.replicate zs.length (.bl true) := by
    rw [List.map_const', List.length_map]
  rw [e] at q
  unfold m__law_is_ints g__law_is_ints
  simp [callM, isi_tup, h, wipeA, q, blsOf_true]
section
variable {n : Nat} {tick force : Int} {en go : List (Option Int)} {ps : List (Int × Int)} {st : List Int}
theorem row_small (F : Fine n tick force en go ps st) : SmA (.tup ((rowOf tick force en go ps st).map .int)) 60 6600 := by
  have hl := row_len F
  have := F.n4
  have := F.lp
  have := F.s100
  refine smA_mono (smA_tup (smAs_all (k := 0) (w := 17) _ fun x hx => ?_)) (by decide) ?_
  · obtain ⟨z, hz, rfl⟩ := List.mem_map.mp hx
    have := row_mem F z hz
    exact smA_int z (by omega)
  · rw [List.length_map]
    omega
def LwI (ns : List Int) (vs : List AV) (ρ : Slots) (S : Sto) : Prop := ∃ (a b c : Int) (rest : Sto) (k2 k3 k4 k5 k6 k7 k8 k9 k10 : Option AV), Good a b c ∧ ρ = [some (.rol (ns.map .int)), some (.ref 1), k2, k3, k4, k5, k6, k7, k8, k9, k10] ∧ S = E ns a b c rest
noncomputable def bodyC : MS := (sIf (bNot (bVal (mCall 5 m__law_is_cut_right (mCons (mVar 6) (mCons (mVar 3) (mCons (mVar 4) (mCons (mVar 5) (mCons (mVar 10) mNil)))))))) (sRet (mC (.bl false))) sNext)
noncomputable def bodyL : MS := (sSeq (sSet 3 (mCall 2 m__law_pick (mCons (mVar 1) (mCons (mNew (lLst (mCons (mC (.int 2)) (mCons (mC (.int 1)) (mCons (mC (.int 3)) (mCons (mC (.int 4)) (mCons (mC (.int 2)) mNil))))))) mNil))))
      (sSeq (sSet 4 (mCall 2 m__law_some_facts (mCons (mVar 1) (mCons (mVar 3) mNil))))
      (sSeq (sSet 5 (mCall 2 m__law_some_state (mCons (mVar 1) (mCons (mVar 3) mNil))))
      (sSeq (sSet 6 (mCallP 2 m__law_row_of (mCons (mVar 4) (mCons (mVar 5) mNil))))
      (sSeq (sSet 7 (mCallP 2 m_parcel_of (mCons (mVar 4) (mCons (mVar 5) mNil))))
      (sSeq (sIf (bOr (bNot (bVal (mCall 1 m__law_is_ints (mCons (mVar 7) mNil)))) (bIs (mOp aNe (mVar 7) (mVar 6)))) (sRet (mC (.bl false))) sNext)
      (sSeq (sIf (bNot (bVal (mCall 2 m__law_is_same (mCons (mCallP 2 m_opened_parcel (mCons (mVar 6) (mCons (mVar 3) mNil))) (mCons (mTup (mCons (mVar 4) (mCons (mVar 5) mNil))) mNil))))) (sRet (mC (.bl false))) sNext)
      (sSeq (sSet 8 (mOp aAdd (mOp aSub (mCallB bLen (mCons (mVar 6) mNil)) (mCallB bLen (mCons (mVar 5) mNil))) (mC (.int 2))))
      (sSeq (sSet 9 (mOp aAdd (mC (.int 3)) (mOp aMul (mC (.int 2)) (mVar 3))))
      (sSeq (sFor (iNew (lLst (mCons (mC (.int 0)) (mCons (mOp aSub (mVar 9) (mC (.int 1))) (mCons (mVar 9) (mCons (mOp aSub (mVar 8) (mC (.int 1))) (mCons (mVar 8) (mCons (mOp aSub (mCallB bLen (mCons (mVar 6) mNil)) (mC (.int 1))) (mCons (mCall 2 m__law_draw (mCons (mVar 1) (mCons (mCallB bLen (mCons (mVar 6) mNil)) mNil))) mNil))))))))) (gN 10) (sIf (bNot (bVal (mCall 5 m__law_is_cut_right (mCons (mVar 6) (mCons (mVar 3) (mCons (mVar 4) (mCons (mVar 5) (mCons (mVar 10) mNil)))))))) (sRet (mC (.bl false))) sNext))
      (sSeq (sIf (bNot (bVal (mCall 3 m__law_is_refused (mCons (mVar 1) (mCons (mVar 6) (mCons (mVar 3) mNil)))))) (sRet (mC (.bl false))) sNext)
      (sSeq (sSet 7 (mCallP 2 m_opened_parcel (mCons (mVar 6) (mCons (mVar 3) mNil))))
      (sIf (bOr (bNot (bVal (mCall 2 m__law_is_same (mCons (mVar 7) (mCons (mTup (mCons (mVar 4) (mCons (mVar 5) mNil))) mNil))))) (bIs (mOp aNe (mCallP 2 m_parcel_of (mCons (mIx (mVar 7) (mC (.int 0))) (mCons (mIx (mVar 7) (mC (.int 1))) mNil))) (mVar 6)))) (sRet (mC (.bl false))) sNext)))))))))))))
theorem law_turn (ns : List Int) (v : AV) (vs : List AV) (ρ : Slots) (S : Sto) (I : LwI ns (v :: vs) ρ S) : ∃ ρ1, gN 2 v ρ = some ρ1 ∧ ∃ ρ' S', bodyL ρ1 S = .nx ρ' S' ∧ LwI ns vs ρ' S' := by
  obtain ⟨a, b, c, rest, k2, k3, k4, k5, k6, k7, k8, k9, k10, g, rfl, rfl⟩ := I
  refine ⟨_, rfl, ?_⟩
  obtain ⟨x1, a1, b1, c1, l1, g1, e1⟩ := pickE ns rest [.int 2, .int 1, .int 3, .int 4, .int 2] g (by simp) (by simp)
  have hx1 : ∃ n : Nat, x1 = .int (n : Int) ∧ 1 ≤ n ∧ n ≤ 4 := by
    simp only [List.mem_cons, List.not_mem_nil, or_false] at l1
    rcases l1 with rfl | rfl | rfl | rfl | rfl
    · exact ⟨2, rfl, by omega⟩
    · exact ⟨1, rfl, by omega⟩
    · exact ⟨3, rfl, by omega⟩
    · exact ⟨4, rfl, by omega⟩
    · exact ⟨2, rfl, by omega⟩
  obtain ⟨n, rfl, hn⟩ := hx1
  obtain ⟨tick, force, en, go, ps, a2, b2, c2, rest2, g2, t2, f2, le, lg, lp, he, hg, hp, e2⟩ := some_facts_ok ns a1 b1 c1 (rest ++ [.lst [.int 2, .int 1, .int 3, .int 4, .int 2]]) n g1 hn.2
  obtain ⟨st, a3, b3, c3, rest3, g3, hs, s2, s44, e3⟩ := some_state_ok ns a2 b2 c2 rest2 n g2 hn.2
  have F : Fine n tick force en go ps st := ⟨hn.1, hn.2, le, lg, lp, s2, by omega, t2, f2, he, hg, hp, hs⟩
  have hl := row_len F
  have hq := row_small F
  have eqq := eqB_self _ hq
  have pf := pure_facts tick force en go ps
  have pst : (AV.tup (st.map .int)).pure = true := pure_tup (pures_ints st)
  have prow : (AV.tup ((rowOf tick force en go ps st).map .int)).pure = true := pure_tup (pures_ints _)
  have r1 : ∀ S, runP 2 m__law_row_of [factsA tick force en go ps, .tup (st.map .int)] S = .ok (.tup ((rowOf tick force en go ps st).map .int)) S := fun S => by
    obtain ⟨S', e⟩ := row_ok tick force en go ps st (by omega) (by omega) lp (by omega)
    exact runP_ok rfl (by simp [AV.pures, pf, pst]) e prow
  have r2 : ∀ S, runP 2 m_parcel_of [factsA tick force en go ps, .tup (st.map .int)] S = .ok (.tup ((rowOf tick force en go ps st).map .int)) S := fun S => by
    obtain ⟨S', e⟩ := parcel_ok tick force en go ps st (by omega) (by omega) lp (by omega)
    exact runP_ok rfl (by simp [AV.pures, pf, pst]) e prow
  have r3 : ∀ S, runP 2 m_opened_parcel [.tup ((rowOf tick force en go ps st).map .int), .int (n : Int)] S = .ok (.tup [factsA tick force en go ps, .tup (st.map .int)]) S := fun S => run_opened prow (pure_pair ..) (fun S => opened_row F S)
  have sm := fun S => same_ok [factsA tick force en go ps, .tup (st.map .int)] S (fine_small F)
  have ii := fun S => law_is_ints_ok (rowOf tick force en go ps st) S (by omega)
  have cr := cut_right_ok F
  obtain ⟨r4, a4, b4, c4, l4, g4, e4⟩ := drawE ns rest3 ((rowOf tick force en go ps st).length : Int) g3 (by omega) (by omega)
  obtain ⟨a5, b5, c5, rest5, g5, e5⟩ := refused_ok F ns a4 b4 c4 rest3 g4
  generalize factsA tick force en go ps = fa at *
  generalize rowOf tick force en go ps st = row at *
  have hleast : (row.length : Int) - (st.length : Int) + 2 = ((3 + 2 * n + 2 * ps.length + 2 : Nat) : Int) := by omega
  obtain ⟨w, e6⟩ := turns_look (ρ := [some (.rol (ns.map .int)), some (.ref 1), some v, some (.int (n : Int)), some fa, some (.tup (st.map .int)), some (.tup (row.map .int)), some (.tup (row.map .int)), some (.int ((row.length : Int) - (st.length : Int) + 2)), some (.int (3 + 2 * (n : Int))), k10]) (S := E ns a4 b4 c4 rest3) (all := [.int 0, .int (3 + 2 * (n : Int) - 1), .int (3 + 2 * (n : Int)), .int ((row.length : Int) - (st.length : Int) + 2 - 1), .int ((row.length : Int) - (st.length : Int) + 2), .int ((row.length : Int) - 1), .int r4]) (body := bodyC) 10 (by simp) [.int 0, .int (3 + 2 * (n : Int) - 1), .int (3 + 2 * (n : Int)), .int ((row.length : Int) - (st.length : Int) + 2 - 1), .int ((row.length : Int) - (st.length : Int) + 2), .int ((row.length : Int) - 1), .int r4] (by
    intro x hx w
    have hx2 : ∃ k : Nat, x = .int (k : Int) ∧ k ≤ row.length := by
      simp only [List.mem_cons, List.not_mem_nil, or_false] at hx
      rcases hx with rfl | rfl | rfl | rfl | rfl | rfl | rfl
      · exact ⟨0, rfl, by omega⟩
      · exact ⟨2 + 2 * n, congrArg AV.int (by omega), by omega⟩
      · exact ⟨3 + 2 * n, congrArg AV.int (by omega), by omega⟩
      · exact ⟨3 + 2 * n + 2 * ps.length + 1, congrArg AV.int (by omega), by omega⟩
      · exact ⟨3 + 2 * n + 2 * ps.length + 2, congrArg AV.int (by omega), by omega⟩
      · exact ⟨row.length - 1, congrArg AV.int (by omega), by omega⟩
      · exact ⟨r4.toNat, congrArg AV.int (by omega), by omega⟩
    obtain ⟨k, rfl, hk⟩ := hx2
    have q := cr (E ns a4 b4 c4 rest3) k hk
    unfold bodyC
    simp [q])
  refine ⟨[some (.rol (ns.map .int)), some (.ref 1), some v, some (.int (n : Int)), some fa, some (.tup (st.map .int)), some (.tup (row.map .int)), some (.tup [fa, .tup (st.map .int)]), some (.int ((row.length : Int) - (st.length : Int) + 2)), some (.int (3 + 2 * (n : Int))), w], E ns a5 b5 c5 rest5, ?_, a5, b5, c5, rest5, _, _, _, _, _, _, _, _, _, g5, rfl, rfl⟩
  simp at e6
  unfold bodyC at e6
  unfold bodyL
  simp [E_len, E_app, E_get, E_set, e1, e2, e3, e4, e5, r1, r2, r3, sm, ii, eqq, m2, e6]
end
theorem law_true (ns : List Int) (hl : ns.length ≤ 63) : ∃ S, m_law [.rol (ns.map .int)] [] = .ok (.bl true) S := by
  have e0 := begin_ok ns hl
  have rg := rngOf_nat (n := 2) (by decide)
  obtain ⟨ρ', S', e1, a, b, c, rest, k2, k3, k4, k5, k6, k7, k8, k9, k10, g, rfl, rfl⟩ := Mi.turns_inv (src := none) (all := (List.range 2).map fun (k : Nat) => AV.int (k : Int)) (bd := gN 2) (body := bodyL) (LwI ns) (fun _ _ _ _ => still0) ((List.range 2).map fun (k : Nat) => AV.int (k : Int))
    ⟨0, 0, 11, [], none, none, none, none, none, none, none, none, none, ⟨by decide, by decide, by decide⟩, rfl, rfl⟩
    (fun v vs ρ S I => law_turn ns v vs ρ S I)
  refine ⟨E ns a b c rest, ?_⟩
  have e0' : m__law_begin [.rol (ns.map .int)] [] = .ok (.ref 1) (E ns 0 0 11 []) := by
    simp only [E]
    exact e0
  have rg2 : rngOf 0 2 = some ((List.range 2).map fun (k : Nat) => AV.int (k : Int), none) := rg
  have hg : g_law = sSeq (sSet 1 (mCall 1 m__law_begin (mCons (mVar 0) mNil))) (sSeq (sFor (iRg1 (mC (.int 2))) (gN 2) bodyL) (sRet (mC (.bl true)))) := rfl
  unfold m_law
  rw [hg]
  simp [List.range_succ] at e1
  simp [callM, e0', rg2, List.range_succ, e1]
end Pg
namespace Pg
open PySem PySem.Spec PyProof.Rows L2 Mi
theorem all_mk {l : PySem.W.OpenLaw} {w : World} {K : PySem.W.Frag} {h : Heap} {mg : Str → Option Value} {fa : Addr} (X : K.In h) (G : h.Ns mainGlobals mg) (hfa : mg "law" = some (.ref fa))
    {f0 : Addr} {od0 an0 : Option Addr} {sl0 : Array (Option Value)} {oc0 kV0 dc0 pm0 cd0 ct0 : Value}
    (a0 : PySem.W.nsIn K mainGlobals "is_int" = some (some (.ref f0))) (l0 : K.lookup f0 = some ⟨oc0, od0, .func (PySem.W.fnOf "is_int" "is_int" (defArgs s_is_int) (defBody s_is_int) (defScope s_is_int) .none kV0 dc0 pm0 an0 cd0 ct0), sl0⟩) (c0 : PySem.W.codeIn K cd0 "is_int" = true) (k0 : PySem.W.keepIn K (.ref f0) = true)
    {f1 : Addr} {od1 an1 : Option Addr} {sl1 : Array (Option Value)} {oc1 kV1 dc1 pm1 cd1 ct1 : Value}
    (a1 : PySem.W.nsIn K mainGlobals "is_ints" = some (some (.ref f1))) (l1 : K.lookup f1 = some ⟨oc1, od1, .func (PySem.W.fnOf "is_ints" "is_ints" (defArgs s_is_ints) (defBody s_is_ints) (defScope s_is_ints) .none kV1 dc1 pm1 an1 cd1 ct1), sl1⟩) (c1 : PySem.W.codeIn K cd1 "is_ints" = true) (k1 : PySem.W.keepIn K (.ref f1) = true)
    {f2 : Addr} {od2 an2 : Option Addr} {sl2 : Array (Option Value)} {oc2 kV2 dc2 pm2 cd2 ct2 : Value}
    (a2 : PySem.W.nsIn K mainGlobals "is_ints_between" = some (some (.ref f2))) (l2 : K.lookup f2 = some ⟨oc2, od2, .func (PySem.W.fnOf "is_ints_between" "is_ints_between" (defArgs s_is_ints_between) (defBody s_is_ints_between) (defScope s_is_ints_between) .none kV2 dc2 pm2 an2 cd2 ct2), sl2⟩) (c2 : PySem.W.codeIn K cd2 "is_ints_between" = true) (k2 : PySem.W.keepIn K (.ref f2) = true)
    {f3 : Addr} {od3 an3 : Option Addr} {sl3 : Array (Option Value)} {oc3 kV3 dc3 pm3 cd3 ct3 : Value}
    (a3 : PySem.W.nsIn K mainGlobals "tick_number" = some (some (.ref f3))) (l3 : K.lookup f3 = some ⟨oc3, od3, .func (PySem.W.fnOf "tick_number" "tick_number" (defArgs s_tick_number) (defBody s_tick_number) (defScope s_tick_number) .none kV3 dc3 pm3 an3 cd3 ct3), sl3⟩) (c3 : PySem.W.codeIn K cd3 "tick_number" = true) (k3 : PySem.W.keepIn K (.ref f3) = true)
    {f4 : Addr} {od4 an4 : Option Addr} {sl4 : Array (Option Value)} {oc4 kV4 dc4 pm4 cd4 ct4 : Value}
    (a4 : PySem.W.nsIn K mainGlobals "tick_of" = some (some (.ref f4))) (l4 : K.lookup f4 = some ⟨oc4, od4, .func (PySem.W.fnOf "tick_of" "tick_of" (defArgs s_tick_of) (defBody s_tick_of) (defScope s_tick_of) .none kV4 dc4 pm4 an4 cd4 ct4), sl4⟩) (c4 : PySem.W.codeIn K cd4 "tick_of" = true) (k4 : PySem.W.keepIn K (.ref f4) = true)
    {f5 : Addr} {od5 an5 : Option Addr} {sl5 : Array (Option Value)} {oc5 kV5 dc5 pm5 cd5 ct5 : Value}
    (a5 : PySem.W.nsIn K mainGlobals "parcel_of" = some (some (.ref f5))) (l5 : K.lookup f5 = some ⟨oc5, od5, .func (PySem.W.fnOf "parcel_of" "parcel_of" (defArgs s_parcel_of) (defBody s_parcel_of) (defScope s_parcel_of) .none kV5 dc5 pm5 an5 cd5 ct5), sl5⟩) (c5 : PySem.W.codeIn K cd5 "parcel_of" = true) (k5 : PySem.W.keepIn K (.ref f5) = true)
    {f6 : Addr} {od6 an6 : Option Addr} {sl6 : Array (Option Value)} {oc6 kV6 dc6 pm6 cd6 ct6 : Value}
    (a6 : PySem.W.nsIn K mainGlobals "opened_parcel" = some (some (.ref f6))) (l6 : K.lookup f6 = some ⟨oc6, od6, .func (PySem.W.fnOf "opened_parcel" "opened_parcel" (defArgs s_opened_parcel) (defBody s_opened_parcel) (defScope s_opened_parcel) .none kV6 dc6 pm6 an6 cd6 ct6), sl6⟩) (c6 : PySem.W.codeIn K cd6 "opened_parcel" = true) (k6 : PySem.W.keepIn K (.ref f6) = true)
    {f7 : Addr} {od7 an7 : Option Addr} {sl7 : Array (Option Value)} {oc7 kV7 dc7 pm7 cd7 ct7 : Value}
    (a7 : PySem.W.nsIn K mainGlobals "_law_begin" = some (some (.ref f7))) (l7 : K.lookup f7 = some ⟨oc7, od7, .func (PySem.W.fnOf "_law_begin" "_law_begin" (defArgs s__law_begin) (defBody s__law_begin) (defScope s__law_begin) .none kV7 dc7 pm7 an7 cd7 ct7), sl7⟩) (c7 : PySem.W.codeIn K cd7 "_law_begin" = true) (k7 : PySem.W.keepIn K (.ref f7) = true)
    {f8 : Addr} {od8 an8 : Option Addr} {sl8 : Array (Option Value)} {oc8 kV8 dc8 pm8 cd8 ct8 : Value}
    (a8 : PySem.W.nsIn K mainGlobals "_law_draw" = some (some (.ref f8))) (l8 : K.lookup f8 = some ⟨oc8, od8, .func (PySem.W.fnOf "_law_draw" "_law_draw" (defArgs s__law_draw) (defBody s__law_draw) (defScope s__law_draw) .none kV8 dc8 pm8 an8 cd8 ct8), sl8⟩) (c8 : PySem.W.codeIn K cd8 "_law_draw" = true) (k8 : PySem.W.keepIn K (.ref f8) = true)
    {f9 : Addr} {od9 an9 : Option Addr} {sl9 : Array (Option Value)} {oc9 kV9 dc9 pm9 cd9 ct9 : Value}
    (a9 : PySem.W.nsIn K mainGlobals "_law_pick" = some (some (.ref f9))) (l9 : K.lookup f9 = some ⟨oc9, od9, .func (PySem.W.fnOf "_law_pick" "_law_pick" (defArgs s__law_pick) (defBody s__law_pick) (defScope s__law_pick) .none kV9 dc9 pm9 an9 cd9 ct9), sl9⟩) (c9 : PySem.W.codeIn K cd9 "_law_pick" = true) (k9 : PySem.W.keepIn K (.ref f9) = true)
    {f10 : Addr} {od10 an10 : Option Addr} {sl10 : Array (Option Value)} {oc10 kV10 dc10 pm10 cd10 ct10 : Value}
    (a10 : PySem.W.nsIn K mainGlobals "_law_is_int" = some (some (.ref f10))) (l10 : K.lookup f10 = some ⟨oc10, od10, .func (PySem.W.fnOf "_law_is_int" "_law_is_int" (defArgs s__law_is_int) (defBody s__law_is_int) (defScope s__law_is_int) .none kV10 dc10 pm10 an10 cd10 ct10), sl10⟩) (c10 : PySem.W.codeIn K cd10 "_law_is_int" = true) (k10 : PySem.W.keepIn K (.ref f10) = true)
    {f11 : Addr} {od11 an11 : Option Addr} {sl11 : Array (Option Value)} {oc11 kV11 dc11 pm11 cd11 ct11 : Value}
    (a11 : PySem.W.nsIn K mainGlobals "_law_is_ints" = some (some (.ref f11))) (l11 : K.lookup f11 = some ⟨oc11, od11, .func (PySem.W.fnOf "_law_is_ints" "_law_is_ints" (defArgs s__law_is_ints) (defBody s__law_is_ints) (defScope s__law_is_ints) .none kV11 dc11 pm11 an11 cd11 ct11), sl11⟩) (c11 : PySem.W.codeIn K cd11 "_law_is_ints" = true) (k11 : PySem.W.keepIn K (.ref f11) = true)
    {f12 : Addr} {od12 an12 : Option Addr} {sl12 : Array (Option Value)} {oc12 kV12 dc12 pm12 cd12 ct12 : Value}
    (a12 : PySem.W.nsIn K mainGlobals "_law_some_facts" = some (some (.ref f12))) (l12 : K.lookup f12 = some ⟨oc12, od12, .func (PySem.W.fnOf "_law_some_facts" "_law_some_facts" (defArgs s__law_some_facts) (defBody s__law_some_facts) (defScope s__law_some_facts) .none kV12 dc12 pm12 an12 cd12 ct12), sl12⟩) (c12 : PySem.W.codeIn K cd12 "_law_some_facts" = true) (k12 : PySem.W.keepIn K (.ref f12) = true)
    {f13 : Addr} {od13 an13 : Option Addr} {sl13 : Array (Option Value)} {oc13 kV13 dc13 pm13 cd13 ct13 : Value}
    (a13 : PySem.W.nsIn K mainGlobals "_law_some_state" = some (some (.ref f13))) (l13 : K.lookup f13 = some ⟨oc13, od13, .func (PySem.W.fnOf "_law_some_state" "_law_some_state" (defArgs s__law_some_state) (defBody s__law_some_state) (defScope s__law_some_state) .none kV13 dc13 pm13 an13 cd13 ct13), sl13⟩) (c13 : PySem.W.codeIn K cd13 "_law_some_state" = true) (k13 : PySem.W.keepIn K (.ref f13) = true)
    {f14 : Addr} {od14 an14 : Option Addr} {sl14 : Array (Option Value)} {oc14 kV14 dc14 pm14 cd14 ct14 : Value}
    (a14 : PySem.W.nsIn K mainGlobals "_law_row_of" = some (some (.ref f14))) (l14 : K.lookup f14 = some ⟨oc14, od14, .func (PySem.W.fnOf "_law_row_of" "_law_row_of" (defArgs s__law_row_of) (defBody s__law_row_of) (defScope s__law_row_of) .none kV14 dc14 pm14 an14 cd14 ct14), sl14⟩) (c14 : PySem.W.codeIn K cd14 "_law_row_of" = true) (k14 : PySem.W.keepIn K (.ref f14) = true)
    {f15 : Addr} {od15 an15 : Option Addr} {sl15 : Array (Option Value)} {oc15 kV15 dc15 pm15 cd15 ct15 : Value}
    (a15 : PySem.W.nsIn K mainGlobals "_law_is_same" = some (some (.ref f15))) (l15 : K.lookup f15 = some ⟨oc15, od15, .func (PySem.W.fnOf "_law_is_same" "_law_is_same" (defArgs s__law_is_same) (defBody s__law_is_same) (defScope s__law_is_same) .none kV15 dc15 pm15 an15 cd15 ct15), sl15⟩) (c15 : PySem.W.codeIn K cd15 "_law_is_same" = true) (k15 : PySem.W.keepIn K (.ref f15) = true)
    {f16 : Addr} {od16 an16 : Option Addr} {sl16 : Array (Option Value)} {oc16 kV16 dc16 pm16 cd16 ct16 : Value}
    (a16 : PySem.W.nsIn K mainGlobals "_law_is_cut_right" = some (some (.ref f16))) (l16 : K.lookup f16 = some ⟨oc16, od16, .func (PySem.W.fnOf "_law_is_cut_right" "_law_is_cut_right" (defArgs s__law_is_cut_right) (defBody s__law_is_cut_right) (defScope s__law_is_cut_right) .none kV16 dc16 pm16 an16 cd16 ct16), sl16⟩) (c16 : PySem.W.codeIn K cd16 "_law_is_cut_right" = true) (k16 : PySem.W.keepIn K (.ref f16) = true)
    {f17 : Addr} {od17 an17 : Option Addr} {sl17 : Array (Option Value)} {oc17 kV17 dc17 pm17 cd17 ct17 : Value}
    (a17 : PySem.W.nsIn K mainGlobals "_law_is_refused" = some (some (.ref f17))) (l17 : K.lookup f17 = some ⟨oc17, od17, .func (PySem.W.fnOf "_law_is_refused" "_law_is_refused" (defArgs s__law_is_refused) (defBody s__law_is_refused) (defScope s__law_is_refused) .none kV17 dc17 pm17 an17 cd17 ct17), sl17⟩) (c17 : PySem.W.codeIn K cd17 "_law_is_refused" = true) (k17 : PySem.W.keepIn K (.ref f17) = true)
    {f18 : Addr} {od18 an18 : Option Addr} {sl18 : Array (Option Value)} {oc18 kV18 dc18 pm18 cd18 ct18 : Value}
    (a18 : PySem.W.nsIn K mainGlobals "law" = some (some (.ref f18))) (l18 : K.lookup f18 = some ⟨oc18, od18, .func (PySem.W.fnOf "law" "law" (defArgs s_law) (defBody s_law) (defScope s_law) .none kV18 dc18 pm18 an18 cd18 ct18), sl18⟩) (c18 : PySem.W.codeIn K cd18 "law" = true) (k18 : PySem.W.keepIn K (.ref f18) = true)
    (z0 : PySem.W.nsIn K mainGlobals "abs" = some none)
    (z1 : PySem.W.nsIn K mainGlobals "all" = some none)
    (z2 : PySem.W.nsIn K mainGlobals "bool" = some none)
    (z3 : PySem.W.nsIn K mainGlobals "int" = some none)
    (z4 : PySem.W.nsIn K mainGlobals "isinstance" = some none)
    (z5 : PySem.W.nsIn K mainGlobals "len" = some none)
    (z6 : PySem.W.nsIn K mainGlobals "list" = some none)
    (z7 : PySem.W.nsIn K mainGlobals "range" = some none)
    (z8 : PySem.W.nsIn K mainGlobals "repr" = some none)
    (z9 : PySem.W.nsIn K mainGlobals "tuple" = some none)
    {t0 : Tok} (q0 : PySem.W.nsIn K mainGlobals "LOW" = some (some (.int (-32768) t0)))
    {t1 : Tok} (q1 : PySem.W.nsIn K mainGlobals "MOST_NUMBER" = some (some (.int 65536 t1)))
    : ∃ fd : FuncData, (∀ (s : Shared) (v : Value), BindsTo s fd ⟨[v], []⟩ [("script", v)]) ∧ ∀ base : Heap, K.In base → base.Ns mainGlobals mg → FnG l.prog w K mg base (L2.CX l.prog w) 6 fa fd ["script"] (spM ⟨K, fun _ => none⟩ 1 m_law) := by
  cases hfa.symm.trans (PySem.W.mg_of X G a18)
  have T : Tx K mg ⟨f0, PySem.W.fnOf "is_int" "is_int" (defArgs s_is_int) (defBody s_is_int) (defScope s_is_int) .none kV0 dc0 pm0 an0 cd0 ct0, f1, PySem.W.fnOf "is_ints" "is_ints" (defArgs s_is_ints) (defBody s_is_ints) (defScope s_is_ints) .none kV1 dc1 pm1 an1 cd1 ct1, f2, PySem.W.fnOf "is_ints_between" "is_ints_between" (defArgs s_is_ints_between) (defBody s_is_ints_between) (defScope s_is_ints_between) .none kV2 dc2 pm2 an2 cd2 ct2, f3, PySem.W.fnOf "tick_number" "tick_number" (defArgs s_tick_number) (defBody s_tick_number) (defScope s_tick_number) .none kV3 dc3 pm3 an3 cd3 ct3, f4, PySem.W.fnOf "tick_of" "tick_of" (defArgs s_tick_of) (defBody s_tick_of) (defScope s_tick_of) .none kV4 dc4 pm4 an4 cd4 ct4, f5, PySem.W.fnOf "parcel_of" "parcel_of" (defArgs s_parcel_of) (defBody s_parcel_of) (defScope s_parcel_of) .none kV5 dc5 pm5 an5 cd5 ct5, f6, PySem.W.fnOf "opened_parcel" "opened_parcel" (defArgs s_opened_parcel) (defBody s_opened_parcel) (defScope s_opened_parcel) .none kV6 dc6 pm6 an6 cd6 ct6, f7, PySem.W.fnOf "_law_begin" "_law_begin" (defArgs s__law_begin) (defBody s__law_begin) (defScope s__law_begin) .none kV7 dc7 pm7 an7 cd7 ct7, f8, PySem.W.fnOf "_law_draw" "_law_draw" (defArgs s__law_draw) (defBody s__law_draw) (defScope s__law_draw) .none kV8 dc8 pm8 an8 cd8 ct8, f9, PySem.W.fnOf "_law_pick" "_law_pick" (defArgs s__law_pick) (defBody s__law_pick) (defScope s__law_pick) .none kV9 dc9 pm9 an9 cd9 ct9, f10, PySem.W.fnOf "_law_is_int" "_law_is_int" (defArgs s__law_is_int) (defBody s__law_is_int) (defScope s__law_is_int) .none kV10 dc10 pm10 an10 cd10 ct10, f11, PySem.W.fnOf "_law_is_ints" "_law_is_ints" (defArgs s__law_is_ints) (defBody s__law_is_ints) (defScope s__law_is_ints) .none kV11 dc11 pm11 an11 cd11 ct11, f12, PySem.W.fnOf "_law_some_facts" "_law_some_facts" (defArgs s__law_some_facts) (defBody s__law_some_facts) (defScope s__law_some_facts) .none kV12 dc12 pm12 an12 cd12 ct12, f13, PySem.W.fnOf "_law_some_state" "_law_some_state" (defArgs s__law_some_state) (defBody s__law_some_state) (defScope s__law_some_state) .none kV13 dc13 pm13 an13 cd13 ct13, f14, PySem.W.fnOf "_law_row_of" "_law_row_of" (defArgs s__law_row_of) (defBody s__law_row_of) (defScope s__law_row_of) .none kV14 dc14 pm14 an14 cd14 ct14, f15, PySem.W.fnOf "_law_is_same" "_law_is_same" (defArgs s__law_is_same) (defBody s__law_is_same) (defScope s__law_is_same) .none kV15 dc15 pm15 an15 cd15 ct15, f16, PySem.W.fnOf "_law_is_cut_right" "_law_is_cut_right" (defArgs s__law_is_cut_right) (defBody s__law_is_cut_right) (defScope s__law_is_cut_right) .none kV16 dc16 pm16 an16 cd16 ct16, f17, PySem.W.fnOf "_law_is_refused" "_law_is_refused" (defArgs s__law_is_refused) (defBody s__law_is_refused) (defScope s__law_is_refused) .none kV17 dc17 pm17 an17 cd17 ct17, fa, PySem.W.fnOf "law" "law" (defArgs s_law) (defBody s_law) (defScope s_law) .none kV18 dc18 pm18 an18 cd18 ct18⟩ := ⟨fun_mk (st := s_is_int) l0 c0 k0,
    (fun_mk (st := s_is_int) l0 c0 k0).binds (ps := ["thing"]) fun _ _ _ _ _ _ us hl => match us, hl with | [_], _ => rfl,
    PySem.W.mg_of X G a0,
    fun_mk (st := s_is_ints) l1 c1 k1,
    (fun_mk (st := s_is_ints) l1 c1 k1).binds (ps := ["thing"]) fun _ _ _ _ _ _ us hl => match us, hl with | [_], _ => rfl,
    PySem.W.mg_of X G a1,
    fun_mk (st := s_is_ints_between) l2 c2 k2,
    (fun_mk (st := s_is_ints_between) l2 c2 k2).binds (ps := ["thing", "low", "high"]) fun _ _ _ _ _ _ us hl => match us, hl with | [_, _, _], _ => rfl,
    PySem.W.mg_of X G a2,
    fun_mk (st := s_tick_number) l3 c3 k3,
    (fun_mk (st := s_tick_number) l3 c3 k3).binds (ps := ["tick"]) fun _ _ _ _ _ _ us hl => match us, hl with | [_], _ => rfl,
    PySem.W.mg_of X G a3,
    fun_mk (st := s_tick_of) l4 c4 k4,
    (fun_mk (st := s_tick_of) l4 c4 k4).binds (ps := ["number"]) fun _ _ _ _ _ _ us hl => match us, hl with | [_], _ => rfl,
    PySem.W.mg_of X G a4,
    fun_mk (st := s_parcel_of) l5 c5 k5,
    (fun_mk (st := s_parcel_of) l5 c5 k5).binds (ps := ["facts", "state"]) fun _ _ _ _ _ _ us hl => match us, hl with | [_, _], _ => rfl,
    PySem.W.mg_of X G a5,
    fun_mk (st := s_opened_parcel) l6 c6 k6,
    (fun_mk (st := s_opened_parcel) l6 c6 k6).binds (ps := ["numbers", "seats"]) fun _ _ _ _ _ _ us hl => match us, hl with | [_, _], _ => rfl,
    PySem.W.mg_of X G a6,
    fun_mk (st := s__law_begin) l7 c7 k7,
    (fun_mk (st := s__law_begin) l7 c7 k7).binds (ps := ["script"]) fun _ _ _ _ _ _ us hl => match us, hl with | [_], _ => rfl,
    PySem.W.mg_of X G a7,
    fun_mk (st := s__law_draw) l8 c8 k8,
    (fun_mk (st := s__law_draw) l8 c8 k8).binds (ps := ["d", "many"]) fun _ _ _ _ _ _ us hl => match us, hl with | [_, _], _ => rfl,
    PySem.W.mg_of X G a8,
    fun_mk (st := s__law_pick) l9 c9 k9,
    (fun_mk (st := s__law_pick) l9 c9 k9).binds (ps := ["d", "row"]) fun _ _ _ _ _ _ us hl => match us, hl with | [_, _], _ => rfl,
    PySem.W.mg_of X G a9,
    fun_mk (st := s__law_is_int) l10 c10 k10,
    (fun_mk (st := s__law_is_int) l10 c10 k10).binds (ps := ["thing"]) fun _ _ _ _ _ _ us hl => match us, hl with | [_], _ => rfl,
    PySem.W.mg_of X G a10,
    fun_mk (st := s__law_is_ints) l11 c11 k11,
    (fun_mk (st := s__law_is_ints) l11 c11 k11).binds (ps := ["row"]) fun _ _ _ _ _ _ us hl => match us, hl with | [_], _ => rfl,
    PySem.W.mg_of X G a11,
    fun_mk (st := s__law_some_facts) l12 c12 k12,
    (fun_mk (st := s__law_some_facts) l12 c12 k12).binds (ps := ["d", "seats"]) fun _ _ _ _ _ _ us hl => match us, hl with | [_, _], _ => rfl,
    PySem.W.mg_of X G a12,
    fun_mk (st := s__law_some_state) l13 c13 k13,
    (fun_mk (st := s__law_some_state) l13 c13 k13).binds (ps := ["d", "seats"]) fun _ _ _ _ _ _ us hl => match us, hl with | [_, _], _ => rfl,
    PySem.W.mg_of X G a13,
    fun_mk (st := s__law_row_of) l14 c14 k14,
    (fun_mk (st := s__law_row_of) l14 c14 k14).binds (ps := ["facts", "state"]) fun _ _ _ _ _ _ us hl => match us, hl with | [_, _], _ => rfl,
    PySem.W.mg_of X G a14,
    fun_mk (st := s__law_is_same) l15 c15 k15,
    (fun_mk (st := s__law_is_same) l15 c15 k15).binds (ps := ["told", "due"]) fun _ _ _ _ _ _ us hl => match us, hl with | [_, _], _ => rfl,
    PySem.W.mg_of X G a15,
    fun_mk (st := s__law_is_cut_right) l16 c16 k16,
    (fun_mk (st := s__law_is_cut_right) l16 c16 k16).binds (ps := ["row", "seats", "facts", "state", "size"]) fun _ _ _ _ _ _ us hl => match us, hl with | [_, _, _, _, _], _ => rfl,
    PySem.W.mg_of X G a16,
    fun_mk (st := s__law_is_refused) l17 c17 k17,
    (fun_mk (st := s__law_is_refused) l17 c17 k17).binds (ps := ["d", "row", "seats"]) fun _ _ _ _ _ _ us hl => match us, hl with | [_, _, _], _ => rfl,
    PySem.W.mg_of X G a17,
    fun_mk (st := s_law) l18 c18 k18,
    (fun_mk (st := s_law) l18 c18 k18).binds (ps := ["script"]) fun _ _ _ _ _ _ us hl => match us, hl with | [_], _ => rfl,
    PySem.W.mg_of X G a18,
    PySem.W.mg_none_of X G z0,
    PySem.W.mg_none_of X G z1,
    PySem.W.mg_none_of X G z2,
    PySem.W.mg_none_of X G z3,
    PySem.W.mg_none_of X G z4,
    PySem.W.mg_none_of X G z5,
    PySem.W.mg_none_of X G z6,
    PySem.W.mg_none_of X G z7,
    PySem.W.mg_none_of X G z8,
    PySem.W.mg_none_of X G z9,
    ⟨_, PySem.W.mg_of X G q0⟩,
    ⟨_, PySem.W.mg_of X G q1⟩⟩
  exact ⟨_, fun s v => .of_eq rfl, fun base _ _ => ok_law T⟩
end Pg

open PySem PySem.W PyProof.Rows
theorem PySem.Challenge.cw_judgedplay_k56_parcels_holds : PySem.Challenge.rw_judgedplay_k56_parcels.Holds := by
  w_on; o_law; k_head; (case hw => w_witness2)
  k_fill
  refine Mi.walkG (l := PySem.Challenge.rw_judgedplay_k56_parcels) (k := 6) (cl := fun _ => none) (m := Pg.m_law) rfl rfl ⟨rfl, by decide, by decide⟩ (fun w h Y => PySem.W.kIn_of Y) ?F (fun ns hl hb => Pg.law_true ns hl)
  case F =>
    intro w mg fa h KX G hmg
    refine' Pg.all_mk KX G hmg ?a0 ?l0 ?c0 ?k0 ?a1 ?l1 ?c1 ?k1 ?a2 ?l2 ?c2 ?k2 ?a3 ?l3 ?c3 ?k3 ?a4 ?l4 ?c4 ?k4 ?a5 ?l5 ?c5 ?k5 ?a6 ?l6 ?c6 ?k6 ?a7 ?l7 ?c7 ?k7 ?a8 ?l8 ?c8 ?k8 ?a9 ?l9 ?c9 ?k9 ?a10 ?l10 ?c10 ?k10 ?a11 ?l11 ?c11 ?k11 ?a12 ?l12 ?c12 ?k12 ?a13 ?l13 ?c13 ?k13 ?a14 ?l14 ?c14 ?k14 ?a15 ?l15 ?c15 ?k15 ?a16 ?l16 ?c16 ?k16 ?a17 ?l17 ?c17 ?k17 ?a18 ?l18 ?c18 ?k18 ?z0 ?z1 ?z2 ?z3 ?z4 ?z5 ?z6 ?z7 ?z8 ?z9 ?q0 ?q1
    (case a0 => k_is)
    (case l0 => k_is)
    (case c0 => k_is)
    (case k0 => k_is)
    (case a1 => k_is)
    (case l1 => k_is)
    (case c1 => k_is)
    (case k1 => k_is)
    (case a2 => k_is)
    (case l2 => k_is)
    (case c2 => k_is)
    (case k2 => k_is)
    (case a3 => k_is)
    (case l3 => k_is)
    (case c3 => k_is)
    (case k3 => k_is)
    (case a4 => k_is)
    (case l4 => k_is)
    (case c4 => k_is)
    (case k4 => k_is)
    (case a5 => k_is)
    (case l5 => k_is)
    (case c5 => k_is)
    (case k5 => k_is)
    (case a6 => k_is)
    (case l6 => k_is)
    (case c6 => k_is)
    (case k6 => k_is)
    (case a7 => k_is)
    (case l7 => k_is)
    (case c7 => k_is)
    (case k7 => k_is)
    (case a8 => k_is)
    (case l8 => k_is)
    (case c8 => k_is)
    (case k8 => k_is)
    (case a9 => k_is)
    (case l9 => k_is)
    (case c9 => k_is)
    (case k9 => k_is)
    (case a10 => k_is)
    (case l10 => k_is)
    (case c10 => k_is)
    (case k10 => k_is)
    (case a11 => k_is)
    (case l11 => k_is)
    (case c11 => k_is)
    (case k11 => k_is)
    (case a12 => k_is)
    (case l12 => k_is)
    (case c12 => k_is)
    (case k12 => k_is)
    (case a13 => k_is)
    (case l13 => k_is)
    (case c13 => k_is)
    (case k13 => k_is)
    (case a14 => k_is)
    (case l14 => k_is)
    (case c14 => k_is)
    (case k14 => k_is)
    (case a15 => k_is)
    (case l15 => k_is)
    (case c15 => k_is)
    (case k15 => k_is)
    (case a16 => k_is)
    (case l16 => k_is)
    (case c16 => k_is)
    (case k16 => k_is)
    (case a17 => k_is)
    (case l17 => k_is)
    (case c17 => k_is)
    (case k17 => k_is)
    (case a18 => k_is)
    (case l18 => k_is)
    (case c18 => k_is)
    (case k18 => k_is)
    (case z0 => k_is)
    (case z1 => k_is)
    (case z2 => k_is)
    (case z3 => k_is)
    (case z4 => k_is)
    (case z5 => k_is)
    (case z6 => k_is)
    (case z7 => k_is)
    (case z8 => k_is)
    (case z9 => k_is)
    (case q0 => k_is)
    (case q1 => k_is)
