import PyProof.Rows.All
import Wide.All
import OpenK.AllK
import Wide.FinOn
import HandS.ForMost
import HandS.IsInst
import HandS.Flow
import HandS.Style
import HandS.ForExc
import HandS.TupAny
import HandS.Deep
import HandS.ExcValue
import HandS.ExcIs
import HandS.TryMany
import HandS.TryElse
import HandS.ExcInit
import KE.KExcInit
import KE.KExcIs
import HandS.Iter
import PySem.Challenge.RW_maskedlevels_k44_classes_of_errors
set_option Elab.async false
set_option linter.all false
set_option linter.all false
set_option autoImplicit false
set_option maxRecDepth 100000
set_option maxHeartbeats 2000000
/-! Sx: plain Lean functions for defs, and what it means that a state of the model shows a plain one. -/
namespace Sx
open PySem L2

/-! ### plain values, objects, heaps -/
/-- built-in classes that are told apart -/
inductive Bt where
  | int | bool | str | tuple | list | dict | none
  deriving DecidableEq
def Bt.name : Bt → String
  | .int => "int" | .bool => "bool" | .str => "str" | .tuple => "tuple" | .list => "list" | .dict => "dict" | .none => "NoneType"
inductive W where
  | non | bl (b : Bool) | int (i : Int) | str (z : List Nat) | tup (xs : List W) | fls (xs : List W) | ref (i : Nat) | ty (t : Bt) | cl (k : Nat) | exc (k : Nat) (ns : List Str) (ws : List W)

inductive O where
  | lst (xs : List W)
  | dic (kvs : List (W × W))
  | ins (k : Nat) (fs : List (Str × W))

inductive Tr where
  | nil
  | node (o : Option O) (l r : Tr)
def Tr.get : Tr → Nat → Option O
  | .nil, _ => none
  | .node o l r, i => if i = 0 then o else if i % 2 = 1 then l.get (i / 2) else r.get (i / 2 - 1)
def Tr.mk1 (o : O) : Nat → Nat → Tr
  | 0, _ => .nil
  | f + 1, i => if i = 0 then .node (some o) .nil .nil else if i % 2 = 1 then .node none (Tr.mk1 o f (i / 2)) .nil else .node none .nil (Tr.mk1 o f (i / 2 - 1))
def Tr.set (o : O) : Tr → Nat → Tr
  | .nil, i => Tr.mk1 o (i + 1) i
  | .node x l r, i => if i = 0 then .node (some o) l r else if i % 2 = 1 then .node x (l.set o (i / 2)) r else .node x l (r.set o (i / 2 - 1))
theorem Tr.get_mk1 (o : O) : ∀ (f i j : Nat), i < f → (Tr.mk1 o f i).get j = if j = i then some o else none
  | 0, i, j, h => absurd h (Nat.not_lt_zero _)
  | f + 1, i, j, h => by
    unfold Tr.mk1
    by_cases h0 : i = 0
    · subst h0
      rw [if_pos rfl]
      unfold Tr.get
      by_cases hj : j = 0
      · rw [if_pos hj, if_pos hj]
      · rw [if_neg hj, if_neg hj]
        split <;> rfl
    · rw [if_neg h0]
      by_cases h1 : i % 2 = 1
      · rw [if_pos h1]
        unfold Tr.get
        by_cases hj : j = 0
        · rw [if_pos hj, if_neg (by omega)]
        · rw [if_neg hj]
          by_cases hj1 : j % 2 = 1
          · rw [if_pos hj1, Tr.get_mk1 o f (i / 2) (j / 2) (by omega)]
            by_cases e : j = i
            · rw [if_pos e, if_pos (by omega)]
            · rw [if_neg e, if_neg (by omega)]
          · rw [if_neg hj1, if_neg (by omega)]
            rfl
      · rw [if_neg h1]
        unfold Tr.get
        by_cases hj : j = 0
        · rw [if_pos hj, if_neg (by omega)]
        · rw [if_neg hj]
          by_cases hj1 : j % 2 = 1
          · rw [if_pos hj1, if_neg (by omega)]
            rfl
          · rw [if_neg hj1, Tr.get_mk1 o f (i / 2 - 1) (j / 2 - 1) (by omega)]
            by_cases e : j = i
            · rw [if_pos e, if_pos (by omega)]
            · rw [if_neg e, if_neg (by omega)]
theorem Tr.get_set (o : O) : ∀ (t : Tr) (i j : Nat), (t.set o i).get j = if j = i then some o else t.get j
  | .nil, i, j => by
    unfold Tr.set
    rw [Tr.get_mk1 o (i + 1) i j (Nat.lt_succ_self i)]
    rfl
  | .node x l r, i, j => by
    unfold Tr.set
    by_cases h0 : i = 0
    · subst h0
      rw [if_pos rfl]
      unfold Tr.get
      by_cases hj : j = 0
      · rw [if_pos hj, if_pos hj]
      · rw [if_neg hj, if_neg hj, if_neg hj]
    · rw [if_neg h0]
      by_cases h1 : i % 2 = 1
      · rw [if_pos h1]
        by_cases hj : j = 0
        · subst hj
          rw [if_neg (by omega)]
          rfl
        · by_cases hj1 : j % 2 = 1
          · have g : ∀ (a b : Tr), (Tr.node x a b).get j = a.get (j / 2) := fun a b => by
              conv => lhs; unfold Tr.get
              rw [if_neg hj, if_pos hj1]
            rw [g, g, Tr.get_set o l (i / 2) (j / 2)]
            by_cases e : j = i
            · rw [if_pos e, if_pos (by omega)]
            · rw [if_neg e, if_neg (by omega)]
          · have g : ∀ (a b : Tr), (Tr.node x a b).get j = b.get (j / 2 - 1) := fun a b => by
              conv => lhs; unfold Tr.get
              rw [if_neg hj, if_neg hj1]
            rw [g, g, if_neg (by omega)]
      · rw [if_neg h1]
        by_cases hj : j = 0
        · subst hj
          rw [if_neg (by omega)]
          rfl
        · by_cases hj1 : j % 2 = 1
          · have g : ∀ (a b : Tr), (Tr.node x a b).get j = a.get (j / 2) := fun a b => by
              conv => lhs; unfold Tr.get
              rw [if_neg hj, if_pos hj1]
            rw [g, g, if_neg (by omega)]
          · have g : ∀ (a b : Tr), (Tr.node x a b).get j = b.get (j / 2 - 1) := fun a b => by
              conv => lhs; unfold Tr.get
              rw [if_neg hj, if_neg hj1]
            rw [g, g, Tr.get_set o r (i / 2 - 1) (j / 2 - 1)]
            by_cases e : j = i
            · rw [if_pos e, if_pos (by omega)]
            · rw [if_neg e, if_neg (by omega)]

structure Hx where
  n : Nat
  t : Tr
def Hx.get (h : Hx) (i : Nat) : Option O := h.t.get i
def Hx.put (h : Hx) (i : Nat) (o : O) : Hx := ⟨h.n, h.t.set o i⟩
def Hx.new (h : Hx) (o : O) : Hx := ⟨h.n + 1, h.t.set o h.n⟩
theorem Hx.get_put {h : Hx} {i j : Nat} {o : O} : (h.put i o).get j = if j = i then some o else h.get j := Tr.get_set o h.t i j
theorem Hx.get_new {h : Hx} {j : Nat} {o : O} : (h.new o).get j = if j = h.n then some o else h.get j := Tr.get_set o h.t h.n j

/-- an exception: its class, its fields -/
structure Xc where
  k : Nat
  ns : List Str
  ws : List W
inductive R (α : Type) where
  | ok (a : α) (h : Hx)
  | exc (x : Xc) (h : Hx)
  | bad
abbrev Env := List (Option W)
abbrev Ex := Env → Hx → R W
abbrev Tx := Env → Hx → R Bool
abbrev Ax := Env → Hx → R (List W)
inductive Fl where
  | nx (σ : Env)
  | rt (w : W)
  | bk (σ : Env)
  | ct (σ : Env)
inductive RS where
  | fl (f : Fl) (h : Hx)
  | exc (x : Xc) (σ : Env) (h : Hx)
  | bad
abbrev Sx := Env → Hx → RS
abbrev Fn := List W → Hx → R W
def R.bind {α β : Type} (r : R α) (f : α → Hx → R β) : R β := match r with
  | .ok a h => f a h
  | .exc x h => .exc x h
  | .bad => .bad
def R.bindS {α : Type} (r : R α) (σ : Env) (f : α → Hx → RS) : RS := match r with
  | .ok a h => f a h
  | .exc x h => .exc x σ h
  | .bad => .bad

/-! ### what shows what -/
/-- a list that is only read: locked for the whole run, or of the written part -/
def SqF (K : PySem.W.Frag) (H : Hp) (a : Addr) (vs : List V) : Prop :=
  (∃ o, H a = some (.frz o (.lst vs))) ∨
    ∃ (o : Obj) (its : Array Value) (m : Nat), K.lookup a = some o ∧ o.cls = .type "list" ∧ o.dict = none ∧ o.data = .seq its m ∧ its.size ≤ sizeLine ∧ Vals vs its.toList
theorem SqF.sq {K : PySem.W.Frag} {H : Hp} {a : Addr} {vs : List V} (h : SqF K H a vs) : SqL K H a vs := by
  rcases h with h | h
  · exact .inl (.inr h)
  · exact .inr h

/-- an exception object at a, raised or not: its class, where its dict lies -/
def exv (a C : Addr) (od : Option Addr) : HO := .ext fun h => ∃ (oe : Obj) (vs : Array Value), h.get? a = some oe ∧ Zc (.ref C) od oe ∧ oe.data = .fields vs
/-- its fields -/
def XdAt (H : Hp) (od : Option Addr) (ns : List Str) (vs : List V) : Prop := match od with
  | none => ns = [] ∧ vs = []
  | some d => H d = some (.xd (ns.zip vs))
mutual
inductive Rep (K : PySem.W.Frag) (CT : Nat → Addr) (ρ : Nat → Addr) (n : Nat) (H : Hp) : W → V → Prop
  | non : Rep K CT ρ n H .non .non
  | bl (b : Bool) : Rep K CT ρ n H (.bl b) (.bl b)
  | int (i : Int) : Rep K CT ρ n H (.int i) (.int i)
  | str {z : List Nat} : z.all (· < 1114112) = true → Rep K CT ρ n H (.str z) (.str ⟨z.toArray⟩)
  | tup {a : Addr} {xs : List W} {vs : List V} : SqT K H a vs → Reps K CT ρ n H xs vs → Rep K CT ρ n H (.tup xs) (.ref a)
  | fls {a : Addr} {xs : List W} {vs : List V} : SqF K H a vs → Reps K CT ρ n H xs vs → Rep K CT ρ n H (.fls xs) (.ref a)
  | ref {i : Nat} : i < n → Rep K CT ρ n H (.ref i) (.ref (ρ i))
  | ty (x : Bt) : Rep K CT ρ n H (.ty x) (.ty x.name)
  | cl (k : Nat) : Rep K CT ρ n H (.cl k) (.ref (CT k))
  | exc {a : Addr} {k : Nat} {od : Option Addr} {ns : List Str} {ws : List W} {vs : List V} : H a = some (exv a (CT k) od) → XdAt H od ns vs → Reps K CT ρ n H ws vs → Rep K CT ρ n H (.exc k ns ws) (.ref a)
inductive Reps (K : PySem.W.Frag) (CT : Nat → Addr) (ρ : Nat → Addr) (n : Nat) (H : Hp) : List W → List V → Prop
  | nil : Reps K CT ρ n H [] []
  | cons {w : W} {v : V} {ws : List W} {vs : List V} : Rep K CT ρ n H w v → Reps K CT ρ n H ws vs → Reps K CT ρ n H (w :: ws) (v :: vs)
end

/-- fields, in order -/
inductive RepF (K : PySem.W.Frag) (CT : Nat → Addr) (ρ : Nat → Addr) (n : Nat) (H : Hp) : List (Str × W) → List (Str × V) → Prop
  | nil : RepF K CT ρ n H [] []
  | cons {f : Str} {w : W} {v : V} {ws : List (Str × W)} {vs : List (Str × V)} : Rep K CT ρ n H w v → RepF K CT ρ n H ws vs → RepF K CT ρ n H ((f, w) :: ws) ((f, v) :: vs)
/-- pairs of a dict with keys that are ints and texts -/
def wKey : Key → W
  | .inl i => .int i
  | .inr x => .str x.cps.toList
inductive RepK (K : PySem.W.Frag) (CT : Nat → Addr) (ρ : Nat → Addr) (n : Nat) (H : Hp) : List (W × W) → List (Key × V) → Prop
  | nil : RepK K CT ρ n H [] []
  | cons {k : Key} {w : W} {v : V} {ws : List (W × W)} {vs : List (Key × V)} : Rep K CT ρ n H w v → RepK K CT ρ n H ws vs → RepK K CT ρ n H ((wKey k, w) :: ws) ((k, v) :: vs)

def ObR (K : PySem.W.Frag) (CT : Nat → Addr) (ρ : Nat → Addr) (n : Nat) (H : Hp) (a : Addr) : O → Prop
  | .lst xs => ∃ vs, H a = some (.lst vs) ∧ Reps K CT ρ n H xs vs
  | .dic kvs => ∃ vs, H a = some (.dK vs) ∧ RepK K CT ρ n H kvs vs
  | .ins k fs => ∃ dx vs, H a = some (.ins (CT k) dx vs) ∧ RepF K CT ρ n H fs vs

structure Sim (K : PySem.W.Frag) (CT : Nat → Addr) (ρ : Nat → Addr) (h : Hx) (H : Hp) : Prop where
  inj : ∀ i j, i < h.n → j < h.n → ρ i = ρ j → i = j
  dom : ∀ i, i < h.n → ∃ o, h.get i = some o
  lt : ∀ i o, h.get i = some o → i < h.n
  ob : ∀ i o, h.get i = some o → ObR K CT ρ h.n H (ρ i) o

/-- what goes forward: our objects keep their places, what is not ours stands, new places were free -/
structure Fw (ρ : Nat → Addr) (n : Nat) (H : Hp) (ρ' : Nat → Addr) (n' : Nat) (H' : Hp) : Prop where
  le : n ≤ n'
  ext : ∀ i, i < n → ρ' i = ρ i
  frm : ∀ a o, H a = some o → (∀ i, i < n → ρ i ≠ a) → H' a = some o
  new : ∀ i, n ≤ i → i < n' → H (ρ' i) = none
structure Nxt (K : PySem.W.Frag) (CT : Nat → Addr) (ρ : Nat → Addr) (h : Hx) (H : Hp) (ρ' : Nat → Addr) (h' : Hx) (H' : Hp) : Prop extends Fw ρ h.n H ρ' h'.n H' where
  sim : Sim K CT ρ' h' H'

section
variable {K : PySem.W.Frag} {CT ρ ρ' ρ'' : Nat → Addr} {h h' h'' : Hx} {H H' H'' : Hp}
theorem Fw.refl (ρ : Nat → Addr) (n : Nat) (H : Hp) : Fw ρ n H ρ n H := ⟨Nat.le_refl _, fun _ _ => rfl, fun _ _ e _ => e, fun i a b => absurd b (Nat.not_lt.mpr a)⟩
theorem Nxt.refl (S : Sim K CT ρ h H) : Nxt K CT ρ h H ρ h H := ⟨Fw.refl _ _ _, S⟩
/-- what stands among ours stands as a list, a dict, an instance -/
theorem ObR.some {n : Nat} {a : Addr} {o : O} (r : ObR K CT ρ n H a o) : ∃ u, H a = some u ∧ (∀ xs, u ≠ .tup xs) ∧ (∀ b xs, u ≠ .frz b (.tup xs)) ∧ (∀ b xs, u ≠ .frz b (.lst xs)) ∧ (∀ φ, u ≠ .ext φ) ∧ (∀ vs, u ≠ .xd vs) := by
  cases o with
  | lst xs => obtain ⟨vs, e, _⟩ := r; exact ⟨_, e, (fun _ z => by cases z), (fun _ _ z => by cases z), (fun _ _ z => by cases z), (fun _ z => by cases z), (fun _ z => by cases z)⟩
  | dic kvs => obtain ⟨vs, e, _⟩ := r; exact ⟨_, e, (fun _ z => by cases z), (fun _ _ z => by cases z), (fun _ _ z => by cases z), (fun _ z => by cases z), (fun _ z => by cases z)⟩
  | ins k fs => obtain ⟨dx, vs, e, _⟩ := r; exact ⟨_, e, (fun _ z => by cases z), (fun _ _ z => by cases z), (fun _ _ z => by cases z), (fun _ z => by cases z), (fun _ z => by cases z)⟩
theorem Sim.some (S : Sim K CT ρ h H) {i : Nat} (hi : i < h.n) : ∃ u, H (ρ i) = some u ∧ (∀ xs, u ≠ .tup xs) ∧ (∀ b xs, u ≠ .frz b (.tup xs)) ∧ (∀ b xs, u ≠ .frz b (.lst xs)) ∧ (∀ φ, u ≠ .ext φ) ∧ (∀ vs, u ≠ .xd vs) := by
  obtain ⟨o, e⟩ := S.dom i hi
  exact (S.ob i o e).some
theorem Nxt.trans (S : Sim K CT ρ h H) (a : Nxt K CT ρ h H ρ' h' H') (b : Nxt K CT ρ' h' H' ρ'' h'' H'') : Nxt K CT ρ h H ρ'' h'' H'' := by
  have out : ∀ c o, H c = some o → (∀ i, i < h.n → ρ i ≠ c) → ∀ i, i < h'.n → ρ' i ≠ c := fun c o e z i hi => by
    by_cases hl : i < h.n
    · rw [a.ext i hl]
      exact z i hl
    · intro q
      have := a.new i (Nat.le_of_not_lt hl) hi
      rw [q, e] at this
      cases this
  refine ⟨⟨Nat.le_trans a.le b.le, fun i hi => (b.ext i (Nat.lt_of_lt_of_le hi a.le)).trans (a.ext i hi), fun c o e z => b.frm c o (a.frm c o e z) (out c o e z), fun i hi hl => ?_⟩, b.sim⟩
  by_cases hm : i < h'.n
  · rw [b.ext i hm]
    exact a.new i hi hm
  · have hn := b.new i (Nat.le_of_not_lt hm) hl
    cases e : H (ρ'' i) with
    | none => rfl
    | some o =>
      by_cases z : ∃ j, j < h.n ∧ ρ j = ρ'' i
      · obtain ⟨j, hj, ej⟩ := z
        obtain ⟨u, eu, _⟩ := a.sim.some (Nat.lt_of_lt_of_le hj a.le)
        rw [a.ext j hj, ej, hn] at eu
        cases eu
      · rw [a.frm _ o e (fun j hj q => z ⟨j, hj, q⟩)] at hn
        cases hn
variable {n n' : Nat}
/-- what a value leans on is kept -/
structure Kp (K : PySem.W.Frag) (ρ : Nat → Addr) (n : Nat) (H : Hp) (ρ' : Nat → Addr) (n' : Nat) (H' : Hp) : Prop where
  t : ∀ a vs, SqT K H a vs → SqT K H' a vs
  f : ∀ a vs, SqF K H a vs → SqF K H' a vs
  ext : ∀ i, i < n → ρ' i = ρ i
  le : n ≤ n'
  x : ∀ a φ, H a = some (.ext φ) → H' a = some (.ext φ)
  xd : ∀ a vs, H a = some (.xd vs) → H' a = some (.xd vs)
theorem Kp.of (S : Sim K CT ρ h H) (N : Fw ρ h.n H ρ' n' H') : Kp K ρ h.n H ρ' n' H' where
  t := fun a vs r => by
    rcases r with (r | ⟨o, r⟩) | r
    · refine .inl (.inl (N.frm _ _ r fun i hi e => ?_))
      obtain ⟨u, eu, n1, n2, n3, n4, n5⟩ := S.some hi
      rw [e, r] at eu
      exact n1 _ (Option.some.inj eu).symm
    · refine .inl (.inr ⟨o, N.frm _ _ r fun i hi e => ?_⟩)
      obtain ⟨u, eu, n1, n2, n3, n4, n5⟩ := S.some hi
      rw [e, r] at eu
      exact n2 _ _ (Option.some.inj eu).symm
    · exact .inr r
  f := fun a vs r => by
    rcases r with ⟨o, r⟩ | r
    · refine .inl ⟨o, N.frm _ _ r fun i hi e => ?_⟩
      obtain ⟨u, eu, n1, n2, n3, n4, n5⟩ := S.some hi
      rw [e, r] at eu
      exact n3 _ _ (Option.some.inj eu).symm
    · exact .inr r
  ext := N.ext
  le := N.le
  x := fun a φ r => N.frm _ _ r fun i hi e => by
    obtain ⟨u, eu, n1, n2, n3, n4, n5⟩ := S.some hi
    rw [e, r] at eu
    exact n4 _ (Option.some.inj eu).symm
  xd := fun a vs r => N.frm _ _ r fun i hi e => by
    obtain ⟨u, eu, n1, n2, n3, n4, n5⟩ := S.some hi
    rw [e, r] at eu
    exact n5 _ (Option.some.inj eu).symm
/-- a thing that is no tuple and not locked is changed -/
theorem Kp.upd {a : Addr} {u v : HO} (e : H a = Option.some u) (n1 : ∀ xs, u ≠ .tup xs) (n2 : ∀ b x, u ≠ .frz b x) (n3 : ∀ φ, u ≠ .ext φ) (n4 : ∀ vs, u ≠ .xd vs) : Kp K ρ n H ρ n (L2.upd H a v) where
  t := fun b vs r => by
    rcases r with (r | ⟨o, r⟩) | r
    · refine .inl (.inl ?_)
      rw [upd_ne (fun q => by rw [q, e] at r; exact n1 _ (Option.some.inj r))]
      exact r
    · refine .inl (.inr ⟨o, ?_⟩)
      rw [upd_ne (fun q => by rw [q, e] at r; exact n2 _ _ (Option.some.inj r))]
      exact r
    · exact .inr r
  f := fun b vs r => by
    rcases r with ⟨o, r⟩ | r
    · refine .inl ⟨o, ?_⟩
      rw [upd_ne (fun q => by rw [q, e] at r; exact n2 _ _ (Option.some.inj r))]
      exact r
    · exact .inr r
  ext := fun _ _ => rfl
  le := Nat.le_refl _
  x := fun b φ r => by
    rw [upd_ne (fun q => by rw [q, e] at r; exact n3 _ (Option.some.inj r))]
    exact r
  xd := fun b φ r => by
    rw [upd_ne (fun q => by rw [q, e] at r; exact n4 _ (Option.some.inj r))]
    exact r
theorem XdAt.kp (k : Kp K ρ n H ρ' n' H') {od : Option Addr} {ns : List Str} {vs : List V} (x : XdAt H od ns vs) : XdAt H' od ns vs := by
  cases od with
  | none => exact x
  | some d => exact k.xd _ _ x
mutual
theorem Rep.kp (k : Kp K ρ n H ρ' n' H') : ∀ (w : W) (v : V), Rep K CT ρ n H w v → Rep K CT ρ' n' H' w v
  | .non, _, r => by cases r; exact .non
  | .bl b, _, r => by cases r; exact .bl b
  | .int i, _, r => by cases r; exact .int i
  | .str z, _, r => by cases r; exact .str ‹_›
  | .tup xs, v, r => by
    cases r with
    | tup s q => exact .tup (k.t _ _ s) (Reps.kp k xs _ q)
  | .fls xs, v, r => by
    cases r with
    | fls s q => exact .fls (k.f _ _ s) (Reps.kp k xs _ q)
  | .ref i, v, r => by
    cases r with
    | ref hi =>
      rw [← k.ext i hi]
      exact .ref (Nat.lt_of_lt_of_le hi k.le)
  | .ty x, _, r => by cases r; exact .ty x
  | .cl k, _, r => by cases r; exact .cl k
  | .exc j ns ws, v, r => by
    cases r with
    | exc a b q => exact .exc (k.x _ _ a) (XdAt.kp k b) (Reps.kp k ws _ q)
theorem Reps.kp (k : Kp K ρ n H ρ' n' H') : ∀ (ws : List W) (vs : List V), Reps K CT ρ n H ws vs → Reps K CT ρ' n' H' ws vs
  | [], _, r => by cases r; exact .nil
  | w :: ws, _, r => by
    cases r with
    | cons a b => exact .cons (Rep.kp k w _ a) (Reps.kp k ws _ b)
end
theorem RepF.kp (k : Kp K ρ n H ρ' n' H') : ∀ {ws : List (Str × W)} {vs : List (Str × V)}, RepF K CT ρ n H ws vs → RepF K CT ρ' n' H' ws vs
  | _, _, .nil => .nil
  | _, _, .cons a b => .cons (Rep.kp k _ _ a) (RepF.kp k b)
theorem RepK.kp (k : Kp K ρ n H ρ' n' H') : ∀ {ws : List (W × W)} {vs : List (Key × V)}, RepK K CT ρ n H ws vs → RepK K CT ρ' n' H' ws vs
  | _, _, .nil => .nil
  | _, _, .cons a b => .cons (Rep.kp k _ _ a) (RepK.kp k b)
theorem ObR.kp (k : Kp K ρ n H ρ' n' H') {a : Addr} {o : O} (e : H' a = H a) (r : ObR K CT ρ n H a o) : ObR K CT ρ' n' H' a o := by
  cases o with
  | lst xs => obtain ⟨vs, q, r⟩ := r; exact ⟨vs, e.trans q, Reps.kp k _ _ r⟩
  | dic kvs => obtain ⟨vs, q, r⟩ := r; exact ⟨vs, e.trans q, RepK.kp k r⟩
  | ins j fs => obtain ⟨dx, vs, q, r⟩ := r; exact ⟨dx, vs, e.trans q, RepF.kp k r⟩
theorem Rep.keep (S : Sim K CT ρ h H) (N : Fw ρ h.n H ρ' n' H') (w : W) (v : V) (r : Rep K CT ρ h.n H w v) : Rep K CT ρ' n' H' w v := Rep.kp (Kp.of S N) w v r
theorem Reps.keep (S : Sim K CT ρ h H) (N : Fw ρ h.n H ρ' n' H') (ws : List W) (vs : List V) (r : Reps K CT ρ h.n H ws vs) : Reps K CT ρ' n' H' ws vs := Reps.kp (Kp.of S N) ws vs r
theorem RepF.keep (S : Sim K CT ρ h H) (N : Fw ρ h.n H ρ' n' H') {ws : List (Str × W)} {vs : List (Str × V)} (r : RepF K CT ρ h.n H ws vs) : RepF K CT ρ' n' H' ws vs := RepF.kp (Kp.of S N) r
theorem RepK.keep (S : Sim K CT ρ h H) (N : Fw ρ h.n H ρ' n' H') {ws : List (W × W)} {vs : List (Key × V)} (r : RepK K CT ρ h.n H ws vs) : RepK K CT ρ' n' H' ws vs := RepK.kp (Kp.of S N) r
theorem ObR.keep (S : Sim K CT ρ h H) (N : Fw ρ h.n H ρ' n' H') {a : Addr} {o : O} (e : H' a = H a) (r : ObR K CT ρ h.n H a o) : ObR K CT ρ' n' H' a o := ObR.kp (Kp.of S N) e r
/-- a thing that is not ours is laid at a free place -/
theorem Fw.aside (S : Sim K CT ρ h H) {p : Addr} {u : HO} (hp : H p = none) : Fw ρ h.n H ρ h.n (upd H p u) :=
  ⟨Nat.le_refl _, fun _ _ => rfl, fun a o e _ => by rw [upd_ne (ne_of_none e hp)]; exact e, fun i a b => absurd b (Nat.not_lt.mpr a)⟩
theorem Nxt.aside (S : Sim K CT ρ h H) {p : Addr} {u : HO} (hp : H p = none) : Nxt K CT ρ h H ρ h (upd H p u) := by
  have F : Fw ρ h.n H ρ h.n (upd H p u) := Fw.aside S hp
  refine ⟨F, S.inj, S.dom, S.lt, fun i o e => (S.ob i o e).keep S F ?_⟩
  obtain ⟨v, ev, _⟩ := (S.ob i o e).some
  rw [upd_ne (ne_of_none ev hp)]
/-- a new object of ours -/
def ρnew (ρ : Nat → Addr) (n : Nat) (p : Addr) : Nat → Addr := fun i => if i = n then p else ρ i
theorem Fw.fresh (ρ : Nat → Addr) (n : Nat) {p : Addr} {u : HO} (hp : H p = none) : Fw ρ n H (ρnew ρ n p) (n + 1) (upd H p u) :=
  ⟨Nat.le_succ _, fun i hi => if_neg (Nat.ne_of_lt hi), fun a o e _ => by rw [upd_ne (ne_of_none e hp)]; exact e, fun i a b => by
    have e : i = n := by omega
    unfold ρnew
    rw [if_pos e]
    exact hp⟩
theorem Nxt.fresh (S : Sim K CT ρ h H) {p : Addr} {u : HO} {o : O} (hp : H p = none) (ho : ObR K CT (ρnew ρ h.n p) (h.n + 1) (upd H p u) p o) : Nxt K CT ρ h H (ρnew ρ h.n p) (h.new o) (upd H p u) := by
  have F : Fw ρ h.n H (ρnew ρ h.n p) (h.n + 1) (upd H p u) := Fw.fresh ρ h.n hp
  have at_n : ρnew ρ h.n p h.n = p := if_pos rfl
  refine ⟨F, ?_, ?_, ?_, ?_⟩
  · intro i j hi hj e
    have hi' : i < h.n + 1 := hi
    have hj' : j < h.n + 1 := hj
    unfold ρnew at e
    by_cases ei : i = h.n
    · by_cases ej : j = h.n
      · omega
      · rw [if_pos ei, if_neg ej] at e
        obtain ⟨v, ev, _⟩ := S.some (show j < h.n by omega)
        rw [← e, hp] at ev
        cases ev
    · by_cases ej : j = h.n
      · rw [if_neg ei, if_pos ej] at e
        obtain ⟨v, ev, _⟩ := S.some (show i < h.n by omega)
        rw [e, hp] at ev
        cases ev
      · rw [if_neg ei, if_neg ej] at e
        exact S.inj i j (by omega) (by omega) e
  · intro i hi
    have hi' : i < h.n + 1 := hi
    rw [Hx.get_new]
    by_cases ei : i = h.n
    · exact ⟨o, if_pos ei⟩
    · rw [if_neg ei]
      exact S.dom i (by omega)
  · intro i u' e
    rw [Hx.get_new] at e
    show i < h.n + 1
    by_cases ei : i = h.n
    · omega
    · rw [if_neg ei] at e
      exact Nat.lt_succ_of_lt (S.lt i u' e)
  · intro i u' e
    rw [Hx.get_new] at e
    by_cases ei : i = h.n
    · rw [if_pos ei] at e
      cases e
      subst ei
      rw [at_n]
      exact ho
    · rw [if_neg ei] at e
      have hl := S.lt i u' e
      rw [F.ext i hl]
      refine (S.ob i u' e).keep S F ?_
      obtain ⟨v, ev, _⟩ := (S.ob i u' e).some
      rw [upd_ne (ne_of_none ev hp)]
/-- one of our objects is changed -/
theorem Fw.put (S : Sim K CT ρ h H) {i : Nat} {u : HO} (hi : i < h.n) : Fw ρ h.n H ρ h.n (upd H (ρ i) u) :=
  ⟨Nat.le_refl _, fun _ _ => rfl, fun a o e z => by rw [upd_ne (fun q => z i hi q.symm)]; exact e, fun i a b => absurd b (Nat.not_lt.mpr a)⟩
theorem Nxt.put (S : Sim K CT ρ h H) {i : Nat} {u : HO} {o : O} (hi : i < h.n) (ho : ObR K CT ρ h.n (upd H (ρ i) u) (ρ i) o) : Nxt K CT ρ h H ρ (h.put i o) (upd H (ρ i) u) := by
  have F : Fw ρ h.n H ρ h.n (upd H (ρ i) u) := Fw.put S hi
  refine ⟨F, S.inj, fun j hj => ?_, fun j u' e => ?_, fun j u' e => ?_⟩
  · rw [Hx.get_put]
    by_cases ej : j = i
    · exact ⟨o, if_pos ej⟩
    · rw [if_neg ej]
      exact S.dom j hj
  · rw [Hx.get_put] at e
    by_cases ej : j = i
    · rw [ej]
      exact hi
    · rw [if_neg ej] at e
      exact S.lt j u' e
  · rw [Hx.get_put] at e
    by_cases ej : j = i
    · rw [if_pos ej] at e
      cases e
      rw [ej]
      exact ho
    · rw [if_neg ej] at e
      refine (S.ob j u' e).keep S F ?_
      rw [upd_ne (fun q => ej (S.inj j i (S.lt j u' e) hi q))]
theorem Reps.length : ∀ {ws : List W} {vs : List V} {n : Nat}, Reps K CT ρ n H ws vs → ws.length = vs.length
  | _, _, _, .nil => rfl
  | _, _, _, .cons _ t => by rw [List.length_cons, List.length_cons, Reps.length t]
theorem Reps.get : ∀ {ws : List W} {vs : List V} {n : Nat} {i : Nat} {w : W}, Reps K CT ρ n H ws vs → ws[i]? = some w → ∃ v, vs[i]? = some v ∧ Rep K CT ρ n H w v
  | _, _, _, _, _, .nil, e => by cases e
  | _, _, _, 0, _, .cons r _, e => by cases e; exact ⟨_, rfl, r⟩
  | _, _, _, i + 1, w, .cons _ t, e => Reps.get (i := i) t e
theorem Reps.set : ∀ {ws : List W} {vs : List V} {n : Nat} {w : W} {v : V} (i : Nat), Rep K CT ρ n H w v → Reps K CT ρ n H ws vs → Reps K CT ρ n H (ws.set i w) (vs.set i v)
  | _, _, _, _, _, _, _, .nil => .nil
  | _, _, _, _, _, 0, r, .cons _ t => .cons r t
  | _, _, _, _, _, i + 1, r, .cons q t => .cons q (Reps.set i r t)
theorem Reps.append : ∀ {ws ws' : List W} {vs vs' : List V} {n : Nat}, Reps K CT ρ n H ws vs → Reps K CT ρ n H ws' vs' → Reps K CT ρ n H (ws ++ ws') (vs ++ vs')
  | _, _, _, _, _, .nil, s => s
  | _, _, _, _, _, .cons r t, s => .cons r (Reps.append t s)
theorem Reps.take : ∀ {ws : List W} {vs : List V} {n : Nat} (k : Nat), Reps K CT ρ n H ws vs → Reps K CT ρ n H (ws.take k) (vs.take k)
  | _, _, _, 0, _ => by rw [List.take_zero, List.take_zero]; exact .nil
  | _, _, _, _ + 1, .nil => .nil
  | _, _, _, k + 1, .cons r t => .cons r (Reps.take k t)
theorem Reps.drop : ∀ {ws : List W} {vs : List V} {n : Nat} (k : Nat), Reps K CT ρ n H ws vs → Reps K CT ρ n H (ws.drop k) (vs.drop k)
  | _, _, _, 0, r => r
  | _, _, _, _ + 1, .nil => .nil
  | _, _, _, k + 1, .cons _ t => Reps.drop k t
theorem Reps.isEmpty {ws : List W} {vs : List V} {n : Nat} (r : Reps K CT ρ n H ws vs) : ws.isEmpty = vs.isEmpty := by cases r <;> rfl
end
end Sx

set_option linter.all false
set_option autoImplicit false
set_option maxRecDepth 100000
set_option maxHeartbeats 2000000
namespace Sx
open PySem L2

/-! ### readings by plain functions -/
/-- how an exception lies: without fields none, with them its own dict -/
def XcR (K : PySem.W.Frag) (CT : Nat → Addr) (ρ : Nat → Addr) (n : Nat) (H : Hp) (x : Xc) (od : Option Addr) : Prop :=
  ∃ vs, XdAt H od x.ns vs ∧ Reps K CT ρ n H x.ws vs
abbrev RW (K : PySem.W.Frag) (CT : Nat → Addr) : (Nat → Addr) → Nat → Hp → W → V → Prop := fun ρ n H => Rep K CT ρ n H
abbrev RA (K : PySem.W.Frag) (CT : Nat → Addr) : (Nat → Addr) → Nat → Hp → List W → List V → Prop := fun ρ n H => Reps K CT ρ n H
abbrev RB : (Nat → Addr) → Nat → Hp → Bool → Bool → Prop := fun _ _ _ a b => a = b
def Post {α β : Type} (K : PySem.W.Frag) (CT : Nat → Addr) (RR : (Nat → Addr) → Nat → Hp → α → β → Prop) (Wd : WX) (ρ : Nat → Addr) (h : Hx) (H : Hp) (σ : St) (r : R α) (Q : β → Hp → Prop) : Prop := match r with
  | .ok w h' => ∀ ρ' H' v, Nxt K CT ρ h H ρ' h' H' → RR ρ' h'.n H' w v → Q v H'
  | .exc x h' => ∀ ρ' H' od, Nxt K CT ρ h H ρ' h' H' → XcR K CT ρ' h'.n H' x od → Wd (.ref (CT x.k)) od σ H'
  | .bad => False
structure REnv (K : PySem.W.Frag) (CT : Nat → Addr) (ρ : Nat → Addr) (n : Nat) (H : Hp) (es : Env) (σ : St) : Prop where
  len : es.length = σ.length
  at_ : ∀ (i : Nat) (w : W), es[i]? = some (some w) → ∃ v, σ[i]? = some (some v) ∧ Rep K CT ρ n H w v
def tE (K : PySem.W.Frag) (CT : Nat → Addr) (Wd : WX) (c : Ex) : TE := fun σ H Q => ∃ ρ h es, Sim K CT ρ h H ∧ REnv K CT ρ h.n H es σ ∧ Post K CT (RW K CT) Wd ρ h H σ (c es h) Q
def tT (K : PySem.W.Frag) (CT : Nat → Addr) (Wd : WX) (c : Tx) : TT := fun σ H Q => ∃ ρ h es, Sim K CT ρ h H ∧ REnv K CT ρ h.n H es σ ∧ Post K CT RB Wd ρ h H σ (c es h) Q
def tAx (K : PySem.W.Frag) (CT : Nat → Addr) (Wd : WX) (c : Ax) : TA := fun σ H Q => ∃ ρ h es, Sim K CT ρ h H ∧ REnv K CT ρ h.n H es σ ∧ Post K CT (RA K CT) Wd ρ h H σ (c es h) Q
abbrev SE (X : Cx) (CT : Nat → Addr) (Wd : WX) (e : Expr) (c : Ex) : Prop := PE X e (tE X.K CT Wd c)
abbrev ST (X : Cx) (CT : Nat → Addr) (Wd : WX) (e : Expr) (c : Tx) : Prop := PT X e (tT X.K CT Wd c)
abbrev SW (X : Cx) (CT : Nat → Addr) (Wd : WX) (e : Expr) (c : Tx) : Prop := PW X e (tT X.K CT Wd c)
abbrev SA (X : Cx) (CT : Nat → Addr) (Wd : WX) (es : List Expr) (c : Ax) : Prop := PA X es (tAx X.K CT Wd c)
theorem _root_.L2.PE.wk {X : Cx} {e : Expr} {t t' : TE} (h : PE X e t) (k : ∀ σ H Q, t' σ H Q → t σ H Q) : PE X e t' := ⟨fun pins s σ H Q I q => h.run pins s σ H Q I (k σ H Q q)⟩
theorem _root_.L2.PT.wk {X : Cx} {e : Expr} {t t' : TT} (h : PT X e t) (k : ∀ σ H Q, t' σ H Q → t σ H Q) : PT X e t' := ⟨fun pins s σ H Q I q => h.run pins s σ H Q I (k σ H Q q)⟩
theorem _root_.L2.PW.wk {X : Cx} {e : Expr} {t t' : TT} (h : PW X e t) (k : ∀ σ H Q, t' σ H Q → t σ H Q) : PW X e t' := ⟨fun whole pins s σ H Q I q => h.run whole pins s σ H Q I (k σ H Q q)⟩
theorem _root_.L2.PA.wk {X : Cx} {e : List Expr} {t t' : TA} (h : PA X e t) (k : ∀ σ H Q, t' σ H Q → t σ H Q) : PA X e t' := ⟨fun pos pins s σ H Q I q => h.run pos pins s σ H Q I (k σ H Q q)⟩

section
variable {K : PySem.W.Frag} {CT : Nat → Addr} {Wd : WX} {ρ ρ' : Nat → Addr} {h h' : Hx} {H H' : Hp} {σ : St} {es : Env}
theorem REnv.keep (S : Sim K CT ρ h H) {n' : Nat} (N : Fw ρ h.n H ρ' n' H') (E : REnv K CT ρ h.n H es σ) : REnv K CT ρ' n' H' es σ :=
  ⟨E.len, fun i w e => let ⟨v, ev, r⟩ := E.at_ i w e; ⟨v, ev, Rep.keep S N w v r⟩⟩
theorem REnv.set {n : Nat} {w : W} {v : V} (E : REnv K CT ρ n H es σ) (r : Rep K CT ρ n H w v) (i : Nat) : REnv K CT ρ n H (es.set i (some w)) (σ.set i (some v)) := by
  refine ⟨by rw [List.length_set, List.length_set]; exact E.len, fun j u e => ?_⟩
  rw [List.getElem?_set] at e ⊢
  by_cases ij : i = j
  · subst ij
    rw [if_pos rfl] at e ⊢
    by_cases hl : i < es.length
    · rw [if_pos hl] at e
      cases e
      rw [if_pos (by rw [← E.len]; exact hl)]
      exact ⟨v, rfl, r⟩
    · rw [if_neg hl] at e
      cases e
  · rw [if_neg ij] at e ⊢
    exact E.at_ j u e
theorem Post.step {α β : Type} {RR : (Nat → Addr) → Nat → Hp → α → β → Prop} {r : R α} {Q : β → Hp → Prop} (S : Sim K CT ρ h H) (N : Nxt K CT ρ h H ρ' h' H') (p : Post K CT RR Wd ρ h H σ r Q) : Post K CT RR Wd ρ' h' H' σ r Q := by
  cases r with
  | ok w h2 => exact fun ρ2 H2 v N2 q => p ρ2 H2 v (N.trans S N2) q
  | exc x h2 => exact fun ρ2 H2 od N2 q => p ρ2 H2 od (N.trans S N2) q
  | bad => exact p
/-- one part behind another -/
theorem Post.bind {α β γ δ : Type} {RR : (Nat → Addr) → Nat → Hp → α → β → Prop} {RR2 : (Nat → Addr) → Nat → Hp → γ → δ → Prop} {r : R α} {f : α → Hx → R γ} {Q : δ → Hp → Prop} {Q' : β → Hp → Prop} (S : Sim K CT ρ h H)
    (p : Post K CT RR2 Wd ρ h H σ (r.bind f) Q)
    (k : ∀ w h1 ρ1 H1 v, Nxt K CT ρ h H ρ1 h1 H1 → RR ρ1 h1.n H1 w v → Post K CT RR2 Wd ρ1 h1 H1 σ (f w h1) Q → Q' v H1) : Post K CT RR Wd ρ h H σ r Q' := by
  cases r with
  | ok w h1 => exact fun ρ1 H1 v N q => k w h1 ρ1 H1 v N q (Post.step S N p)
  | exc x h1 => exact p
  | bad => exact p
theorem Post.here {α β : Type} {RR : (Nat → Addr) → Nat → Hp → α → β → Prop} {w : α} {v : β} {Q : β → Hp → Prop} (S : Sim K CT ρ h H) (p : Post K CT RR Wd ρ h H σ (.ok w h) Q) (r : RR ρ h.n H w v) : Q v H := p ρ H v (Nxt.refl S) r
end

/-! ### names, constants -/
def xVar (i : Nat) : Ex := fun es h => match es[i]? with
  | some (some w) => .ok w h
  | _ => .bad
def xC (w : W) : Ex := fun _ h => .ok w h
section
variable {X : Cx} {CT : Nat → Addr} {Wd : WX} {a b c e : Expr} {ca cb cc : Ex} {pos : Pos}
theorem se_var {i : Nat} {x : Str} {pos : Pos} (p : PE X (.Name x pos) (tVar i)) : SE X CT Wd (.Name x pos) (xVar i) := by
  refine p.wk fun σ H Q ⟨ρ, h, es, S, E, p⟩ => ?_
  unfold xVar at p
  split at p
  · rename_i w ew
    obtain ⟨v, ev, r⟩ := E.at_ i w ew
    exact ⟨v, ev, Post.here S p r⟩
  · exact p.elim
theorem se_c {w : W} {v : V} (p : PE X e (tC v)) (r : ∀ ρ n H, Rep X.K CT ρ n H w v) : SE X CT Wd e (xC w) :=
  p.wk fun σ H Q ⟨ρ, h, es, S, E, q⟩ => Post.here S q (r ρ h.n H)
theorem se_int {i : Int} {j pos} : SE X CT Wd (.Constant (.int i) j pos) (xC (.int i)) := se_c pe_int fun _ _ _ => .int i
theorem se_bl {i : Bool} {j pos} : SE X CT Wd (.Constant (.bool i) j pos) (xC (.bl i)) := se_c pe_bl fun _ _ _ => .bl i
theorem se_non {j pos} : SE X CT Wd (.Constant .none j pos) (xC .non) := se_c pe_non fun _ _ _ => .non
theorem str_list (x : Str) : (⟨x.cps.toList.toArray⟩ : Str) = x := by cases x; rfl
theorem rep_str {K : PySem.W.Frag} {ρ : Nat → Addr} {n : Nat} {H : Hp} (x : Str) (h : x.cps.toList.all (· < 1114112) = true) : Rep K CT ρ n H (.str x.cps.toList) (.str x) := by
  have q := Rep.str (K := K) (CT := CT) (ρ := ρ) (n := n) (H := H) h
  rw [str_list] at q
  exact q
theorem se_str {x : Str} {z : List Nat} {j pos} (e : x.cps.toList = z := by rfl) (h : z.all (· < 1114112) = true := by decide) : SE X CT Wd (.Constant (.str x) j pos) (xC (.str z)) := se_c pe_str fun _ _ _ => by
  subst e
  exact rep_str x h

/-! ### operators -/
def xOp (f : W → W → Hx → R W) (a b : Ex) : Ex := fun es h => (a es h).bind fun x h1 => (b es h1).bind fun y h2 => f x y h2
/-- a rule for two values, by a plain function -/
def OpS (K : PySem.W.Frag) (CT : Nat → Addr) (Wd : WX) (r : R2) (f : W → W → Hx → R W) : Prop :=
  ∀ {ρ : Nat → Addr} {h : Hx} {H : Hp} {σ : St} {x y : W} {v u : V} {Q : VK}, Sim K CT ρ h H → Rep K CT ρ h.n H x v → Rep K CT ρ h.n H y u → Post K CT (RW K CT) Wd ρ h H σ (f x y h) Q → r v u H Q
theorem tOp_of {r : R2} {f : W → W → Hx → R W} (hs : OpS X.K CT Wd r f) {σ : St} {H : Hp} {Q : VK} (q : tE X.K CT Wd (xOp f ca cb) σ H Q) : tOp r (tE X.K CT Wd ca) (tE X.K CT Wd cb) σ H Q := by
  obtain ⟨ρ, h, es, S, E, p⟩ := q
  refine ⟨ρ, h, es, S, E, Post.bind S p fun w h1 ρ1 H1 v N1 r1 p1 => ?_⟩
  refine ⟨ρ1, h1, es, N1.sim, E.keep S N1.toFw, Post.bind N1.sim p1 fun w2 h2 ρ2 H2 u N2 r2 p2 => ?_⟩
  exact hs N2.sim (Rep.keep N1.sim N2.toFw _ _ r1) r2 p2
theorem se_op {op : Operator} {r : R2} {f : W → W → Hx → R W} (ho : OpR X (binaryOp op) r) (hs : OpS X.K CT Wd r f) (ha : SE X CT Wd a ca) (hb : SE X CT Wd b cb) : SE X CT Wd (.BinOp a op b pos) (xOp f ca cb) :=
  (pe_op ho ha hb).wk fun _ _ _ q => tOp_of hs q
theorem se_cmp {op : CmpOp} {r : R2} {f : W → W → Hx → R W} (ho : OpR X (compareOp op) r) (hs : OpS X.K CT Wd r f) (ha : SE X CT Wd a ca) (hb : SE X CT Wd b cb) (hm : behindInMarks op b = false) : SE X CT Wd (.Compare a [op] [b] pos) (xOp f ca cb) :=
  (pe_cmpR ho ha hb hm).wk fun _ _ _ q => tOp_of hs q
/-- as a test: the answer is a bool -/
def xBl (c : Ex) : Tx := fun es h => (c es h).bind fun w h1 => match w with
  | .bl b => .ok b h1
  | _ => .bad
theorem tTest_of {t : TE} {c : Ex} (k : ∀ σ H Q, tE X.K CT Wd c σ H Q → t σ H Q) {σ : St} {H : Hp} {Q : Bool → Hp → Prop} (q : tT X.K CT Wd (xBl c) σ H Q) : tTest t σ H Q := by
  obtain ⟨ρ, h, es, S, E, p⟩ := q
  refine k _ _ _ ⟨ρ, h, es, S, E, Post.bind (RR := RW X.K CT) S p fun w h1 ρ1 H1 v N1 r1 p1 => ?_⟩
  cases r1 with
  | bl b => exact ⟨b, rfl, Post.here N1.sim p1 rfl⟩
  | non => exact p1.elim
  | int _ => exact p1.elim
  | str _ => exact p1.elim
  | tup _ _ => exact p1.elim
  | fls _ _ => exact p1.elim
  | ref _ => exact p1.elim
  | ty _ => exact p1.elim
  | cl _ => exact p1.elim
  | exc _ _ _ => exact p1.elim
theorem st_cmp {op : CmpOp} {r : R2} {f : W → W → Hx → R W} (ho : OpR X (compareOp op) r) (hs : OpS X.K CT Wd r f) (ha : SE X CT Wd a ca) (hb : SE X CT Wd b cb) (hm : behindInMarks op b = false) : ST X CT Wd (.Compare a [op] [b] pos) (xBl (xOp f ca cb)) :=
  (pt_cmpR ho ha hb hm).wk fun _ _ _ q => tTest_of (fun _ _ _ z => tOp_of hs z) q
def xChain (f g : W → W → Hx → R W) (a b c : Ex) : Ex := fun es h => (a es h).bind fun x h1 => (b es h1).bind fun y h2 => (f x y h2).bind fun k h3 => match k with
  | .bl true => (c es h3).bind fun z h4 => g y z h4
  | .bl false => .ok (.bl false) h3
  | _ => .bad
/-- the answer of a comparison handed on -/
def OpSB (K : PySem.W.Frag) (CT : Nat → Addr) (Wd : WX) (r : R2) (f : W → W → Hx → R W) : Prop :=
  ∀ {ρ : Nat → Addr} {h : Hx} {H : Hp} {σ : St} {x y : W} {v u : V} {Q : VK}, Sim K CT ρ h H → Rep K CT ρ h.n H x v → Rep K CT ρ h.n H y u → Post K CT (RW K CT) Wd ρ h H σ (f x y h) Q → r v u H Q
theorem tChain_of {r r' : R2} {f g : W → W → Hx → R W} (hs : OpS X.K CT Wd r f) (hs' : OpS X.K CT Wd r' g) {σ : St} {H : Hp} {Q : VK} (q : tE X.K CT Wd (xChain f g ca cb cc) σ H Q) :
    tChain r r' (tE X.K CT Wd ca) (tE X.K CT Wd cb) (tE X.K CT Wd cc) σ H Q := by
  obtain ⟨ρ, h, es, S, E, p⟩ := q
  refine ⟨ρ, h, es, S, E, Post.bind (RR := RW X.K CT) S p fun w h1 ρ1 H1 v N1 r1 p1 => ?_⟩
  refine ⟨ρ1, h1, es, N1.sim, E.keep S N1.toFw, Post.bind (RR := RW X.K CT) N1.sim p1 fun w2 h2 ρ2 H2 u N2 r2 p2 => ?_⟩
  have E2 : REnv X.K CT ρ2 h2.n H2 es σ := (E.keep S N1.toFw).keep N1.sim N2.toFw
  refine hs (σ := σ) N2.sim (Rep.keep N1.sim N2.toFw _ _ r1) r2 (Post.bind (RR := RW X.K CT) N2.sim p2 fun w3 h3 ρ3 H3 z N3 r3 p3 => ?_)
  have no : ∀ {t : W}, (∀ b, t ≠ .bl b) → Post X.K CT (RW X.K CT) Wd ρ3 h3 H3 σ (match t with | .bl true => (cc es h3).bind fun z h4 => g w2 z h4 | .bl false => .ok (.bl false) h3 | _ => .bad) Q → False := fun {t} n q => by
    cases t <;> first | exact q | exact absurd rfl (n _)
  cases r3 with
  | bl b =>
    cases b with
    | true =>
      refine ⟨true, rfl, ?_⟩
      rw [if_pos rfl]
      refine ⟨ρ3, h3, es, N3.sim, E2.keep N2.sim N3.toFw, Post.bind N3.sim p3 fun w4 h4 ρ4 H4 y N4 r4 p4 => ?_⟩
      exact hs' N4.sim (Rep.keep N3.sim N4.toFw _ _ (Rep.keep N2.sim N3.toFw _ _ r2)) r4 p4
    | false =>
      refine ⟨false, rfl, ?_⟩
      rw [if_neg Bool.false_ne_true]
      exact Post.here N3.sim p3 (.bl false)
  | non => exact p3.elim
  | int _ => exact p3.elim
  | str _ => exact p3.elim
  | tup _ _ => exact p3.elim
  | fls _ _ => exact p3.elim
  | ref _ => exact p3.elim
  | ty _ => exact p3.elim
  | cl _ => exact p3.elim
  | exc _ _ _ => exact p3.elim
theorem se_chain {op op' : CmpOp} {r r' : R2} {f g : W → W → Hx → R W} (ho : OpR X (compareOp op) r) (hs : OpS X.K CT Wd r f) (ho' : OpR X (compareOp op') r') (hs' : OpS X.K CT Wd r' g) (ha : SE X CT Wd a ca) (hb : SE X CT Wd b cb) (hc : SE X CT Wd c cc)
    (hm : lastMarks [op, op'] [b, c] = false := by with_unfolding_all rfl) : SE X CT Wd (.Compare a [op, op'] [b, c] pos) (xChain f g ca cb cc) :=
  (pe_chain ho ho' ha hb hc hm).wk fun _ _ _ q => tChain_of hs hs' q
theorem st_chain {op op' : CmpOp} {r r' : R2} {f g : W → W → Hx → R W} (ho : OpR X (compareOp op) r) (hs : OpS X.K CT Wd r f) (ho' : OpR X (compareOp op') r') (hs' : OpS X.K CT Wd r' g) (ha : SE X CT Wd a ca) (hb : SE X CT Wd b cb) (hc : SE X CT Wd c cc)
    (hm : lastMarks [op, op'] [b, c] = false := by with_unfolding_all rfl) : ST X CT Wd (.Compare a [op, op'] [b, c] pos) (xBl (xChain f g ca cb cc)) :=
  (pt_chain ho ho' ha hb hc hm).wk fun _ _ _ q => tTest_of (fun _ _ _ z => tChain_of hs hs' z) q
/-- two rules for one operator -/
theorem opR_or {f : Value → Value → Sem Value} {r r' : R2} (p : OpR X f r) (q : OpR X f r') : OpR X f (fun x y H Q => r x y H Q ∨ r' x y H Q) := by
  intro pins s σ H x y v u Q I rx ry h
  rcases h with h | h
  · exact p pins s σ H x y v u Q I rx ry h
  · exact q pins s σ H x y v u Q I rx ry h
def xUn (f : W → Hx → R W) (a : Ex) : Ex := fun es h => (a es h).bind fun x h1 => f x h1
def UnS (K : PySem.W.Frag) (CT : Nat → Addr) (Wd : WX) (r : V → Hp → VK → Prop) (f : W → Hx → R W) : Prop :=
  ∀ {ρ : Nat → Addr} {h : Hx} {H : Hp} {σ : St} {x : W} {v : V} {Q : VK}, Sim K CT ρ h H → Rep K CT ρ h.n H x v → Post K CT (RW K CT) Wd ρ h H σ (f x h) Q → r v H Q
theorem se_un {op : UnaryOp} {r : V → Hp → VK → Prop} {f : W → Hx → R W} (ho : UnR X (unaryOp op) r) (hs : UnS X.K CT Wd r f) (ha : SE X CT Wd a ca) : SE X CT Wd (.UnaryOp op a pos) (xUn f ca) := by
  refine (pe_un ho ha).wk fun σ H Q ⟨ρ, h, es, S, E, p⟩ => ?_
  exact ⟨ρ, h, es, S, E, Post.bind S p fun w h1 ρ1 H1 v N1 r1 p1 => hs N1.sim r1 p1⟩
end
end Sx

set_option linter.all false
set_option autoImplicit false
set_option maxRecDepth 100000
set_option maxHeartbeats 2000000
namespace Sx
open PySem L2

/-! ### data in our heap -/
def itemsOf (h : Hx) : W → Option (List W)
  | .fls xs => some xs
  | .ref i => match h.get i with
    | some (.lst xs) => some xs
    | _ => none
  | _ => none
def okD (h : Hx) : Nat → W → Bool
  | 0, _ => false
  | _ + 1, .non => true
  | _ + 1, .bl _ => true
  | _ + 1, .int _ => true
  | _ + 1, .str _ => true
  | f + 1, .tup xs => xs.all (okD h f)
  | f + 1, .fls xs => xs.all (okD h f)
  | f + 1, .ref i => match h.get i with
    | some (.lst xs) => xs.all (okD h f)
    | _ => false
  | _ + 1, _ => false
def toD (h : Hx) : Nat → W → PyData
  | 0, _ => .none
  | _ + 1, .non => .none
  | _ + 1, .bl b => .bool b
  | _ + 1, .int i => .int i
  | _ + 1, .str z => .str ⟨z.toArray⟩
  | f + 1, .tup xs => .tuple (xs.map (toD h f))
  | f + 1, .fls xs => .list (xs.map (toD h f))
  | f + 1, .ref i => match h.get i with
    | some (.lst xs) => .list (xs.map (toD h f))
    | _ => .none
  | _ + 1, _ => .none
def eqAll (f : W → W → Bool) : List W → List W → Bool
  | [], [] => true
  | x :: xs, y :: ys => f x y && eqAll f xs ys
  | [], _ :: _ => false
  | _ :: _, [] => false
def eqI (b : Bool) (i : Int) : Bool := (if b then 1 else 0) == i
def eqH (h : Hx) : Nat → W → W → Bool
  | 0, _, _ => false
  | f + 1, x, y => match x, y with
    | .non, .non => true
    | .bl a, .bl b => a == b
    | .bl a, .int j => eqI a j
    | .int i, .bl b => i == (if b then 1 else 0)
    | .int i, .int j => i == j
    | .str a, .str b => a == b
    | .tup a, .tup b => eqAll (eqH h f) a b
    | x, y => match itemsOf h x, itemsOf h y with
      | some a, some b => eqAll (eqH h f) a b
      | _, _ => false
theorem data_depth_list (xs : List PyData) (f : Nat) (h : ∀ d ∈ xs, d.depth ≤ f) : (PyData.list xs).depth ≤ f + 1 ∧ (PyData.tuple xs).depth ≤ f + 1 := by
  have q : ∀ xs : List PyData, (∀ d ∈ xs, d.depth ≤ f) → PyData.depthAll xs ≤ f := fun xs h => by
    induction xs with
    | nil => exact Nat.zero_le _
    | cons x r ih =>
      have h1 := h x List.mem_cons_self
      have h2 := ih fun d hd => h d (List.mem_cons_of_mem _ hd)
      simp only [PyData.depthAll]
      omega
  have := q xs h
  constructor <;> (simp only [PyData.depth]; omega)
theorem canLayAll_of (xs : List PyData) (h : ∀ d ∈ xs, d.canLay0 = true) : PyData.canLayAll0 xs = true := by
  induction xs with
  | nil => rfl
  | cons x r ih =>
    unfold PyData.canLayAll0
    rw [h x List.mem_cons_self, ih fun d hd => h d (List.mem_cons_of_mem _ hd)]
    rfl
section
variable {K : PySem.W.Frag} {CT ρ : Nat → Addr} {h : Hx} {H : Hp}
theorem dpAll_of {f : W → PyData} : ∀ {xs : List W} {vs : List V}, Reps K CT ρ h.n H xs vs → (∀ w v, w ∈ xs → Rep K CT ρ h.n H w v → Dp K H v (f w)) → DpAll K H vs (xs.map f)
  | _, _, .nil, _ => .nil
  | _, _, .cons r t, k => .cons (k _ _ List.mem_cons_self r) (dpAll_of t fun w v hw q => k w v (List.mem_cons_of_mem _ hw) q)
theorem okD_data (S : Sim K CT ρ h H) : ∀ (f : Nat) (w : W) (v : V), okD h f w = true → Rep K CT ρ h.n H w v → Dp K H v (toD h f w) ∧ (toD h f w).canLay0 = true ∧ (toD h f w).depth ≤ f
  | 0, _, _, e, _ => by cases e
  | f + 1, .non, _, _, r => by cases r; exact ⟨.non, rfl, by simp [toD, PyData.depth]⟩
  | f + 1, .bl b, _, _, r => by cases r; exact ⟨.bl b, rfl, by simp [toD, PyData.depth]⟩
  | f + 1, .int i, _, _, r => by cases r; exact ⟨.int i, rfl, by simp [toD, PyData.depth]⟩
  | f + 1, .str z, _, _, r => by
    cases r with
    | str hz =>
      refine ⟨.str _, ?_, by simp [toD, PyData.depth]⟩
      show PyData.canLay0 (.str ⟨z.toArray⟩) = true
      unfold PyData.canLay0 PySem.PyData.strOk
      simpa using hz
  | f + 1, .tup xs, _, e, r => by
    cases r with
    | @tup a _ vs q rs =>
      have e' : xs.all (okD h f) = true := e
      have ih : ∀ w v, w ∈ xs → Rep K CT ρ h.n H w v → Dp K H v (toD h f w) ∧ (toD h f w).canLay0 = true ∧ (toD h f w).depth ≤ f := fun w v hw rw => okD_data S f w v (List.all_eq_true.mp e' w hw) rw
      have all : ∀ w ∈ xs, (toD h f w).canLay0 = true ∧ (toD h f w).depth ≤ f := fun w hw => by
        obtain ⟨i, hi⟩ := List.mem_iff_getElem?.mp hw
        obtain ⟨v, _, rv⟩ := rs.get hi
        exact (ih w v hw rv).2
      refine ⟨.tup q (dpAll_of rs fun w v hw rw => (ih w v hw rw).1), ?_, ?_⟩
      · show PyData.canLayAll0 (xs.map (toD h f)) = true
        exact canLayAll_of _ fun d hd => by
          obtain ⟨w, hw, rfl⟩ := List.mem_map.mp hd
          exact (all w hw).1
      · exact (data_depth_list _ f fun d hd => by
          obtain ⟨w, hw, rfl⟩ := List.mem_map.mp hd
          exact (all w hw).2).2
  | f + 1, .fls xs, _, e, r => by
    cases r with
    | @fls a _ vs q rs =>
      have e' : xs.all (okD h f) = true := e
      have ih : ∀ w v, w ∈ xs → Rep K CT ρ h.n H w v → Dp K H v (toD h f w) ∧ (toD h f w).canLay0 = true ∧ (toD h f w).depth ≤ f := fun w v hw rw => okD_data S f w v (List.all_eq_true.mp e' w hw) rw
      have all : ∀ w ∈ xs, (toD h f w).canLay0 = true ∧ (toD h f w).depth ≤ f := fun w hw => by
        obtain ⟨i, hi⟩ := List.mem_iff_getElem?.mp hw
        obtain ⟨v, _, rv⟩ := rs.get hi
        exact (ih w v hw rv).2
      refine ⟨.lst q.sq (dpAll_of rs fun w v hw rw => (ih w v hw rw).1), ?_, ?_⟩
      · show PyData.canLayAll0 (xs.map (toD h f)) = true
        exact canLayAll_of _ fun d hd => by
          obtain ⟨w, hw, rfl⟩ := List.mem_map.mp hd
          exact (all w hw).1
      · exact (data_depth_list _ f fun d hd => by
          obtain ⟨w, hw, rfl⟩ := List.mem_map.mp hd
          exact (all w hw).2).1
  | f + 1, .ref i, _, e, r => by
    cases r with
    | ref hi =>
      unfold okD at e
      unfold toD
      cases g : h.get i with
      | none => rw [g] at e; cases e
      | some o =>
        rw [g] at e
        cases o with
        | dic _ => cases e
        | ins _ _ => cases e
        | lst xs =>
          have e' : xs.all (okD h f) = true := e
          obtain ⟨vs, q, rs⟩ := S.ob i _ g
          have ih : ∀ w v, w ∈ xs → Rep K CT ρ h.n H w v → Dp K H v (toD h f w) ∧ (toD h f w).canLay0 = true ∧ (toD h f w).depth ≤ f := fun w v hw rw => okD_data S f w v (List.all_eq_true.mp e' w hw) rw
          have all : ∀ w ∈ xs, (toD h f w).canLay0 = true ∧ (toD h f w).depth ≤ f := fun w hw => by
            obtain ⟨i, hi⟩ := List.mem_iff_getElem?.mp hw
            obtain ⟨v, _, rv⟩ := rs.get hi
            exact (ih w v hw rv).2
          refine ⟨.lst (.of q) (dpAll_of rs fun w v hw rw => (ih w v hw rw).1), ?_, ?_⟩
          · show PyData.canLayAll0 (xs.map (toD h f)) = true
            exact canLayAll_of _ fun d hd => by
              obtain ⟨w, hw, rfl⟩ := List.mem_map.mp hd
              exact (all w hw).1
          · exact (data_depth_list _ f fun d hd => by
              obtain ⟨w, hw, rfl⟩ := List.mem_map.mp hd
              exact (all w hw).2).1
  | f + 1, .ty _, _, e, _ => by cases e
  | f + 1, .cl _, _, e, _ => by cases e
  | f + 1, .exc _ _ _, _, e, _ => by cases e
end
theorem ref_items {h : Hx} {f i : Nat} (e : okD h (f + 1) (.ref i) = true) : ∃ xs, h.get i = some (.lst xs) ∧ itemsOf h (.ref i) = some xs ∧ xs.all (okD h f) = true ∧ toD h (f + 1) (.ref i) = .list (xs.map (toD h f)) := by
  have e' : (match h.get i with
    | some (.lst xs) => xs.all (okD h f)
    | _ => false) = true := e
  cases g : h.get i with
  | none => rw [g] at e'; cases e'
  | some o =>
    rw [g] at e'
    cases o with
    | dic _ => cases e'
    | ins _ _ => cases e'
    | lst xs =>
      refine ⟨xs, rfl, ?_, e', ?_⟩
      · show (match h.get i with
          | some (.lst xs) => some xs
          | _ => none) = some xs
        rw [g]
      · show (match h.get i with
          | some (.lst xs) => PyData.list (xs.map (toD h f))
          | _ => .none) = _
        rw [g]
theorem eqvAll_map {h : Hx} {f : Nat} (ih : ∀ x y, okD h f x = true → okD h f y = true → eqH h f x y = PyData.eqv (toD h f x) (toD h f y)) : ∀ (a b : List W), a.all (okD h f) = true → b.all (okD h f) = true →
    eqAll (eqH h f) a b = PyData.eqvAll (a.map (toD h f)) (b.map (toD h f))
  | [], [], _, _ => by simp [eqAll, PyData.eqvAll]
  | x :: xs, [], _, _ => by simp [eqAll, PyData.eqvAll]
  | [], y :: ys, _, _ => by simp [eqAll, PyData.eqvAll]
  | x :: xs, y :: ys, e1, e2 => by
    rw [List.all_cons, Bool.and_eq_true] at e1 e2
    show (eqH h f x y && eqAll (eqH h f) xs ys) = _
    rw [ih x y e1.1 e2.1, eqvAll_map ih xs ys e1.2 e2.2, List.map_cons, List.map_cons, PyData.eqvAll]
theorem str_beq (a b : List Nat) : ((⟨a.toArray⟩ : Str) == ⟨b.toArray⟩) = (a == b) := by
  rw [Bool.eq_iff_iff]
  simp
theorem eqH_data {h : Hx} : ∀ (f : Nat) (x y : W), okD h f x = true → okD h f y = true → eqH h f x y = PyData.eqv (toD h f x) (toD h f y)
  | 0, _, _, e, _ => by cases e
  | f + 1, x, y, ex, ey => by
    have ih := eqvAll_map (h := h) (f := f) (eqH_data f)
    have lst : ∀ (w : W), okD h (f + 1) w = true → (∃ xs, itemsOf h w = some xs ∧ xs.all (okD h f) = true ∧ toD h (f + 1) w = .list (xs.map (toD h f))) ∨ itemsOf h w = none := fun w e => by
      cases w with
      | fls xs => exact .inl ⟨xs, rfl, e, rfl⟩
      | ref i =>
        obtain ⟨xs, _, q⟩ := ref_items e
        exact .inl ⟨xs, q⟩
      | non => exact .inr rfl
      | bl _ => exact .inr rfl
      | int _ => exact .inr rfl
      | str _ => exact .inr rfl
      | tup _ => exact .inr rfl
      | ty _ => exact .inr rfl
      | cl _ => exact .inr rfl
      | exc _ _ _ => exact .inr rfl
    rcases lst x ex with ⟨xs, e1, e2, e3⟩ | nx
    · rcases lst y ey with ⟨ys, f1, f2, f3⟩ | ny
      · rw [e3, f3]
        have : eqH h (f + 1) x y = eqAll (eqH h f) xs ys := by
          unfold eqH
          cases x <;> cases y <;> first | (cases e1; done) | (cases f1; done) | (simp only [e1, f1])
        rw [this, ih xs ys e2 f2]
        simp only [PyData.eqv]
      · rw [e3]
        have : eqH h (f + 1) x y = false := by
          unfold eqH
          cases x <;> cases y <;> first | (cases e1; done) | (simp only [e1, ny])
        rw [this]
        cases y with
        | fls _ => cases ny
        | ref i =>
          obtain ⟨xs', _, q', _⟩ := ref_items ey
          rw [ny] at q'
          cases q'
        | ty _ => cases ey
        | cl _ => cases ey
        | exc _ _ _ => cases ey
        | non => simp [toD, PyData.eqv]
        | bl _ => simp [toD, PyData.eqv]
        | int _ => simp [toD, PyData.eqv]
        | str _ => simp [toD, PyData.eqv]
        | tup _ => simp [toD, PyData.eqv]
    · have lx : ∀ i, x ≠ .ref i := fun i q => by
        subst q
        obtain ⟨xs', _, q', _⟩ := ref_items ex
        rw [nx] at q'
        cases q'
      have fx : ∀ xs, x ≠ .fls xs := fun i q => by subst q; cases nx
      rcases lst y ey with ⟨ys, f1, f2, f3⟩ | ny
      · rw [f3]
        have : eqH h (f + 1) x y = false := by
          unfold eqH
          cases x <;> cases y <;> first | (cases f1; done) | (simp only [f1, nx])
        rw [this]
        cases x with
        | fls xs => exact absurd rfl (fx xs)
        | ref i => exact absurd rfl (lx i)
        | ty _ => cases ex
        | cl _ => cases ex
        | exc _ _ _ => cases ex
        | non => simp [toD, PyData.eqv]
        | bl _ => simp [toD, PyData.eqv]
        | int _ => simp [toD, PyData.eqv]
        | str _ => simp [toD, PyData.eqv]
        | tup _ => simp [toD, PyData.eqv]
      · have ly : ∀ i, y ≠ .ref i := fun i q => by
          subst q
          obtain ⟨xs', _, q', _⟩ := ref_items ey
          rw [ny] at q'
          cases q'
        have fy : ∀ xs, y ≠ .fls xs := fun i q => by subst q; cases ny
        cases x with
        | fls xs => exact absurd rfl (fx xs)
        | ref i => exact absurd rfl (lx i)
        | ty _ => cases ex
        | cl _ => cases ex
        | exc _ _ _ => cases ex
        | tup a =>
          cases y with
          | fls xs => exact absurd rfl (fy xs)
          | ref i => exact absurd rfl (ly i)
          | ty _ => cases ey
          | cl _ => cases ey
          | exc _ _ _ => cases ey
          | tup b =>
            show eqAll (eqH h f) a b = _
            rw [ih a b ex ey]
            simp only [toD, PyData.eqv]
          | non => simp [toD, PyData.eqv, eqH, itemsOf]
          | bl _ => simp [toD, PyData.eqv, eqH, itemsOf]
          | int _ => simp [toD, PyData.eqv, eqH, itemsOf]
          | str _ => simp [toD, PyData.eqv, eqH, itemsOf]
        | str a =>
          cases y with
          | fls xs => exact absurd rfl (fy xs)
          | ref i => exact absurd rfl (ly i)
          | ty _ => cases ey
          | cl _ => cases ey
          | exc _ _ _ => cases ey
          | str b =>
            show (a == b) = _
            rw [← str_beq]
            simp only [toD, PyData.eqv]
          | non => simp [toD, PyData.eqv, eqH, itemsOf]
          | bl _ => simp [toD, PyData.eqv, eqH, itemsOf]
          | int _ => simp [toD, PyData.eqv, eqH, itemsOf]
          | tup _ => simp [toD, PyData.eqv, eqH, itemsOf]
        | non =>
          cases y with
          | fls xs => exact absurd rfl (fy xs)
          | ref i => exact absurd rfl (ly i)
          | ty _ => cases ey
          | cl _ => cases ey
          | exc _ _ _ => cases ey
          | _ => simp [toD, PyData.eqv, eqH, itemsOf, eqI]
        | bl _ =>
          cases y with
          | fls xs => exact absurd rfl (fy xs)
          | ref i => exact absurd rfl (ly i)
          | ty _ => cases ey
          | cl _ => cases ey
          | exc _ _ _ => cases ey
          | _ => simp [toD, PyData.eqv, eqH, itemsOf, eqI]
        | int _ =>
          cases y with
          | fls xs => exact absurd rfl (fy xs)
          | ref i => exact absurd rfl (ly i)
          | ty _ => cases ey
          | cl _ => cases ey
          | exc _ _ _ => cases ey
          | _ => simp [toD, PyData.eqv, eqH, itemsOf, eqI]
end Sx

set_option linter.all false
set_option autoImplicit false
set_option maxRecDepth 100000
set_option maxHeartbeats 2000000
namespace Sx
open PySem L2

/-! ### operations on plain values -/
abbrev lim : Nat := 100000
theorem lim_line {n : Nat} (h : n ≤ lim) : n ≤ sizeLine := Nat.le_trans h (by decide)
def addW : W → W → Hx → R W
  | .int i, .int j, h => .ok (.int (i + j)) h
  | .str a, .str b, h => if a.length + b.length ≤ lim then .ok (.str (a ++ b)) h else .bad
  | .tup a, .tup b, h => if a.length + b.length ≤ lim then .ok (.tup (a ++ b)) h else .bad
  | .ref i, .ref j, h => match h.get i, h.get j with
    | some (.lst a), some (.lst b) => if a.length + b.length ≤ lim then .ok (.ref h.n) (h.new (.lst (a ++ b))) else .bad
    | _, _ => .bad
  | _, _, _ => .bad
def subW : W → W → Hx → R W
  | .int i, .int j, h => .ok (.int (i - j)) h
  | _, _, _ => .bad
def mulW : W → W → Hx → R W
  | .int i, .int j, h => if i.natAbs < 2 ^ 64 ∨ j.natAbs < 2 ^ 64 then .ok (.int (i * j)) h else .bad
  | .ref i, .int k, h => match h.get i with
    | some (.lst a) => if 0 ≤ k ∧ k ≤ 100000 ∧ a.length * k.toNat ≤ lim then .ok (.ref h.n) (h.new (.lst (List.replicate k.toNat a).flatten)) else .bad
    | _ => .bad
  | _, _, _ => .bad
def modW : W → W → Hx → R W
  | .int i, .int j, h => if 0 < j then .ok (.int (i % j)) h else .bad
  | _, _, _ => .bad
def fdivW : W → W → Hx → R W
  | .int i, .int j, h => if 0 < j ∧ j < 1073741824 then .ok (.int (i / j)) h else .bad
  | _, _, _ => .bad
def powW : W → W → Hx → R W
  | .int i, .int j, h => if 0 ≤ j ∧ j ≤ 1000000 ∧ i.natAbs < 2 ^ 64 then .ok (.int (i ^ j.toNat)) h else .bad
  | _, _, _ => .bad
def negW : W → Hx → R W
  | .int i, h => .ok (.int (-i)) h
  | _, _ => .bad
def ltW : W → W → Hx → R W
  | .int i, .int j, h => .ok (.bl (decide (i < j))) h
  | _, _, _ => .bad
def leW : W → W → Hx → R W
  | .int i, .int j, h => .ok (.bl (decide (i ≤ j))) h
  | _, _, _ => .bad
def gtW : W → W → Hx → R W
  | .int i, .int j, h => .ok (.bl (decide (j < i))) h
  | _, _, _ => .bad
def geW : W → W → Hx → R W
  | .int i, .int j, h => .ok (.bl (decide (j ≤ i))) h
  | _, _, _ => .bad
/-- == of plain values that are no objects: None, ints, bools, texts (not an int and a bool) -/
def scalW : W → W → Option Bool
  | .non, .non => some true
  | .int i, .int j => some (i == j)
  | .bl a, .bl b => some (a == b)
  | .str a, .str b => some (a == b)
  | .non, .int _ => some false | .int _, .non => some false | .non, .bl _ => some false | .bl _, .non => some false | .non, .str _ => some false | .str _, .non => some false
  | .int _, .str _ => some false | .str _, .int _ => some false | .bl _, .str _ => some false | .str _, .bl _ => some false
  | _, _ => none
def dep : Nat := 20
def eqO (x y : W) (h : Hx) : Option Bool := match scalW x y with
  | some b => some b
  | none => if okD h dep x && okD h dep y then some (eqH h dep x y) else none
def eqW (x y : W) (h : Hx) : R W := match eqO x y h with
  | some b => .ok (.bl b) h
  | none => .bad
def neW (x y : W) (h : Hx) : R W := match eqO x y h with
  | some b => .ok (.bl (!b)) h
  | none => .bad
def isO (x y : W) : Option Bool := match y with
  | .non => some (match x with | .non => true | _ => false)
  | .bl b => match x with
    | .bl a => some (a == b)
    | _ => none
  | _ => none
def isW (x y : W) (h : Hx) : R W := match isO x y with
  | some b => .ok (.bl b) h
  | none => .bad
def isntW (x y : W) (h : Hx) : R W := match isO x y with
  | some b => .ok (.bl (!b)) h
  | none => .bad
def flatW : W → Bool
  | .non => true | .bl _ => true | .int _ => true | .str _ => true | _ => false
def eqFl : W → W → Bool
  | .non, .non => true
  | .bl a, .bl b => a == b
  | .bl a, .int b => eqI a b
  | .int a, .bl b => a == (if b then 1 else 0)
  | .int a, .int b => a == b
  | .str a, .str b => a == b
  | _, _ => false
def seqOf (h : Hx) : W → Option (List W)
  | .tup xs => some xs
  | .fls xs => some xs
  | .ref i => match h.get i with
    | some (.lst xs) => some xs
    | _ => none
  | _ => none
def inO (x y : W) (h : Hx) : Option Bool := match y with
  | .str z => match x with
    | .str [c] => some (z.contains c)
    | _ => none
  | y => match seqOf h y with
    | some xs => if flatW x && xs.all flatW then some (xs.any fun z => eqFl z x)
      else if okD h dep x && okD h dep y then match y with
        | .tup _ => none
        | _ => some (xs.any fun z => eqH h dep z x)
      else none
    | none => none
def inW (x y : W) (h : Hx) : R W := match inO x y h with
  | some b => .ok (.bl b) h
  | none => .bad
def notInW (x y : W) (h : Hx) : R W := match inO x y h with
  | some b => .ok (.bl (!b)) h
  | none => .bad
def ixW (x y : W) (h : Hx) : R W := match y with
  | .int i => match x with
    | .str z => if z.length ≤ lim then match atI z i with
        | some c => .ok (.str [c]) h
        | none => .bad
      else .bad
    | x => match seqOf h x with
      | some xs => match atI xs i with
        | some w => .ok w h
        | none => .bad
      | none => .bad
  | _ => .bad

section
variable {X : Cx} {CT : Nat → Addr} {Wd : WX}
theorem opS_or {K : PySem.W.Frag} {r r' : R2} {f : W → W → Hx → R W} (k : ∀ {ρ : Nat → Addr} {h : Hx} {H : Hp} {σ : St} {x y : W} {v u : V} {Q : VK}, Sim K CT ρ h H → Rep K CT ρ h.n H x v → Rep K CT ρ h.n H y u → Post K CT (RW K CT) Wd ρ h H σ (f x y h) Q → r v u H Q ∨ r' v u H Q) :
    OpS K CT Wd (fun x y H Q => r x y H Q ∨ r' x y H Q) f := k
theorem lst_get {K : PySem.W.Frag} {ρ : Nat → Addr} {h : Hx} {H : Hp} (S : Sim K CT ρ h H) {i : Nat} {xs : List W} (g : h.get i = some (.lst xs)) : ∃ vs, H (ρ i) = some (.lst vs) ∧ Reps K CT ρ h.n H xs vs := S.ob i _ g
theorem post_if {K : PySem.W.Frag} {ρ : Nat → Addr} {h : Hx} {H : Hp} {σ : St} {c : Prop} [Decidable c] {r : R W} {Q : VK} (p : Post K CT (RW K CT) Wd ρ h H σ (if c then r else .bad) Q) : c ∧ Post K CT (RW K CT) Wd ρ h H σ r Q := by
  by_cases hc : c
  · rw [if_pos hc] at p
    exact ⟨hc, p⟩
  · rw [if_neg hc] at p
    exact p.elim
theorem post_tup {K : PySem.W.Frag} {ρ : Nat → Addr} {h : Hx} {H : Hp} {σ : St} {ws : List W} {vs : List V} {Q : VK} (S : Sim K CT ρ h H) (p : Post K CT (RW K CT) Wd ρ h H σ (.ok (.tup ws) h) Q) (r : Reps K CT ρ h.n H ws vs) {a : Addr} (ha : H a = none) :
    Q (.ref a) (upd H a (.tup vs)) := p ρ _ _ (Nxt.aside S ha) (.tup (.of upd_same) (Reps.keep S (Fw.aside S ha) _ _ r))
theorem post_lst {K : PySem.W.Frag} {ρ : Nat → Addr} {h : Hx} {H : Hp} {σ : St} {ws : List W} {vs : List V} {Q : VK} (S : Sim K CT ρ h H) (p : Post K CT (RW K CT) Wd ρ h H σ (.ok (.ref h.n) (h.new (.lst ws))) Q) (r : Reps K CT ρ h.n H ws vs) {a : Addr} (ha : H a = none) :
    Q (.ref a) (upd H a (.lst vs)) := by
  have N : Nxt K CT ρ h H (ρnew ρ h.n a) (h.new (.lst ws)) (upd H a (.lst vs)) := Nxt.fresh S ha ⟨vs, upd_same, Reps.keep S (Fw.fresh ρ h.n ha) _ _ r⟩
  have e : ρnew ρ h.n a h.n = a := if_pos rfl
  have q : Rep K CT (ρnew ρ h.n a) (h.n + 1) (upd H a (.lst vs)) (.ref h.n) (.ref (ρnew ρ h.n a h.n)) := .ref (Nat.lt_succ_self _)
  rw [e] at q
  exact p _ _ _ N q
abbrev rAdd (K : PySem.W.Frag) : R2 := fun x y H Q => (rI0 (fun i j => .int (i + j)) x y H Q ∨ ∃ i j, x = .str i ∧ y = .str j ∧ i.length + j.length ≤ sizeLine ∧ Q (.str (i ++ j)) H) ∨ rCatA K x y H Q ∨ rCat x y H Q
theorem or_add : OpR X (binaryOp .Add) (rAdd X.K) := opR_or (opR_or op_add op_add_str) (opR_or op_catA op_cat)
theorem os_add {K : PySem.W.Frag} : OpS K CT Wd (rAdd K) addW := by
  intro ρ h H σ x y v u Q S rx ry p
  cases rx <;> cases ry <;> try exact (show False from p).elim
  · rename_i i j
    exact .inl (.inl ⟨i, j, rfl, rfl, Post.here S p (.int _)⟩)
  · rename_i a ha b hb
    obtain ⟨c, p⟩ := post_if p
    refine .inl (.inr ⟨⟨a.toArray⟩, ⟨b.toArray⟩, rfl, rfl, ?_, ?_⟩)
    · show a.toArray.size + b.toArray.size ≤ sizeLine
      rw [List.size_toArray, List.size_toArray]
      exact lim_line c
    · have e : ((⟨a.toArray⟩ : Str) ++ ⟨b.toArray⟩) = ⟨(a ++ b).toArray⟩ := by
        show (⟨a.toArray ++ b.toArray⟩ : Str) = _
        simp
      rw [e]
      refine Post.here S p (.str ?_)
      rw [List.all_append, ha, hb]
      rfl
  · rename_i a ws vs qa ra b ws' vs' qb rb
    obtain ⟨c, p⟩ := post_if p
    have l1 := ra.length
    have l2 := rb.length
    refine .inr (.inl ⟨a, b, vs, vs', rfl, rfl, qa, qb, by rw [← l1, ← l2]; exact lim_line c, fun e => ?_, fun e e' => ?_, fun e e' t ht => post_tup S p (ra.append rb) ht⟩)
    · subst e
      cases ra
      exact Post.here S p (.tup qb rb)
    · subst e'
      cases rb
      refine Post.here S p ?_
      rw [List.append_nil]
      exact .tup qa ra
  · rename_i i hi j hj
    have p' : Post K CT (RW K CT) Wd ρ h H σ (match h.get i, h.get j with
      | some (.lst a), some (.lst b) => if a.length + b.length ≤ lim then .ok (.ref h.n) (h.new (.lst (a ++ b))) else .bad
      | _, _ => .bad) Q := p
    split at p'
    · rename_i a b ga gb
      obtain ⟨va, ea, ra⟩ := lst_get S ga
      obtain ⟨vb, eb, rb⟩ := lst_get S gb
      obtain ⟨c, p'⟩ := post_if p'
      have l1 := ra.length
      have l2 := rb.length
      exact .inr (.inr ⟨_, _, va, vb, rfl, rfl, ea, eb, by rw [← l1, ← l2]; exact lim_line c, fun t ht => post_lst S p' (ra.append rb) ht⟩)
    · exact p'.elim
theorem os_sub {K : PySem.W.Frag} : OpS K CT Wd (rI0 fun i j => .int (i - j)) subW := by
  intro ρ h H σ x y v u Q S rx ry p
  cases rx <;> cases ry <;> try exact (show False from p).elim
  exact ⟨_, _, rfl, rfl, Post.here S p (.int _)⟩
abbrev rMul : R2 := fun x y H Q => rI CMul (fun i j => .int (i * j)) x y H Q ∨ rRep x y H Q
theorem or_mul : OpR X (binaryOp .Mult) rMul := opR_or op_mul op_rep
theorem reps_rep {K : PySem.W.Frag} {ρ : Nat → Addr} {n : Nat} {H : Hp} {ws : List W} {vs : List V} (r : Reps K CT ρ n H ws vs) : ∀ k : Nat, Reps K CT ρ n H (List.replicate k ws).flatten (List.replicate k vs).flatten
  | 0 => .nil
  | k + 1 => by
    rw [List.replicate_succ, List.replicate_succ, List.flatten_cons, List.flatten_cons]
    exact r.append (reps_rep r k)
theorem os_mul {K : PySem.W.Frag} : OpS K CT Wd rMul mulW := by
  intro ρ h H σ x y v u Q S rx ry p
  cases rx <;> cases ry <;> try exact (show False from p).elim
  · rename_i i j
    obtain ⟨c, p⟩ := post_if p
    refine .inl ⟨i, j, rfl, rfl, ?_, Post.here S p (.int _)⟩
    unfold CMul
    omega
  · rename_i i hi k
    have p' : Post K CT (RW K CT) Wd ρ h H σ (match h.get i with
      | some (.lst a) => if 0 ≤ k ∧ k ≤ 100000 ∧ a.length * k.toNat ≤ lim then .ok (.ref h.n) (h.new (.lst (List.replicate k.toNat a).flatten)) else .bad
      | _ => .bad) Q := p
    split at p'
    · rename_i a ga
      obtain ⟨va, ea, ra⟩ := lst_get S ga
      obtain ⟨⟨c1, c2, c3⟩, p'⟩ := post_if p'
      have l1 := ra.length
      exact .inr ⟨_, k, va, rfl, rfl, ea, by omega, by omega, by rw [← l1]; exact lim_line c3, fun t ht => post_lst S p' (reps_rep ra _) ht⟩
    · exact p'.elim
theorem os_mod {K : PySem.W.Frag} : OpS K CT Wd (rI (fun _ j => 0 < j) fun i j => .int (i % j)) modW := by
  intro ρ h H σ x y v u Q S rx ry p
  cases rx <;> cases ry <;> try exact (show False from p).elim
  obtain ⟨c, p⟩ := post_if p
  exact ⟨_, _, rfl, rfl, c, Post.here S p (.int _)⟩
theorem os_fdiv {K : PySem.W.Frag} : OpS K CT Wd (rI CDiv fun i j => .int (i / j)) fdivW := by
  intro ρ h H σ x y v u Q S rx ry p
  cases rx <;> cases ry <;> try exact (show False from p).elim
  obtain ⟨c, p⟩ := post_if p
  exact ⟨_, _, rfl, rfl, c, Post.here S p (.int _)⟩
theorem os_pow {K : PySem.W.Frag} : OpS K CT Wd (rI CPow fun i j => .int (i ^ j.toNat)) powW := by
  intro ρ h H σ x y v u Q S rx ry p
  cases rx <;> cases ry <;> try exact (show False from p).elim
  obtain ⟨c, p⟩ := post_if p
  exact ⟨_, _, rfl, rfl, c, Post.here S p (.int _)⟩
theorem us_neg {K : PySem.W.Frag} : UnS K CT Wd (rU fun i => .int (-i)) negW := by
  intro ρ h H σ x v Q S rx p
  cases rx <;> try exact (show False from p).elim
  exact ⟨_, rfl, Post.here S p (.int _)⟩
theorem os_lt {K : PySem.W.Frag} : OpS K CT Wd (rI0 fun i j => .bl (decide (i < j))) ltW := by
  intro ρ h H σ x y v u Q S rx ry p
  cases rx <;> cases ry <;> try exact (show False from p).elim
  exact ⟨_, _, rfl, rfl, Post.here S p (.bl _)⟩
theorem os_le {K : PySem.W.Frag} : OpS K CT Wd (rI0 fun i j => .bl (decide (i ≤ j))) leW := by
  intro ρ h H σ x y v u Q S rx ry p
  cases rx <;> cases ry <;> try exact (show False from p).elim
  exact ⟨_, _, rfl, rfl, Post.here S p (.bl _)⟩
theorem os_gt {K : PySem.W.Frag} : OpS K CT Wd (rI0 fun i j => .bl (decide (j < i))) gtW := by
  intro ρ h H σ x y v u Q S rx ry p
  cases rx <;> cases ry <;> try exact (show False from p).elim
  exact ⟨_, _, rfl, rfl, Post.here S p (.bl _)⟩
theorem os_ge {K : PySem.W.Frag} : OpS K CT Wd (rI0 fun i j => .bl (decide (j ≤ i))) geW := by
  intro ρ h H σ x y v u Q S rx ry p
  cases rx <;> cases ry <;> try exact (show False from p).elim
  exact ⟨_, _, rfl, rfl, Post.here S p (.bl _)⟩
theorem dec_str (a b : List Nat) : decide (V.str ⟨a.toArray⟩ = V.str ⟨b.toArray⟩) = (a == b) := by
  rw [Bool.eq_iff_iff]
  simp
theorem scal_of {K : PySem.W.Frag} {ρ : Nat → Addr} {n : Nat} {H : Hp} {x y : W} {v u : V} {b : Bool} (rx : Rep K CT ρ n H x v) (ry : Rep K CT ρ n H y u) (e : scalW x y = some b) : scal v u = true ∧ decide (v = u) = b := by
  cases rx <;> cases ry <;> first
    | (cases e; done)
    | (have e' := Option.some.inj e; subst e'; exact ⟨rfl, decide_eq_false (fun z => nomatch z)⟩)
    | (have e' := Option.some.inj e; subst e'; exact ⟨rfl, rfl⟩)
    | (have e' := Option.some.inj e; subst e'; exact ⟨rfl, dec_str _ _⟩)
    | (have e' := Option.some.inj e; subst e'; refine ⟨rfl, ?_⟩; rw [Bool.eq_iff_iff]; simp)
theorem eqO_of {K : PySem.W.Frag} {ρ : Nat → Addr} {h : Hx} {H : Hp} {x y : W} {v u : V} {b : Bool} (S : Sim K CT ρ h H) (rx : Rep K CT ρ h.n H x v) (ry : Rep K CT ρ h.n H y u) (e : eqO x y h = some b) :
    (scal v u = true ∧ decide (v = u) = b) ∨ ∃ d d', Dp K H v d ∧ Dp K H u d' ∧ SeqAt.shaped d = true ∧ SeqAt.shaped d' = true ∧ PyData.eqv d d' = b := by
  unfold eqO at e
  cases g : scalW x y with
  | some c =>
    rw [g] at e
    cases e
    exact .inl (scal_of rx ry g)
  | none =>
    rw [g] at e
    have e' : (if okD h dep x && okD h dep y then some (eqH h dep x y) else none) = some b := e
    by_cases c : (okD h dep x && okD h dep y) = true
    · rw [if_pos c] at e'
      have e2 := Option.some.inj e'
      rw [Bool.and_eq_true] at c
      obtain ⟨d1, l1, p1⟩ := okD_data S dep x v c.1 rx
      obtain ⟨d2, l2, p2⟩ := okD_data S dep y u c.2 ry
      refine .inr ⟨_, _, d1, d2, ?_, ?_, ?_⟩
      · unfold SeqAt.shaped
        rw [l1, decide_eq_true (Nat.le_trans p1 (by decide))]
        rfl
      · unfold SeqAt.shaped
        rw [l2, decide_eq_true (Nat.le_trans p2 (by decide))]
        rfl
      · rw [← e2, eqH_data dep x y c.1 c.2]
    · rw [if_neg c] at e'
      cases e'
abbrev rEqW (K : PySem.W.Frag) : R2 := fun x y H Q => rEq x y H Q ∨ rEqD K x y H Q
abbrev rNeW (K : PySem.W.Frag) : R2 := fun x y H Q => rNe x y H Q ∨ rNeD K x y H Q
theorem or_eq (hu : X.A.units + 64 < cLine) : OpR X (compareOp .Eq) (rEqW X.K) := opR_or op_eq (op_eqD hu)
theorem or_ne (hu : X.A.units + 64 < cLine) : OpR X (compareOp .NotEq) (rNeW X.K) := opR_or op_ne (op_neD hu)
theorem os_eq {K : PySem.W.Frag} : OpS K CT Wd (rEqW K) eqW := by
  intro ρ h H σ x y v u Q S rx ry p
  unfold eqW at p
  cases g : eqO x y h with
  | none => rw [g] at p; exact p.elim
  | some b =>
    rw [g] at p
    have q : Q (.bl b) H := Post.here S p (.bl b)
    rcases eqO_of S rx ry g with ⟨e1, e2⟩ | ⟨d, d', h1, h2, h3, h4, e⟩
    · exact .inl ⟨e1, by rw [e2]; exact q⟩
    · exact .inr ⟨d, d', h1, h2, h3, h4, by rw [e]; exact q⟩
theorem os_ne {K : PySem.W.Frag} : OpS K CT Wd (rNeW K) neW := by
  intro ρ h H σ x y v u Q S rx ry p
  unfold neW at p
  cases g : eqO x y h with
  | none => rw [g] at p; exact p.elim
  | some b =>
    rw [g] at p
    have q : Q (.bl (!b)) H := Post.here S p (.bl _)
    rcases eqO_of S rx ry g with ⟨e1, e2⟩ | ⟨d, d', h1, h2, h3, h4, e⟩
    · exact .inl ⟨e1, by rw [e2]; exact q⟩
    · exact .inr ⟨d, d', h1, h2, h3, h4, by rw [e]; exact q⟩
abbrev rIs : R2 := fun x y H Q => (y = .non ∧ Q (.bl (decide (x = .non))) H) ∨ rIsB x y H Q
abbrev rIsnt : R2 := fun x y H Q => (y = .non ∧ Q (.bl (!decide (x = .non))) H) ∨ rNotB x y H Q
theorem or_is : OpR X (compareOp .Is) rIs := opR_or op_isN op_isBl
theorem or_isnt : OpR X (compareOp .IsNot) rIsnt := opR_or op_notN op_notBl
theorem isO_of {K : PySem.W.Frag} {ρ : Nat → Addr} {n : Nat} {H : Hp} {x y : W} {v u : V} {b : Bool} (rx : Rep K CT ρ n H x v) (ry : Rep K CT ρ n H y u) (e : isO x y = some b) :
    (u = .non ∧ decide (v = .non) = b) ∨ ∃ a c : Bool, v = .bl a ∧ u = .bl c ∧ decide (a = c) = b := by
  cases ry <;> first
    | (cases e; done)
    | (cases rx <;> (have e' := Option.some.inj e; subst e'; exact .inl ⟨rfl, by rfl⟩))
    | (cases rx <;> first
        | (cases e; done)
        | (rename_i c a; have e' := Option.some.inj e; subst e'; exact .inr ⟨a, c, rfl, rfl, by cases a <;> cases c <;> rfl⟩))
theorem os_is {K : PySem.W.Frag} : OpS K CT Wd rIs isW := by
  intro ρ h H σ x y v u Q S rx ry p
  unfold isW at p
  cases g : isO x y with
  | none => rw [g] at p; exact p.elim
  | some b =>
    rw [g] at p
    have q : Q (.bl b) H := Post.here S p (.bl b)
    rcases isO_of rx ry g with ⟨e1, e2⟩ | ⟨a, c, e1, e2, e⟩
    · exact .inl ⟨e1, by rw [e2]; exact q⟩
    · exact .inr ⟨a, c, e1, e2, by rw [e]; exact q⟩
theorem os_isnt {K : PySem.W.Frag} : OpS K CT Wd rIsnt isntW := by
  intro ρ h H σ x y v u Q S rx ry p
  unfold isntW at p
  cases g : isO x y with
  | none => rw [g] at p; exact p.elim
  | some b =>
    rw [g] at p
    have q : Q (.bl (!b)) H := Post.here S p (.bl _)
    rcases isO_of rx ry g with ⟨e1, e2⟩ | ⟨a, c, e1, e2, e⟩
    · exact .inl ⟨e1, by rw [e2]; exact q⟩
    · exact .inr ⟨a, c, e1, e2, by rw [e]; exact q⟩
end
end Sx

set_option linter.all false
set_option autoImplicit false
set_option maxRecDepth 100000
set_option maxHeartbeats 2000000
namespace Sx
open PySem L2
section
variable {X : Cx} {CT : Nat → Addr} {Wd : WX} {K : PySem.W.Frag} {ρ : Nat → Addr} {h : Hx} {H : Hp} {n : Nat}
/-! ### in, not in -/
theorem flat_of {x : W} {v : V} (r : Rep K CT ρ n H x v) (e : flatW x = true) : flatV v = true := by
  cases r <;> first | rfl | (cases e; done)
theorem eqFl_of {x y : W} {v u : V} (rx : Rep K CT ρ n H x v) (ry : Rep K CT ρ n H y u) (ex : flatW x = true) (ey : flatW y = true) : eqFl x y = eqV v u := by
  cases rx <;> first
    | (cases ex; done)
    | (cases ry <;> first
        | (cases ey; done)
        | rfl
        | exact (str_beq _ _).symm)
theorem allFlat_of : ∀ {ws : List W} {vs : List V}, Reps K CT ρ n H ws vs → ws.all flatW = true → vs.all flatV = true
  | _, _, .nil, _ => rfl
  | _, _, .cons r t, e => by
    rw [List.all_cons, Bool.and_eq_true] at e
    rw [List.all_cons, flat_of r e.1, allFlat_of t e.2]
    rfl
theorem any_of {x : W} {v : V} (rx : Rep K CT ρ n H x v) (ex : flatW x = true) : ∀ {ws : List W} {vs : List V}, Reps K CT ρ n H ws vs → ws.all flatW = true → (ws.any fun z => eqFl z x) = inV v vs
  | _, _, .nil, _ => rfl
  | _, _, .cons r t, e => by
    rw [List.all_cons, Bool.and_eq_true] at e
    unfold inV
    rw [List.any_cons, List.any_cons, eqFl_of r rx e.1 ex]
    have := any_of rx ex t e.2
    unfold inV at this
    rw [this]
theorem seqOf_of (S : Sim K CT ρ h H) {x : W} {v : V} {xs : List W} (r : Rep K CT ρ h.n H x v) (e : seqOf h x = some xs) : ∃ a vs, v = .ref a ∧ (SqL K H a vs ∨ SqT K H a vs) ∧ Reps K CT ρ h.n H xs vs := by
  cases r with
  | tup q rs => cases e; exact ⟨_, _, rfl, .inr q, rs⟩
  | fls q rs => cases e; exact ⟨_, _, rfl, .inl q.sq, rs⟩
  | @ref i hi =>
    have e' : (match h.get i with
      | some (.lst xs) => some xs
      | _ => none) = some xs := e
    split at e'
    · rename_i ys g
      cases e'
      obtain ⟨vs, q, rs⟩ := lst_get S g
      exact ⟨_, vs, rfl, .inl (.of q), rs⟩
    · cases e'
  | _ => cases e
abbrev rInW (K : PySem.W.Frag) : R2 := fun x y H Q => (∃ (c : Nat) (z : Str), x = .str ⟨#[c]⟩ ∧ y = .str z ∧ Q (.bl (decide (c ∈ z.cps.toList))) H) ∨ rIn K false x y H Q ∨ rInD K x y H Q
abbrev rNotInW (K : PySem.W.Frag) : R2 := fun x y H Q => (∃ (c : Nat) (z : Str), x = .str ⟨#[c]⟩ ∧ y = .str z ∧ Q (.bl (!decide (c ∈ z.cps.toList))) H) ∨ rIn K true x y H Q ∨ rNotInD K x y H Q
theorem or_in (hu : X.A.units + 65 < cLine) : OpR X (compareOp .In) (rInW X.K) := opR_or op_in_sign (opR_or op_in_seq (op_inD hu))
theorem or_notIn (hu : X.A.units + 65 < cLine) : OpR X (compareOp .NotIn) (rNotInW X.K) := opR_or op_notIn_sign (opR_or op_notIn_seq (op_notInD hu))
theorem contains_dec (z : List Nat) (c : Nat) : z.contains c = decide (c ∈ z) := by
  rw [Bool.eq_iff_iff]
  simp
theorem any_data (S : Sim K CT ρ h H) {x : W} (ex : okD h dep x = true) : ∀ (xs : List W), xs.all (okD h dep) = true → (xs.any fun z => eqH h dep z x) = ((xs.map (toD h dep)).any fun z => PyData.eqv z (toD h dep x))
  | [], _ => rfl
  | y :: ys, e => by
    rw [List.all_cons, Bool.and_eq_true] at e
    rw [List.any_cons, List.map_cons, List.any_cons, eqH_data dep y x e.1 ex, any_data S ex ys e.2]
theorem shaped_of {d : PyData} (h1 : d.canLay0 = true) (h2 : d.depth ≤ dep) : SeqAt.shaped d = true := by
  unfold SeqAt.shaped
  rw [h1, decide_eq_true (Nat.le_trans h2 (by decide))]
  rfl
/-- deep data one level lower -/
theorem okD_mono (h : Hx) : ∀ (f : Nat) (w : W), okD h f w = true → okD h (f + 1) w = true ∧ toD h (f + 1) w = toD h f w
  | 0, _, e => by cases e
  | f + 1, .non, _ => ⟨rfl, rfl⟩
  | f + 1, .bl _, _ => ⟨rfl, rfl⟩
  | f + 1, .int _, _ => ⟨rfl, rfl⟩
  | f + 1, .str _, _ => ⟨rfl, rfl⟩
  | f + 1, .tup xs, e => by
    have e' : xs.all (okD h f) = true := e
    refine ⟨List.all_eq_true.mpr fun w hw => (okD_mono h f w (List.all_eq_true.mp e' w hw)).1, ?_⟩
    show PyData.tuple (xs.map (toD h (f + 1))) = .tuple (xs.map (toD h f))
    rw [List.map_congr_left fun w hw => (okD_mono h f w (List.all_eq_true.mp e' w hw)).2]
  | f + 1, .fls xs, e => by
    have e' : xs.all (okD h f) = true := e
    refine ⟨List.all_eq_true.mpr fun w hw => (okD_mono h f w (List.all_eq_true.mp e' w hw)).1, ?_⟩
    show PyData.list (xs.map (toD h (f + 1))) = .list (xs.map (toD h f))
    rw [List.map_congr_left fun w hw => (okD_mono h f w (List.all_eq_true.mp e' w hw)).2]
  | f + 1, .ref i, e => by
    obtain ⟨xs, g, _, e', t⟩ := ref_items e
    have q : ∀ k, okD h (k + 1) (.ref i) = xs.all (okD h k) ∧ toD h (k + 1) (.ref i) = .list (xs.map (toD h k)) := fun k => by
      constructor
      · show (match h.get i with
          | some (.lst xs) => xs.all (okD h k)
          | _ => false) = _
        rw [g]
      · show (match h.get i with
          | some (.lst xs) => PyData.list (xs.map (toD h k))
          | _ => .none) = _
        rw [g]
    rw [(q (f + 1)).1, (q (f + 1)).2, (q f).2]
    refine ⟨List.all_eq_true.mpr fun w hw => (okD_mono h f w (List.all_eq_true.mp e' w hw)).1, ?_⟩
    rw [List.map_congr_left fun w hw => (okD_mono h f w (List.all_eq_true.mp e' w hw)).2]
  | f + 1, .ty _, e => by cases e
  | f + 1, .cl _, e => by cases e
  | f + 1, .exc _ _ _, e => by cases e
theorem inO_of (S : Sim K CT ρ h H) {x y : W} {v u : V} {b : Bool} (rx : Rep K CT ρ h.n H x v) (ry : Rep K CT ρ h.n H y u) (e : inO x y h = some b) :
    (∃ (c : Nat) (z : Str), v = .str ⟨#[c]⟩ ∧ u = .str z ∧ decide (c ∈ z.cps.toList) = b) ∨
    (∃ p xs, u = .ref p ∧ (SqL K H p xs ∨ SqT K H p xs) ∧ flatV v = true ∧ xs.all flatV = true ∧ inV v xs = b) ∨
    ∃ d ds, Dp K H v d ∧ Dp K H u (.list ds) ∧ SeqAt.shaped d = true ∧ SeqAt.shaped (.list ds) = true ∧ (ds.any fun z => PyData.eqv z d) = b := by
  have main : ∀ (y : W) (u : V), Rep K CT ρ h.n H y u → (match seqOf h y with
      | some xs => if flatW x && xs.all flatW then some (xs.any fun z => eqFl z x)
        else if okD h dep x && okD h dep y then match y with
          | .tup _ => none
          | _ => some (xs.any fun z => eqH h dep z x)
        else none
      | none => none) = some b → (∃ p xs, u = .ref p ∧ (SqL K H p xs ∨ SqT K H p xs) ∧ flatV v = true ∧ xs.all flatV = true ∧ inV v xs = b) ∨
    ∃ d ds, Dp K H v d ∧ Dp K H u (.list ds) ∧ SeqAt.shaped d = true ∧ SeqAt.shaped (.list ds) = true ∧ (ds.any fun z => PyData.eqv z d) = b := fun y u ry e => by
    cases g : seqOf h y with
    | none => rw [g] at e; cases e
    | some xs =>
      rw [g] at e
      obtain ⟨a, vs, rfl, q, rs⟩ := seqOf_of S ry g
      by_cases c : (flatW x && xs.all flatW) = true
      · have e' : some (xs.any fun z => eqFl z x) = some b := by
          rw [← e]
          exact (if_pos c).symm
        rw [Bool.and_eq_true] at c
        refine .inl ⟨a, vs, rfl, q, flat_of rx c.1, allFlat_of rs c.2, ?_⟩
        rw [← any_of rx c.1 rs c.2]
        exact Option.some.inj e'
      · have e1 : (if okD h dep x && okD h dep y then match y with
          | .tup _ => none
          | _ => some (xs.any fun z => eqH h dep z x)
        else none) = some b := by
          rw [← e]
          exact (if_neg c).symm
        by_cases c2 : (okD h dep x && okD h dep y) = true
        · rw [if_pos c2] at e1
          rw [Bool.and_eq_true] at c2
          obtain ⟨d1, l1, p1⟩ := okD_data S dep x v c2.1 rx
          obtain ⟨d2, l2, p2⟩ := okD_data S dep y _ c2.2 ry
          have k : ∃ ys, toD h dep y = .list (ys.map (toD h 19)) ∧ ys = xs ∧ xs.all (okD h 19) = true ∧ some (xs.any fun z => eqH h dep z x) = some b := by
            cases y with
            | tup _ => cases e1
            | fls ys => cases g; exact ⟨_, rfl, rfl, c2.2, e1⟩
            | ref i =>
              obtain ⟨ys, _, q2, q3, q4⟩ := ref_items (f := 19) c2.2
              have : ys = xs := by
                have g' : itemsOf h (.ref i) = some xs := g
                rw [q2] at g'
                exact Option.some.inj g'
              subst this
              exact ⟨_, q4, rfl, q3, e1⟩
            | _ => cases g
          obtain ⟨ys, k1, rfl, k3, k4⟩ := k
          have m : ys.all (okD h dep) = true := List.all_eq_true.mpr fun w hw => (okD_mono h 19 w (List.all_eq_true.mp k3 w hw)).1
          have m2 : ys.map (toD h dep) = ys.map (toD h 19) := List.map_congr_left fun w hw => (okD_mono h 19 w (List.all_eq_true.mp k3 w hw)).2
          rw [k1] at d2 l2 p2
          refine .inr ⟨_, _, d1, d2, shaped_of l1 p1, shaped_of l2 p2, ?_⟩
          rw [← m2, ← any_data S c2.1 ys m]
          exact Option.some.inj k4
        · rw [if_neg c2] at e1
          cases e1
  cases ry with
  | str hz =>
    rename_i z
    cases rx with
    | @str s hs =>
      cases s with
      | nil => cases e
      | cons c t =>
        cases t with
        | cons _ _ => cases e
        | nil =>
          refine .inl ⟨c, ⟨z.toArray⟩, rfl, rfl, ?_⟩
          have e' : some (z.contains c) = some b := e
          rw [← Option.some.inj e', contains_dec]
    | _ => cases e
  | non => exact .inr (main _ _ .non e)
  | bl b => exact .inr (main _ _ (.bl b) e)
  | int i => exact .inr (main _ _ (.int i) e)
  | tup q rs => exact .inr (main _ _ (.tup q rs) e)
  | fls q rs => exact .inr (main _ _ (.fls q rs) e)
  | ref hi => exact .inr (main _ _ (.ref hi) e)
  | ty t => exact .inr (main _ _ (.ty t) e)
  | cl k => exact .inr (main _ _ (.cl k) e)
  | exc x1 x2 x3 => exact .inr (main _ _ (.exc x1 x2 x3) e)
theorem os_in : OpS K CT Wd (rInW K) inW := by
  intro ρ h H σ x y v u Q S rx ry p
  unfold inW at p
  cases g : inO x y h with
  | none => rw [g] at p; exact p.elim
  | some b =>
    rw [g] at p
    have q : Q (.bl b) H := Post.here S p (.bl b)
    rcases inO_of S rx ry g with ⟨c, z, e1, e2, e⟩ | ⟨a, xs, e1, hq, f1, f2, e⟩ | ⟨d, ds, h1, h2, h3, h4, e⟩
    · exact .inl ⟨c, z, e1, e2, by rw [e]; exact q⟩
    · exact .inr (.inl ⟨a, xs, e1, hq, f1, f2, by rw [e]; exact q⟩)
    · exact .inr (.inr ⟨d, ds, h1, h2, h3, h4, by rw [e]; exact q⟩)
theorem os_notIn : OpS K CT Wd (rNotInW K) notInW := by
  intro ρ h H σ x y v u Q S rx ry p
  unfold notInW at p
  cases g : inO x y h with
  | none => rw [g] at p; exact p.elim
  | some b =>
    rw [g] at p
    have q : Q (.bl (!b)) H := Post.here S p (.bl _)
    rcases inO_of S rx ry g with ⟨c, z, e1, e2, e⟩ | ⟨a, xs, e1, hq, f1, f2, e⟩ | ⟨d, ds, h1, h2, h3, h4, e⟩
    · exact .inl ⟨c, z, e1, e2, by rw [e]; exact q⟩
    · exact .inr (.inl ⟨a, xs, e1, hq, f1, f2, by rw [e]; exact q⟩)
    · exact .inr (.inr ⟨d, ds, h1, h2, h3, h4, by rw [e]; exact q⟩)

/-! ### items, slices -/
theorem atI_of {ws : List W} {vs : List V} {i : Int} {w : W} (rs : Reps K CT ρ n H ws vs) (e : atI ws i = some w) : ∃ v, atI vs i = some v ∧ Rep K CT ρ n H w v := by
  unfold atI at e ⊢
  rw [← rs.length]
  cases g : ixN ws.length i with
  | none => rw [g] at e; cases e
  | some j =>
    rw [g] at e
    exact rs.get (i := j) e
theorem os_ix : OpS K CT Wd (rIx K) ixW := by
  intro ρ h H σ x y v u Q S rx ry p
  cases ry with
  | int i =>
    have main : ∀ (x : W) (v : V), Rep K CT ρ h.n H x v → Post K CT (RW K CT) Wd ρ h H σ (match seqOf h x with
      | some xs => match atI xs i with
        | some w => .ok w h
        | none => .bad
      | none => .bad) Q → rIx K v (.int i) H Q := fun x v rx p => by
      cases g : seqOf h x with
      | none => rw [g] at p; exact p.elim
      | some xs =>
        rw [g] at p
        obtain ⟨a, vs, rfl, q, rs⟩ := seqOf_of S rx g
        have p' : Post K CT (RW K CT) Wd ρ h H σ (match atI xs i with
          | some w => .ok w h
          | none => .bad) Q := p
        cases g2 : atI xs i with
        | none => rw [g2] at p'; exact p'.elim
        | some w =>
          rw [g2] at p'
          obtain ⟨z, ez, rz⟩ := atI_of rs g2
          rcases q with q | q
          · exact .inl ⟨a, vs, i, z, rfl, rfl, q, ez, Post.here S p' rz⟩
          · exact .inr (.inl ⟨a, vs, i, z, rfl, rfl, q, ez, Post.here S p' rz⟩)
    cases rx with
    | @str z hz =>
      obtain ⟨c, p'⟩ := post_if (show Post K CT (RW K CT) Wd ρ h H σ (if z.length ≤ lim then match atI z i with
        | some c => .ok (.str [c]) h
        | none => .bad else .bad) Q from p)
      cases g : atI z i with
      | none => rw [g] at p'; exact p'.elim
      | some k =>
        rw [g] at p'
        refine .inr (.inr ⟨⟨z.toArray⟩, i, k, rfl, rfl, ?_, g, ?_⟩)
        · show z.toArray.size ≤ sizeLine
          rw [List.size_toArray]
          exact lim_line c
        · have hk : k ∈ z := by
            unfold atI at g
            cases g2 : ixN z.length i with
            | none => rw [g2] at g; cases g
            | some j =>
              rw [g2] at g
              exact List.mem_of_getElem? g
          refine Post.here S p' ?_
          have q : Rep K CT ρ h.n H (.str [k]) (.str ⟨[k].toArray⟩) := .str (by
            rw [List.all_cons, List.all_eq_true.mp hz k hk]
            rfl)
          exact q
    | non => exact main _ _ .non p
    | bl b => exact main _ _ (.bl b) p
    | int i => exact main _ _ (.int i) p
    | tup q rs => exact main _ _ (.tup q rs) p
    | fls q rs => exact main _ _ (.fls q rs) p
    | ref hi => exact main _ _ (.ref hi) p
    | ty t => exact main _ _ (.ty t) p
    | cl k => exact main _ _ (.cl k) p
    | exc x1 x2 x3 => exact main _ _ (.exc x1 x2 x3) p
  | _ => exact (show False from p).elim
end
section
variable {X : Cx} {CT : Nat → Addr} {Wd : WX} {a b c e : Expr} {ca cb cc : Ex} {pos : Pos}
theorem se_ix (ha : SE X CT Wd a ca) (hb : SE X CT Wd b cb) (hs : PlainIx b) : SE X CT Wd (.Subscript a b pos) (xOp ixW ca cb) :=
  (pe_ix ix_seq ha hb hs).wk fun _ _ _ q => tOp_of os_ix q
def cutL {α : Type} (xs : List α) (lo hi : Option Int) : List α := (xs.drop (HT.sIx xs.length 0 lo)).take (HT.sIx xs.length xs.length hi - HT.sIx xs.length 0 lo)
abbrev Ox := Env → Hx → R (Option Int)
def xNo : Ox := fun _ h => .ok none h
def xYes (c : Ex) : Ox := fun es h => (c es h).bind fun w h1 => match w with
  | .int i => .ok (some i) h1
  | _ => .bad
def sliceW (x : W) (lo hi : Option Int) (h : Hx) : R W := match x with
  | .str z => if z.length ≤ lim then .ok (.str (cutL z lo hi)) h else .bad
  | .tup xs => .ok (.tup (cutL xs lo hi)) h
  | x => match seqOf h x with
    | some xs => .ok (.ref h.n) (h.new (.lst (cutL xs lo hi)))
    | none => .bad
def xSl (a : Ex) (l u : Ox) : Ex := fun es h => (a es h).bind fun x h1 => (l es h1).bind fun lo h2 => (u es h2).bind fun hi h3 => sliceW x lo hi h3
abbrev RO : (Nat → Addr) → Nat → Hp → Option Int → Option Int → Prop := fun _ _ _ a b => a = b
def tO (K : PySem.W.Frag) (CT : Nat → Addr) (Wd : WX) (c : Ox) : TO := fun σ H Q => ∃ ρ h es, Sim K CT ρ h H ∧ REnv K CT ρ h.n H es σ ∧ Post K CT RO Wd ρ h H σ (c es h) Q
theorem _root_.L2.PO.wk {X : Cx} {e : Option Expr} {t t' : TO} (h : PO X e t) (k : ∀ σ H Q, t' σ H Q → t σ H Q) : PO X e t' := ⟨fun pins s σ H Q I q => h.run pins s σ H Q I (k σ H Q q)⟩
theorem so_no : PO X none (tO X.K CT Wd xNo) := po_none.wk fun σ H Q ⟨ρ, h, es, S, E, p⟩ => Post.here S p rfl
theorem so_yes (ha : SE X CT Wd a ca) : PO X (some a) (tO X.K CT Wd (xYes ca)) := (po_some ha).wk fun σ H Q ⟨ρ, h, es, S, E, p⟩ => by
  refine ⟨ρ, h, es, S, E, Post.bind (RR := RW X.K CT) S p fun w h1 ρ1 H1 v N1 r1 p1 => ?_⟩
  cases r1 with
  | int i => exact ⟨i, rfl, Post.here N1.sim p1 rfl⟩
  | _ => exact (show False from p1).elim
abbrev rSl (K : PySem.W.Frag) : V → Option Int → Option Int → Hp → VK → Prop := fun x lo hi H Q => rSlL K x lo hi H Q ∨ rSlA K x lo hi H Q ∨ rSlS x lo hi H Q
theorem sl_all : SlR X (rSl X.K) := sl_list.or (sl_tupA.or sl_str)
theorem cut_reps {K : PySem.W.Frag} {ρ : Nat → Addr} {n : Nat} {H : Hp} {ws : List W} {vs : List V} (r : Reps K CT ρ n H ws vs) (lo hi : Option Int) : Reps K CT ρ n H (cutL ws lo hi) (cutV vs lo hi) := by
  unfold cutL cutV
  rw [← r.length]
  exact (r.drop _).take _
theorem slice_of {K : PySem.W.Frag} {ρ : Nat → Addr} {h : Hx} {H : Hp} {σ : St} {x : W} {v : V} {lo hi : Option Int} {Q : VK} (S : Sim K CT ρ h H) (rx : Rep K CT ρ h.n H x v) (p : Post K CT (RW K CT) Wd ρ h H σ (sliceW x lo hi h) Q) : rSl K v lo hi H Q := by
  have main : ∀ (x : W) (v : V), Rep K CT ρ h.n H x v → (∀ xs, x ≠ .tup xs) → Post K CT (RW K CT) Wd ρ h H σ (match seqOf h x with
    | some xs => .ok (.ref h.n) (h.new (.lst (cutL xs lo hi)))
    | none => .bad) Q → rSl K v lo hi H Q := fun x v rx hx p => by
    cases g : seqOf h x with
    | none => rw [g] at p; exact p.elim
    | some xs =>
      rw [g] at p
      have k : ∃ a vs, v = .ref a ∧ SqL K H a vs ∧ Reps K CT ρ h.n H xs vs := by
        cases rx with
        | tup q rs => exact absurd rfl (hx _)
        | fls q rs => cases g; exact ⟨_, _, rfl, q.sq, rs⟩
        | @ref i hi =>
          have e' : (match h.get i with
            | some (.lst xs) => some xs
            | _ => none) = some xs := g
          split at e'
          · rename_i ys g
            cases e'
            obtain ⟨vs, q, rs⟩ := lst_get S g
            exact ⟨_, vs, rfl, .of q, rs⟩
          · cases e'
        | _ => cases g
      obtain ⟨a, vs, rfl, q, rs⟩ := k
      exact .inl ⟨a, vs, rfl, q, fun t ht => post_lst S p (cut_reps rs lo hi) ht⟩
  cases rx with
  | @str z hz =>
    obtain ⟨c, p'⟩ := post_if (show Post K CT (RW K CT) Wd ρ h H σ (if z.length ≤ lim then .ok (.str (cutL z lo hi)) h else .bad) Q from p)
    refine .inr (.inr ⟨⟨z.toArray⟩, rfl, ?_, ?_⟩)
    · show z.toArray.size ≤ sizeLine
      rw [List.size_toArray]
      exact lim_line c
    · have e : cutS ⟨z.toArray⟩ lo hi = ⟨(cutL z lo hi).toArray⟩ := by
        unfold cutS cutL
        show (⟨((z.toArray.toList.drop (HT.sIx z.toArray.size 0 lo)).take (HT.sIx z.toArray.size z.toArray.size hi - HT.sIx z.toArray.size 0 lo)).toArray⟩ : Str) = _
        rw [List.size_toArray]
      rw [e]
      refine Post.here S p' (.str ?_)
      unfold cutL
      exact List.all_eq_true.mpr fun c hc => List.all_eq_true.mp hz c (List.mem_of_mem_drop (List.mem_of_mem_take hc))
  | @tup a ws vs q rs =>
    have p' : Post K CT (RW K CT) Wd ρ h H σ (.ok (.tup (cutL ws lo hi)) h) Q := p
    refine .inr (.inl ⟨a, vs, rfl, q, fun hw => ?_, fun hw t ht => post_tup S p' (cut_reps rs lo hi) ht⟩)
    refine Post.here S p' ?_
    have e : cutL ws lo hi = ws := by
      unfold cutL
      rw [rs.length, hw.1, hw.2, ← rs.length]
      simp
    rw [e]
    exact .tup q rs
  | non => exact main _ _ .non (fun _ z => nomatch z) p
  | bl b => exact main _ _ (.bl b) (fun _ z => nomatch z) p
  | int i => exact main _ _ (.int i) (fun _ z => nomatch z) p
  | fls q rs => exact main _ _ (.fls q rs) (fun _ z => nomatch z) p
  | ref hi => exact main _ _ (.ref hi) (fun _ z => nomatch z) p
  | ty t => exact main _ _ (.ty t) (fun _ z => nomatch z) p
  | cl k => exact main _ _ (.cl k) (fun _ z => nomatch z) p
  | exc x1 x2 x3 => exact main _ _ (.exc x1 x2 x3) (fun _ z => nomatch z) p
theorem se_slice {lo hi : Option Expr} {cl ch : Ox} {p2 : Pos} (ha : SE X CT Wd a ca) (hl : PO X lo (tO X.K CT Wd cl)) (hu : PO X hi (tO X.K CT Wd ch)) : SE X CT Wd (.Subscript a (.Slice lo hi none p2) pos) (xSl ca cl ch) :=
  (pe_slice sl_all ha hl hu).wk fun σ H Q ⟨ρ, h, es, S, E, p⟩ => by
    refine ⟨ρ, h, es, S, E, Post.bind (RR := RW X.K CT) S p fun w h1 ρ1 H1 v N1 r1 p1 => ?_⟩
    have E1 := E.keep S N1.toFw
    refine ⟨ρ1, h1, es, N1.sim, E1, Post.bind (RR := RO) N1.sim p1 fun l h2 ρ2 H2 l' N2 r2 p2 => ?_⟩
    have E2 := E1.keep N1.sim N2.toFw
    have r1' := Rep.keep N1.sim N2.toFw _ _ r1
    obtain rfl : l = l' := r2
    refine ⟨ρ2, h2, es, N2.sim, E2, Post.bind (RR := RO) N2.sim p2 fun u h3 ρ3 H3 u' N3 r3 p3 => ?_⟩
    obtain rfl : u = u' := r3
    exact slice_of N3.sim (Rep.keep N2.sim N3.toFw _ _ r1') p3
end
end Sx

set_option linter.all false
set_option autoImplicit false
set_option maxRecDepth 100000
set_option maxHeartbeats 2000000
set_option exponentiation.threshold 2000
namespace Sx
open PySem L2
section
variable {X : Cx} {CT : Nat → Addr} {Wd : WX} {K : PySem.W.Frag} {ρ : Nat → Addr} {h : Hx} {H : Hp} {n : Nat}
/-! ### truth, tests -/
def truth (h : Hx) : W → Option Bool
  | .non => some false
  | .bl b => some b
  | .int i => some (i != 0)
  | .str z => if z.length ≤ lim then some (!z.isEmpty) else none
  | .tup xs => some (!xs.isEmpty)
  | .fls xs => some (!xs.isEmpty)
  | .ref i => match h.get i with
    | some (.lst xs) => some (!xs.isEmpty)
    | some (.dic kvs) => some (!kvs.isEmpty)
    | _ => none
  | _ => none
def xTru (c : Ex) : Tx := fun es h => (c es h).bind fun w h1 => match truth h1 w with
  | some b => .ok b h1
  | none => .bad
theorem repK_empty : ∀ {ws : List (W × W)} {vs : List (Key × V)}, RepK K CT ρ n H ws vs → ws.isEmpty = vs.isEmpty
  | _, _, .nil => rfl
  | _, _, .cons _ _ => rfl
theorem truth_of (S : Sim K CT ρ h H) {x : W} {v : V} {b : Bool} (r : Rep K CT ρ h.n H x v) (e : truth h x = some b) : TruV K v H b := by
  cases r with
  | non => cases e; rfl
  | bl _ => cases e; rfl
  | int _ => cases e; rfl
  | @str z hz =>
    have e : (if z.length ≤ lim then some (!z.isEmpty) else none) = some b := e
    by_cases c : z.length ≤ lim
    · rw [if_pos c] at e
      cases e
      refine ⟨?_, ?_⟩
      · show z.toArray.size ≤ sizeLine
        rw [List.size_toArray]
        exact lim_line c
      · show (!z.isEmpty) = (((z.toArray.size : Nat) : Int) != 0)
        rw [List.size_toArray]
        cases z with
        | nil => rfl
        | cons x r =>
          show true = _
          have : ((((x :: r).length : Nat) : Int) != 0) = true := by
            rw [bne_iff_ne]
            rw [List.length_cons]
            omega
          rw [this]
    · rw [if_neg c] at e
      cases e
  | tup q rs => cases e; exact .inr (.inl ⟨_, q, by rw [rs.isEmpty]⟩)
  | fls q rs => cases e; exact .inl ⟨_, q.sq, by rw [rs.isEmpty]⟩
  | @ref i hi =>
    have e' : (match h.get i with
      | some (.lst xs) => some (!xs.isEmpty)
      | some (.dic kvs) => some (!kvs.isEmpty)
      | _ => none) = some b := e
    split at e'
    · rename_i ys g
      cases e'
      obtain ⟨vs, q, rs⟩ := lst_get S g
      exact .inl ⟨vs, .of q, by rw [rs.isEmpty]⟩
    · rename_i ys g
      cases e'
      obtain ⟨vs, q, rs⟩ := S.ob i _ g
      exact .inr (.inr ⟨vs, q, by rw [repK_empty rs]⟩)
    · cases e'
  | ty _ => cases e
  | cl _ => cases e
  | exc _ _ _ => cases e
end
section
variable {X : Cx} {CT : Nat → Addr} {Wd : WX} {a b c e : Expr} {ca cb cc : Ex} {ta tb : Tx} {pos : Pos}
theorem st_tru (ha : SE X CT Wd a ca) (he : ∀ whole, isTrue a X.env whole = (do let v ← whole; standAt a.pos; holding [v] (truthy v)) := by intro _; rfl) : ST X CT Wd a (xTru ca) :=
  (pt_truth ha he).wk fun σ H Q ⟨ρ, h, es, S, E, p⟩ => by
    refine ⟨ρ, h, es, S, E, Post.bind (RR := RW X.K CT) S p fun w h1 ρ1 H1 v N1 r1 p1 => ?_⟩
    cases g : truth h1 w with
    | none => rw [g] at p1; exact p1.elim
    | some k =>
      rw [g] at p1
      exact ⟨k, truth_of N1.sim r1 g, Post.here N1.sim p1 rfl⟩
def xAndT (a b : Tx) : Tx := fun es h => (a es h).bind fun k h1 => if k then b es h1 else .ok false h1
def xOrT (a b : Tx) : Tx := fun es h => (a es h).bind fun k h1 => if k then .ok true h1 else b es h1
def xNotT (a : Tx) : Tx := fun es h => (a es h).bind fun k h1 => .ok (!k) h1
theorem tAnd_of {σ : St} {H : Hp} {Q : Bool → Hp → Prop} (q : tT X.K CT Wd (xAndT ta tb) σ H Q) : tAnd (tT X.K CT Wd ta) (tT X.K CT Wd tb) σ H Q := by
  obtain ⟨ρ, h, es, S, E, p⟩ := q
  refine ⟨ρ, h, es, S, E, Post.bind (RR := RB) S p fun k h1 ρ1 H1 k' N1 r1 p1 => ?_⟩
  obtain rfl : k = k' := r1
  cases k with
  | true => exact ⟨ρ1, h1, es, N1.sim, E.keep S N1.toFw, p1⟩
  | false => exact Post.here N1.sim p1 rfl
theorem tOr_of {σ : St} {H : Hp} {Q : Bool → Hp → Prop} (q : tT X.K CT Wd (xOrT ta tb) σ H Q) : tOr (tT X.K CT Wd ta) (tT X.K CT Wd tb) σ H Q := by
  obtain ⟨ρ, h, es, S, E, p⟩ := q
  refine ⟨ρ, h, es, S, E, Post.bind (RR := RB) S p fun k h1 ρ1 H1 k' N1 r1 p1 => ?_⟩
  obtain rfl : k = k' := r1
  cases k with
  | true => exact Post.here N1.sim p1 rfl
  | false => exact ⟨ρ1, h1, es, N1.sim, E.keep S N1.toFw, p1⟩
theorem sw_and {rest : List Expr} (ha : ST X CT Wd a ta) (hb : SW X CT Wd (.BoolOp .And (b :: rest) pos) tb) : SW X CT Wd (.BoolOp .And (a :: b :: rest) pos) (xAndT ta tb) := (pw_and ha hb).wk fun _ _ _ q => tAnd_of q
theorem sw_or {rest : List Expr} (ha : ST X CT Wd a ta) (hb : SW X CT Wd (.BoolOp .Or (b :: rest) pos) tb) : SW X CT Wd (.BoolOp .Or (a :: b :: rest) pos) (xOrT ta tb) := (pw_or ha hb).wk fun _ _ _ q => tOr_of q
theorem sw_and1 (ha : ST X CT Wd a ta) : SW X CT Wd (.BoolOp .And [a] pos) ta := pw_and1 ha
theorem sw_or1 (ha : ST X CT Wd a ta) : SW X CT Wd (.BoolOp .Or [a] pos) ta := pw_or1 ha
theorem st_w (h : SW X CT Wd e ta) : ST X CT Wd e ta := h.pt
theorem st_not (ha : ST X CT Wd a ta) : ST X CT Wd (.UnaryOp .Not a pos) (xNotT ta) := (pt_not ha).wk fun σ H Q ⟨ρ, h, es, S, E, p⟩ => by
  refine ⟨ρ, h, es, S, E, Post.bind (RR := RB) S p fun k h1 ρ1 H1 k' N1 r1 p1 => ?_⟩
  obtain rfl : k = k' := r1
  exact Post.here N1.sim p1 rfl
def xIf (t : Tx) (a b : Ex) : Ex := fun es h => (t es h).bind fun k h1 => if k then a es h1 else b es h1
theorem se_if (ht : ST X CT Wd c ta) (ha : SE X CT Wd a ca) (hb : SE X CT Wd b cb) : SE X CT Wd (.IfExp c a b pos) (xIf ta ca cb) := (pe_ifExp ht ha hb).wk fun σ H Q ⟨ρ, h, es, S, E, p⟩ => by
  refine ⟨ρ, h, es, S, E, Post.bind (RR := RB) S p fun k h1 ρ1 H1 k' N1 r1 p1 => ?_⟩
  obtain rfl : k = k' := r1
  cases k with
  | true => exact ⟨ρ1, h1, es, N1.sim, E.keep S N1.toFw, p1⟩
  | false => exact ⟨ρ1, h1, es, N1.sim, E.keep S N1.toFw, p1⟩
/-- and, or, not as values -/
def xAnd (a b : Ex) : Ex := fun es h => (a es h).bind fun w h1 => match truth h1 w with
  | some true => b es h1
  | some false => .ok w h1
  | none => .bad
def xOr (a b : Ex) : Ex := fun es h => (a es h).bind fun w h1 => match truth h1 w with
  | some true => .ok w h1
  | some false => b es h1
  | none => .bad
def xNot (a : Ex) : Ex := fun es h => (a es h).bind fun w h1 => match truth h1 w with
  | some k => .ok (.bl (!k)) h1
  | none => .bad
theorem se_and {rest : List Expr} (ha : SE X CT Wd a ca) (hb : SE X CT Wd (.BoolOp .And (b :: rest) pos) cb) : SE X CT Wd (.BoolOp .And (a :: b :: rest) pos) (xAnd ca cb) := (pe_andT ha hb).wk fun σ H Q ⟨ρ, h, es, S, E, p⟩ => by
  refine ⟨ρ, h, es, S, E, Post.bind (RR := RW X.K CT) S p fun w h1 ρ1 H1 v N1 r1 p1 => ?_⟩
  cases g : truth h1 w with
  | none => rw [g] at p1; exact p1.elim
  | some k =>
    rw [g] at p1
    refine ⟨k, truth_of N1.sim r1 g, ?_⟩
    cases k with
    | true =>
      rw [if_pos rfl]
      exact ⟨ρ1, h1, es, N1.sim, E.keep S N1.toFw, p1⟩
    | false =>
      rw [if_neg Bool.false_ne_true]
      exact Post.here N1.sim p1 r1
theorem se_or {rest : List Expr} (ha : SE X CT Wd a ca) (hb : SE X CT Wd (.BoolOp .Or (b :: rest) pos) cb) : SE X CT Wd (.BoolOp .Or (a :: b :: rest) pos) (xOr ca cb) := (pe_orT ha hb).wk fun σ H Q ⟨ρ, h, es, S, E, p⟩ => by
  refine ⟨ρ, h, es, S, E, Post.bind (RR := RW X.K CT) S p fun w h1 ρ1 H1 v N1 r1 p1 => ?_⟩
  cases g : truth h1 w with
  | none => rw [g] at p1; exact p1.elim
  | some k =>
    rw [g] at p1
    refine ⟨k, truth_of N1.sim r1 g, ?_⟩
    cases k with
    | true =>
      rw [if_pos rfl]
      exact Post.here N1.sim p1 r1
    | false =>
      rw [if_neg Bool.false_ne_true]
      exact ⟨ρ1, h1, es, N1.sim, E.keep S N1.toFw, p1⟩
theorem se_one {op : BoolOp} (ha : SE X CT Wd a ca) : SE X CT Wd (.BoolOp op [a] pos) ca := pe_one ha
theorem se_not (ha : SE X CT Wd a ca) : SE X CT Wd (.UnaryOp .Not a pos) (xNot ca) := (pe_notT ha).wk fun σ H Q ⟨ρ, h, es, S, E, p⟩ => by
  refine ⟨ρ, h, es, S, E, Post.bind (RR := RW X.K CT) S p fun w h1 ρ1 H1 v N1 r1 p1 => ?_⟩
  cases g : truth h1 w with
  | none => rw [g] at p1; exact p1.elim
  | some k =>
    rw [g] at p1
    exact ⟨k, truth_of N1.sim r1 g, Post.here N1.sim p1 (.bl _)⟩

/-! ### arguments, displays -/
def xNil : Ax := fun _ h => .ok [] h
def xCons (a : Ex) (r : Ax) : Ax := fun es h => (a es h).bind fun w h1 => (r es h1).bind fun ws h2 => .ok (w :: ws) h2
theorem sa_nil : SA X CT Wd [] xNil := pa_nil.wk fun σ H Q ⟨ρ, h, es, S, E, p⟩ => Post.here S p .nil
theorem sa_cons {es : List Expr} {r : Ax} (ha : SE X CT Wd e ca) (hr : SA X CT Wd es r) (hs : starEach (e :: es) X.env = (false, eval e X.env) :: starEach es X.env := by rfl) : SA X CT Wd (e :: es) (xCons ca r) := (pa_cons ha hr hs).wk fun σ H Q ⟨ρ, h, en, S, E, p⟩ => by
  refine ⟨ρ, h, en, S, E, Post.bind (RR := RW X.K CT) S p fun w h1 ρ1 H1 v N1 r1 p1 => ?_⟩
  refine ⟨ρ1, h1, en, N1.sim, E.keep S N1.toFw, Post.bind (RR := RA X.K CT) N1.sim p1 fun ws h2 ρ2 H2 vs N2 r2 p2 => ?_⟩
  exact Post.here N2.sim p2 (.cons (Rep.keep N1.sim N2.toFw _ _ r1) r2)
def xTup (a : Ax) : Ex := fun es h => (a es h).bind fun ws h1 => if ws.length ≤ lim then .ok (.tup ws) h1 else .bad
def xLst (a : Ax) : Ex := fun es h => (a es h).bind fun ws h1 => if ws.length ≤ lim then .ok (.ref h1.n) (h1.new (.lst ws)) else .bad
def xDic0 : Ex := fun _ h => .ok (.ref h.n) (h.new (.dic []))
theorem se_tup {es : List Expr} {r : Ax} {x1} (ha : SA X CT Wd es r) : SE X CT Wd (.Tuple es x1 pos) (xTup r) := (pe_tup ha).wk fun σ H Q ⟨ρ, h, en, S, E, p⟩ => by
  refine ⟨ρ, h, en, S, E, Post.bind (RR := RA X.K CT) S p fun ws h1 ρ1 H1 vs N1 r1 p1 => ?_⟩
  obtain ⟨c, p1⟩ := post_if p1
  exact ⟨by rw [← r1.length]; exact lim_line c, fun t ht => post_tup N1.sim p1 r1 ht⟩
theorem se_lst {es : List Expr} {r : Ax} (ha : SA X CT Wd es r) : SE X CT Wd (.List es pos) (xLst r) := (pe_lst ha).wk fun σ H Q ⟨ρ, h, en, S, E, p⟩ => by
  refine ⟨ρ, h, en, S, E, Post.bind (RR := RA X.K CT) S p fun ws h1 ρ1 H1 vs N1 r1 p1 => ?_⟩
  obtain ⟨c, p1⟩ := post_if p1
  exact ⟨by rw [← r1.length]; exact lim_line c, fun t ht => post_lst N1.sim p1 r1 ht⟩
theorem se_dic0 : SE X CT Wd (.Dict [] [] pos) xDic0 := pe_dnewK.wk fun σ H Q ⟨ρ, h, es, S, E, p⟩ => fun a ha => by
  have N : Nxt X.K CT ρ h H (ρnew ρ h.n a) (h.new (.dic [])) (upd H a (.dK [])) := Nxt.fresh S ha ⟨[], upd_same, .nil⟩
  have e : ρnew ρ h.n a h.n = a := if_pos rfl
  have q : Rep X.K CT (ρnew ρ h.n a) (h.n + 1) (upd H a (.dK [])) (.ref h.n) (.ref (ρnew ρ h.n a h.n)) := .ref (Nat.lt_succ_self _)
  rw [e] at q
  exact p _ _ _ N q

/-! ### built-ins called -/
def xCallB (f : List W → Hx → R W) (a : Ax) : Ex := fun es h => (a es h).bind fun ws h1 => f ws h1
def CallS (K : PySem.W.Frag) (CT : Nat → Addr) (Wd : WX) (r : List V → Hp → VK → Prop) (f : List W → Hx → R W) : Prop :=
  ∀ {ρ : Nat → Addr} {h : Hx} {H : Hp} {σ : St} {ws : List W} {vs : List V} {Q : VK}, Sim K CT ρ h H → Reps K CT ρ h.n H ws vs → Post K CT (RW K CT) Wd ρ h H σ (f ws h) Q → r vs H Q
theorem tCB_of {r : List V → Hp → VK → Prop} {f : List W → Hx → R W} {ar : Ax} (hs : CallS X.K CT Wd r f) {σ : St} {H : Hp} {Q : VK} (q : tE X.K CT Wd (xCallB f ar) σ H Q) : tCB r (tAx X.K CT Wd ar) σ H Q := by
  obtain ⟨ρ, h, en, S, E, p⟩ := q
  exact ⟨ρ, h, en, S, E, Post.bind (RR := RA X.K CT) S p fun ws h1 ρ1 H1 vs N1 r1 p1 => hs N1.sim r1 p1⟩
theorem se_callB {id : String} {x : Str} {p : Pos} {es : List Expr} {r : List V → Hp → VK → Prop} {f : List W → Hx → R W} {ar : Ax} (hc : CallR X (.builtin id) r) (hs : CallS X.K CT Wd r f) (hg : Gl X x) (hm : X.mg x = none) (hv : bootBuiltins x = some (.builtin id)) (ha : SA X CT Wd (e :: es) ar)
    (hn : x ≠ "__name__" := by decide) (hdb : (x == ("__debug__" : Str)) = false := by decide)
    (he : starEach (e :: es) X.env = (false, eval e X.env) :: starEach es X.env := by rfl) (hpl : (backTo pos (starEach es X.env)).any (·.1) = false := by rfl) : SE X CT Wd (.Call (.Name x p) (e :: es) [] pos) (xCallB f ar) :=
  (pe_callB hc hg hm hv ha hn hdb he hpl).wk fun _ _ _ q => tCB_of hs q
theorem se_callTy {T : String} {x : Str} {p : Pos} {es : List Expr} {r : List V → Hp → VK → Prop} {f : List W → Hx → R W} {ar : Ax} (hc : CallR X (.type T) r) (hs : CallS X.K CT Wd r f) (hg : Gl X x) (hm : X.mg x = none) (hv : bootBuiltins x = some (.type T)) (ha : SA X CT Wd (e :: es) ar)
    (hn : x ≠ "__name__" := by decide) (hdb : (x == ("__debug__" : Str)) = false := by decide)
    (he : starEach (e :: es) X.env = (false, eval e X.env) :: starEach es X.env := by rfl) (hpl : (backTo pos (starEach es X.env)).any (·.1) = false := by rfl) : SE X CT Wd (.Call (.Name x p) (e :: es) [] pos) (xCallB f ar) :=
  (pe_callTy hc hg hm hv ha hn hdb he hpl).wk fun _ _ _ q => tCB_of hs q
/-- a built-in class by its name; a constant of the module -/
theorem se_ty {t : Bt} {x : Str} {p : Pos} (hg : Gl X x) (hm : X.mg x = none) (hv : bootBuiltins x = some (.type t.name)) (hn : x ≠ "__name__" := by decide) (hdb : (x == ("__debug__" : Str)) = false := by decide) : SE X CT Wd (.Name x p) (xC (.ty t)) :=
  se_c (pe_bltn (v := .ty t.name) hg hm hv rfl hn hdb) fun _ _ _ => .ty t
def lenW : List W → Hx → R W
  | [w], h => match w with
    | .str z => if z.length ≤ lim then .ok (.int z.length) h else .bad
    | .ref i => match h.get i with
      | some (.lst xs) => .ok (.int xs.length) h
      | some (.dic kvs) => .ok (.int kvs.length) h
      | _ => .bad
    | .tup xs => .ok (.int xs.length) h
    | .fls xs => .ok (.int xs.length) h
    | _ => .bad
  | _, _ => .bad
theorem callR_or {f : Value} {r r' : List V → Hp → VK → Prop} (p : CallR X f r) (q : CallR X f r') : CallR X f (fun xs H Q => r xs H Q ∨ r' xs H Q) := by
  intro pins s σ H xs us Q I rx h
  rcases h with h | h
  · exact p pins s σ H xs us Q I rx h
  · exact q pins s σ H xs us Q I rx h
theorem repK_len {K : PySem.W.Frag} {ρ : Nat → Addr} {n : Nat} {H : Hp} : ∀ {ws : List (W × W)} {vs : List (Key × V)}, RepK K CT ρ n H ws vs → ws.length = vs.length
  | _, _, .nil => rfl
  | _, _, .cons _ t => by rw [List.length_cons, List.length_cons, repK_len t]
abbrev rLenW (K : PySem.W.Frag) : List V → Hp → VK → Prop := fun xs H Q => (∃ x n, xs = [x] ∧ LenV K x H n ∧ Q (.int n) H) ∨ ∃ a kvs, xs = [.ref a] ∧ H a = some (.dK kvs) ∧ Q (.int kvs.length) H
theorem cs_len {K : PySem.W.Frag} : CallS K CT Wd (rLenW K) lenW := by
  intro ρ h H σ ws vs Q S r p
  cases r with
  | nil => exact p.elim
  | cons rw rest =>
    cases rest with
    | cons _ _ => exact p.elim
    | nil =>
      cases rw with
      | @str z hz =>
        obtain ⟨c, p⟩ := post_if (show Post K CT (RW K CT) Wd ρ h H σ (if z.length ≤ lim then .ok (.int z.length) h else .bad) Q from p)
        refine .inl ⟨_, z.length, rfl, ⟨?_, ?_⟩, Post.here S p (.int _)⟩
        · show z.toArray.size ≤ sizeLine
          rw [List.size_toArray]
          exact lim_line c
        · show z.length = z.toArray.size
          rw [List.size_toArray]
      | @ref i hi =>
        have p' : Post K CT (RW K CT) Wd ρ h H σ (match h.get i with
          | some (.lst xs) => .ok (.int xs.length) h
          | some (.dic kvs) => .ok (.int kvs.length) h
          | _ => .bad) Q := p
        split at p'
        · rename_i ys g
          obtain ⟨us, q, rs⟩ := lst_get S g
          exact .inl ⟨_, ys.length, rfl, .inl ⟨us, .of q, rs.length⟩, Post.here S p' (.int _)⟩
        · rename_i ys g
          obtain ⟨us, q, rs⟩ := S.ob i _ g
          refine .inr ⟨_, us, rfl, q, ?_⟩
          rw [← repK_len rs]
          exact Post.here S p' (.int _)
        · exact p'.elim
      | tup q rs => exact .inl ⟨_, _, rfl, .inr ⟨_, q, rs.length⟩, Post.here S p (.int _)⟩
      | fls q rs => exact .inl ⟨_, _, rfl, .inl ⟨_, q.sq, rs.length⟩, Post.here S p (.int _)⟩
      | _ => exact (show False from p).elim
def max2W : List W → Hx → R W
  | [.int i, .int j], h => .ok (.int (if j > i then j else i)) h
  | _, _ => .bad
def min2W : List W → Hx → R W
  | [.int i, .int j], h => .ok (.int (if j < i then j else i)) h
  | _, _ => .bad
theorem cs_max2 {K : PySem.W.Frag} : CallS K CT Wd (fun xs H Q => ∃ i j, xs = [.int i, .int j] ∧ Q (.int (if j > i then j else i)) H) max2W := by
  intro ρ h H σ ws vs Q S r p
  cases r with
  | nil => exact p.elim
  | cons r1 t =>
    cases t with
    | nil => cases r1 <;> exact (show False from p).elim
    | cons r2 t =>
      cases t with
      | cons _ _ => cases r1 <;> cases r2 <;> exact (show False from p).elim
      | nil =>
        cases r1 <;> cases r2 <;> try exact (show False from p).elim
        exact ⟨_, _, rfl, Post.here S p (.int _)⟩
theorem cs_min2 {K : PySem.W.Frag} : CallS K CT Wd (fun xs H Q => ∃ i j, xs = [.int i, .int j] ∧ Q (.int (if j < i then j else i)) H) min2W := by
  intro ρ h H σ ws vs Q S r p
  cases r with
  | nil => exact p.elim
  | cons r1 t =>
    cases t with
    | nil => cases r1 <;> exact (show False from p).elim
    | cons r2 t =>
      cases t with
      | cons _ _ => cases r1 <;> cases r2 <;> exact (show False from p).elim
      | nil =>
        cases r1 <;> cases r2 <;> try exact (show False from p).elim
        exact ⟨_, _, rfl, Post.here S p (.int _)⟩
def intW : List W → Hx → R W
  | [.int i], h => .ok (.int i) h
  | [.bl k], h => .ok (.int (if k then 1 else 0)) h
  | _, _ => .bad
theorem cs_int {K : PySem.W.Frag} : CallS K CT Wd (fun xs H Q => (∃ i, xs = [.int i] ∧ Q (.int i) H) ∨ ∃ k, xs = [.bl k] ∧ Q (.int (if k then 1 else 0)) H) intW := by
  intro ρ h H σ ws vs Q S r p
  cases r with
  | nil => exact p.elim
  | cons r1 t =>
    cases t with
    | cons _ _ => cases r1 <;> exact (show False from p).elim
    | nil =>
      cases r1 <;> try exact (show False from p).elim
      · exact .inr ⟨_, rfl, Post.here S p (.int _)⟩
      · exact .inl ⟨_, rfl, Post.here S p (.int _)⟩
/-- the signs of an int -/
def intStr (i : Int) : List Nat := (Str.ofString (toString i)).cps.toList
def strW : List W → Hx → R W
  | [.int i], h => if i.natAbs < 2 ^ 1900 ∧ (intStr i).all (· < 1114112) = true then .ok (.str (intStr i)) h else .bad
  | _, _ => .bad
theorem cs_str {K : PySem.W.Frag} : CallS K CT Wd (fun xs H Q => ∃ i : Int, xs = [.int i] ∧ i.natAbs.log2 < 1920 ∧ Q (.str (toString i)) H) strW := by
  intro ρ h H σ ws vs Q S r p
  cases r with
  | nil => exact p.elim
  | cons r1 t =>
    cases t with
    | cons _ _ => cases r1 <;> exact (show False from p).elim
    | nil =>
      cases r1 <;> try exact (show False from p).elim
      rename_i i
      obtain ⟨c, p⟩ := post_if (show Post K CT (RW K CT) Wd ρ h H σ (if i.natAbs < 2 ^ 1900 ∧ (intStr i).all (· < 1114112) = true then .ok (.str (intStr i)) h else .bad) Q from p)
      refine ⟨i, rfl, ?_, ?_⟩
      · by_cases z : i.natAbs = 0
        · rw [z]
          decide
        · exact Nat.lt_trans ((Nat.log2_lt z).mpr c.1) (by decide)
      · exact Post.here S p (rep_str _ c.2)
def boolsOf : List W → Option (List Bool)
  | [] => some []
  | .bl b :: r => (boolsOf r).map (b :: ·)
  | _ :: _ => none
theorem boolsOf_of {K : PySem.W.Frag} {ρ : Nat → Addr} {n : Nat} {H : Hp} : ∀ {ws : List W} {vs : List V} {bs : List Bool}, Reps K CT ρ n H ws vs → boolsOf ws = some bs → vs = bs.map V.bl
  | _, _, _, .nil, e => by cases e; rfl
  | w :: ws, _, bs, .cons r t, e => by
    cases r with
    | bl b =>
      have e' : (boolsOf ws).map (b :: ·) = some bs := e
      cases g : boolsOf ws with
      | none => rw [g] at e'; cases e'
      | some cs =>
        rw [g] at e'
        cases e'
        rw [boolsOf_of t g]
        rfl
    | _ => cases e
def allW : List W → Hx → R W
  | [w], h => match itemsOf h w with
    | some xs => match boolsOf xs with
      | some bs => .ok (.bl (bs.all id)) h
      | none => .bad
    | none => .bad
  | _, _ => .bad
def anyW : List W → Hx → R W
  | [w], h => match itemsOf h w with
    | some xs => match boolsOf xs with
      | some bs => .ok (.bl (bs.any id)) h
      | none => .bad
    | none => .bad
  | _, _ => .bad
theorem itemsOf_of {K : PySem.W.Frag} {ρ : Nat → Addr} {h : Hx} {H : Hp} (S : Sim K CT ρ h H) {x : W} {v : V} {xs : List W} (r : Rep K CT ρ h.n H x v) (e : itemsOf h x = some xs) : ∃ a vs, v = .ref a ∧ SqL K H a vs ∧ Reps K CT ρ h.n H xs vs := by
  cases r with
  | fls q rs => cases e; exact ⟨_, _, rfl, q.sq, rs⟩
  | @ref i hi =>
    have e' : (match h.get i with
      | some (.lst xs) => some xs
      | _ => none) = some xs := e
    split at e'
    · rename_i ys g
      cases e'
      obtain ⟨vs, q, rs⟩ := lst_get S g
      exact ⟨_, vs, rfl, .of q, rs⟩
    · cases e'
  | _ => cases e
theorem cs_all {K : PySem.W.Frag} : CallS K CT Wd (rAll K) allW := by
  intro ρ h H σ ws vs Q S r p
  cases r with
  | nil => exact p.elim
  | cons r1 t =>
    cases t with
    | cons _ _ => exact (show False from p).elim
    | nil =>
      rename_i w v
      have p' : Post K CT (RW K CT) Wd ρ h H σ (match itemsOf h w with
        | some xs => match boolsOf xs with
          | some bs => .ok (.bl (bs.all id)) h
          | none => .bad
        | none => .bad) Q := p
      cases g : itemsOf h w with
      | none => rw [g] at p'; exact p'.elim
      | some xs =>
        rw [g] at p'
        have p2 : Post K CT (RW K CT) Wd ρ h H σ (match boolsOf xs with
          | some bs => .ok (.bl (bs.all id)) h
          | none => .bad) Q := p'
        cases g2 : boolsOf xs with
        | none => rw [g2] at p2; exact p2.elim
        | some bs =>
          rw [g2] at p2
          obtain ⟨a, us, rfl, q, rs⟩ := itemsOf_of S r1 g
          rw [boolsOf_of rs g2] at q
          exact ⟨a, bs, rfl, q, Post.here S p2 (.bl _)⟩
/-- isinstance with a built-in class -/
def btOf (h : Hx) : W → Option Bt
  | .non => some .none
  | .bl _ => some .bool
  | .int _ => some .int
  | .str _ => some .str
  | .tup _ => some .tuple
  | .fls _ => some .list
  | .ref i => match h.get i with
    | some (.lst _) => some .list
    | some (.dic _) => some .dict
    | _ => none
  | _ => none
def isB (a b : Bt) : Bool := match a, b with
  | .bool, .int => true
  | a, b => decide (a = b)
theorem isB_kit (K : PySem.W.Frag) (a b : Bt) (hb : b ≠ .none) : PySem.W.kitOne K (.type a.name) (.type b.name) = some (isB a b) := by
  refine kit_ty ?_
  cases b <;> first | exact absurd rfl hb | (cases a <;> decide +kernel)
def isi1 (o : Option Bt) (t : Bt) (h : Hx) : R W := match o with
  | some b => if t ≠ .none then .ok (.bl (isB b t)) h else .bad
  | none => .bad
def isiW : List W → Hx → R W
  | [w, .ty t], h => isi1 (btOf h w) t h
  | _, _ => .bad
theorem btOf_of {K : PySem.W.Frag} {ρ : Nat → Addr} {h : Hx} {H : Hp} (S : Sim K CT ρ h H) {x : W} {v : V} {t : Bt} (r : Rep K CT ρ h.n H x v) (e : btOf h x = some t) : TyX K H v (.type t.name) := by
  cases r with
  | non => cases e; exact .base .non
  | bl b => cases e; exact .base (.bl b)
  | int i => cases e; exact .base (.int i)
  | str _ => cases e; exact .base (.str _)
  | tup q rs =>
    cases e
    rcases q with (q | ⟨o, q⟩) | ⟨o, its, m, k, c, _⟩
    · exact .base (.tup q)
    · exact .fTuple q
    · exact .kTuple k c
  | fls q rs =>
    cases e
    rcases q with ⟨o, q⟩ | ⟨o, its, m, k, c, _⟩
    · exact .base (.frz q)
    · exact .kList k c
  | @ref i hi =>
    have e' : (match h.get i with
      | some (.lst _) => some Bt.list
      | some (.dic _) => some .dict
      | _ => none) = some t := e
    split at e'
    · rename_i ys g
      cases e'
      obtain ⟨vs, q, rs⟩ := lst_get S g
      exact .base (.lst q)
    · rename_i ys g
      cases e'
      obtain ⟨vs, q, rs⟩ := S.ob i _ g
      exact .base (.dK q)
    · cases e'
  | ty _ => cases e
  | cl _ => cases e
  | exc _ _ _ => cases e
theorem cs_isi {K : PySem.W.Frag} : CallS K CT Wd (rIsi K) isiW := by
  intro ρ h H σ ws vs Q S r p
  cases r with
  | nil => exact p.elim
  | cons r1 t =>
    cases t with
    | nil => exact (show False from p).elim
    | cons r2 t =>
      cases t with
      | cons _ _ => cases r2 <;> exact (show False from p).elim
      | nil =>
        cases r2 <;> try exact (show False from p).elim
        rename_i w v t
        have p' : Post K CT (RW K CT) Wd ρ h H σ (isi1 (btOf h w) t h) Q := p
        cases g : btOf h w with
        | none => rw [g] at p'; exact p'.elim
        | some b =>
          rw [g] at p'
          obtain ⟨k1, k2⟩ := post_if (show Post K CT (RW K CT) Wd ρ h H σ (if t ≠ .none then .ok (.bl (isB b t)) h else .bad) Q from p')
          exact ⟨v, _, _, _, _, rfl, .ty _, btOf_of S r1 g, isB_kit K b t k1, Post.here S k2 (.bl _)⟩
end
end Sx

set_option linter.all false
set_option autoImplicit false
set_option maxRecDepth 100000
set_option maxHeartbeats 2000000
namespace Sx
open PySem L2

/-! ### walks -/
inductive Cur where
  | seq (ws : List W)
  | live (i j : Nat)
  | rng (i : Int) (n : Nat)
  | enm (i j : Nat)
def Cur.fuel (h : Hx) : Cur → Nat
  | .seq ws => ws.length
  | .live i _ => match h.get i with
    | some (.lst xs) => xs.length
    | _ => 0
  | .rng _ n => n
  | .enm i _ => match h.get i with
    | some (.lst xs) => xs.length
    | _ => 0
def Cur.step (h : Hx) : Cur → Option (Option (W × Cur))
  | .seq [] => some none
  | .seq (w :: r) => some (some (w, .seq r))
  | .live i j => match h.get i with
    | some (.lst xs) => some (xs[j]?.map fun w => (w, .live i (j + 1)))
    | _ => none
  | .rng _ 0 => some none
  | .rng i (n + 1) => some (some (.int i, .rng (i + 1) n))
  | .enm i j => match h.get i with
    | some (.lst xs) => some (xs[j]?.map fun w => (.tup [.int (j : Nat), w], .enm i (j + 1)))
    | _ => none
abbrev Ix := Env → Hx → R Cur
def ItS (K : PySem.W.Frag) (CT : Nat → Addr) (ρ : Nat → Addr) (h : Hx) (H : Hp) (J : It) (c : Cur) : Prop :=
  ∃ P : Nat → Cur → Prop, P 0 c ∧ ∀ j c, P j c → ∀ ρ' h' H', Nxt K CT ρ h H ρ' h' H' → match c.step h' with
    | none => True
    | some none => J.stop j H'
    | some (some (w, c')) => P (j + 1) c' ∧ J.go j H' ∧ ∀ x H'', J.yld j H' x H'' → Nxt K CT ρ' h' H' ρ' h' H'' ∧ Rep K CT ρ' h'.n H'' w x
def PostI (K : PySem.W.Frag) (CT : Nat → Addr) (Wd : WX) (ρ : Nat → Addr) (h : Hx) (H : Hp) (σ : St) (r : R Cur) (Q : It → Hp → Prop) : Prop := match r with
  | .ok c h' => ∀ ρ' H' J, Nxt K CT ρ h H ρ' h' H' → ItS K CT ρ' h' H' J c → Q J H'
  | .exc x h' => ∀ ρ' H' od, Nxt K CT ρ h H ρ' h' H' → XcR K CT ρ' h'.n H' x od → Wd (.ref (CT x.k)) od σ H'
  | .bad => False
def tI (K : PySem.W.Frag) (CT : Nat → Addr) (Wd : WX) (c : Ix) : TI := fun σ H R => ∃ ρ h es, Sim K CT ρ h H ∧ REnv K CT ρ h.n H es σ ∧ PostI K CT Wd ρ h H σ (c es h) R
abbrev SI (X : Cx) (CT : Nat → Addr) (Wd : WX) (tg e : Expr) (c : Ix) : Prop := PI X tg e (tI X.K CT Wd c)
theorem _root_.L2.PI.wk {X : Cx} {tg e : Expr} {t t' : TI} (h : PI X tg e t) (k : ∀ σ H Q, t' σ H Q → t σ H Q) : PI X tg e t' := ⟨fun pins s σ H Q I q => h.run pins s σ H Q I (k σ H Q q)⟩
theorem pi_or {X : Cx} {tg e : Expr} {t t' : TI} (h : PI X tg e t) (h' : PI X tg e t') : PI X tg e (fun σ H R => t σ H R ∨ t' σ H R) := ⟨fun pins s σ H Q I q => by
  rcases q with q | q
  · exact h.run pins s σ H Q I q
  · exact h'.run pins s σ H Q I q⟩
def sign (c : Nat) : W := .str [c]
def curOf (h : Hx) : W → Option Cur
  | .fls xs => some (.seq xs)
  | .tup xs => some (.seq xs)
  | .str z => some (.seq (z.map sign))
  | .ref i => match h.get i with
    | some (.lst _) => some (.live i 0)
    | _ => none
  | _ => none
def xIt (c : Ex) : Ix := fun es h => (c es h).bind fun w h1 => match curOf h1 w with
  | some k => .ok k h1
  | none => .bad
section
variable {K : PySem.W.Frag} {CT ρ : Nat → Addr} {h : Hx} {H : Hp}
theorem its_seq {J : It} {ws : List W} (st : ∀ j H', ws.length ≤ j → J.stop j H')
    (go : ∀ (j : Nat) (w : W), ws[j]? = some w → ∀ ρ' h' H', Nxt K CT ρ h H ρ' h' H' → J.go j H' ∧ ∀ x H'', J.yld j H' x H'' → H'' = H' ∧ Rep K CT ρ' h'.n H' w x)
    (st' : ∀ j H', J.stop j H' → True := fun _ _ _ => trivial) : ItS K CT ρ h H J (.seq ws) := by
  refine ⟨fun j c => c = .seq (ws.drop j), rfl, fun j c e ρ' h' H' N => ?_⟩
  subst e
  cases g : ws.drop j with
  | nil => exact st j H' (List.drop_eq_nil_iff.mp g)
  | cons w r =>
    have hj : ws[j]? = some w := by
      have : (ws.drop j)[0]? = some w := by rw [g]; rfl
      rwa [List.getElem?_drop, Nat.add_zero] at this
    refine ⟨?_, (go j w hj ρ' h' H' N).1, fun x H'' y => ?_⟩
    · show Cur.seq r = .seq (ws.drop (j + 1))
      rw [← List.drop_drop, g]
      rfl
    · obtain ⟨e, r⟩ := (go j w hj ρ' h' H' N).2 x H'' y
      subst e
      exact ⟨Nxt.refl N.sim, r⟩
theorem its_list {a : Addr} {ws : List W} {vs : List V} (S : Sim K CT ρ h H) (q : SqF K H a vs) (rs : Reps K CT ρ h.n H ws vs) : ItS K CT ρ h H (Itl K a) (.seq ws) := by
  have q' : ∀ ρ' h' H', Nxt K CT ρ h H ρ' h' H' → SqL K H' a vs := fun ρ' h' H' N => ((Kp.of S N.toFw).f _ _ q).sq
  refine ⟨fun j c => c = .seq (ws.drop j), rfl, fun j c e ρ' h' H' N => ?_⟩
  subst e
  cases g : ws.drop j with
  | nil => exact ⟨vs, q' ρ' h' H' N, by rw [← rs.length]; exact List.drop_eq_nil_iff.mp g⟩
  | cons w r =>
    have hj : ws[j]? = some w := by
      have : (ws.drop j)[0]? = some w := by rw [g]; rfl
      rwa [List.getElem?_drop, Nat.add_zero] at this
    obtain ⟨v, ev, rv⟩ := rs.get hj
    refine ⟨?_, ⟨vs, v, q' ρ' h' H' N, ev⟩, fun x H'' y => ?_⟩
    · show Cur.seq r = .seq (ws.drop (j + 1))
      rw [← List.drop_drop, g]
      rfl
    · obtain ⟨e, k⟩ := y
      subst e
      have := k vs (q' ρ' h' _ N)
      rw [ev] at this
      cases this
      exact ⟨Nxt.refl N.sim, Rep.keep S N.toFw _ _ rv⟩
theorem its_tup {a : Addr} {ws : List W} {vs : List V} (S : Sim K CT ρ h H) (q : SqT K H a vs) (rs : Reps K CT ρ h.n H ws vs) : ItS K CT ρ h H (Itt K a) (.seq ws) := by
  have q' : ∀ ρ' h' H', Nxt K CT ρ h H ρ' h' H' → SqT K H' a vs := fun ρ' h' H' N => (Kp.of S N.toFw).t _ _ q
  refine ⟨fun j c => c = .seq (ws.drop j), rfl, fun j c e ρ' h' H' N => ?_⟩
  subst e
  cases g : ws.drop j with
  | nil => exact ⟨vs, q' ρ' h' H' N, by rw [← rs.length]; exact List.drop_eq_nil_iff.mp g⟩
  | cons w r =>
    have hj : ws[j]? = some w := by
      have : (ws.drop j)[0]? = some w := by rw [g]; rfl
      rwa [List.getElem?_drop, Nat.add_zero] at this
    obtain ⟨v, ev, rv⟩ := rs.get hj
    refine ⟨?_, ⟨vs, v, q' ρ' h' H' N, ev⟩, fun x H'' y => ?_⟩
    · show Cur.seq r = .seq (ws.drop (j + 1))
      rw [← List.drop_drop, g]
      rfl
    · obtain ⟨e, k⟩ := y
      subst e
      have := k vs (q' ρ' h' _ N)
      rw [ev] at this
      cases this
      exact ⟨Nxt.refl N.sim, Rep.keep S N.toFw _ _ rv⟩
theorem its_live {i : Nat} (hi : i < h.n) : ItS K CT ρ h H (Itl K (ρ i)) (.live i 0) := by
  refine ⟨fun j c => c = .live i j, rfl, fun j c e ρ' h' H' N => ?_⟩
  subst e
  show match (match h'.get i with
    | some (.lst xs) => some (xs[j]?.map fun w => (w, Cur.live i (j + 1)))
    | _ => none) with
    | none => True
    | some none => _
    | some (some (w, c')) => _
  cases g : h'.get i with
  | none => exact trivial
  | some o =>
    cases o with
    | dic _ => exact trivial
    | ins _ _ => exact trivial
    | lst xs =>
      obtain ⟨vs, q, rs⟩ := lst_get N.sim g
      rw [N.ext i hi] at q
      show match some (xs[j]?.map fun w => (w, Cur.live i (j + 1))) with
        | none => True
        | some none => _
        | some (some (w, c')) => _
      cases g2 : xs[j]? with
      | none => exact ⟨vs, .of q, by rw [← rs.length]; exact List.getElem?_eq_none_iff.mp g2⟩
      | some w =>
        obtain ⟨v, ev, rv⟩ := rs.get g2
        refine ⟨rfl, ⟨vs, v, .of q, ev⟩, fun x H'' y => ?_⟩
        obtain ⟨e, k⟩ := y
        subst e
        have := k vs (.of q)
        rw [ev] at this
        cases this
        exact ⟨Nxt.refl N.sim, rv⟩
theorem its_str {z : List Nat} (hz : z.all (· < 1114112) = true) : ItS K CT ρ h H (Its ⟨z.toArray⟩) (.seq (z.map sign)) := by
  refine its_seq (fun j H' hj => ?_) fun j w hj ρ' h' H' N => ⟨?_, fun x H'' y => ?_⟩
  · show z.toArray.size ≤ j
    rw [List.length_map] at hj
    rw [List.size_toArray]
    exact hj
  · show j < z.toArray.size
    have := (List.getElem?_eq_some_iff.mp hj).1
    rw [List.length_map] at this
    rw [List.size_toArray]
    exact this
  · obtain ⟨e, c, ec, ex⟩ := y
    subst e
    subst ex
    have ec' : z[j]? = some c := by simpa using ec
    rw [List.getElem?_map, ec'] at hj
    have hw : sign c = w := Option.some.inj hj
    subst hw
    have k : Rep K CT ρ' h'.n H'' (.str [c]) (.str ⟨[c].toArray⟩) := .str (by
      rw [List.all_cons, List.all_eq_true.mp hz c (List.mem_of_getElem? ec')]
      rfl)
    exact ⟨rfl, k⟩
theorem its_rng (lo : Int) (n : Nat) : ItS K CT ρ h H (Itr lo n) (.rng lo n) := by
  refine ⟨fun j c => c = .rng (lo + j) (n - j) , by simp, fun j c e ρ' h' H' N => ?_⟩
  subst e
  cases g : n - j with
  | zero => exact (show n ≤ j by omega)
  | succ m =>
    refine ⟨?_, (show j < n by omega), fun x H'' y => ?_⟩
    · show Cur.rng (lo + (j : Int) + 1) m = .rng (lo + ((j + 1 : Nat) : Int)) (n - (j + 1))
      rw [show n - (j + 1) = m by omega, show lo + (j : Int) + 1 = lo + ((j + 1 : Nat) : Int) by omega]
    · obtain ⟨e, ex⟩ := y
      subst e
      subst ex
      exact ⟨Nxt.refl N.sim, .int _⟩
end
section
variable {X : Cx} {CT : Nat → Addr} {Wd : WX} {a b c e tg : Expr} {ca cb cc : Ex} {ta tb : Tx} {pos p : Pos}
theorem si_any (he : SE X CT Wd e ca) : SI X CT Wd tg e (xIt ca) := (pi_or (pi_list he) (pi_or (pi_tup he) (pi_str he))).wk fun σ H R ⟨ρ, h, es, S, E, q⟩ => by
  have q' : PostI X.K CT Wd ρ h H σ ((ca es h).bind fun w h1 => match curOf h1 w with
    | some k => .ok k h1
    | none => .bad) R := q
  cases g : ca es h with
  | bad => rw [g] at q'; exact q'.elim
  | exc x h1 =>
    rw [g] at q'
    refine .inl ⟨ρ, h, es, S, E, ?_⟩
    rw [g]
    exact q'
  | ok w h1 =>
    rw [g] at q'
    have q2 : PostI X.K CT Wd ρ h H σ (match curOf h1 w with
      | some k => .ok k h1
      | none => .bad) R := q'
    cases g2 : curOf h1 w with
    | none => rw [g2] at q2; exact q2.elim
    | some k =>
      rw [g2] at q2
      have q3 : ∀ ρ' H' J, Nxt X.K CT ρ h H ρ' h1 H' → ItS X.K CT ρ' h1 H' J k → R J H' := q2
      cases w with
      | fls xs =>
        cases g2
        refine .inl ⟨ρ, h, es, S, E, ?_⟩
        rw [g]
        intro ρ' H' v N r
        cases r with
        | fls q rs => exact ⟨_, rfl, ⟨_, q.sq⟩, q3 ρ' H' _ N (its_list N.sim q rs)⟩
      | tup xs =>
        cases g2
        refine .inr (.inl ⟨ρ, h, es, S, E, ?_⟩)
        rw [g]
        intro ρ' H' v N r
        cases r with
        | tup q rs => exact ⟨_, rfl, ⟨_, q⟩, q3 ρ' H' _ N (its_tup N.sim q rs)⟩
      | str z =>
        cases g2
        refine .inr (.inr ⟨ρ, h, es, S, E, ?_⟩)
        rw [g]
        intro ρ' H' v N r
        cases r with
        | str hz => exact ⟨_, rfl, q3 ρ' H' _ N (its_str hz)⟩
      | ref i =>
        have g3 : (match h1.get i with
          | some (.lst _) => some (Cur.live i 0)
          | _ => none) = some k := g2
        split at g3
        · rename_i xs gi
          cases g3
          refine .inl ⟨ρ, h, es, S, E, ?_⟩
          rw [g]
          intro ρ' H' v N r
          cases r with
          | ref hi =>
            obtain ⟨vs, q, rs⟩ := lst_get N.sim gi
            exact ⟨_, rfl, ⟨_, .of q⟩, q3 ρ' H' _ N (its_live hi)⟩
        · cases g3
      | non => cases g2
      | bl _ => cases g2
      | int _ => cases g2
      | ty _ => cases g2
      | cl _ => cases g2
      | exc _ _ _ => cases g2
def rng1W : List W → Hx → R Cur
  | [.int j], h => if -1000000 ≤ j ∧ j ≤ 1000000 then .ok (.rng 0 j.toNat) h else .bad
  | _, _ => .bad
def rng2W : List W → Hx → R Cur
  | [.int i, .int j], h => if -1000000 ≤ i ∧ i ≤ 1000000 ∧ -1000000 ≤ j ∧ j ≤ 1000000 then .ok (.rng i (j - i).toNat) h else .bad
  | _, _ => .bad
def xRng1 (a : Ax) : Ix := fun es h => (a es h).bind fun ws h1 => rng1W ws h1
def xRng2 (a : Ax) : Ix := fun es h => (a es h).bind fun ws h1 => rng2W ws h1
theorem si_range1 {ar : Ax} (hg : Gl X "range") (hm : X.mg "range" = none) (ha : SA X CT Wd [a] ar) (hs : starEach [a] X.env = [(false, eval a X.env)] := by rfl) : SI X CT Wd tg (.Call (.Name "range" p) [a] [] pos) (xRng1 ar) :=
  (pi_range1 hg hm ha hs).wk fun σ H R ⟨ρ, h, es, S, E, q⟩ => by
    refine ⟨ρ, h, es, S, E, ?_⟩
    have q' : PostI X.K CT Wd ρ h H σ ((ar es h).bind fun ws h1 => rng1W ws h1) R := q
    cases g : ar es h with
    | bad => rw [g] at q'; exact q'.elim
    | exc x h1 => rw [g] at q'; exact q'
    | ok ws h1 =>
      rw [g] at q'
      intro ρ' H' vs N r
      have q2 : PostI X.K CT Wd ρ h H σ (rng1W ws h1) R := q'
      cases r with
      | nil => exact (show False from q2).elim
      | cons r1 t =>
        cases t with
        | cons _ _ => cases r1 <;> exact (show False from q2).elim
        | nil =>
          cases r1 <;> try exact (show False from q2).elim
          rename_i j
          have q3 : PostI X.K CT Wd ρ h H σ (if -1000000 ≤ j ∧ j ≤ 1000000 then .ok (.rng 0 j.toNat) h1 else .bad) R := q2
          by_cases c : -1000000 ≤ j ∧ j ≤ 1000000
          · rw [if_pos c] at q3
            exact ⟨j, rfl, by omega, by omega, q3 ρ' H' _ N (its_rng 0 _)⟩
          · rw [if_neg c] at q3
            exact q3.elim
theorem si_range2 {ar : Ax} (hg : Gl X "range") (hm : X.mg "range" = none) (ha : SA X CT Wd [a, b] ar) (hs : starEach [a, b] X.env = [(false, eval a X.env), (false, eval b X.env)] := by rfl) (hs2 : starEach [b] X.env = [(false, eval b X.env)] := by rfl) :
    SI X CT Wd tg (.Call (.Name "range" p) [a, b] [] pos) (xRng2 ar) :=
  (pi_range2 hg hm ha hs hs2).wk fun σ H R ⟨ρ, h, es, S, E, q⟩ => by
    refine ⟨ρ, h, es, S, E, ?_⟩
    have q' : PostI X.K CT Wd ρ h H σ ((ar es h).bind fun ws h1 => rng2W ws h1) R := q
    cases g : ar es h with
    | bad => rw [g] at q'; exact q'.elim
    | exc x h1 => rw [g] at q'; exact q'
    | ok ws h1 =>
      rw [g] at q'
      intro ρ' H' vs N r
      have q2 : PostI X.K CT Wd ρ h H σ (rng2W ws h1) R := q'
      cases r with
      | nil => exact (show False from q2).elim
      | cons r1 t =>
        cases t with
        | nil => cases r1 <;> exact (show False from q2).elim
        | cons r2 t =>
          cases t with
          | cons _ _ => cases r1 <;> cases r2 <;> exact (show False from q2).elim
          | nil =>
            cases r1 <;> cases r2 <;> try exact (show False from q2).elim
            rename_i i j
            have q3 : PostI X.K CT Wd ρ h H σ (if -1000000 ≤ i ∧ i ≤ 1000000 ∧ -1000000 ≤ j ∧ j ≤ 1000000 then .ok (.rng i (j - i).toNat) h1 else .bad) R := q2
            by_cases c : -1000000 ≤ i ∧ i ≤ 1000000 ∧ -1000000 ≤ j ∧ j ≤ 1000000
            · rw [if_pos c] at q3
              exact ⟨i, j, rfl, by omega, q3 ρ' H' _ N (its_rng i _)⟩
            · rw [if_neg c] at q3
              exact q3.elim

/-! ### targets -/
abbrev Gx := W → Env → Hx → R Env
/-- unlike at these places alone -/
def Off (vs : List Nat) (σ σ' : St) : Prop := σ'.length = σ.length ∧ ∀ j, j ∉ vs → σ'[j]? = σ[j]?
def PostG (K : PySem.W.Frag) (CT : Nat → Addr) (Wd : WX) (ρ : Nat → Addr) (h : Hx) (H : Hp) (vs : List Nat) (σ : St) (r : R Env) (Q : St → Hp → Prop) : Prop := match r with
  | .ok es h' => ∀ ρ' H' σ', Nxt K CT ρ h H ρ' h' H' → REnv K CT ρ' h'.n H' es σ' → Off vs σ σ' → Q σ' H'
  | .exc x h' => ∀ ρ' H' od, Nxt K CT ρ h H ρ' h' H' → XcR K CT ρ' h'.n H' x od → Wd (.ref (CT x.k)) od σ H'
  | .bad => False
def tG (K : PySem.W.Frag) (CT : Nat → Addr) (Wd : WX) (vs : List Nat) (g : Gx) : TG := fun v σ H Q => ∃ ρ h es w, Sim K CT ρ h H ∧ REnv K CT ρ h.n H es σ ∧ Rep K CT ρ h.n H w v ∧ PostG K CT Wd ρ h H vs σ (g w es h) Q
abbrev SG (X : Cx) (CT : Nat → Addr) (Wd : WX) (vs : List Nat) (t : Expr) (g : Gx) : Prop := PG X t (tG X.K CT Wd vs g)
theorem _root_.L2.PG.wk {X : Cx} {tg : Expr} {t t' : TG} (h : PG X tg t) (k : ∀ v σ H Q, t' v σ H Q → t v σ H Q) : PG X tg t' := ⟨fun pins s σ H v u Q I r q => h.run pins s σ H v u Q I r (k v σ H Q q)⟩
def gxName (i : Nat) : Gx := fun w es h => .ok (es.set i (some w)) h
theorem off_set (i : Nat) (σ : St) (o : Option V) : Off [i] σ (σ.set i o) := ⟨List.length_set, fun j hj => by
  rw [List.getElem?_set_ne]
  intro e
  exact hj (by rw [e]; exact List.mem_cons_self)⟩
theorem sg_name {i : Nat} {x : Str} (q : PG X (.Name x p) (gName i)) : SG X CT Wd [i] (.Name x p) (gxName i) := q.wk fun v σ H Q ⟨ρ, h, es, w, S, E, r, q⟩ =>
  q ρ H _ (Nxt.refl S) (E.set r i) (off_set i σ _)
/-- several names -/
def setAll : List Nat → List W → Env → Env
  | i :: is, w :: ws, es => setAll is ws (es.set i (some w))
  | _, _, es => es
def gxTup (is : List Nat) : Gx := fun w es h => match w with
  | .tup ws => if ws.length = is.length then .ok (setAll is ws es) h else .bad
  | _ => .bad
def setAllV : List Nat → List V → St → St
  | i :: is, v :: vs, σ => setAllV is vs (σ.set i (some v))
  | _, _, σ => σ
theorem setAll_env {K : PySem.W.Frag} {ρ : Nat → Addr} {n : Nat} {H : Hp} : ∀ (is : List Nat) {ws : List W} {vs : List V} {es : Env} {σ : St}, Reps K CT ρ n H ws vs → REnv K CT ρ n H es σ → REnv K CT ρ n H (setAll is ws es) (setAllV is vs σ)
  | [], _, _, _, _, _, E => by cases ‹Reps _ _ _ _ _ _ _› <;> exact E
  | i :: is, _, _, _, _, .nil, E => E
  | i :: is, _, _, _, _, .cons r t, E => setAll_env is t (E.set r i)
theorem setAll_off : ∀ (is : List Nat) (vs : List V) (σ : St), Off is σ (setAllV is vs σ)
  | [], vs, σ => ⟨by cases vs <;> rfl, fun j _ => by cases vs <;> rfl⟩
  | i :: is, [], σ => ⟨rfl, fun j _ => rfl⟩
  | i :: is, v :: vs, σ => by
    obtain ⟨l, k⟩ := setAll_off is vs (σ.set i (some v))
    refine ⟨l.trans List.length_set, fun j hj => ?_⟩
    rw [List.mem_cons, not_or] at hj
    exact (k j hj.2).trans (List.getElem?_set_ne (fun e => hj.1 e.symm))
/-- names in a row as targets -/
inductive PNs (X : Cx) : List Expr → List Nat → Prop
  | nil : PNs X [] []
  | cons {x : Str} {px : Pos} {i : Nat} {ts : List Expr} {is : List Nat} : PG X (.Name x px) (gName i) → PNs X ts is → PNs X (.Name x px :: ts) (i :: is)
def gsAll : List Nat → TGs
  | [] => gNil
  | i :: is => gCons (gName i) (gsAll is)
theorem pns_gs : ∀ {ts : List Expr} {is : List Nat}, PNs X ts is → PGs X ts (gsAll is)
  | _, _, .nil => pgs_nil
  | _, _, .cons h t => pgs_cons h (pns_gs t)
theorem gsAll_of : ∀ (is : List Nat) (vs : List V) (σ : St) (H : Hp) (Q : St → Hp → Prop), vs.length = is.length → Q (setAllV is vs σ) H → gsAll is vs σ H Q
  | [], [], _, _, _, _, q => ⟨rfl, q⟩
  | i :: is, v :: vs, σ, H, Q, e, q => ⟨v, vs, rfl, gsAll_of is vs (σ.set i (some v)) H Q (Nat.succ.inj e) q⟩
theorem sg_tup {ts : List Expr} {is : List Nat} {kt : Nat} (hc : X.calm = true) (q : PNs X ts is) (hn : (assignEach ts X.env).length = is.length := by rfl) (hst : (assignEach ts X.env).findIdx? (·.1) = none := by rfl) : SG X CT Wd is (.Tuple ts kt p) (gxTup is) :=
  (pg_tup hc (pns_gs q) hn hst).wk fun v σ H Q ⟨ρ, h, es, w, S, E, r, q⟩ => by
    cases r with
    | @tup a ws vs sq rs =>
      have q' : PostG X.K CT Wd ρ h H is σ (if ws.length = is.length then .ok (setAll is ws es) h else .bad) Q := q
      by_cases c : ws.length = is.length
      · rw [if_pos c] at q'
        have e : vs.length = is.length := by rw [← rs.length]; exact c
        exact ⟨a, vs, rfl, sq, e, gsAll_of is vs σ H Q e (q' ρ H _ (Nxt.refl S) (setAll_env is rs E) (setAll_off is vs σ))⟩
      · rw [if_neg c] at q'
        exact q'.elim
    | _ => exact (show False from q).elim
end
end Sx

set_option linter.all false
set_option autoImplicit false
set_option maxRecDepth 100000
set_option maxHeartbeats 2000000
namespace Sx
open PySem L2

/-! ### list comprehensions -/
def noexc {α : Type} (r : R α) : R α := match r with
  | .exc _ _ => .bad
  | r => r
abbrev W0 : WX := fun _ _ _ _ => False
theorem Post.nox {α β : Type} {K : PySem.W.Frag} {CT : Nat → Addr} {RR : (Nat → Addr) → Nat → Hp → α → β → Prop} {Wd Wd' : WX} {ρ : Nat → Addr} {h : Hx} {H : Hp} {σ σ' : St} {r : R α} {Q : β → Hp → Prop} (p : Post K CT RR Wd ρ h H σ (noexc r) Q) : Post K CT RR Wd' ρ h H σ' r Q := by
  cases r with
  | ok w h1 => exact p
  | exc x h1 => exact p.elim
  | bad => exact p.elim
theorem PostG.nox {K : PySem.W.Frag} {CT : Nat → Addr} {Wd Wd' : WX} {ρ : Nat → Addr} {h : Hx} {H : Hp} {vs : List Nat} {σ : St} {r : R Env} {Q : St → Hp → Prop} (p : PostG K CT Wd ρ h H vs σ (noexc r) Q) : PostG K CT Wd' ρ h H vs σ r Q := by
  cases r with
  | ok w h1 => exact p
  | exc x h1 => exact p.elim
  | bad => exact p.elim
def wipeE (es : Env) : List Nat → Env
  | [] => es
  | v :: vs => (wipeE es vs).set v none
theorem wipe_env {K : PySem.W.Frag} {CT ρ : Nat → Addr} {n : Nat} {H : Hp} {es : Env} {σ : St} (E : REnv K CT ρ n H es σ) : ∀ vs : List Nat, REnv K CT ρ n H (wipeE es vs) (wipe σ vs)
  | [] => E
  | v :: vs => by
    have E1 := wipe_env E vs
    refine ⟨by unfold wipeE wipe; rw [List.length_set, List.length_set]; exact E1.len, fun i w e => ?_⟩
    unfold wipeE at e
    unfold wipe
    rw [List.getElem?_set] at e ⊢
    by_cases iv : v = i
    · subst iv
      rw [if_pos rfl] at e
      split at e <;> cases e
    · rw [if_neg iv] at e ⊢
      exact E1.at_ i w e
theorem wipe_at (σ : St) : ∀ (vs : List Nat) (j : Nat), (wipe σ vs)[j]? = if j ∈ vs then (if j < σ.length then some none else none) else σ[j]?
  | [], j => by simp [wipe]
  | v :: vs, j => by
    unfold wipe
    rw [List.getElem?_set, wipe_at σ vs j, wipe_length]
    by_cases iv : v = j
    · subst iv
      rw [if_pos rfl, if_pos List.mem_cons_self]
    · rw [if_neg iv]
      by_cases hj : j ∈ vs
      · rw [if_pos hj, if_pos (List.mem_cons_of_mem _ hj)]
      · rw [if_neg hj, if_neg (by rw [List.mem_cons, not_or]; exact ⟨fun e => iv e.symm, hj⟩)]
theorem wipe_off {vs us : List Nat} {σ σ' : St} (sub : ∀ i ∈ us, i ∈ vs) (o : Off us (wipe σ vs) σ') : wipe σ' vs = wipe σ vs := by
  obtain ⟨l, k⟩ := o
  rw [wipe_length] at l
  refine List.ext_getElem? fun j => ?_
  rw [wipe_at, wipe_at, l]
  by_cases hj : j ∈ vs
  · rw [if_pos hj, if_pos hj]
  · rw [if_neg hj, if_neg hj, k j fun z => hj (sub j z), wipe_at, if_neg hj]
/-- the loop of a comprehension -/
def lcLoop (g : Gx) (t : Tx) (e : Ex) (es : Env) : Nat → Cur → List W → Hx → R W
  | 0, _, _, _ => .bad
  | m + 1, c, acc, h => match c.step h with
    | none => .bad
    | some none => if acc.length ≤ lim then .ok (.ref h.n) (h.new (.lst acc.reverse)) else .bad
    | some (some (w, c')) => (noexc (g w es h)).bind fun es2 h2 => (noexc (t es2 h2)).bind fun k h3 =>
      if k then (noexc (e es2 h3)).bind fun y h4 => if acc.length ≤ lim then lcLoop g t e es m c' (y :: acc) h4 else .bad else lcLoop g t e es m c' acc h3
def xLc (it : Ix) (g : Gx) (t : Tx) (e : Ex) (vs : List Nat) : Ex := fun es h => (it es h).bind fun c h1 => lcLoop g t e (wipeE es vs) (c.fuel h1 + 1) c [] h1
def xYesT : Tx := fun _ h => .ok true h
/-- D, a list that a comprehension fills, becomes ours -/
theorem Nxt.adopt {K : PySem.W.Frag} {CT ρ1 ρ : Nat → Addr} {h1 h : Hx} {H1 H : Hp} {D : Addr} {ws : List W} {vs : List V} (N : Nxt K CT ρ1 h1 H1 ρ h H) (h0 : H1 D = none) (e : H D = some (.lst vs)) (nD : ∀ k, k < h.n → ρ k ≠ D) (rs : Reps K CT ρ h.n H ws vs) :
    Nxt K CT ρ1 h1 H1 (ρnew ρ h.n D) (h.new (.lst ws)) H := by
  have at_n : ρnew ρ h.n D h.n = D := if_pos rfl
  have at_i : ∀ i, i < h.n → ρnew ρ h.n D i = ρ i := fun i hi => if_neg (Nat.ne_of_lt hi)
  have kp : Kp K ρ h.n H (ρnew ρ h.n D) (h.n + 1) H := ⟨fun _ _ q => q, fun _ _ q => q, at_i, Nat.le_succ _, fun _ _ q => q, fun _ _ q => q⟩
  have S := N.sim
  refine ⟨⟨Nat.le_succ_of_le N.le, fun i hi => (at_i i (Nat.lt_of_lt_of_le hi N.le)).trans (N.ext i hi), N.frm, fun i a b => ?_⟩, ?_, ?_, ?_, ?_⟩
  · have b' : i < h.n + 1 := b
    by_cases ei : i = h.n
    · rw [ei, at_n]
      exact h0
    · rw [at_i i (by omega)]
      exact N.new i a (by omega)
  · intro i j hi hj q
    have hi' : i < h.n + 1 := hi
    have hj' : j < h.n + 1 := hj
    by_cases ei : i = h.n
    · by_cases ej : j = h.n
      · omega
      · rw [ei, at_n, at_i j (by omega)] at q
        exact absurd q.symm (nD j (by omega))
    · by_cases ej : j = h.n
      · rw [ej, at_n, at_i i (by omega)] at q
        exact absurd q (nD i (by omega))
      · rw [at_i i (by omega), at_i j (by omega)] at q
        exact S.inj i j (by omega) (by omega) q
  · intro i hi
    have hi' : i < h.n + 1 := hi
    rw [Hx.get_new]
    by_cases ei : i = h.n
    · exact ⟨_, if_pos ei⟩
    · rw [if_neg ei]
      exact S.dom i (by omega)
  · intro i u q
    rw [Hx.get_new] at q
    show i < h.n + 1
    by_cases ei : i = h.n
    · omega
    · rw [if_neg ei] at q
      exact Nat.lt_succ_of_lt (S.lt i u q)
  · intro i u q
    rw [Hx.get_new] at q
    by_cases ei : i = h.n
    · rw [if_pos ei] at q
      cases q
      rw [ei, at_n]
      exact ⟨vs, e, Reps.kp kp _ _ rs⟩
    · rw [if_neg ei] at q
      rw [at_i i (S.lt i u q)]
      exact (S.ob i u q).kp kp rfl
/-- D grows -/
theorem Nxt.grown {K : PySem.W.Frag} {CT ρ1 ρ : Nat → Addr} {h1 h : Hx} {H1 H : Hp} {D : Addr} {vs : List V} {u : HO} (N : Nxt K CT ρ1 h1 H1 ρ h H) (h0 : H1 D = none) (e : H D = some (.lst vs)) (nD : ∀ k, k < h.n → ρ k ≠ D) : Nxt K CT ρ1 h1 H1 ρ h (upd H D u) := by
  have kp : Kp K ρ h.n H ρ h.n (upd H D u) := Kp.upd e (fun _ z => nomatch z) (fun _ _ z => nomatch z) (fun _ z => nomatch z) (fun _ z => nomatch z)
  refine ⟨⟨N.le, N.ext, fun a o q z => ?_, N.new⟩, N.sim.inj, N.sim.dom, N.sim.lt, fun i o q => (N.sim.ob i o q).kp kp ?_⟩
  · rw [upd_ne (ne_of_none q h0)]
    exact N.frm a o q z
  · rw [upd_ne (nD i (N.sim.lt i o q))]
theorem Nxt.off {K : PySem.W.Frag} {CT ρ ρ' : Nat → Addr} {h h' : Hx} {H H' : Hp} {D : Addr} {u : HO} (N : Nxt K CT ρ h H ρ' h' H') (e : H D = some u) (nD : ∀ k, k < h.n → ρ k ≠ D) : H' D = some u ∧ ∀ k, k < h'.n → ρ' k ≠ D := by
  refine ⟨N.frm D u e nD, fun k hk q => ?_⟩
  by_cases hl : k < h.n
  · rw [N.ext k hl] at q
    exact nD k hl q
  · have := N.new k (Nat.le_of_not_lt hl) hk
    rw [q, e] at this
    cases this
section
variable {K : PySem.W.Frag} {CT ρ1 : Nat → Addr} {Wd : WX} {h1 : Hx} {H1 : Hp} {σ : St}
/-- the reading of a comprehension's walk, by the plain loop -/
theorem lc_walk {J : It} {c0 : Cur} {g : Gx} {t : Tx} {e : Ex} {es : Env} {vs us : List Nat} {Q : VK} {m0 : Nat} (sub : ∀ i ∈ us, i ∈ vs) (S1 : Sim K CT ρ1 h1 H1) (E1 : REnv K CT ρ1 h1.n H1 es (wipe σ vs)) (I : ItS K CT ρ1 h1 H1 J c0)
    (p : Post K CT (RW K CT) Wd ρ1 h1 H1 σ (lcLoop g t e es m0 c0 [] h1) Q) {D : Addr} (hD : H1 D = none) :
    ∃ W : Nat → Nat → Hp → Prop, (∃ m, W 0 m (upd H1 D (.lst []))) ∧ ∀ i m H, W i m H →
      (J.stop i H ∧ Q (.ref D) H) ∨ (J.go i H ∧ ∃ Nx : Hp → Prop, (∀ H', Nx H' → ∃ m', m' < m ∧ W (i + 1) m' H') ∧ ∀ x H', J.yld i H x H' → tG K CT W0 us g x (wipe σ vs) H' fun σ2 H2 => wipe σ2 vs = wipe σ vs ∧ tT K CT W0 t σ2 H2 fun b H3 =>
        if b = true then tE K CT W0 e σ2 H3 fun y H4 => ∃ acc, H4 D = some (.lst acc) ∧ acc.length < sizeLine ∧ Nx (upd H4 D (.lst (acc ++ [y]))) else Nx H3) := by
  obtain ⟨P, P0, PS⟩ := I
  refine ⟨fun i m H => ∃ ρ h c acc va, P i c ∧ Nxt K CT ρ1 h1 H1 ρ h H ∧ H D = some (.lst va) ∧ (∀ k, k < h.n → ρ k ≠ D) ∧ Reps K CT ρ h.n H acc.reverse va ∧ Post K CT (RW K CT) Wd ρ1 h1 H1 σ (lcLoop g t e es m c acc h) Q, ⟨m0, ρ1, h1, c0, [], [], P0, Nxt.aside S1 hD, upd_same, ?_, .nil, p⟩, ?_⟩
  · intro k hk q
    obtain ⟨u, eu, _⟩ := S1.some hk
    rw [q, hD] at eu
    cases eu
  · rintro i m H ⟨ρ, h, c, acc, va, Pc, N, eD, nD, rs, p⟩
    cases m with
    | zero => exact p.elim
    | succ m =>
      have st := PS i c Pc ρ h H N
      have p' : Post K CT (RW K CT) Wd ρ1 h1 H1 σ (match c.step h with
        | none => .bad
        | some none => if acc.length ≤ lim then .ok (.ref h.n) (h.new (.lst acc.reverse)) else .bad
        | some (some (w, c')) => (noexc (g w es h)).bind fun es2 h2 => (noexc (t es2 h2)).bind fun k h3 =>
          if k then (noexc (e es2 h3)).bind fun y h4 => if acc.length ≤ lim then lcLoop g t e es m c' (y :: acc) h4 else .bad else lcLoop g t e es m c' acc h3) Q := p
      cases gs : c.step h with
      | none => rw [gs] at p'; exact p'.elim
      | some o =>
        rw [gs] at p' st
        cases o with
        | none =>
          refine .inl ⟨st, ?_⟩
          obtain ⟨cl, p2⟩ := post_if (show Post K CT (RW K CT) Wd ρ1 h1 H1 σ (if acc.length ≤ lim then .ok (.ref h.n) (h.new (.lst acc.reverse)) else .bad) Q from p')
          have q : Rep K CT (ρnew ρ h.n D) (h.n + 1) H (.ref h.n) (.ref (ρnew ρ h.n D h.n)) := .ref (Nat.lt_succ_self _)
          have e : ρnew ρ h.n D h.n = D := if_pos rfl
          rw [e] at q
          exact p2 _ _ _ (N.adopt hD eD nD rs) q
        | some wc =>
          obtain ⟨w, c'⟩ := wc
          obtain ⟨P1, go, yl⟩ := st
          refine .inr ⟨go, fun H' => ∃ ρ h c acc va, P (i + 1) c ∧ Nxt K CT ρ1 h1 H1 ρ h H' ∧ H' D = some (.lst va) ∧ (∀ k, k < h.n → ρ k ≠ D) ∧ Reps K CT ρ h.n H' acc.reverse va ∧ Post K CT (RW K CT) Wd ρ1 h1 H1 σ (lcLoop g t e es m c acc h) Q, fun H' q => ⟨m, Nat.lt_succ_self m, q⟩, fun x Hy hy => ?_⟩
          obtain ⟨Ny, rw_⟩ := yl x Hy hy
          obtain ⟨eDy, nDy⟩ := Ny.off eD nD
          have Nb := N.trans S1 Ny
          have p2 : Post K CT (RW K CT) Wd ρ1 h1 H1 σ ((noexc (g w es h)).bind fun es2 h2 => (noexc (t es2 h2)).bind fun k h3 =>
            if k then (noexc (e es2 h3)).bind fun y h4 => if acc.length ≤ lim then lcLoop g t e es m c' (y :: acc) h4 else .bad else lcLoop g t e es m c' acc h3) Q := p'
          refine ⟨ρ, h, es, w, Nb.sim, E1.keep S1 Nb.toFw, rw_, ?_⟩
          cases gg : g w es h with
          | bad => rw [gg] at p2; exact p2.elim
          | exc x h2 => rw [gg] at p2; exact p2.elim
          | ok es2 h2 =>
            rw [gg] at p2
            intro ρ2 H2 σ2 N2 E2 of2
            obtain ⟨eD2, nD2⟩ := N2.off eDy nDy
            have Nb2 := Nb.trans S1 N2
            refine ⟨wipe_off sub of2, ρ2, h2, es2, N2.sim, E2, ?_⟩
            have p3 : Post K CT (RW K CT) Wd ρ1 h1 H1 σ ((noexc (t es2 h2)).bind fun k h3 =>
              if k then (noexc (e es2 h3)).bind fun y h4 => if acc.length ≤ lim then lcLoop g t e es m c' (y :: acc) h4 else .bad else lcLoop g t e es m c' acc h3) Q := p2
            cases gt : t es2 h2 with
            | bad => rw [gt] at p3; exact p3.elim
            | exc x h3 => rw [gt] at p3; exact p3.elim
            | ok k h3 =>
              rw [gt] at p3
              intro ρ3 H3 k' N3 ek
              obtain rfl : k = k' := ek
              obtain ⟨eD3, nD3⟩ := N3.off eD2 nD2
              have Nb3 := Nb2.trans S1 N3
              have rs3 : Reps K CT ρ3 h3.n H3 acc.reverse va := Reps.keep N2.sim N3.toFw _ _ (Reps.keep Nb.sim N2.toFw _ _ (Reps.keep N.sim Ny.toFw _ _ rs))
              have E3 : REnv K CT ρ3 h3.n H3 es2 σ2 := E2.keep N2.sim N3.toFw
              cases k with
              | false =>
                rw [if_neg Bool.false_ne_true]
                exact ⟨ρ3, h3, c', acc, va, P1, Nb3, eD3, nD3, rs3, p3⟩
              | true =>
                rw [if_pos rfl]
                refine ⟨ρ3, h3, es2, N3.sim, E3, ?_⟩
                have p4 : Post K CT (RW K CT) Wd ρ1 h1 H1 σ ((noexc (e es2 h3)).bind fun y h4 => if acc.length ≤ lim then lcLoop g t e es m c' (y :: acc) h4 else .bad) Q := p3
                cases ge : e es2 h3 with
                | bad => rw [ge] at p4; exact p4.elim
                | exc x h4 => rw [ge] at p4; exact p4.elim
                | ok y h4 =>
                  rw [ge] at p4
                  intro ρ4 H4 vy N4 ry
                  obtain ⟨eD4, nD4⟩ := N4.off eD3 nD3
                  have Nb4 := Nb3.trans S1 N4
                  have rs4 : Reps K CT ρ4 h4.n H4 acc.reverse va := Reps.keep N3.sim N4.toFw _ _ rs3
                  obtain ⟨cl, p5⟩ := post_if (show Post K CT (RW K CT) Wd ρ1 h1 H1 σ (if acc.length ≤ lim then lcLoop g t e es m c' (y :: acc) h4 else .bad) Q from p4)
                  have kp : Kp K ρ4 h4.n H4 ρ4 h4.n (upd H4 D (.lst (va ++ [vy]))) := Kp.upd eD4 (fun _ z => nomatch z) (fun _ _ z => nomatch z) (fun _ z => nomatch z) (fun _ z => nomatch z)
                  refine ⟨va, eD4, ?_, ρ4, h4, c', y :: acc, va ++ [vy], P1, Nb4.grown hD eD4 nD4, upd_same, nD4, ?_, p5⟩
                  · rw [← rs4.length, List.length_reverse]
                    exact Nat.lt_of_le_of_lt cl (by decide)
                  · rw [List.reverse_cons]
                    exact (Reps.kp kp _ _ rs4).append (.cons (Rep.kp kp _ _ ry) .nil)
end
section
variable {X : Cx} {CT : Nat → Addr} {Wd : WX} {elt tg iter : Expr} {ifs : List Expr} {scope : Scope} {own : List (Str × Nat)} {pos : Pos} {it : Ix} {g : Gx} {t : Tx} {ce : Ex} {us : List Nat}
theorem lc_read (sub : ∀ i ∈ us, i ∈ own.map (·.2)) {σ : St} {H : Hp} {Q : VK} (q : tE X.K CT Wd (xLc it g t ce (own.map (·.2))) σ H Q) : tLc (tI X.K CT Wd it) (tG X.K CT W0 us g) (tT X.K CT W0 t) (tE X.K CT W0 ce) (own.map (·.2)) σ H Q := by
  obtain ⟨ρ, h, es, S, E, p⟩ := q
  refine ⟨ρ, h, es, S, E, ?_⟩
  have p' : Post X.K CT (RW X.K CT) Wd ρ h H σ ((it es h).bind fun c h1 => lcLoop g t ce (wipeE es (own.map (·.2))) (c.fuel h1 + 1) c [] h1) Q := p
  cases gi : it es h with
  | bad => rw [gi] at p'; exact p'.elim
  | exc x h1 => rw [gi] at p'; exact p'
  | ok c h1 =>
    rw [gi] at p'
    intro ρ1 H1 J N I D hD
    exact lc_walk sub N.sim (wipe_env (E.keep S N.toFw) _) I (Post.step S N p') hD
abbrev PTs0 (X : Cx) (CT : Nat → Addr) (ifs : List Expr) (t : Tx) : Prop := PTs X ifs (tT X.K CT W0 t)
theorem _root_.L2.PTs.wk {X : Cx} {ifs : List Expr} {t t' : TT} (h : PTs X ifs t) (k : ∀ σ H Q, t' σ H Q → t σ H Q) : PTs X ifs t' := ⟨fun pins s σ H Q I q => h.run pins s σ H Q I (k σ H Q q)⟩
theorem sts_nil : PTs0 X CT [] xYesT := pts_nil.wk fun σ H Q ⟨ρ, h, es, S, E, p⟩ => Post.here S p rfl
theorem sts_one {c : Expr} (hc : ST X CT W0 c t) : PTs0 X CT [c] t := pts_one hc
theorem se_lc (hc : X.calm = true) (hN : X.N.Nodup) (hi : SI X CT Wd tg iter it) (ok : BlkOk X.N X.env.scope scope own)
    (hg : ∀ (s : Shared) (H : Hp) (C : Addr) (cl : List (Str × Addr)) (fp : List Addr), SG (X.blk s H scope (compEnvC scope cl C X.env) fp) CT W0 us tg g)
    (ht : ∀ (s : Shared) (H : Hp) (C : Addr) (cl : List (Str × Addr)) (fp : List Addr), PTs0 (X.blk s H scope (compEnvC scope cl C X.env) fp) CT ifs t)
    (he : ∀ (s : Shared) (H : Hp) (C : Addr) (cl : List (Str × Addr)) (fp : List Addr), SE (X.blk s H scope (compEnvC scope cl C X.env) fp) CT W0 elt ce)
    (sub : ∀ i ∈ us, i ∈ own.map (·.2) := by decide) (hs : ∀ x, foldedSetIterable iter X.env x = pure x := by intro _; rfl) : SE X CT Wd (.ListComp elt [⟨tg, iter, ifs, 0⟩] scope pos) (xLc it g t ce (own.map (·.2))) :=
  (pe_lc (own := own) hc hN hi ok hg ht he hs).wk fun _ _ _ q => lc_read sub q
end
end Sx

set_option linter.all false
set_option autoImplicit false
set_option maxRecDepth 100000
set_option maxHeartbeats 2000000
namespace Sx
open PySem L2

/-! ### statements -/
def PostS (K : PySem.W.Frag) (CT : Nat → Addr) (Wd : WX) (ρ : Nat → Addr) (h : Hx) (H : Hp) (r : RS) (D : Ends) : Prop := match r with
  | .fl (.nx es) h' => ∀ ρ' H' σ', Nxt K CT ρ h H ρ' h' H' → REnv K CT ρ' h'.n H' es σ' → D.nx σ' H'
  | .fl (.rt w) h' => ∀ ρ' H' v, Nxt K CT ρ h H ρ' h' H' → Rep K CT ρ' h'.n H' w v → D.rt v H'
  | .fl (.bk es) h' => ∀ ρ' H' σ', Nxt K CT ρ h H ρ' h' H' → REnv K CT ρ' h'.n H' es σ' → D.bk σ' H'
  | .fl (.ct es) h' => ∀ ρ' H' σ', Nxt K CT ρ h H ρ' h' H' → REnv K CT ρ' h'.n H' es σ' → D.ct σ' H'
  | .exc x es h' => ∀ ρ' H' σ' od, Nxt K CT ρ h H ρ' h' H' → REnv K CT ρ' h'.n H' es σ' → XcR K CT ρ' h'.n H' x od → Wd (.ref (CT x.k)) od σ' H'
  | .bad => False
def tSt (K : PySem.W.Frag) (CT : Nat → Addr) (Wd : WX) (c : Sx) : TS := fun D σ H => ∃ ρ h es, Sim K CT ρ h H ∧ REnv K CT ρ h.n H es σ ∧ PostS K CT Wd ρ h H (c es h) D
abbrev SS (X : Cx) (CT : Nat → Addr) (Wd : WX) (s : Stmt) (c : Sx) : Prop := PS X s (tSt X.K CT Wd c)
abbrev SSs (X : Cx) (CT : Nat → Addr) (Wd : WX) (s : List Stmt) (c : Sx) : Prop := PSs X s (tSt X.K CT Wd c)
theorem _root_.L2.PS.wk {X : Cx} {s : Stmt} {t t' : TS} (h : PS X s t) (k : ∀ D σ H, t' D σ H → t D σ H) : PS X s t' := ⟨fun pins s σ H D I q => h.run pins s σ H D I (k D σ H q)⟩
theorem _root_.L2.PSs.wk {X : Cx} {s : List Stmt} {t t' : TS} (h : PSs X s t) (k : ∀ D σ H, t' D σ H → t D σ H) : PSs X s t' := ⟨fun pins s σ H D I q => h.run pins s σ H D I (k D σ H q)⟩
section
variable {K : PySem.W.Frag} {CT : Nat → Addr} {Wd : WX} {ρ ρ' : Nat → Addr} {h h' : Hx} {H H' : Hp} {σ : St} {es : Env}
theorem PostS.step {r : RS} {D : Ends} (S : Sim K CT ρ h H) (N : Nxt K CT ρ h H ρ' h' H') (p : PostS K CT Wd ρ h H r D) : PostS K CT Wd ρ' h' H' r D := by
  cases r with
  | fl f h2 =>
    cases f with
    | nx es => exact fun ρ2 H2 σ2 N2 q => p ρ2 H2 σ2 (N.trans S N2) q
    | rt w => exact fun ρ2 H2 v N2 q => p ρ2 H2 v (N.trans S N2) q
    | bk es => exact fun ρ2 H2 σ2 N2 q => p ρ2 H2 σ2 (N.trans S N2) q
    | ct es => exact fun ρ2 H2 σ2 N2 q => p ρ2 H2 σ2 (N.trans S N2) q
  | exc x es h2 => exact fun ρ2 H2 σ2 od N2 q1 q2 => p ρ2 H2 σ2 od (N.trans S N2) q1 q2
  | bad => exact p
/-- a value ahead of what follows -/
theorem PostS.bind {α β : Type} {RR : (Nat → Addr) → Nat → Hp → α → β → Prop} {r : R α} {f : α → Hx → RS} {D : Ends} {Q' : β → Hp → Prop} (S : Sim K CT ρ h H) (E : REnv K CT ρ h.n H es σ)
    (p : PostS K CT Wd ρ h H (r.bindS es f) D)
    (k : ∀ w h1 ρ1 H1 v, Nxt K CT ρ h H ρ1 h1 H1 → RR ρ1 h1.n H1 w v → PostS K CT Wd ρ1 h1 H1 (f w h1) D → Q' v H1) : Post K CT RR Wd ρ h H σ r Q' := by
  cases r with
  | ok w h1 => exact fun ρ1 H1 v N q => k w h1 ρ1 H1 v N q (PostS.step S N p)
  | exc x h1 => exact fun ρ1 H1 od N q => p ρ1 H1 σ od N (E.keep S N.toFw) q
  | bad => exact p
theorem PostS.nx (S : Sim K CT ρ h H) {D : Ends} (p : PostS K CT Wd ρ h H (.fl (.nx es) h) D) (E : REnv K CT ρ h.n H es σ) : D.nx σ H := p ρ H σ (Nxt.refl S) E
end
def cNil : Sx := fun es h => .fl (.nx es) h
def cSeq (a b : Sx) : Sx := fun es h => match a es h with
  | .fl (.nx es1) h1 => b es1 h1
  | r => r
def cExpr (c : Ex) : Sx := fun es h => (c es h).bindS es fun _ h1 => .fl (.nx es) h1
def cRet (c : Ex) : Sx := fun es h => (c es h).bindS es fun w h1 => .fl (.rt w) h1
def cRetN : Sx := fun _ h => .fl (.rt .non) h
def cBrk : Sx := fun es h => .fl (.bk es) h
def cCont : Sx := fun es h => .fl (.ct es) h
def cIf (t : Tx) (a b : Sx) : Sx := fun es h => (t es h).bindS es fun k h1 => if k then a es h1 else b es h1
def cAsg (c : Ex) (g : Gx) : Sx := fun es h => (c es h).bindS es fun w h1 => (g w es h1).bindS es fun es2 h2 => .fl (.nx es2) h2
def cPar (is : List Nat) (a : Ax) : Sx := fun es h => (a es h).bindS es fun ws h1 => if ws.length = is.length then .fl (.nx (setAll is ws es)) h1 else .bad
def forLoop (g : Gx) (b : Sx) : Nat → Cur → Env → Hx → RS
  | 0, _, _, _ => .bad
  | m + 1, c, es, h => match c.step h with
    | none => .bad
    | some none => .fl (.nx es) h
    | some (some (w, c')) => (g w es h).bindS es fun es2 h2 => match b es2 h2 with
      | .fl (.nx es3) h3 => forLoop g b m c' es3 h3
      | .fl (.ct es3) h3 => forLoop g b m c' es3 h3
      | .fl (.bk es3) h3 => .fl (.nx es3) h3
      | r => r
def cFor (it : Ix) (g : Gx) (b : Sx) : Sx := fun es h => (it es h).bindS es fun c h1 => forLoop g b (c.fuel h1 + 1) c es h1
def whileLoop (t : Tx) (b : Sx) : Nat → Env → Hx → RS
  | 0, _, _ => .bad
  | m + 1, es, h => (t es h).bindS es fun k h1 => if k then match b es h1 with
      | .fl (.nx es3) h3 => whileLoop t b m es3 h3
      | .fl (.ct es3) h3 => whileLoop t b m es3 h3
      | .fl (.bk es3) h3 => .fl (.nx es3) h3
      | r => r
    else .fl (.nx es) h1
def cWhile (m : Nat) (t : Tx) (b : Sx) : Sx := fun es h => whileLoop t b m es h
section
variable {X : Cx} {CT : Nat → Addr} {Wd : WX} {a b c e tg : Expr} {ca cb cc : Ex} {ta tb : Tx} {pos p : Pos} {s : Stmt} {rest body orelse : List Stmt} {c1 c2 : Sx}
theorem ss_nil : SSs X CT Wd [] cNil := pss_nil.wk fun D σ H ⟨ρ, h, es, S, E, p⟩ => PostS.nx S p E
theorem ss_cons (h1 : SS X CT Wd s c1) (h2 : SSs X CT Wd rest c2) : SSs X CT Wd (s :: rest) (cSeq c1 c2) := (pss_cons h1 h2).wk fun D σ H ⟨ρ, h, es, S, E, p⟩ => by
  refine ⟨ρ, h, es, S, E, ?_⟩
  have p' : PostS X.K CT Wd ρ h H (match c1 es h with
    | .fl (.nx es1) h1 => c2 es1 h1
    | r => r) D := p
  cases g : c1 es h with
  | bad => rw [g] at p'; exact p'
  | exc x es1 h1 => rw [g] at p'; exact p'
  | fl f h1 =>
    rw [g] at p'
    cases f with
    | nx es1 => exact fun ρ1 H1 σ1 N E1 => ⟨ρ1, h1, es1, N.sim, E1, PostS.step S N p'⟩
    | rt w => exact p'
    | bk es1 => exact p'
    | ct es1 => exact p'
theorem ss_one (h1 : SS X CT Wd s c1) : SSs X CT Wd [s] c1 := pss_one h1
theorem s_pass : SS X CT Wd (.Pass pos) cNil := ps_pass.wk fun D σ H ⟨ρ, h, es, S, E, p⟩ => PostS.nx S p E
theorem s_doc {x j pos'} : SS X CT Wd (.Expr (.Constant (.str x) j pos) pos') cNil := ps_doc.wk fun D σ H ⟨ρ, h, es, S, E, p⟩ => PostS.nx S p E
theorem s_expr (he : SE X CT Wd e ca) (hs : swapsWith e none pos.line X.env = pure false := by rfl) : SS X CT Wd (.Expr e pos) (cExpr ca) := (ps_expr he hs).wk fun D σ H ⟨ρ, h, es, S, E, p⟩ =>
  ⟨ρ, h, es, S, E, PostS.bind (RR := RW X.K CT) S E p fun w h1 ρ1 H1 v N r p1 => PostS.nx N.sim p1 (E.keep S N.toFw)⟩
theorem s_ret (he : SE X CT Wd e ca) : SS X CT Wd (.Return (some e) pos) (cRet ca) := (ps_ret he).wk fun D σ H ⟨ρ, h, es, S, E, p⟩ =>
  ⟨ρ, h, es, S, E, PostS.bind (RR := RW X.K CT) S E p fun w h1 ρ1 H1 v N r p1 => p1 ρ1 H1 v (Nxt.refl N.sim) r⟩
theorem s_retN : SS X CT Wd (.Return none pos) cRetN := ps_retN.wk fun D σ H ⟨ρ, h, es, S, E, p⟩ => p ρ H .non (Nxt.refl S) .non
theorem s_brk : SS X CT Wd (.Break pos) cBrk := ps_break.wk fun D σ H ⟨ρ, h, es, S, E, p⟩ => p ρ H σ (Nxt.refl S) E
theorem s_cont : SS X CT Wd (.Continue pos) cCont := ps_continue.wk fun D σ H ⟨ρ, h, es, S, E, p⟩ => p ρ H σ (Nxt.refl S) E
theorem s_if (ht : ST X CT Wd c ta) (h1 : SSs X CT Wd body c1) (h2 : SSs X CT Wd orelse c2) : SS X CT Wd (.If c body orelse pos) (cIf ta c1 c2) := (ps_if ht h1 h2).wk fun D σ H ⟨ρ, h, es, S, E, p⟩ => by
  refine ⟨ρ, h, es, S, E, PostS.bind (RR := RB) S E p fun k h1 ρ1 H1 k' N r p1 => ?_⟩
  obtain rfl : k = k' := r
  cases k with
  | true => exact ⟨ρ1, h1, es, N.sim, E.keep S N.toFw, p1⟩
  | false => exact ⟨ρ1, h1, es, N.sim, E.keep S N.toFw, p1⟩
theorem tAsg_of {te : TE} {tg : TG} {g : Gx} {vs : List Nat} (k : ∀ σ H Q, tE X.K CT Wd ca σ H Q → te σ H Q) (kg : ∀ v σ H Q, tG X.K CT Wd vs g v σ H Q → tg v σ H Q) {D : Ends} {σ : St} {H : Hp} (q : tSt X.K CT Wd (cAsg ca g) D σ H) : tAsg te tg D σ H := by
  obtain ⟨ρ, h, es, S, E, p⟩ := q
  refine k _ _ _ ⟨ρ, h, es, S, E, PostS.bind (RR := RW X.K CT) S E p fun w h1 ρ1 H1 v N r p1 => ?_⟩
  refine kg _ _ _ _ ⟨ρ1, h1, es, w, N.sim, E.keep S N.toFw, r, ?_⟩
  cases gg : g w es h1 with
  | bad => rw [gg] at p1; exact p1.elim
  | exc x h2 =>
    rw [gg] at p1
    exact fun ρ2 H2 od N2 q => p1 ρ2 H2 σ od N2 ((E.keep S N.toFw).keep N.sim N2.toFw) q
  | ok es2 h2 =>
    rw [gg] at p1
    exact fun ρ2 H2 σ2 N2 E2 _ => p1 ρ2 H2 σ2 N2 E2
theorem s_set {i : Nat} {x : Str} {pos' : Pos} (hN : X.N.Nodup) (hi : X.N[i]? = some x) (hx : Loc X.env.scope x) (he : SE X CT Wd e ca) (hs : swapsWith e (some (.Name x pos')) pos.line X.env = pure false := by rfl)
    (hf : X.fn x = true ∨ X.env.scope.names.lookup x = some .local := by first | exact .inl rfl | exact .inr rfl | assumption) : SS X CT Wd (.Assign [.Name x pos'] e pos) (cAsg ca (gxName i)) :=
  (ps_set hN hi hx he hs hf).wk fun D σ H q => tAsg_of (vs := [i]) (fun _ _ _ z => z) (fun v σ H Q ⟨ρ, h, es, w, S, E, r, q⟩ => q ρ H _ (Nxt.refl S) (E.set r i) (off_set i σ _)) q
theorem s_asg {g : Gx} {vs : List Nat} {t : Expr} (he : SE X CT Wd e ca) (hg : SG X CT Wd vs t g) (k : ∀ {te : TE} {tg : TG}, PE X e te → PG X t tg → PS X (.Assign [t] e pos) (tAsg te tg)) : SS X CT Wd (.Assign [t] e pos) (cAsg ca g) :=
  (k he hg).wk fun D σ H q => tAsg_of (vs := vs) (fun _ _ _ z => z) (fun _ _ _ _ z => z) q
theorem s_setLc {i : Nat} {y : Str} {py : Pos} {elt iter : Expr} {ifs : List Expr} {scope : Scope} {own : List (Str × Nat)} {spos : Pos} {it : Ix} {g : Gx} {t : Tx} {ce : Ex} {us : List Nat} (hc : X.calm = true) (hN : X.N.Nodup) (hy : X.N[i]? = some y) (hyl : X.env.scope.names.lookup y = some .local)
    (hsw : swapsWith (.ListComp elt [⟨tg, iter, ifs, 0⟩] scope pos) (some (.Name y py)) spos.line X.env = pure true) (hi : SI X CT Wd tg iter it) (ok : BlkOk X.N X.env.scope scope own)
    (hg : ∀ (s : Shared) (H : Hp) (C : Addr) (cl : List (Str × Addr)) (fp : List Addr), SG (X.blk s H scope (compEnvC scope cl C X.env) fp) CT W0 us tg g)
    (ht : ∀ (s : Shared) (H : Hp) (C : Addr) (cl : List (Str × Addr)) (fp : List Addr), PTs0 (X.blk s H scope (compEnvC scope cl C X.env) fp) CT ifs t)
    (he : ∀ (s : Shared) (H : Hp) (C : Addr) (cl : List (Str × Addr)) (fp : List Addr), SE (X.blk s H scope (compEnvC scope cl C X.env) fp) CT W0 elt ce)
    (sub : ∀ i ∈ us, i ∈ own.map (·.2) := by decide) (hs : ∀ x, foldedSetIterable iter X.env x = pure x := by intro _; rfl) :
    SS X CT Wd (.Assign [.Name y py] (.ListComp elt [⟨tg, iter, ifs, 0⟩] scope pos) spos) (cAsg (xLc it g t ce (own.map (·.2))) (gxName i)) :=
  (ps_setLc (own := own) hc hN hy hyl hsw hi ok hg ht he hs).wk fun D σ H q => tAsg_of (vs := [i]) (fun _ _ _ z => lc_read sub z) (fun v σ H Q ⟨ρ, h, es, w, S, E, r, q⟩ => q ρ H _ (Nxt.refl S) (E.set r i) (off_set i σ _)) q
theorem s_par {i j : Nat} {x y : Str} {ar : Ax} {px py pt : Pos} {kt k2 pt2} (hc : X.calm = true) (hN : X.N.Nodup) (hi : X.N[i]? = some x) (hj : X.N[j]? = some y) (hij : i ≠ j)
    (hx : X.env.scope.names.lookup x = some .local) (hy : X.env.scope.names.lookup y = some .local) (ha : SA X CT Wd [a, b] ar)
    (hw : swappedStores [.Tuple [.Name x px, .Name y py] kt pt] (.Tuple [a, b] k2 pt2) X.env = pure (some [x, y]))
    (hs : swapsWithSole [.Tuple [.Name x px, .Name y py] kt pt] (.Tuple [a, b] k2 pt2) pos.line X.env = pure false := by rfl) :
    SS X CT Wd (.Assign [.Tuple [.Name x px, .Name y py] kt pt] (.Tuple [a, b] k2 pt2) pos) (cPar [i, j] ar) :=
  (ps_par hc hN hi hj hij hx hy ha hw hs).wk fun D σ H ⟨ρ, h, es, S, E, p⟩ => by
    refine ⟨ρ, h, es, S, E, PostS.bind (RR := RA X.K CT) S E p fun ws h1 ρ1 H1 vs N r p1 => ?_⟩
    have p2 : PostS X.K CT Wd ρ1 h1 H1 (if ws.length = [i, j].length then .fl (.nx (setAll [i, j] ws es)) h1 else .bad) D := p1
    by_cases c : ws.length = [i, j].length
    · rw [if_pos c] at p2
      cases r with
      | nil => cases c
      | cons r1 t =>
        cases t with
        | nil => cases c
        | cons r2 t =>
          cases t with
          | cons _ _ => cases c
          | nil => exact ⟨_, _, rfl, PostS.nx N.sim p2 (((E.keep S N.toFw).set r1 i).set r2 j)⟩
    · rw [if_neg c] at p2
      exact p2.elim
/-- for -/
theorem s_for {it : Ix} {g : Gx} {us : List Nat} (hp : PassesOwn (model X.prog X.w) X.A X.env X.xe) (hc : X.calm = true) (hi : SI X CT Wd tg e it) (hg : SG X CT Wd us tg g) (hb : SSs X CT Wd body c1) (hs : ∀ x, foldedSetIterable e X.env x = pure x := by intro _; rfl) :
    SS X CT Wd (.For tg e body [] pos) (cFor it g c1) := (ps_for hp hc hi hg hb hs).wk fun D σ H ⟨ρ, h, es, S, E, p⟩ => by
  refine ⟨ρ, h, es, S, E, ?_⟩
  have p' : PostS X.K CT Wd ρ h H ((it es h).bindS es fun c h1 => forLoop g c1 (c.fuel h1 + 1) c es h1) D := p
  cases gi : it es h with
  | bad => rw [gi] at p'; exact p'.elim
  | exc x h1 =>
    rw [gi] at p'
    exact fun ρ1 H1 od N q => p' ρ1 H1 σ od N (E.keep S N.toFw) q
  | ok c h1 =>
    rw [gi] at p'
    intro ρ1 H1 J N1 I
    obtain ⟨P, P0, PS⟩ := I
    have S1 := N1.sim
    have E1 := E.keep S N1.toFw
    have q1 : PostS X.K CT Wd ρ1 h1 H1 (forLoop g c1 (c.fuel h1 + 1) c es h1) D := PostS.step S N1 p'
    refine ⟨fun i m σ H => ∃ ρ h c es, P i c ∧ Nxt X.K CT ρ1 h1 H1 ρ h H ∧ REnv X.K CT ρ h.n H es σ ∧ PostS X.K CT Wd ρ1 h1 H1 (forLoop g c1 m c es h) D, ⟨c.fuel h1 + 1, ρ1, h1, c, es, P0, Nxt.refl S1, E1, q1⟩, ?_⟩
    rintro i m σ H ⟨ρ, h, c, es, Pc, N, E, p⟩
    cases m with
    | zero => exact p.elim
    | succ m =>
      have st := PS i c Pc ρ h H N
      have p' : PostS X.K CT Wd ρ1 h1 H1 (match c.step h with
        | none => .bad
        | some none => .fl (.nx es) h
        | some (some (w, c')) => (g w es h).bindS es fun es2 h2 => match c1 es2 h2 with
          | .fl (.nx es3) h3 => forLoop g c1 m c' es3 h3
          | .fl (.ct es3) h3 => forLoop g c1 m c' es3 h3
          | .fl (.bk es3) h3 => .fl (.nx es3) h3
          | r => r) D := p
      cases gs : c.step h with
      | none => rw [gs] at p'; exact p'.elim
      | some o =>
        rw [gs] at p' st
        cases o with
        | none => exact .inl ⟨st, p' ρ H σ N E⟩
        | some wc =>
          obtain ⟨w, c'⟩ := wc
          obtain ⟨P1, go, yl⟩ := st
          refine .inr ⟨go, fun σ H => ∃ ρ h c es, P (i + 1) c ∧ Nxt X.K CT ρ1 h1 H1 ρ h H ∧ REnv X.K CT ρ h.n H es σ ∧ PostS X.K CT Wd ρ1 h1 H1 (forLoop g c1 m c es h) D, fun σ' H' q => ⟨m, Nat.lt_succ_self m, q⟩, fun x Hy hy => ?_⟩
          obtain ⟨Ny, rw_⟩ := yl x Hy hy
          have Nb := N.trans S1 Ny
          have Ey := E.keep N.sim Ny.toFw
          have p2 : PostS X.K CT Wd ρ1 h1 H1 ((g w es h).bindS es fun es2 h2 => match c1 es2 h2 with
            | .fl (.nx es3) h3 => forLoop g c1 m c' es3 h3
            | .fl (.ct es3) h3 => forLoop g c1 m c' es3 h3
            | .fl (.bk es3) h3 => .fl (.nx es3) h3
            | r => r) D := p'
          refine ⟨ρ, h, es, w, Nb.sim, Ey, rw_, ?_⟩
          cases gg : g w es h with
          | bad => rw [gg] at p2; exact p2.elim
          | exc x h2 =>
            rw [gg] at p2
            exact fun ρ2 H2 od N2 q => p2 ρ2 H2 σ od (Nb.trans S1 N2) (Ey.keep Nb.sim N2.toFw) q
          | ok es2 h2 =>
            rw [gg] at p2
            intro ρ2 H2 σ2 N2 E2 _
            have Nb2 := Nb.trans S1 N2
            refine ⟨ρ2, h2, es2, N2.sim, E2, ?_⟩
            have p3 : PostS X.K CT Wd ρ1 h1 H1 (match c1 es2 h2 with
              | .fl (.nx es3) h3 => forLoop g c1 m c' es3 h3
              | .fl (.ct es3) h3 => forLoop g c1 m c' es3 h3
              | .fl (.bk es3) h3 => .fl (.nx es3) h3
              | r => r) D := p2
            cases gb : c1 es2 h2 with
            | bad => rw [gb] at p3; exact p3.elim
            | exc x es3 h3 =>
              rw [gb] at p3
              exact fun ρ3 H3 σ3 od N3 E3 q => p3 ρ3 H3 σ3 od (Nb2.trans S1 N3) E3 q
            | fl f h3 =>
              rw [gb] at p3
              cases f with
              | nx es3 => exact fun ρ3 H3 σ3 N3 E3 => ⟨ρ3, h3, c', es3, P1, Nb2.trans S1 N3, E3, p3⟩
              | ct es3 => exact fun ρ3 H3 σ3 N3 E3 => ⟨ρ3, h3, c', es3, P1, Nb2.trans S1 N3, E3, p3⟩
              | bk es3 => exact fun ρ3 H3 σ3 N3 E3 => p3 ρ3 H3 σ3 (Nb2.trans S1 N3) E3
              | rt w3 => exact fun ρ3 H3 v N3 r3 => p3 ρ3 H3 v (Nb2.trans S1 N3) r3
/-- while, at most m turns -/
theorem s_while {m0 : Nat} (hp : PassesOwn (model X.prog X.w) X.A X.env X.xe) (ht : ST X CT Wd c ta) (hb : SSs X CT Wd body c1) : SS X CT Wd (.While c body [] pos) (cWhile m0 ta c1) := (ps_while hp ht hb).wk fun D σ0 H0 ⟨ρ1, h1, es1, S1, E1, p⟩ => by
  refine ⟨fun m σ H => ∃ ρ h es, Nxt X.K CT ρ1 h1 H0 ρ h H ∧ REnv X.K CT ρ h.n H es σ ∧ PostS X.K CT Wd ρ1 h1 H0 (whileLoop ta c1 m es h) D, ⟨m0, ρ1, h1, es1, Nxt.refl S1, E1, p⟩, ?_⟩
  rintro m σ H ⟨ρ, h, es, N, E, p⟩
  cases m with
  | zero => exact p.elim
  | succ m =>
    have p' : PostS X.K CT Wd ρ1 h1 H0 ((ta es h).bindS es fun k h1 => if k then match c1 es h1 with
        | .fl (.nx es3) h3 => whileLoop ta c1 m es3 h3
        | .fl (.ct es3) h3 => whileLoop ta c1 m es3 h3
        | .fl (.bk es3) h3 => .fl (.nx es3) h3
        | r => r
      else .fl (.nx es) h1) D := p
    refine ⟨ρ, h, es, N.sim, E, ?_⟩
    cases gt : ta es h with
    | bad => rw [gt] at p'; exact p'.elim
    | exc x h2 =>
      rw [gt] at p'
      exact fun ρ2 H2 od N2 q => p' ρ2 H2 σ od (N.trans S1 N2) (E.keep N.sim N2.toFw) q
    | ok k h2 =>
      rw [gt] at p'
      intro ρ2 H2 k' N2 ek
      obtain rfl : k = k' := ek
      have Nb := N.trans S1 N2
      have E2 := E.keep N.sim N2.toFw
      cases k with
      | false => exact p' ρ2 H2 σ Nb E2
      | true =>
        have p3 : PostS X.K CT Wd ρ1 h1 H0 (match c1 es h2 with
          | .fl (.nx es3) h3 => whileLoop ta c1 m es3 h3
          | .fl (.ct es3) h3 => whileLoop ta c1 m es3 h3
          | .fl (.bk es3) h3 => .fl (.nx es3) h3
          | r => r) D := p'
        rw [if_pos rfl]
        refine ⟨fun σ H => ∃ ρ h es, Nxt X.K CT ρ1 h1 H0 ρ h H ∧ REnv X.K CT ρ h.n H es σ ∧ PostS X.K CT Wd ρ1 h1 H0 (whileLoop ta c1 m es h) D, fun σ' H' q => ⟨m, Nat.lt_succ_self m, q⟩, ρ2, h2, es, N2.sim, E2, ?_⟩
        cases gb : c1 es h2 with
        | bad => rw [gb] at p3; exact p3.elim
        | exc x es3 h3 =>
          rw [gb] at p3
          exact fun ρ3 H3 σ3 od N3 E3 q => p3 ρ3 H3 σ3 od (Nb.trans S1 N3) E3 q
        | fl f h3 =>
          rw [gb] at p3
          cases f with
          | nx es3 => exact fun ρ3 H3 σ3 N3 E3 => ⟨ρ3, h3, es3, Nb.trans S1 N3, E3, p3⟩
          | ct es3 => exact fun ρ3 H3 σ3 N3 E3 => ⟨ρ3, h3, es3, Nb.trans S1 N3, E3, p3⟩
          | bk es3 => exact fun ρ3 H3 σ3 N3 E3 => p3 ρ3 H3 σ3 (Nb.trans S1 N3) E3
          | rt w3 => exact fun ρ3 H3 v N3 r3 => p3 ρ3 H3 v (Nb.trans S1 N3) r3

/-! ### xs[i] = e, xs.append(e) -/
def setItemW (o i v : W) (h : Hx) : R Unit := match o, i with
  | .ref k, .int j => match h.get k with
    | some (.lst xs) => match ixN xs.length j with
      | some m => .ok () (h.put k (.lst (xs.set m v)))
      | none => .bad
    | _ => .bad
  | _, _ => .bad
def gxSub (a b : Ex) : Gx := fun w es h => (a es h).bind fun o h1 => (b es h1).bind fun i h2 => (setItemW o i w h2).bind fun _ h3 => .ok es h3
theorem sg_sub (ha : SE X CT Wd a ca) (hb : SE X CT Wd b cb) (hk : ∀ {to ti : TE} {t : TSet}, PE X a to → PE X b ti → PSet X t → PG X (.Subscript a b p) (gSub to ti t)) : SG X CT Wd [] (.Subscript a b p) (gxSub ca cb) := (hk ha hb set_list).wk fun v σ H Q ⟨ρ, h, es, w, S, E, r, q⟩ => by
  refine ⟨ρ, h, es, S, E, ?_⟩
  have q' : PostG X.K CT Wd ρ h H [] σ ((ca es h).bind fun o h1 => (cb es h1).bind fun i h2 => (setItemW o i w h2).bind fun _ h3 => .ok es h3) Q := q
  cases g1 : ca es h with
  | bad => rw [g1] at q'; exact q'.elim
  | exc x h1 => rw [g1] at q'; exact q'
  | ok o h1 =>
    rw [g1] at q'
    intro ρ1 H1 vo N1 ro
    refine ⟨ρ1, h1, es, N1.sim, E.keep S N1.toFw, ?_⟩
    have q2 : PostG X.K CT Wd ρ h H [] σ ((cb es h1).bind fun i h2 => (setItemW o i w h2).bind fun _ h3 => .ok es h3) Q := q'
    cases g2 : cb es h1 with
    | bad => rw [g2] at q2; exact q2.elim
    | exc x h2 => rw [g2] at q2; exact fun ρ2 H2 od N2 z => q2 ρ2 H2 od (N1.trans S N2) z
    | ok i h2 =>
      rw [g2] at q2
      intro ρ2 H2 vi N2 ri
      have Nb := N1.trans S N2
      have ro2 := Rep.keep N1.sim N2.toFw _ _ ro
      have q3 : PostG X.K CT Wd ρ h H [] σ ((setItemW o i w h2).bind fun _ h3 => .ok es h3) Q := q2
      cases ro2 with
      | @ref k hk =>
        cases ri with
        | int j =>
          cases gk : h2.get k with
          | none =>
            have : setItemW (.ref k) (.int j) w h2 = .bad := by unfold setItemW; simp only [gk]
            rw [this] at q3
            exact q3.elim
          | some ob =>
            cases ob with
            | dic _ =>
              have : setItemW (.ref k) (.int j) w h2 = .bad := by unfold setItemW; simp only [gk]
              rw [this] at q3
              exact q3.elim
            | ins _ _ =>
              have : setItemW (.ref k) (.int j) w h2 = .bad := by unfold setItemW; simp only [gk]
              rw [this] at q3
              exact q3.elim
            | lst xs =>
              cases gm : ixN xs.length j with
              | none =>
                have : setItemW (.ref k) (.int j) w h2 = .bad := by unfold setItemW; simp only [gk, gm]
                rw [this] at q3
                exact q3.elim
              | some m =>
                have : setItemW (.ref k) (.int j) w h2 = .ok () (h2.put k (.lst (xs.set m w))) := by unfold setItemW; simp only [gk, gm]
                rw [this] at q3
                obtain ⟨vs, ev, rs⟩ := lst_get N2.sim gk
                have rw2 := Rep.keep S Nb.toFw _ _ r
                refine ⟨ρ2 k, vs, j, m, rfl, rfl, ev, by rw [← rs.length]; exact gm, ?_⟩
                have N3 : Nxt X.K CT ρ2 h2 H2 ρ2 (h2.put k (.lst (xs.set m w))) (upd H2 (ρ2 k) (.lst (vs.set m v))) :=
                  Nxt.put N2.sim hk ⟨_, upd_same, Reps.keep N2.sim (Fw.put N2.sim hk) _ _ (rs.set m rw2)⟩
                exact q3 ρ2 _ σ (Nb.trans S N3) (((E.keep S Nb.toFw)).keep N2.sim N3.toFw) ⟨rfl, fun _ _ => rfl⟩
        | _ => exact (show False from q3).elim
      | _ => exact (show False from q3).elim
/-- methods of built-in classes: the receiver is of the class T -/
def xMeth (T : Bt) (f : W → List W → Hx → R W) (a : Ex) (r : Ax) : Ex := fun es h => (a es h).bind fun o h1 => if btOf h1 o = some T then (r es h1).bind fun ws h2 => f o ws h2 else .bad
def MtS (K : PySem.W.Frag) (CT : Nat → Addr) (Wd : WX) (r : V → List V → Hp → VK → Prop) (f : W → List W → Hx → R W) : Prop :=
  ∀ {ρ : Nat → Addr} {h : Hx} {H : Hp} {σ : St} {o : W} {ws : List W} {v : V} {vs : List V} {Q : VK}, Sim K CT ρ h H → Rep K CT ρ h.n H o v → Reps K CT ρ h.n H ws vs → Post K CT (RW K CT) Wd ρ h H σ (f o ws h) Q → r v vs H Q
theorem tyV_of {K : PySem.W.Frag} {ρ : Nat → Addr} {h : Hx} {H : Hp} (S : Sim K CT ρ h H) {T : Bt} {o : W} {v : V} (hT : T = .list ∨ T = .dict ∨ T = .str) (r : Rep K CT ρ h.n H o v) (e : btOf h o = some T) : tyV K T.name v H := by
  cases r with
  | str _ => cases e; rfl
  | fls q _ => cases e; exact .inl ⟨rfl, _, q.sq⟩
  | @ref i hi =>
    have e' : (match h.get i with
      | some (.lst _) => some Bt.list
      | some (.dic _) => some .dict
      | _ => none) = some T := e
    split at e'
    · rename_i ys g
      cases e'
      obtain ⟨vs, q, _⟩ := lst_get S g
      exact .inl ⟨rfl, vs, .of q⟩
    · rename_i ys g
      cases e'
      obtain ⟨vs, q, _⟩ := S.ob i _ g
      exact .inr (.inr (.inl ⟨rfl, .inl ⟨vs, q⟩⟩))
    · cases e'
  | non => cases e; rcases hT with z | z | z <;> cases z
  | bl _ => cases e; rcases hT with z | z | z <;> cases z
  | int _ => cases e; rcases hT with z | z | z <;> cases z
  | tup _ _ => cases e; rcases hT with z | z | z <;> cases z
  | ty _ => cases e
  | cl _ => cases e
  | exc _ _ _ => cases e
theorem se_bm {T : Bt} {es : List Expr} {ar : Ax} {r : V → List V → Hp → VK → Prop} {f : W → List W → Hx → R W} (ha : SE X CT Wd a ca) (hr : SA X CT Wd es ar) (hs : MtS X.K CT Wd r f)
    (k : ∀ {to : TE} {t : TA}, PE X a to → PA X es t → PE X e (tBM X.K T.name r to t)) (hT : T = .list ∨ T = .dict ∨ T = .str := by decide) : SE X CT Wd e (xMeth T f ca ar) := (k ha hr).wk fun σ H Q ⟨ρ, h, en, S, E, p⟩ => by
  refine ⟨ρ, h, en, S, E, Post.bind (RR := RW X.K CT) S p fun o h1 ρ1 H1 v N1 r1 p1 => ?_⟩
  obtain ⟨c, p2⟩ := post_if p1
  refine ⟨tyV_of N1.sim hT r1 c, ρ1, h1, en, N1.sim, E.keep S N1.toFw, Post.bind (RR := RA X.K CT) N1.sim p2 fun ws h2 ρ2 H2 vs N2 r2 p3 => ?_⟩
  exact hs N2.sim (Rep.keep N1.sim N2.toFw _ _ r1) r2 p3
def appendW (o : W) (ws : List W) (h : Hx) : R W := match o, ws with
  | .ref k, [v] => match h.get k with
    | some (.lst xs) => if xs.length < lim then .ok .non (h.put k (.lst (xs ++ [v]))) else .bad
    | _ => .bad
  | _, _ => .bad
theorem ms_append {K : PySem.W.Frag} : MtS K CT Wd rAppend appendW := by
  intro ρ h H σ o ws v vs Q S ro rs p
  cases rs with
  | nil => cases ro <;> exact (show False from p).elim
  | cons r1 t =>
    cases t with
    | cons _ _ => cases ro <;> exact (show False from p).elim
    | nil =>
      cases ro with
      | @ref k hk =>
        rename_i w u
        have p' : Post K CT (RW K CT) Wd ρ h H σ (match h.get k with
          | some (.lst xs) => if xs.length < lim then .ok .non (h.put k (.lst (xs ++ [w]))) else .bad
          | _ => .bad) Q := p
        split at p'
        · rename_i xs g
          obtain ⟨us, q, rs⟩ := lst_get S g
          obtain ⟨c, p2⟩ := post_if p'
          refine ⟨ρ k, us, u, rfl, rfl, q, ?_, ?_⟩
          · rw [← rs.length]
            exact Nat.lt_of_lt_of_le c (by decide)
          · exact p2 ρ _ _ (Nxt.put S hk ⟨_, upd_same, Reps.keep S (Fw.put S hk) _ _ (rs.append (.cons r1 .nil))⟩) .non
        · exact p'.elim
      | _ => exact (show False from p).elim

/-! ### defs of the text, and calls of them -/
/-- the promise that a plain function tells -/
def spOf (K : PySem.W.Frag) (CT : Nat → Addr) (f : Fn) : Sp := fun vs H Q E => ∃ ρ h ws, Sim K CT ρ h H ∧ Reps K CT ρ h.n H ws vs ∧ match f ws h with
  | .ok w h' => ∀ ρ' H' v, Nxt K CT ρ h H ρ' h' H' → Rep K CT ρ' h'.n H' w v → Q v H'
  | .exc x h' => ∀ ρ' H' od, Nxt K CT ρ h H ρ' h' H' → XcR K CT ρ' h'.n H' x od → E (.ref (CT x.k)) od H'
  | .bad => False
def endOf : RS → R W
  | .fl (.nx _) h => .ok .non h
  | .fl (.rt w) h => .ok w h
  | .exc x _ h => .exc x h
  | _ => .bad
/-- a def with np parameters and nn names in all -/
def mkFn (np nn : Nat) (body : Sx) : Fn := fun ws h => if ws.length = np then endOf (body (ws.map some ++ List.replicate (nn - np) none) h) else .bad
/-- the same, no exception leaves -/
def mkFn0 (np nn : Nat) (body : Sx) : Fn := fun ws h => noexc (mkFn np nn body ws h)
theorem start_env {K : PySem.W.Frag} {ρ : Nat → Addr} {n : Nat} {H : Hp} : ∀ {ws : List W} {vs : List V} (m : Nat), Reps K CT ρ n H ws vs → REnv K CT ρ n H (ws.map some ++ List.replicate m none) (vs.map some ++ List.replicate m none)
  | _, _, m, .nil => ⟨by rw [List.map_nil, List.map_nil, List.nil_append, List.nil_append, List.length_replicate, List.length_replicate], fun i w e => by
    rw [List.map_nil, List.nil_append, List.getElem?_replicate] at e
    split at e <;> cases e⟩
  | _, _, m, .cons r t => by
    have E := start_env m t
    refine ⟨?_, fun i w e => ?_⟩
    · rw [List.map_cons, List.map_cons, List.cons_append, List.cons_append, List.length_cons, List.length_cons, E.len]
    · cases i with
      | zero =>
        rw [List.map_cons, List.cons_append, List.getElem?_cons_zero] at e
        cases e
        exact ⟨_, rfl, r⟩
      | succ i => exact E.at_ i w e
end
section
variable {P : Program} {w : World} {K : PySem.W.Frag} {mg : Str → Option Value} {base : Heap} {CT : Nat → Addr}
/-- a def from its body: no exception leaves it -/
theorem fn_ok0 {x qual : Str} {st : Stmt} {f : Addr} {fd : FuncData} {N ps : List Str} {k : Nat} {c : Sx} (F : Fun K x qual st f fd) (S : FnScope N ps (defScope st))
    (body : ∀ (cdv : Value) (A : Around) (outer : List PySem.Env) (s : Shared) (H : Hp) (E : XK), Room k (A.deeper (PyProof.Rows.envOfC qual (defScope st) s.heap.objs.size f cdv)) →
      SSs (cxOf CX0 P w K mg base N qual (defScope st) f cdv A outer s H E).nox CT W0 (defBody st) c) : FnOk P w K mg base CX0 (k + 1) f fd ps (spOf K CT (mkFn0 ps.length N.length c)) := by
  have hp : N.take ps.length = ps := S.pre
  have key : ∀ vs H Q E, spOf K CT (mkFn0 ps.length N.length c) vs H Q E → vs.length = ps.length := fun vs H Q E h => by
    obtain ⟨ρ, h, ws, Sm, r, q⟩ := h
    by_cases e : ws.length = ps.length
    · rw [← r.length]
      exact e
    · unfold mkFn0 mkFn at q
      rw [if_neg e] at q
      exact q.elim
  refine F.ok S key (fun cdv A outer s H vs Q E hr h => ⟨_, body cdv A outer s H E hr, ?_⟩)
  have hl := key vs H Q E h
  obtain ⟨ρ, h, ws, Sm, r, q⟩ := h
  have e : ws.length = ps.length := by rw [r.length]; exact hl
  refine ⟨ρ, h, ws.map some ++ List.replicate (N.length - ps.length) none, Sm, ?_, ?_⟩
  · unfold L2.start
    rw [hl]
    exact start_env _ r
  · unfold mkFn0 mkFn at q
    rw [if_pos e] at q
    cases g : c (ws.map some ++ List.replicate (N.length - ps.length) none) h with
    | bad => rw [g] at q; exact q.elim
    | exc x es h1 => rw [g] at q; exact q.elim
    | fl fl h1 =>
      rw [g] at q
      cases fl with
      | nx es => exact fun ρ' H' σ' N' E' => q ρ' H' .non N' .non
      | rt w => exact fun ρ' H' v N' r' => q ρ' H' v N' r'
      | bk es => exact q.elim
      | ct es => exact q.elim
end
section
variable {X : Cx} {CT : Nat → Addr} {Wd : WX} {e : Expr} {es : List Expr} {pos p : Pos}
def xCall (f : Fn) (a : Ax) : Ex := fun es h => (a es h).bind fun ws h1 => f ws h1
/-- f(e, ..): no exception comes out -/
theorem tCall0_of {f : Fn} {ar : Ax} {E : XK} {σ : St} {H : Hp} {Q : VK} (q : tE X.K CT Wd (xCall (fun ws h => noexc (f ws h)) ar) σ H Q) : tCall (spOf X.K CT f) [] E (tAx X.K CT Wd ar) σ H Q := by
  obtain ⟨ρ, h, en, S, E, p⟩ := q
  refine ⟨ρ, h, en, S, E, Post.bind (RR := RA X.K CT) S p fun ws h1 ρ1 H1 vs N1 r1 p1 => ?_⟩
  show spOf X.K CT f (vs ++ []) H1 Q _
  rw [List.append_nil]
  refine ⟨ρ1, h1, ws, N1.sim, r1, ?_⟩
  have p2 : Post X.K CT (RW X.K CT) Wd ρ1 h1 H1 σ (noexc (f ws h1)) Q := p1
  cases g : f ws h1 with
  | bad => rw [g] at p2; exact p2.elim
  | exc x h2 => rw [g] at p2; exact p2.elim
  | ok w h2 => rw [g] at p2; exact fun ρ' H' v N' r' => p2 ρ' H' v N' r'
theorem noexc_mk0 (np nn : Nat) (c : Sx) : (fun ws h => noexc (mkFn0 np nn c ws h)) = mkFn0 np nn c := by
  funext ws h
  unfold mkFn0
  cases mkFn np nn c ws h <;> rfl
theorem se_call0 {np nn : Nat} {c : Sx} {ar : Ax} {k : Nat} {f : Addr} {fd : FuncData} {ps : List Str} {x : Str} (F : FnOk X.prog X.w X.K X.mg X.base CX0 k f fd ps (spOf X.K CT (mkFn0 np nn c))) (hr : Room k X.A) (hg : Gl X x) (hm : X.mg x = some (.ref f)) (hk : PySem.W.keepIn X.K (.ref f) = true) (hb : Binds X.K fd ps [])
    (ha : SA X CT Wd (e :: es) ar)
    (k2 : ∀ {t : TA}, PA X (e :: es) t → PE X (.Call (.Name x p) (e :: es) [] pos) (tCall (spOf X.K CT (mkFn0 np nn c)) [] E0 t)) : SE X CT Wd (.Call (.Name x p) (e :: es) [] pos) (xCall (mkFn0 np nn c) ar) :=
  (k2 ha).wk fun σ H Q q => tCall0_of (by rw [noexc_mk0]; exact q)
end
end Sx

set_option linter.all false
set_option autoImplicit false
set_option maxRecDepth 100000
set_option maxHeartbeats 2000000
namespace Sx
open PySem L2
/-- a def of the text as the top has left it -/
structure DefAt (K : PySem.W.Frag) (mg : Str → Option Value) (x : Str) (st : Stmt) (ps : List Str) where
  f : Addr
  fd : FuncData
  F : Fun K x x st f fd
  b : Binds K fd ps []
  g : mg x = some (.ref f)
theorem units65 {k : Nat} {A : Around} (r : Room k A) : A.units + 65 < cLine := by have := r.un; omega
section
variable {X : Cx} {CT : Nat → Addr} {Wd : WX} {a b c e : Expr} {es : List Expr} {ca cb cc : Ex} {pos p : Pos}
theorem se_gstr {x s : Str} {z : List Nat} (hg : Gl X x) (hm : ∃ t, X.mg x = some (.str s t)) (e : s.cps.toList = z := by rfl) (h : z.all (· < 1114112) = true := by decide) (hd : (x == ("__debug__" : Str)) = false := by decide) : SE X CT Wd (.Name x p) (xC (.str z)) := by
  obtain ⟨t, hm⟩ := hm
  refine se_c (pe_glob (v := .str s) hg hm ⟨t, rfl⟩ hd) fun _ _ _ => ?_
  subst e
  exact rep_str s h
theorem se_gint {x : Str} {i : Int} (hg : Gl X x) (hm : ∃ t, X.mg x = some (.int i t)) (hd : (x == ("__debug__" : Str)) = false := by decide) : SE X CT Wd (.Name x p) (xC (.int i)) := by
  obtain ⟨t, hm⟩ := hm
  exact se_c (pe_glob (v := .int i) hg hm ⟨t, rfl⟩ hd) fun _ _ _ => .int i
/-- a call of a def at D -/
theorem se_own0 {np nn : Nat} {cf : Sx} {ar : Ax} {k : Nat} {ps : List Str} {x : Str} {st : Stmt} (D : DefAt X.K X.mg x st ps) (G : FnOk X.prog X.w X.K X.mg X.base CX0 k D.f D.fd ps (spOf X.K CT (mkFn0 np nn cf))) (hr : Room k X.A) (hg : Gl X x)
    (ha : SA X CT Wd (e :: es) ar) (hdb : (x == ("__debug__" : Str)) = false := by decide) (he : starEach (e :: es) X.env = (false, eval e X.env) :: starEach es X.env := by rfl) (hpl : (backTo pos (starEach es X.env)).any (·.1) = false := by rfl) :
    SE X CT Wd (.Call (.Name x p) (e :: es) [] pos) (xCall (mkFn0 np nn cf) ar) :=
  (pe_call (E := E0) (dvs := []) G hr hg D.g D.F.kp D.b .nil pass0 ha hdb he hpl).wk fun σ H Q q => tCall0_of (by rw [noexc_mk0]; exact q)
theorem se_own00 {np nn : Nat} {cf : Sx} {k : Nat} {ps : List Str} {x : Str} {st : Stmt} (D : DefAt X.K X.mg x st ps) (G : FnOk X.prog X.w X.K X.mg X.base CX0 k D.f D.fd ps (spOf X.K CT (mkFn0 np nn cf))) (hr : Room k X.A) (hg : Gl X x) (hdb : (x == ("__debug__" : Str)) = false := by decide) :
    SE X CT Wd (.Call (.Name x p) [] [] pos) (xCall (mkFn0 np nn cf) xNil) :=
  (pe_call0 (E := E0) (dvs := []) G hr hg D.g D.F.kp D.b .nil pass0 hdb).wk fun σ H Q q => by
    obtain ⟨ρ, h, en, S, E, p⟩ := q
    have t : tCall (spOf X.K CT (mkFn0 np nn cf)) [] E0 (tAx X.K CT Wd xNil) σ H Q := tCall0_of (by rw [noexc_mk0]; exact ⟨ρ, h, en, S, E, p⟩)
    obtain ⟨ρ, h, en, S, E, p⟩ := t
    exact Post.here S p .nil
end
/-- the law's promise, by its plain function -/
theorem law_sp {K : PySem.W.Frag} {CT : Nat → Addr} {f : Fn} {H : Hp} {a : Addr} {ns : List Int} (hO : Only H) (hS : SqL K H a (ns.map V.int)) (hf : ∃ h', f [.fls (ns.map W.int)] ⟨0, .nil⟩ = .ok (.bl true) h') :
    spOf K CT f [.ref a] H (fun v _ => v = .bl true) fun _ _ _ => False := by
  have q : SqF K H a (ns.map V.int) := by
    rcases hS with (h | ⟨o, h⟩) | h
    · rcases hO a with z | ⟨o, xs, z⟩
      · rw [h] at z; cases z
      · rw [h] at z; cases z
    · exact .inl ⟨o, h⟩
    · exact .inr h
  have rs : ∀ ns : List Int, Reps K CT (fun _ => 0) 0 H (ns.map W.int) (ns.map V.int) := fun ns => by
    induction ns with
    | nil => exact .nil
    | cons x r ih => exact .cons (.int x) ih
  refine ⟨fun _ => 0, ⟨0, .nil⟩, [.fls (ns.map W.int)], ⟨fun i j hi => absurd hi (Nat.not_lt_zero _), fun i hi => absurd hi (Nat.not_lt_zero _), (fun i o e => by cases e), (fun i o e => by cases e)⟩, .cons (.fls q (rs ns)) .nil, ?_⟩
  obtain ⟨h', e⟩ := hf
  rw [e]
  intro ρ' H' v N r
  cases r
  rfl
end Sx

set_option linter.all false
set_option autoImplicit false
set_option maxRecDepth 100000
set_option maxHeartbeats 2000000
namespace Sx
open PySem L2
/-! ### evaluation, step by step -/
section
variable {α β : Type} {a : α} {h h1 : Hx} {es es1 : Env} {w : W} {x : Xc}
theorem bind_ok {f : α → Hx → R β} : (R.ok a h).bind f = f a h := rfl
theorem bindS_ok {f : α → Hx → RS} : (R.ok a h).bindS es f = f a h := rfl
theorem noexc_ok : noexc (R.ok a h) = R.ok a h := rfl
theorem noexc_exc : noexc (R.exc x h : R α) = R.bad := rfl
theorem noexc_bad : noexc (R.bad : R α) = R.bad := rfl
theorem endOf_rt : endOf (.fl (.rt w) h) = .ok w h := rfl
theorem endOf_nx : endOf (.fl (.nx es) h) = .ok .non h := rfl
def seqS (r : RS) (b : Sx) : RS := match r with
  | .fl (.nx es1) h1 => b es1 h1
  | r => r
theorem cSeq_eq {a b : Sx} : cSeq a b es h = seqS (a es h) b := rfl
theorem seqS_nx {b : Sx} : seqS (.fl (.nx es) h) b = b es h := rfl
theorem seqS_rt {b : Sx} : seqS (.fl (.rt w) h) b = .fl (.rt w) h := rfl
theorem mkFn0_eq {np nn : Nat} {c : Sx} {ws : List W} (e : ws.length = np) : mkFn0 np nn c ws h = noexc (endOf (c (ws.map some ++ List.replicate (nn - np) none) h)) := by
  unfold mkFn0 mkFn
  rw [if_pos e]
theorem xCall_eq {f : Fn} {a : Ax} : xCall f a es h = (a es h).bind f := rfl
theorem isiW_eq {t : Bt} : isiW [w, .ty t] h = isi1 (btOf h w) t h := rfl
theorem isi1_some {b t : Bt} (e : t ≠ .none) : isi1 (some b) t h = .ok (.bl (isB b t)) h := if_pos e
/-- turns of a for -/
def turnF (g : Gx) (b : Sx) (m : Nat) (c' : Cur) (r : RS) : RS := match r with
  | .fl (.nx es3) h3 => forLoop g b m c' es3 h3
  | .fl (.ct es3) h3 => forLoop g b m c' es3 h3
  | .fl (.bk es3) h3 => .fl (.nx es3) h3
  | r => r
theorem forLoop_end {g : Gx} {b : Sx} {m : Nat} {c : Cur} (e : c.step h = some none) : forLoop g b (m + 1) c es h = .fl (.nx es) h := by
  unfold forLoop
  rw [e]
theorem forLoop_step {g : Gx} {b : Sx} {m : Nat} {c c' : Cur} (e : c.step h = some (some (w, c'))) : forLoop g b (m + 1) c es h = (g w es h).bindS es fun es2 h2 => turnF g b m c' (b es2 h2) := by
  conv => lhs; unfold forLoop
  rw [e]
  rfl
theorem turnF_nx {g : Gx} {b : Sx} {m : Nat} {c' : Cur} : turnF g b m c' (.fl (.nx es) h) = forLoop g b m c' es h := rfl
theorem turnF_rt {g : Gx} {b : Sx} {m : Nat} {c' : Cur} : turnF g b m c' (.fl (.rt w) h) = .fl (.rt w) h := rfl
theorem rng_step0 {i : Int} : (Cur.rng i 0).step h = some none := rfl
theorem rng_step {i : Int} {n : Nat} : (Cur.rng i (n + 1)).step h = some (some (.int i, .rng (i + 1) n)) := rfl
/-- a for over a range, by an invariant -/
theorem for_rng {g : Gx} {b : Sx} (I : Nat → Env → Hx → Prop) (lo : Int) : ∀ (n j : Nat) (es : Env) (h : Hx), I j es h →
    (∀ i es h, j ≤ i → i < j + n → I i es h → ∃ es2 h2, g (.int (lo + i)) es h = .ok es2 h2 ∧ ∃ es3 h3, b es2 h2 = .fl (.nx es3) h3 ∧ I (i + 1) es3 h3) →
    ∃ es' h', forLoop g b (n + 1) (.rng (lo + j) n) es h = .fl (.nx es') h' ∧ I (j + n) es' h'
  | 0, j, es, h, i0, _ => ⟨es, h, forLoop_end rfl, i0⟩
  | n + 1, j, es, h, i0, k => by
    obtain ⟨es2, h2, e2, es3, h3, e3, i1⟩ := k j es h (Nat.le_refl _) (by omega) i0
    obtain ⟨es', h', e', i'⟩ := for_rng I lo n (j + 1) es3 h3 i1 fun i es h a b => k i es h (by omega) (by omega)
    refine ⟨es', h', ?_, by rw [show j + (n + 1) = j + 1 + n by omega]; exact i'⟩
    rw [forLoop_step rng_step, e2, bindS_ok, e3, turnF_nx, show lo + (j : Int) + 1 = lo + ((j + 1 : Nat) : Int) by omega]
    exact e'
/-- what stood stands -/
structure Ext (h h' : Hx) : Prop where
  le : h.n ≤ h'.n
  at_ : ∀ i, i < h.n → h'.get i = h.get i
theorem Ext.refl (h : Hx) : Ext h h := ⟨Nat.le_refl _, fun _ _ => rfl⟩
theorem Ext.trans {h h' h'' : Hx} (a : Ext h h') (b : Ext h' h'') : Ext h h'' := ⟨Nat.le_trans a.le b.le, fun i hi => (b.at_ i (Nat.lt_of_lt_of_le hi a.le)).trans (a.at_ i hi)⟩
theorem Ext.new (h : Hx) (o : O) : Ext h (h.new o) := ⟨Nat.le_succ _, fun i hi => by rw [Hx.get_new, if_neg (Nat.ne_of_lt hi)]⟩
theorem new_n {o : O} : (h.new o).n = h.n + 1 := rfl
theorem put_n {i : Nat} {o : O} : (h.put i o).n = h.n := rfl
theorem get_new_same {o : O} : (h.new o).get h.n = some o := by rw [Hx.get_new, if_pos rfl]
theorem get_put_same {i : Nat} {o : O} : (h.put i o).get i = some o := by rw [Hx.get_put, if_pos rfl]
theorem get_put_ne {i j : Nat} {o : O} (e : j ≠ i) : (h.put i o).get j = h.get j := by rw [Hx.get_put, if_neg e]
theorem get_new_ne {j : Nat} {o : O} (e : j ≠ h.n) : (h.new o).get j = h.get j := by rw [Hx.get_new, if_neg e]
end
section
variable {es : Env} {h : Hx} {a b c : Ex} {t u : Tx} {r : Ax} {s1 s2 : Sx} {it : Ix} {g : Gx} {f f2 : W → W → Hx → R W} {o : Ox} {i : Nat} {w : W} {is : List Nat}
theorem cNil_eq : cNil es h = .fl (.nx es) h := rfl
theorem cExpr_eq : cExpr a es h = (a es h).bindS es fun _ h1 => .fl (.nx es) h1 := rfl
theorem cRet_eq : cRet a es h = (a es h).bindS es fun w h1 => .fl (.rt w) h1 := rfl
theorem cRetN_eq : cRetN es h = .fl (.rt .non) h := rfl
theorem cIf_eq : cIf t s1 s2 es h = (t es h).bindS es fun k h1 => if k then s1 es h1 else s2 es h1 := rfl
theorem cAsg_eq : cAsg a g es h = (a es h).bindS es fun w h1 => (g w es h1).bindS es fun es2 h2 => .fl (.nx es2) h2 := rfl
theorem cPar_eq : cPar is r es h = (r es h).bindS es fun ws h1 => if ws.length = is.length then .fl (.nx (setAll is ws es)) h1 else .bad := rfl
theorem cFor_eq : cFor it g s1 es h = (it es h).bindS es fun c h1 => forLoop g s1 (c.fuel h1 + 1) c es h1 := rfl
theorem cWhile_eq {m : Nat} : cWhile m t s1 es h = whileLoop t s1 m es h := rfl
theorem xVar_eq : xVar i es h = match es[i]? with | some (some w) => .ok w h | _ => .bad := rfl
theorem xC_eq : xC w es h = .ok w h := rfl
theorem xOp_eq : xOp f a b es h = (a es h).bind fun x h1 => (b es h1).bind fun y h2 => f x y h2 := rfl
theorem xBl_eq : xBl a es h = (a es h).bind fun w h1 => match w with | .bl b => .ok b h1 | _ => .bad := rfl
theorem xChain_eq : xChain f f2 a b c es h = (a es h).bind fun x h1 => (b es h1).bind fun y h2 => (f x y h2).bind fun k h3 => match k with | .bl true => (c es h3).bind fun z h4 => f2 y z h4 | .bl false => .ok (.bl false) h3 | _ => .bad := rfl
theorem xUn_eq {f : W → Hx → R W} : xUn f a es h = (a es h).bind fun x h1 => f x h1 := rfl
theorem xTru_eq : xTru a es h = (a es h).bind fun w h1 => match truth h1 w with | some b => .ok b h1 | none => .bad := rfl
theorem xAndT_eq : xAndT t u es h = (t es h).bind fun k h1 => if k then u es h1 else .ok false h1 := rfl
theorem xOrT_eq : xOrT t u es h = (t es h).bind fun k h1 => if k then .ok true h1 else u es h1 := rfl
theorem xNotT_eq : xNotT t es h = (t es h).bind fun k h1 => .ok (!k) h1 := rfl
theorem xIf_eq : xIf t a b es h = (t es h).bind fun k h1 => if k then a es h1 else b es h1 := rfl
theorem xAnd_eq : xAnd a b es h = (a es h).bind fun w h1 => match truth h1 w with | some true => b es h1 | some false => .ok w h1 | none => .bad := rfl
theorem xOr_eq : xOr a b es h = (a es h).bind fun w h1 => match truth h1 w with | some true => .ok w h1 | some false => b es h1 | none => .bad := rfl
theorem xNot_eq : xNot a es h = (a es h).bind fun w h1 => match truth h1 w with | some k => .ok (.bl (!k)) h1 | none => .bad := rfl
theorem xNil_eq : xNil es h = .ok [] h := rfl
theorem xCons_eq : xCons a r es h = (a es h).bind fun w h1 => (r es h1).bind fun ws h2 => .ok (w :: ws) h2 := rfl
theorem xTup_eq : xTup r es h = (r es h).bind fun ws h1 => if ws.length ≤ lim then .ok (.tup ws) h1 else .bad := rfl
theorem xLst_eq : xLst r es h = (r es h).bind fun ws h1 => if ws.length ≤ lim then .ok (.ref h1.n) (h1.new (.lst ws)) else .bad := rfl
theorem xDic0_eq : xDic0 es h = .ok (.ref h.n) (h.new (.dic [])) := rfl
theorem xCallB_eq {f : List W → Hx → R W} : xCallB f r es h = (r es h).bind fun ws h1 => f ws h1 := rfl
theorem xIt_eq : xIt a es h = (a es h).bind fun w h1 => match curOf h1 w with | some k => .ok k h1 | none => .bad := rfl
theorem xRng1_eq : xRng1 r es h = (r es h).bind fun ws h1 => rng1W ws h1 := rfl
theorem xRng2_eq : xRng2 r es h = (r es h).bind fun ws h1 => rng2W ws h1 := rfl
theorem gxName_eq : gxName i w es h = .ok (es.set i (some w)) h := rfl
theorem gxSub_eq : gxSub a b w es h = (a es h).bind fun o h1 => (b es h1).bind fun i h2 => (setItemW o i w h2).bind fun _ h3 => .ok es h3 := rfl
theorem xMeth_eq {T : Bt} {f : W → List W → Hx → R W} : xMeth T f a r es h = (a es h).bind fun o h1 => if btOf h1 o = some T then (r es h1).bind fun ws h2 => f o ws h2 else .bad := rfl
theorem xSl_eq {l u : Ox} : xSl a l u es h = (a es h).bind fun x h1 => (l es h1).bind fun lo h2 => (u es h2).bind fun hi h3 => sliceW x lo hi h3 := rfl
theorem xNo_eq : xNo es h = .ok none h := rfl
theorem xYes_eq : xYes a es h = (a es h).bind fun w h1 => match w with | .int i => .ok (some i) h1 | _ => .bad := rfl
theorem xYesT_eq : xYesT es h = .ok true h := rfl
theorem xLc_eq {e : Ex} {vs : List Nat} : xLc it g t e vs es h = (it es h).bind fun c h1 => lcLoop g t e (wipeE es vs) (c.fuel h1 + 1) c [] h1 := rfl
theorem cast2 : (((2 : Nat) : Int) == 2) = true := rfl
theorem truth_bl {b : Bool} : truth h (.bl b) = some b := rfl
theorem btOf_str {z : List Nat} : btOf h (.str z) = some .str := rfl
theorem btOf_int {z : Int} : btOf h (.int z) = some .int := rfl
theorem btOf_tup {z : List W} : btOf h (.tup z) = some .tuple := rfl
theorem btOf_bl {z : Bool} : btOf h (.bl z) = some .bool := rfl
theorem btOf_non : btOf h .non = some .none := rfl
theorem isB_self {t : Bt} : isB t t = true := by cases t <;> rfl
theorem len_tup {xs : List W} : lenW [.tup xs] h = .ok (.int xs.length) h := rfl
theorem eq_str {a b : List Nat} : eqW (.str a) (.str b) h = .ok (.bl (a == b)) h := rfl
theorem ne_int {a b : Int} : neW (.int a) (.int b) h = .ok (.bl (!(a == b))) h := rfl
theorem isi_int {b : Bt} : isi1 (some b) .int h = .ok (.bl (isB b .int)) h := isi1_some (fun z => nomatch z)
theorem isi_bool {b : Bt} : isi1 (some b) .bool h = .ok (.bl (isB b .bool)) h := isi1_some (fun z => nomatch z)
theorem isi_str {b : Bt} : isi1 (some b) .str h = .ok (.bl (isB b .str)) h := isi1_some (fun z => nomatch z)
theorem isi_tuple {b : Bt} : isi1 (some b) .tuple h = .ok (.bl (isB b .tuple)) h := isi1_some (fun z => nomatch z)
theorem isi_list {b : Bt} : isi1 (some b) .list h = .ok (.bl (isB b .list)) h := isi1_some (fun z => nomatch z)
theorem isi_dict {b : Bt} : isi1 (some b) .dict h = .ok (.bl (isB b .dict)) h := isi1_some (fun z => nomatch z)
theorem add_int {i j : Int} : addW (.int i) (.int j) h = .ok (.int (i + j)) h := rfl
theorem sub_int {i j : Int} : subW (.int i) (.int j) h = .ok (.int (i - j)) h := rfl
theorem neg_int {i : Int} : negW (.int i) h = .ok (.int (-i)) h := rfl
theorem int_int {i : Int} : intW [.int i] h = .ok (.int i) h := rfl
theorem lt_int {i j : Int} : ltW (.int i) (.int j) h = .ok (.bl (decide (i < j))) h := rfl
theorem le_int {i j : Int} : leW (.int i) (.int j) h = .ok (.bl (decide (i ≤ j))) h := rfl
theorem gt_int {i j : Int} : gtW (.int i) (.int j) h = .ok (.bl (decide (j < i))) h := rfl
theorem ge_int {i j : Int} : geW (.int i) (.int j) h = .ok (.bl (decide (j ≤ i))) h := rfl
theorem mod_int {i j : Int} (c : 0 < j) : modW (.int i) (.int j) h = .ok (.int (i % j)) h := if_pos c
theorem fdiv_int {i j : Int} (c : 0 < j ∧ j < 1073741824) : fdivW (.int i) (.int j) h = .ok (.int (i / j)) h := if_pos c
theorem pow_int {i j : Int} (c : 0 ≤ j ∧ j ≤ 1000000 ∧ i.natAbs < 2 ^ 64) : powW (.int i) (.int j) h = .ok (.int (i ^ j.toNat)) h := if_pos c
theorem mul_int {i j : Int} (c : i.natAbs < 2 ^ 64 ∨ j.natAbs < 2 ^ 64) : mulW (.int i) (.int j) h = .ok (.int (i * j)) h := if_pos c
theorem max_int {i j : Int} : max2W [.int i, .int j] h = .ok (.int (if j > i then j else i)) h := rfl
theorem min_int {i j : Int} : min2W [.int i, .int j] h = .ok (.int (if j < i then j else i)) h := rfl
end
end Sx

set_option linter.all false
set_option maxRecDepth 100000
set_option maxHeartbeats 4000000
set_option exponentiation.threshold 2000
namespace Lw
open PySem L2 Sx
local macro_rules | `(tactic| walk_at "ev") => `(tactic| simp only [cSeq_eq, seqS_nx, seqS_rt, bind_ok, bindS_ok, noexc_ok, endOf_rt, endOf_nx, cNil_eq, cExpr_eq, cRet_eq, cRetN_eq, cIf_eq, cAsg_eq, cPar_eq, cFor_eq, xVar_eq, xC_eq, xOp_eq, xBl_eq, xChain_eq, xUn_eq, xTru_eq, xAndT_eq, xOrT_eq, xNotT_eq, xIf_eq, xAnd_eq, xOr_eq, xNot_eq, xNil_eq, xCons_eq, xTup_eq, xLst_eq, xDic0_eq, xCallB_eq, xCall_eq, xIt_eq, xRng1_eq, xRng2_eq, gxName_eq, gxSub_eq, xMeth_eq, xSl_eq, xNo_eq, xYes_eq, xLc_eq, isiW_eq, isi_int, isi_bool, isi_str, isi_tuple, isi_list, isi_dict, truth_bl, curOf, Cur.fuel, wipeE, isB_self, len_tup, ne_int, eq_str, btOf_str, btOf_int, btOf_tup, btOf_bl, btOf_non,
  add_int, sub_int, neg_int, int_int, lt_int, le_int, gt_int, ge_int, max_int, min_int, show (2 : Nat) ≤ lim from by decide, show (0 : Nat) ≤ lim from by decide, show (1 : Nat) ≤ lim from by decide, show (3 : Nat) ≤ lim from by decide,
  List.map_cons, List.map_nil, List.cons_append, List.nil_append, List.append_nil, List.length_cons, List.length_nil, List.getElem?_cons_zero, List.getElem?_cons_succ, List.getElem?_nil, List.set_cons_zero, List.set_cons_succ, Nat.reduceAdd, Nat.reduceSub, if_true, if_false, reduceIte, ite_true, Bool.false_eq_true, Bool.not_true, Bool.not_false, beq_self_eq_true, cast2])
local macro_rules | `(tactic| walk_at "evh") => `(tactic| simp only [cSeq_eq, seqS_nx, seqS_rt, bind_ok, bindS_ok, noexc_ok, endOf_rt, endOf_nx, cNil_eq, cExpr_eq, cRet_eq, cRetN_eq, cIf_eq, cAsg_eq, cPar_eq, cFor_eq, xVar_eq, xC_eq, xOp_eq, xBl_eq, xChain_eq, xUn_eq, xTru_eq, xAndT_eq, xOrT_eq, xNotT_eq, xIf_eq, xAnd_eq, xOr_eq, xNot_eq, xNil_eq, xCons_eq, xTup_eq, xLst_eq, xDic0_eq, xCallB_eq, xCall_eq, xIt_eq, xRng1_eq, xRng2_eq, gxName_eq, gxSub_eq, xMeth_eq, xSl_eq, xNo_eq, xYes_eq, xLc_eq, isiW_eq, isi_int, isi_bool, isi_str, isi_tuple, isi_list, isi_dict, truth_bl, curOf, Cur.fuel, wipeE, isB_self, len_tup, ne_int, eq_str, btOf_str, btOf_int, btOf_tup, btOf_bl, btOf_non,
  add_int, sub_int, neg_int, int_int, lt_int, le_int, gt_int, ge_int, max_int, min_int, show (2 : Nat) ≤ lim from by decide, show (0 : Nat) ≤ lim from by decide, show (1 : Nat) ≤ lim from by decide, show (3 : Nat) ≤ lim from by decide,
  List.map_cons, List.map_nil, List.cons_append, List.nil_append, List.append_nil, List.length_cons, List.length_nil, List.getElem?_cons_zero, List.getElem?_cons_succ, List.getElem?_nil, List.set_cons_zero, List.set_cons_succ, Nat.reduceAdd, Nat.reduceSub, if_true, if_false, reduceIte, ite_true, Bool.false_eq_true, Bool.not_true, Bool.not_false, beq_self_eq_true, cast2, *])
def b__law_numbers_1 : Sx :=
    (cIf (xAndT (xBl (xOp geW (xVar 3) (xOp powW (xC (.int 10)) (xC (.int 18))))) (xBl (xOp gtW (xVar 4) (xC (.int 0))))) (cSeq (cExpr (xMeth .list appendW (xVar 5) (xCons (xOp modW (xCallB intW (xCons (xVar 4) xNil)) (xOp ixW (xVar 2) (xVar 6))) xNil)))
    (cAsg (xOp fdivW (xVar 4) (xOp ixW (xVar 2) (xVar 6))) (gxName 4))) (cSeq (cAsg (xOp powW (xOp addW (xOp addW (xOp modW (xCallB intW (xCons (xVar 3) xNil)) (xC (.int 2147483629))) (xOp mulW (xC (.int 7919)) (xVar 1))) (xC (.int 1))) (xC (.int 3))) (gxName 7))
    (cSeq (cAsg (xOp mulW (xOp addW (xOp modW (xCallB intW (xCons (xVar 7) xNil)) (xC (.int 2147483647))) (xOp mulW (xC (.int 104729)) (xOp addW (xVar 6) (xC (.int 1))))) (xOp addW (xVar 6) (xC (.int 3)))) (gxName 7))
    (cSeq (cAsg (xOp modW (xCallB intW (xCons (xVar 7) xNil)) (xC (.int 2147483629))) (gxName 7))
    (cSeq (cAsg (xOp mulW (xOp modW (xCallB intW (xCons (xOp powW (xVar 7) (xC (.int 5))) xNil)) (xC (.int 2147483647))) (xC (.int 48271))) (gxName 7))
    (cSeq (cAsg (xOp modW (xCallB intW (xCons (xVar 7) xNil)) (xC (.int 2147483629))) (gxName 7))
    (cExpr (xMeth .list appendW (xVar 5) (xCons (xOp modW (xCallB intW (xCons (xOp fdivW (xVar 7) (xC (.int 16))) xNil)) (xOp ixW (xVar 2) (xVar 6))) xNil)))))))))
def c__law_numbers : Sx :=
    (cSeq (cAsg (xCallB max2W (xCons (xCallB intW (xCons (xVar 0) xNil)) (xCons (xCallB intW (xCons (xOp subW (xUn negW (xC (.int 1))) (xVar 0)) xNil)) xNil))) (gxName 3))
    (cSeq (cAsg (xVar 3) (gxName 4))
    (cSeq (cAsg (xLst xNil) (gxName 5))
    (cSeq (cFor (xRng1 (xCons (xCallB lenW (xCons (xVar 2) xNil)) xNil)) (gxName 6) b__law_numbers_1)
    (cRet (xVar 5))))))
def f__law_numbers : Fn := mkFn0 3 8 c__law_numbers
def c__law_draw : Sx :=
    (cSeq (cAsg (xOp ixW (xVar 0) (xC (.int 1))) (gxName 2))
    (cSeq (cAsg (xOp addW (xVar 2) (xC (.int 1))) (gxSub (xVar 0) (xC (.int 1))))
    (cRet (xIf (xBl (xOp ltW (xVar 2) (xCallB lenW (xCons (xOp ixW (xVar 0) (xC (.int 0))) xNil)))) (xOp modW (xCallB intW (xCons (xOp ixW (xOp ixW (xVar 0) (xC (.int 0))) (xVar 2)) xNil)) (xVar 1)) (xC (.int 0))))))
def f__law_draw : Fn := mkFn0 2 3 c__law_draw
def c__law_pool : Sx :=
    (cRet (xLst (xCons (xCall f__law_numbers (xCons (xVar 0) (xCons (xVar 1) (xCons (xOp mulW (xLst (xCons (xC (.int 420)) xNil)) (xVar 2)) xNil)))) (xCons (xC (.int 0)) xNil))))
def f__law_pool : Fn := mkFn0 3 3 c__law_pool
def c__law_pick : Sx :=
    (cRet (xOp ixW (xVar 1) (xCall f__law_draw (xCons (xVar 0) (xCons (xCallB lenW (xCons (xVar 1) xNil)) xNil)))))
def f__law_pick : Fn := mkFn0 2 2 c__law_pick
def c__law_opened : Sx :=
    (cSeq (cAsg (xIf (xBl (xOp neW (xVar 0) (xLst xNil))) (xOp ixW (xVar 0) (xVar 1)) (xC (.int 7))) (gxName 3))
    (cRet (xCall f__law_pool (xCons (xVar 3) (xCons (xVar 1) (xCons (xVar 2) xNil))))))
def f__law_opened : Fn := mkFn0 3 4 c__law_opened
/-! ### drawing -/
structure PoolAt (h : Hx) (p : Nat) : Prop where
  ex : ∃ (a : Nat) (at_ : Int) (xs : List Int), h.get p = some (.lst [.ref a, .int at_]) ∧ h.get a = some (.lst (xs.map W.int)) ∧ 0 ≤ at_ ∧ a ≠ p ∧ p < h.n ∧ a < h.n
theorem PoolAt.ext {h h' : Hx} {p : Nat} (P : PoolAt h p) (e : Ext h h') : PoolAt h' p := by
  obtain ⟨a, at_, xs, e1, e2, h0, ne, l1, l2⟩ := P.ex
  exact ⟨a, at_, xs, (e.at_ p l1).trans e1, (e.at_ a l2).trans e2, h0, ne, Nat.lt_of_lt_of_le l1 e.le, Nat.lt_of_lt_of_le l2 e.le⟩
theorem PoolAt.lt {h : Hx} {p : Nat} (P : PoolAt h p) : p < h.n := by
  obtain ⟨a, at_, xs, e1, e2, h0, ne, l1, l2⟩ := P.ex
  exact l1
theorem ix_lst {h : Hx} {i : Nat} {xs : List W} {j : Int} {w : W} (g : h.get i = some (.lst xs)) (e : atI xs j = some w) : ixW (.ref i) (.int j) h = .ok w h := by
  show (match seqOf h (.ref i) with
    | some xs => match atI xs j with
      | some w => R.ok w h
      | none => .bad
    | none => .bad) = _
  have : seqOf h (.ref i) = some xs := by
    show (match h.get i with
      | some (.lst xs) => some xs
      | _ => none) = some xs
    rw [g]
  rw [this]
  show (match atI xs j with
      | some w => R.ok w h
      | none => .bad) = _
  rw [e]
theorem set_lst {h : Hx} {i : Nat} {xs : List W} {j : Int} {m : Nat} {w : W} (g : h.get i = some (.lst xs)) (e : ixN xs.length j = some m) : setItemW (.ref i) (.int j) w h = .ok () (h.put i (.lst (xs.set m w))) := by
  unfold setItemW
  simp only [g, e]
theorem len_lst {h : Hx} {i : Nat} {xs : List W} (g : h.get i = some (.lst xs)) : lenW [.ref i] h = .ok (.int xs.length) h := by
  show (match h.get i with
      | some (.lst xs) => R.ok (W.int xs.length) h
      | some (.dic kvs) => .ok (.int kvs.length) h
      | _ => .bad) = _
  rw [g]
theorem ev_draw (p : Nat) (m : Int) (h : Hx) (P : PoolAt h p) (hm : 0 < m) : ∃ r h', f__law_draw [.ref p, .int m] h = .ok (.int r) h' ∧ 0 ≤ r ∧ r < m ∧ PoolAt h' p ∧ h'.n = h.n ∧ ∀ i, i ≠ p → h'.get i = h.get i := by
  obtain ⟨a, at_, xs, g1, g2, h0, ne, l1, l2⟩ := P.ex
  have t1 : f__law_draw [.ref p, .int m] h = noexc (endOf (c__law_draw [some (.ref p), some (.int m), none] h)) := rfl
  have i1 : ixW (.ref p) (.int 1) h = .ok (.int at_) h := ix_lst g1 rfl
  have s1 : setItemW (.ref p) (.int 1) (.int (at_ + 1)) h = .ok () (h.put p (.lst [.ref a, .int (at_ + 1)])) := set_lst (m := 1) g1 rfl
  have k1 : (h.put p (.lst [.ref a, .int (at_ + 1)])).get p = some (.lst [.ref a, .int (at_ + 1)]) := get_put_same
  have k2 : (h.put p (.lst [.ref a, .int (at_ + 1)])).get a = some (.lst (xs.map W.int)) := (get_put_ne ne).trans g2
  have P' : PoolAt (h.put p (.lst [.ref a, .int (at_ + 1)])) p := ⟨a, at_ + 1, xs, k1, k2, by omega, ne, l1, l2⟩
  have i0 := ix_lst (j := 0) k1 (w := .ref a) rfl
  have ln := len_lst k2
  rw [t1]
  unfold c__law_draw
  by_cases c : at_ < ((xs.map W.int).length : Int)
  · have hl : at_.toNat < xs.length := by
      rw [List.length_map] at c
      omega
    have ix : atI (xs.map W.int) at_ = some (.int xs[at_.toNat]) := by
      have e : at_ = ((at_.toNat : Nat) : Int) := by omega
      conv => lhs; rw [e]
      exact atI_nat (by rw [List.getElem?_map, List.getElem?_eq_getElem hl]; rfl)
    have i2 := ix_lst k2 ix
    refine ⟨xs[at_.toNat] % m, h.put p (.lst [.ref a, .int (at_ + 1)]), ?_, Int.emod_nonneg _ (by omega), Int.emod_lt_of_pos _ hm, P', rfl, fun i hi => get_put_ne hi⟩
    clear t1 P P' g1 g2 k1 k2 ix
    simp only [add_int, int_int, lt_int, mod_int hm, decide_eq_true c, i0, i1, i2, s1, ln, cSeq_eq, seqS_nx, bind_ok, bindS_ok, noexc_ok, endOf_rt, cRet_eq, cAsg_eq, xVar_eq, xC_eq, xOp_eq, xBl_eq, xIf_eq, xNil_eq, xCons_eq, xCallB_eq, gxName_eq, gxSub_eq, List.getElem?_cons_zero, List.getElem?_cons_succ, List.set_cons_zero, List.set_cons_succ, if_true]
  · refine ⟨0, h.put p (.lst [.ref a, .int (at_ + 1)]), ?_, Int.le_refl _, hm, P', rfl, fun i hi => get_put_ne hi⟩
    clear t1 P P' g1 g2 k1 k2
    simp only [add_int, int_int, lt_int, mod_int hm, decide_eq_false c, i0, i1, s1, ln, cSeq_eq, seqS_nx, bind_ok, bindS_ok, noexc_ok, endOf_rt, cRet_eq, cAsg_eq, xVar_eq, xC_eq, xOp_eq, xBl_eq, xIf_eq, xNil_eq, xCons_eq, xCallB_eq, gxName_eq, gxSub_eq, List.getElem?_cons_zero, List.getElem?_cons_succ, List.set_cons_zero, List.set_cons_succ, Bool.false_eq_true, if_false]
theorem ev_pick (p l : Nat) (ws : List W) (h : Hx) (P : PoolAt h p) (gl : h.get l = some (.lst ws)) (hl : l ≠ p) (hw : ws ≠ []) : ∃ w h', f__law_pick [.ref p, .ref l] h = .ok w h' ∧ w ∈ ws ∧ PoolAt h' p ∧ h'.n = h.n ∧ ∀ i, i ≠ p → h'.get i = h.get i := by
  have t1 : f__law_pick [.ref p, .ref l] h = noexc (endOf (c__law_pick [some (.ref p), some (.ref l)] h)) := rfl
  have pos : (0 : Int) < (ws.length : Int) := by
    cases ws with
    | nil => exact absurd rfl hw
    | cons _ _ => rw [List.length_cons]; omega
  obtain ⟨r, h1, e1, r0, r1, P1, n1, k1⟩ := ev_draw p ws.length h P pos
  have ln := len_lst gl
  have hr : r.toNat < ws.length := by omega
  have ix : ixW (.ref l) (.int r) h1 = .ok ws[r.toNat] h1 := ix_lst ((k1 l hl).trans gl) (by
    have e : r = ((r.toNat : Nat) : Int) := by omega
    conv => lhs; rw [e]
    exact atI_nat (List.getElem?_eq_getElem hr))
  refine ⟨ws[r.toNat], h1, ?_, List.getElem_mem hr, P1, n1, k1⟩
  rw [t1]
  unfold c__law_pick
  clear t1
  simp only [ln, e1, ix, bind_ok, bindS_ok, noexc_ok, endOf_rt, cRet_eq, xVar_eq, xC_eq, xOp_eq, xNil_eq, xCons_eq, xCallB_eq, xCall_eq, List.getElem?_cons_zero, List.getElem?_cons_succ]
theorem append_lst {h : Hx} {i : Nat} {xs : List W} {w : W} (g : h.get i = some (.lst xs)) (c : xs.length < lim) : appendW (.ref i) [w] h = .ok .non (h.put i (.lst (xs ++ [w]))) := by
  show (match h.get i with
    | some (.lst xs) => if xs.length < lim then R.ok W.non (h.put i (.lst (xs ++ [w]))) else .bad
    | _ => .bad) = _
  rw [g]
  exact if_pos c
theorem bt_lst {h : Hx} {i : Nat} {xs : List W} (g : h.get i = some (.lst xs)) : btOf h (.ref i) = some .list := by
  show (match h.get i with
    | some (.lst _) => some Bt.list
    | some (.dic _) => some .dict
    | _ => none) = _
  rw [g]
/-- the numbers of a pool -/
theorem ev_numbers (c s : Int) (z m : Nat) (h : Hx) (gz : h.get z = some (.lst (List.replicate m (.int 420)))) (hz : z < h.n) (hs : 0 ≤ s ∧ s ≤ 100) (hm : m ≤ 1000) :
    ∃ xs : List Int, ∃ h', f__law_numbers [.int c, .int s, .ref z] h = .ok (.ref h.n) h' ∧ h'.n = h.n + 1 ∧ (∀ i, i < h.n → h'.get i = h.get i) ∧ h'.get h.n = some (.lst (xs.map W.int)) := by
  have t1 : f__law_numbers [.int c, .int s, .ref z] h = noexc (endOf (c__law_numbers [some (.int c), some (.int s), some (.ref z), none, none, none, none, none] h)) := rfl
  generalize hw : (if (-1 - c) > c then (-1 - c) else c) = whole
  let I : Nat → Sx.Env → Hx → Prop := fun j es h' => ∃ (l : Int) (k o : Option W) (xs : List Int), es = [some (.int c), some (.int s), some (.ref z), some (.int whole), some (.int l), some (.ref h.n), k, o] ∧ h'.n = h.n + 1 ∧ (∀ i, i < h.n → h'.get i = h.get i) ∧ h'.get h.n = some (.lst (xs.map W.int)) ∧ xs.length = j
  have turn : ∀ (i : Nat) (es : Sx.Env) (h' : Hx), 0 ≤ i → i < 0 + m → I i es h' → ∃ es2 h2, gxName 6 (.int (0 + i)) es h' = .ok es2 h2 ∧ ∃ es3 h3, b__law_numbers_1 es2 h2 = .fl (.nx es3) h3 ∧ I (i + 1) es3 h3 := by
    rintro i es h' _ hi ⟨l, k, o, xs, rfl, n1, k1, gx, lx⟩
    refine ⟨[some (.int c), some (.int s), some (.ref z), some (.int whole), some (.int l), some (.ref h.n), some (.int (0 + i)), o], _, rfl, ?_⟩
    have zi : (h'.get z) = some (.lst (List.replicate m (.int 420))) := (k1 z hz).trans gz
    have ai : atI (List.replicate m (W.int 420)) (0 + (i : Int)) = some (.int 420) := by
      rw [show (0 + (i : Int)) = ((i : Nat) : Int) by omega]
      exact atI_nat (by rw [List.getElem?_replicate, if_pos (by omega)])
    have ix : ixW (.ref z) (.int (0 + i)) h' = .ok (.int 420) h' := ix_lst zi ai
    have bt := bt_lst gx
    have ap : ∀ w, appendW (.ref h.n) [w] h' = .ok .non (h'.put h.n (.lst (xs.map W.int ++ [w]))) := fun w => append_lst gx (by rw [List.length_map]; show xs.length < 100000; omega)
    have fin : ∀ (v l' : Int) (o' : Option W), I (i + 1) [some (.int c), some (.int s), some (.ref z), some (.int whole), some (.int l'), some (.ref h.n), some (.int (0 + i)), o'] (h'.put h.n (.lst (xs.map W.int ++ [.int v]))) := fun v l' o' =>
      ⟨l', _, o', xs ++ [v], rfl, n1, fun j hj => (get_put_ne (Nat.ne_of_lt hj)).trans (k1 j hj), by rw [get_put_same, List.map_append]; rfl, by rw [List.length_append, lx]; rfl⟩
    have iz : ∀ (w : Int), ixW (.ref z) (.int (0 + i)) (h'.put h.n (.lst (xs.map W.int ++ [.int w]))) = .ok (.int 420) (h'.put h.n (.lst (xs.map W.int ++ [.int w]))) := fun w => ix_lst ((get_put_ne (Nat.ne_of_lt hz)).trans zi) ai
    have p18 : ∀ {h : Hx}, powW (.int 10) (.int 18) h = .ok (.int (10 ^ 18)) h := fun {h} => pow_int (i := 10) (j := 18) (by decide)
    have m420 : ∀ {v : Int} {h : Hx}, modW (.int v) (.int 420) h = .ok (.int (v % 420)) h := fun {v h} => mod_int (by decide)
    have f420 : ∀ {v : Int} {h : Hx}, fdivW (.int v) (.int 420) h = .ok (.int (v / 420)) h := fun {v h} => fdiv_int (by decide)
    have f16 : ∀ {v : Int} {h : Hx}, fdivW (.int v) (.int 16) h = .ok (.int (v / 16)) h := fun {v h} => fdiv_int (by decide)
    have ma : ∀ {v : Int} {h : Hx}, modW (.int v) (.int 2147483629) h = .ok (.int (v % 2147483629)) h := fun {v h} => mod_int (by decide)
    have mb : ∀ {v : Int} {h : Hx}, modW (.int v) (.int 2147483647) h = .ok (.int (v % 2147483647)) h := fun {v h} => mod_int (by decide)
    have mu1 : ∀ {v : Int} {h : Hx}, mulW (.int 7919) (.int v) h = .ok (.int (7919 * v)) h := fun {v h} => mul_int (.inl (by decide))
    have mu2 : ∀ {v : Int} {h : Hx}, mulW (.int 104729) (.int v) h = .ok (.int (104729 * v)) h := fun {v h} => mul_int (.inl (by decide))
    have mu3 : ∀ {v : Int} {h : Hx}, mulW (.int v) (.int 48271) h = .ok (.int (v * 48271)) h := fun {v h} => mul_int (.inr (by decide))
    have mu4 : ∀ {v : Int} {h : Hx}, mulW (.int v) (.int (0 + i + 3)) h = .ok (.int (v * (0 + i + 3))) h := fun {v h} => mul_int (.inr (by omega))
    have pw3 : ∀ {h : Hx}, powW (.int (whole % 2147483629 + 7919 * s + 1)) (.int 3) h = .ok (.int ((whole % 2147483629 + 7919 * s + 1) ^ (3 : Int).toNat)) h := fun {h} => pow_int (by
      have a1 := Int.emod_nonneg whole (show (2147483629 : Int) ≠ 0 by decide)
      have a2 := Int.emod_lt_of_pos whole (show (0 : Int) < 2147483629 by decide)
      omega)
    have pw5 : ∀ {v : Int} {h : Hx}, powW (.int (v % 2147483629)) (.int 5) h = .ok (.int ((v % 2147483629) ^ (5 : Int).toNat)) h := fun {v h} => pow_int (by
      have a1 := Int.emod_nonneg v (show (2147483629 : Int) ≠ 0 by decide)
      have a2 := Int.emod_lt_of_pos v (show (0 : Int) < 2147483629 by decide)
      omega)
    by_cases c1 : (10 ^ 18 : Int) ≤ whole ∧ 0 < l
    · refine ⟨_, _, ?_, fin (l % 420) (l / 420) o⟩
      unfold b__law_numbers_1
      simp only [p18, m420, f420, ge_int, gt_int, int_int, ix, iz, bt, ap, decide_eq_true c1.1, decide_eq_true c1.2, cSeq_eq, seqS_nx, bind_ok, bindS_ok, cIf_eq, cExpr_eq, cAsg_eq, xVar_eq, xC_eq, xOp_eq, xBl_eq, xAndT_eq, xMeth_eq, xNil_eq, xCons_eq, xCallB_eq, gxName_eq, List.getElem?_cons_zero, List.getElem?_cons_succ, List.set_cons_zero, List.set_cons_succ, if_true]
    · generalize ho : ((((whole % 2147483629 + 7919 * s + 1) ^ (3 : Int).toNat % 2147483647 + 104729 * (0 + i + 1)) * (0 + i + 3)) % 2147483629) ^ (5 : Int).toNat % 2147483647 * 48271 % 2147483629 = o4
      refine ⟨_, _, ?_, fin (o4 / 16 % 420) l (some (.int o4))⟩
      have fls : ∀ (a b : Sx) (es : Sx.Env), es = [some (.int c), some (.int s), some (.ref z), some (.int whole), some (.int l), some (.ref h.n), some (.int (0 + i)), o] →
          cIf (xAndT (xBl (xOp geW (xVar 3) (xOp powW (xC (.int 10)) (xC (.int 18))))) (xBl (xOp gtW (xVar 4) (xC (.int 0))))) a b es h' = b es h' := fun a b es e => by
        subst e
        simp only [p18, ge_int, gt_int, bind_ok, cIf_eq, xVar_eq, xC_eq, xOp_eq, xBl_eq, xAndT_eq, List.getElem?_cons_zero, List.getElem?_cons_succ]
        by_cases d : (10 ^ 18 : Int) ≤ whole
        · rw [decide_eq_true d, if_pos rfl, decide_eq_false (fun q => c1 ⟨d, q⟩), bindS_ok, if_neg Bool.false_ne_true]
        · rw [decide_eq_false d, if_neg Bool.false_ne_true, bindS_ok, if_neg Bool.false_ne_true]
      unfold b__law_numbers_1
      rw [fls _ _ _ rfl]
      simp only [pw3, pw5, ma, mb, mu1, mu2, mu3, mu4, m420, f16, add_int, int_int, ix, bt, ap, cSeq_eq, seqS_nx, bind_ok, bindS_ok, cExpr_eq, cAsg_eq, xVar_eq, xC_eq, xOp_eq, xMeth_eq, xNil_eq, xCons_eq, xCallB_eq, gxName_eq, List.getElem?_cons_zero, List.getElem?_cons_succ, List.set_cons_zero, List.set_cons_succ, if_true, ho]
  have start : I 0 [some (.int c), some (.int s), some (.ref z), some (.int whole), some (.int whole), some (.ref h.n), none, none] (h.new (.lst [])) := ⟨whole, none, none, [], rfl, rfl, fun i hi => get_new_ne (Nat.ne_of_lt hi), get_new_same, rfl⟩
  obtain ⟨es', h', e', l, k, o, xs, rfl, n1, k1, gx, lx⟩ := for_rng I 0 m 0 _ _ start turn
  refine ⟨xs, h', ?_, n1, k1, gx⟩
  have gz' : (h.new (.lst [])).get z = some (.lst (List.replicate m (.int 420))) := (get_new_ne (Nat.ne_of_lt hz)).trans gz
  have ln := len_lst gz'
  rw [List.length_replicate] at ln
  rw [t1]
  unfold c__law_numbers
  have rg : rng1W [.int (m : Int)] (h.new (.lst [])) = .ok (.rng 0 m) (h.new (.lst [])) := by
    show (if -1000000 ≤ (m : Int) ∧ (m : Int) ≤ 1000000 then R.ok (Cur.rng 0 (m : Int).toNat) (h.new (.lst [])) else .bad) = _
    rw [if_pos (by omega), Int.toNat_natCast]
  have e2 : forLoop (gxName 6) b__law_numbers_1 (m + 1) (.rng 0 m) [some (.int c), some (.int s), some (.ref z), some (.int whole), some (.int whole), some (.ref h.n), none, none] (h.new (.lst [])) = .fl (.nx [some (.int c), some (.int s), some (.ref z), some (.int whole), some (.int l), some (.ref h.n), k, o]) h' := e'
  simp only [max_int, int_int, sub_int, neg_int, hw, ln, rg, cSeq_eq, seqS_nx, bind_ok, bindS_ok, cAsg_eq, cFor_eq, xRng1_eq, xVar_eq, xC_eq, xOp_eq, xUn_eq, xNil_eq, xCons_eq, xCallB_eq, xLst_eq, gxName_eq, List.getElem?_cons_zero, List.getElem?_cons_succ, List.set_cons_zero, List.set_cons_succ, List.length_nil, Nat.zero_le, if_true, Cur.fuel, e2, cRet_eq, endOf_rt, noexc_ok]
theorem flat_rep (m : Nat) (w : W) : (List.replicate m [w]).flatten = List.replicate m w := by
  induction m with
  | zero => rfl
  | succ m ih => rw [List.replicate_succ, List.flatten_cons, ih, List.replicate_succ]; rfl
theorem xLst_ok {a : Ax} {es : Sx.Env} {h h1 : Hx} {ws : List W} (e : a es h = .ok ws h1) (l : ws.length ≤ lim) : xLst a es h = .ok (.ref h1.n) (h1.new (.lst ws)) := by
  unfold xLst
  rw [e, bind_ok, if_pos l]
theorem ev_pool (c s : Int) (m : Nat) (h : Hx) (hs : 0 ≤ s ∧ s ≤ 100) (hm : m ≤ 1000) : ∃ p h', f__law_pool [.int c, .int s, .int m] h = .ok (.ref p) h' ∧ PoolAt h' p ∧ Ext h h' ∧ h.n ≤ p := by
  have t1 : f__law_pool [.int c, .int s, .int m] h = noexc (endOf (c__law_pool [some (.int c), some (.int s), some (.int m)] h)) := rfl
  let h1 := h.new (.lst [.int 420])
  have g1 : h1.get h.n = some (.lst [.int 420]) := get_new_same
  let h2 := h1.new (.lst (List.replicate m (.int 420)))
  have e2 : mulW (.ref h.n) (.int m) h1 = .ok (.ref (h.n + 1)) h2 := by
    show (match h1.get h.n with
      | some (.lst a) => if 0 ≤ (m : Int) ∧ (m : Int) ≤ 100000 ∧ a.length * (m : Int).toNat ≤ lim then R.ok (W.ref h1.n) (h1.new (.lst (List.replicate (m : Int).toNat a).flatten)) else .bad
      | _ => .bad) = _
    rw [g1]
    show (if 0 ≤ (m : Int) ∧ (m : Int) ≤ 100000 ∧ 1 * (m : Int).toNat ≤ lim then R.ok (W.ref h1.n) (h1.new (.lst (List.replicate (m : Int).toNat [W.int 420]).flatten)) else .bad) = _
    rw [if_pos (show 0 ≤ (m : Int) ∧ (m : Int) ≤ 100000 ∧ 1 * (m : Int).toNat ≤ 100000 by omega), Int.toNat_natCast]
    rw [flat_rep]
    rfl
  have g2 : h2.get (h.n + 1) = some (.lst (List.replicate m (.int 420))) := get_new_same
  obtain ⟨xs, h3, e3, n3, k3, g3⟩ := ev_numbers c s (h.n + 1) m h2 g2 (Nat.lt_succ_self _) hs hm
  have n2 : h2.n = h.n + 2 := rfl
  refine ⟨h3.n, h3.new (.lst [.ref h2.n, .int 0]), ?_, ⟨h2.n, 0, xs, get_new_same, ?_, Int.le_refl _, ?_, ?_, ?_⟩, ⟨?_, fun i hi => ?_⟩, by omega⟩
  · rw [t1]
    unfold c__law_pool
    have e1 : xLst (xCons (xC (.int 420)) xNil) [some (.int c), some (.int s), some (.int m)] h = .ok (.ref h.n) h1 := rfl
    have e4 : (xCons (xCall f__law_numbers (xCons (xVar 0) (xCons (xVar 1) (xCons (xOp mulW (xLst (xCons (xC (.int 420)) xNil)) (xVar 2)) xNil)))) (xCons (xC (.int 0)) xNil)) [some (.int c), some (.int s), some (.int m)] h = .ok [.ref h2.n, .int 0] h3 := by
      rw [xCons_eq]
      have a1 : (xCall f__law_numbers (xCons (xVar 0) (xCons (xVar 1) (xCons (xOp mulW (xLst (xCons (xC (.int 420)) xNil)) (xVar 2)) xNil)))) [some (.int c), some (.int s), some (.int m)] h = .ok (.ref h2.n) h3 := by
        rw [xCall_eq, ← e3]
        have a2 : (xOp mulW (xLst (xCons (xC (.int 420)) xNil)) (xVar 2)) [some (.int c), some (.int s), some (.int m)] h = .ok (.ref (h.n + 1)) h2 := by
          rw [xOp_eq, e1]
          exact e2
        simp only [xCons_eq, a2, xVar_eq, xNil_eq, bind_ok, List.getElem?_cons_zero, List.getElem?_cons_succ]
      rw [a1]
      rfl
    simp only [cRet_eq, xLst_ok e4 (show 2 ≤ 100000 by decide), bindS_ok, endOf_rt, noexc_ok]
  · rw [get_new_ne (by omega)]
    exact g3
  · omega
  · exact Nat.lt_succ_self _
  · show h2.n < h3.n + 1
    omega
  · show h.n ≤ h3.n + 1
    omega
  · rw [get_new_ne (by omega), k3 i (by omega)]
    show (h1.new _).get i = _
    rw [get_new_ne (show i ≠ h1.n from Nat.ne_of_lt (Nat.lt_succ_of_lt hi)), get_new_ne (Nat.ne_of_lt hi)]
theorem fls_ne_nil {h : Hx} {ns : List Int} : neW (.fls (ns.map W.int)) (.ref h.n) (h.new (.lst [])) = .ok (.bl (!ns.isEmpty)) (h.new (.lst [])) := by
  have k : ∀ ns : List Int, (ns.map W.int).all (okD (h.new (.lst [])) 19) = true := fun ns => by
    induction ns with
    | nil => rfl
    | cons x r ih => rw [List.map_cons, List.all_cons, ih]; rfl
  have e : okD (h.new (.lst [])) dep (.ref h.n) = true := by
    show (match (h.new (.lst [])).get h.n with
      | some (.lst xs) => xs.all (okD (h.new (.lst [])) 19)
      | _ => false) = true
    rw [get_new_same]
    rfl
  have e1 : okD (h.new (.lst [])) dep (.fls (ns.map W.int)) = true := k ns
  have e2 : eqO (.fls (ns.map W.int)) (.ref h.n) (h.new (.lst [])) = some ns.isEmpty := by
    show (if okD (h.new (.lst [])) dep (.fls (ns.map W.int)) && okD (h.new (.lst [])) dep (.ref h.n) then some (eqH (h.new (.lst [])) dep (.fls (ns.map W.int)) (.ref h.n)) else none) = _
    rw [e, e1]
    show some (match itemsOf (h.new (.lst [])) (.fls (ns.map W.int)), itemsOf (h.new (.lst [])) (.ref h.n) with
      | some a, some b => eqAll (eqH (h.new (.lst [])) 19) a b
      | _, _ => false) = _
    have : itemsOf (h.new (.lst [])) (.ref h.n) = some [] := by
      show (match (h.new (.lst [])).get h.n with
        | some (.lst xs) => some xs
        | _ => none) = _
      rw [get_new_same]
    rw [this]
    cases ns <;> rfl
  unfold neW
  rw [e2]
theorem ev_opened (ns : List Int) (k m : Nat) (h : Hx) (hk : ns ≠ [] → k < ns.length) (hk2 : k ≤ 100) (hm : m ≤ 1000) : ∃ p h', f__law_opened [.fls (ns.map W.int), .int k, .int m] h = .ok (.ref p) h' ∧ PoolAt h' p ∧ Ext h h' ∧ h.n ≤ p := by
  have t1 : f__law_opened [.fls (ns.map W.int), .int k, .int m] h = noexc (endOf (c__law_opened [some (.fls (ns.map W.int)), some (.int k), some (.int m), none] h)) := rfl
  have e1 : ∀ es : Sx.Env, xLst xNil es h = .ok (.ref h.n) (h.new (.lst [])) := fun es => rfl
  have x1 : Ext h (h.new (.lst [])) := Ext.new _ _
  obtain ⟨c, hc⟩ : ∃ c : Int, (xIf (xBl (xOp neW (xVar 0) (xLst xNil))) (xOp ixW (xVar 0) (xVar 1)) (xC (.int 7))) [some (.fls (ns.map W.int)), some (.int k), some (.int m), none] h = .ok (.int c) (h.new (.lst [])) := by
    by_cases c : ns = []
    · subst c
      exact ⟨7, by simp only [xIf_eq, xBl_eq, xOp_eq, xVar_eq, xC_eq, e1, fls_ne_nil, bind_ok, List.getElem?_cons_zero, List.getElem?_cons_succ]; rfl⟩
    · have hl := hk c
      have hn : (!ns.isEmpty) = true := by cases ns <;> first | exact absurd rfl c | rfl
      have ix : ixW (.fls (ns.map W.int)) (.int k) (h.new (.lst [])) = .ok (.int ns[k]) (h.new (.lst [])) := by
        show (match atI (ns.map W.int) (k : Int) with
          | some w => R.ok w (h.new (.lst []))
          | none => .bad) = _
        rw [atI_nat (v := W.int ns[k]) (by rw [List.getElem?_map, List.getElem?_eq_getElem hl]; rfl)]
      exact ⟨ns[k], by simp only [xIf_eq, xBl_eq, xOp_eq, xVar_eq, xC_eq, e1, fls_ne_nil, hn, ix, bind_ok, List.getElem?_cons_zero, List.getElem?_cons_succ, if_true]⟩
  obtain ⟨p, h2, e2, P2, x2, l2⟩ := ev_pool c k m (h.new (.lst [])) (by omega) hm
  refine ⟨p, h2, ?_, P2, x1.trans x2, Nat.le_trans x1.le l2⟩
  rw [t1]
  unfold c__law_opened
  simp only [hc, e2, cSeq_eq, seqS_nx, cAsg_eq, cRet_eq, xCall_eq, xVar_eq, xCons_eq, xNil_eq, gxName_eq, bind_ok, bindS_ok, endOf_rt, noexc_ok, List.getElem?_cons_zero, List.getElem?_cons_succ, List.set_cons_zero, List.set_cons_succ]
end Lw

set_option linter.all false
set_option autoImplicit false
set_option maxRecDepth 100000
set_option maxHeartbeats 2000000
namespace Sx
open PySem L2
open PySem.Builtin.ObjectAttr PyProof.Rows
/-! ### own exceptions: made -/
abbrev exT : List Value := [.type "Exception", .type "BaseException", .type "object"]
/-- what the written part says of an own exception class, at C -/
structure XCls (K : PySem.W.Frag) (C : Addr) : Prop where
  ini : PySem.W.excInitIn K C exT "Exception.__new__" = true
  ovr : PySem.W.excOver K C exT = true
  sa : PySem.W.findIn K (.ref C) "__setattr__" = some (some (.builtin "object.__setattr__"))
  is : ExcC K C
  ty : PySem.W.typeIn K (.ref C) = some (.type "type")
  kp : PySem.W.keepIn K (.ref C) = true
/-- def __init__(self, f): self.f = f -/
def initArgs (f : Str) (p1 p2 : Pos) : Arguments := ⟨[], [⟨"self", none, p1⟩, ⟨f, none, p2⟩], none, [], [], none, []⟩
def initBody (f : Str) (q1 q2 q3 q4 : Pos) : List Stmt := [.Assign [.Attribute (.Name "self" q1) f q2] (.Name f q3) q4]
def initScope (f : Str) : Scope := ⟨.function, [("self", .local), (f, .local)], false, false, []⟩
/-- its __init__ with one field f, at fI -/
structure XIni (K : PySem.W.Frag) (C : Addr) (f : Str) : Prop where
  no : PySem.W.findIn K (.ref C) f = some none
  fn : ∃ (fI : Addr) (qual : Str) (oc : Value) (od : Option Addr) (doc pm : Value) (an : Option Addr) (cdv ct : Value) (osl : Array (Option Value)) (p1 p2 q1 q2 q3 q4 : Pos),
    PySem.W.findIn K (.ref C) "__init__" = some (some (.ref fI)) ∧ PySem.W.typeIn K (.ref fI) = some (.type "function") ∧
    K.lookup fI = some ⟨oc, od, .func (PySem.W.fnOf "__init__" qual (initArgs f p1 p2) (initBody f q1 q2 q3 q4) (initScope f) .none .none doc pm an cdv ct), osl⟩ ∧ PySem.W.codeIn K cdv qual = true
/-- the names of fields that are told -/
abbrev fieldNames : List Str := ["value", "part", "at", "number", "claim", "row"]
/-- what a made exception leaves -/
structure Made1 (h h' : Heap) (e C d : Addr) (f : Str) (v : Value) : Prop where
  keep : ∀ b o, h.get? b = some o → h'.get? b = some o
  new : h.objs.size ≤ e
  obj : ∃ t0, h'.get? e = some ({ cls := .ref C, dict := some d, data := .fields #[.ref t0, .none, .none, .none, .bool false, .none] } : Obj)
  dbig : h.objs.size ≤ d
  dne : d ≠ e
  ns : h'.Ns1 d (fun y => if y = f then some v else none)
section
variable {prog : Program} {w : World} {A : Around} {E : Value → Shared → Prop} {R : Result → Shared → Prop} {s : Shared} {K : PySem.W.Frag} {C : Addr} {f : Str}
/-- self.f = v, the first field -/
theorem xc_store (T : XCls K C) (no : PySem.W.findIn K (.ref C) f = some none) {x : Addr} {v : Value} {t0 : Addr} {Q : Unit → Shared → Prop} (X : K.In s.heap) (hx : s.heap.get? x = some (HandSPX.excO C t0))
    (hq : ∀ h' tk' dx, (∀ b o, b ≠ x → s.heap.get? b = some o → h'.get? b = some o) → s.heap.objs.size ≤ dx → dx ≠ x → h'.get? x = some ({ cls := .ref C, dict := some dx, data := .fields #[.ref t0, .none, .none, .none, .bool false, .none] } : Obj) →
      h'.Ns1 dx (fun y => if y = f then some v else none) → Q () { s with heap := h', toks := tk' }) : wpAny (model prog w) A (setAttr (.ref x) f v) Q E s := by
  have I : PySem.W.InstAt s.heap x (HandSPX.excO C t0) C none := ⟨hx, rfl, rfl, trivial⟩
  obtain ⟨cd, hcd, hov⟩ := PySem.W.any_some T.ovr
  have hd : cd.hasDict = true := by
    obtain ⟨cd', hc', hd'⟩ := PySem.W.any_some T.is.hd
    rw [hcd] at hc'
    cases hc'
    exact hd'
  refine PySem.W.set_plain X I T.sa ?_
  obtain ⟨hp, g, d, t, os⟩ := s
  refine PySem.W.osa_openX (s := ⟨hp, g, d, t + 1, os⟩) PySem.F.store_Exception X I T.ovr (r := none) (by unfold PySem.W.takerIn; rw [no]; rfl) fun b => ?_
  have hcls : PySem.W.Looks (model prog w) hp (classData C) cd := PySem.W.looks_clsIn X hcd
  have hxs : x ≠ hp.objs.size := Nat.ne_of_lt (Heap.lt_size hx)
  obtain ⟨nm, bs, mro, ns, qn, hd', sn, sb, ab, col, del⟩ := cd
  dsimp only at hd
  subst hd
  show wpAny _ _ (storeInOwnDict (.ref x) (.ref C) (.str f t) f v b) _ _ _
  unfold storeInOwnDict ownDictForStores
  repeat (first | with_reducible refine HandSPX.store_in_new ?_ ?_ | with_reducible refine wpAny_loadPart_at hx ?_ | with_reducible refine hcls.at ?_ | wp_step)
  · exact ⟨_, #[], _, (Heap.get?_update_ne _ _ _ _ hxs.symm).trans (Heap.get?_push_at rfl rfl), rfl, fun e he => absurd he (by simp), fun _ => rfl⟩
  · intro h' tk' hn' hs
    refine hq h' tk' hp.objs.size (fun b o hb ho => ?_) (Nat.le_refl _) hxs.symm ?_ hn'
    · exact (hs.2 b (Nat.ne_of_lt (Heap.lt_size ho))).trans ((Heap.get?_update_ne _ _ _ _ hb).trans (Heap.get?_push_of_some _ ho))
    · exact (hs.2 x hxs).trans (Heap.get?_update_self _ (Heap.get?_push_of_some _ hx) rfl)
end
/-! the class called, with names in the call or without -/
section
variable {prog : Program} {w : World} {A : Around} {E : Value → Shared → Prop} {R : Result → Shared → Prop} {h : Heap} {g : Array GenState} {d : Drawn} {t : Nat} {os : OsState} {B newId initId : String} {bmB : List Value}
variable {nm q : Str} {C N : Addr} {bs bm : List Value} {hdct : Bool} {sn : List Str} {sub : List Value} {ab : Bool} {col : Option Bool} {dd : Option Addr} {k0 k1 k2 k3 k5 : Option Value} {kw : List (Str × Value)} {rest : List Value}
theorem xc_checkNew {M : Model} (F : ExcBaseFacts B newId initId bmB) (hT : ∀ Y : String, bm.contains (.type Y) = bmB.contains (.type Y)) {Q : Unit → Shared → Prop} (hC : h.get? C = some (excClassObj nm q C N bs bm hdct sn sub ab col dd k0 k1 k2 k3 k5 newId)) (hq : Q () ⟨h, g, d, t, os⟩) :
    wpAny M A (checkBuiltinCall newId ⟨.ref C :: rest, kw⟩) Q E ⟨h, g, d, t, os⟩ := by
  have hc : (Value.ref C :: bm).contains (.type B) = true := by rw [List.contains_cons, hT, F.hasB]; exact Bool.or_true _
  have hs := F.noStar
  simp only [checkBuiltinCall, F.newKind, F.newSplit, F.newRow]
  repeat (first | refine wpAny_loadPart_at hC ?_ | (refine wpAny_isSubtype_exc hC ?_; rw [hc]) | refine wpAny_staticBase_exc hC ?_ | refine wpAny_madeBy_exc hC ?_ | (simp only [bne_self_eq_false, Bool.false_eq_true, if_false]) | wp_step)
  exact hq
theorem xc_new (F : ExcBaseFacts B newId initId bmB) (hT : ∀ Y : String, bm.contains (.type Y) = bmB.contains (.type Y)) (hC : h.get? C = some (excClassObj nm q C N bs bm hdct sn sub ab col dd k0 k1 k2 k3 k5 newId))
    (hq : R (.ok (.ret (.ref (h.objs.size + 1)))) ⟨(h.push (PySem.W.kdv_tup rest)).push (HandSPX.excO C h.objs.size), g, d, t, os⟩) (hz : rest.length ≤ sizeLine) : codeAny (model prog w) A (.builtin newId ⟨.ref C :: rest, kw⟩) R ⟨h, g, d, t, os⟩ := by
  have he := F.ends
  have c1 : (Value.ref C :: bm).contains (.type B) = true := by rw [List.contains_cons, hT, F.hasB]; exact Bool.or_true _
  have c2 : (Value.ref C :: bm).contains (.type "AttributeError") = false := by rw [List.contains_cons, hT, F.noAttr]; exact rfl
  have c3 : (Value.ref C :: bm).contains (.type "NameError") = false := by rw [List.contains_cons, hT, F.noName]; exact rfl
  refine codeAny_builtinAt F.entry ?_
  unfold Builtin.«BaseException.__new__»
  refine PySem.wpAt_bind ?_
  show PySem.wpAt _ _ _ (stack >>= _) _ _ _
  refine PySem.wpAt_bind (PySem.wpAt_stack fun p below => PySem.wpAt_of_wpAny ?_)
  wp_walk
  refine PySem.wpAt_of_wpAny ?_
  rw [F.owner]
  repeat (first | with_reducible refine wpAny_madeHere_exc F.canon hC ?_ | with_reducible refine wpAny_loadPart_at hC ?_ | (with_reducible refine wpAny_isSubtype_exc hC ?_; first | rw [c1] | rw [c2] | rw [c3]) | wp_step)
  show R _ _
  rw [Heap.size_push]
  exact hq
theorem xc_typeCall (F : ExcBaseFacts B newId initId bmB) (hT : ∀ Y : String, bm.contains (.type Y) = bmB.contains (.type Y)) {fI : Addr} {Q : Fin → Shared → Prop} (hC : h.get? C = some (excClassObj nm q C N bs bm hdct sn sub ab col dd k0 k1 k2 k3 k5 newId))
    (hi : PySem.W.Looks (model prog w) h (typeLookup (.ref C) "__init__") (some (.ref fI))) (hb : ∀ self, PySem.W.Looks (model prog w) h (bindSpecial (.ref fI) self) (.ref fI, [self])) (hz : rest.length ≤ sizeLine)
    (hq : codeAny (model prog w) A (.call (.ref fI) ⟨.ref (h.objs.size + 1) :: rest, kw⟩) (fun r s' => match r with | .ok (.ret v) => v = .none ∧ Q (.done (.ret (.ref (h.objs.size + 1)))) s' | .ok _ => False | .error e => E e s')
      ⟨(h.push (PySem.W.kdv_tup rest)).push (HandSPX.excO C h.objs.size), g, d, t, os⟩) : wpAny (model prog w) A (Builtin.«type.__call__» ⟨.ref C :: rest, kw⟩) Q E ⟨h, g, d, t, os⟩ := by
  repeat (first | with_reducible refine wpAny_loadPart_at hC ?_ | with_reducible refine wpAny_madeBy_exc hC ?_ | wp_step)
  refine codeAny_call_builtin_code (Code.quiet_builtin _ F.quiet) (xc_checkNew F hT hC (xc_new F hT hC ?_ hz))
  show wpAny _ _ _ _ _ _
  have k : ∀ b o, h.get? b = some o → ((h.push (PySem.W.kdv_tup rest)).push (HandSPX.excO C h.objs.size)).get? b = some o := fun b o e => Heap.get?_push_of_some _ (Heap.get?_push_of_some _ e)
  have hC1 := k _ _ hC
  have hg : ((h.push (PySem.W.kdv_tup rest)).push (HandSPX.excO C h.objs.size)).get? (h.objs.size + 1) = some (HandSPX.excO C h.objs.size) := by heap_get
  have hs : (Value.ref C :: bm).contains (.ref C) = true := by simp
  have i1 := hi.keeps k
  have b1 := (hb (.ref (h.objs.size + 1))).keeps k
  unfold isInstance
  repeat (first | with_reducible refine wpAny_loadPart_at hg ?_ | (with_reducible refine wpAny_isSubtype_exc hC1 ?_; rw [hs]) | wp_step)
  show wpAny _ _ (typeLookup (.ref C) _) _ _ _
  refine i1.at (wpAny_holding (wpAny_bind (b1.at (wpAny_bind (wpAny_call (codeAny_mono hq fun r s' z => ?_))))))
  rcases r with e | (v | _ | _ | _) <;> first | exact z | exact z.elim | skip
  obtain ⟨rfl, z⟩ := z
  first
    | exact wpAny_pure (wpAny_pure z)
    | (wp_walk; exact z)
theorem xc_call (F : ExcBaseFacts B newId initId bmB) (hT : ∀ Y : String, bm.contains (.type Y) = bmB.contains (.type Y)) {fI : Addr} (hC : h.get? C = some (excClassObj nm q C N bs bm hdct sn sub ab col dd k0 k1 k2 k3 k5 newId))
    (hi : PySem.W.Looks (model prog w) h (typeLookup (.ref C) "__init__") (some (.ref fI))) (hb : ∀ self, PySem.W.Looks (model prog w) h (bindSpecial (.ref fI) self) (.ref fI, [self])) (hz : rest.length ≤ sizeLine)
    (hq : codeAny (model prog w) (A.under (.builtin "type.__call__" ⟨.ref C :: rest, kw⟩)) (.call (.ref fI) ⟨.ref (h.objs.size + 1) :: rest, kw⟩) (PySem.W.InitBack (h.objs.size + 1) R)
      ⟨(h.push (PySem.W.kdv_tup rest)).push (HandSPX.excO C h.objs.size), g, d, t, os⟩) : codeAny (model prog w) A (.call (.ref C) ⟨rest, kw⟩) R ⟨h, g, d, t, os⟩ := by
  have f1 := tc_lookup
  have f2 := tc_bind (.ref C)
  have f3 := tc_sub
  have hTy : (⟨h, g, d, t, os⟩ : Shared).TypeIs (.ref C) "type" := ⟨_, hC, rfl⟩
  refine codeAny_of_tree ?_
  show wpAny _ _ (callAny (.ref C) _) _ _ _
  repeat (any_goals (first | assumption | with_reducible refine wpAny_loadPart_at hC ?_ | wp_step))
  refine ⟨rfl, ?_⟩
  refine codeAny_call_builtin_at (Code.quiet_builtin _ (by decide +kernel)) entry_typeCall ?_
  have ck : ∀ {Q : Unit → Shared → Prop} {E : Value → Shared → Prop} {A : Around}, Q () ⟨h, g, d, t, os⟩ → wpAny (model prog w) A (checkBuiltinCall "type.__call__" ⟨.ref C :: rest, kw⟩) Q E ⟨h, g, d, t, os⟩ := fun {Q E A} hq => by
    simp only [checkBuiltinCall, tc_kind, tc_split]
    repeat (any_goals (first | assumption | with_reducible refine wpAny_loadPart_at hC ?_ | with_reducible refine wpAny_onRaise ?_ | with_reducible refine wpAny_map ?_ | wp_step))
  refine ck (xc_typeCall F hT hC hi hb hz (codeAny_mono hq fun r s' z => ?_))
  rcases r with e | (v | _ | _ | _) <;> exact z
end
section
variable {prog : Program} {w : World} {A : Around} {E : Value → Shared → Prop} {R : Result → Shared → Prop} {s : Shared} {K : PySem.W.Frag} {C : Addr} {f : Str}
/-- what a call of the class hands to __init__: the field by its place, or by its name -/
inductive OneArg (f : Str) (v : Value) : List Value → List (Str × Value) → Prop
  | pos : OneArg f v [v] []
  | kw : OneArg f v [] [(f, v)]
theorem ldv {M : Model} {name : Str} {scope : Scope} {L a : Addr} {cd : Value} {m : Str → Option Value} {x : Str} {pos : Pos} {v : Value} {Q : Value → Shared → Prop} (hn : s.heap.Ns L m) (hv : m x = some v) (h : Q v s) (hk : scope.kind = .function) (hl : (envOfC name scope L a cd).kindOf x = some .local)
    (hd : (x == ("__debug__" : Str)) = false) : wpAny M A (eval (.Name x pos) (envOfC name scope L a cd)) Q E s := wpAny_Name (wpAny_loadName_local hk hl hn hv h) hd
theorem xc_init (T : XCls K C) (hf : f ∈ fieldNames) {fI x t0 : Addr} {v : Value} {rest : List Value} {kw : List (Str × Value)} {qual : Str} {oc : Value} {od : Option Addr} {doc pm : Value} {an : Option Addr} {cdv ct : Value} {osl : Array (Option Value)} {p1 p2 q1 q2 q3 q4 : Pos} (no : PySem.W.findIn K (.ref C) f = some none)
    (ho : K.lookup fI = some ⟨oc, od, .func (PySem.W.fnOf "__init__" qual (initArgs f p1 p2) (initBody f q1 q2 q3 q4) (initScope f) .none .none doc pm an cdv ct), osl⟩) (hcd : PySem.W.codeIn K cdv qual = true)
    (ha : OneArg f v rest kw) (X : K.In s.heap) (hlim : s.heap.NoLimit) (hx : s.heap.get? x = some (HandSPX.excO C t0)) (hroom : A.depth < recursionLimit)
    (hq : ∀ h' tk dx, (∀ b o, b ≠ x → s.heap.get? b = some o → h'.get? b = some o) → s.heap.objs.size ≤ dx → dx ≠ x → h'.get? x = some ({ cls := .ref C, dict := some dx, data := .fields #[.ref t0, .none, .none, .none, .bool false, .none] } : Obj) →
      h'.Ns1 dx (fun y => if y = f then some v else none) → R (.ok (.ret .none)) { s with heap := h', toks := tk }) : codeAny (model prog w) A (.call (.ref fI) ⟨.ref x :: rest, kw⟩) R s := by
  have main : BindsTo s (PySem.W.fnOf "__init__" qual (initArgs f p1 p2) (initBody f q1 q2 q3 q4) (initScope f) .none .none doc pm an cdv ct) ⟨.ref x :: rest, kw⟩ [("self", .ref x), (f, v)] := by
    cases ha with
    | pos =>
      refine BindsTo.of_eq ?_
      simp only [fieldNames, List.mem_cons, List.not_mem_nil, or_false] at hf
      rcases hf with rfl | rfl | rfl | rfl | rfl | rfl <;> first | rfl | with_unfolding_all rfl
    | kw =>
      refine BindsTo.of_eq ?_
      simp only [fieldNames, List.mem_cons, List.not_mem_nil, or_false] at hf
      rcases hf with rfl | rfl | rfl | rfl | rfl | rfl <;> first | rfl | with_unfolding_all rfl
  have kind : ([(("self" : Str), Value.ref x), (f, v)].all fun y => (initScope f).names.lookup y.1 == some .local || (initScope f).names.lookup y.1 == some .cell) = true := by
    simp only [fieldNames, List.mem_cons, List.not_mem_nil, or_false] at hf
    rcases hf with rfl | rfl | rfl | rfl | rfl | rfl <;> first | rfl | with_unfolding_all rfl
  have l1 : ∀ L a cd, (envOfC qual (initScope f) L a cd).kindOf f = some .local := fun L a cd => by
    simp only [fieldNames, List.mem_cons, List.not_mem_nil, or_false] at hf
    rcases hf with rfl | rfl | rfl | rfl | rfl | rfl <;> rfl
  have l2 : ∀ L a cd, (envOfC qual (initScope f) L a cd).kindOf "self" = some .local := fun L a cd => rfl
  have dbg : (f == ("__debug__" : Str)) = false := by
    simp only [fieldNames, List.mem_cons, List.not_mem_nil, or_false] at hf
    rcases hf with rfl | rfl | rfl | rfl | rfl | rfl <;> decide
  have b1 : ∀ k, bindL (envOfC qual (initScope f) k fI cdv).kindOf [(("self" : Str), Value.ref x), (f, v)] (fun _ => none) f = some v := fun k => by
    simp only [fieldNames, List.mem_cons, List.not_mem_nil, or_false] at hf
    rcases hf with rfl | rfl | rfl | rfl | rfl | rfl <;> first | rfl | with_unfolding_all rfl | kernel_rfl
  have b2 : ∀ k, bindL (envOfC qual (initScope f) k fI cdv).kindOf [(("self" : Str), Value.ref x), (f, v)] (fun _ => none) "self" = some (.ref x) := fun k => by
    simp only [fieldNames, List.mem_cons, List.not_mem_nil, or_false] at hf
    rcases hf with rfl | rfl | rfl | rfl | rfl | rfl <;> first | rfl | with_unfolding_all rfl | kernel_rfl
  refine Att.call_fn (binds := [("self", .ref x), (f, v)]) X hlim ho hcd hroom main kind (fun s₁ IC => ?_) rfl rfl rfl
  obtain ⟨h₁, tk₁, rfl⟩ := IC.toInCall.same
  have k := IC.toInCall.keep
  have hn := IC.toInCall.ns
  show wpAny _ _ (execs _ _) _ _ _
  refine wpAny_execs_cons (plainObj_wpAny_Assign_Attribute ?_)
  refine ldv (v := v) hn (b1 _) (ldv (v := .ref x) hn (b2 _) ?_ rfl (l2 _ _ _) (by decide)) rfl (l1 _ _ _) dbg
  refine xc_store T no (X.keeps k) (k _ _ hx) fun h' tk' dx k' dn dne hx' hns => ?_
  show wpAny _ _ (execs _ _) _ _ _
  have z : s.heap.objs.size < h₁.objs.size := hn.lt
  exact wpAny_execs_nil (hq h' tk' dx (fun b o hb e => k' b o hb (k b o e)) (Nat.le_of_lt (Nat.lt_of_lt_of_le z dn)) dne hx' hns)
theorem xc_made (T : XCls K C) (hf : f ∈ fieldNames) (I : XIni K C f) {v : Value} {rest : List Value} {kw : List (Str × Value)} (ha : OneArg f v rest kw) (X : K.In s.heap) (hlim : s.heap.NoLimit) (hroom : A.depth + 1 < recursionLimit)
    (hq : ∀ h' tk e d, Made1 s.heap h' e C d f v → R (.ok (.ret (.ref e))) { s with heap := h', toks := tk }) : codeAny (model prog w) A (.call (.ref C) ⟨rest, kw⟩) R s := by
  obtain ⟨fI, qual, oc, od, doc, pm, an, cdv, ct, osl, p1, p2, q1, q2, q3, q4, iC, tI, ho, hcd⟩ := I.fn
  obtain ⟨nm, N, qn, bs, bm, hdct, sn, sub, ab, col, dd, k0, k1, k2, k3, k5, hC, hT⟩ := PySem.W.excInit_of X T.ini
  obtain ⟨hp, g, dr, tk, os⟩ := s
  have k : ∀ b o, hp.get? b = some o → ((hp.push (PySem.W.kdv_tup rest)).push (HandSPX.excO C hp.objs.size)).get? b = some o := fun b o e => Heap.get?_push_of_some _ (Heap.get?_push_of_some _ e)
  have hg : ((hp.push (PySem.W.kdv_tup rest)).push (HandSPX.excO C hp.objs.size)).get? (hp.objs.size + 1) = some (HandSPX.excO C hp.objs.size) := by heap_get
  have hz : rest.length ≤ sizeLine := by
    rw [sizeLine_eq]
    cases ha
    · exact (by decide : 1 ≤ 16777216)
    · exact Nat.zero_le _
  refine xc_call PySem.F.excBase_Exception hT hC (PySem.W.looks_findIn X iC) (fun self => PySem.W.bind_fn X self tI) hz ?_
  refine xc_init (s := ⟨(hp.push (PySem.W.kdv_tup rest)).push (HandSPX.excO C hp.objs.size), g, dr, tk, os⟩) T hf I.no ho hcd ha (X.keeps k) (hlim.keeps k) hg hroom fun h' tk' dx k' dn dne hx hns => ?_
  have old : ∀ b o, hp.get? b = some o → h'.get? b = some o := fun b o e => k' b o (Nat.ne_of_lt (Nat.lt_succ_of_lt (Heap.lt_size e))) (k b o e)
  have z : hp.objs.size + 1 + 1 ≤ dx := by
    have q := dn
    rw [Heap.size_push, Heap.size_push] at q
    exact q
  exact ⟨rfl, hq h' tk' (hp.objs.size + 1) dx ⟨old, Nat.le_succ _, ⟨_, hx⟩, Nat.le_trans (Nat.le_trans (Nat.le_succ _) (Nat.le_succ _)) z, dne, hns⟩⟩
end
end Sx

set_option linter.all false
set_option autoImplicit false
set_option maxRecDepth 100000
set_option maxHeartbeats 2000000
namespace Sx
open PySem L2
open PyProof.Rows hiding St
/-! ### own exceptions as values -/
theorem relO_one {v : V} {u : Value} (r : RelV v u) (f g : Str) : RelO (List.lookup g [(f, v)]) (if g = f then some u else none) := by
  by_cases c : g = f
  · subst c
    rw [if_pos rfl, show List.lookup g [(g, v)] = some v by simp [List.lookup]]
    exact r
  · rw [if_neg c, show List.lookup g [(f, v)] = none by simp [List.lookup, show (g == f) = false by simpa using c]]
    exact trivial
theorem exv_ok {P : Program} {w : World} {H : Hp} {h : Heap} {a C : Addr} {od : Option Addr} {oe : Obj} {vs : Array Value} (e : h.get? a = some oe) (z : Zc (.ref C) od oe) (d : oe.data = .fields vs) : ObjOk P w H h a (exv a C od) :=
  ⟨⟨oe, vs, e, z, d⟩, ⟨oe, e⟩, fun _ _ ⟨o, v, q, r⟩ k => ⟨o, v, k o q, r⟩⟩
section
variable {X : Cx} {pins : List (Addr × Obj)} {σ : St} {H1 : Hp} {s1 : Shared}
/-- a made exception is laid aside: its dict, then itself -/
theorem laid_exc {h' : Heap} {tk : Nat} {e C d : Addr} {f : Str} {v : V} {u : Value} (I1 : Inv X pins σ H1 s1) (M : Made1 s1.heap h' e C d f u) (rv : RelV v u) :
    H1 d = none ∧ H1 e = none ∧ Inv X pins σ (upd (upd H1 d (.xd [(f, v)])) e (exv e C (some d))) { s1 with heap := h', toks := tk } := by
  have nd : H1 d = none := I1.hok.fresh M.dbig
  have ne : H1 e = none := I1.hok.fresh M.new
  refine ⟨nd, ne, ?_⟩
  obtain ⟨t0, he⟩ := M.obj
  obtain ⟨G, g1, g2⟩ := restrict h' fun b => decide (b ≠ e)
  have gk : ∀ b, b ≠ e → G.get? b = h'.get? b := fun b hb => g1 b (decide_eq_true hb)
  have ge : G.get? e = none := g2 e (by simp)
  have old : ∀ b o, s1.heap.get? b = some o → G.get? b = some o := fun b o q => (gk b (Nat.ne_of_lt (Nat.lt_of_lt_of_le (Heap.lt_size q) M.new))).trans (M.keep b o q)
  have ob : ObjOk X.prog X.w (upd H1 d (.xd [(f, v)])) G d (.xd [(f, v)]) := ⟨_, M.ns.at (fun o q => (gk d M.dne).trans q), fun g => relO_one rv f g⟩
  have J : Inv X pins σ (upd H1 d (.xd [(f, v)])) { s1 with heap := G, toks := tk } := I1.laid (t' := tk) old M.dbig ob
  have back : ∀ b o, G.get? b = some o → h'.get? b = some o := fun b o q => by
    by_cases hb : b = e
    · rw [hb, ge] at q; cases q
    · exact (gk b hb).symm.trans q
  have n2 : upd H1 d (.xd [(f, v)]) e = none := by rw [upd_ne (Ne.symm M.dne)]; exact ne
  exact J.laidN (t' := tk) back ge n2 (exv_ok he ⟨rfl, rfl⟩ rfl)
end
def xExc (k : Nat) (f : Str) (a : Ax) : Ex := fun es h => (a es h).bind fun ws h1 => match ws with
  | [w] => .ok (.exc k [f] [w]) h1
  | _ => .bad
def xExc0 (k : Nat) : Ex := fun _ h => .ok (.exc k [] []) h
section
variable {X : Cx} {CT : Nat → Addr} {Wd : WX} {a e : Expr} {ca : Ex} {ar : Ax} {pos p : Pos} {x f : Str} {k j : Nat}
/-- the value is ours -/
theorem exc_here {ρ : Nat → Addr} {h : Hx} {H : Hp} {w : W} {v : V} {d b : Addr} (S : Sim X.K CT ρ h H) (r : Rep X.K CT ρ h.n H w v) (nd : H d = none) (nb : H b = none) (db : d ≠ b) :
    Nxt X.K CT ρ h H ρ h (upd (upd H d (.xd [(f, v)])) b (exv b (CT k) (some d))) ∧ Rep X.K CT ρ h.n (upd (upd H d (.xd [(f, v)])) b (exv b (CT k) (some d))) (.exc k [f] [w]) (.ref b) := by
  have N1 : Nxt X.K CT ρ h H ρ h (upd H d (.xd [(f, v)])) := Nxt.aside S nd
  have N2 : Nxt X.K CT ρ h (upd H d (.xd [(f, v)])) ρ h (upd (upd H d (.xd [(f, v)])) b (exv b (CT k) (some d))) := Nxt.aside N1.sim (by rw [upd_ne (Ne.symm db)]; exact nb)
  have N := N1.trans S N2
  refine ⟨N, .exc (od := some d) (vs := [v]) upd_same ?_ (.cons (Rep.keep S N.toFw _ _ r) .nil)⟩
  show upd (upd H d (.xd [(f, v)])) b (exv b (CT k) (some d)) d = _
  rw [upd_ne db, upd_same]
  rfl
theorem se_exc (T : XCls X.K (CT k)) (I : XIni X.K (CT k) f) (hr : Room j X.A) (hg : Gl X x) (hm : X.mg x = some (.ref (CT k))) (ha : SA X CT Wd [a] ar) (hf : f ∈ fieldNames := by decide) (hdb : (x == ("__debug__" : Str)) = false := by decide)
    (he : starEach [a] X.env = (false, eval a X.env) :: starEach [] X.env := by rfl) : SE X CT Wd (.Call (.Name x p) [a] [] pos) (xExc k f ar) := by
  refine ⟨fun pins s σ H Q J q => ?_⟩
  obtain ⟨ρ, h, es, S, E, pp⟩ := q
  refine wpAny_Call_Name_kw (ld_glob J hg hm ?_ hdb)
  have run := ha.run pos pins s σ H (fun vs H1 => ∃ (v : V), vs = [v] ∧ ∀ d b, H1 d = none → H1 b = none → d ≠ b → Q (.ref b) (upd (upd H1 d (.xd [(f, v)])) b (exv b (CT k) (some d)))) J ⟨ρ, h, es, S, E, Post.bind (RR := RA X.K CT) S pp fun ws h1 ρ1 H1 vs N r p1 => by
    cases r with
    | nil => exact p1.elim
    | cons r1 t =>
      cases t with
      | cons _ _ => exact p1.elim
      | nil =>
        refine ⟨_, rfl, fun d b nd nb db => ?_⟩
        obtain ⟨N2, r2⟩ := exc_here (k := k) (f := f) N.sim r1 nd nb db
        exact p1 ρ1 _ _ N2 r2⟩
  refine PySem.W.callWith_K (h₀ := X.base) J.ok.mod.kin T.kp (thn run fun us s1 ⟨vs, H1, I1, r1, v, ev, q1⟩ => ⟨I1.kIn, ?_⟩) he (by rfl)
  subst ev
  cases r1 with
  | cons rv rn =>
    cases rn
    rename_i u us'
    show wpAny _ _ (call (.ref (CT k)) [u]) _ _ _
    have lim := I1.nolimit
    obtain ⟨hp, g, dr, tk, os⟩ := s1
    refine wpAny_call (xc_made T hf I .pos I1.kIn lim (by have := hr.dp; omega) fun h' tk' b d M => ?_)
    obtain ⟨nd, nb, J2⟩ := laid_exc (tk := tk') I1 M rv
    exact ⟨.ref b, _, J2, rfl, q1 d b nd nb M.dne⟩
/-- C(f=a) -/
theorem se_excKw {kpos : Pos} (T : XCls X.K (CT k)) (I : XIni X.K (CT k) f) (hr : Room j X.A) (hg : Gl X x) (hm : X.mg x = some (.ref (CT k))) (ha : SE X CT Wd a ca) (hf : f ∈ fieldNames := by decide) (hdb : (x == ("__debug__" : Str)) = false := by decide) :
    SE X CT Wd (.Call (.Name x p) [] [⟨some f, a, kpos⟩] pos) (xExc k f (xCons ca xNil)) := by
  refine ⟨fun pins s σ H Q J q => ?_⟩
  obtain ⟨ρ, h, es, S, E, pp⟩ := q
  refine wpAny_Call_Name_kw (ld_glob J hg hm ?_ hdb)
  have run := (pk_cons (nm := some f) (kpos := kpos) ha pk_nil).run pos pins s σ H (fun vs H1 => ∃ (v : V), vs = [v] ∧ ∀ d b, H1 d = none → H1 b = none → d ≠ b → Q (.ref b) (upd (upd H1 d (.xd [(f, v)])) b (exv b (CT k) (some d)))) J ⟨ρ, h, es, S, E, by
    have p2 : Post X.K CT (RW X.K CT) Wd ρ h H σ ((ca es h).bind fun w h1 => .ok (.exc k [f] [w]) h1) Q := by
      have p3 : Post X.K CT (RW X.K CT) Wd ρ h H σ (((ca es h).bind fun w h1 => ((.ok [] h1 : R (List W)).bind fun ws h2 => .ok (w :: ws) h2)).bind fun ws h1 => match ws with
        | [w] => .ok (.exc k [f] [w]) h1
        | _ => .bad) Q := pp
      cases g : ca es h with
      | bad => rw [g] at p3; exact p3
      | exc x2 h2 => rw [g] at p3; exact p3
      | ok w2 h2 => rw [g] at p3; exact p3
    exact Post.bind (RR := RW X.K CT) S p2 fun w h1 ρ1 H1 v N r p1 => by
      show ∃ _, _
      refine ⟨_, rfl, fun d b nd nb db => ?_⟩
      obtain ⟨N2, r2⟩ := exc_here (k := k) (f := f) N.sim r nd nb db
      exact p1 ρ1 _ _ N2 r2⟩
  refine PySem.W.callWith_KW0 (h₀ := X.base) J.ok.mod.kin T.kp rfl (thn run fun us s1 ⟨vs, H1, I1, r1, v, ev, q1⟩ => ⟨I1.kIn, ?_⟩) rfl
  subst ev
  cases r1 with
  | cons rv rn =>
    cases rn
    rename_i u us'
    show wpAny _ _ (call (.ref (CT k)) [] [(f, u)]) _ _ _
    have lim := I1.nolimit
    obtain ⟨hp, g, dr, tk, os⟩ := s1
    refine wpAny_call (xc_made T hf I .kw I1.kIn lim (by have := hr.dp; omega) fun h' tk' b d M => ?_)
    obtain ⟨nd, nb, J2⟩ := laid_exc (tk := tk') I1 M rv
    exact ⟨.ref b, _, J2, rfl, q1 d b nd nb M.dne⟩
/-- C() of a class without own __init__ -/
theorem se_exc0 (q : PySem.W.excIn X.K (CT k) exT "Exception.__new__" = true) (kp : PySem.W.keepIn X.K (.ref (CT k)) = true) (hg : Gl X x) (hm : X.mg x = some (.ref (CT k))) (hdb : (x == ("__debug__" : Str)) = false := by decide) :
    SE X CT Wd (.Call (.Name x p) [] [] pos) (xExc0 k) := by
  refine ⟨fun pins s σ H Q J ⟨ρ, h, es, S, E, pp⟩ => ?_⟩
  refine wpAny_Call_Name_kw (ld_glob J hg hm ?_ hdb)
  refine PySem.W.callWith_K0 J.kIn kp ?_
  obtain ⟨bm, N, nm, qn, bs, hdct, sn, sub, ab, col, dd, k0, k1, k2, k3, k5, mN, hC, hN, hni, T⟩ := exc_obj J.kIn q
  obtain ⟨hp, g, dr, tk, os⟩ := s
  refine wpAny_call_exc_subT (rest := []) PySem.F.excBase_Exception T hC hN hni (fun h' b hm => ?_) (Nat.zero_le _)
  have hn : H b = none := J.hok.gone hm.new
  obtain ⟨t, ht, _, _⟩ := hm.there
  refine ⟨.ref b, upd H b (exv b (CT k) none), J.laidN hm.keeps hm.new hn (exv_ok ht ⟨rfl, rfl⟩ rfl), rfl, ?_⟩
  exact pp ρ _ _ (Nxt.aside S hn) (.exc (od := none) (vs := []) upd_same ⟨rfl, rfl⟩ .nil)
/-! ### fields of exceptions -/
def fieldW (ok : Nat → Bool) (f : Str) (w : W) (h : Hx) : R W := match w with
  | .exc k [g] [u] => if ok k = true ∧ g = f then .ok u h else .bad
  | _ => .bad
theorem se_xfield {ok : Nat → Bool} (T : ∀ k, ok k = true → XCls X.K (CT k) ∧ PySem.W.findIn X.K (.ref (CT k)) f = some none) (ha : SE X CT Wd a ca) (hb : attributeBase a f X.env (eval a X.env) = eval a X.env := by rfl) : SE X CT Wd (.Attribute a f pos) (xUn (fieldW ok f) ca) := by
  refine ⟨fun pins s σ H Q J ⟨ρ, h, es, S, E, pp⟩ => ?_⟩
  have run := ha.run pins s σ H (fun v H1 => ∃ b k d u, v = .ref b ∧ ok k = true ∧ H1 b = some (exv b (CT k) (some d)) ∧ H1 d = some (.xd [(f, u)]) ∧ Q u H1) J ⟨ρ, h, es, S, E, Post.bind (RR := RW X.K CT) S pp fun w h1 ρ1 H1 v N r p1 => by
    have p1 : Post X.K CT (RW X.K CT) Wd ρ1 h1 H1 σ (fieldW ok f w h1) Q := p1
    cases r with
    | @exc b k od ns ws vs r1 r2 r3 =>
      cases ns with
      | nil => exact p1.elim
      | cons g t =>
        cases t with
        | cons _ _ => exact p1.elim
        | nil =>
          cases r3 with
          | nil => exact p1.elim
          | @cons u vu _ _ ru rt =>
            cases rt with
            | cons _ _ => exact p1.elim
            | nil =>
              have p2 : Post X.K CT (RW X.K CT) Wd ρ1 h1 H1 σ (if ok k = true ∧ g = f then .ok u h1 else .bad) Q := p1
              obtain ⟨⟨c1, c2⟩, p3⟩ := post_if p2
              subst c2
              cases od with
              | none => exact absurd r2.1 (by simp)
              | some d => exact ⟨b, k, d, _, rfl, c1, r1, r2, Post.here N.sim p3 ru⟩
    | _ => exact p1.elim⟩
  refine attr_of hb (thn run fun u s1 ⟨v, H1, I1, r1, b, k, d, vu, ev, c1, eb, ed, q⟩ => ?_)
  subst ev
  obtain rfl : u = Value.ref b := r1
  obtain ⟨TX, no⟩ := T k c1
  obtain ⟨⟨oe, vs, hb1, hz, hd⟩, _, _⟩ := I1.hok b _ eb
  obtain ⟨mA, hns, hrr⟩ := (show ObjOk X.prog X.w H1 s1.heap d (.xd [(f, vu)]) from I1.hok d _ ed)
  obtain ⟨od, ho, hl⟩ := lookIn_ns hns
  obtain ⟨uu, hu, ru⟩ := RelO.some_of (v := vu) (o := mA f) (by
    have l : List.lookup f [(f, vu)] = some vu := by simp [List.lookup]
    rw [← l]
    exact hrr f)
  have JJ : PySem.W.InstAt s1.heap b oe (CT k) (some od) := ⟨hb1, hz.1, by unfold PySem.W.notCls; rw [hd] <;> rfl, by rw [hz.2]; exact ho⟩
  exact HandSPX.exc_get I1.kIn JJ TX.is.hg TX.is.hk TX.is.hs (PySem.W.findObj_own TX.is.hd no rfl (by rw [hl, hu])) (handed_of ru) ⟨vu, H1, I1.tok _, ru, q⟩
end
end Sx

set_option linter.all false
set_option autoImplicit false
set_option maxRecDepth 100000
set_option maxHeartbeats 2000000
namespace Sx
open PySem L2
open PyProof.Rows hiding St
/-! ### isinstance with classes of the text -/
/-- the classes of the text -/
structure CTab (K : PySem.W.Frag) (CT : Nat → Addr) (n : Nat) (mro : Nat → List Nat) (ex : Nat → Bool) : Prop where
  ty : ∀ k, k < n → PySem.W.typeIn K (.ref (CT k)) = some (.type "type")
  mr : ∀ k, k < n → (PySem.W.clsIn K (CT k)).map (·.mro) = some ((mro k).map (fun j => Value.ref (CT j)) ++ (if ex k then exT else [.type "object"]))
  lt : ∀ k, k < n → ∀ j ∈ mro k, j < n
  self : ∀ k, k < n → k ∈ mro k
  inj : ∀ i j, i < n → j < n → CT i = CT j → i = j
section
variable {K : PySem.W.Frag} {CT : Nat → Addr} {n : Nat} {mro : Nat → List Nat} {ex : Nat → Bool}
theorem CTab.mroIn (T : CTab K CT n mro ex) {k : Nat} (hk : k < n) (c : Value) : PySem.W.mroIn K (CT k) c = some (((mro k).map (fun j => Value.ref (CT j)) ++ (if ex k then exT else [.type "object"])).contains c) := by
  obtain ⟨cd, hc, hm⟩ := Option.map_eq_some_iff.mp (T.mr k hk)
  unfold PySem.W.mroIn
  rw [hc, Option.bind_some, hm, if_neg]
  cases h : mro k with
  | nil => exact absurd (T.self k hk) (by rw [h]; simp)
  | cons _ _ => simp
theorem CTab.cls (T : CTab K CT n mro ex) {k : Nat} (hk : k < n) : ((PySem.W.clsIn K (CT k)).isSome && PySem.W.typeIn K (.ref (CT k)) == some (.type "type")) = true := by
  obtain ⟨cd, hc, hm⟩ := Option.map_eq_some_iff.mp (T.mr k hk)
  rw [hc, T.ty k hk]
  rfl
theorem CTab.oo (T : CTab K CT n mro ex) {i j : Nat} (hi : i < n) (hj : j < n) : PySem.W.kitOne K (.ref (CT i)) (.ref (CT j)) = some ((mro i).contains j) := by
  unfold PySem.W.kitOne
  by_cases c : i = j
  · subst c
    rw [if_pos (by simp)]
    rw [show (mro i).contains i = true by simpa using T.self i hi]
  · have ne : ¬ ((Value.ref (CT i) == Value.ref (CT j)) = true) := fun q => c (T.inj i j hi hj (Value.ref.inj (beq_iff_eq.mp q)))
    rw [if_neg ne]
    show (if ((PySem.W.clsIn K (CT j)).isSome && PySem.W.typeIn K (.ref (CT j)) == some (.type "type")) = true then PySem.W.mroIn K (CT i) (.ref (CT j)) else none) = _
    rw [if_pos (T.cls hj), T.mroIn hi]
    congr 1
    rw [Bool.eq_iff_iff]
    simp only [List.contains_iff_mem, List.mem_append, List.mem_map]
    constructor
    · rintro (⟨m, hm, e⟩ | h)
      · have := T.inj m j (T.lt i hi m hm) hj (Value.ref.inj e)
        rw [← this]
        exact hm
      · exfalso
        revert h
        split <;> simp [exT]
    · intro h
      exact .inl ⟨j, h, rfl⟩
def isTypeV : Value → Bool
  | .type _ => true
  | _ => false
theorem bt_mro (b : Bt) : ((fastBuiltinMro b.name).elim false fun l => l.all isTypeV) = true := by cases b <;> decide +kernel
theorem CTab.bo (T : CTab K CT n mro ex) (b : Bt) {j : Nat} (hj : j < n) : PySem.W.kitOne K (.type b.name) (.ref (CT j)) = some false := by
  unfold PySem.W.kitOne
  rw [if_neg (by intro q; have := beq_iff_eq.mp q; cases this)]
  show (if ((PySem.W.clsIn K (CT j)).isSome && PySem.W.typeIn K (.ref (CT j)) == some (.type "type")) = true then (fastBuiltinMro b.name).map (·.contains (.ref (CT j))) else none) = _
  rw [if_pos (T.cls hj)]
  have h := bt_mro b
  cases g : fastBuiltinMro b.name with
  | none => rw [g] at h; exact absurd h (by simp)
  | some l =>
    rw [g] at h
    have h' : l.all isTypeV = true := h
    show some (l.contains (.ref (CT j))) = some false
    congr 1
    rw [Bool.eq_false_iff]
    intro q
    have := List.all_eq_true.mp h' _ (List.contains_iff_mem.mp q)
    cases this
theorem CTab.ob (T : CTab K CT n mro ex) {i : Nat} (hi : i < n) (t : Bt) (ht : t ≠ .none) : PySem.W.kitOne K (.ref (CT i)) (.type t.name) = some false := by
  unfold PySem.W.kitOne
  rw [if_neg (by intro q; have := beq_iff_eq.mp q; cases this)]
  have km : PySem.W.kitMeta t.name = true := by cases t <;> first | exact absurd rfl ht | decide +kernel
  show (if PySem.W.kitMeta t.name = true then PySem.W.mroIn K (CT i) (.type t.name) else none) = _
  rw [if_pos km, T.mroIn hi]
  congr 1
  rw [Bool.eq_false_iff]
  intro q
  have q2 := List.contains_iff_mem.mp q
  rcases List.mem_append.mp q2 with h | h
  · obtain ⟨m, _, e⟩ := List.mem_map.mp h
    cases e
  · revert h
    split <;> (cases t <;> first | exact absurd rfl ht | (simp [exT, Bt.name]))
end
def kdOf (h : Hx) (w : W) : Option (Bt ⊕ Nat) := match w with
  | .exc k _ _ => some (.inr k)
  | w => (btOf h w).map .inl
theorem kdOf_inl {h : Hx} {w : W} {bt : Bt} (e : kdOf h w = some (.inl bt)) : btOf h w = some bt := by
  have key : ∀ o : Option Bt, o.map (Sum.inl (β := Nat)) = some (.inl bt) → o = some bt := fun o q => by
    obtain ⟨b', h1, h2⟩ := Option.map_eq_some_iff.mp q
    cases h2
    exact h1
  cases w <;> first | exact key _ e | cases e
def kit1 (n : Nat) (mro : Nat → List Nat) (xs : Nat → Bool) (d : Bt ⊕ Nat) (c : W) : Option Bool := match d, c with
  | .inl b, .ty t => if t ≠ .none then some (isB b t) else none
  | .inl _, .cl j => if j < n then some false else none
  | .inr i, .ty t => if xs i = true ∧ i < n ∧ t ≠ .none then some false else none
  | .inr i, .cl j => if xs i = true ∧ i < n ∧ j < n then some ((mro i).contains j) else none
  | _, _ => none
def isiT (n : Nat) (mro : Nat → List Nat) (xs : Nat → Bool) (ws : List W) (h : Hx) : R W := match ws with
  | [w, c] => match (kdOf h w).bind fun d => kit1 n mro xs d c with
    | some b => .ok (.bl b) h
    | none => .bad
  | _ => .bad
/-- the type of a value, exceptions too -/
def TyY (K : PySem.W.Frag) (H : Hp) (x : V) (t : Value) : Prop := TyX K H x t ∨ ∃ a C od ns vs, x = .ref a ∧ H a = some (exv a C od) ∧ XdAt H od ns vs ∧ ExcC K C ∧ t = .ref C
def rIsY (K : PySem.W.Frag) : List V → Hp → VK → Prop := fun xs H Q => ∃ (x c : V) (t u : Value) (b : Bool), xs = [x, c] ∧ ClsV c u ∧ TyY K H x t ∧ PySem.W.kitOne K t u = some b ∧ Q (.bl b) H
section
variable {X : Cx} {CT : Nat → Addr} {Wd : WX} {n : Nat} {mro : Nat → List Nat} {ex xs : Nat → Bool}
theorem kit_ofY {pins : List (Addr × Obj)} {σ : St} {H : Hp} {s : Shared} {x : V} {u t : Value} (I : Inv X pins σ H s) (rx : RelV x u) (ty : TyY X.K H x t) : ∃ P : Heap → Prop, PySem.W.KitX X.K u t P ∧ P s.heap ∧ u ≠ .builtin "__main__.__loader__#opaque" := by
  rcases ty with ty | ⟨a, C, od, ns, vs, rfl, ea, ed, c, rfl⟩
  · exact kit_of I rx ty
  · cases (show u = Value.ref a from rx)
    obtain ⟨⟨oe, fv, hb1, hz, hd⟩, _, _⟩ := I.hok a _ ea
    have hcl : (PySem.W.clsIn X.K C).isSome = true := by
      obtain ⟨cd, h1, _⟩ := PySem.W.any_some c.hd
      rw [h1]
      rfl
    have nc : PySem.W.notCls oe = true := by unfold PySem.W.notCls; rw [hd] <;> rfl
    cases od with
    | none => exact ⟨fun h => PySem.W.InstAt h a oe C none, PySem.W.kitx_exc hcl c.hg c.hk c.hs c.ha c.hn c.ht c.hm, ⟨hb1, hz.1, nc, by rw [hz.2]; trivial⟩, fun z => nomatch z⟩
    | some d =>
      obtain ⟨mA, hns, _⟩ := (show ObjOk X.prog X.w H s.heap d (.xd (ns.zip vs)) from I.hok d _ ed)
      obtain ⟨od, ho, hl⟩ := lookIn_ns hns
      exact ⟨fun h => PySem.W.InstAt h a oe C (some od), PySem.W.kitx_exc hcl c.hg c.hk c.hs c.ha c.hn c.ht c.hm, ⟨hb1, hz.1, nc, by rw [hz.2]; exact ho⟩, fun z => nomatch z⟩
theorem call_isY : CallR X (.builtin "isinstance") (rIsY X.K) := by
  intro pins s σ H xs us Q I r h
  obtain ⟨x, c, t, u, b, rfl, k, ty, e, q⟩ := h
  obtain ⟨u1, u2, rfl, r1, r2⟩ := vals2 r
  obtain rfl := k.eq r2
  obtain ⟨P, Z, p, hx⟩ := kit_ofY I r1 ty
  exact PySem.W.kia_one Z I.kIn p e hx fun tk => ⟨.bl b, H, I.kept (t' := tk) fun _ _ z => z, rfl, q⟩
theorem kdOf_ty (T : CTab X.K CT n mro ex) (xT : ∀ k, xs k = true → XCls X.K (CT k)) {ρ : Nat → Addr} {h : Hx} {H : Hp} (S : Sim X.K CT ρ h H) {w c : W} {v vc : V} {d : Bt ⊕ Nat} {b : Bool} (r : Rep X.K CT ρ h.n H w v) (rc : Rep X.K CT ρ h.n H c vc) (e : kdOf h w = some d) (e2 : kit1 n mro xs d c = some b) :
    ∃ t u, ClsV vc u ∧ TyY X.K H v t ∧ PySem.W.kitOne X.K t u = some b := by
  cases d with
  | inl bt =>
    have ty : TyX X.K H v (.type bt.name) := by
      exact btOf_of S r (kdOf_inl e)
    cases rc with
    | ty t =>
      have e3 : (if t ≠ .none then some (isB bt t) else none) = some b := e2
      by_cases ht : t ≠ .none
      · rw [if_pos ht] at e3
        cases e3
        exact ⟨_, _, .ty _, .inl ty, isB_kit X.K bt t ht⟩
      · rw [if_neg ht] at e3
        cases e3
    | cl j =>
      have e3 : (if j < n then some false else none) = some b := e2
      by_cases hj : j < n
      · rw [if_pos hj] at e3
        cases e3
        exact ⟨_, _, .own _, .inl ty, T.bo bt hj⟩
      · rw [if_neg hj] at e3
        cases e3
    | _ => cases e2
  | inr i =>
    cases r with
    | @exc a k od ns ws vs r1 r2 r3 =>
      have ek : i = k := (Sum.inr.inj (Option.some.inj e)).symm
      rw [ek] at e2
      cases rc with
      | ty t =>
        have e3 : (if xs k = true ∧ k < n ∧ t ≠ .none then some false else none) = some b := e2
        by_cases c : xs k = true ∧ k < n ∧ t ≠ .none
        · rw [if_pos c] at e3
          cases e3
          exact ⟨_, _, .ty _, .inr ⟨a, CT k, od, ns, vs, rfl, r1, r2, (xT k c.1).is, rfl⟩, T.ob c.2.1 t c.2.2⟩
        · rw [if_neg c] at e3
          cases e3
      | cl j =>
        have e3 : (if xs k = true ∧ k < n ∧ j < n then some ((mro k).contains j) else none) = some b := e2
        by_cases c : xs k = true ∧ k < n ∧ j < n
        · rw [if_pos c] at e3
          cases e3
          exact ⟨_, _, .own _, .inr ⟨a, CT k, od, ns, vs, rfl, r1, r2, (xT k c.1).is, rfl⟩, T.oo c.2.1 c.2.2⟩
        · rw [if_neg c] at e3
          cases e3
      | _ => cases e2
    | non => cases e
    | bl _ => cases e
    | int _ => cases e
    | str _ => cases e
    | tup _ _ => cases e
    | fls _ _ => cases e
    | ty _ => cases e
    | cl _ => cases e
    | @ref m hm =>
      obtain ⟨b', h1, h2⟩ := Option.map_eq_some_iff.mp (show Option.map Sum.inl (btOf h (.ref m)) = some (Sum.inr i) from e)
      cases h2
theorem cs_isY (T : CTab X.K CT n mro ex) (xT : ∀ k, xs k = true → XCls X.K (CT k)) : CallS X.K CT Wd (rIsY X.K) (isiT n mro xs) := by
  intro ρ h H σ ws vs Q S r p
  cases r with
  | nil => exact p.elim
  | cons r1 t =>
    cases t with
    | nil => exact p.elim
    | cons r2 t =>
      cases t with
      | cons _ _ => exact p.elim
      | nil =>
        rename_i w v c vc
        have p' : Post X.K CT (RW X.K CT) Wd ρ h H σ (match (kdOf h w).bind fun d => kit1 n mro xs d c with
          | some b => .ok (.bl b) h
          | none => .bad) Q := p
        cases g : (kdOf h w).bind fun d => kit1 n mro xs d c with
        | none => rw [g] at p'; exact p'.elim
        | some b =>
          rw [g] at p'
          obtain ⟨d, g1, g2⟩ := Option.bind_eq_some_iff.mp g
          obtain ⟨t, u, k1, k2, k3⟩ := kdOf_ty T xT S r1 r2 g1 g2
          exact ⟨v, vc, t, u, b, rfl, k1, k2, k3, Post.here S p' (.bl b)⟩
end
end Sx

set_option linter.all false
set_option autoImplicit false
set_option maxRecDepth 100000
set_option maxHeartbeats 2000000
namespace Sx
open PySem L2
open PyProof.Rows hiding St
/-! ### raise -/
def cRaise (k : Nat) (f : Str) (a : Ax) : Sx := fun es h => (a es h).bindS es fun ws h1 => match ws with
  | [w] => .exc ⟨k, [f], [w]⟩ es h1
  | _ => .bad
def cRaise0 (k : Nat) : Sx := fun es h => .exc ⟨k, [], []⟩ es h
section
variable {X : Cx} {CT : Nat → Addr} {Wd : WX} {a e : Expr} {ca : Ex} {ar : Ax} {pos p pos2 : Pos} {x f : Str} {k j : Nat}
theorem pmk_exc {ta : TA} (T : XCls X.K (CT k)) (I : XIni X.K (CT k) f) (hr : Room j X.A) (hg : Gl X x) (hm : X.mg x = some (.ref (CT k))) (ha : PA X [a] ta) (hf : f ∈ fieldNames := by decide) (hdb : (x == ("__debug__" : Str)) = false := by decide)
    (he : starEach [a] X.env = (false, eval a X.env) :: starEach [] X.env := by rfl) :
    PMk X (.Call (.Name x p) [a] [] pos) (fun σ H Q => ta σ H fun vs H1 => ∃ v, vs = [v] ∧ ∀ d, H1 d = none → Q (.ref (CT k)) (some d) (upd H1 d (.xd [(f, v)]))) := by
  intro pins s σ H Q J h
  refine wpAny_Call_Name_kw (ld_glob J hg hm ?_ hdb)
  refine PySem.W.callWith_K (h₀ := X.base) J.ok.mod.kin T.kp (thn (ha.run pos pins s σ H _ J h) fun us s1 ⟨vs, H1, I1, r1, v, ev, q1⟩ => ⟨I1.kIn, ?_⟩) he (by rfl)
  subst ev
  cases r1 with
  | cons rv rn =>
    cases rn
    rename_i u us'
    show wpAny _ _ (call (.ref (CT k)) [u]) _ _ _
    have lim := I1.nolimit
    obtain ⟨hp, g, dr, tk, os⟩ := s1
    refine wpAny_call (xc_made T hf I .pos I1.kIn lim (by have := hr.dp; omega) fun h' tk' b d M => ?_)
    show MkP X pins σ Q (.ref b) ⟨h', g, dr, tk', os⟩
    obtain ⟨t0, hoe⟩ := M.obj
    obtain ⟨G, g1, g2⟩ := restrict h' fun c => decide (c ≠ b)
    have gk : ∀ c, c ≠ b → G.get? c = h'.get? c := fun c hc => g1 c (decide_eq_true hc)
    have ge : G.get? b = none := g2 b (by simp)
    have old : ∀ c o, hp.get? c = some o → G.get? c = some o := fun c o q => (gk c (Nat.ne_of_lt (Nat.lt_of_lt_of_le (Heap.lt_size q) M.new))).trans (M.keep c o q)
    have ob : ObjOk X.prog X.w (upd H1 d (.xd [(f, v)])) G d (.xd [(f, v)]) := ⟨_, M.ns.at (fun o q => (gk d M.dne).trans q), fun y => relO_one rv f y⟩
    have JJ : Inv X pins σ (upd H1 d (.xd [(f, v)])) ⟨G, g, dr, tk', os⟩ := I1.laid (t' := tk') old M.dbig ob
    refine ⟨b, _, _, ⟨G, g, dr, tk', os⟩, _, .ref (CT k), some d, rfl, JJ, fun c o q => ?_, ge, hoe, ⟨rfl, rfl⟩, rfl, rfl, ?_, rfl, I1.bare, raises_own T.is.hs T.ty, q1 d (I1.hok.fresh M.dbig)⟩
    · by_cases hc : c = b
      · have q' : G.get? c = some o := q
        rw [hc, ge] at q'; cases q'
      · exact (gk c hc).symm.trans q
    · rw [upd_ne (Ne.symm M.dne)]
      exact I1.hok.fresh M.new
theorem s_raise (hc : X.calm = true) (T : XCls X.K (CT k)) (I : XIni X.K (CT k) f) (hr : Room j X.A) (tk : Takes X Wd) (hg : Gl X x) (hm : X.mg x = some (.ref (CT k))) (ha : SA X CT Wd [a] ar) (hf : f ∈ fieldNames := by decide) (hdb : (x == ("__debug__" : Str)) = false := by decide)
    (he : starEach [a] X.env = (false, eval a X.env) :: starEach [] X.env := by rfl) : SS X CT Wd (.Raise (some (.Call (.Name x p) [a] [] pos)) none pos2) (cRaise k f ar) :=
  (ps_raise hc tk (pmk_exc T I hr hg hm ha hf hdb he)).wk fun D σ H ⟨ρ, h, es, S, E, p⟩ => by
    refine ⟨ρ, h, es, S, E, PostS.bind (RR := RA X.K CT) S E p fun ws h1 ρ1 H1 vs N r p1 => ?_⟩
    cases r with
    | nil => exact p1.elim
    | @cons w v _ _ r1 t =>
      cases t with
      | cons _ _ => exact p1.elim
      | nil =>
        refine ⟨_, rfl, fun d nd => ?_⟩
        have N2 : Nxt X.K CT ρ1 h1 H1 ρ1 h1 (upd H1 d (.xd [(f, v)])) := Nxt.aside N.sim nd
        have p2 : PostS X.K CT Wd ρ1 h1 H1 (.exc ⟨k, [f], [w]⟩ es h1) D := p1
        exact p2 ρ1 _ σ (some d) N2 ((E.keep S N.toFw).keep N.sim N2.toFw) ⟨[v], upd_same, .cons (Rep.keep N.sim N2.toFw _ _ r1) .nil⟩
end
/-! ### try: the caught exception is a value of ours in the suite -/
structure Hd where
  j : Nat
  slot : Option Nat
  c : Sx
def unset (o : Option Nat) (es : Env) : Env := match o with
  | some i => es.set i none
  | none => es
def offSlot (o : Option Nat) (r : RS) : RS := match r with
  | .fl (.nx es) h => .fl (.nx (unset o es)) h
  | .fl (.bk es) h => .fl (.bk (unset o es)) h
  | .fl (.ct es) h => .fl (.ct (unset o es)) h
  | .fl (.rt w) h => .fl (.rt w) h
  | _ => .bad
def inSlot (o : Option Nat) (w : W) (es : Env) : Env := match o with
  | some i => es.set i (some w)
  | none => es
def handle (n : Nat) (mro : Nat → List Nat) (xs : Nat → Bool) (x : Xc) (es : Env) (h : Hx) : List Hd → RS
  | [] => .exc x es h
  | d :: r => if xs x.k = true ∧ x.k < n ∧ d.j < n then (if (mro x.k).contains d.j then offSlot d.slot (d.c (inSlot d.slot (.exc x.k x.ns x.ws) es) h) else handle n mro xs x es h r) else .bad
def cTry (n : Nat) (mro : Nat → List Nat) (xs : Nat → Bool) (b : Sx) (hs : List Hd) : Sx := fun es h => match b es h with
  | .exc x es1 h1 => handle n mro xs x es1 h1 hs
  | r => r
theorem un_track {fs ex : List Addr} {H0 H : Hp} {h0 h : Heap} {a : Addr} {o : HO} (U : Un fs ex H0 H h0 h) (n0 : h0.get? a = none) (na : H a = none) : Un fs ex H0 (upd H a o) h0 h where
  keep := U.keep
  slot := U.slot
  free := fun b u q n e => by rw [upd_ne (fun z => by rw [z, n0] at q; cases q)]; exact U.free b u q n e
  there := U.there
  tups := fun b xs q => by have z := U.tups b xs q; rw [upd_ne (ne_of_none z na)]; exact z
  frzs := fun b u xs q => by have z := U.frzs b u xs q; rw [upd_ne (ne_of_none z na)]; exact z
  tbls := fun b ps q => by obtain ⟨m, z⟩ := U.tbls b ps q; exact ⟨m, by rw [upd_ne (ne_of_none z na)]; exact z⟩
section
variable {X : Cx} {pins : List (Addr × Obj)} {σ : St} {H : Hp} {s : Shared}
theorem inv_track {a C : Addr} {od : Option Addr} {oe : Obj} {vs : Array Value} (I : Inv X pins σ H s) (ha : s.heap.get? a = some oe) (hz : Zc (.ref C) od oe) (hd : oe.data = .fields vs) (na : H a = none) (nL : a ≠ X.env.locals) (n0 : X.s_0.heap.get? a = none)
    (np : ∀ p ∈ X.pn ++ pins, p.1 ≠ a) : Inv (X.suite a (X.pn ++ pins)) [] σ (upd H a (exv a C od)) s :=
  ⟨I.ok.suite _ _, I.os, I.bare, un_track I.base n0 na, I.loc, I.cell, by rw [upd_ne (Ne.symm nL)]; exact I.free, fun y c e => by
      obtain ⟨v, o, ho, hdv⟩ := I.cell y c e
      rw [upd_ne (fun z => by rw [z, ha] at ho; cases ho; rw [hd] at hdv; cases hdv)]
      exact I.freeC y c e, fun q hq => by
      have hq' : q ∈ X.pn ++ pins := by rw [List.append_nil] at hq; exact hq
      obtain ⟨e, n, ne, nf, d⟩ := I.pin q hq'
      exact ⟨e, by rw [upd_ne (np q hq')]; exact n, ne, nf, d⟩, I.hok.laidN (fun _ _ e => e) na (exv_ok ha hz hd), I.len⟩
theorem inv_out {a : Addr} {pn' : List (Addr × Obj)} (I : Inv (X.suite a (X.pn ++ pins)) pn' σ H s) (ok : X.Ok) : Inv X pins σ H s :=
  ⟨ok, I.os, I.bare, I.base, I.loc, I.cell, I.free, I.freeC, fun q hq => I.pin q (List.mem_append_left _ hq), I.hok, I.len⟩
end
/-- the clauses -/
inductive Hds (X : Cx) (CT : Nat → Addr) : List ExceptHandler → List Hd → Prop
  | nil : Hds X CT [] []
  | plain {x : Str} {j : Nat} {c : Sx} {b₀ : Stmt} {suite : List Stmt} {np pos' : Pos} {hds : List ExceptHandler} {l : List Hd} (hc : Gl X x ∧ (x == ("__debug__" : Str)) = false ∧ X.mg x = some (.ref (CT j))) (hsu : ∀ (a : Addr) (pn : List (Addr × Obj)), SSs (X.suite a pn) CT W0 (b₀ :: suite) c) (r : Hds X CT hds l) :
      Hds X CT (.ExceptHandler (some (.Name x np)) none (b₀ :: suite) pos' :: hds) (⟨j, none, c⟩ :: l)
  | named {x m : Str} {i j : Nat} {c : Sx} {b₀ : Stmt} {suite : List Stmt} {np pos' : Pos} {hds : List ExceptHandler} {l : List Hd} (hc : Gl X x ∧ (x == ("__debug__" : Str)) = false ∧ X.mg x = some (.ref (CT j))) (hi : X.N[i]? = some m) (hln : X.env.kindOf m = some .local)
      (hsu : ∀ (a : Addr) (pn : List (Addr × Obj)), SSs (X.suite a pn) CT W0 (b₀ :: suite) c) (r : Hds X CT hds l) : Hds X CT (.ExceptHandler (some (.Name x np)) (some m) (b₀ :: suite) pos' :: hds) (⟨j, some i, c⟩ :: l)
section
variable {X : Cx} {CT : Nat → Addr} {Wd : WX} {n : Nat} {mro : Nat → List Nat} {ex xs : Nat → Bool} {pos : Pos}
/-- what is wished of an exception of the body -/
def wTry (K : PySem.W.Frag) (CT : Nat → Addr) (n : Nat) (mro : Nat → List Nat) (xs : Nat → Bool) (Wd : WX) (hl : List Hd) (D : Ends) : WX := fun cls od σ H => ∃ ρ h es x, Sim K CT ρ h H ∧ REnv K CT ρ h.n H es σ ∧ cls = .ref (CT x.k) ∧ XcR K CT ρ h.n H x od ∧ PostS K CT Wd ρ h H (handle n mro xs x es h hl) D
theorem REnv.unset {K : PySem.W.Frag} {ρ : Nat → Addr} {m : Nat} {H : Hp} {es : Env} {σ : St} (E : REnv K CT ρ m H es σ) (i : Nat) : REnv K CT ρ m H (es.set i none) (σ.set i none) := by
  refine ⟨by rw [List.length_set, List.length_set]; exact E.len, fun j u e => ?_⟩
  rw [List.getElem?_set] at e ⊢
  by_cases ij : i = j
  · subst ij
    rw [if_pos rfl] at e
    split at e <;> cases e
  · rw [if_neg ij] at e ⊢
    exact E.at_ j u e
theorem exm_tab (T : CTab X.K CT n mro ex) (xT : ∀ k, xs k = true → XCls X.K (CT k)) {k j : Nat} (hj : j < n) (hk : k < n) (xj : xs j = true) : PySem.W.exmOne X.K (.ref (CT k)) (.ref (CT j)) = some ((mro k).contains j) := by
  refine PySem.W.exm_ref (xT j xj).is.hs (xT j xj).is.hd (xT j xj).ty ?_
  have h := T.oo hk hj
  unfold PySem.W.kitOne at h
  by_cases c : (Value.ref (CT k) == Value.ref (CT j)) = true
  · have e : k = j := T.inj k j hk hj (Value.ref.inj (beq_iff_eq.mp c))
    subst e
    show PySem.W.mroIn X.K (CT k) (.ref (CT k)) = _
    rw [T.mroIn hk, show (mro k).contains k = true by simpa using T.self k hk]
    congr 1
    simp only [List.contains_iff_mem, List.mem_append, List.mem_map]
    exact .inl ⟨k, T.self k hk, rfl⟩
  · rw [if_neg c] at h
    have h2 : (if ((PySem.W.clsIn X.K (CT j)).isSome && PySem.W.typeIn X.K (.ref (CT j)) == some (.type "type")) = true then PySem.W.subIn X.K (.ref (CT k)) (.ref (CT j)) else none) = some ((mro k).contains j) := h
    rw [if_pos (T.cls hj)] at h2
    exact h2
theorem s_try {body : List Stmt} {h₀ : ExceptHandler} {hds : List ExceptHandler} {cb : Sx} {hl : List Hd} (T : CTab X.K CT n mro ex) (xT : ∀ k, xs k = true → XCls X.K (CT k)) (hj : ∀ d ∈ hl, xs d.j = true) (hs : X.stack = X.env :: X.outer) (hf : X.env.frame = some X.env.locals) (hN : X.N.Nodup) (hx : X.ex = []) (tk : Takes X Wd)
    (hb : ∀ (W : WX) (pn : List (Addr × Obj)) (xe : Value → Shared → Prop), Takes (X.tr pn xe) W → PassesOwn (model X.prog X.w) X.A X.env xe → SSs (X.tr pn xe) CT W body cb) (hh : Hds X CT (h₀ :: hds) hl) : SS X CT Wd (.Try body (h₀ :: hds) [] [] pos) (cTry n mro xs cb hl) := by
  refine ⟨fun pins s σ H D I q => ?_⟩
  obtain ⟨ρ, h, es, S, E, pp⟩ := q
  have ok := I.ok
  have hfr : X.A.frames = some (X.env :: X.outer) := by rw [ok.frames, hs]
  refine wpAny_Try_except ?_
  have rd : tSt (X.tr (X.pn ++ pins) X.xe).K CT (wTry X.K CT n mro xs Wd hl D) cb D σ H := by
    refine ⟨ρ, h, es, S, E, ?_⟩
    have p2 : PostS X.K CT Wd ρ h H (match cb es h with
      | .exc x es1 h1 => handle n mro xs x es1 h1 hl
      | r => r) D := pp
    cases g : cb es h with
    | bad => rw [g] at p2; exact p2
    | fl f h1 =>
      rw [g] at p2
      cases f with
      | nx _ => exact p2
      | rt _ => exact p2
      | bk _ => exact p2
      | ct _ => exact p2
    | exc x es1 h1 =>
      rw [g] at p2
      exact fun ρ1 H1 σ1 od N E1 xr => ⟨ρ1, h1, es1, x, N.sim, E1, rfl, xr, PostS.step S N p2⟩
  refine wpAny_mono ((hb (wTry X.K CT n mro xs Wd hl D) (X.pn ++ pins) (fun e s₁ => wpAny (model X.prog X.w) X.A (noteFrame e X.env) (fun _ s₂ => wpAny (model X.prog X.w) X.A (setFlight e none) (fun _ s₃ =>
    wpAny (model X.prog X.w) X.A (handleBy e X.env (h₀ :: hds)) (SP X pins D) X.xe s₃) X.xe s₂) X.xe s₁) (fun u s' xx => ?_) PassesOwn.looking).run [] s σ H D (I.toTry _) rd) (fun f s1 hsp => ?_) (fun e s1 he => he)
  · -- caught
    obtain ⟨a, B, sI, pins', σ', H', cls, d, rfl, J', nb, up, sky, na, os, ag, w⟩ := xx
    have J : Inv X pins σ' H' sI := J'.ofTry ok
    have sky' : Sky B (X.env :: X.outer) a (Zc cls d) X.env.locals s'.heap := by rw [← hs]; exact sky
    show wpAny (model X.prog X.w) X.A (noteFrame (.ref a) X.env) _ _ _
    refine Sky.land Zc.steady hfr hf sky' fun h3 fl3 up3 => ?_
    have J3 : Inv X pins σ' H' { s' with heap := h3 } := J.landed nb fl3.1 (up.trans up3) os ag
    obtain ⟨oe3, vs3, he3, hz3, hd3⟩ := fl3.there
    have nfr : a ∉ frs (X.env :: X.outer) := fun hm => by
      obtain ⟨_, o', e', hnf⟩ := (show h3.FunFrames B (X.env :: X.outer) from fl3.2.2.1).mem hm
      rw [he3] at e'
      cases e'
      exact hnf _ hd3
    have nL : a ≠ X.env.locals := fun z => nfr (List.mem_filterMap.mpr ⟨X.env, List.mem_cons_self, by rw [hf, z]⟩)
    have nF : a ∉ X.fs := fun hm => by
      obtain ⟨e, he, q⟩ := List.mem_filterMap.mp hm
      exact nfr (List.mem_filterMap.mpr ⟨e, List.mem_cons_of_mem _ he, q⟩)
    have nI : sI.heap.get? a = none := by
      cases z : sI.heap.get? a with
      | none => rfl
      | some o =>
        have y := nb a o z (by rw [hs]; exact nfr)
        rw [fl3.2.1] at y
        cases y
    have n0 : X.s_0.heap.get? a = none := by
      cases z : X.s_0.heap.get? a with
      | none => rfl
      | some o =>
        obtain ⟨o', y⟩ := J.base.there a o z (by rw [hx]; simp)
        rw [nI] at y
        cases y
    have npin : ∀ p ∈ X.pn ++ pins, p.1 ≠ a := fun p hp z => by
      obtain ⟨e, _⟩ := J.pin p hp
      rw [z, nI] at e
      cases e
    obtain ⟨ρ1, h1, es1, x, S1, E1, rfl, ⟨vs1, xd1, rs1⟩, w⟩ := w
    have S3 := J3.suite he3 hd3 na nL nF
    have LT : PySem.W.Looks (model X.prog X.w) h3 (typeOf (.ref a)) (.ref (CT x.k)) := fun A Q E s k q => wpAny_typeOf_ref (k _ _ he3) (by rw [hz3.1]; exact q)
    have test : ∀ {y : Str} {j : Nat} {np : Pos} {Q : Value → Shared → Prop} {E : Value → Shared → Prop}, Gl X y ∧ (y == ("__debug__" : Str)) = false ∧ X.mg y = some (.ref (CT j)) → Q (.ref (CT j)) { s' with heap := h3 } →
        wpAny (model X.prog X.w) (X.A.mark (some (.ref a))) (eval (.Name y np) X.env) Q E { s' with heap := h3 } := fun {y j np Q E} hc q => ld_glob (X := X.suite a ((a, oe3) :: (X.pn ++ pins))) S3 hc.1 hc.2.2 q hc.2.1
    have no : handle n mro xs x es1 h1 [] = .exc x es1 h1 := rfl
    have go : ∀ {hds' : List ExceptHandler} {l' : List Hd}, Hds X CT hds' l' → (∀ d ∈ l', xs d.j = true) → PostS X.K CT Wd ρ1 h1 H' (handle n mro xs x es1 h1 l') D → wpAny (model X.prog X.w) X.A (handleBy (.ref a) X.env hds') (SP X pins D) X.xe { s' with heap := h3 } := by
      intro hds' l' hk
      induction hk with
      | nil =>
        intro _ w
        refine wpAny_handleBy_nil ?_
        obtain ⟨k1, k2, k3, oe, vs, TT, oT, ts', he, hz, hd, h1', hr⟩ := id fl3
        unfold PySem.passOn
        refine wpAny_bind (wpAny_field he hd h1' ?_)
        rw [if_neg (show ¬ ((Value.ref TT == Value.none) = true) from by simp)]
        have fin : wpAny (model X.prog X.w) X.A (setFlight (.ref a) X.env.frame) (fun _ s4 => wpAny (model X.prog X.w) X.A (throw (.ref a) : Sem Flow) (SP X pins D) X.xe s4) X.xe { s' with heap := h3 } := by
          rw [hf]
          refine HandSPX.setFlight_upZ fl3 fun h4 hh4 up4 => wpAny_throw (tk _ _ ?_)
          exact ⟨a, B, sI, pins, σ', H', _, d, rfl, J, nb, (up.trans up3).trans up4, .inr (.inr (by rw [hs]; exact hh4)), na, os, ag, w ρ1 H' σ' d (Nxt.refl S1) E1 ⟨vs1, xd1, rs1⟩⟩
        first
          | exact wpAny_bind (wpAny_pure (wpAny_bind fin))
          | exact wpAny_bind fin
      | @plain y j c b₀ suite np pos' hds2 l2 hc hsu r ih =>
        intro hj w
        have w1 : PostS X.K CT Wd ρ1 h1 H' (if xs x.k = true ∧ x.k < n ∧ j < n then (if (mro x.k).contains j then offSlot none (c es1 h1) else handle n mro xs x es1 h1 l2) else .bad) D := w
        by_cases c0 : xs x.k = true ∧ x.k < n ∧ j < n
        · rw [if_pos c0] at w1
          refine wpAny_handleBy_cons (codeAny_handlers_test ?_) (by intro q; cases q)
          have LM := PySem.W.exm_one (M := model X.prog X.w) (J3.kIn) LT (exm_tab T xT c0.2.2 c0.2.1 (hj _ List.mem_cons_self))
          refine test hc (LM.here ?_)
          cases c1 : (mro x.k).contains j with
          | true =>
            rw [c1, if_pos rfl] at w1
            refine codeAny_handlers_suite ?_
            refine HandSPX.lands_againZ fl3 fun h4 fl4 up4 => ?_
            have J4 : Inv X pins σ' H' { s' with heap := h4 } := J.landed nb fl4.1 ((up.trans up3).trans up4) os ag
            obtain ⟨oe4, vs4, he4, hz4, hd4⟩ := fl4.there
            have S4 := inv_track J4 he4 hz4 hd4 na nL n0 npin
            have N4 : Nxt X.K CT ρ1 h1 H' ρ1 h1 (upd H' a (exv a (CT x.k) d)) := Nxt.aside S1 na
            have w2 : PostS X.K CT Wd ρ1 h1 (upd H' a (exv a (CT x.k) d)) (offSlot none (c es1 h1)) D := PostS.step S1 N4 w1
            have rd2 : tSt (X.suite a (X.pn ++ pins)).K CT W0 c D σ' (upd H' a (exv a (CT x.k) d)) := by
              refine ⟨ρ1, h1, es1, N4.sim, E1.keep S1 N4.toFw, ?_⟩
              cases g : c es1 h1 with
              | bad => rw [g] at w2; exact w2.elim
              | exc _ _ _ => rw [g] at w2; exact w2.elim
              | fl f h5 =>
                rw [g] at w2
                cases f with
                | nx _ => exact w2
                | rt _ => exact w2
                | bk _ => exact w2
                | ct _ => exact w2
            refine wpAny_mono ((hsu a (X.pn ++ pins)).run [] _ _ _ _ S4 rd2) (fun f s6 hsp => ?_) (fun _ _ z => False.elim z)
            cases f with
            | next =>
              obtain ⟨σ6, H6, S6, q6⟩ := hsp
              exact ⟨_, _, inv_out S6 ok, q6⟩
            | brk =>
              obtain ⟨σ6, H6, S6, q6⟩ := hsp
              exact ⟨_, _, inv_out S6 ok, q6⟩
            | cont =>
              obtain ⟨σ6, H6, S6, q6⟩ := hsp
              exact ⟨_, _, inv_out S6 ok, q6⟩
            | ret u =>
              obtain ⟨v6, σ6, H6, S6, r6, q6⟩ := hsp
              exact ⟨_, _, _, inv_out S6 ok, r6, q6⟩
          | false =>
            rw [c1, if_neg Bool.false_ne_true] at w1
            exact ih (fun d hd => hj d (List.mem_cons_of_mem _ hd)) w1
        · rw [if_neg c0] at w1
          exact w1.elim
      | @named y m i j c b₀ suite np pos' hds2 l2 hc hi hln hsu r ih =>
        intro hj w
        have w1 : PostS X.K CT Wd ρ1 h1 H' (if xs x.k = true ∧ x.k < n ∧ j < n then (if (mro x.k).contains j then offSlot (some i) (c (es1.set i (some (.exc x.k x.ns x.ws))) h1) else handle n mro xs x es1 h1 l2) else .bad) D := w
        by_cases c0 : xs x.k = true ∧ x.k < n ∧ j < n
        · rw [if_pos c0] at w1
          refine wpAny_handleBy_cons (codeAny_handlers_test ?_) (by intro q; cases q)
          have LM := PySem.W.exm_one (M := model X.prog X.w) (J3.kIn) LT (exm_tab T xT c0.2.2 c0.2.1 (hj _ List.mem_cons_self))
          refine test hc (LM.here ?_)
          cases c1 : (mro x.k).contains j with
          | true =>
            rw [c1, if_pos rfl] at w1
            refine codeAny_handlers_suite_as ?_
            refine HandSPX.lands_againZ fl3 fun h4 fl4 up4 => ?_
            have J4 : Inv X pins σ' H' { s' with heap := h4 } := J.landed nb fl4.1 ((up.trans up3).trans up4) os ag
            obtain ⟨oe4, vs4, he4, hz4, hd4⟩ := fl4.there
            have S4 := inv_track J4 he4 hz4 hd4 na nL n0 npin
            have N4 : Nxt X.K CT ρ1 h1 H' ρ1 h1 (upd H' a (exv a (CT x.k) d)) := Nxt.aside S1 na
            have w2 : PostS X.K CT Wd ρ1 h1 (upd H' a (exv a (CT x.k) d)) (offSlot (some i) (c (es1.set i (some (.exc x.k x.ns x.ws))) h1)) D := PostS.step S1 N4 w1
            have ka : Kp X.K ρ1 h1.n H' ρ1 h1.n (upd H' a (exv a (CT x.k) d)) := Kp.of S1 N4.toFw
            have rx : Rep X.K CT ρ1 h1.n (upd H' a (exv a (CT x.k) d)) (.exc x.k x.ns x.ws) (.ref a) := .exc upd_same (XdAt.kp ka xd1) (Reps.kp ka _ _ rs1)
            refine store_ok (X := X.suite a (X.pn ++ pins)) (v := .ref a) S4 hN hi (.inl hln) rfl (fun s5 S5 => ?_) (.inr hln)
            have rd2 : tSt (X.suite a (X.pn ++ pins)).K CT W0 c { nx := fun σ' H' => D.nx (σ'.set i none) H', rt := D.rt, bk := fun σ' H' => D.bk (σ'.set i none) H', ct := fun σ' H' => D.ct (σ'.set i none) H' } (σ'.set i (some (.ref a))) (upd H' a (exv a (CT x.k) d)) := by
              refine ⟨ρ1, h1, es1.set i (some (.exc x.k x.ns x.ws)), N4.sim, (E1.keep S1 N4.toFw).set rx i, ?_⟩
              cases g : c (es1.set i (some (.exc x.k x.ns x.ws))) h1 with
              | bad => rw [g] at w2; exact w2.elim
              | exc _ _ _ => rw [g] at w2; exact w2.elim
              | fl f h5 =>
                rw [g] at w2
                cases f with
                | nx _ => exact fun ρ6 H6 σ6 N6 E6 => w2 ρ6 H6 _ N6 (E6.unset i)
                | rt _ => exact w2
                | bk _ => exact fun ρ6 H6 σ6 N6 E6 => w2 ρ6 H6 _ N6 (E6.unset i)
                | ct _ => exact fun ρ6 H6 σ6 N6 E6 => w2 ρ6 H6 _ N6 (E6.unset i)
            refine wpAny_mono ((hsu a (X.pn ++ pins)).run [] _ _ _ _ S5 rd2) (fun f s6 hsp => ?_) (fun _ _ z => False.elim z)
            have end_ : ∀ {σ6 : St} {H6 : Hp} {Q : Shared → Prop}, Inv (X.suite a (X.pn ++ pins)) [] σ6 H6 s6 → (∀ s7, Inv X pins (σ6.set i none) H6 s7 → Q s7) →
                wpAny (model X.prog X.w) X.A (do bindName X.env m .none; unbindBehindTheSuite X.env m pos') (fun _ s7 => Q s7) X.xe s6 := fun {σ6 H6 Q} S6 hq => gone_ok (inv_out S6 ok) hN hi hln hq
            cases f with
            | next =>
              obtain ⟨σ6, H6, S6, q6⟩ := hsp
              exact end_ S6 fun s7 J7 => ⟨_, _, J7, q6⟩
            | brk =>
              obtain ⟨σ6, H6, S6, q6⟩ := hsp
              exact end_ S6 fun s7 J7 => ⟨_, _, J7, q6⟩
            | cont =>
              obtain ⟨σ6, H6, S6, q6⟩ := hsp
              exact end_ S6 fun s7 J7 => ⟨_, _, J7, q6⟩
            | ret u =>
              obtain ⟨v6, σ6, H6, S6, r6, q6⟩ := hsp
              exact end_ S6 fun s7 J7 => ⟨_, _, _, J7, r6, q6⟩
          | false =>
            rw [c1, if_neg Bool.false_ne_true] at w1
            exact ih (fun d hd => hj d (List.mem_cons_of_mem _ hd)) w1
        · rw [if_neg c0] at w1
          exact w1.elim
    exact go hh hj w
  · cases f with
    | next =>
      obtain ⟨σ', H', J', q⟩ := hsp
      exact wpAny_execs_nil ⟨σ', H', J'.ofTry ok, q⟩
    | brk =>
      obtain ⟨σ', H', J', q⟩ := hsp
      exact ⟨σ', H', J'.ofTry ok, q⟩
    | cont =>
      obtain ⟨σ', H', J', q⟩ := hsp
      exact ⟨σ', H', J'.ofTry ok, q⟩
    | ret u =>
      obtain ⟨v, σ', H', J', r, q⟩ := hsp
      exact ⟨v, σ', H', J'.ofTry ok, r, q⟩
end
end Sx

set_option linter.all false
set_option autoImplicit false
set_option maxRecDepth 100000
set_option maxHeartbeats 2000000
namespace Sx
open PySem L2
/-! ### enumerate -/
def enumW (ws : List W) (h1 : Hx) : R Cur := match ws with
  | [.ref i] => match h1.get i with
    | some (.lst _) => .ok (.enm i 0) h1
    | _ => .bad
  | _ => .bad
def xEnum (a : Ax) : Ix := fun es h => (a es h).bind fun ws h1 => enumW ws h1
section
variable {K : PySem.W.Frag} {CT ρ : Nat → Addr} {h : Hx} {H : Hp}
theorem its_enm {i : Nat} (hi : i < h.n) : ItS K CT ρ h H (Ite K (ρ i)) (.enm i 0) := by
  refine ⟨fun j c => c = .enm i j, rfl, fun j c e ρ' h' H' N => ?_⟩
  subst e
  show match (match h'.get i with
    | some (.lst xs) => some (xs[j]?.map fun w => (W.tup [.int (j : Nat), w], Cur.enm i (j + 1)))
    | _ => none) with
    | none => True
    | some none => _
    | some (some (w, c')) => _
  cases g : h'.get i with
  | none => exact trivial
  | some o =>
    cases o with
    | dic _ => exact trivial
    | ins _ _ => exact trivial
    | lst xs =>
      obtain ⟨vs, q, rs⟩ := lst_get N.sim g
      rw [N.ext i hi] at q
      show match some (xs[j]?.map fun w => (W.tup [.int (j : Nat), w], Cur.enm i (j + 1))) with
        | none => True
        | some none => _
        | some (some (w, c')) => _
      cases g2 : xs[j]? with
      | none => exact ⟨vs, .of q, by rw [← rs.length]; exact List.getElem?_eq_none_iff.mp g2⟩
      | some w =>
        obtain ⟨v, ev, rv⟩ := rs.get g2
        refine ⟨rfl, ⟨vs, v, .of q, ev⟩, fun x H'' y => ?_⟩
        obtain ⟨T, x0, e1, e2, e3, k⟩ := y
        subst e1
        subst e3
        have := k vs (.of q)
        rw [ev] at this
        cases this
        have N2 : Nxt K CT ρ' h' H' ρ' h' (upd H' T (.tup [.int (j : Nat), v])) := Nxt.aside N.sim e2
        exact ⟨N2, .tup (.inl (.inl upd_same)) (.cons (.int _) (.cons (Rep.keep N.sim N2.toFw _ _ rv) .nil))⟩
end
section
variable {X : Cx} {CT : Nat → Addr} {Wd : WX} {a e tg : Expr} {ar : Ax} {pos p tpos : Pos} {elts : List Expr} {kk : Nat}
theorem si_enum (hg : Gl X "enumerate") (hm : X.mg "enumerate" = none) (ha : SA X CT Wd [e] ar) (hs : starEach [e] X.env = [(false, eval e X.env)] := by rfl) : SI X CT Wd (.Tuple elts kk tpos) (.Call (.Name "enumerate" p) [e] [] pos) (xEnum ar) := (pi_enum hg hm ha hs).wk fun σ H R ⟨ρ, h, es, S, E, q⟩ => by
  refine ⟨ρ, h, es, S, E, ?_⟩
  have q' : PostI X.K CT Wd ρ h H σ ((ar es h).bind fun ws h1 => enumW ws h1) R := q
  cases g : ar es h with
  | bad => rw [g] at q'; exact q'.elim
  | exc x h1 => rw [g] at q'; exact q'
  | ok ws h1 =>
    rw [g] at q'
    intro ρ1 H1 vs N rs
    have q2 : PostI X.K CT Wd ρ h H σ (enumW ws h1) R := q'
    cases rs with
    | nil => exact q2.elim
    | cons r t =>
      cases t with
      | cons _ _ => cases r <;> exact (show False from q2).elim
      | nil =>
        cases r with
        | @ref i hi =>
          have q3 : PostI X.K CT Wd ρ h H σ (match h1.get i with
            | some (.lst _) => .ok (.enm i 0) h1
            | _ => .bad) R := q2
          split at q3
          · rename_i xs gi
            obtain ⟨us, qq, _⟩ := lst_get N.sim gi
            exact ⟨_, us, rfl, .of qq, q3 ρ1 H1 _ N (its_enm hi)⟩
          · exact q3.elim
        | _ => exact (show False from q2).elim
/-- a class of the text, as a value -/
theorem se_cl {x : Str} {k : Nat} (hg : Gl X x) (hm : X.mg x = some (.ref (CT k))) (hd : (x == ("__debug__" : Str)) = false := by decide) : SE X CT Wd (.Name x p) (xC (.cl k)) :=
  se_c (pe_glob (v := .ref (CT k)) hg hm rfl hd) fun _ _ _ => .cl k
end
end Sx

set_option linter.all false
set_option autoImplicit false
set_option maxRecDepth 100000
set_option maxHeartbeats 2000000
namespace Sx
open PySem L2
/-! ### the classes of the text, by one look -/
open PySem.W in
def xclsB (K : Frag) (C : Addr) : Bool := excInitIn K C exT "Exception.__new__" && excOver K C exT && findIn K (.ref C) "__setattr__" == some (some (.builtin "object.__setattr__")) && typeIn K (.ref C) == some (.type "type") && keepIn K (.ref C) &&
  (findIn K (.ref C) "__getattribute__" == some (some (.builtin "BaseException.__getattribute__")) && findIn K (.ref C) "__getattr__" == some none && subIn K (.ref C) (.type "BaseException") == some true && hasDictIn K C &&
  findIn K (.ref C) "__class__" == some (some (.builtin "object.__class__")) && specialIn K (.builtin "object.__class__") "__get__" == some (some (.builtin "getset_descriptor.__get__")) && takesIn K (.builtin "object.__class__") == some true && mroIn K C (.type "object") == some true)
theorem xcls_of {K : PySem.W.Frag} {C : Addr} (h : xclsB K C = true) : XCls K C := by
  unfold xclsB at h
  simp only [Bool.and_eq_true, beq_iff_eq] at h
  obtain ⟨⟨⟨⟨⟨h1, h2⟩, h3⟩, h4⟩, h5⟩, ⟨⟨⟨⟨⟨⟨⟨g1, g2⟩, g3⟩, g4⟩, g5⟩, g6⟩, g7⟩, g8⟩⟩ := h
  exact ⟨h1, h2, h3, ⟨g1, g2, g3, g4, g5, g6, g7, g8⟩, h4, h5⟩
/-- where the classes lie -/
abbrev ctOf (cs : List Addr) : Nat → Addr := fun k => cs.getD k 0
open PySem.W in
def ctabB (K : Frag) (cs : List Addr) (mro : List (List Nat)) (ex : List Bool) : Bool := decide cs.Nodup && (List.range cs.length).all fun k => typeIn K (.ref (ctOf cs k)) == some (.type "type") &&
  (clsIn K (ctOf cs k)).map (·.mro) == some ((mro.getD k []).map (fun j => Value.ref (ctOf cs j)) ++ (if ex.getD k false then exT else [.type "object"])) && (mro.getD k []).all (fun j => decide (j < cs.length)) && (mro.getD k []).contains k && (!ex.getD k false || xclsB K (ctOf cs k))
theorem ctab_of {K : PySem.W.Frag} {cs : List Addr} {mro : List (List Nat)} {ex : List Bool} (h : ctabB K cs mro ex = true) : CTab K (ctOf cs) cs.length (fun k => mro.getD k []) (fun k => ex.getD k false) ∧ ∀ k, (decide (k < cs.length) && ex.getD k false) = true → XCls K (ctOf cs k) := by
  unfold ctabB at h
  rw [Bool.and_eq_true, decide_eq_true_eq] at h
  obtain ⟨nd, al⟩ := h
  have each : ∀ k, k < cs.length → _ := fun k hk => List.all_eq_true.mp al k (List.mem_range.mpr hk)
  simp only [Bool.and_eq_true, beq_iff_eq] at each
  refine ⟨⟨fun k hk => (each k hk).1.1.1.1, fun k hk => (each k hk).1.1.1.2, fun k hk j hj => ?_, fun k hk => List.contains_iff_mem.mp (each k hk).1.2, fun i j hi hj e => ?_⟩, fun k hk => ?_⟩
  · exact of_decide_eq_true (List.all_eq_true.mp (each k hk).1.1.2 j hj)
  · have e1 : cs[i] = cs[j] := by
      have := e
      unfold ctOf at this
      rw [List.getD_eq_getElem?_getD, List.getD_eq_getElem?_getD, List.getElem?_eq_getElem hi, List.getElem?_eq_getElem hj] at this
      exact this
    exact (List.getElem_inj nd).mp e1
  · rw [Bool.and_eq_true, decide_eq_true_eq] at hk
    have q := (each k hk.1).2
    rw [hk.2] at q
    exact xcls_of (by simpa using q)
theorem xini_of {K : PySem.W.Frag} {C fI : Addr} {f qual : Str} {oc : Value} {od : Option Addr} {doc pm : Value} {an : Option Addr} {cdv ct : Value} {osl : Array (Option Value)} {p1 p2 q1 q2 q3 q4 : Pos} (no : PySem.W.findIn K (.ref C) f = some none) (a : PySem.W.findIn K (.ref C) "__init__" = some (some (.ref fI)))
    (t : PySem.W.typeIn K (.ref fI) = some (.type "function")) (l : K.lookup fI = some ⟨oc, od, .func (PySem.W.fnOf "__init__" qual (initArgs f p1 p2) (initBody f q1 q2 q3 q4) (initScope f) .none .none doc pm an cdv ct), osl⟩) (c : PySem.W.codeIn K cdv qual = true) : XIni K C f :=
  ⟨no, fI, qual, oc, od, doc, pm, an, cdv, ct, osl, p1, p2, q1, q2, q3, q4, a, t, l, c⟩
/-- the law's promise, wherever the classes lie -/
def spAll (K : PySem.W.Frag) (f : Fn) : Sp := fun vs H Q E => ∀ CT, spOf K CT f vs H Q E
end Sx

set_option linter.all false
set_option maxRecDepth 100000
set_option maxHeartbeats 4000000
namespace Lw
open PySem L2 Sx
def topS (i : Nat) : Stmt := PySem.Challenge.pw_maskedlevels_k44_classes_of_errors.main.body.getD i (.Pass ⟨0, 0, 0, 0⟩)
abbrev s__law_numbers : Stmt := topS 24
abbrev s__law_draw : Stmt := topS 26
abbrev s__law_objects : Stmt := topS 28
abbrev s__law_classes : Stmt := topS 29
abbrev s__law_fields : Stmt := topS 30
abbrev s__law_caught : Stmt := topS 31
abbrev s__law_pool : Stmt := topS 25
abbrev s__law_opened : Stmt := topS 27
abbrev s_law : Stmt := topS 32
theorem sc__law_numbers : FnScope ["_law_cell", "_law_salt", "_law_sizes", "_law_whole", "_law_left", "_law_result", "_law_k", "_law_one"] ["_law_cell", "_law_salt", "_law_sizes"] (defScope s__law_numbers) := ⟨rfl, rfl, rfl, by decide +kernel, rfl, by decide +kernel, by decide +kernel⟩
theorem sc__law_draw : FnScope ["_law_pool_here", "_law_many", "_law_at"] ["_law_pool_here", "_law_many"] (defScope s__law_draw) := ⟨rfl, rfl, rfl, by decide +kernel, rfl, by decide +kernel, by decide +kernel⟩
theorem sc__law_objects : FnScope ["_law_thing", "_law_found"] ["_law_thing"] (defScope s__law_objects) := ⟨rfl, rfl, rfl, by decide +kernel, rfl, by decide +kernel, by decide +kernel⟩
theorem sc__law_classes : FnScope ["_law_one", "_law_found"] ["_law_one"] (defScope s__law_classes) := ⟨rfl, rfl, rfl, by decide +kernel, rfl, by decide +kernel, by decide +kernel⟩
theorem sc__law_fields : FnScope ["_law_thing", "_law_found"] ["_law_thing"] (defScope s__law_fields) := ⟨rfl, rfl, rfl, by decide +kernel, rfl, by decide +kernel, by decide +kernel⟩
theorem sc__law_caught : FnScope ["_law_thing", "e"] ["_law_thing"] (defScope s__law_caught) := ⟨rfl, rfl, rfl, by decide +kernel, rfl, by decide +kernel, by decide +kernel⟩
theorem sc__law_pool : FnScope ["_law_cell", "_law_salt", "_law_many"] ["_law_cell", "_law_salt", "_law_many"] (defScope s__law_pool) := ⟨rfl, rfl, rfl, by decide +kernel, rfl, by decide +kernel, by decide +kernel⟩
theorem sc__law_opened : FnScope ["_law_script", "_law_k", "_law_many", "_law_cell"] ["_law_script", "_law_k", "_law_many"] (defScope s__law_opened) := ⟨rfl, rfl, rfl, by decide +kernel, rfl, by decide +kernel, by decide +kernel⟩
theorem sc_law : FnScope ["_law_script", "_law_k", "_law_pool_here", "_law_amount", "_law_thing", "_law_place", "_law_one", "_law_j"] ["_law_script"] (defScope s_law) := ⟨rfl, rfl, rfl, by decide +kernel, rfl, by decide +kernel, by decide +kernel⟩
/-! ### the plain functions -/
abbrev nCls : Nat := 22
abbrev mroL : List (List Nat) := [[0], [1, 0], [2, 0], [3, 0], [4, 0], [5, 0], [6, 0], [7, 0], [8, 0], [9, 0], [10, 0], [11, 0], [12, 0], [13, 0], [14, 0], [15, 0], [16, 0], [17, 0], [18, 0], [19, 0], [20, 0], [21, 0]]
abbrev exL : List Bool := [true, true, true, true, true, true, true, true, true, true, true, true, true, true, true, true, true, true, true, true, true, true]
abbrev mroT : Nat → List Nat := fun k => mroL.getD k []
abbrev exB : Nat → Bool := fun k => decide (k < nCls) && exL.getD k false
def c__law_objects : Sx :=
    (cSeq (cAsg (xLst (xCons (xExc 1 "value" (xCons (xVar 0) xNil)) (xCons (xExc 2 "part" (xCons (xVar 0) xNil)) (xCons (xExc 3 "value" (xCons (xVar 0) xNil)) (xCons (xExc 4 "value" (xCons (xVar 0) xNil)) (xCons (xExc 5 "value" (xCons (xVar 0) xNil)) (xCons (xExc 6 "value" (xCons (xVar 0) xNil)) xNil))))))) (gxName 1))
    (cSeq (cAsg (xOp addW (xVar 1) (xLst (xCons (xExc 7 "value" (xCons (xVar 0) xNil)) (xCons (xExc 8 "value" (xCons (xVar 0) xNil)) (xCons (xExc 9 "value" (xCons (xVar 0) xNil)) (xCons (xExc 10 "at" (xCons (xVar 0) xNil)) (xCons (xExc 11 "value" (xCons (xVar 0) xNil)) (xCons (xExc 12 "value" (xCons (xVar 0) xNil)) xNil)))))))) (gxName 1))
    (cSeq (cAsg (xOp addW (xVar 1) (xLst (xCons (xExc 13 "value" (xCons (xVar 0) xNil)) (xCons (xExc 14 "value" (xCons (xVar 0) xNil)) (xCons (xExc 15 "value" (xCons (xVar 0) xNil)) (xCons (xExc 16 "at" (xCons (xVar 0) xNil)) (xCons (xExc 18 "number" (xCons (xVar 0) xNil)) (xCons (xExc 19 "claim" (xCons (xVar 0) xNil)) xNil)))))))) (gxName 1))
    (cRet (xOp addW (xVar 1) (xLst (xCons (xExc 20 "row" (xCons (xVar 0) xNil)) (xCons (xExc0 17) (xCons (xExc0 21) xNil)))))))))
def f__law_objects : Fn := mkFn0 1 2 c__law_objects
def c__law_classes : Sx :=
    (cSeq (cAsg (xLst (xCons (xCallB (isiT nCls mroT exB) (xCons (xVar 0) (xCons (xC (.cl 1)) xNil))) (xCons (xCallB (isiT nCls mroT exB) (xCons (xVar 0) (xCons (xC (.cl 2)) xNil))) (xCons (xCallB (isiT nCls mroT exB) (xCons (xVar 0) (xCons (xC (.cl 3)) xNil))) xNil)))) (gxName 1))
    (cSeq (cAsg (xOp addW (xVar 1) (xLst (xCons (xCallB (isiT nCls mroT exB) (xCons (xVar 0) (xCons (xC (.cl 4)) xNil))) (xCons (xCallB (isiT nCls mroT exB) (xCons (xVar 0) (xCons (xC (.cl 5)) xNil))) (xCons (xCallB (isiT nCls mroT exB) (xCons (xVar 0) (xCons (xC (.cl 6)) xNil))) xNil))))) (gxName 1))
    (cSeq (cAsg (xOp addW (xVar 1) (xLst (xCons (xCallB (isiT nCls mroT exB) (xCons (xVar 0) (xCons (xC (.cl 7)) xNil))) (xCons (xCallB (isiT nCls mroT exB) (xCons (xVar 0) (xCons (xC (.cl 8)) xNil))) (xCons (xCallB (isiT nCls mroT exB) (xCons (xVar 0) (xCons (xC (.cl 9)) xNil))) xNil))))) (gxName 1))
    (cSeq (cAsg (xOp addW (xVar 1) (xLst (xCons (xCallB (isiT nCls mroT exB) (xCons (xVar 0) (xCons (xC (.cl 10)) xNil))) (xCons (xCallB (isiT nCls mroT exB) (xCons (xVar 0) (xCons (xC (.cl 11)) xNil))) (xCons (xCallB (isiT nCls mroT exB) (xCons (xVar 0) (xCons (xC (.cl 12)) xNil))) xNil))))) (gxName 1))
    (cSeq (cAsg (xOp addW (xVar 1) (xLst (xCons (xCallB (isiT nCls mroT exB) (xCons (xVar 0) (xCons (xC (.cl 13)) xNil))) (xCons (xCallB (isiT nCls mroT exB) (xCons (xVar 0) (xCons (xC (.cl 14)) xNil))) (xCons (xCallB (isiT nCls mroT exB) (xCons (xVar 0) (xCons (xC (.cl 15)) xNil))) xNil))))) (gxName 1))
    (cSeq (cAsg (xOp addW (xVar 1) (xLst (xCons (xCallB (isiT nCls mroT exB) (xCons (xVar 0) (xCons (xC (.cl 16)) xNil))) (xCons (xCallB (isiT nCls mroT exB) (xCons (xVar 0) (xCons (xC (.cl 18)) xNil))) (xCons (xCallB (isiT nCls mroT exB) (xCons (xVar 0) (xCons (xC (.cl 19)) xNil))) xNil))))) (gxName 1))
    (cRet (xOp addW (xVar 1) (xLst (xCons (xCallB (isiT nCls mroT exB) (xCons (xVar 0) (xCons (xC (.cl 20)) xNil))) (xCons (xCallB (isiT nCls mroT exB) (xCons (xVar 0) (xCons (xC (.cl 17)) xNil))) (xCons (xCallB (isiT nCls mroT exB) (xCons (xVar 0) (xCons (xC (.cl 21)) xNil))) xNil))))))))))))
def f__law_classes : Fn := mkFn0 1 2 c__law_classes
def c__law_fields : Sx :=
    (cSeq (cAsg (xLst (xCons (xUn (fieldW (fun k => [1, 3, 4, 5, 6, 7, 8, 9, 11, 12, 13, 14, 15].contains k) "value") (xExc 1 "value" (xCons (xVar 0) xNil))) (xCons (xUn (fieldW (fun k => [2].contains k) "part") (xExc 2 "part" (xCons (xVar 0) xNil))) (xCons (xUn (fieldW (fun k => [1, 3, 4, 5, 6, 7, 8, 9, 11, 12, 13, 14, 15].contains k) "value") (xExc 3 "value" (xCons (xVar 0) xNil))) xNil)))) (gxName 1))
    (cSeq (cAsg (xOp addW (xVar 1) (xLst (xCons (xUn (fieldW (fun k => [1, 3, 4, 5, 6, 7, 8, 9, 11, 12, 13, 14, 15].contains k) "value") (xExc 4 "value" (xCons (xVar 0) xNil))) (xCons (xUn (fieldW (fun k => [1, 3, 4, 5, 6, 7, 8, 9, 11, 12, 13, 14, 15].contains k) "value") (xExc 5 "value" (xCons (xVar 0) xNil))) (xCons (xUn (fieldW (fun k => [1, 3, 4, 5, 6, 7, 8, 9, 11, 12, 13, 14, 15].contains k) "value") (xExc 6 "value" (xCons (xVar 0) xNil))) xNil))))) (gxName 1))
    (cSeq (cAsg (xOp addW (xVar 1) (xLst (xCons (xUn (fieldW (fun k => [1, 3, 4, 5, 6, 7, 8, 9, 11, 12, 13, 14, 15].contains k) "value") (xExc 7 "value" (xCons (xVar 0) xNil))) (xCons (xUn (fieldW (fun k => [1, 3, 4, 5, 6, 7, 8, 9, 11, 12, 13, 14, 15].contains k) "value") (xExc 8 "value" (xCons (xVar 0) xNil))) (xCons (xUn (fieldW (fun k => [1, 3, 4, 5, 6, 7, 8, 9, 11, 12, 13, 14, 15].contains k) "value") (xExc 9 "value" (xCons (xVar 0) xNil))) xNil))))) (gxName 1))
    (cSeq (cAsg (xOp addW (xVar 1) (xLst (xCons (xUn (fieldW (fun k => [10, 16].contains k) "at") (xExc 10 "at" (xCons (xVar 0) xNil))) (xCons (xUn (fieldW (fun k => [1, 3, 4, 5, 6, 7, 8, 9, 11, 12, 13, 14, 15].contains k) "value") (xExc 11 "value" (xCons (xVar 0) xNil))) (xCons (xUn (fieldW (fun k => [1, 3, 4, 5, 6, 7, 8, 9, 11, 12, 13, 14, 15].contains k) "value") (xExc 12 "value" (xCons (xVar 0) xNil))) xNil))))) (gxName 1))
    (cSeq (cAsg (xOp addW (xVar 1) (xLst (xCons (xUn (fieldW (fun k => [1, 3, 4, 5, 6, 7, 8, 9, 11, 12, 13, 14, 15].contains k) "value") (xExc 13 "value" (xCons (xVar 0) xNil))) (xCons (xUn (fieldW (fun k => [1, 3, 4, 5, 6, 7, 8, 9, 11, 12, 13, 14, 15].contains k) "value") (xExc 14 "value" (xCons (xVar 0) xNil))) (xCons (xUn (fieldW (fun k => [1, 3, 4, 5, 6, 7, 8, 9, 11, 12, 13, 14, 15].contains k) "value") (xExc 15 "value" (xCons (xVar 0) xNil))) xNil))))) (gxName 1))
    (cRet (xOp addW (xVar 1) (xLst (xCons (xUn (fieldW (fun k => [10, 16].contains k) "at") (xExc 16 "at" (xCons (xVar 0) xNil))) (xCons (xUn (fieldW (fun k => [18].contains k) "number") (xExc 18 "number" (xCons (xVar 0) xNil))) (xCons (xUn (fieldW (fun k => [19].contains k) "claim") (xExc 19 "claim" (xCons (xVar 0) xNil))) (xCons (xUn (fieldW (fun k => [20].contains k) "row") (xExc 20 "row" (xCons (xVar 0) xNil))) xNil))))))))))))
def f__law_fields : Fn := mkFn0 1 2 c__law_fields
def h__law_caught_1 : Sx :=
    (cRet (xC (.str [108, 101, 118, 101, 108])))
def h__law_caught_2 : Sx :=
    (cRet (xC (.str [109, 97, 115, 107])))
def t__law_caught_3 : Sx :=
    (cRaise 6 "value" (xCons (xVar 0) xNil))
def c__law_caught : Sx :=
    (cTry nCls mroT exB t__law_caught_3 [⟨7, some 1, h__law_caught_2⟩, ⟨0, some 1, h__law_caught_1⟩])
def f__law_caught : Fn := mkFn0 1 2 c__law_caught
def b_law_1 : Sx :=
    (cSeq (cIf (xBl (xOp neW (xCall f__law_classes (xCons (xVar 6) xNil)) (xLc (xRng1 (xCons (xC (.int 21)) xNil)) (gxName 7) xYesT (xOp eqW (xVar 5) (xVar 7)) [7]))) (cRet (xC (.bl false))) cNil)
    (cIf (xNotT (xTru (xCallB (isiT nCls mroT exB) (xCons (xVar 6) (xCons (xC (.cl 0)) xNil))))) (cRet (xC (.bl false))) cNil))
def b_law_2 : Sx :=
    (cSeq (cIf (xOrT (xBl (xOp neW (xCall f__law_fields (xCons (xVar 4) xNil)) (xOp mulW (xLst (xCons (xVar 4) xNil)) (xC (.int 19))))) (xBl (xOp neW (xCall f__law_caught (xCons (xVar 4) xNil)) (xC (.str [108, 101, 118, 101, 108]))))) (cRet (xC (.bl false))) cNil)
    (cFor (xEnum (xCons (xCall f__law_objects (xCons (xVar 4) xNil)) xNil)) (gxTup [5, 6]) b_law_1))
def b_law_3 : Sx :=
    (cSeq (cAsg (xCall f__law_opened (xCons (xVar 0) (xCons (xVar 1) (xCons (xC (.int 4)) xNil)))) (gxName 2))
    (cSeq (cAsg (xCall f__law_draw (xCons (xVar 2) (xCons (xC (.int 400)) xNil))) (gxName 3))
    (cFor (xIt (xLst (xCons (xVar 3) (xCons (xCallB strW (xCons (xVar 3) xNil)) (xCons (xLst (xCons (xVar 3) xNil)) (xCons (xC .non) xNil)))))) (gxName 4) b_law_2)))
def c_law : Sx :=
    (cSeq (cFor (xRng1 (xCons (xCallB max2W (xCons (xC (.int 1)) (xCons (xCallB min2W (xCons (xCallB lenW (xCons (xVar 0) xNil)) (xCons (xC (.int 6)) xNil))) xNil))) xNil)) (gxName 1) b_law_3)
    (cRet (xC (.bl true))))
def f_law : Fn := mkFn0 1 8 c_law
/-! ### what the top has left -/
structure Txt (K : PySem.W.Frag) (mg : Str → Option Value) where
  _law_numbers : DefAt K mg "_law_numbers" s__law_numbers ["_law_cell", "_law_salt", "_law_sizes"]
  _law_draw : DefAt K mg "_law_draw" s__law_draw ["_law_pool_here", "_law_many"]
  _law_objects : DefAt K mg "_law_objects" s__law_objects ["_law_thing"]
  _law_classes : DefAt K mg "_law_classes" s__law_classes ["_law_one"]
  _law_fields : DefAt K mg "_law_fields" s__law_fields ["_law_thing"]
  _law_caught : DefAt K mg "_law_caught" s__law_caught ["_law_thing"]
  _law_pool : DefAt K mg "_law_pool" s__law_pool ["_law_cell", "_law_salt", "_law_many"]
  _law_opened : DefAt K mg "_law_opened" s__law_opened ["_law_script", "_law_k", "_law_many"]
  law : DefAt K mg "law" s_law ["_law_script"]
  C : Nat → Addr
  c_LevelError : mg "LevelError" = some (.ref (C 0))
  c_BadArgument : mg "BadArgument" = some (.ref (C 1))
  c_BadProgram : mg "BadProgram" = some (.ref (C 2))
  c_BadProcedure : mg "BadProcedure" = some (.ref (C 3))
  c_BadPoint : mg "BadPoint" = some (.ref (C 4))
  c_BadLine : mg "BadLine" = some (.ref (C 5))
  c_BadStore : mg "BadStore" = some (.ref (C 6))
  c_BadMask : mg "BadMask" = some (.ref (C 7))
  c_BadGuards : mg "BadGuards" = some (.ref (C 8))
  c_BadMove : mg "BadMove" = some (.ref (C 9))
  c_BadScript : mg "BadScript" = some (.ref (C 10))
  c_BadNumber : mg "BadNumber" = some (.ref (C 11))
  c_BadCell : mg "BadCell" = some (.ref (C 12))
  c_BadSection : mg "BadSection" = some (.ref (C 13))
  c_BadChange : mg "BadChange" = some (.ref (C 14))
  c_BadWish : mg "BadWish" = some (.ref (C 15))
  c_BadText : mg "BadText" = some (.ref (C 16))
  c_AtRest : mg "AtRest" = some (.ref (C 17))
  c_TooMany : mg "TooMany" = some (.ref (C 18))
  c_Broken : mg "Broken" = some (.ref (C 19))
  c_NoRow : mg "NoRow" = some (.ref (C 20))
  c_NothingLeft : mg "NothingLeft" = some (.ref (C 21))
  tab : CTab K C nCls mroT (fun k => exL.getD k false)
  xA : ∀ k, exB k = true → XCls K (C k)
  n_0 : PySem.W.excIn K (C 0) exT "Exception.__new__" = true ∧ PySem.W.keepIn K (.ref (C 0)) = true
  i_1 : XIni K (C 1) "value"
  i_2 : XIni K (C 2) "part"
  i_3 : XIni K (C 3) "value"
  i_4 : XIni K (C 4) "value"
  i_5 : XIni K (C 5) "value"
  i_6 : XIni K (C 6) "value"
  i_7 : XIni K (C 7) "value"
  i_8 : XIni K (C 8) "value"
  i_9 : XIni K (C 9) "value"
  i_10 : XIni K (C 10) "at"
  i_11 : XIni K (C 11) "value"
  i_12 : XIni K (C 12) "value"
  i_13 : XIni K (C 13) "value"
  i_14 : XIni K (C 14) "value"
  i_15 : XIni K (C 15) "value"
  i_16 : XIni K (C 16) "at"
  n_17 : PySem.W.excIn K (C 17) exT "Exception.__new__" = true ∧ PySem.W.keepIn K (.ref (C 17)) = true
  i_18 : XIni K (C 18) "number"
  i_19 : XIni K (C 19) "claim"
  i_20 : XIni K (C 20) "row"
  n_21 : PySem.W.excIn K (C 21) exT "Exception.__new__" = true ∧ PySem.W.keepIn K (.ref (C 21)) = true
  f_at : ∀ k, [10, 16].contains k = true → XCls K (C k) ∧ PySem.W.findIn K (.ref (C k)) "at" = some none
  f_claim : ∀ k, [19].contains k = true → XCls K (C k) ∧ PySem.W.findIn K (.ref (C k)) "claim" = some none
  f_number : ∀ k, [18].contains k = true → XCls K (C k) ∧ PySem.W.findIn K (.ref (C k)) "number" = some none
  f_part : ∀ k, [2].contains k = true → XCls K (C k) ∧ PySem.W.findIn K (.ref (C k)) "part" = some none
  f_row : ∀ k, [20].contains k = true → XCls K (C k) ∧ PySem.W.findIn K (.ref (C k)) "row" = some none
  f_value : ∀ k, [1, 3, 4, 5, 6, 7, 8, 9, 11, 12, 13, 14, 15].contains k = true → XCls K (C k) ∧ PySem.W.findIn K (.ref (C k)) "value" = some none
  b_enumerate : mg "enumerate" = none
  b_int : mg "int" = none
  b_isinstance : mg "isinstance" = none
  b_len : mg "len" = none
  b_max : mg "max" = none
  b_min : mg "min" = none
  b_range : mg "range" = none
  b_str : mg "str" = none
section
variable {P : Program} {w : World} {K : PySem.W.Frag} {mg : Str → Option Value} {base : Heap} (T : Txt K mg)
theorem G__law_numbers : FnOk P w K mg base CX0 1 T._law_numbers.f T._law_numbers.fd ["_law_cell", "_law_salt", "_law_sizes"] (spOf K T.C f__law_numbers) :=
  fn_ok0 T._law_numbers.F sc__law_numbers fun cdv A outer s H E hr =>
    (ss_cons (s_set (i := 3) sc__law_numbers.nd rfl (.inl rfl) (se_callB (call_max2 rfl) cs_max2 (by rfl) T.b_max (by decide +kernel) (sa_cons (se_callTy call_int1 cs_int (by rfl) T.b_int (by decide +kernel) (sa_cons (se_var (pv 0)) sa_nil)) (sa_cons (se_callTy call_int1 cs_int (by rfl) T.b_int (by decide +kernel) (sa_cons (se_op op_sub os_sub (se_un un_neg us_neg se_int) (se_var (pv 0))) sa_nil)) sa_nil))))
    (ss_cons (s_set (i := 4) sc__law_numbers.nd rfl (.inl rfl) (se_var (pv 3)))
    (ss_cons (s_set (i := 5) sc__law_numbers.nd rfl (.inl rfl) (se_lst sa_nil))
    (ss_cons (s_for PassesOwn.never rfl (si_range1 (by rfl) T.b_range (sa_cons (se_callB (callR_or call_len call_lenD) cs_len (by rfl) T.b_len (by decide +kernel) (sa_cons (se_var (pv 2)) sa_nil)) sa_nil)) (sg_name (pg_name (i := 6) sc__law_numbers.nd rfl (.inl rfl)))
    (ss_one (s_if (st_w (sw_and (st_cmp op_ge os_ge (se_var (pv 3)) (se_op op_pow os_pow se_int se_int) (nomark _)) (sw_and1 (st_cmp op_gt os_gt (se_var (pv 4)) se_int (nomark _))))) (ss_cons (s_expr (se_bm (T := .list) (se_var (pv 5)) (sa_cons (se_op op_mod os_mod (se_callTy call_int1 cs_int (by rfl) T.b_int (by decide +kernel) (sa_cons (se_var (pv 4)) sa_nil)) (se_ix (se_var (pv 2)) (se_var (pv 6)) (fun _ _ => rfl))) sa_nil) ms_append (fun a b => pe_bm PySem.F.plainAttrs_list PySem.F.slot_list_append PySem.F.type_list_append mt_append a b)))
    (ss_one (s_set (i := 4) sc__law_numbers.nd rfl (.inl rfl) (se_op op_fdiv os_fdiv (se_var (pv 4)) (se_ix (se_var (pv 2)) (se_var (pv 6)) (fun _ _ => rfl)))))) (ss_cons (s_set (i := 7) sc__law_numbers.nd rfl (.inl rfl) (se_op op_pow os_pow (se_op or_add os_add (se_op or_add os_add (se_op op_mod os_mod (se_callTy call_int1 cs_int (by rfl) T.b_int (by decide +kernel) (sa_cons (se_var (pv 3)) sa_nil)) se_int) (se_op or_mul os_mul se_int (se_var (pv 1)))) se_int) se_int))
    (ss_cons (s_set (i := 7) sc__law_numbers.nd rfl (.inl rfl) (se_op or_mul os_mul (se_op or_add os_add (se_op op_mod os_mod (se_callTy call_int1 cs_int (by rfl) T.b_int (by decide +kernel) (sa_cons (se_var (pv 7)) sa_nil)) se_int) (se_op or_mul os_mul se_int (se_op or_add os_add (se_var (pv 6)) se_int))) (se_op or_add os_add (se_var (pv 6)) se_int)))
    (ss_cons (s_set (i := 7) sc__law_numbers.nd rfl (.inl rfl) (se_op op_mod os_mod (se_callTy call_int1 cs_int (by rfl) T.b_int (by decide +kernel) (sa_cons (se_var (pv 7)) sa_nil)) se_int))
    (ss_cons (s_set (i := 7) sc__law_numbers.nd rfl (.inl rfl) (se_op or_mul os_mul (se_op op_mod os_mod (se_callTy call_int1 cs_int (by rfl) T.b_int (by decide +kernel) (sa_cons (se_op op_pow os_pow (se_var (pv 7)) se_int) sa_nil)) se_int) se_int))
    (ss_cons (s_set (i := 7) sc__law_numbers.nd rfl (.inl rfl) (se_op op_mod os_mod (se_callTy call_int1 cs_int (by rfl) T.b_int (by decide +kernel) (sa_cons (se_var (pv 7)) sa_nil)) se_int))
    (ss_one (s_expr (se_bm (T := .list) (se_var (pv 5)) (sa_cons (se_op op_mod os_mod (se_callTy call_int1 cs_int (by rfl) T.b_int (by decide +kernel) (sa_cons (se_op op_fdiv os_fdiv (se_var (pv 7)) se_int) sa_nil)) (se_ix (se_var (pv 2)) (se_var (pv 6)) (fun _ _ => rfl))) sa_nil) ms_append (fun a b => pe_bm PySem.F.plainAttrs_list PySem.F.slot_list_append PySem.F.type_list_append mt_append a b))))))))))))
    (ss_one (s_ret (se_var (pv 5))))))))
theorem G__law_draw : FnOk P w K mg base CX0 1 T._law_draw.f T._law_draw.fd ["_law_pool_here", "_law_many"] (spOf K T.C f__law_draw) :=
  fn_ok0 T._law_draw.F sc__law_draw fun cdv A outer s H E hr =>
    (ss_cons (s_set (i := 2) sc__law_draw.nd rfl (.inl rfl) (se_ix (se_var (pv 0)) se_int (fun _ _ => rfl)))
    (ss_cons (s_asg (se_op or_add os_add (se_var (pv 2)) se_int) (sg_sub (se_var (pv 0)) se_int (fun a b c => pg_sub a b c)) (fun a b => ps_asg a b))
    (ss_one (s_ret (se_if (st_cmp op_lt os_lt (se_var (pv 2)) (se_callB (callR_or call_len call_lenD) cs_len (by rfl) T.b_len (by decide +kernel) (sa_cons (se_ix (se_var (pv 0)) se_int (fun _ _ => rfl)) sa_nil)) (nomark _)) (se_op op_mod os_mod (se_callTy call_int1 cs_int (by rfl) T.b_int (by decide +kernel) (sa_cons (se_ix (se_ix (se_var (pv 0)) se_int (fun _ _ => rfl)) (se_var (pv 2)) (fun _ _ => rfl)) sa_nil)) (se_var (pv 1))) se_int)))))
theorem G__law_objects : FnOk P w K mg base CX0 1 T._law_objects.f T._law_objects.fd ["_law_thing"] (spOf K T.C f__law_objects) :=
  fn_ok0 T._law_objects.F sc__law_objects fun cdv A outer s H E hr =>
    (ss_cons (s_set (i := 1) sc__law_objects.nd rfl (.inl rfl) (se_lst (sa_cons (se_exc (k := 1) (T.xA 1 (by decide)) T.i_1 hr (by rfl) T.c_BadArgument (sa_cons (se_var (pv 0)) sa_nil)) (sa_cons (se_exc (k := 2) (T.xA 2 (by decide)) T.i_2 hr (by rfl) T.c_BadProgram (sa_cons (se_var (pv 0)) sa_nil)) (sa_cons (se_exc (k := 3) (T.xA 3 (by decide)) T.i_3 hr (by rfl) T.c_BadProcedure (sa_cons (se_var (pv 0)) sa_nil)) (sa_cons (se_exc (k := 4) (T.xA 4 (by decide)) T.i_4 hr (by rfl) T.c_BadPoint (sa_cons (se_var (pv 0)) sa_nil)) (sa_cons (se_exc (k := 5) (T.xA 5 (by decide)) T.i_5 hr (by rfl) T.c_BadLine (sa_cons (se_var (pv 0)) sa_nil)) (sa_cons (se_exc (k := 6) (T.xA 6 (by decide)) T.i_6 hr (by rfl) T.c_BadStore (sa_cons (se_var (pv 0)) sa_nil)) sa_nil))))))))
    (ss_cons (s_set (i := 1) sc__law_objects.nd rfl (.inl rfl) (se_op or_add os_add (se_var (pv 1)) (se_lst (sa_cons (se_exc (k := 7) (T.xA 7 (by decide)) T.i_7 hr (by rfl) T.c_BadMask (sa_cons (se_var (pv 0)) sa_nil)) (sa_cons (se_exc (k := 8) (T.xA 8 (by decide)) T.i_8 hr (by rfl) T.c_BadGuards (sa_cons (se_var (pv 0)) sa_nil)) (sa_cons (se_exc (k := 9) (T.xA 9 (by decide)) T.i_9 hr (by rfl) T.c_BadMove (sa_cons (se_var (pv 0)) sa_nil)) (sa_cons (se_exc (k := 10) (T.xA 10 (by decide)) T.i_10 hr (by rfl) T.c_BadScript (sa_cons (se_var (pv 0)) sa_nil)) (sa_cons (se_exc (k := 11) (T.xA 11 (by decide)) T.i_11 hr (by rfl) T.c_BadNumber (sa_cons (se_var (pv 0)) sa_nil)) (sa_cons (se_exc (k := 12) (T.xA 12 (by decide)) T.i_12 hr (by rfl) T.c_BadCell (sa_cons (se_var (pv 0)) sa_nil)) sa_nil)))))))))
    (ss_cons (s_set (i := 1) sc__law_objects.nd rfl (.inl rfl) (se_op or_add os_add (se_var (pv 1)) (se_lst (sa_cons (se_exc (k := 13) (T.xA 13 (by decide)) T.i_13 hr (by rfl) T.c_BadSection (sa_cons (se_var (pv 0)) sa_nil)) (sa_cons (se_exc (k := 14) (T.xA 14 (by decide)) T.i_14 hr (by rfl) T.c_BadChange (sa_cons (se_var (pv 0)) sa_nil)) (sa_cons (se_exc (k := 15) (T.xA 15 (by decide)) T.i_15 hr (by rfl) T.c_BadWish (sa_cons (se_var (pv 0)) sa_nil)) (sa_cons (se_exc (k := 16) (T.xA 16 (by decide)) T.i_16 hr (by rfl) T.c_BadText (sa_cons (se_var (pv 0)) sa_nil)) (sa_cons (se_exc (k := 18) (T.xA 18 (by decide)) T.i_18 hr (by rfl) T.c_TooMany (sa_cons (se_var (pv 0)) sa_nil)) (sa_cons (se_exc (k := 19) (T.xA 19 (by decide)) T.i_19 hr (by rfl) T.c_Broken (sa_cons (se_var (pv 0)) sa_nil)) sa_nil)))))))))
    (ss_one (s_ret (se_op or_add os_add (se_var (pv 1)) (se_lst (sa_cons (se_exc (k := 20) (T.xA 20 (by decide)) T.i_20 hr (by rfl) T.c_NoRow (sa_cons (se_var (pv 0)) sa_nil)) (sa_cons (se_exc0 (k := 17) T.n_17.1 T.n_17.2 (by rfl) T.c_AtRest) (sa_cons (se_exc0 (k := 21) T.n_21.1 T.n_21.2 (by rfl) T.c_NothingLeft) sa_nil))))))))))
theorem G__law_classes : FnOk P w K mg base CX0 1 T._law_classes.f T._law_classes.fd ["_law_one"] (spOf K T.C f__law_classes) :=
  fn_ok0 T._law_classes.F sc__law_classes fun cdv A outer s H E hr =>
    (ss_cons (s_set (i := 1) sc__law_classes.nd rfl (.inl rfl) (se_lst (sa_cons (se_callB call_isY (cs_isY T.tab T.xA) (by rfl) T.b_isinstance (by decide +kernel) (sa_cons (se_var (pv 0)) (sa_cons (se_cl (k := 1) (by rfl) T.c_BadArgument) sa_nil))) (sa_cons (se_callB call_isY (cs_isY T.tab T.xA) (by rfl) T.b_isinstance (by decide +kernel) (sa_cons (se_var (pv 0)) (sa_cons (se_cl (k := 2) (by rfl) T.c_BadProgram) sa_nil))) (sa_cons (se_callB call_isY (cs_isY T.tab T.xA) (by rfl) T.b_isinstance (by decide +kernel) (sa_cons (se_var (pv 0)) (sa_cons (se_cl (k := 3) (by rfl) T.c_BadProcedure) sa_nil))) sa_nil)))))
    (ss_cons (s_set (i := 1) sc__law_classes.nd rfl (.inl rfl) (se_op or_add os_add (se_var (pv 1)) (se_lst (sa_cons (se_callB call_isY (cs_isY T.tab T.xA) (by rfl) T.b_isinstance (by decide +kernel) (sa_cons (se_var (pv 0)) (sa_cons (se_cl (k := 4) (by rfl) T.c_BadPoint) sa_nil))) (sa_cons (se_callB call_isY (cs_isY T.tab T.xA) (by rfl) T.b_isinstance (by decide +kernel) (sa_cons (se_var (pv 0)) (sa_cons (se_cl (k := 5) (by rfl) T.c_BadLine) sa_nil))) (sa_cons (se_callB call_isY (cs_isY T.tab T.xA) (by rfl) T.b_isinstance (by decide +kernel) (sa_cons (se_var (pv 0)) (sa_cons (se_cl (k := 6) (by rfl) T.c_BadStore) sa_nil))) sa_nil))))))
    (ss_cons (s_set (i := 1) sc__law_classes.nd rfl (.inl rfl) (se_op or_add os_add (se_var (pv 1)) (se_lst (sa_cons (se_callB call_isY (cs_isY T.tab T.xA) (by rfl) T.b_isinstance (by decide +kernel) (sa_cons (se_var (pv 0)) (sa_cons (se_cl (k := 7) (by rfl) T.c_BadMask) sa_nil))) (sa_cons (se_callB call_isY (cs_isY T.tab T.xA) (by rfl) T.b_isinstance (by decide +kernel) (sa_cons (se_var (pv 0)) (sa_cons (se_cl (k := 8) (by rfl) T.c_BadGuards) sa_nil))) (sa_cons (se_callB call_isY (cs_isY T.tab T.xA) (by rfl) T.b_isinstance (by decide +kernel) (sa_cons (se_var (pv 0)) (sa_cons (se_cl (k := 9) (by rfl) T.c_BadMove) sa_nil))) sa_nil))))))
    (ss_cons (s_set (i := 1) sc__law_classes.nd rfl (.inl rfl) (se_op or_add os_add (se_var (pv 1)) (se_lst (sa_cons (se_callB call_isY (cs_isY T.tab T.xA) (by rfl) T.b_isinstance (by decide +kernel) (sa_cons (se_var (pv 0)) (sa_cons (se_cl (k := 10) (by rfl) T.c_BadScript) sa_nil))) (sa_cons (se_callB call_isY (cs_isY T.tab T.xA) (by rfl) T.b_isinstance (by decide +kernel) (sa_cons (se_var (pv 0)) (sa_cons (se_cl (k := 11) (by rfl) T.c_BadNumber) sa_nil))) (sa_cons (se_callB call_isY (cs_isY T.tab T.xA) (by rfl) T.b_isinstance (by decide +kernel) (sa_cons (se_var (pv 0)) (sa_cons (se_cl (k := 12) (by rfl) T.c_BadCell) sa_nil))) sa_nil))))))
    (ss_cons (s_set (i := 1) sc__law_classes.nd rfl (.inl rfl) (se_op or_add os_add (se_var (pv 1)) (se_lst (sa_cons (se_callB call_isY (cs_isY T.tab T.xA) (by rfl) T.b_isinstance (by decide +kernel) (sa_cons (se_var (pv 0)) (sa_cons (se_cl (k := 13) (by rfl) T.c_BadSection) sa_nil))) (sa_cons (se_callB call_isY (cs_isY T.tab T.xA) (by rfl) T.b_isinstance (by decide +kernel) (sa_cons (se_var (pv 0)) (sa_cons (se_cl (k := 14) (by rfl) T.c_BadChange) sa_nil))) (sa_cons (se_callB call_isY (cs_isY T.tab T.xA) (by rfl) T.b_isinstance (by decide +kernel) (sa_cons (se_var (pv 0)) (sa_cons (se_cl (k := 15) (by rfl) T.c_BadWish) sa_nil))) sa_nil))))))
    (ss_cons (s_set (i := 1) sc__law_classes.nd rfl (.inl rfl) (se_op or_add os_add (se_var (pv 1)) (se_lst (sa_cons (se_callB call_isY (cs_isY T.tab T.xA) (by rfl) T.b_isinstance (by decide +kernel) (sa_cons (se_var (pv 0)) (sa_cons (se_cl (k := 16) (by rfl) T.c_BadText) sa_nil))) (sa_cons (se_callB call_isY (cs_isY T.tab T.xA) (by rfl) T.b_isinstance (by decide +kernel) (sa_cons (se_var (pv 0)) (sa_cons (se_cl (k := 18) (by rfl) T.c_TooMany) sa_nil))) (sa_cons (se_callB call_isY (cs_isY T.tab T.xA) (by rfl) T.b_isinstance (by decide +kernel) (sa_cons (se_var (pv 0)) (sa_cons (se_cl (k := 19) (by rfl) T.c_Broken) sa_nil))) sa_nil))))))
    (ss_one (s_ret (se_op or_add os_add (se_var (pv 1)) (se_lst (sa_cons (se_callB call_isY (cs_isY T.tab T.xA) (by rfl) T.b_isinstance (by decide +kernel) (sa_cons (se_var (pv 0)) (sa_cons (se_cl (k := 20) (by rfl) T.c_NoRow) sa_nil))) (sa_cons (se_callB call_isY (cs_isY T.tab T.xA) (by rfl) T.b_isinstance (by decide +kernel) (sa_cons (se_var (pv 0)) (sa_cons (se_cl (k := 17) (by rfl) T.c_AtRest) sa_nil))) (sa_cons (se_callB call_isY (cs_isY T.tab T.xA) (by rfl) T.b_isinstance (by decide +kernel) (sa_cons (se_var (pv 0)) (sa_cons (se_cl (k := 21) (by rfl) T.c_NothingLeft) sa_nil))) sa_nil)))))))))))))
theorem G__law_fields : FnOk P w K mg base CX0 1 T._law_fields.f T._law_fields.fd ["_law_thing"] (spOf K T.C f__law_fields) :=
  fn_ok0 T._law_fields.F sc__law_fields fun cdv A outer s H E hr =>
    (ss_cons (s_set (i := 1) sc__law_fields.nd rfl (.inl rfl) (se_lst (sa_cons (se_xfield T.f_value (se_excKw (k := 1) (T.xA 1 (by decide)) T.i_1 hr (by rfl) T.c_BadArgument (se_var (pv 0)))) (sa_cons (se_xfield T.f_part (se_excKw (k := 2) (T.xA 2 (by decide)) T.i_2 hr (by rfl) T.c_BadProgram (se_var (pv 0)))) (sa_cons (se_xfield T.f_value (se_excKw (k := 3) (T.xA 3 (by decide)) T.i_3 hr (by rfl) T.c_BadProcedure (se_var (pv 0)))) sa_nil)))))
    (ss_cons (s_set (i := 1) sc__law_fields.nd rfl (.inl rfl) (se_op or_add os_add (se_var (pv 1)) (se_lst (sa_cons (se_xfield T.f_value (se_excKw (k := 4) (T.xA 4 (by decide)) T.i_4 hr (by rfl) T.c_BadPoint (se_var (pv 0)))) (sa_cons (se_xfield T.f_value (se_excKw (k := 5) (T.xA 5 (by decide)) T.i_5 hr (by rfl) T.c_BadLine (se_var (pv 0)))) (sa_cons (se_xfield T.f_value (se_excKw (k := 6) (T.xA 6 (by decide)) T.i_6 hr (by rfl) T.c_BadStore (se_var (pv 0)))) sa_nil))))))
    (ss_cons (s_set (i := 1) sc__law_fields.nd rfl (.inl rfl) (se_op or_add os_add (se_var (pv 1)) (se_lst (sa_cons (se_xfield T.f_value (se_excKw (k := 7) (T.xA 7 (by decide)) T.i_7 hr (by rfl) T.c_BadMask (se_var (pv 0)))) (sa_cons (se_xfield T.f_value (se_excKw (k := 8) (T.xA 8 (by decide)) T.i_8 hr (by rfl) T.c_BadGuards (se_var (pv 0)))) (sa_cons (se_xfield T.f_value (se_excKw (k := 9) (T.xA 9 (by decide)) T.i_9 hr (by rfl) T.c_BadMove (se_var (pv 0)))) sa_nil))))))
    (ss_cons (s_set (i := 1) sc__law_fields.nd rfl (.inl rfl) (se_op or_add os_add (se_var (pv 1)) (se_lst (sa_cons (se_xfield T.f_at (se_exc (k := 10) (T.xA 10 (by decide)) T.i_10 hr (by rfl) T.c_BadScript (sa_cons (se_var (pv 0)) sa_nil))) (sa_cons (se_xfield T.f_value (se_excKw (k := 11) (T.xA 11 (by decide)) T.i_11 hr (by rfl) T.c_BadNumber (se_var (pv 0)))) (sa_cons (se_xfield T.f_value (se_excKw (k := 12) (T.xA 12 (by decide)) T.i_12 hr (by rfl) T.c_BadCell (se_var (pv 0)))) sa_nil))))))
    (ss_cons (s_set (i := 1) sc__law_fields.nd rfl (.inl rfl) (se_op or_add os_add (se_var (pv 1)) (se_lst (sa_cons (se_xfield T.f_value (se_excKw (k := 13) (T.xA 13 (by decide)) T.i_13 hr (by rfl) T.c_BadSection (se_var (pv 0)))) (sa_cons (se_xfield T.f_value (se_excKw (k := 14) (T.xA 14 (by decide)) T.i_14 hr (by rfl) T.c_BadChange (se_var (pv 0)))) (sa_cons (se_xfield T.f_value (se_excKw (k := 15) (T.xA 15 (by decide)) T.i_15 hr (by rfl) T.c_BadWish (se_var (pv 0)))) sa_nil))))))
    (ss_one (s_ret (se_op or_add os_add (se_var (pv 1)) (se_lst (sa_cons (se_xfield T.f_at (se_exc (k := 16) (T.xA 16 (by decide)) T.i_16 hr (by rfl) T.c_BadText (sa_cons (se_var (pv 0)) sa_nil))) (sa_cons (se_xfield T.f_number (se_excKw (k := 18) (T.xA 18 (by decide)) T.i_18 hr (by rfl) T.c_TooMany (se_var (pv 0)))) (sa_cons (se_xfield T.f_claim (se_excKw (k := 19) (T.xA 19 (by decide)) T.i_19 hr (by rfl) T.c_Broken (se_var (pv 0)))) (sa_cons (se_xfield T.f_row (se_excKw (k := 20) (T.xA 20 (by decide)) T.i_20 hr (by rfl) T.c_NoRow (se_var (pv 0)))) sa_nil)))))))))))))
theorem G__law_caught : FnOk P w K mg base CX0 1 T._law_caught.f T._law_caught.fd ["_law_thing"] (spOf K T.C f__law_caught) :=
  fn_ok0 T._law_caught.F sc__law_caught fun cdv A outer s H E hr =>
    (ss_one (s_try T.tab T.xA (by decide) rfl rfl sc__law_caught.nd rfl takes_none5 (fun W pn xe tk po => (ss_one (s_raise (k := 6) rfl (T.xA 6 (by decide)) T.i_6 hr tk (by rfl) T.c_BadStore (sa_cons (se_var (pv 0)) sa_nil)))) (.named (i := 1) ⟨by rfl, by decide, T.c_BadMask⟩ rfl rfl (fun a pn => (ss_one (s_ret se_str))) (.named (i := 1) ⟨by rfl, by decide, T.c_LevelError⟩ rfl rfl (fun a pn => (ss_one (s_ret se_str))) .nil))))
theorem G__law_pool : FnOk P w K mg base CX0 2 T._law_pool.f T._law_pool.fd ["_law_cell", "_law_salt", "_law_many"] (spOf K T.C f__law_pool) :=
  fn_ok0 T._law_pool.F sc__law_pool fun cdv A outer s H E hr =>
    (ss_one (s_ret (se_lst (sa_cons (se_own0 T._law_numbers (G__law_numbers T) (hr.mono (by decide)) (by rfl) (sa_cons (se_var (pv 0)) (sa_cons (se_var (pv 1)) (sa_cons (se_op or_mul os_mul (se_lst (sa_cons se_int sa_nil)) (se_var (pv 2))) sa_nil)))) (sa_cons se_int sa_nil)))))
theorem G__law_opened : FnOk P w K mg base CX0 3 T._law_opened.f T._law_opened.fd ["_law_script", "_law_k", "_law_many"] (spOf K T.C f__law_opened) :=
  fn_ok0 T._law_opened.F sc__law_opened fun cdv A outer s H E hr =>
    (ss_cons (s_set (i := 3) sc__law_opened.nd rfl (.inl rfl) (se_if (st_cmp (or_ne hr.units) os_ne (se_var (pv 0)) (se_lst sa_nil) (nomark _)) (se_ix (se_var (pv 0)) (se_var (pv 1)) (fun _ _ => rfl)) se_int))
    (ss_one (s_ret (se_own0 T._law_pool (G__law_pool T) (hr.mono (by decide)) (by rfl) (sa_cons (se_var (pv 3)) (sa_cons (se_var (pv 1)) (sa_cons (se_var (pv 2)) sa_nil)))))))
theorem G_law : FnOk P w K mg base CX0 4 T.law.f T.law.fd ["_law_script"] (spOf K T.C f_law) :=
  fn_ok0 T.law.F sc_law fun cdv A outer s H E hr =>
    (ss_cons (s_for PassesOwn.never rfl (si_range1 (by rfl) T.b_range (sa_cons (se_callB (call_max2 rfl) cs_max2 (by rfl) T.b_max (by decide +kernel) (sa_cons se_int (sa_cons (se_callB (call_min2 rfl) cs_min2 (by rfl) T.b_min (by decide +kernel) (sa_cons (se_callB (callR_or call_len call_lenD) cs_len (by rfl) T.b_len (by decide +kernel) (sa_cons (se_var (pv 0)) sa_nil)) (sa_cons se_int sa_nil))) sa_nil))) sa_nil)) (sg_name (pg_name (i := 1) sc_law.nd rfl (.inl rfl)))
    (ss_cons (s_set (i := 2) sc_law.nd rfl (.inl rfl) (se_own0 T._law_opened (G__law_opened T) (hr.mono (by decide)) (by rfl) (sa_cons (se_var (pv 0)) (sa_cons (se_var (pv 1)) (sa_cons se_int sa_nil)))))
    (ss_cons (s_set (i := 3) sc_law.nd rfl (.inl rfl) (se_own0 T._law_draw (G__law_draw T) (hr.mono (by decide)) (by rfl) (sa_cons (se_var (pv 2)) (sa_cons se_int sa_nil))))
    (ss_one (s_for PassesOwn.never rfl (si_any (se_lst (sa_cons (se_var (pv 3)) (sa_cons (se_callTy call_str_int cs_str (by rfl) T.b_str (by decide +kernel) (sa_cons (se_var (pv 3)) sa_nil)) (sa_cons (se_lst (sa_cons (se_var (pv 3)) sa_nil)) (sa_cons se_non sa_nil)))))) (sg_name (pg_name (i := 4) sc_law.nd rfl (.inl rfl)))
    (ss_cons (s_if (st_w (sw_or (st_cmp (or_ne hr.units) os_ne (se_own0 T._law_fields (G__law_fields T) (hr.mono (by decide)) (by rfl) (sa_cons (se_var (pv 4)) sa_nil)) (se_op or_mul os_mul (se_lst (sa_cons (se_var (pv 4)) sa_nil)) se_int) (nomark _)) (sw_or1 (st_cmp (or_ne hr.units) os_ne (se_own0 T._law_caught (G__law_caught T) (hr.mono (by decide)) (by rfl) (sa_cons (se_var (pv 4)) sa_nil)) se_str (nomark _))))) (ss_one (s_ret se_bl)) ss_nil)
    (ss_one (s_for PassesOwn.never rfl (si_enum (by rfl) T.b_enumerate (sa_cons (se_own0 T._law_objects (G__law_objects T) (hr.mono (by decide)) (by rfl) (sa_cons (se_var (pv 4)) sa_nil)) sa_nil)) (sg_tup rfl (.cons (pg_name (i := 5) sc_law.nd rfl (.inr rfl)) (.cons (pg_name (i := 6) sc_law.nd rfl (.inl rfl)) .nil)))
    (ss_cons (s_if (st_cmp (or_ne hr.units) os_ne (se_own0 T._law_classes (G__law_classes T) (hr.mono (by decide)) (by rfl) (sa_cons (se_var (pv 6)) sa_nil)) (se_lc (own := [("_law_j", 7)]) rfl sc_law.nd (si_range1 (by rfl) T.b_range (sa_cons se_int sa_nil)) (blkOk_by (own := [("_law_j", 7)]) (N := ["_law_script", "_law_k", "_law_pool_here", "_law_amount", "_law_thing", "_law_place", "_law_one", "_law_j"]) (sc := defScope s_law) (by decide +kernel)) (fun _ _ _ _ _ => (sg_name (pg_name (i := 7) sc_law.nd rfl (.inl rfl)))) (fun _ _ _ _ _ => sts_nil) (fun _ _ _ _ _ => (se_cmp (or_eq hr.units) os_eq (se_var (pv 5)) (se_var (pv 7)) (nomark _)))) (nomark _)) (ss_one (s_ret se_bl)) ss_nil)
    (ss_one (s_if (st_not (st_tru (se_callB call_isY (cs_isY T.tab T.xA) (by rfl) T.b_isinstance (by decide +kernel) (sa_cons (se_var (pv 6)) (sa_cons (se_cl (k := 0) (by rfl) T.c_LevelError) sa_nil))))) (ss_one (s_ret se_bl)) ss_nil)))))))))))
    (ss_one (s_ret se_bl)))
end
/-! ### the end -/
end Lw

set_option linter.all false
set_option maxRecDepth 100000
set_option maxHeartbeats 4000000
namespace Lw
open PySem L2 Sx
local macro_rules | `(tactic| walk_at "ev") => `(tactic| simp only [cSeq_eq, seqS_nx, seqS_rt, bind_ok, bindS_ok, noexc_ok, endOf_rt, endOf_nx, cNil_eq, cExpr_eq, cRet_eq, cRetN_eq, cIf_eq, cAsg_eq, cPar_eq, cFor_eq, xVar_eq, xC_eq, xOp_eq, xBl_eq, xChain_eq, xUn_eq, xTru_eq, xAndT_eq, xOrT_eq, xNotT_eq, xIf_eq, xAnd_eq, xOr_eq, xNot_eq, xNil_eq, xCons_eq, xTup_eq, xLst_eq, xDic0_eq, xCallB_eq, xCall_eq, xIt_eq, xRng1_eq, xRng2_eq, gxName_eq, gxSub_eq, xMeth_eq, xSl_eq, xNo_eq, xYes_eq, xLc_eq, isiW_eq, isi_int, isi_bool, isi_str, isi_tuple, isi_list, isi_dict, truth_bl, curOf, Cur.fuel, wipeE, isB_self, len_tup, ne_int, eq_str, btOf_str, btOf_int, btOf_tup, btOf_bl, btOf_non,
  add_int, sub_int, neg_int, int_int, lt_int, le_int, gt_int, ge_int, max_int, min_int, show (2 : Nat) ≤ lim from by decide, show (0 : Nat) ≤ lim from by decide, show (1 : Nat) ≤ lim from by decide, show (3 : Nat) ≤ lim from by decide,
  List.map_cons, List.map_nil, List.cons_append, List.nil_append, List.append_nil, List.length_cons, List.length_nil, List.getElem?_cons_zero, List.getElem?_cons_succ, List.getElem?_nil, List.set_cons_zero, List.set_cons_succ, Nat.reduceAdd, Nat.reduceSub, if_true, if_false, reduceIte, ite_true, Bool.false_eq_true, Bool.not_true, Bool.not_false, beq_self_eq_true, cast2])
local macro_rules | `(tactic| walk_at "evh") => `(tactic| simp only [cSeq_eq, seqS_nx, seqS_rt, bind_ok, bindS_ok, noexc_ok, endOf_rt, endOf_nx, cNil_eq, cExpr_eq, cRet_eq, cRetN_eq, cIf_eq, cAsg_eq, cPar_eq, cFor_eq, xVar_eq, xC_eq, xOp_eq, xBl_eq, xChain_eq, xUn_eq, xTru_eq, xAndT_eq, xOrT_eq, xNotT_eq, xIf_eq, xAnd_eq, xOr_eq, xNot_eq, xNil_eq, xCons_eq, xTup_eq, xLst_eq, xDic0_eq, xCallB_eq, xCall_eq, xIt_eq, xRng1_eq, xRng2_eq, gxName_eq, gxSub_eq, xMeth_eq, xSl_eq, xNo_eq, xYes_eq, xLc_eq, isiW_eq, isi_int, isi_bool, isi_str, isi_tuple, isi_list, isi_dict, truth_bl, curOf, Cur.fuel, wipeE, isB_self, len_tup, ne_int, eq_str, btOf_str, btOf_int, btOf_tup, btOf_bl, btOf_non,
  add_int, sub_int, neg_int, int_int, lt_int, le_int, gt_int, ge_int, max_int, min_int, show (2 : Nat) ≤ lim from by decide, show (0 : Nat) ≤ lim from by decide, show (1 : Nat) ≤ lim from by decide, show (3 : Nat) ≤ lim from by decide,
  List.map_cons, List.map_nil, List.cons_append, List.nil_append, List.append_nil, List.length_cons, List.length_nil, List.getElem?_cons_zero, List.getElem?_cons_succ, List.getElem?_nil, List.set_cons_zero, List.set_cons_succ, Nat.reduceAdd, Nat.reduceSub, if_true, if_false, reduceIte, ite_true, Bool.false_eq_true, Bool.not_true, Bool.not_false, beq_self_eq_true, cast2, *])
theorem for_cur {g : Gx} {b : Sx} (c : Nat → Cur) (ws : List W) (I : Nat → Sx.Env → Hx → Prop) (st : ∀ i es h, I i es h → (c i).step h = some (ws[i]?.map fun w => (w, c (i + 1))))
    (k : ∀ i w es h, ws[i]? = some w → I i es h → ∃ es2 h2, g w es h = .ok es2 h2 ∧ ∃ es3 h3, b es2 h2 = .fl (.nx es3) h3 ∧ I (i + 1) es3 h3) : ∀ n j es h, j + n = ws.length → I j es h → ∃ es' h', forLoop g b (n + 1) (c j) es h = .fl (.nx es') h' ∧ I ws.length es' h'
  | 0, j, es, h, e, i0 => by
    refine ⟨es, h, forLoop_end ?_, by rw [← e]; exact i0⟩
    rw [st j es h i0, List.getElem?_eq_none (by omega)]
    rfl
  | n + 1, j, es, h, e, i0 => by
    have hj : j < ws.length := by omega
    have e1 : ws[j]? = some ws[j] := List.getElem?_eq_getElem hj
    obtain ⟨es2, h2, e2, es3, h3, e3, i1⟩ := k j ws[j] es h e1 i0
    obtain ⟨es', h', e', i'⟩ := for_cur c ws I st k n (j + 1) es3 h3 (by omega) i1
    refine ⟨es', h', ?_, i'⟩
    rw [forLoop_step (by rw [st j es h i0, e1]; rfl), e2, bindS_ok, e3, turnF_nx]
    exact e'
theorem ne_lists {h : Hx} {a b : Nat} {xs ys : List W} (ga : h.get a = some (.lst xs)) (gb : h.get b = some (.lst ys)) (ox : xs.all (okD h 19) = true) (oy : ys.all (okD h 19) = true) : neW (.ref a) (.ref b) h = .ok (.bl (!eqAll (eqH h 19) xs ys)) h := by
  have e1 : okD h dep (.ref a) = true := by
    show (match h.get a with
      | some (.lst xs) => xs.all (okD h 19)
      | _ => false) = true
    rw [ga]
    exact ox
  have e2 : okD h dep (.ref b) = true := by
    show (match h.get b with
      | some (.lst xs) => xs.all (okD h 19)
      | _ => false) = true
    rw [gb]
    exact oy
  have i1 : itemsOf h (.ref a) = some xs := by
    show (match h.get a with
      | some (.lst xs) => some xs
      | _ => none) = _
    rw [ga]
  have i2 : itemsOf h (.ref b) = some ys := by
    show (match h.get b with
      | some (.lst xs) => some xs
      | _ => none) = _
    rw [gb]
  have e3 : eqO (.ref a) (.ref b) h = some (eqAll (eqH h 19) xs ys) := by
    show (if okD h dep (.ref a) && okD h dep (.ref b) then some (eqH h dep (.ref a) (.ref b)) else none) = _
    rw [e1, e2]
    show some (match itemsOf h (.ref a), itemsOf h (.ref b) with
      | some a, some b => eqAll (eqH h 19) a b
      | _, _ => false) = _
    rw [i1, i2]
  unfold neW
  rw [e3]
theorem add_lst {h : Hx} {i j : Nat} {xs ys : List W} (gi : h.get i = some (.lst xs)) (gj : h.get j = some (.lst ys)) (l : xs.length + ys.length ≤ lim) : addW (.ref i) (.ref j) h = .ok (.ref h.n) (h.new (.lst (xs ++ ys))) := by
  show (match h.get i, h.get j with
    | some (.lst a), some (.lst b) => if a.length + b.length ≤ lim then R.ok (W.ref h.n) (h.new (.lst (a ++ b))) else R.bad
    | _, _ => R.bad) = _
  rw [gi, gj]
  exact if_pos l
theorem xop_add {r : Ax} {es : Sx.Env} {h : Hx} {i : Nat} {xs ws : List W} (e : r es h = .ok ws h) (v : es[1]? = some (some (.ref i))) (g : h.get i = some (.lst xs)) (hi : i < h.n) (l : xs.length + ws.length ≤ lim) :
    xOp addW (xVar 1) (xLst r) es h = .ok (.ref (h.n + 1)) ((h.new (.lst ws)).new (.lst (xs ++ ws))) := by
  have v1 : xVar 1 es h = .ok (.ref i) h := by
    unfold xVar
    rw [v]
  rw [xOp_eq, v1, bind_ok, xLst_ok e (by omega), bind_ok]
  exact add_lst (by rw [get_new_ne (Nat.ne_of_lt hi)]; exact g) get_new_same l
theorem new2 {h : Hx} {a b : List W} : ((h.new (.lst a)).new (.lst b)).get (h.n + 1) = some (.lst b) := get_new_same (h := h.new (.lst a))
/-- _law_found = _law_found + [..] -/
theorem asg_more {r : Ax} {w : W} {h : Hx} {i : Nat} {xs ws : List W} (e : ∀ x h, r [some w, x] h = .ok ws h) (g : h.get i = some (.lst xs)) (hi : i < h.n) (l : xs.length + ws.length ≤ lim) :
    ∃ h', cAsg (xOp addW (xVar 1) (xLst r)) (gxName 1) [some w, some (.ref i)] h = .fl (.nx [some w, some (.ref (h.n + 1))]) h' ∧ h'.get (h.n + 1) = some (.lst (xs ++ ws)) ∧ h'.n = h.n + 2 ∧ Ext h h' := by
  refine ⟨(h.new (.lst ws)).new (.lst (xs ++ ws)), ?_, new2, rfl, (Ext.new h _).trans (Ext.new _ _)⟩
  rw [cAsg_eq, xop_add (e _ _) rfl g hi l]
  rfl
theorem ret_more {r : Ax} {w : W} {h : Hx} {i : Nat} {xs ws : List W} (e : ∀ x h, r [some w, x] h = .ok ws h) (g : h.get i = some (.lst xs)) (hi : i < h.n) (l : xs.length + ws.length ≤ lim) :
    ∃ h', cRet (xOp addW (xVar 1) (xLst r)) [some w, some (.ref i)] h = .fl (.rt (.ref (h.n + 1))) h' ∧ h'.get (h.n + 1) = some (.lst (xs ++ ws)) ∧ h'.n = h.n + 2 ∧ Ext h h' := by
  refine ⟨(h.new (.lst ws)).new (.lst (xs ++ ws)), ?_, new2, rfl, (Ext.new h _).trans (Ext.new _ _)⟩
  rw [cRet_eq, xop_add (e _ _) rfl g hi l]
  rfl
theorem asg_first {r : Ax} {w : W} {h : Hx} {ws : List W} (e : ∀ x h, r [some w, x] h = .ok ws h) (l : ws.length ≤ lim) :
    ∃ h', cAsg (xLst r) (gxName 1) [some w, none] h = .fl (.nx [some w, some (.ref h.n)]) h' ∧ h'.get h.n = some (.lst ws) ∧ h'.n = h.n + 1 ∧ Ext h h' := by
  refine ⟨_, ?_, get_new_same, rfl, Ext.new h _⟩
  rw [cAsg_eq, xLst_ok (e _ _) l]
  rfl
def objs (w : W) : List W := [.exc 1 ["value"] [w], .exc 2 ["part"] [w], .exc 3 ["value"] [w], .exc 4 ["value"] [w], .exc 5 ["value"] [w], .exc 6 ["value"] [w], .exc 7 ["value"] [w], .exc 8 ["value"] [w], .exc 9 ["value"] [w], .exc 10 ["at"] [w], .exc 11 ["value"] [w], .exc 12 ["value"] [w],
  .exc 13 ["value"] [w], .exc 14 ["value"] [w], .exc 15 ["value"] [w], .exc 16 ["at"] [w], .exc 18 ["number"] [w], .exc 19 ["claim"] [w], .exc 20 ["row"] [w], .exc 17 [] [], .exc 21 [] []]
theorem ev_objects (w : W) (h : Hx) : ∃ p h', f__law_objects [w] h = .ok (.ref p) h' ∧ h'.get p = some (.lst (objs w)) ∧ p < h'.n ∧ Ext h h' ∧ h.n ≤ p := by
  have t1 : f__law_objects [w] h = noexc (endOf (c__law_objects [some w, none] h)) := rfl
  obtain ⟨h1, e1, g1, n1, x1⟩ := asg_first (h := h) (w := w) (r := xCons (xExc 1 "value" (xCons (xVar 0) xNil)) (xCons (xExc 2 "part" (xCons (xVar 0) xNil)) (xCons (xExc 3 "value" (xCons (xVar 0) xNil)) (xCons (xExc 4 "value" (xCons (xVar 0) xNil)) (xCons (xExc 5 "value" (xCons (xVar 0) xNil)) (xCons (xExc 6 "value" (xCons (xVar 0) xNil)) xNil)))))) (fun _ _ => rfl) (Nat.le_of_ble_eq_true rfl)
  obtain ⟨h2, e2, g2, n2, x2⟩ := asg_more (h := h1) (w := w) (r := xCons (xExc 7 "value" (xCons (xVar 0) xNil)) (xCons (xExc 8 "value" (xCons (xVar 0) xNil)) (xCons (xExc 9 "value" (xCons (xVar 0) xNil)) (xCons (xExc 10 "at" (xCons (xVar 0) xNil)) (xCons (xExc 11 "value" (xCons (xVar 0) xNil)) (xCons (xExc 12 "value" (xCons (xVar 0) xNil)) xNil)))))) (fun _ _ => rfl) g1 (by omega) (Nat.le_of_ble_eq_true rfl)
  obtain ⟨h3, e3, g3, n3, x3⟩ := asg_more (h := h2) (w := w) (r := xCons (xExc 13 "value" (xCons (xVar 0) xNil)) (xCons (xExc 14 "value" (xCons (xVar 0) xNil)) (xCons (xExc 15 "value" (xCons (xVar 0) xNil)) (xCons (xExc 16 "at" (xCons (xVar 0) xNil)) (xCons (xExc 18 "number" (xCons (xVar 0) xNil)) (xCons (xExc 19 "claim" (xCons (xVar 0) xNil)) xNil)))))) (fun _ _ => rfl) g2 (by omega) (Nat.le_of_ble_eq_true rfl)
  obtain ⟨h4, e4, g4, n4, x4⟩ := ret_more (h := h3) (w := w) (r := xCons (xExc 20 "row" (xCons (xVar 0) xNil)) (xCons (xExc0 17) (xCons (xExc0 21) xNil))) (fun _ _ => rfl) g3 (by omega) (Nat.le_of_ble_eq_true rfl)
  refine ⟨_, h4, ?_, g4, by omega, ((x1.trans x2).trans x3).trans x4, by omega⟩
  rw [t1]
  unfold c__law_objects
  rw [cSeq_eq, e1, seqS_nx, cSeq_eq, e2, seqS_nx, cSeq_eq, e3, seqS_nx, e4]
  rfl
theorem ev_fields (w : W) (h : Hx) : ∃ p h', f__law_fields [w] h = .ok (.ref p) h' ∧ h'.get p = some (.lst (List.replicate 19 w)) ∧ p < h'.n ∧ Ext h h' ∧ h.n ≤ p := by
  have t1 : f__law_fields [w] h = noexc (endOf (c__law_fields [some w, none] h)) := rfl
  unfold c__law_fields at t1
  rw [cSeq_eq] at t1
  obtain ⟨h1, e1, g1, n1, x1⟩ := asg_first (h := h) (w := w) (r := (xCons (xUn (fieldW (fun k => [1, 3, 4, 5, 6, 7, 8, 9, 11, 12, 13, 14, 15].contains k) "value") (xExc 1 "value" (xCons (xVar 0) xNil))) (xCons (xUn (fieldW (fun k => [2].contains k) "part") (xExc 2 "part" (xCons (xVar 0) xNil))) (xCons (xUn (fieldW (fun k => [1, 3, 4, 5, 6, 7, 8, 9, 11, 12, 13, 14, 15].contains k) "value") (xExc 3 "value" (xCons (xVar 0) xNil))) xNil)))) (ws := [w, w, w]) (fun _ _ => rfl) (Nat.le_of_ble_eq_true rfl)
  rw [e1, seqS_nx, cSeq_eq] at t1
  obtain ⟨h2, e2, g2, n2, x2⟩ := asg_more (h := h1) (w := w) (r := (xCons (xUn (fieldW (fun k => [1, 3, 4, 5, 6, 7, 8, 9, 11, 12, 13, 14, 15].contains k) "value") (xExc 4 "value" (xCons (xVar 0) xNil))) (xCons (xUn (fieldW (fun k => [1, 3, 4, 5, 6, 7, 8, 9, 11, 12, 13, 14, 15].contains k) "value") (xExc 5 "value" (xCons (xVar 0) xNil))) (xCons (xUn (fieldW (fun k => [1, 3, 4, 5, 6, 7, 8, 9, 11, 12, 13, 14, 15].contains k) "value") (xExc 6 "value" (xCons (xVar 0) xNil))) xNil)))) (ws := [w, w, w]) (fun _ _ => rfl) g1 (by omega) (Nat.le_of_ble_eq_true rfl)
  rw [e2, seqS_nx, cSeq_eq] at t1
  obtain ⟨h3, e3, g3, n3, x3⟩ := asg_more (h := h2) (w := w) (r := (xCons (xUn (fieldW (fun k => [1, 3, 4, 5, 6, 7, 8, 9, 11, 12, 13, 14, 15].contains k) "value") (xExc 7 "value" (xCons (xVar 0) xNil))) (xCons (xUn (fieldW (fun k => [1, 3, 4, 5, 6, 7, 8, 9, 11, 12, 13, 14, 15].contains k) "value") (xExc 8 "value" (xCons (xVar 0) xNil))) (xCons (xUn (fieldW (fun k => [1, 3, 4, 5, 6, 7, 8, 9, 11, 12, 13, 14, 15].contains k) "value") (xExc 9 "value" (xCons (xVar 0) xNil))) xNil)))) (ws := [w, w, w]) (fun _ _ => rfl) g2 (by omega) (Nat.le_of_ble_eq_true rfl)
  rw [e3, seqS_nx, cSeq_eq] at t1
  obtain ⟨h4, e4, g4, n4, x4⟩ := asg_more (h := h3) (w := w) (r := (xCons (xUn (fieldW (fun k => [10, 16].contains k) "at") (xExc 10 "at" (xCons (xVar 0) xNil))) (xCons (xUn (fieldW (fun k => [1, 3, 4, 5, 6, 7, 8, 9, 11, 12, 13, 14, 15].contains k) "value") (xExc 11 "value" (xCons (xVar 0) xNil))) (xCons (xUn (fieldW (fun k => [1, 3, 4, 5, 6, 7, 8, 9, 11, 12, 13, 14, 15].contains k) "value") (xExc 12 "value" (xCons (xVar 0) xNil))) xNil)))) (ws := [w, w, w]) (fun _ _ => rfl) g3 (by omega) (Nat.le_of_ble_eq_true rfl)
  rw [e4, seqS_nx, cSeq_eq] at t1
  obtain ⟨h5, e5, g5, n5, x5⟩ := asg_more (h := h4) (w := w) (r := (xCons (xUn (fieldW (fun k => [1, 3, 4, 5, 6, 7, 8, 9, 11, 12, 13, 14, 15].contains k) "value") (xExc 13 "value" (xCons (xVar 0) xNil))) (xCons (xUn (fieldW (fun k => [1, 3, 4, 5, 6, 7, 8, 9, 11, 12, 13, 14, 15].contains k) "value") (xExc 14 "value" (xCons (xVar 0) xNil))) (xCons (xUn (fieldW (fun k => [1, 3, 4, 5, 6, 7, 8, 9, 11, 12, 13, 14, 15].contains k) "value") (xExc 15 "value" (xCons (xVar 0) xNil))) xNil)))) (ws := [w, w, w]) (fun _ _ => rfl) g4 (by omega) (Nat.le_of_ble_eq_true rfl)
  rw [e5, seqS_nx] at t1
  obtain ⟨h6, e6, g6, n6, x6⟩ := ret_more (h := h5) (w := w) (r := (xCons (xUn (fieldW (fun k => [10, 16].contains k) "at") (xExc 16 "at" (xCons (xVar 0) xNil))) (xCons (xUn (fieldW (fun k => [18].contains k) "number") (xExc 18 "number" (xCons (xVar 0) xNil))) (xCons (xUn (fieldW (fun k => [19].contains k) "claim") (xExc 19 "claim" (xCons (xVar 0) xNil))) (xCons (xUn (fieldW (fun k => [20].contains k) "row") (xExc 20 "row" (xCons (xVar 0) xNil))) xNil))))) (ws := [w, w, w, w]) (fun _ _ => rfl) g5 (by omega) (Nat.le_of_ble_eq_true rfl)
  rw [e6] at t1
  exact ⟨_, h6, t1, g6, by omega, ((((x1.trans x2).trans x3).trans x4).trans x5).trans x6, by omega⟩
theorem ev_caught (w : W) (h : Hx) : f__law_caught [w] h = .ok (.str [108, 101, 118, 101, 108]) h := rfl
end Lw

set_option linter.all false
set_option maxRecDepth 100000
set_option maxHeartbeats 4000000
namespace Lw
open PySem L2 Sx
local macro_rules | `(tactic| walk_at "ev") => `(tactic| simp only [cSeq_eq, seqS_nx, seqS_rt, bind_ok, bindS_ok, noexc_ok, endOf_rt, endOf_nx, cNil_eq, cExpr_eq, cRet_eq, cRetN_eq, cIf_eq, cAsg_eq, cPar_eq, cFor_eq, xVar_eq, xC_eq, xOp_eq, xBl_eq, xChain_eq, xUn_eq, xTru_eq, xAndT_eq, xOrT_eq, xNotT_eq, xIf_eq, xAnd_eq, xOr_eq, xNot_eq, xNil_eq, xCons_eq, xTup_eq, xLst_eq, xDic0_eq, xCallB_eq, xCall_eq, xIt_eq, xRng1_eq, xRng2_eq, gxName_eq, gxSub_eq, xMeth_eq, xSl_eq, xNo_eq, xYes_eq, xLc_eq, isiW_eq, isi_int, isi_bool, isi_str, isi_tuple, isi_list, isi_dict, truth_bl, curOf, Cur.fuel, wipeE, isB_self, len_tup, ne_int, eq_str, btOf_str, btOf_int, btOf_tup, btOf_bl, btOf_non,
  add_int, sub_int, neg_int, int_int, lt_int, le_int, gt_int, ge_int, max_int, min_int, show (2 : Nat) ≤ lim from by decide, show (0 : Nat) ≤ lim from by decide, show (1 : Nat) ≤ lim from by decide, show (3 : Nat) ≤ lim from by decide,
  List.map_cons, List.map_nil, List.cons_append, List.nil_append, List.append_nil, List.length_cons, List.length_nil, List.getElem?_cons_zero, List.getElem?_cons_succ, List.getElem?_nil, List.set_cons_zero, List.set_cons_succ, Nat.reduceAdd, Nat.reduceSub, if_true, if_false, reduceIte, ite_true, Bool.false_eq_true, Bool.not_true, Bool.not_false, beq_self_eq_true, cast2])
local macro_rules | `(tactic| walk_at "evh") => `(tactic| simp only [cSeq_eq, seqS_nx, seqS_rt, bind_ok, bindS_ok, noexc_ok, endOf_rt, endOf_nx, cNil_eq, cExpr_eq, cRet_eq, cRetN_eq, cIf_eq, cAsg_eq, cPar_eq, cFor_eq, xVar_eq, xC_eq, xOp_eq, xBl_eq, xChain_eq, xUn_eq, xTru_eq, xAndT_eq, xOrT_eq, xNotT_eq, xIf_eq, xAnd_eq, xOr_eq, xNot_eq, xNil_eq, xCons_eq, xTup_eq, xLst_eq, xDic0_eq, xCallB_eq, xCall_eq, xIt_eq, xRng1_eq, xRng2_eq, gxName_eq, gxSub_eq, xMeth_eq, xSl_eq, xNo_eq, xYes_eq, xLc_eq, isiW_eq, isi_int, isi_bool, isi_str, isi_tuple, isi_list, isi_dict, truth_bl, curOf, Cur.fuel, wipeE, isB_self, len_tup, ne_int, eq_str, btOf_str, btOf_int, btOf_tup, btOf_bl, btOf_non,
  add_int, sub_int, neg_int, int_int, lt_int, le_int, gt_int, ge_int, max_int, min_int, show (2 : Nat) ≤ lim from by decide, show (0 : Nat) ≤ lim from by decide, show (1 : Nat) ≤ lim from by decide, show (3 : Nat) ≤ lim from by decide,
  List.map_cons, List.map_nil, List.cons_append, List.nil_append, List.append_nil, List.length_cons, List.length_nil, List.getElem?_cons_zero, List.getElem?_cons_succ, List.getElem?_nil, List.set_cons_zero, List.set_cons_succ, Nat.reduceAdd, Nat.reduceSub, if_true, if_false, reduceIte, ite_true, Bool.false_eq_true, Bool.not_true, Bool.not_false, beq_self_eq_true, cast2, *])
/-! the classes -/
def jsC : List Nat := [1, 2, 3, 4, 5, 6, 7, 8, 9, 10, 11, 12, 13, 14, 15, 16, 18, 19, 20, 17, 21]
def ansC (k : Nat) : List W := jsC.map fun j => .bl ((mroT k).contains j)
theorem isi_c {k j : Nat} {ns : List Str} {ws : List W} {h : Hx} (hk : exB k = true ∧ k < nCls) (hj : j < nCls) : isiT nCls mroT exB [.exc k ns ws, .cl j] h = .ok (.bl ((mroT k).contains j)) h := by
  have e : kit1 nCls mroT exB (.inr k) (.cl j) = some ((mroT k).contains j) := if_pos ⟨hk.1, hk.2, hj⟩
  show (match kit1 nCls mroT exB (.inr k) (.cl j) with
    | some b => R.ok (W.bl b) h
    | none => R.bad) = _
  rw [e]
theorem ax_cls {k : Nat} {ns : List Str} {ws : List W} (hk : exB k = true ∧ k < nCls) : ∀ (js : List Nat), (∀ j ∈ js, j < nCls) → ∀ (x : Option W) (h : Hx), (js.foldr (fun j r => xCons (xCallB (isiT nCls mroT exB) (xCons (xVar 0) (xCons (xC (.cl j)) xNil))) r) xNil) [some (.exc k ns ws), x] h = .ok (js.map fun j => .bl ((mroT k).contains j)) h
  | [], _, x, h => rfl
  | j :: js, hj, x, h => by
    rw [List.foldr_cons, xCons_eq, xCallB_eq]
    show (isiT nCls mroT exB [.exc k ns ws, .cl j] h).bind _ = _
    rw [isi_c hk (hj j List.mem_cons_self), bind_ok, ax_cls hk js (fun i hi => hj i (List.mem_cons_of_mem _ hi)) x h, bind_ok]
    rfl
theorem ev_classes (k : Nat) (ns : List Str) (ws : List W) (h : Hx) (hk : exB k = true ∧ k < nCls) : ∃ p h', f__law_classes [.exc k ns ws] h = .ok (.ref p) h' ∧ h'.get p = some (.lst (ansC k)) ∧ p < h'.n ∧ Ext h h' ∧ h.n ≤ p := by
  have t1 : f__law_classes [.exc k ns ws] h = noexc (endOf (c__law_classes [some (.exc k ns ws), none] h)) := rfl
  unfold c__law_classes at t1
  rw [cSeq_eq] at t1
  obtain ⟨h1, e1, g1, n1, x1⟩ := asg_first (h := h) (w := .exc k ns ws) (r := (xCons (xCallB (isiT nCls mroT exB) (xCons (xVar 0) (xCons (xC (.cl 1)) xNil))) (xCons (xCallB (isiT nCls mroT exB) (xCons (xVar 0) (xCons (xC (.cl 2)) xNil))) (xCons (xCallB (isiT nCls mroT exB) (xCons (xVar 0) (xCons (xC (.cl 3)) xNil))) xNil)))) (ws := [1, 2, 3].map fun j => .bl ((mroT k).contains j)) (fun x h => ax_cls hk [1, 2, 3] (by decide) x h) (Nat.le_of_ble_eq_true rfl)
  rw [e1, seqS_nx, cSeq_eq] at t1
  obtain ⟨h2, e2, g2, n2, x2⟩ := asg_more (h := h1) (w := .exc k ns ws) (r := (xCons (xCallB (isiT nCls mroT exB) (xCons (xVar 0) (xCons (xC (.cl 4)) xNil))) (xCons (xCallB (isiT nCls mroT exB) (xCons (xVar 0) (xCons (xC (.cl 5)) xNil))) (xCons (xCallB (isiT nCls mroT exB) (xCons (xVar 0) (xCons (xC (.cl 6)) xNil))) xNil)))) (ws := [4, 5, 6].map fun j => .bl ((mroT k).contains j)) (fun x h => ax_cls hk [4, 5, 6] (by decide) x h) g1 (by omega) (Nat.le_of_ble_eq_true rfl)
  rw [e2, seqS_nx, cSeq_eq] at t1
  obtain ⟨h3, e3, g3, n3, x3⟩ := asg_more (h := h2) (w := .exc k ns ws) (r := (xCons (xCallB (isiT nCls mroT exB) (xCons (xVar 0) (xCons (xC (.cl 7)) xNil))) (xCons (xCallB (isiT nCls mroT exB) (xCons (xVar 0) (xCons (xC (.cl 8)) xNil))) (xCons (xCallB (isiT nCls mroT exB) (xCons (xVar 0) (xCons (xC (.cl 9)) xNil))) xNil)))) (ws := [7, 8, 9].map fun j => .bl ((mroT k).contains j)) (fun x h => ax_cls hk [7, 8, 9] (by decide) x h) g2 (by omega) (Nat.le_of_ble_eq_true rfl)
  rw [e3, seqS_nx, cSeq_eq] at t1
  obtain ⟨h4, e4, g4, n4, x4⟩ := asg_more (h := h3) (w := .exc k ns ws) (r := (xCons (xCallB (isiT nCls mroT exB) (xCons (xVar 0) (xCons (xC (.cl 10)) xNil))) (xCons (xCallB (isiT nCls mroT exB) (xCons (xVar 0) (xCons (xC (.cl 11)) xNil))) (xCons (xCallB (isiT nCls mroT exB) (xCons (xVar 0) (xCons (xC (.cl 12)) xNil))) xNil)))) (ws := [10, 11, 12].map fun j => .bl ((mroT k).contains j)) (fun x h => ax_cls hk [10, 11, 12] (by decide) x h) g3 (by omega) (Nat.le_of_ble_eq_true rfl)
  rw [e4, seqS_nx, cSeq_eq] at t1
  obtain ⟨h5, e5, g5, n5, x5⟩ := asg_more (h := h4) (w := .exc k ns ws) (r := (xCons (xCallB (isiT nCls mroT exB) (xCons (xVar 0) (xCons (xC (.cl 13)) xNil))) (xCons (xCallB (isiT nCls mroT exB) (xCons (xVar 0) (xCons (xC (.cl 14)) xNil))) (xCons (xCallB (isiT nCls mroT exB) (xCons (xVar 0) (xCons (xC (.cl 15)) xNil))) xNil)))) (ws := [13, 14, 15].map fun j => .bl ((mroT k).contains j)) (fun x h => ax_cls hk [13, 14, 15] (by decide) x h) g4 (by omega) (Nat.le_of_ble_eq_true rfl)
  rw [e5, seqS_nx, cSeq_eq] at t1
  obtain ⟨h6, e6, g6, n6, x6⟩ := asg_more (h := h5) (w := .exc k ns ws) (r := (xCons (xCallB (isiT nCls mroT exB) (xCons (xVar 0) (xCons (xC (.cl 16)) xNil))) (xCons (xCallB (isiT nCls mroT exB) (xCons (xVar 0) (xCons (xC (.cl 18)) xNil))) (xCons (xCallB (isiT nCls mroT exB) (xCons (xVar 0) (xCons (xC (.cl 19)) xNil))) xNil)))) (ws := [16, 18, 19].map fun j => .bl ((mroT k).contains j)) (fun x h => ax_cls hk [16, 18, 19] (by decide) x h) g5 (by omega) (Nat.le_of_ble_eq_true rfl)
  rw [e6, seqS_nx] at t1
  obtain ⟨h7, e7, g7, n7, x7⟩ := ret_more (h := h6) (w := .exc k ns ws) (r := (xCons (xCallB (isiT nCls mroT exB) (xCons (xVar 0) (xCons (xC (.cl 20)) xNil))) (xCons (xCallB (isiT nCls mroT exB) (xCons (xVar 0) (xCons (xC (.cl 17)) xNil))) (xCons (xCallB (isiT nCls mroT exB) (xCons (xVar 0) (xCons (xC (.cl 21)) xNil))) xNil)))) (ws := [20, 17, 21].map fun j => .bl ((mroT k).contains j)) (fun x h => ax_cls hk [20, 17, 21] (by decide) x h) g6 (by omega) (Nat.le_of_ble_eq_true rfl)
  rw [e7] at t1
  exact ⟨_, h7, t1, g7, by omega, (((((x1.trans x2).trans x3).trans x4).trans x5).trans x6).trans x7, by omega⟩
/-! one object -/
def idsC : List (Nat × List Str × Bool) := [(1, ["value"], true), (2, ["part"], true), (3, ["value"], true), (4, ["value"], true), (5, ["value"], true), (6, ["value"], true), (7, ["value"], true), (8, ["value"], true), (9, ["value"], true), (10, ["at"], true), (11, ["value"], true), (12, ["value"], true),
  (13, ["value"], true), (14, ["value"], true), (15, ["value"], true), (16, ["at"], true), (18, ["number"], true), (19, ["claim"], true), (20, ["row"], true), (17, [], false), (21, [], false)]
theorem objs_at (w : W) (i : Nat) (o : W) (e : (objs w)[i]? = some o) : ∃ k ns ws, o = .exc k ns ws ∧ jsC[i]? = some k := by
  have hi : i < 21 := (List.getElem?_eq_some_iff.mp e).1
  have key : ∀ i, i < 21 → ∃ k ns ws, (objs w)[i]? = some (.exc k ns ws) ∧ jsC[i]? = some k := fun i hi =>
    match i, hi with
    | 0, _ => ⟨_, _, _, rfl, rfl⟩ | 1, _ => ⟨_, _, _, rfl, rfl⟩ | 2, _ => ⟨_, _, _, rfl, rfl⟩ | 3, _ => ⟨_, _, _, rfl, rfl⟩ | 4, _ => ⟨_, _, _, rfl, rfl⟩ | 5, _ => ⟨_, _, _, rfl, rfl⟩ | 6, _ => ⟨_, _, _, rfl, rfl⟩
    | 7, _ => ⟨_, _, _, rfl, rfl⟩ | 8, _ => ⟨_, _, _, rfl, rfl⟩ | 9, _ => ⟨_, _, _, rfl, rfl⟩ | 10, _ => ⟨_, _, _, rfl, rfl⟩ | 11, _ => ⟨_, _, _, rfl, rfl⟩ | 12, _ => ⟨_, _, _, rfl, rfl⟩ | 13, _ => ⟨_, _, _, rfl, rfl⟩
    | 14, _ => ⟨_, _, _, rfl, rfl⟩ | 15, _ => ⟨_, _, _, rfl, rfl⟩ | 16, _ => ⟨_, _, _, rfl, rfl⟩ | 17, _ => ⟨_, _, _, rfl, rfl⟩ | 18, _ => ⟨_, _, _, rfl, rfl⟩ | 19, _ => ⟨_, _, _, rfl, rfl⟩ | 20, _ => ⟨_, _, _, rfl, rfl⟩
    | n + 21, h => absurd h (by omega)
  obtain ⟨k, ns, ws, e1, e2⟩ := key i hi
  rw [e1] at e
  exact ⟨k, ns, ws, (Option.some.inj e).symm, e2⟩
def placeL (i : Nat) : List W := (List.range 21).map fun j => .bl (((i : Nat) : Int) == ((j : Nat) : Int))
theorem cls_place : ∀ i, i < 21 → ∀ k, jsC[i]? = some k → (exB k = true ∧ k < nCls) ∧ (jsC.map fun j => (mroT k).contains j) = ((List.range 21).map fun j => (((i : Nat) : Int) == ((j : Nat) : Int))) ∧ (mroT k).contains 0 = true := by
  have key : ∀ i : Fin 21, ∀ k : Fin 22, jsC[i.val]? = some k.val → (exB k.val = true ∧ k.val < nCls) ∧ (jsC.map fun j => (mroT k.val).contains j) = ((List.range 21).map fun j => (((i.val : Nat) : Int) == ((j : Nat) : Int))) ∧ (mroT k.val).contains 0 = true := by decide +kernel
  intro i hi k e
  have hk : k < 22 := by
    have hm : k ∈ jsC := List.mem_of_getElem? e
    have : ∀ k ∈ jsC, k < 22 := by decide
    exact this k hm
  exact key ⟨i, hi⟩ ⟨k, hk⟩ e
theorem bl_all (h : Hx) (bs : List Bool) (n : Nat) : (bs.map W.bl).all (okD h (n + 1)) = true := by
  induction bs with
  | nil => rfl
  | cons b r ih => rw [List.map_cons, List.all_cons, ih]; rfl
theorem bl_eq (h : Hx) (bs : List Bool) (n : Nat) : eqAll (eqH h (n + 1)) (bs.map W.bl) (bs.map W.bl) = true := by
  induction bs with
  | nil => rfl
  | cons b r ih =>
    show (eqH h (n + 1) (.bl b) (.bl b) && eqAll (eqH h (n + 1)) (r.map W.bl) (r.map W.bl)) = true
    rw [ih]
    show (b == b && true) = true
    simp
theorem ev_body1 (w : W) (i : Nat) (o : W) (x0 x1 x2 x3 x4 x7 : Option W) (h : Hx) (e : (objs w)[i]? = some o) : ∃ h', b_law_1 [x0, x1, x2, x3, x4, some (.int (i : Nat)), some o, x7] h = .fl (.nx [x0, x1, x2, x3, x4, some (.int (i : Nat)), some o, x7]) h' ∧ Ext h h' := by
  obtain ⟨k, ns, ws, rfl, ek⟩ := objs_at w i o e
  have hi : i < 21 := (List.getElem?_eq_some_iff.mp e).1
  obtain ⟨hk, hp, h0⟩ := cls_place i hi k ek
  obtain ⟨p, h1, e1, g1, l1, x1', n1⟩ := ev_classes k ns ws h hk
  have lc : xLc (xRng1 (xCons (xC (.int 21)) xNil)) (gxName 7) xYesT (xOp eqW (xVar 5) (xVar 7)) [7] [x0, x1, x2, x3, x4, some (.int (i : Nat)), some (.exc k ns ws), x7] h1 = .ok (.ref h1.n) (h1.new (.lst (placeL i))) := rfl
  have a1 : ansC k = (jsC.map fun j => (mroT k).contains j).map W.bl := by unfold ansC; rw [List.map_map]; rfl
  have a2 : placeL i = ((List.range 21).map fun j => (((i : Nat) : Int) == ((j : Nat) : Int))).map W.bl := by unfold placeL; rw [List.map_map]; rfl
  have g2 : (h1.new (.lst (placeL i))).get p = some (.lst (ansC k)) := by rw [get_new_ne (Nat.ne_of_lt l1)]; exact g1
  have ne : neW (.ref p) (.ref h1.n) (h1.new (.lst (placeL i))) = .ok (.bl false) (h1.new (.lst (placeL i))) := by
    rw [ne_lists g2 get_new_same (by rw [a1]; exact bl_all _ _ _) (by rw [a2]; exact bl_all _ _ _), a1, a2, hp, bl_eq]
    rfl
  have is0 : isiT nCls mroT exB [.exc k ns ws, .cl 0] (h1.new (.lst (placeL i))) = .ok (.bl true) (h1.new (.lst (placeL i))) := by rw [isi_c hk (by decide), h0]
  have cl : xCall f__law_classes (xCons (xVar 6) xNil) [x0, x1, x2, x3, x4, some (.int (i : Nat)), some (.exc k ns ws), x7] h = .ok (.ref p) h1 := e1
  refine ⟨h1.new (.lst (placeL i)), ?_, x1'.trans (Ext.new _ _)⟩
  · unfold b_law_1
    simp only [cSeq_eq, cIf_eq, xBl_eq, xOp_eq, cl, lc, ne, bind_ok, bindS_ok, seqS_nx, cNil_eq, xNotT_eq, xTru_eq, xCallB_eq, xCons_eq, xNil_eq, xVar_eq, xC_eq, List.getElem?_cons_zero, List.getElem?_cons_succ, is0, truth_bl, Bool.false_eq_true, if_false, Bool.not_true]

def Good (h : Hx) (w : W) : Prop := ∀ h', Ext h h' → okD h' 19 w = true ∧ eqH h' 19 w w = true
theorem rep_all {f : W → Bool} {w : W} (e : f w = true) (n : Nat) : (List.replicate n w).all f = true := by
  induction n with
  | zero => rfl
  | succ n ih => rw [List.replicate_succ, List.all_cons, e, ih]; rfl
theorem rep_eq {f : W → W → Bool} {w : W} (e : f w w = true) (n : Nat) : eqAll f (List.replicate n w) (List.replicate n w) = true := by
  induction n with
  | zero => rfl
  | succ n ih =>
    rw [List.replicate_succ]
    show (f w w && eqAll f (List.replicate n w) (List.replicate n w)) = true
    rw [e, ih]
    rfl
theorem mul_lst {h : Hx} {i : Nat} {a : List W} {k : Int} (g : h.get i = some (.lst a)) (c : 0 ≤ k ∧ k ≤ 100000 ∧ a.length * k.toNat ≤ lim) : mulW (.ref i) (.int k) h = .ok (.ref h.n) (h.new (.lst (List.replicate k.toNat a).flatten)) := by
  show (match h.get i with
    | some (.lst a) => if 0 ≤ k ∧ k ≤ 100000 ∧ a.length * k.toNat ≤ lim then R.ok (W.ref h.n) (h.new (.lst (List.replicate k.toNat a).flatten)) else R.bad
    | _ => R.bad) = _
  rw [g]
  exact if_pos c
theorem ev_body2 (w : W) (x0 x1 x2 x3 x5 x6 x7 : Option W) (h : Hx) (gw : Good h w) : ∃ x5' x6' h', b_law_2 [x0, x1, x2, x3, some w, x5, x6, x7] h = .fl (.nx [x0, x1, x2, x3, some w, x5', x6', x7]) h' ∧ Ext h h' := by
  obtain ⟨p, h1, e1, g1, l1, y1, n1⟩ := ev_fields w h
  have c1 : xCall f__law_fields (xCons (xVar 4) xNil) [x0, x1, x2, x3, some w, x5, x6, x7] h = .ok (.ref p) h1 := e1
  have c2 : xLst (xCons (xVar 4) xNil) [x0, x1, x2, x3, some w, x5, x6, x7] h1 = .ok (.ref h1.n) (h1.new (.lst [w])) := rfl
  have m1 : mulW (.ref h1.n) (.int 19) (h1.new (.lst [w])) = .ok (.ref (h1.n + 1)) ((h1.new (.lst [w])).new (.lst (List.replicate 19 w))) := by
    rw [mul_lst get_new_same ⟨by decide, by decide, Nat.le_of_ble_eq_true rfl⟩]
    rfl
  generalize hh3 : (h1.new (.lst [w])).new (.lst (List.replicate 19 w)) = h3 at m1
  have g3 : h3.get p = some (.lst (List.replicate 19 w)) := by
    rw [← hh3, get_new_ne (by rw [new_n]; omega), get_new_ne (Nat.ne_of_lt l1)]
    exact g1
  have g4 : h3.get (h1.n + 1) = some (.lst (List.replicate 19 w)) := by rw [← hh3]; exact new2
  have y3 : Ext h h3 := by rw [← hh3]; exact (y1.trans (Ext.new _ _)).trans (Ext.new _ _)
  obtain ⟨ok, eq⟩ := gw h3 y3
  have ne1 : neW (.ref p) (.ref (h1.n + 1)) h3 = .ok (.bl false) h3 := by
    rw [ne_lists g3 g4 (rep_all ok _) (rep_all ok _), rep_eq eq]
    rfl
  have c3 : xCall f__law_caught (xCons (xVar 4) xNil) [x0, x1, x2, x3, some w, x5, x6, x7] h3 = .ok (.str [108, 101, 118, 101, 108]) h3 := ev_caught w h3
  have ne2 : neW (.str [108, 101, 118, 101, 108]) (.str [108, 101, 118, 101, 108]) h3 = .ok (.bl false) h3 := rfl
  obtain ⟨q, h5, e5, g5, l5, y5, n5⟩ := ev_objects w h3
  have c5 : xCall f__law_objects (xCons (xVar 4) xNil) [x0, x1, x2, x3, some w, x5, x6, x7] h3 = .ok (.ref q) h5 := e5
  have en : enumW [.ref q] h5 = .ok (.enm q 0) h5 := by
    show (match h5.get q with
      | some (.lst _) => R.ok (Cur.enm q 0) h5
      | _ => R.bad) = _
    rw [g5]
  have fu : Cur.fuel h5 (.enm q 0) = 21 := by
    show (match h5.get q with
      | some (.lst xs) => xs.length
      | _ => 0) = 21
    rw [g5]
    rfl
  obtain ⟨es', h', e', z5, z6, rfl, y6⟩ := for_cur (g := gxTup [5, 6]) (b := b_law_1) (fun i => .enm q i) ((objs w).mapIdx fun i o => .tup [.int (i : Nat), o]) (fun _ es h' => ∃ z5 z6, es = [x0, x1, x2, x3, some w, z5, z6, x7] ∧ Ext h5 h')
    (by
      rintro i es h' ⟨z5, z6, rfl, y⟩
      have gq : h'.get q = some (.lst (objs w)) := (y.at_ q l5).trans g5
      show (match h'.get q with
        | some (.lst xs) => some (xs[i]?.map fun w => (W.tup [.int (i : Nat), w], Cur.enm q (i + 1)))
        | _ => none) = _
      rw [gq, List.getElem?_mapIdx, Option.map_map]
      rfl)
    (by
      rintro i u es h' eu ⟨z5, z6, rfl, y⟩
      rw [List.getElem?_mapIdx] at eu
      obtain ⟨o, eo, rfl⟩ := Option.map_eq_some_iff.mp eu
      obtain ⟨h7, e7, y7⟩ := ev_body1 w i o x0 x1 x2 x3 (some w) x7 h' eo
      exact ⟨_, h', rfl, _, h7, e7, _, _, rfl, y.trans y7⟩)
    21 0 [x0, x1, x2, x3, some w, x5, x6, x7] h5 (by rw [List.length_mapIdx]; rfl) ⟨x5, x6, rfl, Ext.refl _⟩
  refine ⟨z5, z6, h', ?_, (y3.trans y5).trans y6⟩
  unfold b_law_2
  have e'' : forLoop (gxTup [5, 6]) b_law_1 (21 + 1) (.enm q 0) [x0, x1, x2, x3, some w, x5, x6, x7] h5 = .fl (.nx [x0, x1, x2, x3, some w, z5, z6, x7]) h' := e'
  have xe : ∀ {a : Ax} {es : Sx.Env} {h : Hx}, xEnum a es h = (a es h).bind fun ws h1 => enumW ws h1 := rfl
  simp only [cSeq_eq, cIf_eq, xOrT_eq, xBl_eq, xOp_eq, c1, c2, c3, c5, m1, ne1, ne2, bind_ok, bindS_ok, seqS_nx, cNil_eq, xC_eq, xe, xCons_eq, xNil_eq, en, cFor_eq, fu, e'', Bool.false_eq_true, if_false]
end Lw

set_option linter.all false
set_option maxRecDepth 100000
set_option maxHeartbeats 4000000
namespace Lw
open PySem L2 Sx
local macro_rules | `(tactic| walk_at "ev") => `(tactic| simp only [cSeq_eq, seqS_nx, seqS_rt, bind_ok, bindS_ok, noexc_ok, endOf_rt, endOf_nx, cNil_eq, cExpr_eq, cRet_eq, cRetN_eq, cIf_eq, cAsg_eq, cPar_eq, cFor_eq, xVar_eq, xC_eq, xOp_eq, xBl_eq, xChain_eq, xUn_eq, xTru_eq, xAndT_eq, xOrT_eq, xNotT_eq, xIf_eq, xAnd_eq, xOr_eq, xNot_eq, xNil_eq, xCons_eq, xTup_eq, xLst_eq, xDic0_eq, xCallB_eq, xCall_eq, xIt_eq, xRng1_eq, xRng2_eq, gxName_eq, gxSub_eq, xMeth_eq, xSl_eq, xNo_eq, xYes_eq, xLc_eq, isiW_eq, isi_int, isi_bool, isi_str, isi_tuple, isi_list, isi_dict, truth_bl, curOf, Cur.fuel, wipeE, isB_self, len_tup, ne_int, eq_str, btOf_str, btOf_int, btOf_tup, btOf_bl, btOf_non,
  add_int, sub_int, neg_int, int_int, lt_int, le_int, gt_int, ge_int, max_int, min_int, show (2 : Nat) ≤ lim from by decide, show (0 : Nat) ≤ lim from by decide, show (1 : Nat) ≤ lim from by decide, show (3 : Nat) ≤ lim from by decide,
  List.map_cons, List.map_nil, List.cons_append, List.nil_append, List.append_nil, List.length_cons, List.length_nil, List.getElem?_cons_zero, List.getElem?_cons_succ, List.getElem?_nil, List.set_cons_zero, List.set_cons_succ, Nat.reduceAdd, Nat.reduceSub, if_true, if_false, reduceIte, ite_true, Bool.false_eq_true, Bool.not_true, Bool.not_false, beq_self_eq_true, cast2])
local macro_rules | `(tactic| walk_at "evh") => `(tactic| simp only [cSeq_eq, seqS_nx, seqS_rt, bind_ok, bindS_ok, noexc_ok, endOf_rt, endOf_nx, cNil_eq, cExpr_eq, cRet_eq, cRetN_eq, cIf_eq, cAsg_eq, cPar_eq, cFor_eq, xVar_eq, xC_eq, xOp_eq, xBl_eq, xChain_eq, xUn_eq, xTru_eq, xAndT_eq, xOrT_eq, xNotT_eq, xIf_eq, xAnd_eq, xOr_eq, xNot_eq, xNil_eq, xCons_eq, xTup_eq, xLst_eq, xDic0_eq, xCallB_eq, xCall_eq, xIt_eq, xRng1_eq, xRng2_eq, gxName_eq, gxSub_eq, xMeth_eq, xSl_eq, xNo_eq, xYes_eq, xLc_eq, isiW_eq, isi_int, isi_bool, isi_str, isi_tuple, isi_list, isi_dict, truth_bl, curOf, Cur.fuel, wipeE, isB_self, len_tup, ne_int, eq_str, btOf_str, btOf_int, btOf_tup, btOf_bl, btOf_non,
  add_int, sub_int, neg_int, int_int, lt_int, le_int, gt_int, ge_int, max_int, min_int, show (2 : Nat) ≤ lim from by decide, show (0 : Nat) ≤ lim from by decide, show (1 : Nat) ≤ lim from by decide, show (3 : Nat) ≤ lim from by decide,
  List.map_cons, List.map_nil, List.cons_append, List.nil_append, List.append_nil, List.length_cons, List.length_nil, List.getElem?_cons_zero, List.getElem?_cons_succ, List.getElem?_nil, List.set_cons_zero, List.set_cons_succ, Nat.reduceAdd, Nat.reduceSub, if_true, if_false, reduceIte, ite_true, Bool.false_eq_true, Bool.not_true, Bool.not_false, beq_self_eq_true, cast2, *])
theorem ofString_ok (s : String) : (Str.ofString s).cps.toList.all (· < 1114112) = true := by
  rw [Str.ofString_eq_toList]
  refine List.all_eq_true.mpr fun c hc => ?_
  have hc' : c ∈ s.toList.map Char.toNat := hc
  obtain ⟨d, _, rfl⟩ := List.mem_map.mp hc'
  have := d.valid
  simp only [decide_eq_true_eq]
  rcases this with q | q
  · show d.val.toNat < 1114112
    have q' : d.val.toNat < 55296 := q
    omega
  · show d.val.toNat < 1114112
    exact q.2
theorem str_small {i : Int} {h : Hx} (c : i.natAbs < 2 ^ 1900) : strW [.int i] h = .ok (.str (intStr i)) h := if_pos ⟨c, ofString_ok _⟩
theorem ev_body3 (ns : List Int) (k : Nat) (x2 x3 x4 x5 x6 x7 : Option W) (h : Hx) (hk : ns ≠ [] → k < ns.length) (hk2 : k ≤ 100) : ∃ x2' x3' x4' x5' x6' h', b_law_3 [some (.fls (ns.map W.int)), some (.int k), x2, x3, x4, x5, x6, x7] h = .fl (.nx [some (.fls (ns.map W.int)), some (.int k), x2', x3', x4', x5', x6', x7]) h' := by
  obtain ⟨p, h1, e1, P1, y1, l1⟩ := ev_opened ns k 4 h hk hk2 (by decide)
  obtain ⟨r, h2, e2, r0, r1, P2, n2, o2⟩ := ev_draw p 400 h1 P1 (by decide)
  have c1 : xCall f__law_opened (xCons (xVar 0) (xCons (xVar 1) (xCons (xC (.int 4)) xNil))) [some (.fls (ns.map W.int)), some (.int k), x2, x3, x4, x5, x6, x7] h = .ok (.ref p) h1 := e1
  have c2 : xCall f__law_draw (xCons (xVar 2) (xCons (xC (.int 400)) xNil)) [some (.fls (ns.map W.int)), some (.int k), some (.ref p), x3, x4, x5, x6, x7] h1 = .ok (.int r) h2 := e2
  have s1 : strW [.int r] h2 = .ok (.str (intStr r)) h2 := str_small (Nat.lt_of_lt_of_le (show r.natAbs < 400 by omega) (by decide +kernel))
  let h3 := h2.new (.lst [.int r])
  let L : List W := [.int r, .str (intStr r), .ref h2.n, .non]
  let h4 := h3.new (.lst L)
  have g4 : h4.get h3.n = some (.lst L) := get_new_same
  have g3 : h4.get h2.n = some (.lst [.int r]) := by
    rw [get_new_ne (show h2.n ≠ h3.n from Nat.ne_of_lt (Nat.lt_succ_self _))]
    exact get_new_same
  let es0 : Sx.Env := [some (.fls (ns.map W.int)), some (.int k), some (.ref p), some (.int r), x4, x5, x6, x7]
  have c3 : xLst (xCons (xVar 3) (xCons (xCallB strW (xCons (xVar 3) xNil)) (xCons (xLst (xCons (xVar 3) xNil)) (xCons (xC .non) xNil)))) es0 h2 = .ok (.ref h3.n) h4 := by
    refine xLst_ok (h1 := h3) (ws := L) ?_ (show 4 ≤ 100000 by decide)
    have q1 : xLst (xCons (xVar 3) xNil) es0 h2 = .ok (.ref h2.n) h3 := rfl
    have q2 : xVar 3 es0 h2 = .ok (.int r) h2 := rfl
    simp only [xCons_eq, xCallB_eq, q1, q2, s1, xNil_eq, xC_eq, bind_ok]
    rfl
  have i3 : xIt (xLst (xCons (xVar 3) (xCons (xCallB strW (xCons (xVar 3) xNil)) (xCons (xLst (xCons (xVar 3) xNil)) (xCons (xC .non) xNil))))) es0 h2 = .ok (.live h3.n 0) h4 := by
    rw [xIt_eq, c3, bind_ok]
    have : curOf h4 (.ref h3.n) = some (.live h3.n 0) := by
      show (match h4.get h3.n with
        | some (.lst _) => some (Cur.live h3.n 0)
        | _ => none) = _
      rw [g4]
    rw [this]
  have fu : Cur.fuel h4 (.live h3.n 0) = 4 := by
    show (match h4.get h3.n with
      | some (.lst xs) => xs.length
      | _ => 0) = 4
    rw [g4]
    rfl
  obtain ⟨es', h', e', z4, z5, z6, rfl, y6⟩ := for_cur (g := gxName 4) (b := b_law_2) (fun i => .live h3.n i) L (fun _ es h' => ∃ z4 z5 z6, es = [some (.fls (ns.map W.int)), some (.int k), some (.ref p), some (.int r), z4, z5, z6, x7] ∧ Ext h4 h')
    (by
      rintro i es h' ⟨z4, z5, z6, rfl, y⟩
      have gq : h'.get h3.n = some (.lst L) := (y.at_ _ (Nat.lt_succ_self _)).trans g4
      show (match h'.get h3.n with
        | some (.lst xs) => some (xs[i]?.map fun w => (w, Cur.live h3.n (i + 1)))
        | _ => none) = _
      rw [gq])
    (by
      rintro i u es h' eu ⟨z4, z5, z6, rfl, y⟩
      have hu : u ∈ L := List.mem_of_getElem? eu
      have gd : Good h' u := fun h'' y'' => by
        have g3' : h''.get h2.n = some (.lst [.int r]) := ((y.trans y'').at_ _ (Nat.lt_succ_of_lt (Nat.lt_succ_self _))).trans g3
        simp only [L, List.mem_cons, List.not_mem_nil, or_false] at hu
        rcases hu with hu | hu | hu | hu <;> subst hu
        · refine ⟨rfl, ?_⟩
          show (r == r) = true
          simp
        · refine ⟨rfl, ?_⟩
          show (intStr r == intStr r) = true
          simp
        · constructor
          · show (match h''.get h2.n with
              | some (.lst xs) => xs.all (okD h'' 18)
              | _ => false) = true
            rw [g3']
            rfl
          · show (match itemsOf h'' (.ref h2.n), itemsOf h'' (.ref h2.n) with
              | some a, some b => eqAll (eqH h'' 18) a b
              | _, _ => false) = true
            have : itemsOf h'' (.ref h2.n) = some [.int r] := by
              show (match h''.get h2.n with
                | some (.lst xs) => some xs
                | _ => none) = _
              rw [g3']
            rw [this]
            show ((r == r) && true) = true
            simp
        · exact ⟨rfl, rfl⟩
      obtain ⟨a5, a6, h7, e7, y7⟩ := ev_body2 u (some (.fls (ns.map W.int))) (some (.int k)) (some (.ref p)) (some (.int r)) z5 z6 x7 h' gd
      exact ⟨_, h', rfl, _, h7, e7, some u, a5, a6, rfl, y.trans y7⟩)
    4 0 es0 h4 rfl ⟨x4, x5, x6, rfl, Ext.refl _⟩
  refine ⟨some (.ref p), some (.int r), z4, z5, z6, h', ?_⟩
  unfold b_law_3
  have e'' : forLoop (gxName 4) b_law_2 (4 + 1) (.live h3.n 0) es0 h4 = .fl (.nx [some (.fls (ns.map W.int)), some (.int k), some (.ref p), some (.int r), z4, z5, z6, x7]) h' := e'
  rw [cSeq_eq, cAsg_eq, c1, bindS_ok]
  show seqS (RS.fl (.nx [some (.fls (ns.map W.int)), some (.int k), some (.ref p), x3, x4, x5, x6, x7]) h1) _ = _
  rw [seqS_nx, cSeq_eq, cAsg_eq, c2, bindS_ok]
  show seqS (RS.fl (.nx es0) h2) _ = _
  rw [seqS_nx, cFor_eq, i3, bindS_ok, fu]
  exact e''
theorem law_true (ns : List Int) (hl : ns.length ≤ 63) : ∃ h', f_law [.fls (ns.map W.int)] ⟨0, .nil⟩ = .ok (.bl true) h' := by
  have t1 : ∀ h, f_law [.fls (ns.map W.int)] h = noexc (endOf (c_law [some (.fls (ns.map W.int)), none, none, none, none, none, none, none] h)) := fun _ => rfl
  generalize hh : (⟨0, .nil⟩ : Hx) = h
  generalize hm : (if (if (6 : Int) < ((ns.map W.int).length : Int) then (6 : Int) else ((ns.map W.int).length : Int)) > 1 then (if (6 : Int) < ((ns.map W.int).length : Int) then (6 : Int) else ((ns.map W.int).length : Int)) else 1) = m
  have m1 : 1 ≤ m ∧ m ≤ 6 ∧ (ns ≠ [] → m ≤ ns.length) := by
    rw [List.length_map] at hm
    refine ⟨?_, ?_, fun q => ?_⟩
    · rw [← hm]; split <;> omega
    · rw [← hm]; repeat (first | split | omega)
    · have : 0 < ns.length := List.length_pos_iff.mpr q
      rw [← hm]; repeat (first | split | omega)
  let I : Nat → Sx.Env → Hx → Prop := fun j es h' => ∃ x1 x2 x3 x4 x5 x6 x7 : Option W, es = [some (.fls (ns.map W.int)), x1, x2, x3, x4, x5, x6, x7]
  obtain ⟨es', h', e', a1, a2, a3, a4, a5, a6, a7, rfl⟩ := for_rng (g := gxName 1) (b := b_law_3) I 0 m.toNat 0 [some (.fls (ns.map W.int)), none, none, none, none, none, none, none] h ⟨none, none, none, none, none, none, none, rfl⟩ (by
    rintro i es h' _ hi ⟨x1, x2, x3, x4, x5, x6, x7, rfl⟩
    obtain ⟨x2', x3', x4', x5', x6', h2, e2⟩ := ev_body3 ns i x2 x3 x4 x5 x6 x7 h' (fun q => by have := m1.2.2 q; omega) (by omega)
    refine ⟨[some (.fls (ns.map W.int)), some (.int (0 + i)), x2, x3, x4, x5, x6, x7], h', rfl, _, h2, ?_, some (.int i), x2', x3', x4', x5', x6', x7, rfl⟩
    rw [show (0 + (i : Int)) = (i : Int) by omega]
    exact e2)
  refine ⟨h', ?_⟩
  rw [t1]
  unfold c_law
  have rg : rng1W [.int m] h = .ok (.rng 0 m.toNat) h := if_pos (by omega)
  have ln : lenW [.fls (ns.map W.int)] h = .ok (.int (ns.map W.int).length) h := rfl
  have e2 : forLoop (gxName 1) b_law_3 (m.toNat + 1) (.rng 0 m.toNat) [some (.fls (ns.map W.int)), none, none, none, none, none, none, none] h = .fl (.nx [some (.fls (ns.map W.int)), a1, a2, a3, a4, a5, a6, a7]) h' := e'
  simp only [ln, max_int, min_int, hm, rg, e2, cSeq_eq, seqS_nx, bind_ok, bindS_ok, cFor_eq, cRet_eq, xRng1_eq, xVar_eq, xC_eq, xCallB_eq, xCons_eq, xNil_eq, Cur.fuel, endOf_rt, noexc_ok, List.getElem?_cons_zero, List.getElem?_cons_succ]
end Lw

namespace Lw
open PySem L2 Sx
/-! ### the end -/
theorem all_mk {K : PySem.W.Frag} {h : Heap} {mg : Str → Option Value} {fa : Addr} (X : K.In h) (G : h.Ns mainGlobals mg) (hfa : mg "law" = some (.ref fa))
    {f0 : Addr} {od0 an0 : Option Addr} {sl0 : Array (Option Value)} {oc0 kV0 dc0 pm0 cd0 ct0 : Value}
    {f1 : Addr} {od1 an1 : Option Addr} {sl1 : Array (Option Value)} {oc1 kV1 dc1 pm1 cd1 ct1 : Value}
    {f2 : Addr} {od2 an2 : Option Addr} {sl2 : Array (Option Value)} {oc2 kV2 dc2 pm2 cd2 ct2 : Value}
    {f3 : Addr} {od3 an3 : Option Addr} {sl3 : Array (Option Value)} {oc3 kV3 dc3 pm3 cd3 ct3 : Value}
    {f4 : Addr} {od4 an4 : Option Addr} {sl4 : Array (Option Value)} {oc4 kV4 dc4 pm4 cd4 ct4 : Value}
    {f5 : Addr} {od5 an5 : Option Addr} {sl5 : Array (Option Value)} {oc5 kV5 dc5 pm5 cd5 ct5 : Value}
    {f6 : Addr} {od6 an6 : Option Addr} {sl6 : Array (Option Value)} {oc6 kV6 dc6 pm6 cd6 ct6 : Value}
    {f7 : Addr} {od7 an7 : Option Addr} {sl7 : Array (Option Value)} {oc7 kV7 dc7 pm7 cd7 ct7 : Value}
    {f8 : Addr} {od8 an8 : Option Addr} {sl8 : Array (Option Value)} {oc8 kV8 dc8 pm8 cd8 ct8 : Value}
    (a0 : PySem.W.nsIn K mainGlobals "_law_numbers" = some (some (.ref f0))) (l0 : K.lookup f0 = some ⟨oc0, od0, .func (PySem.W.fnOf "_law_numbers" "_law_numbers" (defArgs s__law_numbers) (defBody s__law_numbers) (defScope s__law_numbers) .none kV0 dc0 pm0 an0 cd0 ct0), sl0⟩) (c0 : PySem.W.codeIn K cd0 "_law_numbers" = true) (k0 : PySem.W.keepIn K (.ref f0) = true)
    (a1 : PySem.W.nsIn K mainGlobals "_law_draw" = some (some (.ref f1))) (l1 : K.lookup f1 = some ⟨oc1, od1, .func (PySem.W.fnOf "_law_draw" "_law_draw" (defArgs s__law_draw) (defBody s__law_draw) (defScope s__law_draw) .none kV1 dc1 pm1 an1 cd1 ct1), sl1⟩) (c1 : PySem.W.codeIn K cd1 "_law_draw" = true) (k1 : PySem.W.keepIn K (.ref f1) = true)
    (a2 : PySem.W.nsIn K mainGlobals "_law_objects" = some (some (.ref f2))) (l2 : K.lookup f2 = some ⟨oc2, od2, .func (PySem.W.fnOf "_law_objects" "_law_objects" (defArgs s__law_objects) (defBody s__law_objects) (defScope s__law_objects) .none kV2 dc2 pm2 an2 cd2 ct2), sl2⟩) (c2 : PySem.W.codeIn K cd2 "_law_objects" = true) (k2 : PySem.W.keepIn K (.ref f2) = true)
    (a3 : PySem.W.nsIn K mainGlobals "_law_classes" = some (some (.ref f3))) (l3 : K.lookup f3 = some ⟨oc3, od3, .func (PySem.W.fnOf "_law_classes" "_law_classes" (defArgs s__law_classes) (defBody s__law_classes) (defScope s__law_classes) .none kV3 dc3 pm3 an3 cd3 ct3), sl3⟩) (c3 : PySem.W.codeIn K cd3 "_law_classes" = true) (k3 : PySem.W.keepIn K (.ref f3) = true)
    (a4 : PySem.W.nsIn K mainGlobals "_law_fields" = some (some (.ref f4))) (l4 : K.lookup f4 = some ⟨oc4, od4, .func (PySem.W.fnOf "_law_fields" "_law_fields" (defArgs s__law_fields) (defBody s__law_fields) (defScope s__law_fields) .none kV4 dc4 pm4 an4 cd4 ct4), sl4⟩) (c4 : PySem.W.codeIn K cd4 "_law_fields" = true) (k4 : PySem.W.keepIn K (.ref f4) = true)
    (a5 : PySem.W.nsIn K mainGlobals "_law_caught" = some (some (.ref f5))) (l5 : K.lookup f5 = some ⟨oc5, od5, .func (PySem.W.fnOf "_law_caught" "_law_caught" (defArgs s__law_caught) (defBody s__law_caught) (defScope s__law_caught) .none kV5 dc5 pm5 an5 cd5 ct5), sl5⟩) (c5 : PySem.W.codeIn K cd5 "_law_caught" = true) (k5 : PySem.W.keepIn K (.ref f5) = true)
    (a6 : PySem.W.nsIn K mainGlobals "_law_pool" = some (some (.ref f6))) (l6 : K.lookup f6 = some ⟨oc6, od6, .func (PySem.W.fnOf "_law_pool" "_law_pool" (defArgs s__law_pool) (defBody s__law_pool) (defScope s__law_pool) .none kV6 dc6 pm6 an6 cd6 ct6), sl6⟩) (c6 : PySem.W.codeIn K cd6 "_law_pool" = true) (k6 : PySem.W.keepIn K (.ref f6) = true)
    (a7 : PySem.W.nsIn K mainGlobals "_law_opened" = some (some (.ref f7))) (l7 : K.lookup f7 = some ⟨oc7, od7, .func (PySem.W.fnOf "_law_opened" "_law_opened" (defArgs s__law_opened) (defBody s__law_opened) (defScope s__law_opened) .none kV7 dc7 pm7 an7 cd7 ct7), sl7⟩) (c7 : PySem.W.codeIn K cd7 "_law_opened" = true) (k7 : PySem.W.keepIn K (.ref f7) = true)
    (a8 : PySem.W.nsIn K mainGlobals "law" = some (some (.ref f8))) (l8 : K.lookup f8 = some ⟨oc8, od8, .func (PySem.W.fnOf "law" "law" (defArgs s_law) (defBody s_law) (defScope s_law) .none kV8 dc8 pm8 an8 cd8 ct8), sl8⟩) (c8 : PySem.W.codeIn K cd8 "law" = true) (k8 : PySem.W.keepIn K (.ref f8) = true)
    {C0 C1 C2 C3 C4 C5 C6 C7 C8 C9 C10 C11 C12 C13 C14 C15 C16 C17 C18 C19 C20 C21 : Addr}
    (q0 : PySem.W.nsIn K mainGlobals "LevelError" = some (some (.ref C0)))
    (q1 : PySem.W.nsIn K mainGlobals "BadArgument" = some (some (.ref C1)))
    (q2 : PySem.W.nsIn K mainGlobals "BadProgram" = some (some (.ref C2)))
    (q3 : PySem.W.nsIn K mainGlobals "BadProcedure" = some (some (.ref C3)))
    (q4 : PySem.W.nsIn K mainGlobals "BadPoint" = some (some (.ref C4)))
    (q5 : PySem.W.nsIn K mainGlobals "BadLine" = some (some (.ref C5)))
    (q6 : PySem.W.nsIn K mainGlobals "BadStore" = some (some (.ref C6)))
    (q7 : PySem.W.nsIn K mainGlobals "BadMask" = some (some (.ref C7)))
    (q8 : PySem.W.nsIn K mainGlobals "BadGuards" = some (some (.ref C8)))
    (q9 : PySem.W.nsIn K mainGlobals "BadMove" = some (some (.ref C9)))
    (q10 : PySem.W.nsIn K mainGlobals "BadScript" = some (some (.ref C10)))
    (q11 : PySem.W.nsIn K mainGlobals "BadNumber" = some (some (.ref C11)))
    (q12 : PySem.W.nsIn K mainGlobals "BadCell" = some (some (.ref C12)))
    (q13 : PySem.W.nsIn K mainGlobals "BadSection" = some (some (.ref C13)))
    (q14 : PySem.W.nsIn K mainGlobals "BadChange" = some (some (.ref C14)))
    (q15 : PySem.W.nsIn K mainGlobals "BadWish" = some (some (.ref C15)))
    (q16 : PySem.W.nsIn K mainGlobals "BadText" = some (some (.ref C16)))
    (q17 : PySem.W.nsIn K mainGlobals "AtRest" = some (some (.ref C17)))
    (q18 : PySem.W.nsIn K mainGlobals "TooMany" = some (some (.ref C18)))
    (q19 : PySem.W.nsIn K mainGlobals "Broken" = some (some (.ref C19)))
    (q20 : PySem.W.nsIn K mainGlobals "NoRow" = some (some (.ref C20)))
    (q21 : PySem.W.nsIn K mainGlobals "NothingLeft" = some (some (.ref C21)))
    (qt : ctabB K [C0, C1, C2, C3, C4, C5, C6, C7, C8, C9, C10, C11, C12, C13, C14, C15, C16, C17, C18, C19, C20, C21] mroL exL = true)
    (m0 : PySem.W.excIn K C0 exT "Exception.__new__" = true) (mm0 : PySem.W.keepIn K (.ref C0) = true)
    {fi1 : Addr} {oci1 doi1 pmi1 cdi1 cti1 : Value} {odi1 ani1 : Option Addr} {sli1 : Array (Option Value)} {p1i1 p2i1 q1i1 q2i1 q3i1 q4i1 : Pos}
    (v1 : PySem.W.findIn K (.ref C1) "value" = some none) (w1 : PySem.W.findIn K (.ref C1) "__init__" = some (some (.ref fi1))) (x1 : PySem.W.typeIn K (.ref fi1) = some (.type "function"))
    (y1 : K.lookup fi1 = some ⟨oci1, odi1, .func (PySem.W.fnOf "__init__" "BadArgument.__init__" (initArgs "value" p1i1 p2i1) (initBody "value" q1i1 q2i1 q3i1 q4i1) (initScope "value") .none .none doi1 pmi1 ani1 cdi1 cti1), sli1⟩) (z1 : PySem.W.codeIn K cdi1 "BadArgument.__init__" = true)
    {fi2 : Addr} {oci2 doi2 pmi2 cdi2 cti2 : Value} {odi2 ani2 : Option Addr} {sli2 : Array (Option Value)} {p1i2 p2i2 q1i2 q2i2 q3i2 q4i2 : Pos}
    (v2 : PySem.W.findIn K (.ref C2) "part" = some none) (w2 : PySem.W.findIn K (.ref C2) "__init__" = some (some (.ref fi2))) (x2 : PySem.W.typeIn K (.ref fi2) = some (.type "function"))
    (y2 : K.lookup fi2 = some ⟨oci2, odi2, .func (PySem.W.fnOf "__init__" "BadProgram.__init__" (initArgs "part" p1i2 p2i2) (initBody "part" q1i2 q2i2 q3i2 q4i2) (initScope "part") .none .none doi2 pmi2 ani2 cdi2 cti2), sli2⟩) (z2 : PySem.W.codeIn K cdi2 "BadProgram.__init__" = true)
    {fi3 : Addr} {oci3 doi3 pmi3 cdi3 cti3 : Value} {odi3 ani3 : Option Addr} {sli3 : Array (Option Value)} {p1i3 p2i3 q1i3 q2i3 q3i3 q4i3 : Pos}
    (v3 : PySem.W.findIn K (.ref C3) "value" = some none) (w3 : PySem.W.findIn K (.ref C3) "__init__" = some (some (.ref fi3))) (x3 : PySem.W.typeIn K (.ref fi3) = some (.type "function"))
    (y3 : K.lookup fi3 = some ⟨oci3, odi3, .func (PySem.W.fnOf "__init__" "BadProcedure.__init__" (initArgs "value" p1i3 p2i3) (initBody "value" q1i3 q2i3 q3i3 q4i3) (initScope "value") .none .none doi3 pmi3 ani3 cdi3 cti3), sli3⟩) (z3 : PySem.W.codeIn K cdi3 "BadProcedure.__init__" = true)
    {fi4 : Addr} {oci4 doi4 pmi4 cdi4 cti4 : Value} {odi4 ani4 : Option Addr} {sli4 : Array (Option Value)} {p1i4 p2i4 q1i4 q2i4 q3i4 q4i4 : Pos}
    (v4 : PySem.W.findIn K (.ref C4) "value" = some none) (w4 : PySem.W.findIn K (.ref C4) "__init__" = some (some (.ref fi4))) (x4 : PySem.W.typeIn K (.ref fi4) = some (.type "function"))
    (y4 : K.lookup fi4 = some ⟨oci4, odi4, .func (PySem.W.fnOf "__init__" "BadPoint.__init__" (initArgs "value" p1i4 p2i4) (initBody "value" q1i4 q2i4 q3i4 q4i4) (initScope "value") .none .none doi4 pmi4 ani4 cdi4 cti4), sli4⟩) (z4 : PySem.W.codeIn K cdi4 "BadPoint.__init__" = true)
    {fi5 : Addr} {oci5 doi5 pmi5 cdi5 cti5 : Value} {odi5 ani5 : Option Addr} {sli5 : Array (Option Value)} {p1i5 p2i5 q1i5 q2i5 q3i5 q4i5 : Pos}
    (v5 : PySem.W.findIn K (.ref C5) "value" = some none) (w5 : PySem.W.findIn K (.ref C5) "__init__" = some (some (.ref fi5))) (x5 : PySem.W.typeIn K (.ref fi5) = some (.type "function"))
    (y5 : K.lookup fi5 = some ⟨oci5, odi5, .func (PySem.W.fnOf "__init__" "BadLine.__init__" (initArgs "value" p1i5 p2i5) (initBody "value" q1i5 q2i5 q3i5 q4i5) (initScope "value") .none .none doi5 pmi5 ani5 cdi5 cti5), sli5⟩) (z5 : PySem.W.codeIn K cdi5 "BadLine.__init__" = true)
    {fi6 : Addr} {oci6 doi6 pmi6 cdi6 cti6 : Value} {odi6 ani6 : Option Addr} {sli6 : Array (Option Value)} {p1i6 p2i6 q1i6 q2i6 q3i6 q4i6 : Pos}
    (v6 : PySem.W.findIn K (.ref C6) "value" = some none) (w6 : PySem.W.findIn K (.ref C6) "__init__" = some (some (.ref fi6))) (x6 : PySem.W.typeIn K (.ref fi6) = some (.type "function"))
    (y6 : K.lookup fi6 = some ⟨oci6, odi6, .func (PySem.W.fnOf "__init__" "BadStore.__init__" (initArgs "value" p1i6 p2i6) (initBody "value" q1i6 q2i6 q3i6 q4i6) (initScope "value") .none .none doi6 pmi6 ani6 cdi6 cti6), sli6⟩) (z6 : PySem.W.codeIn K cdi6 "BadStore.__init__" = true)
    {fi7 : Addr} {oci7 doi7 pmi7 cdi7 cti7 : Value} {odi7 ani7 : Option Addr} {sli7 : Array (Option Value)} {p1i7 p2i7 q1i7 q2i7 q3i7 q4i7 : Pos}
    (v7 : PySem.W.findIn K (.ref C7) "value" = some none) (w7 : PySem.W.findIn K (.ref C7) "__init__" = some (some (.ref fi7))) (x7 : PySem.W.typeIn K (.ref fi7) = some (.type "function"))
    (y7 : K.lookup fi7 = some ⟨oci7, odi7, .func (PySem.W.fnOf "__init__" "BadMask.__init__" (initArgs "value" p1i7 p2i7) (initBody "value" q1i7 q2i7 q3i7 q4i7) (initScope "value") .none .none doi7 pmi7 ani7 cdi7 cti7), sli7⟩) (z7 : PySem.W.codeIn K cdi7 "BadMask.__init__" = true)
    {fi8 : Addr} {oci8 doi8 pmi8 cdi8 cti8 : Value} {odi8 ani8 : Option Addr} {sli8 : Array (Option Value)} {p1i8 p2i8 q1i8 q2i8 q3i8 q4i8 : Pos}
    (v8 : PySem.W.findIn K (.ref C8) "value" = some none) (w8 : PySem.W.findIn K (.ref C8) "__init__" = some (some (.ref fi8))) (x8 : PySem.W.typeIn K (.ref fi8) = some (.type "function"))
    (y8 : K.lookup fi8 = some ⟨oci8, odi8, .func (PySem.W.fnOf "__init__" "BadGuards.__init__" (initArgs "value" p1i8 p2i8) (initBody "value" q1i8 q2i8 q3i8 q4i8) (initScope "value") .none .none doi8 pmi8 ani8 cdi8 cti8), sli8⟩) (z8 : PySem.W.codeIn K cdi8 "BadGuards.__init__" = true)
    {fi9 : Addr} {oci9 doi9 pmi9 cdi9 cti9 : Value} {odi9 ani9 : Option Addr} {sli9 : Array (Option Value)} {p1i9 p2i9 q1i9 q2i9 q3i9 q4i9 : Pos}
    (v9 : PySem.W.findIn K (.ref C9) "value" = some none) (w9 : PySem.W.findIn K (.ref C9) "__init__" = some (some (.ref fi9))) (x9 : PySem.W.typeIn K (.ref fi9) = some (.type "function"))
    (y9 : K.lookup fi9 = some ⟨oci9, odi9, .func (PySem.W.fnOf "__init__" "BadMove.__init__" (initArgs "value" p1i9 p2i9) (initBody "value" q1i9 q2i9 q3i9 q4i9) (initScope "value") .none .none doi9 pmi9 ani9 cdi9 cti9), sli9⟩) (z9 : PySem.W.codeIn K cdi9 "BadMove.__init__" = true)
    {fi10 : Addr} {oci10 doi10 pmi10 cdi10 cti10 : Value} {odi10 ani10 : Option Addr} {sli10 : Array (Option Value)} {p1i10 p2i10 q1i10 q2i10 q3i10 q4i10 : Pos}
    (v10 : PySem.W.findIn K (.ref C10) "at" = some none) (w10 : PySem.W.findIn K (.ref C10) "__init__" = some (some (.ref fi10))) (x10 : PySem.W.typeIn K (.ref fi10) = some (.type "function"))
    (y10 : K.lookup fi10 = some ⟨oci10, odi10, .func (PySem.W.fnOf "__init__" "BadScript.__init__" (initArgs "at" p1i10 p2i10) (initBody "at" q1i10 q2i10 q3i10 q4i10) (initScope "at") .none .none doi10 pmi10 ani10 cdi10 cti10), sli10⟩) (z10 : PySem.W.codeIn K cdi10 "BadScript.__init__" = true)
    {fi11 : Addr} {oci11 doi11 pmi11 cdi11 cti11 : Value} {odi11 ani11 : Option Addr} {sli11 : Array (Option Value)} {p1i11 p2i11 q1i11 q2i11 q3i11 q4i11 : Pos}
    (v11 : PySem.W.findIn K (.ref C11) "value" = some none) (w11 : PySem.W.findIn K (.ref C11) "__init__" = some (some (.ref fi11))) (x11 : PySem.W.typeIn K (.ref fi11) = some (.type "function"))
    (y11 : K.lookup fi11 = some ⟨oci11, odi11, .func (PySem.W.fnOf "__init__" "BadNumber.__init__" (initArgs "value" p1i11 p2i11) (initBody "value" q1i11 q2i11 q3i11 q4i11) (initScope "value") .none .none doi11 pmi11 ani11 cdi11 cti11), sli11⟩) (z11 : PySem.W.codeIn K cdi11 "BadNumber.__init__" = true)
    {fi12 : Addr} {oci12 doi12 pmi12 cdi12 cti12 : Value} {odi12 ani12 : Option Addr} {sli12 : Array (Option Value)} {p1i12 p2i12 q1i12 q2i12 q3i12 q4i12 : Pos}
    (v12 : PySem.W.findIn K (.ref C12) "value" = some none) (w12 : PySem.W.findIn K (.ref C12) "__init__" = some (some (.ref fi12))) (x12 : PySem.W.typeIn K (.ref fi12) = some (.type "function"))
    (y12 : K.lookup fi12 = some ⟨oci12, odi12, .func (PySem.W.fnOf "__init__" "BadCell.__init__" (initArgs "value" p1i12 p2i12) (initBody "value" q1i12 q2i12 q3i12 q4i12) (initScope "value") .none .none doi12 pmi12 ani12 cdi12 cti12), sli12⟩) (z12 : PySem.W.codeIn K cdi12 "BadCell.__init__" = true)
    {fi13 : Addr} {oci13 doi13 pmi13 cdi13 cti13 : Value} {odi13 ani13 : Option Addr} {sli13 : Array (Option Value)} {p1i13 p2i13 q1i13 q2i13 q3i13 q4i13 : Pos}
    (v13 : PySem.W.findIn K (.ref C13) "value" = some none) (w13 : PySem.W.findIn K (.ref C13) "__init__" = some (some (.ref fi13))) (x13 : PySem.W.typeIn K (.ref fi13) = some (.type "function"))
    (y13 : K.lookup fi13 = some ⟨oci13, odi13, .func (PySem.W.fnOf "__init__" "BadSection.__init__" (initArgs "value" p1i13 p2i13) (initBody "value" q1i13 q2i13 q3i13 q4i13) (initScope "value") .none .none doi13 pmi13 ani13 cdi13 cti13), sli13⟩) (z13 : PySem.W.codeIn K cdi13 "BadSection.__init__" = true)
    {fi14 : Addr} {oci14 doi14 pmi14 cdi14 cti14 : Value} {odi14 ani14 : Option Addr} {sli14 : Array (Option Value)} {p1i14 p2i14 q1i14 q2i14 q3i14 q4i14 : Pos}
    (v14 : PySem.W.findIn K (.ref C14) "value" = some none) (w14 : PySem.W.findIn K (.ref C14) "__init__" = some (some (.ref fi14))) (x14 : PySem.W.typeIn K (.ref fi14) = some (.type "function"))
    (y14 : K.lookup fi14 = some ⟨oci14, odi14, .func (PySem.W.fnOf "__init__" "BadChange.__init__" (initArgs "value" p1i14 p2i14) (initBody "value" q1i14 q2i14 q3i14 q4i14) (initScope "value") .none .none doi14 pmi14 ani14 cdi14 cti14), sli14⟩) (z14 : PySem.W.codeIn K cdi14 "BadChange.__init__" = true)
    {fi15 : Addr} {oci15 doi15 pmi15 cdi15 cti15 : Value} {odi15 ani15 : Option Addr} {sli15 : Array (Option Value)} {p1i15 p2i15 q1i15 q2i15 q3i15 q4i15 : Pos}
    (v15 : PySem.W.findIn K (.ref C15) "value" = some none) (w15 : PySem.W.findIn K (.ref C15) "__init__" = some (some (.ref fi15))) (x15 : PySem.W.typeIn K (.ref fi15) = some (.type "function"))
    (y15 : K.lookup fi15 = some ⟨oci15, odi15, .func (PySem.W.fnOf "__init__" "BadWish.__init__" (initArgs "value" p1i15 p2i15) (initBody "value" q1i15 q2i15 q3i15 q4i15) (initScope "value") .none .none doi15 pmi15 ani15 cdi15 cti15), sli15⟩) (z15 : PySem.W.codeIn K cdi15 "BadWish.__init__" = true)
    {fi16 : Addr} {oci16 doi16 pmi16 cdi16 cti16 : Value} {odi16 ani16 : Option Addr} {sli16 : Array (Option Value)} {p1i16 p2i16 q1i16 q2i16 q3i16 q4i16 : Pos}
    (v16 : PySem.W.findIn K (.ref C16) "at" = some none) (w16 : PySem.W.findIn K (.ref C16) "__init__" = some (some (.ref fi16))) (x16 : PySem.W.typeIn K (.ref fi16) = some (.type "function"))
    (y16 : K.lookup fi16 = some ⟨oci16, odi16, .func (PySem.W.fnOf "__init__" "BadText.__init__" (initArgs "at" p1i16 p2i16) (initBody "at" q1i16 q2i16 q3i16 q4i16) (initScope "at") .none .none doi16 pmi16 ani16 cdi16 cti16), sli16⟩) (z16 : PySem.W.codeIn K cdi16 "BadText.__init__" = true)
    (m17 : PySem.W.excIn K C17 exT "Exception.__new__" = true) (mm17 : PySem.W.keepIn K (.ref C17) = true)
    {fi18 : Addr} {oci18 doi18 pmi18 cdi18 cti18 : Value} {odi18 ani18 : Option Addr} {sli18 : Array (Option Value)} {p1i18 p2i18 q1i18 q2i18 q3i18 q4i18 : Pos}
    (v18 : PySem.W.findIn K (.ref C18) "number" = some none) (w18 : PySem.W.findIn K (.ref C18) "__init__" = some (some (.ref fi18))) (x18 : PySem.W.typeIn K (.ref fi18) = some (.type "function"))
    (y18 : K.lookup fi18 = some ⟨oci18, odi18, .func (PySem.W.fnOf "__init__" "TooMany.__init__" (initArgs "number" p1i18 p2i18) (initBody "number" q1i18 q2i18 q3i18 q4i18) (initScope "number") .none .none doi18 pmi18 ani18 cdi18 cti18), sli18⟩) (z18 : PySem.W.codeIn K cdi18 "TooMany.__init__" = true)
    {fi19 : Addr} {oci19 doi19 pmi19 cdi19 cti19 : Value} {odi19 ani19 : Option Addr} {sli19 : Array (Option Value)} {p1i19 p2i19 q1i19 q2i19 q3i19 q4i19 : Pos}
    (v19 : PySem.W.findIn K (.ref C19) "claim" = some none) (w19 : PySem.W.findIn K (.ref C19) "__init__" = some (some (.ref fi19))) (x19 : PySem.W.typeIn K (.ref fi19) = some (.type "function"))
    (y19 : K.lookup fi19 = some ⟨oci19, odi19, .func (PySem.W.fnOf "__init__" "Broken.__init__" (initArgs "claim" p1i19 p2i19) (initBody "claim" q1i19 q2i19 q3i19 q4i19) (initScope "claim") .none .none doi19 pmi19 ani19 cdi19 cti19), sli19⟩) (z19 : PySem.W.codeIn K cdi19 "Broken.__init__" = true)
    {fi20 : Addr} {oci20 doi20 pmi20 cdi20 cti20 : Value} {odi20 ani20 : Option Addr} {sli20 : Array (Option Value)} {p1i20 p2i20 q1i20 q2i20 q3i20 q4i20 : Pos}
    (v20 : PySem.W.findIn K (.ref C20) "row" = some none) (w20 : PySem.W.findIn K (.ref C20) "__init__" = some (some (.ref fi20))) (x20 : PySem.W.typeIn K (.ref fi20) = some (.type "function"))
    (y20 : K.lookup fi20 = some ⟨oci20, odi20, .func (PySem.W.fnOf "__init__" "NoRow.__init__" (initArgs "row" p1i20 p2i20) (initBody "row" q1i20 q2i20 q3i20 q4i20) (initScope "row") .none .none doi20 pmi20 ani20 cdi20 cti20), sli20⟩) (z20 : PySem.W.codeIn K cdi20 "NoRow.__init__" = true)
    (m21 : PySem.W.excIn K C21 exT "Exception.__new__" = true) (mm21 : PySem.W.keepIn K (.ref C21) = true)
    (b_enumerate : PySem.W.nsIn K mainGlobals "enumerate" = some none)
    (b_int : PySem.W.nsIn K mainGlobals "int" = some none)
    (b_isinstance : PySem.W.nsIn K mainGlobals "isinstance" = some none)
    (b_len : PySem.W.nsIn K mainGlobals "len" = some none)
    (b_max : PySem.W.nsIn K mainGlobals "max" = some none)
    (b_min : PySem.W.nsIn K mainGlobals "min" = some none)
    (b_range : PySem.W.nsIn K mainGlobals "range" = some none)
    (b_str : PySem.W.nsIn K mainGlobals "str" = some none) :
    ∃ T : Txt K mg, T.law.f = fa ∧ ∀ (s : Shared) (v : Value), BindsTo s T.law.fd ⟨[v], []⟩ [("_law_script", v)] := by
  have e := hfa.symm.trans (PySem.W.mg_of X G a8)
  cases e
  exact ⟨{
    _law_numbers := ⟨f0, _, fun_mk (st := s__law_numbers) l0 c0 k0, (fun_mk (st := s__law_numbers) l0 c0 k0).binds (ps := ["_law_cell", "_law_salt", "_law_sizes"]) (fun _ _ _ _ _ _ us hl => match us, hl with | [_, _, _], _ => rfl), PySem.W.mg_of X G a0⟩,
    _law_draw := ⟨f1, _, fun_mk (st := s__law_draw) l1 c1 k1, (fun_mk (st := s__law_draw) l1 c1 k1).binds (ps := ["_law_pool_here", "_law_many"]) (fun _ _ _ _ _ _ us hl => match us, hl with | [_, _], _ => rfl), PySem.W.mg_of X G a1⟩,
    _law_objects := ⟨f2, _, fun_mk (st := s__law_objects) l2 c2 k2, (fun_mk (st := s__law_objects) l2 c2 k2).binds (ps := ["_law_thing"]) (fun _ _ _ _ _ _ us hl => match us, hl with | [_], _ => rfl), PySem.W.mg_of X G a2⟩,
    _law_classes := ⟨f3, _, fun_mk (st := s__law_classes) l3 c3 k3, (fun_mk (st := s__law_classes) l3 c3 k3).binds (ps := ["_law_one"]) (fun _ _ _ _ _ _ us hl => match us, hl with | [_], _ => rfl), PySem.W.mg_of X G a3⟩,
    _law_fields := ⟨f4, _, fun_mk (st := s__law_fields) l4 c4 k4, (fun_mk (st := s__law_fields) l4 c4 k4).binds (ps := ["_law_thing"]) (fun _ _ _ _ _ _ us hl => match us, hl with | [_], _ => rfl), PySem.W.mg_of X G a4⟩,
    _law_caught := ⟨f5, _, fun_mk (st := s__law_caught) l5 c5 k5, (fun_mk (st := s__law_caught) l5 c5 k5).binds (ps := ["_law_thing"]) (fun _ _ _ _ _ _ us hl => match us, hl with | [_], _ => rfl), PySem.W.mg_of X G a5⟩,
    _law_pool := ⟨f6, _, fun_mk (st := s__law_pool) l6 c6 k6, (fun_mk (st := s__law_pool) l6 c6 k6).binds (ps := ["_law_cell", "_law_salt", "_law_many"]) (fun _ _ _ _ _ _ us hl => match us, hl with | [_, _, _], _ => rfl), PySem.W.mg_of X G a6⟩,
    _law_opened := ⟨f7, _, fun_mk (st := s__law_opened) l7 c7 k7, (fun_mk (st := s__law_opened) l7 c7 k7).binds (ps := ["_law_script", "_law_k", "_law_many"]) (fun _ _ _ _ _ _ us hl => match us, hl with | [_, _, _], _ => rfl), PySem.W.mg_of X G a7⟩,
    law := ⟨fa, _, fun_mk (st := s_law) l8 c8 k8, (fun_mk (st := s_law) l8 c8 k8).binds (ps := ["_law_script"]) (fun _ _ _ _ _ _ us hl => match us, hl with | [_], _ => rfl), PySem.W.mg_of X G a8⟩,
    C := ctOf [C0, C1, C2, C3, C4, C5, C6, C7, C8, C9, C10, C11, C12, C13, C14, C15, C16, C17, C18, C19, C20, C21],
    c_LevelError := PySem.W.mg_of X G q0,
    c_BadArgument := PySem.W.mg_of X G q1,
    c_BadProgram := PySem.W.mg_of X G q2,
    c_BadProcedure := PySem.W.mg_of X G q3,
    c_BadPoint := PySem.W.mg_of X G q4,
    c_BadLine := PySem.W.mg_of X G q5,
    c_BadStore := PySem.W.mg_of X G q6,
    c_BadMask := PySem.W.mg_of X G q7,
    c_BadGuards := PySem.W.mg_of X G q8,
    c_BadMove := PySem.W.mg_of X G q9,
    c_BadScript := PySem.W.mg_of X G q10,
    c_BadNumber := PySem.W.mg_of X G q11,
    c_BadCell := PySem.W.mg_of X G q12,
    c_BadSection := PySem.W.mg_of X G q13,
    c_BadChange := PySem.W.mg_of X G q14,
    c_BadWish := PySem.W.mg_of X G q15,
    c_BadText := PySem.W.mg_of X G q16,
    c_AtRest := PySem.W.mg_of X G q17,
    c_TooMany := PySem.W.mg_of X G q18,
    c_Broken := PySem.W.mg_of X G q19,
    c_NoRow := PySem.W.mg_of X G q20,
    c_NothingLeft := PySem.W.mg_of X G q21,
    tab := (ctab_of qt).1,
    xA := (ctab_of qt).2,
    n_0 := ⟨m0, mm0⟩,
    i_1 := xini_of v1 w1 x1 y1 z1,
    i_2 := xini_of v2 w2 x2 y2 z2,
    i_3 := xini_of v3 w3 x3 y3 z3,
    i_4 := xini_of v4 w4 x4 y4 z4,
    i_5 := xini_of v5 w5 x5 y5 z5,
    i_6 := xini_of v6 w6 x6 y6 z6,
    i_7 := xini_of v7 w7 x7 y7 z7,
    i_8 := xini_of v8 w8 x8 y8 z8,
    i_9 := xini_of v9 w9 x9 y9 z9,
    i_10 := xini_of v10 w10 x10 y10 z10,
    i_11 := xini_of v11 w11 x11 y11 z11,
    i_12 := xini_of v12 w12 x12 y12 z12,
    i_13 := xini_of v13 w13 x13 y13 z13,
    i_14 := xini_of v14 w14 x14 y14 z14,
    i_15 := xini_of v15 w15 x15 y15 z15,
    i_16 := xini_of v16 w16 x16 y16 z16,
    n_17 := ⟨m17, mm17⟩,
    i_18 := xini_of v18 w18 x18 y18 z18,
    i_19 := xini_of v19 w19 x19 y19 z19,
    i_20 := xini_of v20 w20 x20 y20 z20,
    n_21 := ⟨m21, mm21⟩,
    f_at := fun k hk => by
      have hk' : k ∈ [10, 16] := List.contains_iff_mem.mp hk
      simp only [List.mem_cons, List.not_mem_nil, or_false] at hk'
      rcases hk' with rfl | rfl
      · exact ⟨(ctab_of qt).2 10 rfl, v10⟩
      · exact ⟨(ctab_of qt).2 16 rfl, v16⟩,
    f_claim := fun k hk => by
      have hk' : k ∈ [19] := List.contains_iff_mem.mp hk
      simp only [List.mem_cons, List.not_mem_nil, or_false] at hk'
      rcases hk' with rfl
      · exact ⟨(ctab_of qt).2 19 rfl, v19⟩,
    f_number := fun k hk => by
      have hk' : k ∈ [18] := List.contains_iff_mem.mp hk
      simp only [List.mem_cons, List.not_mem_nil, or_false] at hk'
      rcases hk' with rfl
      · exact ⟨(ctab_of qt).2 18 rfl, v18⟩,
    f_part := fun k hk => by
      have hk' : k ∈ [2] := List.contains_iff_mem.mp hk
      simp only [List.mem_cons, List.not_mem_nil, or_false] at hk'
      rcases hk' with rfl
      · exact ⟨(ctab_of qt).2 2 rfl, v2⟩,
    f_row := fun k hk => by
      have hk' : k ∈ [20] := List.contains_iff_mem.mp hk
      simp only [List.mem_cons, List.not_mem_nil, or_false] at hk'
      rcases hk' with rfl
      · exact ⟨(ctab_of qt).2 20 rfl, v20⟩,
    f_value := fun k hk => by
      have hk' : k ∈ [1, 3, 4, 5, 6, 7, 8, 9, 11, 12, 13, 14, 15] := List.contains_iff_mem.mp hk
      simp only [List.mem_cons, List.not_mem_nil, or_false] at hk'
      rcases hk' with rfl | rfl | rfl | rfl | rfl | rfl | rfl | rfl | rfl | rfl | rfl | rfl | rfl
      · exact ⟨(ctab_of qt).2 1 rfl, v1⟩
      · exact ⟨(ctab_of qt).2 3 rfl, v3⟩
      · exact ⟨(ctab_of qt).2 4 rfl, v4⟩
      · exact ⟨(ctab_of qt).2 5 rfl, v5⟩
      · exact ⟨(ctab_of qt).2 6 rfl, v6⟩
      · exact ⟨(ctab_of qt).2 7 rfl, v7⟩
      · exact ⟨(ctab_of qt).2 8 rfl, v8⟩
      · exact ⟨(ctab_of qt).2 9 rfl, v9⟩
      · exact ⟨(ctab_of qt).2 11 rfl, v11⟩
      · exact ⟨(ctab_of qt).2 12 rfl, v12⟩
      · exact ⟨(ctab_of qt).2 13 rfl, v13⟩
      · exact ⟨(ctab_of qt).2 14 rfl, v14⟩
      · exact ⟨(ctab_of qt).2 15 rfl, v15⟩,
    b_enumerate := PySem.W.mg_none_of X G b_enumerate,
    b_int := PySem.W.mg_none_of X G b_int,
    b_isinstance := PySem.W.mg_none_of X G b_isinstance,
    b_len := PySem.W.mg_none_of X G b_len,
    b_max := PySem.W.mg_none_of X G b_max,
    b_min := PySem.W.mg_none_of X G b_min,
    b_range := PySem.W.mg_none_of X G b_range,
    b_str := PySem.W.mg_none_of X G b_str }, rfl, fun s v => .of_eq rfl⟩
end Lw
open PySem PySem.W PyProof.Rows
set_option maxHeartbeats 0 in
theorem PySem.Challenge.cw_maskedlevels_k44_classes_of_errors_holds : PySem.Challenge.rw_maskedlevels_k44_classes_of_errors.Holds := by
  w_on; o_law; k_head; (case hw => w_witness2)
  k_fill
  refine L2.walk_of (l := PySem.Challenge.rw_maskedlevels_k44_classes_of_errors) (n := 63) (k := 4) (x := "_law_script") (CX := fun _ => L2.CX0) (sp := fun w => Sx.spAll _ Lw.f_law) rfl (by decide) rfl ⟨rfl, by decide, by decide⟩ (fun w h Y => PySem.W.kIn_of Y) ?F (fun _ _ a ns hl hO hS CT => Sx.law_sp hO hS (Lw.law_true ns hl)) (fun _ _ _ _ _ h => h)
  case F =>
    intro w mg fa h KX G hmg
    obtain ⟨T, e, hb⟩ : ∃ T : Lw.Txt _ mg, T.law.f = fa ∧ ∀ (s : Shared) (v : Value), BindsTo s T.law.fd ⟨[v], []⟩ [("_law_script", v)] := by
      refine' Lw.all_mk KX G hmg ?a0 ?l0 ?c0 ?k0 ?a1 ?l1 ?c1 ?k1 ?a2 ?l2 ?c2 ?k2 ?a3 ?l3 ?c3 ?k3 ?a4 ?l4 ?c4 ?k4 ?a5 ?l5 ?c5 ?k5 ?a6 ?l6 ?c6 ?k6 ?a7 ?l7 ?c7 ?k7 ?a8 ?l8 ?c8 ?k8 ?q0 ?q1 ?q2 ?q3 ?q4 ?q5 ?q6 ?q7 ?q8 ?q9 ?q10 ?q11 ?q12 ?q13 ?q14 ?q15 ?q16 ?q17 ?q18 ?q19 ?q20 ?q21 ?qt ?m0 ?mm0 ?v1 ?w1 ?x1 ?y1 ?z1 ?v2 ?w2 ?x2 ?y2 ?z2 ?v3 ?w3 ?x3 ?y3 ?z3 ?v4 ?w4 ?x4 ?y4 ?z4 ?v5 ?w5 ?x5 ?y5 ?z5 ?v6 ?w6 ?x6 ?y6 ?z6 ?v7 ?w7 ?x7 ?y7 ?z7 ?v8 ?w8 ?x8 ?y8 ?z8 ?v9 ?w9 ?x9 ?y9 ?z9 ?v10 ?w10 ?x10 ?y10 ?z10 ?v11 ?w11 ?x11 ?y11 ?z11 ?v12 ?w12 ?x12 ?y12 ?z12 ?v13 ?w13 ?x13 ?y13 ?z13 ?v14 ?w14 ?x14 ?y14 ?z14 ?v15 ?w15 ?x15 ?y15 ?z15 ?v16 ?w16 ?x16 ?y16 ?z16 ?m17 ?mm17 ?v18 ?w18 ?x18 ?y18 ?z18 ?v19 ?w19 ?x19 ?y19 ?z19 ?v20 ?w20 ?x20 ?y20 ?z20 ?m21 ?mm21 ?b_enumerate ?b_int ?b_isinstance ?b_len ?b_max ?b_min ?b_range ?b_str
      (case a0 => k_is); (case l0 => k_is); (case c0 => k_is); (case k0 => k_is); (case a1 => k_is); (case l1 => k_is); (case c1 => k_is); (case k1 => k_is)
      (case a2 => k_is); (case l2 => k_is); (case c2 => k_is); (case k2 => k_is); (case a3 => k_is); (case l3 => k_is); (case c3 => k_is); (case k3 => k_is)
      (case a4 => k_is); (case l4 => k_is); (case c4 => k_is); (case k4 => k_is); (case a5 => k_is); (case l5 => k_is); (case c5 => k_is); (case k5 => k_is)
      (case a6 => k_is); (case l6 => k_is); (case c6 => k_is); (case k6 => k_is); (case a7 => k_is); (case l7 => k_is); (case c7 => k_is); (case k7 => k_is)
      (case a8 => k_is); (case l8 => k_is); (case c8 => k_is); (case k8 => k_is); (case q0 => k_is); (case q1 => k_is); (case q2 => k_is); (case q3 => k_is)
      (case q4 => k_is); (case q5 => k_is); (case q6 => k_is); (case q7 => k_is); (case q8 => k_is); (case q9 => k_is); (case q10 => k_is); (case q11 => k_is)
      (case q12 => k_is); (case q13 => k_is); (case q14 => k_is); (case q15 => k_is); (case q16 => k_is); (case q17 => k_is); (case q18 => k_is); (case q19 => k_is)
      (case q20 => k_is); (case q21 => k_is); (case qt => kernel_rfl); (case m0 => k_exc); (case mm0 => k_is); (case v1 => k_is); (case w1 => k_is); (case x1 => k_is)
      (case y1 => k_is); (case z1 => k_is); (case v2 => k_is); (case w2 => k_is); (case x2 => k_is); (case y2 => k_is); (case z2 => k_is); (case v3 => k_is)
      (case w3 => k_is); (case x3 => k_is); (case y3 => k_is); (case z3 => k_is); (case v4 => k_is); (case w4 => k_is); (case x4 => k_is); (case y4 => k_is)
      (case z4 => k_is); (case v5 => k_is); (case w5 => k_is); (case x5 => k_is); (case y5 => k_is); (case z5 => k_is); (case v6 => k_is); (case w6 => k_is)
      (case x6 => k_is); (case y6 => k_is); (case z6 => k_is); (case v7 => k_is); (case w7 => k_is); (case x7 => k_is); (case y7 => k_is); (case z7 => k_is)
      (case v8 => k_is); (case w8 => k_is); (case x8 => k_is); (case y8 => k_is); (case z8 => k_is); (case v9 => k_is); (case w9 => k_is); (case x9 => k_is)
      (case y9 => k_is); (case z9 => k_is); (case v10 => k_is); (case w10 => k_is); (case x10 => k_is); (case y10 => k_is); (case z10 => k_is); (case v11 => k_is)
      (case w11 => k_is); (case x11 => k_is); (case y11 => k_is); (case z11 => k_is); (case v12 => k_is); (case w12 => k_is); (case x12 => k_is); (case y12 => k_is)
      (case z12 => k_is); (case v13 => k_is); (case w13 => k_is); (case x13 => k_is); (case y13 => k_is); (case z13 => k_is); (case v14 => k_is); (case w14 => k_is)
      (case x14 => k_is); (case y14 => k_is); (case z14 => k_is); (case v15 => k_is); (case w15 => k_is); (case x15 => k_is); (case y15 => k_is); (case z15 => k_is)
      (case v16 => k_is); (case w16 => k_is); (case x16 => k_is); (case y16 => k_is); (case z16 => k_is); (case m17 => k_exc); (case mm17 => k_is); (case v18 => k_is)
      (case w18 => k_is); (case x18 => k_is); (case y18 => k_is); (case z18 => k_is); (case v19 => k_is); (case w19 => k_is); (case x19 => k_is); (case y19 => k_is)
      (case z19 => k_is); (case v20 => k_is); (case w20 => k_is); (case x20 => k_is); (case y20 => k_is); (case z20 => k_is); (case m21 => k_exc); (case mm21 => k_is)
      (case b_enumerate => k_is); (case b_int => k_is); (case b_isinstance => k_is); (case b_len => k_is); (case b_max => k_is); (case b_min => k_is); (case b_range => k_is); (case b_str => k_is)
    subst e
    exact ⟨T.law.fd, hb, fun base _ _ => (Lw.G_law T).imp fun _ _ _ _ q => q _⟩
