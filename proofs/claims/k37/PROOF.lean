import PyProof.Rows.All
import Wide.All
import OpenK.AllK
import Wide.FinOn
import HandS.ForMost
import HandS.IsInst
import HandS.Flow
import HandS.Style
import HandS.ForExc
import HandS.TupAny
import HandS.Deep
import HandS.ExcValue
import HandS.ExcIs
import HandS.TryMany
import HandS.TryElse
import HandS.ExcInit
import KE.KExcInit
import KE.KDictKeyed
import HandS.Lambda
import KE.KExcIs
import HandS.Iter
import HandS.Property
import HandS.Defaults
import HandS.CallSlots
import HandS.WordsExc
import HandS.Small
import PyProof.ReprReads
import PyProof.ReprRoads
import KE.SortKeyHeap
import KE.OsSortAny
import HandS.Conv
import HandS.More
import HandS.SortInts
import KE.GoesMore
import KE.GoesEnum
import KE.GoesZip
import HandS.DictComp
import HandS.Star
import HandS.EndTab
import HandS.Head0
import HandS.Head1
import HandS.Head2
import HandS.HeadHook1
import HandS.HeadHook2
import HandS.HeadHook4
import HandS.Words
import PySem.Challenge.RW_maskedlevels_k37_known_pairs
set_option Elab.async false
set_option linter.all false
set_option linter.all false
set_option autoImplicit false
set_option maxRecDepth 100000
set_option maxHeartbeats 2000000
/-! Sx: plain Lean functions for defs, and what it means that a state of the model shows a plain one. -/
namespace Sx
open PySem L2

/-! ### plain values, objects, heaps -/
/-- built-in classes that are told apart -/
inductive Bt where
  | int | bool | str | tuple | list | dict | none
  deriving DecidableEq
def Bt.name : Bt → String
  | .int => "int" | .bool => "bool" | .str => "str" | .tuple => "tuple" | .list => "list" | .dict => "dict" | .none => "NoneType"
inductive W where
  | non | bl (b : Bool) | int (i : Int) | str (z : List Nat) | tup (xs : List W) | fls (xs : List W) | ref (i : Nat) | ty (t : Bt) | cl (k : Nat) | exc (k : Nat) (ns : List Str) (ws : List W)

inductive O where
  | lst (xs : List W)
  | dic (lk : Bool) (kvs : List (W × W))
  | ins (k : Nat) (fs : List (Nat × W))
  | dicN (lk : Bool) (kvs : List (W × W))

inductive Tr where
  | nil
  | node (o : Option O) (l r : Tr)
def Tr.get : Tr → Nat → Option O
  | .nil, _ => none
  | .node o l r, i => if i = 0 then o else if i % 2 = 1 then l.get (i / 2) else r.get (i / 2 - 1)
def Tr.mk1 (o : O) : Nat → Nat → Tr
  | 0, _ => .nil
  | f + 1, i => if i = 0 then .node (some o) .nil .nil else if i % 2 = 1 then .node none (Tr.mk1 o f (i / 2)) .nil else .node none .nil (Tr.mk1 o f (i / 2 - 1))
def Tr.set (o : O) : Tr → Nat → Tr
  | .nil, i => Tr.mk1 o (i + 1) i
  | .node x l r, i => if i = 0 then .node (some o) l r else if i % 2 = 1 then .node x (l.set o (i / 2)) r else .node x l (r.set o (i / 2 - 1))
theorem Tr.get_mk1 (o : O) : ∀ (f i j : Nat), i < f → (Tr.mk1 o f i).get j = if j = i then some o else none
  | 0, i, j, h => absurd h (Nat.not_lt_zero _)
  | f + 1, i, j, h => by
    unfold Tr.mk1
    by_cases h0 : i = 0
    · subst h0
      rw [if_pos rfl]
      unfold Tr.get
      by_cases hj : j = 0
      · rw [if_pos hj, if_pos hj]
      · rw [if_neg hj, if_neg hj]
        split <;> rfl
    · rw [if_neg h0]
      by_cases h1 : i % 2 = 1
      · rw [if_pos h1]
        unfold Tr.get
        by_cases hj : j = 0
        · rw [if_pos hj, if_neg (by omega)]
        · rw [if_neg hj]
          by_cases hj1 : j % 2 = 1
          · rw [if_pos hj1, Tr.get_mk1 o f (i / 2) (j / 2) (by omega)]
            by_cases e : j = i
            · rw [if_pos e, if_pos (by omega)]
            · rw [if_neg e, if_neg (by omega)]
          · rw [if_neg hj1, if_neg (by omega)]
            rfl
      · rw [if_neg h1]
        unfold Tr.get
        by_cases hj : j = 0
        · rw [if_pos hj, if_neg (by omega)]
        · rw [if_neg hj]
          by_cases hj1 : j % 2 = 1
          · rw [if_pos hj1, if_neg (by omega)]
            rfl
          · rw [if_neg hj1, Tr.get_mk1 o f (i / 2 - 1) (j / 2 - 1) (by omega)]
            by_cases e : j = i
            · rw [if_pos e, if_pos (by omega)]
            · rw [if_neg e, if_neg (by omega)]
theorem Tr.get_set (o : O) : ∀ (t : Tr) (i j : Nat), (t.set o i).get j = if j = i then some o else t.get j
  | .nil, i, j => by
    unfold Tr.set
    rw [Tr.get_mk1 o (i + 1) i j (Nat.lt_succ_self i)]
    rfl
  | .node x l r, i, j => by
    unfold Tr.set
    by_cases h0 : i = 0
    · subst h0
      rw [if_pos rfl]
      unfold Tr.get
      by_cases hj : j = 0
      · rw [if_pos hj, if_pos hj]
      · rw [if_neg hj, if_neg hj, if_neg hj]
    · rw [if_neg h0]
      by_cases h1 : i % 2 = 1
      · rw [if_pos h1]
        by_cases hj : j = 0
        · subst hj
          rw [if_neg (by omega)]
          rfl
        · by_cases hj1 : j % 2 = 1
          · have g : ∀ (a b : Tr), (Tr.node x a b).get j = a.get (j / 2) := fun a b => by
              conv => lhs; unfold Tr.get
              rw [if_neg hj, if_pos hj1]
            rw [g, g, Tr.get_set o l (i / 2) (j / 2)]
            by_cases e : j = i
            · rw [if_pos e, if_pos (by omega)]
            · rw [if_neg e, if_neg (by omega)]
          · have g : ∀ (a b : Tr), (Tr.node x a b).get j = b.get (j / 2 - 1) := fun a b => by
              conv => lhs; unfold Tr.get
              rw [if_neg hj, if_neg hj1]
            rw [g, g, if_neg (by omega)]
      · rw [if_neg h1]
        by_cases hj : j = 0
        · subst hj
          rw [if_neg (by omega)]
          rfl
        · by_cases hj1 : j % 2 = 1
          · have g : ∀ (a b : Tr), (Tr.node x a b).get j = a.get (j / 2) := fun a b => by
              conv => lhs; unfold Tr.get
              rw [if_neg hj, if_pos hj1]
            rw [g, g, if_neg (by omega)]
          · have g : ∀ (a b : Tr), (Tr.node x a b).get j = b.get (j / 2 - 1) := fun a b => by
              conv => lhs; unfold Tr.get
              rw [if_neg hj, if_neg hj1]
            rw [g, g, Tr.get_set o r (i / 2 - 1) (j / 2 - 1)]
            by_cases e : j = i
            · rw [if_pos e, if_pos (by omega)]
            · rw [if_neg e, if_neg (by omega)]

structure Hx where
  n : Nat
  t : Tr
def Hx.get (h : Hx) (i : Nat) : Option O := h.t.get i
def Hx.put (h : Hx) (i : Nat) (o : O) : Hx := ⟨h.n, h.t.set o i⟩
def Hx.new (h : Hx) (o : O) : Hx := ⟨h.n + 1, h.t.set o h.n⟩
theorem Hx.get_put {h : Hx} {i j : Nat} {o : O} : (h.put i o).get j = if j = i then some o else h.get j := Tr.get_set o h.t i j
theorem Hx.get_new {h : Hx} {j : Nat} {o : O} : (h.new o).get j = if j = h.n then some o else h.get j := Tr.get_set o h.t h.n j

/-- an exception: its class, its fields -/
structure Xc where
  k : Nat
  ns : List Str
  ws : List W
inductive R (α : Type) where
  | ok (a : α) (h : Hx)
  | exc (x : Xc) (h : Hx)
  | bad
abbrev Env := List (Option W)
abbrev Ex := Env → Hx → R W
abbrev Tx := Env → Hx → R Bool
abbrev Ax := Env → Hx → R (List W)
inductive Fl where
  | nx (σ : Env)
  | rt (w : W)
  | bk (σ : Env)
  | ct (σ : Env)
inductive RS where
  | fl (f : Fl) (h : Hx)
  | exc (x : Xc) (σ : Env) (h : Hx)
  | bad
abbrev Sx := Env → Hx → RS
abbrev Fn := List W → Hx → R W
def R.bind {α β : Type} (r : R α) (f : α → Hx → R β) : R β := match r with
  | .ok a h => f a h
  | .exc x h => .exc x h
  | .bad => .bad
def R.bindS {α : Type} (r : R α) (σ : Env) (f : α → Hx → RS) : RS := match r with
  | .ok a h => f a h
  | .exc x h => .exc x σ h
  | .bad => .bad

/-! ### what shows what -/
/-- a list that is only read: locked for the whole run, or of the written part -/
def SqF (K : PySem.W.Frag) (H : Hp) (a : Addr) (vs : List V) : Prop :=
  (∃ o, H a = some (.frz o (.lst vs))) ∨
    ∃ (o : Obj) (its : Array Value) (m : Nat), K.lookup a = some o ∧ o.cls = .type "list" ∧ o.dict = none ∧ o.data = .seq its m ∧ its.size ≤ sizeLine ∧ Vals vs its.toList
theorem SqF.sq {K : PySem.W.Frag} {H : Hp} {a : Addr} {vs : List V} (h : SqF K H a vs) : SqL K H a vs := by
  rcases h with h | h
  · exact .inl (.inr h)
  · exact .inr h

/-- where the classes of the text lie; the program, the world -/
structure CTx where
  ct : Nat → Addr
  P : Program
  w : World
  tabs : List (Addr × Str) := []
instance : CoeFun CTx (fun _ => Nat → Addr) := ⟨CTx.ct⟩
instance : Coe CTx (Nat → Addr) := ⟨CTx.ct⟩
/-- an exception object at a, raised or not: its class, where its dict lies -/
def exv (a C : Addr) (od : Option Addr) : HO := .ext fun h => ∃ (oe : Obj) (vs : Array Value), h.get? a = some oe ∧ Zc (.ref C) od oe ∧ oe.data = .fields vs
/-- a dict with tuples as keys, at a -/
def dNo (P : Program) (w : World) (a : Addr) (xs : List (NestedKey × Addr × Value)) : HO := .ext fun h => ∃ (o : Obj) (es : Array DictEntry) (ep : Nat), h.get? a = some o ∧ o.ExactDict ∧ o.data = .dict es ep ∧ es.toList = xs.map (entryOfKey (nestedKind P w))
theorem dNo_ne {P : Program} {w : World} {a C : Addr} {xs : List (NestedKey × Addr × Value)} {od : Option Addr} : dNo P w a xs ≠ exv a C od := by
  intro e
  have e2 := HO.ext.inj e
  let o : Obj := { cls := .ref C, dict := od, data := .fields #[] }
  have g : (⟨Array.replicate (a + 1) o, {}⟩ : Heap).get? a = some o := by
    unfold Heap.get?
    simp [o]
  have z := congrFun e2 ⟨Array.replicate (a + 1) o, {}⟩
  have y : ∃ (oe : Obj) (vs : Array Value), (⟨Array.replicate (a + 1) o, {}⟩ : Heap).get? a = some oe ∧ Zc (.ref C) od oe ∧ oe.data = .fields vs := ⟨o, #[], g, ⟨rfl, rfl⟩, rfl⟩
  rw [← z] at y
  obtain ⟨o', es, ep, g', _, hd, _⟩ := y
  rw [g] at g'
  cases g'
  cases hd
theorem dNo_neC {P : Program} {w : World} {a : Addr} {xs : List (NestedKey × Addr × Value)} {q : Str} : dNo P w a xs ≠ LamX.CodeO a q := by
  intro e
  have e2 := HO.ext.inj e
  let o : Obj := { cls := .none, dict := none, data := .fields #[.none, .str q 0] }
  have g : (⟨Array.replicate (a + 1) o, {}⟩ : Heap).get? a = some o := by
    unfold Heap.get?
    simp [o]
  have z := congrFun e2 ⟨Array.replicate (a + 1) o, {}⟩
  have y : ∃ (oc : Obj) (vs : Array Value) (t : Tok), (⟨Array.replicate (a + 1) o, {}⟩ : Heap).get? a = some oc ∧ oc.data = .fields vs ∧ vs[1]? = some (.str q t) := ⟨o, _, 0, g, rfl, rfl⟩
  rw [← z] at y
  obtain ⟨o', es, ep, g', _, hd, _⟩ := y
  rw [g] at g'
  cases g'
  cases hd
/-- what stands as one of ours -/
structure OwnO (a : Addr) (u : HO) : Prop where
  t : ∀ xs, u ≠ .tup xs
  ft : ∀ b xs, u ≠ .frz b (.tup xs)
  fl : ∀ b xs, u ≠ .frz b (.lst xs)
  x : ∀ C od, u ≠ exv a C od
  xd : ∀ vs, u ≠ .xd vs
  tb : ∀ ps, u ≠ .tbl ps
  co : ∀ q, u ≠ LamX.CodeO a q
mutual
def nkOf : W → Option NestedKey
  | .non => some .none
  | .bl b => some (.num (if b = true then 1 else 0))
  | .int i => some (.num i)
  | .str z => some (.text ⟨z.toArray⟩)
  | .tup ws => (nkAll ws).map .tup
  | _ => none
def nkAll : List W → Option (List NestedKey)
  | [] => some []
  | w :: r => (nkOf w).bind fun k => (nkAll r).map fun ks => k :: ks
end
/-- its fields -/
def XdAt (H : Hp) (od : Option Addr) (ns : List Str) (vs : List V) : Prop := match od with
  | none => ns = [] ∧ vs = []
  | some d => H d = some (.xd (ns.zip vs))
mutual
inductive Rep (K : PySem.W.Frag) (CT : CTx) (ρ : Nat → Addr) (n : Nat) (H : Hp) : W → V → Prop
  | non : Rep K CT ρ n H .non .non
  | bl (b : Bool) : Rep K CT ρ n H (.bl b) (.bl b)
  | int (i : Int) : Rep K CT ρ n H (.int i) (.int i)
  | str {z : List Nat} : z.all (· < 1114112) = true → Rep K CT ρ n H (.str z) (.str ⟨z.toArray⟩)
  | tup {a : Addr} {xs : List W} {vs : List V} : SqT K H a vs → Reps K CT ρ n H xs vs → Rep K CT ρ n H (.tup xs) (.ref a)
  | fls {a : Addr} {xs : List W} {vs : List V} : SqF K H a vs → Reps K CT ρ n H xs vs → Rep K CT ρ n H (.fls xs) (.ref a)
  | ref {i : Nat} : i < n → Rep K CT ρ n H (.ref i) (.ref (ρ i))
  | ty (x : Bt) : Rep K CT ρ n H (.ty x) (.ty x.name)
  | cl (k : Nat) : Rep K CT ρ n H (.cl k) (.ref (CT k))
  | exc {a : Addr} {k : Nat} {od : Option Addr} {ns : List Str} {ws : List W} {vs : List V} : H a = some (exv a (CT k) od) → XdAt H od ns vs → Reps K CT ρ n H ws vs → Rep K CT ρ n H (.exc k ns ws) (.ref a)
inductive Reps (K : PySem.W.Frag) (CT : CTx) (ρ : Nat → Addr) (n : Nat) (H : Hp) : List W → List V → Prop
  | nil : Reps K CT ρ n H [] []
  | cons {w : W} {v : V} {ws : List W} {vs : List V} : Rep K CT ρ n H w v → Reps K CT ρ n H ws vs → Reps K CT ρ n H (w :: ws) (v :: vs)
end

/-- names by numbers -/
def nmL : Nat → Nat → List Nat
  | 0, _ => []
  | f + 1, n => if n = 0 then [] else (n % 256) :: nmL f (n / 256)
def nmN : List Nat → Nat
  | [] => 0
  | d :: r => d + 256 * nmN r
theorem nmN_nmL : ∀ (f n : Nat), n ≤ f → nmN (nmL f n) = n
  | 0, n, h => (Nat.le_zero.mp h).symm
  | f + 1, n, h => by
    unfold nmL
    by_cases c : n = 0
    · rw [if_pos c, c]
      rfl
    · rw [if_neg c]
      show n % 256 + 256 * nmN (nmL f (n / 256)) = n
      rw [nmN_nmL f (n / 256) (by omega)]
      omega
def nm (n : Nat) : Str := ⟨(nmL n n).reverse.toArray⟩
theorem nm_inj {a b : Nat} (h : nm a = nm b) : a = b := by
  have e : (nmL a a).reverse = (nmL b b).reverse := by
    have := congrArg (fun s : Str => s.cps.toList) h
    simpa [nm] using this
  have e2 := List.reverse_inj.mp e
  rw [← nmN_nmL a a (Nat.le_refl _), e2, nmN_nmL b b (Nat.le_refl _)]
/-- fields, in order -/
inductive RepF (K : PySem.W.Frag) (CT : CTx) (ρ : Nat → Addr) (n : Nat) (H : Hp) : List (Nat × W) → List (Str × V) → Prop
  | nil : RepF K CT ρ n H [] []
  | cons {f : Nat} {w : W} {v : V} {ws : List (Nat × W)} {vs : List (Str × V)} : Rep K CT ρ n H w v → RepF K CT ρ n H ws vs → RepF K CT ρ n H ((f, w) :: ws) ((nm f, v) :: vs)
/-- pairs of a dict with keys that are ints and texts -/
def wKey : Key → W
  | .inl i => .int i
  | .inr x => .str x.cps.toList
inductive RepK (K : PySem.W.Frag) (CT : CTx) (ρ : Nat → Addr) (n : Nat) (H : Hp) : List (W × W) → List (Key × V) → Prop
  | nil : RepK K CT ρ n H [] []
  | cons {k : Key} {w : W} {v : V} {ws : List (W × W)} {vs : List (Key × V)} : Rep K CT ρ n H (wKey k) (kV k) → Rep K CT ρ n H w v → RepK K CT ρ n H ws vs → RepK K CT ρ n H ((wKey k, w) :: ws) ((k, v) :: vs)

/-- pairs of a dict with tuples as keys -/
inductive RepN (K : PySem.W.Frag) (CT : CTx) (ρ : Nat → Addr) (n : Nat) (H : Hp) : List (W × W) → List (NestedKey × Addr × Value) → Prop
  | nil : RepN K CT ρ n H [] []
  | cons {kw w : W} {v : V} {nk : NestedKey} {b : Addr} {u : Value} {ws : List (W × W)} {xs : List (NestedKey × Addr × Value)} : nkOf kw = some nk → nk.depth ≤ 8 → Rep K CT ρ n H kw (.ref b) → Rep K CT ρ n H w v → RelV v u → RepN K CT ρ n H ws xs → RepN K CT ρ n H ((kw, w) :: ws) ((nk, b, u) :: xs)
/-- an object, locked or not -/
def lkd (lk : Bool) (od : Obj) (u : HO) : HO := if lk = true then .frz od u else u
def ObR (K : PySem.W.Frag) (CT : CTx) (ρ : Nat → Addr) (n : Nat) (H : Hp) (a : Addr) : O → Prop
  | .lst xs => ∃ vs, H a = some (.lst vs) ∧ Reps K CT ρ n H xs vs
  | .dic lk kvs => ∃ od vs, H a = some (lkd lk od (.dK vs)) ∧ RepK K CT ρ n H kvs vs
  | .ins k fs => ∃ dx vs, H a = some (.ins (CT k) dx vs) ∧ RepF K CT ρ n H fs vs
  | .dicN lk kvs => ∃ od xs, H a = some (lkd lk od (dNo CT.P CT.w a xs)) ∧ RepN K CT ρ n H kvs xs ∧ (xs.map (·.1)).Nodup ∧ (a == sysModules) = false

structure Sim (K : PySem.W.Frag) (CT : CTx) (ρ : Nat → Addr) (h : Hx) (H : Hp) : Prop where
  inj : ∀ i j, i < h.n → j < h.n → ρ i = ρ j → i = j
  dom : ∀ i, i < h.n → ∃ o, h.get i = some o
  lt : ∀ i o, h.get i = some o → i < h.n
  ob : ∀ i o, h.get i = some o → ObR K CT ρ h.n H (ρ i) o
  tab : LamX.Tabs CT.tabs H

/-- what goes forward: our objects keep their places, what is not ours stands, new places were free -/
structure Fw (ρ : Nat → Addr) (n : Nat) (H : Hp) (ρ' : Nat → Addr) (n' : Nat) (H' : Hp) : Prop where
  le : n ≤ n'
  ext : ∀ i, i < n → ρ' i = ρ i
  frm : ∀ a o, H a = some o → (∀ ps, o ≠ .tbl ps) → (∀ i, i < n → ρ i ≠ a) → H' a = some o
  new : ∀ i, n ≤ i → i < n' → H (ρ' i) = none
  tbl : ∀ a ps, H a = some (.tbl ps) → ∃ more, H' a = some (.tbl (ps ++ more))
  frz : ∀ a od u, H a = some (.frz od u) → H' a = some (.frz od u)
/-- nothing locked -/
def NoFz : Option HO → Prop
  | some (.frz _ _) => False
  | _ => True
structure Nxt (K : PySem.W.Frag) (CT : CTx) (ρ : Nat → Addr) (h : Hx) (H : Hp) (ρ' : Nat → Addr) (h' : Hx) (H' : Hp) : Prop extends Fw ρ h.n H ρ' h'.n H' where
  sim : Sim K CT ρ' h' H'

section
variable {K : PySem.W.Frag} {CT : CTx} {ρ ρ' ρ'' : Nat → Addr} {h h' h'' : Hx} {H H' H'' : Hp}
theorem Fw.refl (ρ : Nat → Addr) (n : Nat) (H : Hp) : Fw ρ n H ρ n H := ⟨Nat.le_refl _, fun _ _ => rfl, fun _ _ e _ _ => e, fun i a b => absurd b (Nat.not_lt.mpr a), fun a ps e => ⟨#[], by rw [e]; simp⟩, fun _ _ _ e => e⟩
theorem Nxt.refl (S : Sim K CT ρ h H) : Nxt K CT ρ h H ρ h H := ⟨Fw.refl _ _ _, S⟩
/-- what stands among ours stands as a list, a dict, an instance -/
theorem ObR.some {n : Nat} {a : Addr} {o : O} (r : ObR K CT ρ n H a o) : ∃ u, H a = some u ∧ OwnO a u := by
  cases o with
  | lst xs => obtain ⟨vs, e, _⟩ := r; exact ⟨_, e, (fun _ z => by cases z), (fun _ _ z => by cases z), (fun _ _ z => by cases z), (fun _ _ z => by unfold exv at z; cases z), (fun _ z => by cases z), (fun _ z => by cases z), (fun _ z => by unfold LamX.CodeO at z; cases z)⟩
  | dic lk kvs =>
    obtain ⟨od, vs, e, _⟩ := r
    refine ⟨_, e, ?_⟩
    cases lk with
    | false => exact ⟨(fun _ z => by cases z), (fun _ _ z => by cases z), (fun _ _ z => by cases z), (fun _ _ z => by unfold exv at z; cases z), (fun _ z => by cases z), (fun _ z => by cases z), (fun _ z => by unfold LamX.CodeO at z; cases z)⟩
    | true => exact ⟨(fun _ z => by cases z), (fun _ _ z => by cases z), (fun _ _ z => by cases z), (fun _ _ z => by unfold exv at z; cases z), (fun _ z => by cases z), (fun _ z => by cases z), (fun _ z => by unfold LamX.CodeO at z; cases z)⟩
  | ins k fs => obtain ⟨dx, vs, e, _⟩ := r; exact ⟨_, e, (fun _ z => by cases z), (fun _ _ z => by cases z), (fun _ _ z => by cases z), (fun _ _ z => by unfold exv at z; cases z), (fun _ z => by cases z), (fun _ z => by cases z), (fun _ z => by unfold LamX.CodeO at z; cases z)⟩
  | dicN lk kvs =>
    obtain ⟨od, xs, e, _⟩ := r
    refine ⟨_, e, ?_⟩
    cases lk with
    | false => exact ⟨(fun _ z => by unfold lkd dNo at z; cases z), (fun _ _ z => by unfold lkd dNo at z; cases z), (fun _ _ z => by unfold lkd dNo at z; cases z), (fun _ _ z => dNo_ne z), (fun _ z => by unfold lkd dNo at z; cases z), (fun _ z => by unfold lkd dNo at z; cases z), (fun _ z => dNo_neC z)⟩
    | true => exact ⟨(fun _ z => by cases z), (fun _ _ z => by unfold lkd dNo at z; cases z), (fun _ _ z => by unfold lkd dNo at z; cases z), (fun _ _ z => by unfold lkd exv at z; cases z), (fun _ z => by cases z), (fun _ z => by cases z), (fun _ z => by unfold lkd LamX.CodeO at z; cases z)⟩
theorem Sim.some (S : Sim K CT ρ h H) {i : Nat} (hi : i < h.n) : ∃ u, H (ρ i) = some u ∧ OwnO (ρ i) u := by
  obtain ⟨o, e⟩ := S.dom i hi
  exact (S.ob i o e).some
theorem Nxt.trans (S : Sim K CT ρ h H) (a : Nxt K CT ρ h H ρ' h' H') (b : Nxt K CT ρ' h' H' ρ'' h'' H'') : Nxt K CT ρ h H ρ'' h'' H'' := by
  have out : ∀ c o, H c = some o → (∀ i, i < h.n → ρ i ≠ c) → ∀ i, i < h'.n → ρ' i ≠ c := fun c o e z i hi => by
    by_cases hl : i < h.n
    · rw [a.ext i hl]
      exact z i hl
    · intro q
      have := a.new i (Nat.le_of_not_lt hl) hi
      rw [q, e] at this
      cases this
  refine ⟨⟨Nat.le_trans a.le b.le, fun i hi => (b.ext i (Nat.lt_of_lt_of_le hi a.le)).trans (a.ext i hi), fun c o e t z => b.frm c o (a.frm c o e t z) t (out c o e z), fun i hi hl => ?_, fun c ps e => ?_, fun c od u e => b.frz c od u (a.frz c od u e)⟩, b.sim⟩
  rotate_left
  · obtain ⟨m1, e1⟩ := a.tbl c ps e
    obtain ⟨m2, e2⟩ := b.tbl c _ e1
    exact ⟨m1 ++ m2, by rw [e2, Array.append_assoc]⟩
  by_cases hm : i < h'.n
  · rw [b.ext i hm]
    exact a.new i hi hm
  · have hn := b.new i (Nat.le_of_not_lt hm) hl
    cases e : H (ρ'' i) with
    | none => rfl
    | some o =>
      by_cases z : ∃ j, j < h.n ∧ ρ j = ρ'' i
      · obtain ⟨j, hj, ej⟩ := z
        obtain ⟨u, eu, _⟩ := a.sim.some (Nat.lt_of_lt_of_le hj a.le)
        rw [a.ext j hj, ej, hn] at eu
        cases eu
      · by_cases ht : ∃ ps, o = .tbl ps
        · obtain ⟨ps, rfl⟩ := ht
          obtain ⟨more, e2⟩ := a.tbl _ ps e
          rw [e2] at hn
          cases hn
        · rw [a.frm _ o e (fun ps q => ht ⟨ps, q⟩) (fun j hj q => z ⟨j, hj, q⟩)] at hn
          cases hn
variable {n n' : Nat}
/-- what a value leans on is kept -/
structure Kp (K : PySem.W.Frag) (ρ : Nat → Addr) (n : Nat) (H : Hp) (ρ' : Nat → Addr) (n' : Nat) (H' : Hp) : Prop where
  t : ∀ a vs, SqT K H a vs → SqT K H' a vs
  f : ∀ a vs, SqF K H a vs → SqF K H' a vs
  ext : ∀ i, i < n → ρ' i = ρ i
  le : n ≤ n'
  x : ∀ a C od, H a = some (exv a C od) → H' a = some (exv a C od)
  xd : ∀ a vs, H a = some (.xd vs) → H' a = some (.xd vs)
theorem Kp.of (S : Sim K CT ρ h H) (N : Fw ρ h.n H ρ' n' H') : Kp K ρ h.n H ρ' n' H' where
  t := fun a vs r => by
    rcases r with (r | ⟨o, r⟩) | r
    · refine .inl (.inl (N.frm _ _ r (fun _ z => by cases z) fun i hi e => ?_))
      obtain ⟨u, eu, w⟩ := S.some hi
      rw [e, r] at eu
      exact w.t _ (Option.some.inj eu).symm
    · refine .inl (.inr ⟨o, N.frm _ _ r (fun _ z => by cases z) fun i hi e => ?_⟩)
      obtain ⟨u, eu, w⟩ := S.some hi
      rw [e, r] at eu
      exact w.ft _ _ (Option.some.inj eu).symm
    · exact .inr r
  f := fun a vs r => by
    rcases r with ⟨o, r⟩ | r
    · refine .inl ⟨o, N.frm _ _ r (fun _ z => by cases z) fun i hi e => ?_⟩
      obtain ⟨u, eu, w⟩ := S.some hi
      rw [e, r] at eu
      exact w.fl _ _ (Option.some.inj eu).symm
    · exact .inr r
  ext := N.ext
  le := N.le
  x := fun a C od r => N.frm _ _ r (fun _ z => by unfold exv at z; cases z) fun i hi e => by
    obtain ⟨u, eu, w⟩ := S.some hi
    rw [e, r] at eu
    rw [e] at w
    exact w.x _ _ (Option.some.inj eu).symm
  xd := fun a vs r => N.frm _ _ r (fun _ z => by cases z) fun i hi e => by
    obtain ⟨u, eu, w⟩ := S.some hi
    rw [e, r] at eu
    exact w.xd _ (Option.some.inj eu).symm
/-- the tables stay, or grow -/
theorem tabs_put (S : Sim K CT ρ h H) {i : Nat} {u : HO} (hi : i < h.n) : LamX.Tabs CT.tabs (L2.upd H (ρ i) u) := fun p hp => by
  obtain ⟨v, ev, w⟩ := S.some hi
  obtain ⟨ps, h1, h2, h3⟩ := S.tab p hp
  refine ⟨ps, ?_, h2, fun pos cv hc => ?_⟩
  · rw [upd_ne (fun e => by rw [e, ev] at h1; exact w.tb _ (Option.some.inj h1))]
    exact h1
  · obtain ⟨c, e1, e2⟩ := h3 pos cv hc
    refine ⟨c, e1, ?_⟩
    rw [upd_ne (fun e => by rw [e, ev] at e2; exact w.co _ (Option.some.inj e2))]
    exact e2
theorem tabs_new (S : Sim K CT ρ h H) {p : Addr} {u : HO} (hp : H p = none) : LamX.Tabs CT.tabs (L2.upd H p u) := S.tab.ext fun b o e => by
  rw [upd_ne (ne_of_none e hp)]
  exact e
/-- a thing that is no tuple and not locked is changed -/
theorem Kp.upd {a : Addr} {u v : HO} (e : H a = Option.some u) (n1 : ∀ xs, u ≠ .tup xs) (n2 : ∀ b x, u ≠ .frz b x) (n3 : ∀ C od, u ≠ exv a C od) (n4 : ∀ vs, u ≠ .xd vs) : Kp K ρ n H ρ n (L2.upd H a v) where
  t := fun b vs r => by
    rcases r with (r | ⟨o, r⟩) | r
    · refine .inl (.inl ?_)
      rw [upd_ne (fun q => by rw [q, e] at r; exact n1 _ (Option.some.inj r))]
      exact r
    · refine .inl (.inr ⟨o, ?_⟩)
      rw [upd_ne (fun q => by rw [q, e] at r; exact n2 _ _ (Option.some.inj r))]
      exact r
    · exact .inr r
  f := fun b vs r => by
    rcases r with ⟨o, r⟩ | r
    · refine .inl ⟨o, ?_⟩
      rw [upd_ne (fun q => by rw [q, e] at r; exact n2 _ _ (Option.some.inj r))]
      exact r
    · exact .inr r
  ext := fun _ _ => rfl
  le := Nat.le_refl _
  x := fun b C od r => by
    rw [upd_ne (fun q => by rw [q, e] at r; exact n3 _ _ (Option.some.inj r))]
    exact r
  xd := fun b φ r => by
    rw [upd_ne (fun q => by rw [q, e] at r; exact n4 _ (Option.some.inj r))]
    exact r
theorem XdAt.kp (k : Kp K ρ n H ρ' n' H') {od : Option Addr} {ns : List Str} {vs : List V} (x : XdAt H od ns vs) : XdAt H' od ns vs := by
  cases od with
  | none => exact x
  | some d => exact k.xd _ _ x
mutual
theorem Rep.kp (k : Kp K ρ n H ρ' n' H') : ∀ (w : W) (v : V), Rep K CT ρ n H w v → Rep K CT ρ' n' H' w v
  | .non, _, r => by cases r; exact .non
  | .bl b, _, r => by cases r; exact .bl b
  | .int i, _, r => by cases r; exact .int i
  | .str z, _, r => by cases r; exact .str ‹_›
  | .tup xs, v, r => by
    cases r with
    | tup s q => exact .tup (k.t _ _ s) (Reps.kp k xs _ q)
  | .fls xs, v, r => by
    cases r with
    | fls s q => exact .fls (k.f _ _ s) (Reps.kp k xs _ q)
  | .ref i, v, r => by
    cases r with
    | ref hi =>
      rw [← k.ext i hi]
      exact .ref (Nat.lt_of_lt_of_le hi k.le)
  | .ty x, _, r => by cases r; exact .ty x
  | .cl k, _, r => by cases r; exact .cl k
  | .exc j ns ws, v, r => by
    cases r with
    | exc a b q => exact .exc (k.x _ _ _ a) (XdAt.kp k b) (Reps.kp k ws _ q)
theorem Reps.kp (k : Kp K ρ n H ρ' n' H') : ∀ (ws : List W) (vs : List V), Reps K CT ρ n H ws vs → Reps K CT ρ' n' H' ws vs
  | [], _, r => by cases r; exact .nil
  | w :: ws, _, r => by
    cases r with
    | cons a b => exact .cons (Rep.kp k w _ a) (Reps.kp k ws _ b)
end
theorem RepF.kp (k : Kp K ρ n H ρ' n' H') : ∀ {ws : List (Nat × W)} {vs : List (Str × V)}, RepF K CT ρ n H ws vs → RepF K CT ρ' n' H' ws vs
  | _, _, .nil => .nil
  | _, _, .cons a b => .cons (Rep.kp k _ _ a) (RepF.kp k b)
theorem RepK.kp (k : Kp K ρ n H ρ' n' H') : ∀ {ws : List (W × W)} {vs : List (Key × V)}, RepK K CT ρ n H ws vs → RepK K CT ρ' n' H' ws vs
  | _, _, .nil => .nil
  | _, _, .cons c a b => .cons (Rep.kp k _ _ c) (Rep.kp k _ _ a) (RepK.kp k b)
theorem RepN.kp (k : Kp K ρ n H ρ' n' H') : ∀ {ws : List (W × W)} {vs : List (NestedKey × Addr × Value)}, RepN K CT ρ n H ws vs → RepN K CT ρ' n' H' ws vs
  | _, _, .nil => .nil
  | _, _, .cons a b c d e f => .cons a b (Rep.kp k _ _ c) (Rep.kp k _ _ d) e (RepN.kp k f)
theorem ObR.kp (k : Kp K ρ n H ρ' n' H') {a : Addr} {o : O} (e : H' a = H a) (r : ObR K CT ρ n H a o) : ObR K CT ρ' n' H' a o := by
  cases o with
  | lst xs => obtain ⟨vs, q, r⟩ := r; exact ⟨vs, e.trans q, Reps.kp k _ _ r⟩
  | dic lk kvs => obtain ⟨od, vs, q, r⟩ := r; exact ⟨od, vs, e.trans q, RepK.kp k r⟩
  | ins j fs => obtain ⟨dx, vs, q, r⟩ := r; exact ⟨dx, vs, e.trans q, RepF.kp k r⟩
  | dicN lk kvs => obtain ⟨od, xs, q, r, nd⟩ := r; exact ⟨od, xs, e.trans q, RepN.kp k r, nd⟩
theorem Rep.keep (S : Sim K CT ρ h H) (N : Fw ρ h.n H ρ' n' H') (w : W) (v : V) (r : Rep K CT ρ h.n H w v) : Rep K CT ρ' n' H' w v := Rep.kp (Kp.of S N) w v r
theorem Reps.keep (S : Sim K CT ρ h H) (N : Fw ρ h.n H ρ' n' H') (ws : List W) (vs : List V) (r : Reps K CT ρ h.n H ws vs) : Reps K CT ρ' n' H' ws vs := Reps.kp (Kp.of S N) ws vs r
theorem RepF.keep (S : Sim K CT ρ h H) (N : Fw ρ h.n H ρ' n' H') {ws : List (Nat × W)} {vs : List (Str × V)} (r : RepF K CT ρ h.n H ws vs) : RepF K CT ρ' n' H' ws vs := RepF.kp (Kp.of S N) r
theorem RepK.keep (S : Sim K CT ρ h H) (N : Fw ρ h.n H ρ' n' H') {ws : List (W × W)} {vs : List (Key × V)} (r : RepK K CT ρ h.n H ws vs) : RepK K CT ρ' n' H' ws vs := RepK.kp (Kp.of S N) r
theorem ObR.keep (S : Sim K CT ρ h H) (N : Fw ρ h.n H ρ' n' H') {a : Addr} {o : O} (e : H' a = H a) (r : ObR K CT ρ h.n H a o) : ObR K CT ρ' n' H' a o := ObR.kp (Kp.of S N) e r
/-- a thing that is not ours is laid at a free place -/
theorem Fw.aside (S : Sim K CT ρ h H) {p : Addr} {u : HO} (hp : H p = none) : Fw ρ h.n H ρ h.n (upd H p u) :=
  ⟨Nat.le_refl _, fun _ _ => rfl, fun a o e _ _ => by rw [upd_ne (ne_of_none e hp)]; exact e, fun i a b => absurd b (Nat.not_lt.mpr a), fun a ps e => ⟨#[], by rw [upd_ne (ne_of_none e hp), e]; simp⟩, fun a od u e => by rw [upd_ne (ne_of_none e hp)]; exact e⟩
theorem Nxt.aside (S : Sim K CT ρ h H) {p : Addr} {u : HO} (hp : H p = none) : Nxt K CT ρ h H ρ h (upd H p u) := by
  have F : Fw ρ h.n H ρ h.n (upd H p u) := Fw.aside S hp
  refine ⟨F, S.inj, S.dom, S.lt, fun i o e => (S.ob i o e).keep S F ?_, tabs_new S hp⟩
  obtain ⟨v, ev, _⟩ := (S.ob i o e).some
  rw [upd_ne (ne_of_none ev hp)]
/-- a new object of ours -/
def ρnew (ρ : Nat → Addr) (n : Nat) (p : Addr) : Nat → Addr := fun i => if i = n then p else ρ i
theorem Fw.fresh (ρ : Nat → Addr) (n : Nat) {p : Addr} {u : HO} (hp : H p = none) : Fw ρ n H (ρnew ρ n p) (n + 1) (upd H p u) :=
  ⟨Nat.le_succ _, fun i hi => if_neg (Nat.ne_of_lt hi), fun a o e _ _ => by rw [upd_ne (ne_of_none e hp)]; exact e, fun i a b => by
    have e : i = n := by omega
    unfold ρnew
    rw [if_pos e]
    exact hp, fun a ps e => ⟨#[], by rw [upd_ne (ne_of_none e hp), e]; simp⟩, fun a od u e => by rw [upd_ne (ne_of_none e hp)]; exact e⟩
theorem Nxt.fresh (S : Sim K CT ρ h H) {p : Addr} {u : HO} {o : O} (hp : H p = none) (ho : ObR K CT (ρnew ρ h.n p) (h.n + 1) (upd H p u) p o) : Nxt K CT ρ h H (ρnew ρ h.n p) (h.new o) (upd H p u) := by
  have F : Fw ρ h.n H (ρnew ρ h.n p) (h.n + 1) (upd H p u) := Fw.fresh ρ h.n hp
  have at_n : ρnew ρ h.n p h.n = p := if_pos rfl
  refine ⟨F, ?_, ?_, ?_, ?_, tabs_new S hp⟩
  · intro i j hi hj e
    have hi' : i < h.n + 1 := hi
    have hj' : j < h.n + 1 := hj
    unfold ρnew at e
    by_cases ei : i = h.n
    · by_cases ej : j = h.n
      · omega
      · rw [if_pos ei, if_neg ej] at e
        obtain ⟨v, ev, _⟩ := S.some (show j < h.n by omega)
        rw [← e, hp] at ev
        cases ev
    · by_cases ej : j = h.n
      · rw [if_neg ei, if_pos ej] at e
        obtain ⟨v, ev, _⟩ := S.some (show i < h.n by omega)
        rw [e, hp] at ev
        cases ev
      · rw [if_neg ei, if_neg ej] at e
        exact S.inj i j (by omega) (by omega) e
  · intro i hi
    have hi' : i < h.n + 1 := hi
    rw [Hx.get_new]
    by_cases ei : i = h.n
    · exact ⟨o, if_pos ei⟩
    · rw [if_neg ei]
      exact S.dom i (by omega)
  · intro i u' e
    rw [Hx.get_new] at e
    show i < h.n + 1
    by_cases ei : i = h.n
    · omega
    · rw [if_neg ei] at e
      exact Nat.lt_succ_of_lt (S.lt i u' e)
  · intro i u' e
    rw [Hx.get_new] at e
    by_cases ei : i = h.n
    · rw [if_pos ei] at e
      cases e
      subst ei
      rw [at_n]
      exact ho
    · rw [if_neg ei] at e
      have hl := S.lt i u' e
      rw [F.ext i hl]
      refine (S.ob i u' e).keep S F ?_
      obtain ⟨v, ev, _⟩ := (S.ob i u' e).some
      rw [upd_ne (ne_of_none ev hp)]
/-- one of our objects is changed -/
theorem Fw.put (S : Sim K CT ρ h H) {i : Nat} {u : HO} (hi : i < h.n) (hz : NoFz (H (ρ i))) : Fw ρ h.n H ρ h.n (upd H (ρ i) u) :=
  ⟨Nat.le_refl _, fun _ _ => rfl, fun a o e _ z => by rw [upd_ne (fun q => z i hi q.symm)]; exact e, fun i a b => absurd b (Nat.not_lt.mpr a), fun a ps e => ⟨#[], by
    obtain ⟨v, ev, w⟩ := S.some hi
    rw [upd_ne (fun q => by rw [q, ev] at e; exact w.tb _ (Option.some.inj e)), e]
    simp⟩, fun a od u e => by
    rw [upd_ne (fun q => by rw [q] at e; rw [e] at hz; exact hz)]
    exact e⟩
theorem Nxt.put (S : Sim K CT ρ h H) {i : Nat} {u : HO} {o : O} (hi : i < h.n) (hz : NoFz (H (ρ i))) (ho : ObR K CT ρ h.n (upd H (ρ i) u) (ρ i) o) : Nxt K CT ρ h H ρ (h.put i o) (upd H (ρ i) u) := by
  have F : Fw ρ h.n H ρ h.n (upd H (ρ i) u) := Fw.put S hi hz
  refine ⟨F, S.inj, fun j hj => ?_, fun j u' e => ?_, fun j u' e => ?_, tabs_put S hi⟩
  · rw [Hx.get_put]
    by_cases ej : j = i
    · exact ⟨o, if_pos ej⟩
    · rw [if_neg ej]
      exact S.dom j hj
  · rw [Hx.get_put] at e
    by_cases ej : j = i
    · rw [ej]
      exact hi
    · rw [if_neg ej] at e
      exact S.lt j u' e
  · rw [Hx.get_put] at e
    by_cases ej : j = i
    · rw [if_pos ej] at e
      cases e
      rw [ej]
      exact ho
    · rw [if_neg ej] at e
      refine (S.ob j u' e).keep S F ?_
      rw [upd_ne (fun q => ej (S.inj j i (S.lt j u' e) hi q))]
theorem Reps.length : ∀ {ws : List W} {vs : List V} {n : Nat}, Reps K CT ρ n H ws vs → ws.length = vs.length
  | _, _, _, .nil => rfl
  | _, _, _, .cons _ t => by rw [List.length_cons, List.length_cons, Reps.length t]
theorem Reps.get : ∀ {ws : List W} {vs : List V} {n : Nat} {i : Nat} {w : W}, Reps K CT ρ n H ws vs → ws[i]? = some w → ∃ v, vs[i]? = some v ∧ Rep K CT ρ n H w v
  | _, _, _, _, _, .nil, e => by cases e
  | _, _, _, 0, _, .cons r _, e => by cases e; exact ⟨_, rfl, r⟩
  | _, _, _, i + 1, w, .cons _ t, e => Reps.get (i := i) t e
theorem Reps.set : ∀ {ws : List W} {vs : List V} {n : Nat} {w : W} {v : V} (i : Nat), Rep K CT ρ n H w v → Reps K CT ρ n H ws vs → Reps K CT ρ n H (ws.set i w) (vs.set i v)
  | _, _, _, _, _, _, _, .nil => .nil
  | _, _, _, _, _, 0, r, .cons _ t => .cons r t
  | _, _, _, _, _, i + 1, r, .cons q t => .cons q (Reps.set i r t)
theorem Reps.append : ∀ {ws ws' : List W} {vs vs' : List V} {n : Nat}, Reps K CT ρ n H ws vs → Reps K CT ρ n H ws' vs' → Reps K CT ρ n H (ws ++ ws') (vs ++ vs')
  | _, _, _, _, _, .nil, s => s
  | _, _, _, _, _, .cons r t, s => .cons r (Reps.append t s)
theorem Reps.take : ∀ {ws : List W} {vs : List V} {n : Nat} (k : Nat), Reps K CT ρ n H ws vs → Reps K CT ρ n H (ws.take k) (vs.take k)
  | _, _, _, 0, _ => by rw [List.take_zero, List.take_zero]; exact .nil
  | _, _, _, _ + 1, .nil => .nil
  | _, _, _, k + 1, .cons r t => .cons r (Reps.take k t)
theorem Reps.drop : ∀ {ws : List W} {vs : List V} {n : Nat} (k : Nat), Reps K CT ρ n H ws vs → Reps K CT ρ n H (ws.drop k) (vs.drop k)
  | _, _, _, 0, r => r
  | _, _, _, _ + 1, .nil => .nil
  | _, _, _, k + 1, .cons _ t => Reps.drop k t
theorem Reps.isEmpty {ws : List W} {vs : List V} {n : Nat} (r : Reps K CT ρ n H ws vs) : ws.isEmpty = vs.isEmpty := by cases r <;> rfl
end
end Sx

set_option linter.all false
set_option autoImplicit false
set_option maxRecDepth 100000
set_option maxHeartbeats 2000000
namespace Sx
open PySem L2

/-! ### readings by plain functions -/
/-- how an exception lies: without fields none, with them its own dict -/
def XcR (K : PySem.W.Frag) (CT : CTx) (ρ : Nat → Addr) (n : Nat) (H : Hp) (x : Xc) (od : Option Addr) : Prop :=
  ∃ vs, XdAt H od x.ns vs ∧ Reps K CT ρ n H x.ws vs
abbrev RW (K : PySem.W.Frag) (CT : CTx) : (Nat → Addr) → Nat → Hp → W → V → Prop := fun ρ n H => Rep K CT ρ n H
abbrev RA (K : PySem.W.Frag) (CT : CTx) : (Nat → Addr) → Nat → Hp → List W → List V → Prop := fun ρ n H => Reps K CT ρ n H
abbrev RB : (Nat → Addr) → Nat → Hp → Bool → Bool → Prop := fun _ _ _ a b => a = b
def Post {α β : Type} (K : PySem.W.Frag) (CT : CTx) (RR : (Nat → Addr) → Nat → Hp → α → β → Prop) (Wd : WX) (ρ : Nat → Addr) (h : Hx) (H : Hp) (σ : St) (r : R α) (Q : β → Hp → Prop) : Prop := match r with
  | .ok w h' => ∀ ρ' H' v, Nxt K CT ρ h H ρ' h' H' → RR ρ' h'.n H' w v → Q v H'
  | .exc x h' => ∀ ρ' H' od, Nxt K CT ρ h H ρ' h' H' → XcR K CT ρ' h'.n H' x od → Wd (.ref (CT x.k)) od σ H'
  | .bad => False
structure REnv (K : PySem.W.Frag) (CT : CTx) (ρ : Nat → Addr) (n : Nat) (H : Hp) (es : Env) (σ : St) : Prop where
  len : es.length = σ.length
  at_ : ∀ (i : Nat) (w : W), es[i]? = some (some w) → ∃ v, σ[i]? = some (some v) ∧ Rep K CT ρ n H w v
def tE (K : PySem.W.Frag) (CT : CTx) (Wd : WX) (c : Ex) : TE := fun σ H Q => ∃ ρ h es, Sim K CT ρ h H ∧ REnv K CT ρ h.n H es σ ∧ Post K CT (RW K CT) Wd ρ h H σ (c es h) Q
def tT (K : PySem.W.Frag) (CT : CTx) (Wd : WX) (c : Tx) : TT := fun σ H Q => ∃ ρ h es, Sim K CT ρ h H ∧ REnv K CT ρ h.n H es σ ∧ Post K CT RB Wd ρ h H σ (c es h) Q
def tAx (K : PySem.W.Frag) (CT : CTx) (Wd : WX) (c : Ax) : TA := fun σ H Q => ∃ ρ h es, Sim K CT ρ h H ∧ REnv K CT ρ h.n H es σ ∧ Post K CT (RA K CT) Wd ρ h H σ (c es h) Q
abbrev SE (X : Cx) (CT : CTx) (Wd : WX) (e : Expr) (c : Ex) : Prop := PE X e (tE X.K CT Wd c)
abbrev ST (X : Cx) (CT : CTx) (Wd : WX) (e : Expr) (c : Tx) : Prop := PT X e (tT X.K CT Wd c)
abbrev SW (X : Cx) (CT : CTx) (Wd : WX) (e : Expr) (c : Tx) : Prop := PW X e (tT X.K CT Wd c)
abbrev SA (X : Cx) (CT : CTx) (Wd : WX) (es : List Expr) (c : Ax) : Prop := PA X es (tAx X.K CT Wd c)
theorem _root_.L2.PE.wk {X : Cx} {e : Expr} {t t' : TE} (h : PE X e t) (k : ∀ σ H Q, t' σ H Q → t σ H Q) : PE X e t' := ⟨fun pins s σ H Q I q => h.run pins s σ H Q I (k σ H Q q)⟩
theorem _root_.L2.PT.wk {X : Cx} {e : Expr} {t t' : TT} (h : PT X e t) (k : ∀ σ H Q, t' σ H Q → t σ H Q) : PT X e t' := ⟨fun pins s σ H Q I q => h.run pins s σ H Q I (k σ H Q q)⟩
theorem _root_.L2.PW.wk {X : Cx} {e : Expr} {t t' : TT} (h : PW X e t) (k : ∀ σ H Q, t' σ H Q → t σ H Q) : PW X e t' := ⟨fun whole pins s σ H Q I q => h.run whole pins s σ H Q I (k σ H Q q)⟩
theorem _root_.L2.PA.wk {X : Cx} {e : List Expr} {t t' : TA} (h : PA X e t) (k : ∀ σ H Q, t' σ H Q → t σ H Q) : PA X e t' := ⟨fun pos pins s σ H Q I q => h.run pos pins s σ H Q I (k σ H Q q)⟩

section
variable {K : PySem.W.Frag} {CT : CTx} {Wd : WX} {ρ ρ' : Nat → Addr} {h h' : Hx} {H H' : Hp} {σ : St} {es : Env}
theorem REnv.keep (S : Sim K CT ρ h H) {n' : Nat} (N : Fw ρ h.n H ρ' n' H') (E : REnv K CT ρ h.n H es σ) : REnv K CT ρ' n' H' es σ :=
  ⟨E.len, fun i w e => let ⟨v, ev, r⟩ := E.at_ i w e; ⟨v, ev, Rep.keep S N w v r⟩⟩
theorem REnv.set {n : Nat} {w : W} {v : V} (E : REnv K CT ρ n H es σ) (r : Rep K CT ρ n H w v) (i : Nat) : REnv K CT ρ n H (es.set i (some w)) (σ.set i (some v)) := by
  refine ⟨by rw [List.length_set, List.length_set]; exact E.len, fun j u e => ?_⟩
  rw [List.getElem?_set] at e ⊢
  by_cases ij : i = j
  · subst ij
    rw [if_pos rfl] at e ⊢
    by_cases hl : i < es.length
    · rw [if_pos hl] at e
      cases e
      rw [if_pos (by rw [← E.len]; exact hl)]
      exact ⟨v, rfl, r⟩
    · rw [if_neg hl] at e
      cases e
  · rw [if_neg ij] at e ⊢
    exact E.at_ j u e
theorem Post.step {α β : Type} {RR : (Nat → Addr) → Nat → Hp → α → β → Prop} {r : R α} {Q : β → Hp → Prop} (S : Sim K CT ρ h H) (N : Nxt K CT ρ h H ρ' h' H') (p : Post K CT RR Wd ρ h H σ r Q) : Post K CT RR Wd ρ' h' H' σ r Q := by
  cases r with
  | ok w h2 => exact fun ρ2 H2 v N2 q => p ρ2 H2 v (N.trans S N2) q
  | exc x h2 => exact fun ρ2 H2 od N2 q => p ρ2 H2 od (N.trans S N2) q
  | bad => exact p
/-- one part behind another -/
theorem Post.bind {α β γ δ : Type} {RR : (Nat → Addr) → Nat → Hp → α → β → Prop} {RR2 : (Nat → Addr) → Nat → Hp → γ → δ → Prop} {r : R α} {f : α → Hx → R γ} {Q : δ → Hp → Prop} {Q' : β → Hp → Prop} (S : Sim K CT ρ h H)
    (p : Post K CT RR2 Wd ρ h H σ (r.bind f) Q)
    (k : ∀ w h1 ρ1 H1 v, Nxt K CT ρ h H ρ1 h1 H1 → RR ρ1 h1.n H1 w v → Post K CT RR2 Wd ρ1 h1 H1 σ (f w h1) Q → Q' v H1) : Post K CT RR Wd ρ h H σ r Q' := by
  cases r with
  | ok w h1 => exact fun ρ1 H1 v N q => k w h1 ρ1 H1 v N q (Post.step S N p)
  | exc x h1 => exact p
  | bad => exact p
theorem Post.here {α β : Type} {RR : (Nat → Addr) → Nat → Hp → α → β → Prop} {w : α} {v : β} {Q : β → Hp → Prop} (S : Sim K CT ρ h H) (p : Post K CT RR Wd ρ h H σ (.ok w h) Q) (r : RR ρ h.n H w v) : Q v H := p ρ H v (Nxt.refl S) r
end

/-! ### names, constants -/
def xVar (i : Nat) : Ex := fun es h => match es[i]? with
  | some (some w) => .ok w h
  | _ => .bad
def xC (w : W) : Ex := fun _ h => .ok w h
section
variable {X : Cx} {CT : CTx} {Wd : WX} {a b c e : Expr} {ca cb cc : Ex} {pos : Pos}
theorem se_var {i : Nat} {x : Str} {pos : Pos} (p : PE X (.Name x pos) (tVar i)) : SE X CT Wd (.Name x pos) (xVar i) := by
  refine p.wk fun σ H Q ⟨ρ, h, es, S, E, p⟩ => ?_
  unfold xVar at p
  split at p
  · rename_i w ew
    obtain ⟨v, ev, r⟩ := E.at_ i w ew
    exact ⟨v, ev, Post.here S p r⟩
  · exact p.elim
theorem se_c {w : W} {v : V} (p : PE X e (tC v)) (r : ∀ ρ n H, Rep X.K CT ρ n H w v) : SE X CT Wd e (xC w) :=
  p.wk fun σ H Q ⟨ρ, h, es, S, E, q⟩ => Post.here S q (r ρ h.n H)
theorem se_int {i : Int} {j pos} : SE X CT Wd (.Constant (.int i) j pos) (xC (.int i)) := se_c pe_int fun _ _ _ => .int i
theorem se_bl {i : Bool} {j pos} : SE X CT Wd (.Constant (.bool i) j pos) (xC (.bl i)) := se_c pe_bl fun _ _ _ => .bl i
theorem se_non {j pos} : SE X CT Wd (.Constant .none j pos) (xC .non) := se_c pe_non fun _ _ _ => .non
theorem str_list (x : Str) : (⟨x.cps.toList.toArray⟩ : Str) = x := by cases x; rfl
theorem rep_str {K : PySem.W.Frag} {ρ : Nat → Addr} {n : Nat} {H : Hp} (x : Str) (h : x.cps.toList.all (· < 1114112) = true) : Rep K CT ρ n H (.str x.cps.toList) (.str x) := by
  have q := Rep.str (K := K) (CT := CT) (ρ := ρ) (n := n) (H := H) h
  rw [str_list] at q
  exact q
theorem se_str {x : Str} {z : List Nat} {j pos} (e : x.cps.toList = z := by rfl) (h : z.all (· < 1114112) = true := by decide) : SE X CT Wd (.Constant (.str x) j pos) (xC (.str z)) := se_c pe_str fun _ _ _ => by
  subst e
  exact rep_str x h

/-! ### operators -/
def xOp (f : W → W → Hx → R W) (a b : Ex) : Ex := fun es h => (a es h).bind fun x h1 => (b es h1).bind fun y h2 => f x y h2
/-- a rule for two values, by a plain function -/
def OpS (K : PySem.W.Frag) (CT : CTx) (Wd : WX) (r : R2) (f : W → W → Hx → R W) : Prop :=
  ∀ {ρ : Nat → Addr} {h : Hx} {H : Hp} {σ : St} {x y : W} {v u : V} {Q : VK}, Sim K CT ρ h H → Rep K CT ρ h.n H x v → Rep K CT ρ h.n H y u → Post K CT (RW K CT) Wd ρ h H σ (f x y h) Q → r v u H Q
theorem tOp_of {r : R2} {f : W → W → Hx → R W} (hs : OpS X.K CT Wd r f) {σ : St} {H : Hp} {Q : VK} (q : tE X.K CT Wd (xOp f ca cb) σ H Q) : tOp r (tE X.K CT Wd ca) (tE X.K CT Wd cb) σ H Q := by
  obtain ⟨ρ, h, es, S, E, p⟩ := q
  refine ⟨ρ, h, es, S, E, Post.bind S p fun w h1 ρ1 H1 v N1 r1 p1 => ?_⟩
  refine ⟨ρ1, h1, es, N1.sim, E.keep S N1.toFw, Post.bind N1.sim p1 fun w2 h2 ρ2 H2 u N2 r2 p2 => ?_⟩
  exact hs N2.sim (Rep.keep N1.sim N2.toFw _ _ r1) r2 p2
theorem se_op {op : Operator} {r : R2} {f : W → W → Hx → R W} (ho : OpR X (binaryOp op) r) (hs : OpS X.K CT Wd r f) (ha : SE X CT Wd a ca) (hb : SE X CT Wd b cb) : SE X CT Wd (.BinOp a op b pos) (xOp f ca cb) :=
  (pe_op ho ha hb).wk fun _ _ _ q => tOp_of hs q
theorem se_cmp {op : CmpOp} {r : R2} {f : W → W → Hx → R W} (ho : OpR X (compareOp op) r) (hs : OpS X.K CT Wd r f) (ha : SE X CT Wd a ca) (hb : SE X CT Wd b cb) (hm : behindInMarks op b = false) : SE X CT Wd (.Compare a [op] [b] pos) (xOp f ca cb) :=
  (pe_cmpR ho ha hb hm).wk fun _ _ _ q => tOp_of hs q
/-- as a test: the answer is a bool -/
def xBl (c : Ex) : Tx := fun es h => (c es h).bind fun w h1 => match w with
  | .bl b => .ok b h1
  | _ => .bad
theorem tTest_of {t : TE} {c : Ex} (k : ∀ σ H Q, tE X.K CT Wd c σ H Q → t σ H Q) {σ : St} {H : Hp} {Q : Bool → Hp → Prop} (q : tT X.K CT Wd (xBl c) σ H Q) : tTest t σ H Q := by
  obtain ⟨ρ, h, es, S, E, p⟩ := q
  refine k _ _ _ ⟨ρ, h, es, S, E, Post.bind (RR := RW X.K CT) S p fun w h1 ρ1 H1 v N1 r1 p1 => ?_⟩
  cases r1 with
  | bl b => exact ⟨b, rfl, Post.here N1.sim p1 rfl⟩
  | non => exact p1.elim
  | int _ => exact p1.elim
  | str _ => exact p1.elim
  | tup _ _ => exact p1.elim
  | fls _ _ => exact p1.elim
  | ref _ => exact p1.elim
  | ty _ => exact p1.elim
  | cl _ => exact p1.elim
  | exc _ _ _ => exact p1.elim
theorem st_cmp {op : CmpOp} {r : R2} {f : W → W → Hx → R W} (ho : OpR X (compareOp op) r) (hs : OpS X.K CT Wd r f) (ha : SE X CT Wd a ca) (hb : SE X CT Wd b cb) (hm : behindInMarks op b = false) : ST X CT Wd (.Compare a [op] [b] pos) (xBl (xOp f ca cb)) :=
  (pt_cmpR ho ha hb hm).wk fun _ _ _ q => tTest_of (fun _ _ _ z => tOp_of hs z) q
def xChain (f g : W → W → Hx → R W) (a b c : Ex) : Ex := fun es h => (a es h).bind fun x h1 => (b es h1).bind fun y h2 => (f x y h2).bind fun k h3 => match k with
  | .bl true => (c es h3).bind fun z h4 => g y z h4
  | .bl false => .ok (.bl false) h3
  | _ => .bad
/-- the answer of a comparison handed on -/
def OpSB (K : PySem.W.Frag) (CT : CTx) (Wd : WX) (r : R2) (f : W → W → Hx → R W) : Prop :=
  ∀ {ρ : Nat → Addr} {h : Hx} {H : Hp} {σ : St} {x y : W} {v u : V} {Q : VK}, Sim K CT ρ h H → Rep K CT ρ h.n H x v → Rep K CT ρ h.n H y u → Post K CT (RW K CT) Wd ρ h H σ (f x y h) Q → r v u H Q
theorem tChain_of {r r' : R2} {f g : W → W → Hx → R W} (hs : OpS X.K CT Wd r f) (hs' : OpS X.K CT Wd r' g) {σ : St} {H : Hp} {Q : VK} (q : tE X.K CT Wd (xChain f g ca cb cc) σ H Q) :
    tChain r r' (tE X.K CT Wd ca) (tE X.K CT Wd cb) (tE X.K CT Wd cc) σ H Q := by
  obtain ⟨ρ, h, es, S, E, p⟩ := q
  refine ⟨ρ, h, es, S, E, Post.bind (RR := RW X.K CT) S p fun w h1 ρ1 H1 v N1 r1 p1 => ?_⟩
  refine ⟨ρ1, h1, es, N1.sim, E.keep S N1.toFw, Post.bind (RR := RW X.K CT) N1.sim p1 fun w2 h2 ρ2 H2 u N2 r2 p2 => ?_⟩
  have E2 : REnv X.K CT ρ2 h2.n H2 es σ := (E.keep S N1.toFw).keep N1.sim N2.toFw
  refine hs (σ := σ) N2.sim (Rep.keep N1.sim N2.toFw _ _ r1) r2 (Post.bind (RR := RW X.K CT) N2.sim p2 fun w3 h3 ρ3 H3 z N3 r3 p3 => ?_)
  have no : ∀ {t : W}, (∀ b, t ≠ .bl b) → Post X.K CT (RW X.K CT) Wd ρ3 h3 H3 σ (match t with | .bl true => (cc es h3).bind fun z h4 => g w2 z h4 | .bl false => .ok (.bl false) h3 | _ => .bad) Q → False := fun {t} n q => by
    cases t <;> first | exact q | exact absurd rfl (n _)
  cases r3 with
  | bl b =>
    cases b with
    | true =>
      refine ⟨true, rfl, ?_⟩
      rw [if_pos rfl]
      refine ⟨ρ3, h3, es, N3.sim, E2.keep N2.sim N3.toFw, Post.bind N3.sim p3 fun w4 h4 ρ4 H4 y N4 r4 p4 => ?_⟩
      exact hs' N4.sim (Rep.keep N3.sim N4.toFw _ _ (Rep.keep N2.sim N3.toFw _ _ r2)) r4 p4
    | false =>
      refine ⟨false, rfl, ?_⟩
      rw [if_neg Bool.false_ne_true]
      exact Post.here N3.sim p3 (.bl false)
  | non => exact p3.elim
  | int _ => exact p3.elim
  | str _ => exact p3.elim
  | tup _ _ => exact p3.elim
  | fls _ _ => exact p3.elim
  | ref _ => exact p3.elim
  | ty _ => exact p3.elim
  | cl _ => exact p3.elim
  | exc _ _ _ => exact p3.elim
theorem se_chain {op op' : CmpOp} {r r' : R2} {f g : W → W → Hx → R W} (ho : OpR X (compareOp op) r) (hs : OpS X.K CT Wd r f) (ho' : OpR X (compareOp op') r') (hs' : OpS X.K CT Wd r' g) (ha : SE X CT Wd a ca) (hb : SE X CT Wd b cb) (hc : SE X CT Wd c cc)
    (hm : lastMarks [op, op'] [b, c] = false := by with_unfolding_all rfl) : SE X CT Wd (.Compare a [op, op'] [b, c] pos) (xChain f g ca cb cc) :=
  (pe_chain ho ho' ha hb hc hm).wk fun _ _ _ q => tChain_of hs hs' q
theorem st_chain {op op' : CmpOp} {r r' : R2} {f g : W → W → Hx → R W} (ho : OpR X (compareOp op) r) (hs : OpS X.K CT Wd r f) (ho' : OpR X (compareOp op') r') (hs' : OpS X.K CT Wd r' g) (ha : SE X CT Wd a ca) (hb : SE X CT Wd b cb) (hc : SE X CT Wd c cc)
    (hm : lastMarks [op, op'] [b, c] = false := by with_unfolding_all rfl) : ST X CT Wd (.Compare a [op, op'] [b, c] pos) (xBl (xChain f g ca cb cc)) :=
  (pt_chain ho ho' ha hb hc hm).wk fun _ _ _ q => tTest_of (fun _ _ _ z => tChain_of hs hs' z) q
/-- two rules for one operator -/
theorem opR_or {f : Value → Value → Sem Value} {r r' : R2} (p : OpR X f r) (q : OpR X f r') : OpR X f (fun x y H Q => r x y H Q ∨ r' x y H Q) := by
  intro pins s σ H x y v u Q I rx ry h
  rcases h with h | h
  · exact p pins s σ H x y v u Q I rx ry h
  · exact q pins s σ H x y v u Q I rx ry h
def xUn (f : W → Hx → R W) (a : Ex) : Ex := fun es h => (a es h).bind fun x h1 => f x h1
def UnS (K : PySem.W.Frag) (CT : CTx) (Wd : WX) (r : V → Hp → VK → Prop) (f : W → Hx → R W) : Prop :=
  ∀ {ρ : Nat → Addr} {h : Hx} {H : Hp} {σ : St} {x : W} {v : V} {Q : VK}, Sim K CT ρ h H → Rep K CT ρ h.n H x v → Post K CT (RW K CT) Wd ρ h H σ (f x h) Q → r v H Q
theorem se_un {op : UnaryOp} {r : V → Hp → VK → Prop} {f : W → Hx → R W} (ho : UnR X (unaryOp op) r) (hs : UnS X.K CT Wd r f) (ha : SE X CT Wd a ca) : SE X CT Wd (.UnaryOp op a pos) (xUn f ca) := by
  refine (pe_un ho ha).wk fun σ H Q ⟨ρ, h, es, S, E, p⟩ => ?_
  exact ⟨ρ, h, es, S, E, Post.bind S p fun w h1 ρ1 H1 v N1 r1 p1 => hs N1.sim r1 p1⟩
end
end Sx

set_option linter.all false
set_option autoImplicit false
set_option maxRecDepth 100000
set_option maxHeartbeats 2000000
namespace Sx
open PySem L2

/-! ### data in our heap -/
def itemsOf (h : Hx) : W → Option (List W)
  | .fls xs => some xs
  | .ref i => match h.get i with
    | some (.lst xs) => some xs
    | _ => none
  | _ => none
def okD (h : Hx) : Nat → W → Bool
  | 0, _ => false
  | _ + 1, .non => true
  | _ + 1, .bl _ => true
  | _ + 1, .int _ => true
  | _ + 1, .str _ => true
  | f + 1, .tup xs => xs.all (okD h f)
  | f + 1, .fls xs => xs.all (okD h f)
  | f + 1, .ref i => match h.get i with
    | some (.lst xs) => xs.all (okD h f)
    | _ => false
  | _ + 1, _ => false
def toD (h : Hx) : Nat → W → PyData
  | 0, _ => .none
  | _ + 1, .non => .none
  | _ + 1, .bl b => .bool b
  | _ + 1, .int i => .int i
  | _ + 1, .str z => .str ⟨z.toArray⟩
  | f + 1, .tup xs => .tuple (xs.map (toD h f))
  | f + 1, .fls xs => .list (xs.map (toD h f))
  | f + 1, .ref i => match h.get i with
    | some (.lst xs) => .list (xs.map (toD h f))
    | _ => .none
  | _ + 1, _ => .none
def eqAll (f : W → W → Bool) : List W → List W → Bool
  | [], [] => true
  | x :: xs, y :: ys => f x y && eqAll f xs ys
  | [], _ :: _ => false
  | _ :: _, [] => false
def eqI (b : Bool) (i : Int) : Bool := (if b then 1 else 0) == i
def eqH (h : Hx) : Nat → W → W → Bool
  | 0, _, _ => false
  | f + 1, x, y => match x, y with
    | .non, .non => true
    | .bl a, .bl b => a == b
    | .bl a, .int j => eqI a j
    | .int i, .bl b => i == (if b then 1 else 0)
    | .int i, .int j => i == j
    | .str a, .str b => a == b
    | .tup a, .tup b => eqAll (eqH h f) a b
    | x, y => match itemsOf h x, itemsOf h y with
      | some a, some b => eqAll (eqH h f) a b
      | _, _ => false
theorem data_depth_list (xs : List PyData) (f : Nat) (h : ∀ d ∈ xs, d.depth ≤ f) : (PyData.list xs).depth ≤ f + 1 ∧ (PyData.tuple xs).depth ≤ f + 1 := by
  have q : ∀ xs : List PyData, (∀ d ∈ xs, d.depth ≤ f) → PyData.depthAll xs ≤ f := fun xs h => by
    induction xs with
    | nil => exact Nat.zero_le _
    | cons x r ih =>
      have h1 := h x List.mem_cons_self
      have h2 := ih fun d hd => h d (List.mem_cons_of_mem _ hd)
      simp only [PyData.depthAll]
      omega
  have := q xs h
  constructor <;> (simp only [PyData.depth]; omega)
theorem canLayAll_of (xs : List PyData) (h : ∀ d ∈ xs, d.canLay0 = true) : PyData.canLayAll0 xs = true := by
  induction xs with
  | nil => rfl
  | cons x r ih =>
    unfold PyData.canLayAll0
    rw [h x List.mem_cons_self, ih fun d hd => h d (List.mem_cons_of_mem _ hd)]
    rfl
section
variable {K : PySem.W.Frag} {CT : CTx} {ρ : Nat → Addr} {h : Hx} {H : Hp}
theorem dpAll_of {f : W → PyData} : ∀ {xs : List W} {vs : List V}, Reps K CT ρ h.n H xs vs → (∀ w v, w ∈ xs → Rep K CT ρ h.n H w v → Dp K H v (f w)) → DpAll K H vs (xs.map f)
  | _, _, .nil, _ => .nil
  | _, _, .cons r t, k => .cons (k _ _ List.mem_cons_self r) (dpAll_of t fun w v hw q => k w v (List.mem_cons_of_mem _ hw) q)
theorem okD_data (S : Sim K CT ρ h H) : ∀ (f : Nat) (w : W) (v : V), okD h f w = true → Rep K CT ρ h.n H w v → Dp K H v (toD h f w) ∧ (toD h f w).canLay0 = true ∧ (toD h f w).depth ≤ f
  | 0, _, _, e, _ => by cases e
  | f + 1, .non, _, _, r => by cases r; exact ⟨.non, rfl, by simp [toD, PyData.depth]⟩
  | f + 1, .bl b, _, _, r => by cases r; exact ⟨.bl b, rfl, by simp [toD, PyData.depth]⟩
  | f + 1, .int i, _, _, r => by cases r; exact ⟨.int i, rfl, by simp [toD, PyData.depth]⟩
  | f + 1, .str z, _, _, r => by
    cases r with
    | str hz =>
      refine ⟨.str _, ?_, by simp [toD, PyData.depth]⟩
      show PyData.canLay0 (.str ⟨z.toArray⟩) = true
      unfold PyData.canLay0 PySem.PyData.strOk
      simpa using hz
  | f + 1, .tup xs, _, e, r => by
    cases r with
    | @tup a _ vs q rs =>
      have e' : xs.all (okD h f) = true := e
      have ih : ∀ w v, w ∈ xs → Rep K CT ρ h.n H w v → Dp K H v (toD h f w) ∧ (toD h f w).canLay0 = true ∧ (toD h f w).depth ≤ f := fun w v hw rw => okD_data S f w v (List.all_eq_true.mp e' w hw) rw
      have all : ∀ w ∈ xs, (toD h f w).canLay0 = true ∧ (toD h f w).depth ≤ f := fun w hw => by
        obtain ⟨i, hi⟩ := List.mem_iff_getElem?.mp hw
        obtain ⟨v, _, rv⟩ := rs.get hi
        exact (ih w v hw rv).2
      refine ⟨.tup q (dpAll_of rs fun w v hw rw => (ih w v hw rw).1), ?_, ?_⟩
      · show PyData.canLayAll0 (xs.map (toD h f)) = true
        exact canLayAll_of _ fun d hd => by
          obtain ⟨w, hw, rfl⟩ := List.mem_map.mp hd
          exact (all w hw).1
      · exact (data_depth_list _ f fun d hd => by
          obtain ⟨w, hw, rfl⟩ := List.mem_map.mp hd
          exact (all w hw).2).2
  | f + 1, .fls xs, _, e, r => by
    cases r with
    | @fls a _ vs q rs =>
      have e' : xs.all (okD h f) = true := e
      have ih : ∀ w v, w ∈ xs → Rep K CT ρ h.n H w v → Dp K H v (toD h f w) ∧ (toD h f w).canLay0 = true ∧ (toD h f w).depth ≤ f := fun w v hw rw => okD_data S f w v (List.all_eq_true.mp e' w hw) rw
      have all : ∀ w ∈ xs, (toD h f w).canLay0 = true ∧ (toD h f w).depth ≤ f := fun w hw => by
        obtain ⟨i, hi⟩ := List.mem_iff_getElem?.mp hw
        obtain ⟨v, _, rv⟩ := rs.get hi
        exact (ih w v hw rv).2
      refine ⟨.lst q.sq (dpAll_of rs fun w v hw rw => (ih w v hw rw).1), ?_, ?_⟩
      · show PyData.canLayAll0 (xs.map (toD h f)) = true
        exact canLayAll_of _ fun d hd => by
          obtain ⟨w, hw, rfl⟩ := List.mem_map.mp hd
          exact (all w hw).1
      · exact (data_depth_list _ f fun d hd => by
          obtain ⟨w, hw, rfl⟩ := List.mem_map.mp hd
          exact (all w hw).2).1
  | f + 1, .ref i, _, e, r => by
    cases r with
    | ref hi =>
      unfold okD at e
      unfold toD
      cases g : h.get i with
      | none => rw [g] at e; cases e
      | some o =>
        rw [g] at e
        cases o with
        | dic _ _ => cases e
        | ins _ _ => cases e
        | dicN _ _ => cases e
        | lst xs =>
          have e' : xs.all (okD h f) = true := e
          obtain ⟨vs, q, rs⟩ := S.ob i _ g
          have ih : ∀ w v, w ∈ xs → Rep K CT ρ h.n H w v → Dp K H v (toD h f w) ∧ (toD h f w).canLay0 = true ∧ (toD h f w).depth ≤ f := fun w v hw rw => okD_data S f w v (List.all_eq_true.mp e' w hw) rw
          have all : ∀ w ∈ xs, (toD h f w).canLay0 = true ∧ (toD h f w).depth ≤ f := fun w hw => by
            obtain ⟨i, hi⟩ := List.mem_iff_getElem?.mp hw
            obtain ⟨v, _, rv⟩ := rs.get hi
            exact (ih w v hw rv).2
          refine ⟨.lst (.of q) (dpAll_of rs fun w v hw rw => (ih w v hw rw).1), ?_, ?_⟩
          · show PyData.canLayAll0 (xs.map (toD h f)) = true
            exact canLayAll_of _ fun d hd => by
              obtain ⟨w, hw, rfl⟩ := List.mem_map.mp hd
              exact (all w hw).1
          · exact (data_depth_list _ f fun d hd => by
              obtain ⟨w, hw, rfl⟩ := List.mem_map.mp hd
              exact (all w hw).2).1
  | f + 1, .ty _, _, e, _ => by cases e
  | f + 1, .cl _, _, e, _ => by cases e
  | f + 1, .exc _ _ _, _, e, _ => by cases e
end
theorem ref_items {h : Hx} {f i : Nat} (e : okD h (f + 1) (.ref i) = true) : ∃ xs, h.get i = some (.lst xs) ∧ itemsOf h (.ref i) = some xs ∧ xs.all (okD h f) = true ∧ toD h (f + 1) (.ref i) = .list (xs.map (toD h f)) := by
  have e' : (match h.get i with
    | some (.lst xs) => xs.all (okD h f)
    | _ => false) = true := e
  cases g : h.get i with
  | none => rw [g] at e'; cases e'
  | some o =>
    rw [g] at e'
    cases o with
    | dic _ _ => cases e'
    | ins _ _ => cases e'
    | dicN _ _ => cases e'
    | lst xs =>
      refine ⟨xs, rfl, ?_, e', ?_⟩
      · show (match h.get i with
          | some (.lst xs) => some xs
          | _ => none) = some xs
        rw [g]
      · show (match h.get i with
          | some (.lst xs) => PyData.list (xs.map (toD h f))
          | _ => .none) = _
        rw [g]
theorem eqvAll_map {h : Hx} {f : Nat} (ih : ∀ x y, okD h f x = true → okD h f y = true → eqH h f x y = PyData.eqv (toD h f x) (toD h f y)) : ∀ (a b : List W), a.all (okD h f) = true → b.all (okD h f) = true →
    eqAll (eqH h f) a b = PyData.eqvAll (a.map (toD h f)) (b.map (toD h f))
  | [], [], _, _ => by simp [eqAll, PyData.eqvAll]
  | x :: xs, [], _, _ => by simp [eqAll, PyData.eqvAll]
  | [], y :: ys, _, _ => by simp [eqAll, PyData.eqvAll]
  | x :: xs, y :: ys, e1, e2 => by
    rw [List.all_cons, Bool.and_eq_true] at e1 e2
    show (eqH h f x y && eqAll (eqH h f) xs ys) = _
    rw [ih x y e1.1 e2.1, eqvAll_map ih xs ys e1.2 e2.2, List.map_cons, List.map_cons, PyData.eqvAll]
theorem str_beq (a b : List Nat) : ((⟨a.toArray⟩ : Str) == ⟨b.toArray⟩) = (a == b) := by
  rw [Bool.eq_iff_iff]
  simp
theorem eqH_data {h : Hx} : ∀ (f : Nat) (x y : W), okD h f x = true → okD h f y = true → eqH h f x y = PyData.eqv (toD h f x) (toD h f y)
  | 0, _, _, e, _ => by cases e
  | f + 1, x, y, ex, ey => by
    have ih := eqvAll_map (h := h) (f := f) (eqH_data f)
    have lst : ∀ (w : W), okD h (f + 1) w = true → (∃ xs, itemsOf h w = some xs ∧ xs.all (okD h f) = true ∧ toD h (f + 1) w = .list (xs.map (toD h f))) ∨ itemsOf h w = none := fun w e => by
      cases w with
      | fls xs => exact .inl ⟨xs, rfl, e, rfl⟩
      | ref i =>
        obtain ⟨xs, _, q⟩ := ref_items e
        exact .inl ⟨xs, q⟩
      | non => exact .inr rfl
      | bl _ => exact .inr rfl
      | int _ => exact .inr rfl
      | str _ => exact .inr rfl
      | tup _ => exact .inr rfl
      | ty _ => exact .inr rfl
      | cl _ => exact .inr rfl
      | exc _ _ _ => exact .inr rfl
    rcases lst x ex with ⟨xs, e1, e2, e3⟩ | nx
    · rcases lst y ey with ⟨ys, f1, f2, f3⟩ | ny
      · rw [e3, f3]
        have : eqH h (f + 1) x y = eqAll (eqH h f) xs ys := by
          unfold eqH
          cases x <;> cases y <;> first | (cases e1; done) | (cases f1; done) | (simp only [e1, f1])
        rw [this, ih xs ys e2 f2]
        simp only [PyData.eqv]
      · rw [e3]
        have : eqH h (f + 1) x y = false := by
          unfold eqH
          cases x <;> cases y <;> first | (cases e1; done) | (simp only [e1, ny])
        rw [this]
        cases y with
        | fls _ => cases ny
        | ref i =>
          obtain ⟨xs', _, q', _⟩ := ref_items ey
          rw [ny] at q'
          cases q'
        | ty _ => cases ey
        | cl _ => cases ey
        | exc _ _ _ => cases ey
        | non => simp [toD, PyData.eqv]
        | bl _ => simp [toD, PyData.eqv]
        | int _ => simp [toD, PyData.eqv]
        | str _ => simp [toD, PyData.eqv]
        | tup _ => simp [toD, PyData.eqv]
    · have lx : ∀ i, x ≠ .ref i := fun i q => by
        subst q
        obtain ⟨xs', _, q', _⟩ := ref_items ex
        rw [nx] at q'
        cases q'
      have fx : ∀ xs, x ≠ .fls xs := fun i q => by subst q; cases nx
      rcases lst y ey with ⟨ys, f1, f2, f3⟩ | ny
      · rw [f3]
        have : eqH h (f + 1) x y = false := by
          unfold eqH
          cases x <;> cases y <;> first | (cases f1; done) | (simp only [f1, nx])
        rw [this]
        cases x with
        | fls xs => exact absurd rfl (fx xs)
        | ref i => exact absurd rfl (lx i)
        | ty _ => cases ex
        | cl _ => cases ex
        | exc _ _ _ => cases ex
        | non => simp [toD, PyData.eqv]
        | bl _ => simp [toD, PyData.eqv]
        | int _ => simp [toD, PyData.eqv]
        | str _ => simp [toD, PyData.eqv]
        | tup _ => simp [toD, PyData.eqv]
      · have ly : ∀ i, y ≠ .ref i := fun i q => by
          subst q
          obtain ⟨xs', _, q', _⟩ := ref_items ey
          rw [ny] at q'
          cases q'
        have fy : ∀ xs, y ≠ .fls xs := fun i q => by subst q; cases ny
        cases x with
        | fls xs => exact absurd rfl (fx xs)
        | ref i => exact absurd rfl (lx i)
        | ty _ => cases ex
        | cl _ => cases ex
        | exc _ _ _ => cases ex
        | tup a =>
          cases y with
          | fls xs => exact absurd rfl (fy xs)
          | ref i => exact absurd rfl (ly i)
          | ty _ => cases ey
          | cl _ => cases ey
          | exc _ _ _ => cases ey
          | tup b =>
            show eqAll (eqH h f) a b = _
            rw [ih a b ex ey]
            simp only [toD, PyData.eqv]
          | non => simp [toD, PyData.eqv, eqH, itemsOf]
          | bl _ => simp [toD, PyData.eqv, eqH, itemsOf]
          | int _ => simp [toD, PyData.eqv, eqH, itemsOf]
          | str _ => simp [toD, PyData.eqv, eqH, itemsOf]
        | str a =>
          cases y with
          | fls xs => exact absurd rfl (fy xs)
          | ref i => exact absurd rfl (ly i)
          | ty _ => cases ey
          | cl _ => cases ey
          | exc _ _ _ => cases ey
          | str b =>
            show (a == b) = _
            rw [← str_beq]
            simp only [toD, PyData.eqv]
          | non => simp [toD, PyData.eqv, eqH, itemsOf]
          | bl _ => simp [toD, PyData.eqv, eqH, itemsOf]
          | int _ => simp [toD, PyData.eqv, eqH, itemsOf]
          | tup _ => simp [toD, PyData.eqv, eqH, itemsOf]
        | non =>
          cases y with
          | fls xs => exact absurd rfl (fy xs)
          | ref i => exact absurd rfl (ly i)
          | ty _ => cases ey
          | cl _ => cases ey
          | exc _ _ _ => cases ey
          | _ => simp [toD, PyData.eqv, eqH, itemsOf, eqI]
        | bl _ =>
          cases y with
          | fls xs => exact absurd rfl (fy xs)
          | ref i => exact absurd rfl (ly i)
          | ty _ => cases ey
          | cl _ => cases ey
          | exc _ _ _ => cases ey
          | _ => simp [toD, PyData.eqv, eqH, itemsOf, eqI]
        | int _ =>
          cases y with
          | fls xs => exact absurd rfl (fy xs)
          | ref i => exact absurd rfl (ly i)
          | ty _ => cases ey
          | cl _ => cases ey
          | exc _ _ _ => cases ey
          | _ => simp [toD, PyData.eqv, eqH, itemsOf, eqI]
end Sx

set_option linter.all false
set_option autoImplicit false
set_option maxRecDepth 100000
set_option maxHeartbeats 2000000
namespace Sx
open PySem L2

/-! ### operations on plain values -/
abbrev lim : Nat := 100000
theorem lim_line {n : Nat} (h : n ≤ lim) : n ≤ sizeLine := Nat.le_trans h (by decide)
def addW : W → W → Hx → R W
  | .int i, .int j, h => .ok (.int (i + j)) h
  | .str a, .str b, h => if a.length + b.length ≤ lim then .ok (.str (a ++ b)) h else .bad
  | .tup a, .tup b, h => if a.length + b.length ≤ lim then .ok (.tup (a ++ b)) h else .bad
  | .ref i, .ref j, h => match h.get i, h.get j with
    | some (.lst a), some (.lst b) => if a.length + b.length ≤ lim then .ok (.ref h.n) (h.new (.lst (a ++ b))) else .bad
    | _, _ => .bad
  | _, _, _ => .bad
def subW : W → W → Hx → R W
  | .int i, .int j, h => .ok (.int (i - j)) h
  | _, _, _ => .bad
def mulW : W → W → Hx → R W
  | .int i, .int j, h => if i.natAbs < 2 ^ 64 ∨ j.natAbs < 2 ^ 64 then .ok (.int (i * j)) h else .bad
  | .ref i, .int k, h => match h.get i with
    | some (.lst a) => if 0 ≤ k ∧ k ≤ 100000 ∧ a.length * k.toNat ≤ lim then .ok (.ref h.n) (h.new (.lst (List.replicate k.toNat a).flatten)) else .bad
    | _ => .bad
  | _, _, _ => .bad
def modW : W → W → Hx → R W
  | .int i, .int j, h => if 0 < j then .ok (.int (i % j)) h else .bad
  | _, _, _ => .bad
def fdivW : W → W → Hx → R W
  | .int i, .int j, h => if 0 < j ∧ j < 1073741824 then .ok (.int (i / j)) h else .bad
  | _, _, _ => .bad
def powW : W → W → Hx → R W
  | .int i, .int j, h => if 0 ≤ j ∧ j ≤ 1000000 ∧ i.natAbs < 2 ^ 64 then .ok (.int (i ^ j.toNat)) h else .bad
  | _, _, _ => .bad
def negW : W → Hx → R W
  | .int i, h => .ok (.int (-i)) h
  | _, _ => .bad
def ltW : W → W → Hx → R W
  | .int i, .int j, h => .ok (.bl (decide (i < j))) h
  | _, _, _ => .bad
def leW : W → W → Hx → R W
  | .int i, .int j, h => .ok (.bl (decide (i ≤ j))) h
  | _, _, _ => .bad
def gtW : W → W → Hx → R W
  | .int i, .int j, h => .ok (.bl (decide (j < i))) h
  | _, _, _ => .bad
def geW : W → W → Hx → R W
  | .int i, .int j, h => .ok (.bl (decide (j ≤ i))) h
  | _, _, _ => .bad
/-- == of plain values that are no objects: None, ints, bools, texts (not an int and a bool) -/
def scalW : W → W → Option Bool
  | .non, .non => some true
  | .int i, .int j => some (i == j)
  | .bl a, .bl b => some (a == b)
  | .str a, .str b => some (a == b)
  | .non, .int _ => some false | .int _, .non => some false | .non, .bl _ => some false | .bl _, .non => some false | .non, .str _ => some false | .str _, .non => some false
  | .int _, .str _ => some false | .str _, .int _ => some false | .bl _, .str _ => some false | .str _, .bl _ => some false
  | _, _ => none
def dep : Nat := 20
def eqO (x y : W) (h : Hx) : Option Bool := match scalW x y with
  | some b => some b
  | none => if okD h dep x && okD h dep y then some (eqH h dep x y) else none
def eqW (x y : W) (h : Hx) : R W := match eqO x y h with
  | some b => .ok (.bl b) h
  | none => .bad
def neW (x y : W) (h : Hx) : R W := match eqO x y h with
  | some b => .ok (.bl (!b)) h
  | none => .bad
def isO (x y : W) : Option Bool := match y with
  | .non => some (match x with | .non => true | _ => false)
  | .bl b => match x with
    | .bl a => some (a == b)
    | _ => none
  | _ => none
def isW (x y : W) (h : Hx) : R W := match isO x y with
  | some b => .ok (.bl b) h
  | none => .bad
def isntW (x y : W) (h : Hx) : R W := match isO x y with
  | some b => .ok (.bl (!b)) h
  | none => .bad
def flatW : W → Bool
  | .non => true | .bl _ => true | .int _ => true | .str _ => true | _ => false
def eqFl : W → W → Bool
  | .non, .non => true
  | .bl a, .bl b => a == b
  | .bl a, .int b => eqI a b
  | .int a, .bl b => a == (if b then 1 else 0)
  | .int a, .int b => a == b
  | .str a, .str b => a == b
  | _, _ => false
def seqOf (h : Hx) : W → Option (List W)
  | .tup xs => some xs
  | .fls xs => some xs
  | .ref i => match h.get i with
    | some (.lst xs) => some xs
    | _ => none
  | _ => none
def inO (x y : W) (h : Hx) : Option Bool := match y with
  | .str z => match x with
    | .str [c] => some (z.contains c)
    | _ => none
  | y => match seqOf h y with
    | some xs => if flatW x && xs.all flatW then some (xs.any fun z => eqFl z x)
      else if okD h dep x && okD h dep y then match y with
        | .tup _ => none
        | _ => some (xs.any fun z => eqH h dep z x)
      else none
    | none => none
def inW (x y : W) (h : Hx) : R W := match inO x y h with
  | some b => .ok (.bl b) h
  | none => .bad
def notInW (x y : W) (h : Hx) : R W := match inO x y h with
  | some b => .ok (.bl (!b)) h
  | none => .bad
def ixW (x y : W) (h : Hx) : R W := match y with
  | .int i => match x with
    | .str z => if z.length ≤ lim then match atI z i with
        | some c => .ok (.str [c]) h
        | none => .bad
      else .bad
    | x => match seqOf h x with
      | some xs => match atI xs i with
        | some w => .ok w h
        | none => .bad
      | none => .bad
  | _ => .bad

section
variable {X : Cx} {CT : CTx} {Wd : WX}
theorem opS_or {K : PySem.W.Frag} {r r' : R2} {f : W → W → Hx → R W} (k : ∀ {ρ : Nat → Addr} {h : Hx} {H : Hp} {σ : St} {x y : W} {v u : V} {Q : VK}, Sim K CT ρ h H → Rep K CT ρ h.n H x v → Rep K CT ρ h.n H y u → Post K CT (RW K CT) Wd ρ h H σ (f x y h) Q → r v u H Q ∨ r' v u H Q) :
    OpS K CT Wd (fun x y H Q => r x y H Q ∨ r' x y H Q) f := k
theorem lst_get {K : PySem.W.Frag} {ρ : Nat → Addr} {h : Hx} {H : Hp} (S : Sim K CT ρ h H) {i : Nat} {xs : List W} (g : h.get i = some (.lst xs)) : ∃ vs, H (ρ i) = some (.lst vs) ∧ Reps K CT ρ h.n H xs vs := S.ob i _ g
theorem post_if {K : PySem.W.Frag} {ρ : Nat → Addr} {h : Hx} {H : Hp} {σ : St} {c : Prop} [Decidable c] {r : R W} {Q : VK} (p : Post K CT (RW K CT) Wd ρ h H σ (if c then r else .bad) Q) : c ∧ Post K CT (RW K CT) Wd ρ h H σ r Q := by
  by_cases hc : c
  · rw [if_pos hc] at p
    exact ⟨hc, p⟩
  · rw [if_neg hc] at p
    exact p.elim
theorem post_tup {K : PySem.W.Frag} {ρ : Nat → Addr} {h : Hx} {H : Hp} {σ : St} {ws : List W} {vs : List V} {Q : VK} (S : Sim K CT ρ h H) (p : Post K CT (RW K CT) Wd ρ h H σ (.ok (.tup ws) h) Q) (r : Reps K CT ρ h.n H ws vs) {a : Addr} (ha : H a = none) :
    Q (.ref a) (upd H a (.tup vs)) := p ρ _ _ (Nxt.aside S ha) (.tup (.of upd_same) (Reps.keep S (Fw.aside S ha) _ _ r))
theorem post_lst {K : PySem.W.Frag} {ρ : Nat → Addr} {h : Hx} {H : Hp} {σ : St} {ws : List W} {vs : List V} {Q : VK} (S : Sim K CT ρ h H) (p : Post K CT (RW K CT) Wd ρ h H σ (.ok (.ref h.n) (h.new (.lst ws))) Q) (r : Reps K CT ρ h.n H ws vs) {a : Addr} (ha : H a = none) :
    Q (.ref a) (upd H a (.lst vs)) := by
  have N : Nxt K CT ρ h H (ρnew ρ h.n a) (h.new (.lst ws)) (upd H a (.lst vs)) := Nxt.fresh S ha ⟨vs, upd_same, Reps.keep S (Fw.fresh ρ h.n ha) _ _ r⟩
  have e : ρnew ρ h.n a h.n = a := if_pos rfl
  have q : Rep K CT (ρnew ρ h.n a) (h.n + 1) (upd H a (.lst vs)) (.ref h.n) (.ref (ρnew ρ h.n a h.n)) := .ref (Nat.lt_succ_self _)
  rw [e] at q
  exact p _ _ _ N q
abbrev rAdd (K : PySem.W.Frag) : R2 := fun x y H Q => (rI0 (fun i j => .int (i + j)) x y H Q ∨ ∃ i j, x = .str i ∧ y = .str j ∧ i.length + j.length ≤ sizeLine ∧ Q (.str (i ++ j)) H) ∨ rCatA K x y H Q ∨ rCat x y H Q
theorem or_add : OpR X (binaryOp .Add) (rAdd X.K) := opR_or (opR_or op_add op_add_str) (opR_or op_catA op_cat)
theorem os_add {K : PySem.W.Frag} : OpS K CT Wd (rAdd K) addW := by
  intro ρ h H σ x y v u Q S rx ry p
  cases rx <;> cases ry <;> try exact (show False from p).elim
  · rename_i i j
    exact .inl (.inl ⟨i, j, rfl, rfl, Post.here S p (.int _)⟩)
  · rename_i a ha b hb
    obtain ⟨c, p⟩ := post_if p
    refine .inl (.inr ⟨⟨a.toArray⟩, ⟨b.toArray⟩, rfl, rfl, ?_, ?_⟩)
    · show a.toArray.size + b.toArray.size ≤ sizeLine
      rw [List.size_toArray, List.size_toArray]
      exact lim_line c
    · have e : ((⟨a.toArray⟩ : Str) ++ ⟨b.toArray⟩) = ⟨(a ++ b).toArray⟩ := by
        show (⟨a.toArray ++ b.toArray⟩ : Str) = _
        simp
      rw [e]
      refine Post.here S p (.str ?_)
      rw [List.all_append, ha, hb]
      rfl
  · rename_i a ws vs qa ra b ws' vs' qb rb
    obtain ⟨c, p⟩ := post_if p
    have l1 := ra.length
    have l2 := rb.length
    refine .inr (.inl ⟨a, b, vs, vs', rfl, rfl, qa, qb, by rw [← l1, ← l2]; exact lim_line c, fun e => ?_, fun e e' => ?_, fun e e' t ht => post_tup S p (ra.append rb) ht⟩)
    · subst e
      cases ra
      exact Post.here S p (.tup qb rb)
    · subst e'
      cases rb
      refine Post.here S p ?_
      rw [List.append_nil]
      exact .tup qa ra
  · rename_i i hi j hj
    have p' : Post K CT (RW K CT) Wd ρ h H σ (match h.get i, h.get j with
      | some (.lst a), some (.lst b) => if a.length + b.length ≤ lim then .ok (.ref h.n) (h.new (.lst (a ++ b))) else .bad
      | _, _ => .bad) Q := p
    split at p'
    · rename_i a b ga gb
      obtain ⟨va, ea, ra⟩ := lst_get S ga
      obtain ⟨vb, eb, rb⟩ := lst_get S gb
      obtain ⟨c, p'⟩ := post_if p'
      have l1 := ra.length
      have l2 := rb.length
      exact .inr (.inr ⟨_, _, va, vb, rfl, rfl, ea, eb, by rw [← l1, ← l2]; exact lim_line c, fun t ht => post_lst S p' (ra.append rb) ht⟩)
    · exact p'.elim
theorem os_sub {K : PySem.W.Frag} : OpS K CT Wd (rI0 fun i j => .int (i - j)) subW := by
  intro ρ h H σ x y v u Q S rx ry p
  cases rx <;> cases ry <;> try exact (show False from p).elim
  exact ⟨_, _, rfl, rfl, Post.here S p (.int _)⟩
abbrev rMul : R2 := fun x y H Q => rI CMul (fun i j => .int (i * j)) x y H Q ∨ rRep x y H Q
theorem or_mul : OpR X (binaryOp .Mult) rMul := opR_or op_mul op_rep
theorem reps_rep {K : PySem.W.Frag} {ρ : Nat → Addr} {n : Nat} {H : Hp} {ws : List W} {vs : List V} (r : Reps K CT ρ n H ws vs) : ∀ k : Nat, Reps K CT ρ n H (List.replicate k ws).flatten (List.replicate k vs).flatten
  | 0 => .nil
  | k + 1 => by
    rw [List.replicate_succ, List.replicate_succ, List.flatten_cons, List.flatten_cons]
    exact r.append (reps_rep r k)
theorem os_mul {K : PySem.W.Frag} : OpS K CT Wd rMul mulW := by
  intro ρ h H σ x y v u Q S rx ry p
  cases rx <;> cases ry <;> try exact (show False from p).elim
  · rename_i i j
    obtain ⟨c, p⟩ := post_if p
    refine .inl ⟨i, j, rfl, rfl, ?_, Post.here S p (.int _)⟩
    unfold CMul
    omega
  · rename_i i hi k
    have p' : Post K CT (RW K CT) Wd ρ h H σ (match h.get i with
      | some (.lst a) => if 0 ≤ k ∧ k ≤ 100000 ∧ a.length * k.toNat ≤ lim then .ok (.ref h.n) (h.new (.lst (List.replicate k.toNat a).flatten)) else .bad
      | _ => .bad) Q := p
    split at p'
    · rename_i a ga
      obtain ⟨va, ea, ra⟩ := lst_get S ga
      obtain ⟨⟨c1, c2, c3⟩, p'⟩ := post_if p'
      have l1 := ra.length
      exact .inr ⟨_, k, va, rfl, rfl, ea, by omega, by omega, by rw [← l1]; exact lim_line c3, fun t ht => post_lst S p' (reps_rep ra _) ht⟩
    · exact p'.elim
theorem os_mod {K : PySem.W.Frag} : OpS K CT Wd (rI (fun _ j => 0 < j) fun i j => .int (i % j)) modW := by
  intro ρ h H σ x y v u Q S rx ry p
  cases rx <;> cases ry <;> try exact (show False from p).elim
  obtain ⟨c, p⟩ := post_if p
  exact ⟨_, _, rfl, rfl, c, Post.here S p (.int _)⟩
theorem os_fdiv {K : PySem.W.Frag} : OpS K CT Wd (rI CDiv fun i j => .int (i / j)) fdivW := by
  intro ρ h H σ x y v u Q S rx ry p
  cases rx <;> cases ry <;> try exact (show False from p).elim
  obtain ⟨c, p⟩ := post_if p
  exact ⟨_, _, rfl, rfl, c, Post.here S p (.int _)⟩
theorem os_pow {K : PySem.W.Frag} : OpS K CT Wd (rI CPow fun i j => .int (i ^ j.toNat)) powW := by
  intro ρ h H σ x y v u Q S rx ry p
  cases rx <;> cases ry <;> try exact (show False from p).elim
  obtain ⟨c, p⟩ := post_if p
  exact ⟨_, _, rfl, rfl, c, Post.here S p (.int _)⟩
theorem us_neg {K : PySem.W.Frag} : UnS K CT Wd (rU fun i => .int (-i)) negW := by
  intro ρ h H σ x v Q S rx p
  cases rx <;> try exact (show False from p).elim
  exact ⟨_, rfl, Post.here S p (.int _)⟩
theorem os_lt {K : PySem.W.Frag} : OpS K CT Wd (rI0 fun i j => .bl (decide (i < j))) ltW := by
  intro ρ h H σ x y v u Q S rx ry p
  cases rx <;> cases ry <;> try exact (show False from p).elim
  exact ⟨_, _, rfl, rfl, Post.here S p (.bl _)⟩
theorem os_le {K : PySem.W.Frag} : OpS K CT Wd (rI0 fun i j => .bl (decide (i ≤ j))) leW := by
  intro ρ h H σ x y v u Q S rx ry p
  cases rx <;> cases ry <;> try exact (show False from p).elim
  exact ⟨_, _, rfl, rfl, Post.here S p (.bl _)⟩
theorem os_gt {K : PySem.W.Frag} : OpS K CT Wd (rI0 fun i j => .bl (decide (j < i))) gtW := by
  intro ρ h H σ x y v u Q S rx ry p
  cases rx <;> cases ry <;> try exact (show False from p).elim
  exact ⟨_, _, rfl, rfl, Post.here S p (.bl _)⟩
theorem os_ge {K : PySem.W.Frag} : OpS K CT Wd (rI0 fun i j => .bl (decide (j ≤ i))) geW := by
  intro ρ h H σ x y v u Q S rx ry p
  cases rx <;> cases ry <;> try exact (show False from p).elim
  exact ⟨_, _, rfl, rfl, Post.here S p (.bl _)⟩
theorem dec_str (a b : List Nat) : decide (V.str ⟨a.toArray⟩ = V.str ⟨b.toArray⟩) = (a == b) := by
  rw [Bool.eq_iff_iff]
  simp
theorem scal_of {K : PySem.W.Frag} {ρ : Nat → Addr} {n : Nat} {H : Hp} {x y : W} {v u : V} {b : Bool} (rx : Rep K CT ρ n H x v) (ry : Rep K CT ρ n H y u) (e : scalW x y = some b) : scal v u = true ∧ decide (v = u) = b := by
  cases rx <;> cases ry <;> first
    | (cases e; done)
    | (have e' := Option.some.inj e; subst e'; exact ⟨rfl, decide_eq_false (fun z => nomatch z)⟩)
    | (have e' := Option.some.inj e; subst e'; exact ⟨rfl, rfl⟩)
    | (have e' := Option.some.inj e; subst e'; exact ⟨rfl, dec_str _ _⟩)
    | (have e' := Option.some.inj e; subst e'; refine ⟨rfl, ?_⟩; rw [Bool.eq_iff_iff]; simp)
theorem eqO_of {K : PySem.W.Frag} {ρ : Nat → Addr} {h : Hx} {H : Hp} {x y : W} {v u : V} {b : Bool} (S : Sim K CT ρ h H) (rx : Rep K CT ρ h.n H x v) (ry : Rep K CT ρ h.n H y u) (e : eqO x y h = some b) :
    (scal v u = true ∧ decide (v = u) = b) ∨ ∃ d d', Dp K H v d ∧ Dp K H u d' ∧ SeqAt.shaped d = true ∧ SeqAt.shaped d' = true ∧ PyData.eqv d d' = b := by
  unfold eqO at e
  cases g : scalW x y with
  | some c =>
    rw [g] at e
    cases e
    exact .inl (scal_of rx ry g)
  | none =>
    rw [g] at e
    have e' : (if okD h dep x && okD h dep y then some (eqH h dep x y) else none) = some b := e
    by_cases c : (okD h dep x && okD h dep y) = true
    · rw [if_pos c] at e'
      have e2 := Option.some.inj e'
      rw [Bool.and_eq_true] at c
      obtain ⟨d1, l1, p1⟩ := okD_data S dep x v c.1 rx
      obtain ⟨d2, l2, p2⟩ := okD_data S dep y u c.2 ry
      refine .inr ⟨_, _, d1, d2, ?_, ?_, ?_⟩
      · unfold SeqAt.shaped
        rw [l1, decide_eq_true (Nat.le_trans p1 (by decide))]
        rfl
      · unfold SeqAt.shaped
        rw [l2, decide_eq_true (Nat.le_trans p2 (by decide))]
        rfl
      · rw [← e2, eqH_data dep x y c.1 c.2]
    · rw [if_neg c] at e'
      cases e'
abbrev rEqW (K : PySem.W.Frag) : R2 := fun x y H Q => rEq x y H Q ∨ rEqD K x y H Q
abbrev rNeW (K : PySem.W.Frag) : R2 := fun x y H Q => rNe x y H Q ∨ rNeD K x y H Q
theorem or_eq (hu : X.A.units + 64 < cLine) : OpR X (compareOp .Eq) (rEqW X.K) := opR_or op_eq (op_eqD hu)
theorem or_ne (hu : X.A.units + 64 < cLine) : OpR X (compareOp .NotEq) (rNeW X.K) := opR_or op_ne (op_neD hu)
theorem os_eq {K : PySem.W.Frag} : OpS K CT Wd (rEqW K) eqW := by
  intro ρ h H σ x y v u Q S rx ry p
  unfold eqW at p
  cases g : eqO x y h with
  | none => rw [g] at p; exact p.elim
  | some b =>
    rw [g] at p
    have q : Q (.bl b) H := Post.here S p (.bl b)
    rcases eqO_of S rx ry g with ⟨e1, e2⟩ | ⟨d, d', h1, h2, h3, h4, e⟩
    · exact .inl ⟨e1, by rw [e2]; exact q⟩
    · exact .inr ⟨d, d', h1, h2, h3, h4, by rw [e]; exact q⟩
theorem os_ne {K : PySem.W.Frag} : OpS K CT Wd (rNeW K) neW := by
  intro ρ h H σ x y v u Q S rx ry p
  unfold neW at p
  cases g : eqO x y h with
  | none => rw [g] at p; exact p.elim
  | some b =>
    rw [g] at p
    have q : Q (.bl (!b)) H := Post.here S p (.bl _)
    rcases eqO_of S rx ry g with ⟨e1, e2⟩ | ⟨d, d', h1, h2, h3, h4, e⟩
    · exact .inl ⟨e1, by rw [e2]; exact q⟩
    · exact .inr ⟨d, d', h1, h2, h3, h4, by rw [e]; exact q⟩
abbrev rIs : R2 := fun x y H Q => (y = .non ∧ Q (.bl (decide (x = .non))) H) ∨ rIsB x y H Q
abbrev rIsnt : R2 := fun x y H Q => (y = .non ∧ Q (.bl (!decide (x = .non))) H) ∨ rNotB x y H Q
theorem or_is : OpR X (compareOp .Is) rIs := opR_or op_isN op_isBl
theorem or_isnt : OpR X (compareOp .IsNot) rIsnt := opR_or op_notN op_notBl
theorem isO_of {K : PySem.W.Frag} {ρ : Nat → Addr} {n : Nat} {H : Hp} {x y : W} {v u : V} {b : Bool} (rx : Rep K CT ρ n H x v) (ry : Rep K CT ρ n H y u) (e : isO x y = some b) :
    (u = .non ∧ decide (v = .non) = b) ∨ ∃ a c : Bool, v = .bl a ∧ u = .bl c ∧ decide (a = c) = b := by
  cases ry <;> first
    | (cases e; done)
    | (cases rx <;> (have e' := Option.some.inj e; subst e'; exact .inl ⟨rfl, by rfl⟩))
    | (cases rx <;> first
        | (cases e; done)
        | (rename_i c a; have e' := Option.some.inj e; subst e'; exact .inr ⟨a, c, rfl, rfl, by cases a <;> cases c <;> rfl⟩))
theorem os_is {K : PySem.W.Frag} : OpS K CT Wd rIs isW := by
  intro ρ h H σ x y v u Q S rx ry p
  unfold isW at p
  cases g : isO x y with
  | none => rw [g] at p; exact p.elim
  | some b =>
    rw [g] at p
    have q : Q (.bl b) H := Post.here S p (.bl b)
    rcases isO_of rx ry g with ⟨e1, e2⟩ | ⟨a, c, e1, e2, e⟩
    · exact .inl ⟨e1, by rw [e2]; exact q⟩
    · exact .inr ⟨a, c, e1, e2, by rw [e]; exact q⟩
theorem os_isnt {K : PySem.W.Frag} : OpS K CT Wd rIsnt isntW := by
  intro ρ h H σ x y v u Q S rx ry p
  unfold isntW at p
  cases g : isO x y with
  | none => rw [g] at p; exact p.elim
  | some b =>
    rw [g] at p
    have q : Q (.bl (!b)) H := Post.here S p (.bl _)
    rcases isO_of rx ry g with ⟨e1, e2⟩ | ⟨a, c, e1, e2, e⟩
    · exact .inl ⟨e1, by rw [e2]; exact q⟩
    · exact .inr ⟨a, c, e1, e2, by rw [e]; exact q⟩
end
end Sx

set_option linter.all false
set_option autoImplicit false
set_option maxRecDepth 100000
set_option maxHeartbeats 2000000
namespace Sx
open PySem L2
section
variable {X : Cx} {CT : CTx} {Wd : WX} {K : PySem.W.Frag} {ρ : Nat → Addr} {h : Hx} {H : Hp} {n : Nat}
/-! ### in, not in -/
theorem flat_of {x : W} {v : V} (r : Rep K CT ρ n H x v) (e : flatW x = true) : flatV v = true := by
  cases r <;> first | rfl | (cases e; done)
theorem eqFl_of {x y : W} {v u : V} (rx : Rep K CT ρ n H x v) (ry : Rep K CT ρ n H y u) (ex : flatW x = true) (ey : flatW y = true) : eqFl x y = eqV v u := by
  cases rx <;> first
    | (cases ex; done)
    | (cases ry <;> first
        | (cases ey; done)
        | rfl
        | exact (str_beq _ _).symm)
theorem allFlat_of : ∀ {ws : List W} {vs : List V}, Reps K CT ρ n H ws vs → ws.all flatW = true → vs.all flatV = true
  | _, _, .nil, _ => rfl
  | _, _, .cons r t, e => by
    rw [List.all_cons, Bool.and_eq_true] at e
    rw [List.all_cons, flat_of r e.1, allFlat_of t e.2]
    rfl
theorem any_of {x : W} {v : V} (rx : Rep K CT ρ n H x v) (ex : flatW x = true) : ∀ {ws : List W} {vs : List V}, Reps K CT ρ n H ws vs → ws.all flatW = true → (ws.any fun z => eqFl z x) = inV v vs
  | _, _, .nil, _ => rfl
  | _, _, .cons r t, e => by
    rw [List.all_cons, Bool.and_eq_true] at e
    unfold inV
    rw [List.any_cons, List.any_cons, eqFl_of r rx e.1 ex]
    have := any_of rx ex t e.2
    unfold inV at this
    rw [this]
theorem seqOf_of (S : Sim K CT ρ h H) {x : W} {v : V} {xs : List W} (r : Rep K CT ρ h.n H x v) (e : seqOf h x = some xs) : ∃ a vs, v = .ref a ∧ (SqL K H a vs ∨ SqT K H a vs) ∧ Reps K CT ρ h.n H xs vs := by
  cases r with
  | tup q rs => cases e; exact ⟨_, _, rfl, .inr q, rs⟩
  | fls q rs => cases e; exact ⟨_, _, rfl, .inl q.sq, rs⟩
  | @ref i hi =>
    have e' : (match h.get i with
      | some (.lst xs) => some xs
      | _ => none) = some xs := e
    split at e'
    · rename_i ys g
      cases e'
      obtain ⟨vs, q, rs⟩ := lst_get S g
      exact ⟨_, vs, rfl, .inl (.of q), rs⟩
    · cases e'
  | _ => cases e
abbrev rInW (K : PySem.W.Frag) : R2 := fun x y H Q => (∃ (c : Nat) (z : Str), x = .str ⟨#[c]⟩ ∧ y = .str z ∧ Q (.bl (decide (c ∈ z.cps.toList))) H) ∨ rIn K false x y H Q ∨ rInD K x y H Q
abbrev rNotInW (K : PySem.W.Frag) : R2 := fun x y H Q => (∃ (c : Nat) (z : Str), x = .str ⟨#[c]⟩ ∧ y = .str z ∧ Q (.bl (!decide (c ∈ z.cps.toList))) H) ∨ rIn K true x y H Q ∨ rNotInD K x y H Q
theorem or_in (hu : X.A.units + 65 < cLine) : OpR X (compareOp .In) (rInW X.K) := opR_or op_in_sign (opR_or op_in_seq (op_inD hu))
theorem or_notIn (hu : X.A.units + 65 < cLine) : OpR X (compareOp .NotIn) (rNotInW X.K) := opR_or op_notIn_sign (opR_or op_notIn_seq (op_notInD hu))
theorem contains_dec (z : List Nat) (c : Nat) : z.contains c = decide (c ∈ z) := by
  rw [Bool.eq_iff_iff]
  simp
theorem any_data (S : Sim K CT ρ h H) {x : W} (ex : okD h dep x = true) : ∀ (xs : List W), xs.all (okD h dep) = true → (xs.any fun z => eqH h dep z x) = ((xs.map (toD h dep)).any fun z => PyData.eqv z (toD h dep x))
  | [], _ => rfl
  | y :: ys, e => by
    rw [List.all_cons, Bool.and_eq_true] at e
    rw [List.any_cons, List.map_cons, List.any_cons, eqH_data dep y x e.1 ex, any_data S ex ys e.2]
theorem shaped_of {d : PyData} (h1 : d.canLay0 = true) (h2 : d.depth ≤ dep) : SeqAt.shaped d = true := by
  unfold SeqAt.shaped
  rw [h1, decide_eq_true (Nat.le_trans h2 (by decide))]
  rfl
/-- deep data one level lower -/
theorem okD_mono (h : Hx) : ∀ (f : Nat) (w : W), okD h f w = true → okD h (f + 1) w = true ∧ toD h (f + 1) w = toD h f w
  | 0, _, e => by cases e
  | f + 1, .non, _ => ⟨rfl, rfl⟩
  | f + 1, .bl _, _ => ⟨rfl, rfl⟩
  | f + 1, .int _, _ => ⟨rfl, rfl⟩
  | f + 1, .str _, _ => ⟨rfl, rfl⟩
  | f + 1, .tup xs, e => by
    have e' : xs.all (okD h f) = true := e
    refine ⟨List.all_eq_true.mpr fun w hw => (okD_mono h f w (List.all_eq_true.mp e' w hw)).1, ?_⟩
    show PyData.tuple (xs.map (toD h (f + 1))) = .tuple (xs.map (toD h f))
    rw [List.map_congr_left fun w hw => (okD_mono h f w (List.all_eq_true.mp e' w hw)).2]
  | f + 1, .fls xs, e => by
    have e' : xs.all (okD h f) = true := e
    refine ⟨List.all_eq_true.mpr fun w hw => (okD_mono h f w (List.all_eq_true.mp e' w hw)).1, ?_⟩
    show PyData.list (xs.map (toD h (f + 1))) = .list (xs.map (toD h f))
    rw [List.map_congr_left fun w hw => (okD_mono h f w (List.all_eq_true.mp e' w hw)).2]
  | f + 1, .ref i, e => by
    obtain ⟨xs, g, _, e', t⟩ := ref_items e
    have q : ∀ k, okD h (k + 1) (.ref i) = xs.all (okD h k) ∧ toD h (k + 1) (.ref i) = .list (xs.map (toD h k)) := fun k => by
      constructor
      · show (match h.get i with
          | some (.lst xs) => xs.all (okD h k)
          | _ => false) = _
        rw [g]
      · show (match h.get i with
          | some (.lst xs) => PyData.list (xs.map (toD h k))
          | _ => .none) = _
        rw [g]
    rw [(q (f + 1)).1, (q (f + 1)).2, (q f).2]
    refine ⟨List.all_eq_true.mpr fun w hw => (okD_mono h f w (List.all_eq_true.mp e' w hw)).1, ?_⟩
    rw [List.map_congr_left fun w hw => (okD_mono h f w (List.all_eq_true.mp e' w hw)).2]
  | f + 1, .ty _, e => by cases e
  | f + 1, .cl _, e => by cases e
  | f + 1, .exc _ _ _, e => by cases e
theorem inO_of (S : Sim K CT ρ h H) {x y : W} {v u : V} {b : Bool} (rx : Rep K CT ρ h.n H x v) (ry : Rep K CT ρ h.n H y u) (e : inO x y h = some b) :
    (∃ (c : Nat) (z : Str), v = .str ⟨#[c]⟩ ∧ u = .str z ∧ decide (c ∈ z.cps.toList) = b) ∨
    (∃ p xs, u = .ref p ∧ (SqL K H p xs ∨ SqT K H p xs) ∧ flatV v = true ∧ xs.all flatV = true ∧ inV v xs = b) ∨
    ∃ d ds, Dp K H v d ∧ Dp K H u (.list ds) ∧ SeqAt.shaped d = true ∧ SeqAt.shaped (.list ds) = true ∧ (ds.any fun z => PyData.eqv z d) = b := by
  have main : ∀ (y : W) (u : V), Rep K CT ρ h.n H y u → (match seqOf h y with
      | some xs => if flatW x && xs.all flatW then some (xs.any fun z => eqFl z x)
        else if okD h dep x && okD h dep y then match y with
          | .tup _ => none
          | _ => some (xs.any fun z => eqH h dep z x)
        else none
      | none => none) = some b → (∃ p xs, u = .ref p ∧ (SqL K H p xs ∨ SqT K H p xs) ∧ flatV v = true ∧ xs.all flatV = true ∧ inV v xs = b) ∨
    ∃ d ds, Dp K H v d ∧ Dp K H u (.list ds) ∧ SeqAt.shaped d = true ∧ SeqAt.shaped (.list ds) = true ∧ (ds.any fun z => PyData.eqv z d) = b := fun y u ry e => by
    cases g : seqOf h y with
    | none => rw [g] at e; cases e
    | some xs =>
      rw [g] at e
      obtain ⟨a, vs, rfl, q, rs⟩ := seqOf_of S ry g
      by_cases c : (flatW x && xs.all flatW) = true
      · have e' : some (xs.any fun z => eqFl z x) = some b := by
          rw [← e]
          exact (if_pos c).symm
        rw [Bool.and_eq_true] at c
        refine .inl ⟨a, vs, rfl, q, flat_of rx c.1, allFlat_of rs c.2, ?_⟩
        rw [← any_of rx c.1 rs c.2]
        exact Option.some.inj e'
      · have e1 : (if okD h dep x && okD h dep y then match y with
          | .tup _ => none
          | _ => some (xs.any fun z => eqH h dep z x)
        else none) = some b := by
          rw [← e]
          exact (if_neg c).symm
        by_cases c2 : (okD h dep x && okD h dep y) = true
        · rw [if_pos c2] at e1
          rw [Bool.and_eq_true] at c2
          obtain ⟨d1, l1, p1⟩ := okD_data S dep x v c2.1 rx
          obtain ⟨d2, l2, p2⟩ := okD_data S dep y _ c2.2 ry
          have k : ∃ ys, toD h dep y = .list (ys.map (toD h 19)) ∧ ys = xs ∧ xs.all (okD h 19) = true ∧ some (xs.any fun z => eqH h dep z x) = some b := by
            cases y with
            | tup _ => cases e1
            | fls ys => cases g; exact ⟨_, rfl, rfl, c2.2, e1⟩
            | ref i =>
              obtain ⟨ys, _, q2, q3, q4⟩ := ref_items (f := 19) c2.2
              have : ys = xs := by
                have g' : itemsOf h (.ref i) = some xs := g
                rw [q2] at g'
                exact Option.some.inj g'
              subst this
              exact ⟨_, q4, rfl, q3, e1⟩
            | _ => cases g
          obtain ⟨ys, k1, rfl, k3, k4⟩ := k
          have m : ys.all (okD h dep) = true := List.all_eq_true.mpr fun w hw => (okD_mono h 19 w (List.all_eq_true.mp k3 w hw)).1
          have m2 : ys.map (toD h dep) = ys.map (toD h 19) := List.map_congr_left fun w hw => (okD_mono h 19 w (List.all_eq_true.mp k3 w hw)).2
          rw [k1] at d2 l2 p2
          refine .inr ⟨_, _, d1, d2, shaped_of l1 p1, shaped_of l2 p2, ?_⟩
          rw [← m2, ← any_data S c2.1 ys m]
          exact Option.some.inj k4
        · rw [if_neg c2] at e1
          cases e1
  cases ry with
  | str hz =>
    rename_i z
    cases rx with
    | @str s hs =>
      cases s with
      | nil => cases e
      | cons c t =>
        cases t with
        | cons _ _ => cases e
        | nil =>
          refine .inl ⟨c, ⟨z.toArray⟩, rfl, rfl, ?_⟩
          have e' : some (z.contains c) = some b := e
          rw [← Option.some.inj e', contains_dec]
    | _ => cases e
  | non => exact .inr (main _ _ .non e)
  | bl b => exact .inr (main _ _ (.bl b) e)
  | int i => exact .inr (main _ _ (.int i) e)
  | tup q rs => exact .inr (main _ _ (.tup q rs) e)
  | fls q rs => exact .inr (main _ _ (.fls q rs) e)
  | ref hi => exact .inr (main _ _ (.ref hi) e)
  | ty t => exact .inr (main _ _ (.ty t) e)
  | cl k => exact .inr (main _ _ (.cl k) e)
  | exc x1 x2 x3 => exact .inr (main _ _ (.exc x1 x2 x3) e)
theorem os_in : OpS K CT Wd (rInW K) inW := by
  intro ρ h H σ x y v u Q S rx ry p
  unfold inW at p
  cases g : inO x y h with
  | none => rw [g] at p; exact p.elim
  | some b =>
    rw [g] at p
    have q : Q (.bl b) H := Post.here S p (.bl b)
    rcases inO_of S rx ry g with ⟨c, z, e1, e2, e⟩ | ⟨a, xs, e1, hq, f1, f2, e⟩ | ⟨d, ds, h1, h2, h3, h4, e⟩
    · exact .inl ⟨c, z, e1, e2, by rw [e]; exact q⟩
    · exact .inr (.inl ⟨a, xs, e1, hq, f1, f2, by rw [e]; exact q⟩)
    · exact .inr (.inr ⟨d, ds, h1, h2, h3, h4, by rw [e]; exact q⟩)
theorem os_notIn : OpS K CT Wd (rNotInW K) notInW := by
  intro ρ h H σ x y v u Q S rx ry p
  unfold notInW at p
  cases g : inO x y h with
  | none => rw [g] at p; exact p.elim
  | some b =>
    rw [g] at p
    have q : Q (.bl (!b)) H := Post.here S p (.bl _)
    rcases inO_of S rx ry g with ⟨c, z, e1, e2, e⟩ | ⟨a, xs, e1, hq, f1, f2, e⟩ | ⟨d, ds, h1, h2, h3, h4, e⟩
    · exact .inl ⟨c, z, e1, e2, by rw [e]; exact q⟩
    · exact .inr (.inl ⟨a, xs, e1, hq, f1, f2, by rw [e]; exact q⟩)
    · exact .inr (.inr ⟨d, ds, h1, h2, h3, h4, by rw [e]; exact q⟩)

/-! ### items, slices -/
theorem atI_of {ws : List W} {vs : List V} {i : Int} {w : W} (rs : Reps K CT ρ n H ws vs) (e : atI ws i = some w) : ∃ v, atI vs i = some v ∧ Rep K CT ρ n H w v := by
  unfold atI at e ⊢
  rw [← rs.length]
  cases g : ixN ws.length i with
  | none => rw [g] at e; cases e
  | some j =>
    rw [g] at e
    exact rs.get (i := j) e
theorem os_ix : OpS K CT Wd (rIx K) ixW := by
  intro ρ h H σ x y v u Q S rx ry p
  cases ry with
  | int i =>
    have main : ∀ (x : W) (v : V), Rep K CT ρ h.n H x v → Post K CT (RW K CT) Wd ρ h H σ (match seqOf h x with
      | some xs => match atI xs i with
        | some w => .ok w h
        | none => .bad
      | none => .bad) Q → rIx K v (.int i) H Q := fun x v rx p => by
      cases g : seqOf h x with
      | none => rw [g] at p; exact p.elim
      | some xs =>
        rw [g] at p
        obtain ⟨a, vs, rfl, q, rs⟩ := seqOf_of S rx g
        have p' : Post K CT (RW K CT) Wd ρ h H σ (match atI xs i with
          | some w => .ok w h
          | none => .bad) Q := p
        cases g2 : atI xs i with
        | none => rw [g2] at p'; exact p'.elim
        | some w =>
          rw [g2] at p'
          obtain ⟨z, ez, rz⟩ := atI_of rs g2
          rcases q with q | q
          · exact .inl ⟨a, vs, i, z, rfl, rfl, q, ez, Post.here S p' rz⟩
          · exact .inr (.inl ⟨a, vs, i, z, rfl, rfl, q, ez, Post.here S p' rz⟩)
    cases rx with
    | @str z hz =>
      obtain ⟨c, p'⟩ := post_if (show Post K CT (RW K CT) Wd ρ h H σ (if z.length ≤ lim then match atI z i with
        | some c => .ok (.str [c]) h
        | none => .bad else .bad) Q from p)
      cases g : atI z i with
      | none => rw [g] at p'; exact p'.elim
      | some k =>
        rw [g] at p'
        refine .inr (.inr ⟨⟨z.toArray⟩, i, k, rfl, rfl, ?_, g, ?_⟩)
        · show z.toArray.size ≤ sizeLine
          rw [List.size_toArray]
          exact lim_line c
        · have hk : k ∈ z := by
            unfold atI at g
            cases g2 : ixN z.length i with
            | none => rw [g2] at g; cases g
            | some j =>
              rw [g2] at g
              exact List.mem_of_getElem? g
          refine Post.here S p' ?_
          have q : Rep K CT ρ h.n H (.str [k]) (.str ⟨[k].toArray⟩) := .str (by
            rw [List.all_cons, List.all_eq_true.mp hz k hk]
            rfl)
          exact q
    | non => exact main _ _ .non p
    | bl b => exact main _ _ (.bl b) p
    | int i => exact main _ _ (.int i) p
    | tup q rs => exact main _ _ (.tup q rs) p
    | fls q rs => exact main _ _ (.fls q rs) p
    | ref hi => exact main _ _ (.ref hi) p
    | ty t => exact main _ _ (.ty t) p
    | cl k => exact main _ _ (.cl k) p
    | exc x1 x2 x3 => exact main _ _ (.exc x1 x2 x3) p
  | _ => exact (show False from p).elim
end
section
variable {X : Cx} {CT : CTx} {Wd : WX} {a b c e : Expr} {ca cb cc : Ex} {pos : Pos}
theorem se_ix (ha : SE X CT Wd a ca) (hb : SE X CT Wd b cb) (hs : PlainIx b) : SE X CT Wd (.Subscript a b pos) (xOp ixW ca cb) :=
  (pe_ix ix_seq ha hb hs).wk fun _ _ _ q => tOp_of os_ix q
def cutL {α : Type} (xs : List α) (lo hi : Option Int) : List α := (xs.drop (HT.sIx xs.length 0 lo)).take (HT.sIx xs.length xs.length hi - HT.sIx xs.length 0 lo)
abbrev Ox := Env → Hx → R (Option Int)
def xNo : Ox := fun _ h => .ok none h
def xYes (c : Ex) : Ox := fun es h => (c es h).bind fun w h1 => match w with
  | .int i => .ok (some i) h1
  | _ => .bad
def sliceW (x : W) (lo hi : Option Int) (h : Hx) : R W := match x with
  | .str z => if z.length ≤ lim then .ok (.str (cutL z lo hi)) h else .bad
  | .tup xs => .ok (.tup (cutL xs lo hi)) h
  | x => match seqOf h x with
    | some xs => .ok (.ref h.n) (h.new (.lst (cutL xs lo hi)))
    | none => .bad
def xSl (a : Ex) (l u : Ox) : Ex := fun es h => (a es h).bind fun x h1 => (l es h1).bind fun lo h2 => (u es h2).bind fun hi h3 => sliceW x lo hi h3
abbrev RO : (Nat → Addr) → Nat → Hp → Option Int → Option Int → Prop := fun _ _ _ a b => a = b
def tO (K : PySem.W.Frag) (CT : CTx) (Wd : WX) (c : Ox) : TO := fun σ H Q => ∃ ρ h es, Sim K CT ρ h H ∧ REnv K CT ρ h.n H es σ ∧ Post K CT RO Wd ρ h H σ (c es h) Q
theorem _root_.L2.PO.wk {X : Cx} {e : Option Expr} {t t' : TO} (h : PO X e t) (k : ∀ σ H Q, t' σ H Q → t σ H Q) : PO X e t' := ⟨fun pins s σ H Q I q => h.run pins s σ H Q I (k σ H Q q)⟩
theorem so_no : PO X none (tO X.K CT Wd xNo) := po_none.wk fun σ H Q ⟨ρ, h, es, S, E, p⟩ => Post.here S p rfl
theorem so_yes (ha : SE X CT Wd a ca) : PO X (some a) (tO X.K CT Wd (xYes ca)) := (po_some ha).wk fun σ H Q ⟨ρ, h, es, S, E, p⟩ => by
  refine ⟨ρ, h, es, S, E, Post.bind (RR := RW X.K CT) S p fun w h1 ρ1 H1 v N1 r1 p1 => ?_⟩
  cases r1 with
  | int i => exact ⟨i, rfl, Post.here N1.sim p1 rfl⟩
  | _ => exact (show False from p1).elim
abbrev rSl (K : PySem.W.Frag) : V → Option Int → Option Int → Hp → VK → Prop := fun x lo hi H Q => rSlL K x lo hi H Q ∨ rSlA K x lo hi H Q ∨ rSlS x lo hi H Q
theorem sl_all : SlR X (rSl X.K) := sl_list.or (sl_tupA.or sl_str)
theorem cut_reps {K : PySem.W.Frag} {ρ : Nat → Addr} {n : Nat} {H : Hp} {ws : List W} {vs : List V} (r : Reps K CT ρ n H ws vs) (lo hi : Option Int) : Reps K CT ρ n H (cutL ws lo hi) (cutV vs lo hi) := by
  unfold cutL cutV
  rw [← r.length]
  exact (r.drop _).take _
theorem slice_of {K : PySem.W.Frag} {ρ : Nat → Addr} {h : Hx} {H : Hp} {σ : St} {x : W} {v : V} {lo hi : Option Int} {Q : VK} (S : Sim K CT ρ h H) (rx : Rep K CT ρ h.n H x v) (p : Post K CT (RW K CT) Wd ρ h H σ (sliceW x lo hi h) Q) : rSl K v lo hi H Q := by
  have main : ∀ (x : W) (v : V), Rep K CT ρ h.n H x v → (∀ xs, x ≠ .tup xs) → Post K CT (RW K CT) Wd ρ h H σ (match seqOf h x with
    | some xs => .ok (.ref h.n) (h.new (.lst (cutL xs lo hi)))
    | none => .bad) Q → rSl K v lo hi H Q := fun x v rx hx p => by
    cases g : seqOf h x with
    | none => rw [g] at p; exact p.elim
    | some xs =>
      rw [g] at p
      have k : ∃ a vs, v = .ref a ∧ SqL K H a vs ∧ Reps K CT ρ h.n H xs vs := by
        cases rx with
        | tup q rs => exact absurd rfl (hx _)
        | fls q rs => cases g; exact ⟨_, _, rfl, q.sq, rs⟩
        | @ref i hi =>
          have e' : (match h.get i with
            | some (.lst xs) => some xs
            | _ => none) = some xs := g
          split at e'
          · rename_i ys g
            cases e'
            obtain ⟨vs, q, rs⟩ := lst_get S g
            exact ⟨_, vs, rfl, .of q, rs⟩
          · cases e'
        | _ => cases g
      obtain ⟨a, vs, rfl, q, rs⟩ := k
      exact .inl ⟨a, vs, rfl, q, fun t ht => post_lst S p (cut_reps rs lo hi) ht⟩
  cases rx with
  | @str z hz =>
    obtain ⟨c, p'⟩ := post_if (show Post K CT (RW K CT) Wd ρ h H σ (if z.length ≤ lim then .ok (.str (cutL z lo hi)) h else .bad) Q from p)
    refine .inr (.inr ⟨⟨z.toArray⟩, rfl, ?_, ?_⟩)
    · show z.toArray.size ≤ sizeLine
      rw [List.size_toArray]
      exact lim_line c
    · have e : cutS ⟨z.toArray⟩ lo hi = ⟨(cutL z lo hi).toArray⟩ := by
        unfold cutS cutL
        show (⟨((z.toArray.toList.drop (HT.sIx z.toArray.size 0 lo)).take (HT.sIx z.toArray.size z.toArray.size hi - HT.sIx z.toArray.size 0 lo)).toArray⟩ : Str) = _
        rw [List.size_toArray]
      rw [e]
      refine Post.here S p' (.str ?_)
      unfold cutL
      exact List.all_eq_true.mpr fun c hc => List.all_eq_true.mp hz c (List.mem_of_mem_drop (List.mem_of_mem_take hc))
  | @tup a ws vs q rs =>
    have p' : Post K CT (RW K CT) Wd ρ h H σ (.ok (.tup (cutL ws lo hi)) h) Q := p
    refine .inr (.inl ⟨a, vs, rfl, q, fun hw => ?_, fun hw t ht => post_tup S p' (cut_reps rs lo hi) ht⟩)
    refine Post.here S p' ?_
    have e : cutL ws lo hi = ws := by
      unfold cutL
      rw [rs.length, hw.1, hw.2, ← rs.length]
      simp
    rw [e]
    exact .tup q rs
  | non => exact main _ _ .non (fun _ z => nomatch z) p
  | bl b => exact main _ _ (.bl b) (fun _ z => nomatch z) p
  | int i => exact main _ _ (.int i) (fun _ z => nomatch z) p
  | fls q rs => exact main _ _ (.fls q rs) (fun _ z => nomatch z) p
  | ref hi => exact main _ _ (.ref hi) (fun _ z => nomatch z) p
  | ty t => exact main _ _ (.ty t) (fun _ z => nomatch z) p
  | cl k => exact main _ _ (.cl k) (fun _ z => nomatch z) p
  | exc x1 x2 x3 => exact main _ _ (.exc x1 x2 x3) (fun _ z => nomatch z) p
theorem se_slice {lo hi : Option Expr} {cl ch : Ox} {p2 : Pos} (ha : SE X CT Wd a ca) (hl : PO X lo (tO X.K CT Wd cl)) (hu : PO X hi (tO X.K CT Wd ch)) : SE X CT Wd (.Subscript a (.Slice lo hi none p2) pos) (xSl ca cl ch) :=
  (pe_slice sl_all ha hl hu).wk fun σ H Q ⟨ρ, h, es, S, E, p⟩ => by
    refine ⟨ρ, h, es, S, E, Post.bind (RR := RW X.K CT) S p fun w h1 ρ1 H1 v N1 r1 p1 => ?_⟩
    have E1 := E.keep S N1.toFw
    refine ⟨ρ1, h1, es, N1.sim, E1, Post.bind (RR := RO) N1.sim p1 fun l h2 ρ2 H2 l' N2 r2 p2 => ?_⟩
    have E2 := E1.keep N1.sim N2.toFw
    have r1' := Rep.keep N1.sim N2.toFw _ _ r1
    obtain rfl : l = l' := r2
    refine ⟨ρ2, h2, es, N2.sim, E2, Post.bind (RR := RO) N2.sim p2 fun u h3 ρ3 H3 u' N3 r3 p3 => ?_⟩
    obtain rfl : u = u' := r3
    exact slice_of N3.sim (Rep.keep N2.sim N3.toFw _ _ r1') p3
end
end Sx

set_option linter.all false
set_option autoImplicit false
set_option maxRecDepth 100000
set_option maxHeartbeats 2000000
set_option exponentiation.threshold 2000
namespace Sx
open PySem L2
section
variable {X : Cx} {CT : CTx} {Wd : WX} {K : PySem.W.Frag} {ρ : Nat → Addr} {h : Hx} {H : Hp} {n : Nat}
/-! ### truth, tests -/
def truth (h : Hx) : W → Option Bool
  | .non => some false
  | .bl b => some b
  | .int i => some (i != 0)
  | .str z => if z.length ≤ lim then some (!z.isEmpty) else none
  | .tup xs => some (!xs.isEmpty)
  | .fls xs => some (!xs.isEmpty)
  | .ref i => match h.get i with
    | some (.lst xs) => some (!xs.isEmpty)
    | some (.dic false kvs) => some (!kvs.isEmpty)
    | _ => none
  | _ => none
def xTru (c : Ex) : Tx := fun es h => (c es h).bind fun w h1 => match truth h1 w with
  | some b => .ok b h1
  | none => .bad
theorem repK_empty : ∀ {ws : List (W × W)} {vs : List (Key × V)}, RepK K CT ρ n H ws vs → ws.isEmpty = vs.isEmpty
  | _, _, .nil => rfl
  | _, _, .cons _ _ _ => rfl
theorem truth_of (S : Sim K CT ρ h H) {x : W} {v : V} {b : Bool} (r : Rep K CT ρ h.n H x v) (e : truth h x = some b) : TruV K v H b := by
  cases r with
  | non => cases e; rfl
  | bl _ => cases e; rfl
  | int _ => cases e; rfl
  | @str z hz =>
    have e : (if z.length ≤ lim then some (!z.isEmpty) else none) = some b := e
    by_cases c : z.length ≤ lim
    · rw [if_pos c] at e
      cases e
      refine ⟨?_, ?_⟩
      · show z.toArray.size ≤ sizeLine
        rw [List.size_toArray]
        exact lim_line c
      · show (!z.isEmpty) = (((z.toArray.size : Nat) : Int) != 0)
        rw [List.size_toArray]
        cases z with
        | nil => rfl
        | cons x r =>
          show true = _
          have : ((((x :: r).length : Nat) : Int) != 0) = true := by
            rw [bne_iff_ne]
            rw [List.length_cons]
            omega
          rw [this]
    · rw [if_neg c] at e
      cases e
  | tup q rs => cases e; exact .inr (.inl ⟨_, q, by rw [rs.isEmpty]⟩)
  | fls q rs => cases e; exact .inl ⟨_, q.sq, by rw [rs.isEmpty]⟩
  | @ref i hi =>
    have e' : (match h.get i with
      | some (.lst xs) => some (!xs.isEmpty)
      | some (.dic false kvs) => some (!kvs.isEmpty)
      | _ => none) = some b := e
    split at e'
    · rename_i ys g
      cases e'
      obtain ⟨vs, q, rs⟩ := lst_get S g
      exact .inl ⟨vs, .of q, by rw [rs.isEmpty]⟩
    · rename_i ys g
      cases e'
      obtain ⟨od, vs, q, rs⟩ := S.ob i _ g
      exact .inr (.inr ⟨vs, q, by rw [repK_empty rs]⟩)
    · cases e'
  | ty _ => cases e
  | cl _ => cases e
  | exc _ _ _ => cases e
end
section
variable {X : Cx} {CT : CTx} {Wd : WX} {a b c e : Expr} {ca cb cc : Ex} {ta tb : Tx} {pos : Pos}
theorem st_tru (ha : SE X CT Wd a ca) (he : ∀ whole, isTrue a X.env whole = (do let v ← whole; standAt a.pos; holding [v] (truthy v)) := by intro _; rfl) : ST X CT Wd a (xTru ca) :=
  (pt_truth ha he).wk fun σ H Q ⟨ρ, h, es, S, E, p⟩ => by
    refine ⟨ρ, h, es, S, E, Post.bind (RR := RW X.K CT) S p fun w h1 ρ1 H1 v N1 r1 p1 => ?_⟩
    cases g : truth h1 w with
    | none => rw [g] at p1; exact p1.elim
    | some k =>
      rw [g] at p1
      exact ⟨k, truth_of N1.sim r1 g, Post.here N1.sim p1 rfl⟩
def xAndT (a b : Tx) : Tx := fun es h => (a es h).bind fun k h1 => if k then b es h1 else .ok false h1
def xOrT (a b : Tx) : Tx := fun es h => (a es h).bind fun k h1 => if k then .ok true h1 else b es h1
def xNotT (a : Tx) : Tx := fun es h => (a es h).bind fun k h1 => .ok (!k) h1
theorem tAnd_of {σ : St} {H : Hp} {Q : Bool → Hp → Prop} (q : tT X.K CT Wd (xAndT ta tb) σ H Q) : tAnd (tT X.K CT Wd ta) (tT X.K CT Wd tb) σ H Q := by
  obtain ⟨ρ, h, es, S, E, p⟩ := q
  refine ⟨ρ, h, es, S, E, Post.bind (RR := RB) S p fun k h1 ρ1 H1 k' N1 r1 p1 => ?_⟩
  obtain rfl : k = k' := r1
  cases k with
  | true => exact ⟨ρ1, h1, es, N1.sim, E.keep S N1.toFw, p1⟩
  | false => exact Post.here N1.sim p1 rfl
theorem tOr_of {σ : St} {H : Hp} {Q : Bool → Hp → Prop} (q : tT X.K CT Wd (xOrT ta tb) σ H Q) : tOr (tT X.K CT Wd ta) (tT X.K CT Wd tb) σ H Q := by
  obtain ⟨ρ, h, es, S, E, p⟩ := q
  refine ⟨ρ, h, es, S, E, Post.bind (RR := RB) S p fun k h1 ρ1 H1 k' N1 r1 p1 => ?_⟩
  obtain rfl : k = k' := r1
  cases k with
  | true => exact Post.here N1.sim p1 rfl
  | false => exact ⟨ρ1, h1, es, N1.sim, E.keep S N1.toFw, p1⟩
theorem sw_and {rest : List Expr} (ha : ST X CT Wd a ta) (hb : SW X CT Wd (.BoolOp .And (b :: rest) pos) tb) : SW X CT Wd (.BoolOp .And (a :: b :: rest) pos) (xAndT ta tb) := (pw_and ha hb).wk fun _ _ _ q => tAnd_of q
theorem sw_or {rest : List Expr} (ha : ST X CT Wd a ta) (hb : SW X CT Wd (.BoolOp .Or (b :: rest) pos) tb) : SW X CT Wd (.BoolOp .Or (a :: b :: rest) pos) (xOrT ta tb) := (pw_or ha hb).wk fun _ _ _ q => tOr_of q
theorem sw_and1 (ha : ST X CT Wd a ta) : SW X CT Wd (.BoolOp .And [a] pos) ta := pw_and1 ha
theorem sw_or1 (ha : ST X CT Wd a ta) : SW X CT Wd (.BoolOp .Or [a] pos) ta := pw_or1 ha
theorem st_w (h : SW X CT Wd e ta) : ST X CT Wd e ta := h.pt
theorem st_not (ha : ST X CT Wd a ta) : ST X CT Wd (.UnaryOp .Not a pos) (xNotT ta) := (pt_not ha).wk fun σ H Q ⟨ρ, h, es, S, E, p⟩ => by
  refine ⟨ρ, h, es, S, E, Post.bind (RR := RB) S p fun k h1 ρ1 H1 k' N1 r1 p1 => ?_⟩
  obtain rfl : k = k' := r1
  exact Post.here N1.sim p1 rfl
def xIf (t : Tx) (a b : Ex) : Ex := fun es h => (t es h).bind fun k h1 => if k then a es h1 else b es h1
theorem se_if (ht : ST X CT Wd c ta) (ha : SE X CT Wd a ca) (hb : SE X CT Wd b cb) : SE X CT Wd (.IfExp c a b pos) (xIf ta ca cb) := (pe_ifExp ht ha hb).wk fun σ H Q ⟨ρ, h, es, S, E, p⟩ => by
  refine ⟨ρ, h, es, S, E, Post.bind (RR := RB) S p fun k h1 ρ1 H1 k' N1 r1 p1 => ?_⟩
  obtain rfl : k = k' := r1
  cases k with
  | true => exact ⟨ρ1, h1, es, N1.sim, E.keep S N1.toFw, p1⟩
  | false => exact ⟨ρ1, h1, es, N1.sim, E.keep S N1.toFw, p1⟩
/-- and, or, not as values -/
def xAnd (a b : Ex) : Ex := fun es h => (a es h).bind fun w h1 => match truth h1 w with
  | some true => b es h1
  | some false => .ok w h1
  | none => .bad
def xOr (a b : Ex) : Ex := fun es h => (a es h).bind fun w h1 => match truth h1 w with
  | some true => .ok w h1
  | some false => b es h1
  | none => .bad
def xNot (a : Ex) : Ex := fun es h => (a es h).bind fun w h1 => match truth h1 w with
  | some k => .ok (.bl (!k)) h1
  | none => .bad
theorem se_and {rest : List Expr} (ha : SE X CT Wd a ca) (hb : SE X CT Wd (.BoolOp .And (b :: rest) pos) cb) : SE X CT Wd (.BoolOp .And (a :: b :: rest) pos) (xAnd ca cb) := (pe_andT ha hb).wk fun σ H Q ⟨ρ, h, es, S, E, p⟩ => by
  refine ⟨ρ, h, es, S, E, Post.bind (RR := RW X.K CT) S p fun w h1 ρ1 H1 v N1 r1 p1 => ?_⟩
  cases g : truth h1 w with
  | none => rw [g] at p1; exact p1.elim
  | some k =>
    rw [g] at p1
    refine ⟨k, truth_of N1.sim r1 g, ?_⟩
    cases k with
    | true =>
      rw [if_pos rfl]
      exact ⟨ρ1, h1, es, N1.sim, E.keep S N1.toFw, p1⟩
    | false =>
      rw [if_neg Bool.false_ne_true]
      exact Post.here N1.sim p1 r1
theorem se_or {rest : List Expr} (ha : SE X CT Wd a ca) (hb : SE X CT Wd (.BoolOp .Or (b :: rest) pos) cb) : SE X CT Wd (.BoolOp .Or (a :: b :: rest) pos) (xOr ca cb) := (pe_orT ha hb).wk fun σ H Q ⟨ρ, h, es, S, E, p⟩ => by
  refine ⟨ρ, h, es, S, E, Post.bind (RR := RW X.K CT) S p fun w h1 ρ1 H1 v N1 r1 p1 => ?_⟩
  cases g : truth h1 w with
  | none => rw [g] at p1; exact p1.elim
  | some k =>
    rw [g] at p1
    refine ⟨k, truth_of N1.sim r1 g, ?_⟩
    cases k with
    | true =>
      rw [if_pos rfl]
      exact Post.here N1.sim p1 r1
    | false =>
      rw [if_neg Bool.false_ne_true]
      exact ⟨ρ1, h1, es, N1.sim, E.keep S N1.toFw, p1⟩
theorem se_one {op : BoolOp} (ha : SE X CT Wd a ca) : SE X CT Wd (.BoolOp op [a] pos) ca := pe_one ha
theorem se_not (ha : SE X CT Wd a ca) : SE X CT Wd (.UnaryOp .Not a pos) (xNot ca) := (pe_notT ha).wk fun σ H Q ⟨ρ, h, es, S, E, p⟩ => by
  refine ⟨ρ, h, es, S, E, Post.bind (RR := RW X.K CT) S p fun w h1 ρ1 H1 v N1 r1 p1 => ?_⟩
  cases g : truth h1 w with
  | none => rw [g] at p1; exact p1.elim
  | some k =>
    rw [g] at p1
    exact ⟨k, truth_of N1.sim r1 g, Post.here N1.sim p1 (.bl _)⟩

/-! ### arguments, displays -/
def xNil : Ax := fun _ h => .ok [] h
def xCons (a : Ex) (r : Ax) : Ax := fun es h => (a es h).bind fun w h1 => (r es h1).bind fun ws h2 => .ok (w :: ws) h2
theorem sa_nil : SA X CT Wd [] xNil := pa_nil.wk fun σ H Q ⟨ρ, h, es, S, E, p⟩ => Post.here S p .nil
theorem sa_cons {es : List Expr} {r : Ax} (ha : SE X CT Wd e ca) (hr : SA X CT Wd es r) (hs : starEach (e :: es) X.env = (false, eval e X.env) :: starEach es X.env := by rfl) : SA X CT Wd (e :: es) (xCons ca r) := (pa_cons ha hr hs).wk fun σ H Q ⟨ρ, h, en, S, E, p⟩ => by
  refine ⟨ρ, h, en, S, E, Post.bind (RR := RW X.K CT) S p fun w h1 ρ1 H1 v N1 r1 p1 => ?_⟩
  refine ⟨ρ1, h1, en, N1.sim, E.keep S N1.toFw, Post.bind (RR := RA X.K CT) N1.sim p1 fun ws h2 ρ2 H2 vs N2 r2 p2 => ?_⟩
  exact Post.here N2.sim p2 (.cons (Rep.keep N1.sim N2.toFw _ _ r1) r2)
def xTup (a : Ax) : Ex := fun es h => (a es h).bind fun ws h1 => if ws.length ≤ lim then .ok (.tup ws) h1 else .bad
def xLst (a : Ax) : Ex := fun es h => (a es h).bind fun ws h1 => if ws.length ≤ lim then .ok (.ref h1.n) (h1.new (.lst ws)) else .bad
def xDic0 : Ex := fun _ h => .ok (.ref h.n) (h.new (.dic false []))
theorem se_tup {es : List Expr} {r : Ax} {x1} (ha : SA X CT Wd es r) : SE X CT Wd (.Tuple es x1 pos) (xTup r) := (pe_tup ha).wk fun σ H Q ⟨ρ, h, en, S, E, p⟩ => by
  refine ⟨ρ, h, en, S, E, Post.bind (RR := RA X.K CT) S p fun ws h1 ρ1 H1 vs N1 r1 p1 => ?_⟩
  obtain ⟨c, p1⟩ := post_if p1
  exact ⟨by rw [← r1.length]; exact lim_line c, fun t ht => post_tup N1.sim p1 r1 ht⟩
theorem se_lst {es : List Expr} {r : Ax} (ha : SA X CT Wd es r) : SE X CT Wd (.List es pos) (xLst r) := (pe_lst ha).wk fun σ H Q ⟨ρ, h, en, S, E, p⟩ => by
  refine ⟨ρ, h, en, S, E, Post.bind (RR := RA X.K CT) S p fun ws h1 ρ1 H1 vs N1 r1 p1 => ?_⟩
  obtain ⟨c, p1⟩ := post_if p1
  exact ⟨by rw [← r1.length]; exact lim_line c, fun t ht => post_lst N1.sim p1 r1 ht⟩
theorem se_dic0 : SE X CT Wd (.Dict [] [] pos) xDic0 := pe_dnewK.wk fun σ H Q ⟨ρ, h, es, S, E, p⟩ => fun a ha => by
  have N : Nxt X.K CT ρ h H (ρnew ρ h.n a) (h.new (.dic false [])) (upd H a (.dK [])) := Nxt.fresh S ha ⟨default, [], upd_same, .nil⟩
  have e : ρnew ρ h.n a h.n = a := if_pos rfl
  have q : Rep X.K CT (ρnew ρ h.n a) (h.n + 1) (upd H a (.dK [])) (.ref h.n) (.ref (ρnew ρ h.n a h.n)) := .ref (Nat.lt_succ_self _)
  rw [e] at q
  exact p _ _ _ N q

/-! ### built-ins called -/
def xCallB (f : List W → Hx → R W) (a : Ax) : Ex := fun es h => (a es h).bind fun ws h1 => f ws h1
def CallS (K : PySem.W.Frag) (CT : CTx) (Wd : WX) (r : List V → Hp → VK → Prop) (f : List W → Hx → R W) : Prop :=
  ∀ {ρ : Nat → Addr} {h : Hx} {H : Hp} {σ : St} {ws : List W} {vs : List V} {Q : VK}, Sim K CT ρ h H → Reps K CT ρ h.n H ws vs → Post K CT (RW K CT) Wd ρ h H σ (f ws h) Q → r vs H Q
theorem tCB_of {r : List V → Hp → VK → Prop} {f : List W → Hx → R W} {ar : Ax} (hs : CallS X.K CT Wd r f) {σ : St} {H : Hp} {Q : VK} (q : tE X.K CT Wd (xCallB f ar) σ H Q) : tCB r (tAx X.K CT Wd ar) σ H Q := by
  obtain ⟨ρ, h, en, S, E, p⟩ := q
  exact ⟨ρ, h, en, S, E, Post.bind (RR := RA X.K CT) S p fun ws h1 ρ1 H1 vs N1 r1 p1 => hs N1.sim r1 p1⟩
theorem se_callB {id : String} {x : Str} {p : Pos} {es : List Expr} {r : List V → Hp → VK → Prop} {f : List W → Hx → R W} {ar : Ax} (hc : CallR X (.builtin id) r) (hs : CallS X.K CT Wd r f) (hg : Gl X x) (hm : X.mg x = none) (hv : bootBuiltins x = some (.builtin id)) (ha : SA X CT Wd (e :: es) ar)
    (hn : x ≠ "__name__" := by decide) (hdb : (x == ("__debug__" : Str)) = false := by decide)
    (he : starEach (e :: es) X.env = (false, eval e X.env) :: starEach es X.env := by rfl) (hpl : (backTo pos (starEach es X.env)).any (·.1) = false := by rfl) : SE X CT Wd (.Call (.Name x p) (e :: es) [] pos) (xCallB f ar) :=
  (pe_callB hc hg hm hv ha hn hdb he hpl).wk fun _ _ _ q => tCB_of hs q
theorem se_callTy {T : String} {x : Str} {p : Pos} {es : List Expr} {r : List V → Hp → VK → Prop} {f : List W → Hx → R W} {ar : Ax} (hc : CallR X (.type T) r) (hs : CallS X.K CT Wd r f) (hg : Gl X x) (hm : X.mg x = none) (hv : bootBuiltins x = some (.type T)) (ha : SA X CT Wd (e :: es) ar)
    (hn : x ≠ "__name__" := by decide) (hdb : (x == ("__debug__" : Str)) = false := by decide)
    (he : starEach (e :: es) X.env = (false, eval e X.env) :: starEach es X.env := by rfl) (hpl : (backTo pos (starEach es X.env)).any (·.1) = false := by rfl) : SE X CT Wd (.Call (.Name x p) (e :: es) [] pos) (xCallB f ar) :=
  (pe_callTy hc hg hm hv ha hn hdb he hpl).wk fun _ _ _ q => tCB_of hs q
/-- a built-in class by its name; a constant of the module -/
theorem se_ty {t : Bt} {x : Str} {p : Pos} (hg : Gl X x) (hm : X.mg x = none) (hv : bootBuiltins x = some (.type t.name)) (hn : x ≠ "__name__" := by decide) (hdb : (x == ("__debug__" : Str)) = false := by decide) : SE X CT Wd (.Name x p) (xC (.ty t)) :=
  se_c (pe_bltn (v := .ty t.name) hg hm hv rfl hn hdb) fun _ _ _ => .ty t
def lenW : List W → Hx → R W
  | [w], h => match w with
    | .str z => if z.length ≤ lim then .ok (.int z.length) h else .bad
    | .ref i => match h.get i with
      | some (.lst xs) => .ok (.int xs.length) h
      | some (.dic false kvs) => .ok (.int kvs.length) h
      | _ => .bad
    | .tup xs => .ok (.int xs.length) h
    | .fls xs => .ok (.int xs.length) h
    | _ => .bad
  | _, _ => .bad
theorem callR_or {f : Value} {r r' : List V → Hp → VK → Prop} (p : CallR X f r) (q : CallR X f r') : CallR X f (fun xs H Q => r xs H Q ∨ r' xs H Q) := by
  intro pins s σ H xs us Q I rx h
  rcases h with h | h
  · exact p pins s σ H xs us Q I rx h
  · exact q pins s σ H xs us Q I rx h
theorem repK_len {K : PySem.W.Frag} {ρ : Nat → Addr} {n : Nat} {H : Hp} : ∀ {ws : List (W × W)} {vs : List (Key × V)}, RepK K CT ρ n H ws vs → ws.length = vs.length
  | _, _, .nil => rfl
  | _, _, .cons _ _ t => by rw [List.length_cons, List.length_cons, repK_len t]
abbrev rLenW (K : PySem.W.Frag) : List V → Hp → VK → Prop := fun xs H Q => (∃ x n, xs = [x] ∧ LenV K x H n ∧ Q (.int n) H) ∨ ∃ a kvs, xs = [.ref a] ∧ H a = some (.dK kvs) ∧ Q (.int kvs.length) H
theorem cs_len {K : PySem.W.Frag} : CallS K CT Wd (rLenW K) lenW := by
  intro ρ h H σ ws vs Q S r p
  cases r with
  | nil => exact p.elim
  | cons rw rest =>
    cases rest with
    | cons _ _ => exact p.elim
    | nil =>
      cases rw with
      | @str z hz =>
        obtain ⟨c, p⟩ := post_if (show Post K CT (RW K CT) Wd ρ h H σ (if z.length ≤ lim then .ok (.int z.length) h else .bad) Q from p)
        refine .inl ⟨_, z.length, rfl, ⟨?_, ?_⟩, Post.here S p (.int _)⟩
        · show z.toArray.size ≤ sizeLine
          rw [List.size_toArray]
          exact lim_line c
        · show z.length = z.toArray.size
          rw [List.size_toArray]
      | @ref i hi =>
        have p' : Post K CT (RW K CT) Wd ρ h H σ (match h.get i with
          | some (.lst xs) => .ok (.int xs.length) h
          | some (.dic false kvs) => .ok (.int kvs.length) h
          | _ => .bad) Q := p
        split at p'
        · rename_i ys g
          obtain ⟨us, q, rs⟩ := lst_get S g
          exact .inl ⟨_, ys.length, rfl, .inl ⟨us, .of q, rs.length⟩, Post.here S p' (.int _)⟩
        · rename_i ys g
          obtain ⟨od, us, q, rs⟩ := S.ob i _ g
          refine .inr ⟨_, us, rfl, q, ?_⟩
          rw [← repK_len rs]
          exact Post.here S p' (.int _)
        · exact p'.elim
      | tup q rs => exact .inl ⟨_, _, rfl, .inr ⟨_, q, rs.length⟩, Post.here S p (.int _)⟩
      | fls q rs => exact .inl ⟨_, _, rfl, .inl ⟨_, q.sq, rs.length⟩, Post.here S p (.int _)⟩
      | _ => exact (show False from p).elim
def max2W : List W → Hx → R W
  | [.int i, .int j], h => .ok (.int (if j > i then j else i)) h
  | _, _ => .bad
def min2W : List W → Hx → R W
  | [.int i, .int j], h => .ok (.int (if j < i then j else i)) h
  | _, _ => .bad
theorem cs_max2 {K : PySem.W.Frag} : CallS K CT Wd (fun xs H Q => ∃ i j, xs = [.int i, .int j] ∧ Q (.int (if j > i then j else i)) H) max2W := by
  intro ρ h H σ ws vs Q S r p
  cases r with
  | nil => exact p.elim
  | cons r1 t =>
    cases t with
    | nil => cases r1 <;> exact (show False from p).elim
    | cons r2 t =>
      cases t with
      | cons _ _ => cases r1 <;> cases r2 <;> exact (show False from p).elim
      | nil =>
        cases r1 <;> cases r2 <;> try exact (show False from p).elim
        exact ⟨_, _, rfl, Post.here S p (.int _)⟩
theorem cs_min2 {K : PySem.W.Frag} : CallS K CT Wd (fun xs H Q => ∃ i j, xs = [.int i, .int j] ∧ Q (.int (if j < i then j else i)) H) min2W := by
  intro ρ h H σ ws vs Q S r p
  cases r with
  | nil => exact p.elim
  | cons r1 t =>
    cases t with
    | nil => cases r1 <;> exact (show False from p).elim
    | cons r2 t =>
      cases t with
      | cons _ _ => cases r1 <;> cases r2 <;> exact (show False from p).elim
      | nil =>
        cases r1 <;> cases r2 <;> try exact (show False from p).elim
        exact ⟨_, _, rfl, Post.here S p (.int _)⟩
def intW : List W → Hx → R W
  | [.int i], h => .ok (.int i) h
  | [.bl k], h => .ok (.int (if k then 1 else 0)) h
  | _, _ => .bad
theorem cs_int {K : PySem.W.Frag} : CallS K CT Wd (fun xs H Q => (∃ i, xs = [.int i] ∧ Q (.int i) H) ∨ ∃ k, xs = [.bl k] ∧ Q (.int (if k then 1 else 0)) H) intW := by
  intro ρ h H σ ws vs Q S r p
  cases r with
  | nil => exact p.elim
  | cons r1 t =>
    cases t with
    | cons _ _ => cases r1 <;> exact (show False from p).elim
    | nil =>
      cases r1 <;> try exact (show False from p).elim
      · exact .inr ⟨_, rfl, Post.here S p (.int _)⟩
      · exact .inl ⟨_, rfl, Post.here S p (.int _)⟩
/-- the signs of an int -/
def intStr (i : Int) : List Nat := (Str.ofString (toString i)).cps.toList
def strW : List W → Hx → R W
  | [.int i], h => if i.natAbs < 2 ^ 1900 ∧ (intStr i).all (· < 1114112) = true then .ok (.str (intStr i)) h else .bad
  | _, _ => .bad
theorem cs_str {K : PySem.W.Frag} : CallS K CT Wd (fun xs H Q => ∃ i : Int, xs = [.int i] ∧ i.natAbs.log2 < 1920 ∧ Q (.str (toString i)) H) strW := by
  intro ρ h H σ ws vs Q S r p
  cases r with
  | nil => exact p.elim
  | cons r1 t =>
    cases t with
    | cons _ _ => cases r1 <;> exact (show False from p).elim
    | nil =>
      cases r1 <;> try exact (show False from p).elim
      rename_i i
      obtain ⟨c, p⟩ := post_if (show Post K CT (RW K CT) Wd ρ h H σ (if i.natAbs < 2 ^ 1900 ∧ (intStr i).all (· < 1114112) = true then .ok (.str (intStr i)) h else .bad) Q from p)
      refine ⟨i, rfl, ?_, ?_⟩
      · by_cases z : i.natAbs = 0
        · rw [z]
          decide
        · exact Nat.lt_trans ((Nat.log2_lt z).mpr c.1) (by decide)
      · exact Post.here S p (rep_str _ c.2)
def boolsOf : List W → Option (List Bool)
  | [] => some []
  | .bl b :: r => (boolsOf r).map (b :: ·)
  | _ :: _ => none
theorem boolsOf_of {K : PySem.W.Frag} {ρ : Nat → Addr} {n : Nat} {H : Hp} : ∀ {ws : List W} {vs : List V} {bs : List Bool}, Reps K CT ρ n H ws vs → boolsOf ws = some bs → vs = bs.map V.bl
  | _, _, _, .nil, e => by cases e; rfl
  | w :: ws, _, bs, .cons r t, e => by
    cases r with
    | bl b =>
      have e' : (boolsOf ws).map (b :: ·) = some bs := e
      cases g : boolsOf ws with
      | none => rw [g] at e'; cases e'
      | some cs =>
        rw [g] at e'
        cases e'
        rw [boolsOf_of t g]
        rfl
    | _ => cases e
def allW : List W → Hx → R W
  | [w], h => match itemsOf h w with
    | some xs => match boolsOf xs with
      | some bs => .ok (.bl (bs.all id)) h
      | none => .bad
    | none => .bad
  | _, _ => .bad
def anyW : List W → Hx → R W
  | [w], h => match itemsOf h w with
    | some xs => match boolsOf xs with
      | some bs => .ok (.bl (bs.any id)) h
      | none => .bad
    | none => .bad
  | _, _ => .bad
theorem itemsOf_of {K : PySem.W.Frag} {ρ : Nat → Addr} {h : Hx} {H : Hp} (S : Sim K CT ρ h H) {x : W} {v : V} {xs : List W} (r : Rep K CT ρ h.n H x v) (e : itemsOf h x = some xs) : ∃ a vs, v = .ref a ∧ SqL K H a vs ∧ Reps K CT ρ h.n H xs vs := by
  cases r with
  | fls q rs => cases e; exact ⟨_, _, rfl, q.sq, rs⟩
  | @ref i hi =>
    have e' : (match h.get i with
      | some (.lst xs) => some xs
      | _ => none) = some xs := e
    split at e'
    · rename_i ys g
      cases e'
      obtain ⟨vs, q, rs⟩ := lst_get S g
      exact ⟨_, vs, rfl, .of q, rs⟩
    · cases e'
  | _ => cases e
theorem cs_all {K : PySem.W.Frag} : CallS K CT Wd (rAll K) allW := by
  intro ρ h H σ ws vs Q S r p
  cases r with
  | nil => exact p.elim
  | cons r1 t =>
    cases t with
    | cons _ _ => exact (show False from p).elim
    | nil =>
      rename_i w v
      have p' : Post K CT (RW K CT) Wd ρ h H σ (match itemsOf h w with
        | some xs => match boolsOf xs with
          | some bs => .ok (.bl (bs.all id)) h
          | none => .bad
        | none => .bad) Q := p
      cases g : itemsOf h w with
      | none => rw [g] at p'; exact p'.elim
      | some xs =>
        rw [g] at p'
        have p2 : Post K CT (RW K CT) Wd ρ h H σ (match boolsOf xs with
          | some bs => .ok (.bl (bs.all id)) h
          | none => .bad) Q := p'
        cases g2 : boolsOf xs with
        | none => rw [g2] at p2; exact p2.elim
        | some bs =>
          rw [g2] at p2
          obtain ⟨a, us, rfl, q, rs⟩ := itemsOf_of S r1 g
          rw [boolsOf_of rs g2] at q
          exact ⟨a, bs, rfl, q, Post.here S p2 (.bl _)⟩
/-- isinstance with a built-in class -/
def btOf (h : Hx) : W → Option Bt
  | .non => some .none
  | .bl _ => some .bool
  | .int _ => some .int
  | .str _ => some .str
  | .tup _ => some .tuple
  | .fls _ => some .list
  | .ref i => match h.get i with
    | some (.lst _) => some .list
    | some (.dic _ _) => some .dict
    | _ => none
  | _ => none
def isB (a b : Bt) : Bool := match a, b with
  | .bool, .int => true
  | a, b => decide (a = b)
theorem isB_kit (K : PySem.W.Frag) (a b : Bt) (hb : b ≠ .none) : PySem.W.kitOne K (.type a.name) (.type b.name) = some (isB a b) := by
  refine kit_ty ?_
  cases b <;> first | exact absurd rfl hb | (cases a <;> decide +kernel)
def isi1 (o : Option Bt) (t : Bt) (h : Hx) : R W := match o with
  | some b => if t ≠ .none then .ok (.bl (isB b t)) h else .bad
  | none => .bad
def isiW : List W → Hx → R W
  | [w, .ty t], h => isi1 (btOf h w) t h
  | _, _ => .bad
theorem btOf_of {K : PySem.W.Frag} {ρ : Nat → Addr} {h : Hx} {H : Hp} (S : Sim K CT ρ h H) {x : W} {v : V} {t : Bt} (r : Rep K CT ρ h.n H x v) (e : btOf h x = some t) : TyX K H v (.type t.name) := by
  cases r with
  | non => cases e; exact .base .non
  | bl b => cases e; exact .base (.bl b)
  | int i => cases e; exact .base (.int i)
  | str _ => cases e; exact .base (.str _)
  | tup q rs =>
    cases e
    rcases q with (q | ⟨o, q⟩) | ⟨o, its, m, k, c, _⟩
    · exact .base (.tup q)
    · exact .fTuple q
    · exact .kTuple k c
  | fls q rs =>
    cases e
    rcases q with ⟨o, q⟩ | ⟨o, its, m, k, c, _⟩
    · exact .base (.frz q)
    · exact .kList k c
  | @ref i hi =>
    have e' : (match h.get i with
      | some (.lst _) => some Bt.list
      | some (.dic _ _) => some .dict
      | _ => none) = some t := e
    split at e'
    · rename_i ys g
      cases e'
      obtain ⟨vs, q, rs⟩ := lst_get S g
      exact .base (.lst q)
    · rename_i ys g
      cases e'
      obtain ⟨od, vs, q, rs⟩ := S.ob i _ g
      rename_i lk
      cases lk with
      | false => exact .base (.dK q)
      | true => exact .fDict q
    · cases e'
  | ty _ => cases e
  | cl _ => cases e
  | exc _ _ _ => cases e
theorem cs_isi {K : PySem.W.Frag} : CallS K CT Wd (rIsi K) isiW := by
  intro ρ h H σ ws vs Q S r p
  cases r with
  | nil => exact p.elim
  | cons r1 t =>
    cases t with
    | nil => exact (show False from p).elim
    | cons r2 t =>
      cases t with
      | cons _ _ => cases r2 <;> exact (show False from p).elim
      | nil =>
        cases r2 <;> try exact (show False from p).elim
        rename_i w v t
        have p' : Post K CT (RW K CT) Wd ρ h H σ (isi1 (btOf h w) t h) Q := p
        cases g : btOf h w with
        | none => rw [g] at p'; exact p'.elim
        | some b =>
          rw [g] at p'
          obtain ⟨k1, k2⟩ := post_if (show Post K CT (RW K CT) Wd ρ h H σ (if t ≠ .none then .ok (.bl (isB b t)) h else .bad) Q from p')
          exact ⟨v, _, _, _, _, rfl, .ty _, btOf_of S r1 g, isB_kit K b t k1, Post.here S k2 (.bl _)⟩
end
end Sx

set_option linter.all false
set_option autoImplicit false
set_option maxRecDepth 100000
set_option maxHeartbeats 2000000
namespace Sx
open PySem L2

/-! ### walks -/
inductive Cur where
  | seq (ws : List W)
  | live (i j : Nat)
  | rng (i : Int) (n : Nat)
  | enm (i j : Nat)
def Cur.fuel (h : Hx) : Cur → Nat
  | .seq ws => ws.length
  | .live i _ => match h.get i with
    | some (.lst xs) => xs.length
    | _ => 0
  | .rng _ n => n
  | .enm i _ => match h.get i with
    | some (.lst xs) => xs.length
    | _ => 0
def Cur.step (h : Hx) : Cur → Option (Option (W × Cur))
  | .seq [] => some none
  | .seq (w :: r) => some (some (w, .seq r))
  | .live i j => match h.get i with
    | some (.lst xs) => some (xs[j]?.map fun w => (w, .live i (j + 1)))
    | _ => none
  | .rng _ 0 => some none
  | .rng i (n + 1) => some (some (.int i, .rng (i + 1) n))
  | .enm i j => match h.get i with
    | some (.lst xs) => some (xs[j]?.map fun w => (.tup [.int (j : Nat), w], .enm i (j + 1)))
    | _ => none
abbrev Ix := Env → Hx → R Cur
def ItS (K : PySem.W.Frag) (CT : CTx) (ρ : Nat → Addr) (h : Hx) (H : Hp) (J : It) (c : Cur) : Prop :=
  ∃ P : Nat → Cur → Prop, P 0 c ∧ ∀ j c, P j c → ∀ ρ' h' H', Nxt K CT ρ h H ρ' h' H' → match c.step h' with
    | none => True
    | some none => J.stop j H'
    | some (some (w, c')) => P (j + 1) c' ∧ J.go j H' ∧ ∀ x H'', J.yld j H' x H'' → Nxt K CT ρ' h' H' ρ' h' H'' ∧ Rep K CT ρ' h'.n H'' w x
def PostI (K : PySem.W.Frag) (CT : CTx) (Wd : WX) (ρ : Nat → Addr) (h : Hx) (H : Hp) (σ : St) (r : R Cur) (Q : It → Hp → Prop) : Prop := match r with
  | .ok c h' => ∀ ρ' H' J, Nxt K CT ρ h H ρ' h' H' → ItS K CT ρ' h' H' J c → Q J H'
  | .exc x h' => ∀ ρ' H' od, Nxt K CT ρ h H ρ' h' H' → XcR K CT ρ' h'.n H' x od → Wd (.ref (CT x.k)) od σ H'
  | .bad => False
def tI (K : PySem.W.Frag) (CT : CTx) (Wd : WX) (c : Ix) : TI := fun σ H R => ∃ ρ h es, Sim K CT ρ h H ∧ REnv K CT ρ h.n H es σ ∧ PostI K CT Wd ρ h H σ (c es h) R
abbrev SI (X : Cx) (CT : CTx) (Wd : WX) (tg e : Expr) (c : Ix) : Prop := PI X tg e (tI X.K CT Wd c)
theorem _root_.L2.PI.wk {X : Cx} {tg e : Expr} {t t' : TI} (h : PI X tg e t) (k : ∀ σ H Q, t' σ H Q → t σ H Q) : PI X tg e t' := ⟨fun pins s σ H Q I q => h.run pins s σ H Q I (k σ H Q q)⟩
theorem pi_or {X : Cx} {tg e : Expr} {t t' : TI} (h : PI X tg e t) (h' : PI X tg e t') : PI X tg e (fun σ H R => t σ H R ∨ t' σ H R) := ⟨fun pins s σ H Q I q => by
  rcases q with q | q
  · exact h.run pins s σ H Q I q
  · exact h'.run pins s σ H Q I q⟩
def sign (c : Nat) : W := .str [c]
def curOf (h : Hx) : W → Option Cur
  | .fls xs => some (.seq xs)
  | .tup xs => some (.seq xs)
  | .str z => some (.seq (z.map sign))
  | .ref i => match h.get i with
    | some (.lst _) => some (.live i 0)
    | _ => none
  | _ => none
def xIt (c : Ex) : Ix := fun es h => (c es h).bind fun w h1 => match curOf h1 w with
  | some k => .ok k h1
  | none => .bad
section
variable {K : PySem.W.Frag} {CT : CTx} {ρ : Nat → Addr} {h : Hx} {H : Hp}
theorem its_seq {J : It} {ws : List W} (st : ∀ j H', ws.length ≤ j → J.stop j H')
    (go : ∀ (j : Nat) (w : W), ws[j]? = some w → ∀ ρ' h' H', Nxt K CT ρ h H ρ' h' H' → J.go j H' ∧ ∀ x H'', J.yld j H' x H'' → H'' = H' ∧ Rep K CT ρ' h'.n H' w x)
    (st' : ∀ j H', J.stop j H' → True := fun _ _ _ => trivial) : ItS K CT ρ h H J (.seq ws) := by
  refine ⟨fun j c => c = .seq (ws.drop j), rfl, fun j c e ρ' h' H' N => ?_⟩
  subst e
  cases g : ws.drop j with
  | nil => exact st j H' (List.drop_eq_nil_iff.mp g)
  | cons w r =>
    have hj : ws[j]? = some w := by
      have : (ws.drop j)[0]? = some w := by rw [g]; rfl
      rwa [List.getElem?_drop, Nat.add_zero] at this
    refine ⟨?_, (go j w hj ρ' h' H' N).1, fun x H'' y => ?_⟩
    · show Cur.seq r = .seq (ws.drop (j + 1))
      rw [← List.drop_drop, g]
      rfl
    · obtain ⟨e, r⟩ := (go j w hj ρ' h' H' N).2 x H'' y
      subst e
      exact ⟨Nxt.refl N.sim, r⟩
theorem its_list {a : Addr} {ws : List W} {vs : List V} (S : Sim K CT ρ h H) (q : SqF K H a vs) (rs : Reps K CT ρ h.n H ws vs) : ItS K CT ρ h H (Itl K a) (.seq ws) := by
  have q' : ∀ ρ' h' H', Nxt K CT ρ h H ρ' h' H' → SqL K H' a vs := fun ρ' h' H' N => ((Kp.of S N.toFw).f _ _ q).sq
  refine ⟨fun j c => c = .seq (ws.drop j), rfl, fun j c e ρ' h' H' N => ?_⟩
  subst e
  cases g : ws.drop j with
  | nil => exact ⟨vs, q' ρ' h' H' N, by rw [← rs.length]; exact List.drop_eq_nil_iff.mp g⟩
  | cons w r =>
    have hj : ws[j]? = some w := by
      have : (ws.drop j)[0]? = some w := by rw [g]; rfl
      rwa [List.getElem?_drop, Nat.add_zero] at this
    obtain ⟨v, ev, rv⟩ := rs.get hj
    refine ⟨?_, ⟨vs, v, q' ρ' h' H' N, ev⟩, fun x H'' y => ?_⟩
    · show Cur.seq r = .seq (ws.drop (j + 1))
      rw [← List.drop_drop, g]
      rfl
    · obtain ⟨e, k⟩ := y
      subst e
      have := k vs (q' ρ' h' _ N)
      rw [ev] at this
      cases this
      exact ⟨Nxt.refl N.sim, Rep.keep S N.toFw _ _ rv⟩
theorem its_tup {a : Addr} {ws : List W} {vs : List V} (S : Sim K CT ρ h H) (q : SqT K H a vs) (rs : Reps K CT ρ h.n H ws vs) : ItS K CT ρ h H (Itt K a) (.seq ws) := by
  have q' : ∀ ρ' h' H', Nxt K CT ρ h H ρ' h' H' → SqT K H' a vs := fun ρ' h' H' N => (Kp.of S N.toFw).t _ _ q
  refine ⟨fun j c => c = .seq (ws.drop j), rfl, fun j c e ρ' h' H' N => ?_⟩
  subst e
  cases g : ws.drop j with
  | nil => exact ⟨vs, q' ρ' h' H' N, by rw [← rs.length]; exact List.drop_eq_nil_iff.mp g⟩
  | cons w r =>
    have hj : ws[j]? = some w := by
      have : (ws.drop j)[0]? = some w := by rw [g]; rfl
      rwa [List.getElem?_drop, Nat.add_zero] at this
    obtain ⟨v, ev, rv⟩ := rs.get hj
    refine ⟨?_, ⟨vs, v, q' ρ' h' H' N, ev⟩, fun x H'' y => ?_⟩
    · show Cur.seq r = .seq (ws.drop (j + 1))
      rw [← List.drop_drop, g]
      rfl
    · obtain ⟨e, k⟩ := y
      subst e
      have := k vs (q' ρ' h' _ N)
      rw [ev] at this
      cases this
      exact ⟨Nxt.refl N.sim, Rep.keep S N.toFw _ _ rv⟩
theorem its_live {i : Nat} (hi : i < h.n) : ItS K CT ρ h H (Itl K (ρ i)) (.live i 0) := by
  refine ⟨fun j c => c = .live i j, rfl, fun j c e ρ' h' H' N => ?_⟩
  subst e
  show match (match h'.get i with
    | some (.lst xs) => some (xs[j]?.map fun w => (w, Cur.live i (j + 1)))
    | _ => none) with
    | none => True
    | some none => _
    | some (some (w, c')) => _
  cases g : h'.get i with
  | none => exact trivial
  | some o =>
    cases o with
    | dic _ _ => exact trivial
    | ins _ _ => exact trivial
    | dicN _ _ => exact trivial
    | lst xs =>
      obtain ⟨vs, q, rs⟩ := lst_get N.sim g
      rw [N.ext i hi] at q
      show match some (xs[j]?.map fun w => (w, Cur.live i (j + 1))) with
        | none => True
        | some none => _
        | some (some (w, c')) => _
      cases g2 : xs[j]? with
      | none => exact ⟨vs, .of q, by rw [← rs.length]; exact List.getElem?_eq_none_iff.mp g2⟩
      | some w =>
        obtain ⟨v, ev, rv⟩ := rs.get g2
        refine ⟨rfl, ⟨vs, v, .of q, ev⟩, fun x H'' y => ?_⟩
        obtain ⟨e, k⟩ := y
        subst e
        have := k vs (.of q)
        rw [ev] at this
        cases this
        exact ⟨Nxt.refl N.sim, rv⟩
theorem its_str {z : List Nat} (hz : z.all (· < 1114112) = true) : ItS K CT ρ h H (Its ⟨z.toArray⟩) (.seq (z.map sign)) := by
  refine its_seq (fun j H' hj => ?_) fun j w hj ρ' h' H' N => ⟨?_, fun x H'' y => ?_⟩
  · show z.toArray.size ≤ j
    rw [List.length_map] at hj
    rw [List.size_toArray]
    exact hj
  · show j < z.toArray.size
    have := (List.getElem?_eq_some_iff.mp hj).1
    rw [List.length_map] at this
    rw [List.size_toArray]
    exact this
  · obtain ⟨e, c, ec, ex⟩ := y
    subst e
    subst ex
    have ec' : z[j]? = some c := by simpa using ec
    rw [List.getElem?_map, ec'] at hj
    have hw : sign c = w := Option.some.inj hj
    subst hw
    have k : Rep K CT ρ' h'.n H'' (.str [c]) (.str ⟨[c].toArray⟩) := .str (by
      rw [List.all_cons, List.all_eq_true.mp hz c (List.mem_of_getElem? ec')]
      rfl)
    exact ⟨rfl, k⟩
theorem its_rng (lo : Int) (n : Nat) : ItS K CT ρ h H (Itr lo n) (.rng lo n) := by
  refine ⟨fun j c => c = .rng (lo + j) (n - j) , by simp, fun j c e ρ' h' H' N => ?_⟩
  subst e
  cases g : n - j with
  | zero => exact (show n ≤ j by omega)
  | succ m =>
    refine ⟨?_, (show j < n by omega), fun x H'' y => ?_⟩
    · show Cur.rng (lo + (j : Int) + 1) m = .rng (lo + ((j + 1 : Nat) : Int)) (n - (j + 1))
      rw [show n - (j + 1) = m by omega, show lo + (j : Int) + 1 = lo + ((j + 1 : Nat) : Int) by omega]
    · obtain ⟨e, ex⟩ := y
      subst e
      subst ex
      exact ⟨Nxt.refl N.sim, .int _⟩
end
section
variable {X : Cx} {CT : CTx} {Wd : WX} {a b c e tg : Expr} {ca cb cc : Ex} {ta tb : Tx} {pos p : Pos}
theorem si_any (he : SE X CT Wd e ca) : SI X CT Wd tg e (xIt ca) := (pi_or (pi_list he) (pi_or (pi_tup he) (pi_str he))).wk fun σ H R ⟨ρ, h, es, S, E, q⟩ => by
  have q' : PostI X.K CT Wd ρ h H σ ((ca es h).bind fun w h1 => match curOf h1 w with
    | some k => .ok k h1
    | none => .bad) R := q
  cases g : ca es h with
  | bad => rw [g] at q'; exact q'.elim
  | exc x h1 =>
    rw [g] at q'
    refine .inl ⟨ρ, h, es, S, E, ?_⟩
    rw [g]
    exact q'
  | ok w h1 =>
    rw [g] at q'
    have q2 : PostI X.K CT Wd ρ h H σ (match curOf h1 w with
      | some k => .ok k h1
      | none => .bad) R := q'
    cases g2 : curOf h1 w with
    | none => rw [g2] at q2; exact q2.elim
    | some k =>
      rw [g2] at q2
      have q3 : ∀ ρ' H' J, Nxt X.K CT ρ h H ρ' h1 H' → ItS X.K CT ρ' h1 H' J k → R J H' := q2
      cases w with
      | fls xs =>
        cases g2
        refine .inl ⟨ρ, h, es, S, E, ?_⟩
        rw [g]
        intro ρ' H' v N r
        cases r with
        | fls q rs => exact ⟨_, rfl, ⟨_, q.sq⟩, q3 ρ' H' _ N (its_list N.sim q rs)⟩
      | tup xs =>
        cases g2
        refine .inr (.inl ⟨ρ, h, es, S, E, ?_⟩)
        rw [g]
        intro ρ' H' v N r
        cases r with
        | tup q rs => exact ⟨_, rfl, ⟨_, q⟩, q3 ρ' H' _ N (its_tup N.sim q rs)⟩
      | str z =>
        cases g2
        refine .inr (.inr ⟨ρ, h, es, S, E, ?_⟩)
        rw [g]
        intro ρ' H' v N r
        cases r with
        | str hz => exact ⟨_, rfl, q3 ρ' H' _ N (its_str hz)⟩
      | ref i =>
        have g3 : (match h1.get i with
          | some (.lst _) => some (Cur.live i 0)
          | _ => none) = some k := g2
        split at g3
        · rename_i xs gi
          cases g3
          refine .inl ⟨ρ, h, es, S, E, ?_⟩
          rw [g]
          intro ρ' H' v N r
          cases r with
          | ref hi =>
            obtain ⟨vs, q, rs⟩ := lst_get N.sim gi
            exact ⟨_, rfl, ⟨_, .of q⟩, q3 ρ' H' _ N (its_live hi)⟩
        · cases g3
      | non => cases g2
      | bl _ => cases g2
      | int _ => cases g2
      | ty _ => cases g2
      | cl _ => cases g2
      | exc _ _ _ => cases g2
def rng1W : List W → Hx → R Cur
  | [.int j], h => if -1000000 ≤ j ∧ j ≤ 1000000 then .ok (.rng 0 j.toNat) h else .bad
  | _, _ => .bad
def rng2W : List W → Hx → R Cur
  | [.int i, .int j], h => if -1000000 ≤ i ∧ i ≤ 1000000 ∧ -1000000 ≤ j ∧ j ≤ 1000000 then .ok (.rng i (j - i).toNat) h else .bad
  | _, _ => .bad
def xRng1 (a : Ax) : Ix := fun es h => (a es h).bind fun ws h1 => rng1W ws h1
def xRng2 (a : Ax) : Ix := fun es h => (a es h).bind fun ws h1 => rng2W ws h1
theorem si_range1 {ar : Ax} (hg : Gl X "range") (hm : X.mg "range" = none) (ha : SA X CT Wd [a] ar) (hs : starEach [a] X.env = [(false, eval a X.env)] := by rfl) : SI X CT Wd tg (.Call (.Name "range" p) [a] [] pos) (xRng1 ar) :=
  (pi_range1 hg hm ha hs).wk fun σ H R ⟨ρ, h, es, S, E, q⟩ => by
    refine ⟨ρ, h, es, S, E, ?_⟩
    have q' : PostI X.K CT Wd ρ h H σ ((ar es h).bind fun ws h1 => rng1W ws h1) R := q
    cases g : ar es h with
    | bad => rw [g] at q'; exact q'.elim
    | exc x h1 => rw [g] at q'; exact q'
    | ok ws h1 =>
      rw [g] at q'
      intro ρ' H' vs N r
      have q2 : PostI X.K CT Wd ρ h H σ (rng1W ws h1) R := q'
      cases r with
      | nil => exact (show False from q2).elim
      | cons r1 t =>
        cases t with
        | cons _ _ => cases r1 <;> exact (show False from q2).elim
        | nil =>
          cases r1 <;> try exact (show False from q2).elim
          rename_i j
          have q3 : PostI X.K CT Wd ρ h H σ (if -1000000 ≤ j ∧ j ≤ 1000000 then .ok (.rng 0 j.toNat) h1 else .bad) R := q2
          by_cases c : -1000000 ≤ j ∧ j ≤ 1000000
          · rw [if_pos c] at q3
            exact ⟨j, rfl, by omega, by omega, q3 ρ' H' _ N (its_rng 0 _)⟩
          · rw [if_neg c] at q3
            exact q3.elim
theorem si_range2 {ar : Ax} (hg : Gl X "range") (hm : X.mg "range" = none) (ha : SA X CT Wd [a, b] ar) (hs : starEach [a, b] X.env = [(false, eval a X.env), (false, eval b X.env)] := by rfl) (hs2 : starEach [b] X.env = [(false, eval b X.env)] := by rfl) :
    SI X CT Wd tg (.Call (.Name "range" p) [a, b] [] pos) (xRng2 ar) :=
  (pi_range2 hg hm ha hs hs2).wk fun σ H R ⟨ρ, h, es, S, E, q⟩ => by
    refine ⟨ρ, h, es, S, E, ?_⟩
    have q' : PostI X.K CT Wd ρ h H σ ((ar es h).bind fun ws h1 => rng2W ws h1) R := q
    cases g : ar es h with
    | bad => rw [g] at q'; exact q'.elim
    | exc x h1 => rw [g] at q'; exact q'
    | ok ws h1 =>
      rw [g] at q'
      intro ρ' H' vs N r
      have q2 : PostI X.K CT Wd ρ h H σ (rng2W ws h1) R := q'
      cases r with
      | nil => exact (show False from q2).elim
      | cons r1 t =>
        cases t with
        | nil => cases r1 <;> exact (show False from q2).elim
        | cons r2 t =>
          cases t with
          | cons _ _ => cases r1 <;> cases r2 <;> exact (show False from q2).elim
          | nil =>
            cases r1 <;> cases r2 <;> try exact (show False from q2).elim
            rename_i i j
            have q3 : PostI X.K CT Wd ρ h H σ (if -1000000 ≤ i ∧ i ≤ 1000000 ∧ -1000000 ≤ j ∧ j ≤ 1000000 then .ok (.rng i (j - i).toNat) h1 else .bad) R := q2
            by_cases c : -1000000 ≤ i ∧ i ≤ 1000000 ∧ -1000000 ≤ j ∧ j ≤ 1000000
            · rw [if_pos c] at q3
              exact ⟨i, j, rfl, by omega, q3 ρ' H' _ N (its_rng i _)⟩
            · rw [if_neg c] at q3
              exact q3.elim

/-! ### targets -/
abbrev Gx := W → Env → Hx → R Env
/-- unlike at these places alone -/
def Off (vs : List Nat) (σ σ' : St) : Prop := σ'.length = σ.length ∧ ∀ j, j ∉ vs → σ'[j]? = σ[j]?
def PostG (K : PySem.W.Frag) (CT : CTx) (Wd : WX) (ρ : Nat → Addr) (h : Hx) (H : Hp) (vs : List Nat) (σ : St) (r : R Env) (Q : St → Hp → Prop) : Prop := match r with
  | .ok es h' => ∀ ρ' H' σ', Nxt K CT ρ h H ρ' h' H' → REnv K CT ρ' h'.n H' es σ' → Off vs σ σ' → Q σ' H'
  | .exc x h' => ∀ ρ' H' od, Nxt K CT ρ h H ρ' h' H' → XcR K CT ρ' h'.n H' x od → Wd (.ref (CT x.k)) od σ H'
  | .bad => False
def tG (K : PySem.W.Frag) (CT : CTx) (Wd : WX) (vs : List Nat) (g : Gx) : TG := fun v σ H Q => ∃ ρ h es w, Sim K CT ρ h H ∧ REnv K CT ρ h.n H es σ ∧ Rep K CT ρ h.n H w v ∧ PostG K CT Wd ρ h H vs σ (g w es h) Q
abbrev SG (X : Cx) (CT : CTx) (Wd : WX) (vs : List Nat) (t : Expr) (g : Gx) : Prop := PG X t (tG X.K CT Wd vs g)
theorem _root_.L2.PG.wk {X : Cx} {tg : Expr} {t t' : TG} (h : PG X tg t) (k : ∀ v σ H Q, t' v σ H Q → t v σ H Q) : PG X tg t' := ⟨fun pins s σ H v u Q I r q => h.run pins s σ H v u Q I r (k v σ H Q q)⟩
def gxName (i : Nat) : Gx := fun w es h => .ok (es.set i (some w)) h
theorem off_set (i : Nat) (σ : St) (o : Option V) : Off [i] σ (σ.set i o) := ⟨List.length_set, fun j hj => by
  rw [List.getElem?_set_ne]
  intro e
  exact hj (by rw [e]; exact List.mem_cons_self)⟩
theorem sg_name {i : Nat} {x : Str} (q : PG X (.Name x p) (gName i)) : SG X CT Wd [i] (.Name x p) (gxName i) := q.wk fun v σ H Q ⟨ρ, h, es, w, S, E, r, q⟩ =>
  q ρ H _ (Nxt.refl S) (E.set r i) (off_set i σ _)
/-- several names -/
def setAll : List Nat → List W → Env → Env
  | i :: is, w :: ws, es => setAll is ws (es.set i (some w))
  | _, _, es => es
def gxTup (is : List Nat) : Gx := fun w es h => match w with
  | .tup ws => if ws.length = is.length then .ok (setAll is ws es) h else .bad
  | _ => .bad
def setAllV : List Nat → List V → St → St
  | i :: is, v :: vs, σ => setAllV is vs (σ.set i (some v))
  | _, _, σ => σ
theorem setAll_env {K : PySem.W.Frag} {ρ : Nat → Addr} {n : Nat} {H : Hp} : ∀ (is : List Nat) {ws : List W} {vs : List V} {es : Env} {σ : St}, Reps K CT ρ n H ws vs → REnv K CT ρ n H es σ → REnv K CT ρ n H (setAll is ws es) (setAllV is vs σ)
  | [], _, _, _, _, _, E => by cases ‹Reps _ _ _ _ _ _ _› <;> exact E
  | i :: is, _, _, _, _, .nil, E => E
  | i :: is, _, _, _, _, .cons r t, E => setAll_env is t (E.set r i)
theorem setAll_off : ∀ (is : List Nat) (vs : List V) (σ : St), Off is σ (setAllV is vs σ)
  | [], vs, σ => ⟨by cases vs <;> rfl, fun j _ => by cases vs <;> rfl⟩
  | i :: is, [], σ => ⟨rfl, fun j _ => rfl⟩
  | i :: is, v :: vs, σ => by
    obtain ⟨l, k⟩ := setAll_off is vs (σ.set i (some v))
    refine ⟨l.trans List.length_set, fun j hj => ?_⟩
    rw [List.mem_cons, not_or] at hj
    exact (k j hj.2).trans (List.getElem?_set_ne (fun e => hj.1 e.symm))
/-- names in a row as targets -/
inductive PNs (X : Cx) : List Expr → List Nat → Prop
  | nil : PNs X [] []
  | cons {x : Str} {px : Pos} {i : Nat} {ts : List Expr} {is : List Nat} : PG X (.Name x px) (gName i) → PNs X ts is → PNs X (.Name x px :: ts) (i :: is)
def gsAll : List Nat → TGs
  | [] => gNil
  | i :: is => gCons (gName i) (gsAll is)
theorem pns_gs : ∀ {ts : List Expr} {is : List Nat}, PNs X ts is → PGs X ts (gsAll is)
  | _, _, .nil => pgs_nil
  | _, _, .cons h t => pgs_cons h (pns_gs t)
theorem gsAll_of : ∀ (is : List Nat) (vs : List V) (σ : St) (H : Hp) (Q : St → Hp → Prop), vs.length = is.length → Q (setAllV is vs σ) H → gsAll is vs σ H Q
  | [], [], _, _, _, _, q => ⟨rfl, q⟩
  | i :: is, v :: vs, σ, H, Q, e, q => ⟨v, vs, rfl, gsAll_of is vs (σ.set i (some v)) H Q (Nat.succ.inj e) q⟩
theorem sg_tup {ts : List Expr} {is : List Nat} {kt : Nat} (hc : X.calm = true) (q : PNs X ts is) (hn : (assignEach ts X.env).length = is.length := by rfl) (hst : (assignEach ts X.env).findIdx? (·.1) = none := by rfl) : SG X CT Wd is (.Tuple ts kt p) (gxTup is) :=
  (pg_tup hc (pns_gs q) hn hst).wk fun v σ H Q ⟨ρ, h, es, w, S, E, r, q⟩ => by
    cases r with
    | @tup a ws vs sq rs =>
      have q' : PostG X.K CT Wd ρ h H is σ (if ws.length = is.length then .ok (setAll is ws es) h else .bad) Q := q
      by_cases c : ws.length = is.length
      · rw [if_pos c] at q'
        have e : vs.length = is.length := by rw [← rs.length]; exact c
        exact ⟨a, vs, rfl, sq, e, gsAll_of is vs σ H Q e (q' ρ H _ (Nxt.refl S) (setAll_env is rs E) (setAll_off is vs σ))⟩
      · rw [if_neg c] at q'
        exact q'.elim
    | _ => exact (show False from q).elim
end
end Sx

set_option linter.all false
set_option autoImplicit false
set_option maxRecDepth 100000
set_option maxHeartbeats 2000000
namespace Sx
open PySem L2

/-! ### list comprehensions -/
def noexc {α : Type} (r : R α) : R α := match r with
  | .exc _ _ => .bad
  | r => r
abbrev W0 : WX := fun _ _ _ _ => False
theorem Post.nox {α β : Type} {K : PySem.W.Frag} {CT : CTx} {RR : (Nat → Addr) → Nat → Hp → α → β → Prop} {Wd Wd' : WX} {ρ : Nat → Addr} {h : Hx} {H : Hp} {σ σ' : St} {r : R α} {Q : β → Hp → Prop} (p : Post K CT RR Wd ρ h H σ (noexc r) Q) : Post K CT RR Wd' ρ h H σ' r Q := by
  cases r with
  | ok w h1 => exact p
  | exc x h1 => exact p.elim
  | bad => exact p.elim
theorem PostG.nox {K : PySem.W.Frag} {CT : CTx} {Wd Wd' : WX} {ρ : Nat → Addr} {h : Hx} {H : Hp} {vs : List Nat} {σ : St} {r : R Env} {Q : St → Hp → Prop} (p : PostG K CT Wd ρ h H vs σ (noexc r) Q) : PostG K CT Wd' ρ h H vs σ r Q := by
  cases r with
  | ok w h1 => exact p
  | exc x h1 => exact p.elim
  | bad => exact p.elim
def wipeE (es : Env) : List Nat → Env
  | [] => es
  | v :: vs => (wipeE es vs).set v none
theorem wipe_env {K : PySem.W.Frag} {CT : CTx} {ρ : Nat → Addr} {n : Nat} {H : Hp} {es : Env} {σ : St} (E : REnv K CT ρ n H es σ) : ∀ vs : List Nat, REnv K CT ρ n H (wipeE es vs) (wipe σ vs)
  | [] => E
  | v :: vs => by
    have E1 := wipe_env E vs
    refine ⟨by unfold wipeE wipe; rw [List.length_set, List.length_set]; exact E1.len, fun i w e => ?_⟩
    unfold wipeE at e
    unfold wipe
    rw [List.getElem?_set] at e ⊢
    by_cases iv : v = i
    · subst iv
      rw [if_pos rfl] at e
      split at e <;> cases e
    · rw [if_neg iv] at e ⊢
      exact E1.at_ i w e
theorem wipe_at (σ : St) : ∀ (vs : List Nat) (j : Nat), (wipe σ vs)[j]? = if j ∈ vs then (if j < σ.length then some none else none) else σ[j]?
  | [], j => by simp [wipe]
  | v :: vs, j => by
    unfold wipe
    rw [List.getElem?_set, wipe_at σ vs j, wipe_length]
    by_cases iv : v = j
    · subst iv
      rw [if_pos rfl, if_pos List.mem_cons_self]
    · rw [if_neg iv]
      by_cases hj : j ∈ vs
      · rw [if_pos hj, if_pos (List.mem_cons_of_mem _ hj)]
      · rw [if_neg hj, if_neg (by rw [List.mem_cons, not_or]; exact ⟨fun e => iv e.symm, hj⟩)]
theorem wipe_off {vs us : List Nat} {σ σ' : St} (sub : ∀ i ∈ us, i ∈ vs) (o : Off us (wipe σ vs) σ') : wipe σ' vs = wipe σ vs := by
  obtain ⟨l, k⟩ := o
  rw [wipe_length] at l
  refine List.ext_getElem? fun j => ?_
  rw [wipe_at, wipe_at, l]
  by_cases hj : j ∈ vs
  · rw [if_pos hj, if_pos hj]
  · rw [if_neg hj, if_neg hj, k j fun z => hj (sub j z), wipe_at, if_neg hj]
/-- the loop of a comprehension -/
def lcLoop (g : Gx) (t : Tx) (e : Ex) (es : Env) : Nat → Cur → List W → Hx → R W
  | 0, _, _, _ => .bad
  | m + 1, c, acc, h => match c.step h with
    | none => .bad
    | some none => if acc.length ≤ lim then .ok (.ref h.n) (h.new (.lst acc.reverse)) else .bad
    | some (some (w, c')) => (noexc (g w es h)).bind fun es2 h2 => (noexc (t es2 h2)).bind fun k h3 =>
      if k then (noexc (e es2 h3)).bind fun y h4 => if acc.length ≤ lim then lcLoop g t e es m c' (y :: acc) h4 else .bad else lcLoop g t e es m c' acc h3
def xLc (it : Ix) (g : Gx) (t : Tx) (e : Ex) (vs : List Nat) : Ex := fun es h => (it es h).bind fun c h1 => lcLoop g t e (wipeE es vs) (c.fuel h1 + 1) c [] h1
def xYesT : Tx := fun _ h => .ok true h
/-- D, a list that a comprehension fills, becomes ours -/
theorem Nxt.adopt {K : PySem.W.Frag} {CT : CTx} {ρ1 ρ : Nat → Addr} {h1 h : Hx} {H1 H : Hp} {D : Addr} {ws : List W} {vs : List V} (N : Nxt K CT ρ1 h1 H1 ρ h H) (h0 : H1 D = none) (e : H D = some (.lst vs)) (nD : ∀ k, k < h.n → ρ k ≠ D) (rs : Reps K CT ρ h.n H ws vs) :
    Nxt K CT ρ1 h1 H1 (ρnew ρ h.n D) (h.new (.lst ws)) H := by
  have at_n : ρnew ρ h.n D h.n = D := if_pos rfl
  have at_i : ∀ i, i < h.n → ρnew ρ h.n D i = ρ i := fun i hi => if_neg (Nat.ne_of_lt hi)
  have kp : Kp K ρ h.n H (ρnew ρ h.n D) (h.n + 1) H := ⟨fun _ _ q => q, fun _ _ q => q, at_i, Nat.le_succ _, fun _ _ _ q => q, fun _ _ q => q⟩
  have S := N.sim
  refine ⟨⟨Nat.le_succ_of_le N.le, fun i hi => (at_i i (Nat.lt_of_lt_of_le hi N.le)).trans (N.ext i hi), N.frm, fun i a b => ?_, N.tbl, N.frz⟩, ?_, ?_, ?_, ?_, N.sim.tab⟩
  · have b' : i < h.n + 1 := b
    by_cases ei : i = h.n
    · rw [ei, at_n]
      exact h0
    · rw [at_i i (by omega)]
      exact N.new i a (by omega)
  · intro i j hi hj q
    have hi' : i < h.n + 1 := hi
    have hj' : j < h.n + 1 := hj
    by_cases ei : i = h.n
    · by_cases ej : j = h.n
      · omega
      · rw [ei, at_n, at_i j (by omega)] at q
        exact absurd q.symm (nD j (by omega))
    · by_cases ej : j = h.n
      · rw [ej, at_n, at_i i (by omega)] at q
        exact absurd q (nD i (by omega))
      · rw [at_i i (by omega), at_i j (by omega)] at q
        exact S.inj i j (by omega) (by omega) q
  · intro i hi
    have hi' : i < h.n + 1 := hi
    rw [Hx.get_new]
    by_cases ei : i = h.n
    · exact ⟨_, if_pos ei⟩
    · rw [if_neg ei]
      exact S.dom i (by omega)
  · intro i u q
    rw [Hx.get_new] at q
    show i < h.n + 1
    by_cases ei : i = h.n
    · omega
    · rw [if_neg ei] at q
      exact Nat.lt_succ_of_lt (S.lt i u q)
  · intro i u q
    rw [Hx.get_new] at q
    by_cases ei : i = h.n
    · rw [if_pos ei] at q
      cases q
      rw [ei, at_n]
      exact ⟨vs, e, Reps.kp kp _ _ rs⟩
    · rw [if_neg ei] at q
      rw [at_i i (S.lt i u q)]
      exact (S.ob i u q).kp kp rfl
/-- D grows -/
theorem Nxt.grown {K : PySem.W.Frag} {CT : CTx} {ρ1 ρ : Nat → Addr} {h1 h : Hx} {H1 H : Hp} {D : Addr} {vs : List V} {u : HO} (N : Nxt K CT ρ1 h1 H1 ρ h H) (h0 : H1 D = none) (e : H D = some (.lst vs)) (nD : ∀ k, k < h.n → ρ k ≠ D) : Nxt K CT ρ1 h1 H1 ρ h (upd H D u) := by
  have kp : Kp K ρ h.n H ρ h.n (upd H D u) := Kp.upd e (fun _ z => nomatch z) (fun _ _ z => nomatch z) (fun _ _ z => by unfold exv at z; cases z) (fun _ z => nomatch z)
  refine ⟨⟨N.le, N.ext, fun a o q t z => ?_, N.new, fun a ps q => ?_, fun a od u q => by rw [upd_ne (ne_of_none q h0)]; exact N.frz a od u q⟩, N.sim.inj, N.sim.dom, N.sim.lt, fun i o q => (N.sim.ob i o q).kp kp ?_, fun p hp => ?_⟩
  · rw [upd_ne (ne_of_none q h0)]
    exact N.frm a o q t z
  · rw [upd_ne (ne_of_none q h0)]
    exact N.tbl a ps q
  · rw [upd_ne (nD i (N.sim.lt i o q))]
  · obtain ⟨ps, e1, e2, e3⟩ := N.sim.tab p hp
    refine ⟨ps, ?_, e2, fun pos cv hc => ?_⟩
    · rw [upd_ne (fun z => by rw [z, e] at e1; cases e1)]
      exact e1
    · obtain ⟨c, z1, z2⟩ := e3 pos cv hc
      refine ⟨c, z1, ?_⟩
      rw [upd_ne (fun z => by rw [z, e] at z2; unfold LamX.CodeO at z2; cases z2)]
      exact z2
theorem Nxt.off {K : PySem.W.Frag} {CT : CTx} {ρ ρ' : Nat → Addr} {h h' : Hx} {H H' : Hp} {D : Addr} {u : HO} (N : Nxt K CT ρ h H ρ' h' H') (e : H D = some u) (nD : ∀ k, k < h.n → ρ k ≠ D) (nt : ∀ ps, u ≠ .tbl ps := by intro _ z; cases z) : H' D = some u ∧ ∀ k, k < h'.n → ρ' k ≠ D := by
  refine ⟨N.frm D u e nt nD, fun k hk q => ?_⟩
  by_cases hl : k < h.n
  · rw [N.ext k hl] at q
    exact nD k hl q
  · have := N.new k (Nat.le_of_not_lt hl) hk
    rw [q, e] at this
    cases this
section
variable {K : PySem.W.Frag} {CT : CTx} {ρ1 : Nat → Addr} {Wd : WX} {h1 : Hx} {H1 : Hp} {σ : St}
/-- the reading of a comprehension's walk, by the plain loop -/
theorem lc_walk {J : It} {c0 : Cur} {g : Gx} {t : Tx} {e : Ex} {es : Env} {vs us : List Nat} {Q : VK} {m0 : Nat} (sub : ∀ i ∈ us, i ∈ vs) (S1 : Sim K CT ρ1 h1 H1) (E1 : REnv K CT ρ1 h1.n H1 es (wipe σ vs)) (I : ItS K CT ρ1 h1 H1 J c0)
    (p : Post K CT (RW K CT) Wd ρ1 h1 H1 σ (lcLoop g t e es m0 c0 [] h1) Q) {D : Addr} (hD : H1 D = none) :
    ∃ W : Nat → Nat → Hp → Prop, (∃ m, W 0 m (upd H1 D (.lst []))) ∧ ∀ i m H, W i m H →
      (J.stop i H ∧ Q (.ref D) H) ∨ (J.go i H ∧ ∃ Nx : Hp → Prop, (∀ H', Nx H' → ∃ m', m' < m ∧ W (i + 1) m' H') ∧ ∀ x H', J.yld i H x H' → tG K CT W0 us g x (wipe σ vs) H' fun σ2 H2 => wipe σ2 vs = wipe σ vs ∧ tT K CT W0 t σ2 H2 fun b H3 =>
        if b = true then tE K CT W0 e σ2 H3 fun y H4 => ∃ acc, H4 D = some (.lst acc) ∧ acc.length < sizeLine ∧ Nx (upd H4 D (.lst (acc ++ [y]))) else Nx H3) := by
  obtain ⟨P, P0, PS⟩ := I
  refine ⟨fun i m H => ∃ ρ h c acc va, P i c ∧ Nxt K CT ρ1 h1 H1 ρ h H ∧ H D = some (.lst va) ∧ (∀ k, k < h.n → ρ k ≠ D) ∧ Reps K CT ρ h.n H acc.reverse va ∧ Post K CT (RW K CT) Wd ρ1 h1 H1 σ (lcLoop g t e es m c acc h) Q, ⟨m0, ρ1, h1, c0, [], [], P0, Nxt.aside S1 hD, upd_same, ?_, .nil, p⟩, ?_⟩
  · intro k hk q
    obtain ⟨u, eu, _⟩ := S1.some hk
    rw [q, hD] at eu
    cases eu
  · rintro i m H ⟨ρ, h, c, acc, va, Pc, N, eD, nD, rs, p⟩
    cases m with
    | zero => exact p.elim
    | succ m =>
      have st := PS i c Pc ρ h H N
      have p' : Post K CT (RW K CT) Wd ρ1 h1 H1 σ (match c.step h with
        | none => .bad
        | some none => if acc.length ≤ lim then .ok (.ref h.n) (h.new (.lst acc.reverse)) else .bad
        | some (some (w, c')) => (noexc (g w es h)).bind fun es2 h2 => (noexc (t es2 h2)).bind fun k h3 =>
          if k then (noexc (e es2 h3)).bind fun y h4 => if acc.length ≤ lim then lcLoop g t e es m c' (y :: acc) h4 else .bad else lcLoop g t e es m c' acc h3) Q := p
      cases gs : c.step h with
      | none => rw [gs] at p'; exact p'.elim
      | some o =>
        rw [gs] at p' st
        cases o with
        | none =>
          refine .inl ⟨st, ?_⟩
          obtain ⟨cl, p2⟩ := post_if (show Post K CT (RW K CT) Wd ρ1 h1 H1 σ (if acc.length ≤ lim then .ok (.ref h.n) (h.new (.lst acc.reverse)) else .bad) Q from p')
          have q : Rep K CT (ρnew ρ h.n D) (h.n + 1) H (.ref h.n) (.ref (ρnew ρ h.n D h.n)) := .ref (Nat.lt_succ_self _)
          have e : ρnew ρ h.n D h.n = D := if_pos rfl
          rw [e] at q
          exact p2 _ _ _ (N.adopt hD eD nD rs) q
        | some wc =>
          obtain ⟨w, c'⟩ := wc
          obtain ⟨P1, go, yl⟩ := st
          refine .inr ⟨go, fun H' => ∃ ρ h c acc va, P (i + 1) c ∧ Nxt K CT ρ1 h1 H1 ρ h H' ∧ H' D = some (.lst va) ∧ (∀ k, k < h.n → ρ k ≠ D) ∧ Reps K CT ρ h.n H' acc.reverse va ∧ Post K CT (RW K CT) Wd ρ1 h1 H1 σ (lcLoop g t e es m c acc h) Q, fun H' q => ⟨m, Nat.lt_succ_self m, q⟩, fun x Hy hy => ?_⟩
          obtain ⟨Ny, rw_⟩ := yl x Hy hy
          obtain ⟨eDy, nDy⟩ := Ny.off eD nD
          have Nb := N.trans S1 Ny
          have p2 : Post K CT (RW K CT) Wd ρ1 h1 H1 σ ((noexc (g w es h)).bind fun es2 h2 => (noexc (t es2 h2)).bind fun k h3 =>
            if k then (noexc (e es2 h3)).bind fun y h4 => if acc.length ≤ lim then lcLoop g t e es m c' (y :: acc) h4 else .bad else lcLoop g t e es m c' acc h3) Q := p'
          refine ⟨ρ, h, es, w, Nb.sim, E1.keep S1 Nb.toFw, rw_, ?_⟩
          cases gg : g w es h with
          | bad => rw [gg] at p2; exact p2.elim
          | exc x h2 => rw [gg] at p2; exact p2.elim
          | ok es2 h2 =>
            rw [gg] at p2
            intro ρ2 H2 σ2 N2 E2 of2
            obtain ⟨eD2, nD2⟩ := N2.off eDy nDy
            have Nb2 := Nb.trans S1 N2
            refine ⟨wipe_off sub of2, ρ2, h2, es2, N2.sim, E2, ?_⟩
            have p3 : Post K CT (RW K CT) Wd ρ1 h1 H1 σ ((noexc (t es2 h2)).bind fun k h3 =>
              if k then (noexc (e es2 h3)).bind fun y h4 => if acc.length ≤ lim then lcLoop g t e es m c' (y :: acc) h4 else .bad else lcLoop g t e es m c' acc h3) Q := p2
            cases gt : t es2 h2 with
            | bad => rw [gt] at p3; exact p3.elim
            | exc x h3 => rw [gt] at p3; exact p3.elim
            | ok k h3 =>
              rw [gt] at p3
              intro ρ3 H3 k' N3 ek
              obtain rfl : k = k' := ek
              obtain ⟨eD3, nD3⟩ := N3.off eD2 nD2
              have Nb3 := Nb2.trans S1 N3
              have rs3 : Reps K CT ρ3 h3.n H3 acc.reverse va := Reps.keep N2.sim N3.toFw _ _ (Reps.keep Nb.sim N2.toFw _ _ (Reps.keep N.sim Ny.toFw _ _ rs))
              have E3 : REnv K CT ρ3 h3.n H3 es2 σ2 := E2.keep N2.sim N3.toFw
              cases k with
              | false =>
                rw [if_neg Bool.false_ne_true]
                exact ⟨ρ3, h3, c', acc, va, P1, Nb3, eD3, nD3, rs3, p3⟩
              | true =>
                rw [if_pos rfl]
                refine ⟨ρ3, h3, es2, N3.sim, E3, ?_⟩
                have p4 : Post K CT (RW K CT) Wd ρ1 h1 H1 σ ((noexc (e es2 h3)).bind fun y h4 => if acc.length ≤ lim then lcLoop g t e es m c' (y :: acc) h4 else .bad) Q := p3
                cases ge : e es2 h3 with
                | bad => rw [ge] at p4; exact p4.elim
                | exc x h4 => rw [ge] at p4; exact p4.elim
                | ok y h4 =>
                  rw [ge] at p4
                  intro ρ4 H4 vy N4 ry
                  obtain ⟨eD4, nD4⟩ := N4.off eD3 nD3
                  have Nb4 := Nb3.trans S1 N4
                  have rs4 : Reps K CT ρ4 h4.n H4 acc.reverse va := Reps.keep N3.sim N4.toFw _ _ rs3
                  obtain ⟨cl, p5⟩ := post_if (show Post K CT (RW K CT) Wd ρ1 h1 H1 σ (if acc.length ≤ lim then lcLoop g t e es m c' (y :: acc) h4 else .bad) Q from p4)
                  have kp : Kp K ρ4 h4.n H4 ρ4 h4.n (upd H4 D (.lst (va ++ [vy]))) := Kp.upd eD4 (fun _ z => nomatch z) (fun _ _ z => nomatch z) (fun _ _ z => by unfold exv at z; cases z) (fun _ z => nomatch z)
                  refine ⟨va, eD4, ?_, ρ4, h4, c', y :: acc, va ++ [vy], P1, Nb4.grown hD eD4 nD4, upd_same, nD4, ?_, p5⟩
                  · rw [← rs4.length, List.length_reverse]
                    exact Nat.lt_of_le_of_lt cl (by decide)
                  · rw [List.reverse_cons]
                    exact (Reps.kp kp _ _ rs4).append (.cons (Rep.kp kp _ _ ry) .nil)
end
section
variable {X : Cx} {CT : CTx} {Wd : WX} {elt tg iter : Expr} {ifs : List Expr} {scope : Scope} {own : List (Str × Nat)} {pos : Pos} {it : Ix} {g : Gx} {t : Tx} {ce : Ex} {us : List Nat}
theorem lc_read (sub : ∀ i ∈ us, i ∈ own.map (·.2)) {σ : St} {H : Hp} {Q : VK} (q : tE X.K CT Wd (xLc it g t ce (own.map (·.2))) σ H Q) : tLc (tI X.K CT Wd it) (tG X.K CT W0 us g) (tT X.K CT W0 t) (tE X.K CT W0 ce) (own.map (·.2)) σ H Q := by
  obtain ⟨ρ, h, es, S, E, p⟩ := q
  refine ⟨ρ, h, es, S, E, ?_⟩
  have p' : Post X.K CT (RW X.K CT) Wd ρ h H σ ((it es h).bind fun c h1 => lcLoop g t ce (wipeE es (own.map (·.2))) (c.fuel h1 + 1) c [] h1) Q := p
  cases gi : it es h with
  | bad => rw [gi] at p'; exact p'.elim
  | exc x h1 => rw [gi] at p'; exact p'
  | ok c h1 =>
    rw [gi] at p'
    intro ρ1 H1 J N I D hD
    exact lc_walk sub N.sim (wipe_env (E.keep S N.toFw) _) I (Post.step S N p') hD
abbrev PTs0 (X : Cx) (CT : CTx) (ifs : List Expr) (t : Tx) : Prop := PTs X ifs (tT X.K CT W0 t)
theorem _root_.L2.PTs.wk {X : Cx} {ifs : List Expr} {t t' : TT} (h : PTs X ifs t) (k : ∀ σ H Q, t' σ H Q → t σ H Q) : PTs X ifs t' := ⟨fun pins s σ H Q I q => h.run pins s σ H Q I (k σ H Q q)⟩
theorem sts_nil : PTs0 X CT [] xYesT := pts_nil.wk fun σ H Q ⟨ρ, h, es, S, E, p⟩ => Post.here S p rfl
theorem sts_one {c : Expr} (hc : ST X CT W0 c t) : PTs0 X CT [c] t := pts_one hc
theorem se_lc (hc : X.calm = true) (hN : X.N.Nodup) (hi : SI X CT Wd tg iter it) (ok : BlkOk X.N X.env.scope scope own)
    (hg : ∀ (s : Shared) (H : Hp) (C : Addr) (cl : List (Str × Addr)) (fp : List Addr), SG (X.blk s H scope (compEnvC scope cl C X.env) fp) CT W0 us tg g)
    (ht : ∀ (s : Shared) (H : Hp) (C : Addr) (cl : List (Str × Addr)) (fp : List Addr), PTs0 (X.blk s H scope (compEnvC scope cl C X.env) fp) CT ifs t)
    (he : ∀ (s : Shared) (H : Hp) (C : Addr) (cl : List (Str × Addr)) (fp : List Addr), SE (X.blk s H scope (compEnvC scope cl C X.env) fp) CT W0 elt ce)
    (sub : ∀ i ∈ us, i ∈ own.map (·.2) := by decide) (hs : ∀ x, foldedSetIterable iter X.env x = pure x := by intro _; rfl) : SE X CT Wd (.ListComp elt [⟨tg, iter, ifs, 0⟩] scope pos) (xLc it g t ce (own.map (·.2))) :=
  (pe_lc (own := own) hc hN hi ok hg ht he hs).wk fun _ _ _ q => lc_read sub q
end
end Sx

set_option linter.all false
set_option autoImplicit false
set_option maxRecDepth 100000
set_option maxHeartbeats 2000000
namespace Sx
open PySem L2

/-! ### statements -/
def PostS (K : PySem.W.Frag) (CT : CTx) (Wd : WX) (ρ : Nat → Addr) (h : Hx) (H : Hp) (r : RS) (D : Ends) : Prop := match r with
  | .fl (.nx es) h' => ∀ ρ' H' σ', Nxt K CT ρ h H ρ' h' H' → REnv K CT ρ' h'.n H' es σ' → D.nx σ' H'
  | .fl (.rt w) h' => ∀ ρ' H' v, Nxt K CT ρ h H ρ' h' H' → Rep K CT ρ' h'.n H' w v → D.rt v H'
  | .fl (.bk es) h' => ∀ ρ' H' σ', Nxt K CT ρ h H ρ' h' H' → REnv K CT ρ' h'.n H' es σ' → D.bk σ' H'
  | .fl (.ct es) h' => ∀ ρ' H' σ', Nxt K CT ρ h H ρ' h' H' → REnv K CT ρ' h'.n H' es σ' → D.ct σ' H'
  | .exc x es h' => ∀ ρ' H' σ' od, Nxt K CT ρ h H ρ' h' H' → REnv K CT ρ' h'.n H' es σ' → XcR K CT ρ' h'.n H' x od → Wd (.ref (CT x.k)) od σ' H'
  | .bad => False
def tSt (K : PySem.W.Frag) (CT : CTx) (Wd : WX) (c : Sx) : TS := fun D σ H => ∃ ρ h es, Sim K CT ρ h H ∧ REnv K CT ρ h.n H es σ ∧ PostS K CT Wd ρ h H (c es h) D
abbrev SS (X : Cx) (CT : CTx) (Wd : WX) (s : Stmt) (c : Sx) : Prop := PS X s (tSt X.K CT Wd c)
abbrev SSs (X : Cx) (CT : CTx) (Wd : WX) (s : List Stmt) (c : Sx) : Prop := PSs X s (tSt X.K CT Wd c)
theorem _root_.L2.PS.wk {X : Cx} {s : Stmt} {t t' : TS} (h : PS X s t) (k : ∀ D σ H, t' D σ H → t D σ H) : PS X s t' := ⟨fun pins s σ H D I q => h.run pins s σ H D I (k D σ H q)⟩
theorem _root_.L2.PSs.wk {X : Cx} {s : List Stmt} {t t' : TS} (h : PSs X s t) (k : ∀ D σ H, t' D σ H → t D σ H) : PSs X s t' := ⟨fun pins s σ H D I q => h.run pins s σ H D I (k D σ H q)⟩
section
variable {K : PySem.W.Frag} {CT : CTx} {Wd : WX} {ρ ρ' : Nat → Addr} {h h' : Hx} {H H' : Hp} {σ : St} {es : Env}
theorem PostS.step {r : RS} {D : Ends} (S : Sim K CT ρ h H) (N : Nxt K CT ρ h H ρ' h' H') (p : PostS K CT Wd ρ h H r D) : PostS K CT Wd ρ' h' H' r D := by
  cases r with
  | fl f h2 =>
    cases f with
    | nx es => exact fun ρ2 H2 σ2 N2 q => p ρ2 H2 σ2 (N.trans S N2) q
    | rt w => exact fun ρ2 H2 v N2 q => p ρ2 H2 v (N.trans S N2) q
    | bk es => exact fun ρ2 H2 σ2 N2 q => p ρ2 H2 σ2 (N.trans S N2) q
    | ct es => exact fun ρ2 H2 σ2 N2 q => p ρ2 H2 σ2 (N.trans S N2) q
  | exc x es h2 => exact fun ρ2 H2 σ2 od N2 q1 q2 => p ρ2 H2 σ2 od (N.trans S N2) q1 q2
  | bad => exact p
/-- a value ahead of what follows -/
theorem PostS.bind {α β : Type} {RR : (Nat → Addr) → Nat → Hp → α → β → Prop} {r : R α} {f : α → Hx → RS} {D : Ends} {Q' : β → Hp → Prop} (S : Sim K CT ρ h H) (E : REnv K CT ρ h.n H es σ)
    (p : PostS K CT Wd ρ h H (r.bindS es f) D)
    (k : ∀ w h1 ρ1 H1 v, Nxt K CT ρ h H ρ1 h1 H1 → RR ρ1 h1.n H1 w v → PostS K CT Wd ρ1 h1 H1 (f w h1) D → Q' v H1) : Post K CT RR Wd ρ h H σ r Q' := by
  cases r with
  | ok w h1 => exact fun ρ1 H1 v N q => k w h1 ρ1 H1 v N q (PostS.step S N p)
  | exc x h1 => exact fun ρ1 H1 od N q => p ρ1 H1 σ od N (E.keep S N.toFw) q
  | bad => exact p
theorem PostS.nx (S : Sim K CT ρ h H) {D : Ends} (p : PostS K CT Wd ρ h H (.fl (.nx es) h) D) (E : REnv K CT ρ h.n H es σ) : D.nx σ H := p ρ H σ (Nxt.refl S) E
end
def cNil : Sx := fun es h => .fl (.nx es) h
def cSeq (a b : Sx) : Sx := fun es h => match a es h with
  | .fl (.nx es1) h1 => b es1 h1
  | r => r
def cExpr (c : Ex) : Sx := fun es h => (c es h).bindS es fun _ h1 => .fl (.nx es) h1
def cRet (c : Ex) : Sx := fun es h => (c es h).bindS es fun w h1 => .fl (.rt w) h1
def cRetN : Sx := fun _ h => .fl (.rt .non) h
def cBrk : Sx := fun es h => .fl (.bk es) h
def cCont : Sx := fun es h => .fl (.ct es) h
def cIf (t : Tx) (a b : Sx) : Sx := fun es h => (t es h).bindS es fun k h1 => if k then a es h1 else b es h1
def cAsg (c : Ex) (g : Gx) : Sx := fun es h => (c es h).bindS es fun w h1 => (g w es h1).bindS es fun es2 h2 => .fl (.nx es2) h2
def cPar (is : List Nat) (a : Ax) : Sx := fun es h => (a es h).bindS es fun ws h1 => if ws.length = is.length then .fl (.nx (setAll is ws es)) h1 else .bad
def forLoop (g : Gx) (b : Sx) : Nat → Cur → Env → Hx → RS
  | 0, _, _, _ => .bad
  | m + 1, c, es, h => match c.step h with
    | none => .bad
    | some none => .fl (.nx es) h
    | some (some (w, c')) => (g w es h).bindS es fun es2 h2 => match b es2 h2 with
      | .fl (.nx es3) h3 => forLoop g b m c' es3 h3
      | .fl (.ct es3) h3 => forLoop g b m c' es3 h3
      | .fl (.bk es3) h3 => .fl (.nx es3) h3
      | r => r
def cFor (it : Ix) (g : Gx) (b : Sx) : Sx := fun es h => (it es h).bindS es fun c h1 => forLoop g b (c.fuel h1 + 1) c es h1
def whileLoop (t : Tx) (b : Sx) : Nat → Env → Hx → RS
  | 0, _, _ => .bad
  | m + 1, es, h => (t es h).bindS es fun k h1 => if k then match b es h1 with
      | .fl (.nx es3) h3 => whileLoop t b m es3 h3
      | .fl (.ct es3) h3 => whileLoop t b m es3 h3
      | .fl (.bk es3) h3 => .fl (.nx es3) h3
      | r => r
    else .fl (.nx es) h1
def cWhile (m : Nat) (t : Tx) (b : Sx) : Sx := fun es h => whileLoop t b m es h
section
variable {X : Cx} {CT : CTx} {Wd : WX} {a b c e tg : Expr} {ca cb cc : Ex} {ta tb : Tx} {pos p : Pos} {s : Stmt} {rest body orelse : List Stmt} {c1 c2 : Sx}
theorem ss_nil : SSs X CT Wd [] cNil := pss_nil.wk fun D σ H ⟨ρ, h, es, S, E, p⟩ => PostS.nx S p E
theorem ss_cons (h1 : SS X CT Wd s c1) (h2 : SSs X CT Wd rest c2) : SSs X CT Wd (s :: rest) (cSeq c1 c2) := (pss_cons h1 h2).wk fun D σ H ⟨ρ, h, es, S, E, p⟩ => by
  refine ⟨ρ, h, es, S, E, ?_⟩
  have p' : PostS X.K CT Wd ρ h H (match c1 es h with
    | .fl (.nx es1) h1 => c2 es1 h1
    | r => r) D := p
  cases g : c1 es h with
  | bad => rw [g] at p'; exact p'
  | exc x es1 h1 => rw [g] at p'; exact p'
  | fl f h1 =>
    rw [g] at p'
    cases f with
    | nx es1 => exact fun ρ1 H1 σ1 N E1 => ⟨ρ1, h1, es1, N.sim, E1, PostS.step S N p'⟩
    | rt w => exact p'
    | bk es1 => exact p'
    | ct es1 => exact p'
theorem ss_one (h1 : SS X CT Wd s c1) : SSs X CT Wd [s] c1 := pss_one h1
theorem s_pass : SS X CT Wd (.Pass pos) cNil := ps_pass.wk fun D σ H ⟨ρ, h, es, S, E, p⟩ => PostS.nx S p E
theorem s_doc {x j pos'} : SS X CT Wd (.Expr (.Constant (.str x) j pos) pos') cNil := ps_doc.wk fun D σ H ⟨ρ, h, es, S, E, p⟩ => PostS.nx S p E
theorem s_expr (he : SE X CT Wd e ca) (hs : swapsWith e none pos.line X.env = pure false := by rfl) : SS X CT Wd (.Expr e pos) (cExpr ca) := (ps_expr he hs).wk fun D σ H ⟨ρ, h, es, S, E, p⟩ =>
  ⟨ρ, h, es, S, E, PostS.bind (RR := RW X.K CT) S E p fun w h1 ρ1 H1 v N r p1 => PostS.nx N.sim p1 (E.keep S N.toFw)⟩
theorem s_ret (he : SE X CT Wd e ca) : SS X CT Wd (.Return (some e) pos) (cRet ca) := (ps_ret he).wk fun D σ H ⟨ρ, h, es, S, E, p⟩ =>
  ⟨ρ, h, es, S, E, PostS.bind (RR := RW X.K CT) S E p fun w h1 ρ1 H1 v N r p1 => p1 ρ1 H1 v (Nxt.refl N.sim) r⟩
theorem s_retN : SS X CT Wd (.Return none pos) cRetN := ps_retN.wk fun D σ H ⟨ρ, h, es, S, E, p⟩ => p ρ H .non (Nxt.refl S) .non
theorem s_brk : SS X CT Wd (.Break pos) cBrk := ps_break.wk fun D σ H ⟨ρ, h, es, S, E, p⟩ => p ρ H σ (Nxt.refl S) E
theorem s_cont : SS X CT Wd (.Continue pos) cCont := ps_continue.wk fun D σ H ⟨ρ, h, es, S, E, p⟩ => p ρ H σ (Nxt.refl S) E
theorem s_if (ht : ST X CT Wd c ta) (h1 : SSs X CT Wd body c1) (h2 : SSs X CT Wd orelse c2) : SS X CT Wd (.If c body orelse pos) (cIf ta c1 c2) := (ps_if ht h1 h2).wk fun D σ H ⟨ρ, h, es, S, E, p⟩ => by
  refine ⟨ρ, h, es, S, E, PostS.bind (RR := RB) S E p fun k h1 ρ1 H1 k' N r p1 => ?_⟩
  obtain rfl : k = k' := r
  cases k with
  | true => exact ⟨ρ1, h1, es, N.sim, E.keep S N.toFw, p1⟩
  | false => exact ⟨ρ1, h1, es, N.sim, E.keep S N.toFw, p1⟩
theorem tAsg_of {te : TE} {tg : TG} {g : Gx} {vs : List Nat} (k : ∀ σ H Q, tE X.K CT Wd ca σ H Q → te σ H Q) (kg : ∀ v σ H Q, tG X.K CT Wd vs g v σ H Q → tg v σ H Q) {D : Ends} {σ : St} {H : Hp} (q : tSt X.K CT Wd (cAsg ca g) D σ H) : tAsg te tg D σ H := by
  obtain ⟨ρ, h, es, S, E, p⟩ := q
  refine k _ _ _ ⟨ρ, h, es, S, E, PostS.bind (RR := RW X.K CT) S E p fun w h1 ρ1 H1 v N r p1 => ?_⟩
  refine kg _ _ _ _ ⟨ρ1, h1, es, w, N.sim, E.keep S N.toFw, r, ?_⟩
  cases gg : g w es h1 with
  | bad => rw [gg] at p1; exact p1.elim
  | exc x h2 =>
    rw [gg] at p1
    exact fun ρ2 H2 od N2 q => p1 ρ2 H2 σ od N2 ((E.keep S N.toFw).keep N.sim N2.toFw) q
  | ok es2 h2 =>
    rw [gg] at p1
    exact fun ρ2 H2 σ2 N2 E2 _ => p1 ρ2 H2 σ2 N2 E2
theorem s_set {i : Nat} {x : Str} {pos' : Pos} (hN : X.N.Nodup) (hi : X.N[i]? = some x) (hx : Loc X.env.scope x) (he : SE X CT Wd e ca) (hs : swapsWith e (some (.Name x pos')) pos.line X.env = pure false := by rfl)
    (hf : X.fn x = true ∨ X.env.scope.names.lookup x = some .local := by first | exact .inl rfl | exact .inr rfl | assumption) : SS X CT Wd (.Assign [.Name x pos'] e pos) (cAsg ca (gxName i)) :=
  (ps_set hN hi hx he hs hf).wk fun D σ H q => tAsg_of (vs := [i]) (fun _ _ _ z => z) (fun v σ H Q ⟨ρ, h, es, w, S, E, r, q⟩ => q ρ H _ (Nxt.refl S) (E.set r i) (off_set i σ _)) q
theorem s_asg {g : Gx} {vs : List Nat} {t : Expr} (he : SE X CT Wd e ca) (hg : SG X CT Wd vs t g) (k : ∀ {te : TE} {tg : TG}, PE X e te → PG X t tg → PS X (.Assign [t] e pos) (tAsg te tg)) : SS X CT Wd (.Assign [t] e pos) (cAsg ca g) :=
  (k he hg).wk fun D σ H q => tAsg_of (vs := vs) (fun _ _ _ z => z) (fun _ _ _ _ z => z) q
theorem s_setLc {i : Nat} {y : Str} {py : Pos} {elt iter : Expr} {ifs : List Expr} {scope : Scope} {own : List (Str × Nat)} {spos : Pos} {it : Ix} {g : Gx} {t : Tx} {ce : Ex} {us : List Nat} (hc : X.calm = true) (hN : X.N.Nodup) (hy : X.N[i]? = some y) (hyl : X.env.scope.names.lookup y = some .local)
    (hsw : swapsWith (.ListComp elt [⟨tg, iter, ifs, 0⟩] scope pos) (some (.Name y py)) spos.line X.env = pure true) (hi : SI X CT Wd tg iter it) (ok : BlkOk X.N X.env.scope scope own)
    (hg : ∀ (s : Shared) (H : Hp) (C : Addr) (cl : List (Str × Addr)) (fp : List Addr), SG (X.blk s H scope (compEnvC scope cl C X.env) fp) CT W0 us tg g)
    (ht : ∀ (s : Shared) (H : Hp) (C : Addr) (cl : List (Str × Addr)) (fp : List Addr), PTs0 (X.blk s H scope (compEnvC scope cl C X.env) fp) CT ifs t)
    (he : ∀ (s : Shared) (H : Hp) (C : Addr) (cl : List (Str × Addr)) (fp : List Addr), SE (X.blk s H scope (compEnvC scope cl C X.env) fp) CT W0 elt ce)
    (sub : ∀ i ∈ us, i ∈ own.map (·.2) := by decide) (hs : ∀ x, foldedSetIterable iter X.env x = pure x := by intro _; rfl) :
    SS X CT Wd (.Assign [.Name y py] (.ListComp elt [⟨tg, iter, ifs, 0⟩] scope pos) spos) (cAsg (xLc it g t ce (own.map (·.2))) (gxName i)) :=
  (ps_setLc (own := own) hc hN hy hyl hsw hi ok hg ht he hs).wk fun D σ H q => tAsg_of (vs := [i]) (fun _ _ _ z => lc_read sub z) (fun v σ H Q ⟨ρ, h, es, w, S, E, r, q⟩ => q ρ H _ (Nxt.refl S) (E.set r i) (off_set i σ _)) q
theorem s_par {i j : Nat} {x y : Str} {ar : Ax} {px py pt : Pos} {kt k2 pt2} (hc : X.calm = true) (hN : X.N.Nodup) (hi : X.N[i]? = some x) (hj : X.N[j]? = some y) (hij : i ≠ j)
    (hx : X.env.scope.names.lookup x = some .local) (hy : X.env.scope.names.lookup y = some .local) (ha : SA X CT Wd [a, b] ar)
    (hw : swappedStores [.Tuple [.Name x px, .Name y py] kt pt] (.Tuple [a, b] k2 pt2) X.env = pure (some [x, y]))
    (hs : swapsWithSole [.Tuple [.Name x px, .Name y py] kt pt] (.Tuple [a, b] k2 pt2) pos.line X.env = pure false := by rfl) :
    SS X CT Wd (.Assign [.Tuple [.Name x px, .Name y py] kt pt] (.Tuple [a, b] k2 pt2) pos) (cPar [i, j] ar) :=
  (ps_par hc hN hi hj hij hx hy ha hw hs).wk fun D σ H ⟨ρ, h, es, S, E, p⟩ => by
    refine ⟨ρ, h, es, S, E, PostS.bind (RR := RA X.K CT) S E p fun ws h1 ρ1 H1 vs N r p1 => ?_⟩
    have p2 : PostS X.K CT Wd ρ1 h1 H1 (if ws.length = [i, j].length then .fl (.nx (setAll [i, j] ws es)) h1 else .bad) D := p1
    by_cases c : ws.length = [i, j].length
    · rw [if_pos c] at p2
      cases r with
      | nil => cases c
      | cons r1 t =>
        cases t with
        | nil => cases c
        | cons r2 t =>
          cases t with
          | cons _ _ => cases c
          | nil => exact ⟨_, _, rfl, PostS.nx N.sim p2 (((E.keep S N.toFw).set r1 i).set r2 j)⟩
    · rw [if_neg c] at p2
      exact p2.elim
/-- for -/
theorem s_for {it : Ix} {g : Gx} {us : List Nat} (hp : PassesOwn (model X.prog X.w) X.A X.env X.xe) (hc : X.calm = true) (hi : SI X CT Wd tg e it) (hg : SG X CT Wd us tg g) (hb : SSs X CT Wd body c1) (hs : ∀ x, foldedSetIterable e X.env x = pure x := by intro _; rfl) :
    SS X CT Wd (.For tg e body [] pos) (cFor it g c1) := (ps_for hp hc hi hg hb hs).wk fun D σ H ⟨ρ, h, es, S, E, p⟩ => by
  refine ⟨ρ, h, es, S, E, ?_⟩
  have p' : PostS X.K CT Wd ρ h H ((it es h).bindS es fun c h1 => forLoop g c1 (c.fuel h1 + 1) c es h1) D := p
  cases gi : it es h with
  | bad => rw [gi] at p'; exact p'.elim
  | exc x h1 =>
    rw [gi] at p'
    exact fun ρ1 H1 od N q => p' ρ1 H1 σ od N (E.keep S N.toFw) q
  | ok c h1 =>
    rw [gi] at p'
    intro ρ1 H1 J N1 I
    obtain ⟨P, P0, PS⟩ := I
    have S1 := N1.sim
    have E1 := E.keep S N1.toFw
    have q1 : PostS X.K CT Wd ρ1 h1 H1 (forLoop g c1 (c.fuel h1 + 1) c es h1) D := PostS.step S N1 p'
    refine ⟨fun i m σ H => ∃ ρ h c es, P i c ∧ Nxt X.K CT ρ1 h1 H1 ρ h H ∧ REnv X.K CT ρ h.n H es σ ∧ PostS X.K CT Wd ρ1 h1 H1 (forLoop g c1 m c es h) D, ⟨c.fuel h1 + 1, ρ1, h1, c, es, P0, Nxt.refl S1, E1, q1⟩, ?_⟩
    rintro i m σ H ⟨ρ, h, c, es, Pc, N, E, p⟩
    cases m with
    | zero => exact p.elim
    | succ m =>
      have st := PS i c Pc ρ h H N
      have p' : PostS X.K CT Wd ρ1 h1 H1 (match c.step h with
        | none => .bad
        | some none => .fl (.nx es) h
        | some (some (w, c')) => (g w es h).bindS es fun es2 h2 => match c1 es2 h2 with
          | .fl (.nx es3) h3 => forLoop g c1 m c' es3 h3
          | .fl (.ct es3) h3 => forLoop g c1 m c' es3 h3
          | .fl (.bk es3) h3 => .fl (.nx es3) h3
          | r => r) D := p
      cases gs : c.step h with
      | none => rw [gs] at p'; exact p'.elim
      | some o =>
        rw [gs] at p' st
        cases o with
        | none => exact .inl ⟨st, p' ρ H σ N E⟩
        | some wc =>
          obtain ⟨w, c'⟩ := wc
          obtain ⟨P1, go, yl⟩ := st
          refine .inr ⟨go, fun σ H => ∃ ρ h c es, P (i + 1) c ∧ Nxt X.K CT ρ1 h1 H1 ρ h H ∧ REnv X.K CT ρ h.n H es σ ∧ PostS X.K CT Wd ρ1 h1 H1 (forLoop g c1 m c es h) D, fun σ' H' q => ⟨m, Nat.lt_succ_self m, q⟩, fun x Hy hy => ?_⟩
          obtain ⟨Ny, rw_⟩ := yl x Hy hy
          have Nb := N.trans S1 Ny
          have Ey := E.keep N.sim Ny.toFw
          have p2 : PostS X.K CT Wd ρ1 h1 H1 ((g w es h).bindS es fun es2 h2 => match c1 es2 h2 with
            | .fl (.nx es3) h3 => forLoop g c1 m c' es3 h3
            | .fl (.ct es3) h3 => forLoop g c1 m c' es3 h3
            | .fl (.bk es3) h3 => .fl (.nx es3) h3
            | r => r) D := p'
          refine ⟨ρ, h, es, w, Nb.sim, Ey, rw_, ?_⟩
          cases gg : g w es h with
          | bad => rw [gg] at p2; exact p2.elim
          | exc x h2 =>
            rw [gg] at p2
            exact fun ρ2 H2 od N2 q => p2 ρ2 H2 σ od (Nb.trans S1 N2) (Ey.keep Nb.sim N2.toFw) q
          | ok es2 h2 =>
            rw [gg] at p2
            intro ρ2 H2 σ2 N2 E2 _
            have Nb2 := Nb.trans S1 N2
            refine ⟨ρ2, h2, es2, N2.sim, E2, ?_⟩
            have p3 : PostS X.K CT Wd ρ1 h1 H1 (match c1 es2 h2 with
              | .fl (.nx es3) h3 => forLoop g c1 m c' es3 h3
              | .fl (.ct es3) h3 => forLoop g c1 m c' es3 h3
              | .fl (.bk es3) h3 => .fl (.nx es3) h3
              | r => r) D := p2
            cases gb : c1 es2 h2 with
            | bad => rw [gb] at p3; exact p3.elim
            | exc x es3 h3 =>
              rw [gb] at p3
              exact fun ρ3 H3 σ3 od N3 E3 q => p3 ρ3 H3 σ3 od (Nb2.trans S1 N3) E3 q
            | fl f h3 =>
              rw [gb] at p3
              cases f with
              | nx es3 => exact fun ρ3 H3 σ3 N3 E3 => ⟨ρ3, h3, c', es3, P1, Nb2.trans S1 N3, E3, p3⟩
              | ct es3 => exact fun ρ3 H3 σ3 N3 E3 => ⟨ρ3, h3, c', es3, P1, Nb2.trans S1 N3, E3, p3⟩
              | bk es3 => exact fun ρ3 H3 σ3 N3 E3 => p3 ρ3 H3 σ3 (Nb2.trans S1 N3) E3
              | rt w3 => exact fun ρ3 H3 v N3 r3 => p3 ρ3 H3 v (Nb2.trans S1 N3) r3
/-- while, at most m turns -/
theorem s_while {m0 : Nat} (hp : PassesOwn (model X.prog X.w) X.A X.env X.xe) (ht : ST X CT Wd c ta) (hb : SSs X CT Wd body c1) : SS X CT Wd (.While c body [] pos) (cWhile m0 ta c1) := (ps_while hp ht hb).wk fun D σ0 H0 ⟨ρ1, h1, es1, S1, E1, p⟩ => by
  refine ⟨fun m σ H => ∃ ρ h es, Nxt X.K CT ρ1 h1 H0 ρ h H ∧ REnv X.K CT ρ h.n H es σ ∧ PostS X.K CT Wd ρ1 h1 H0 (whileLoop ta c1 m es h) D, ⟨m0, ρ1, h1, es1, Nxt.refl S1, E1, p⟩, ?_⟩
  rintro m σ H ⟨ρ, h, es, N, E, p⟩
  cases m with
  | zero => exact p.elim
  | succ m =>
    have p' : PostS X.K CT Wd ρ1 h1 H0 ((ta es h).bindS es fun k h1 => if k then match c1 es h1 with
        | .fl (.nx es3) h3 => whileLoop ta c1 m es3 h3
        | .fl (.ct es3) h3 => whileLoop ta c1 m es3 h3
        | .fl (.bk es3) h3 => .fl (.nx es3) h3
        | r => r
      else .fl (.nx es) h1) D := p
    refine ⟨ρ, h, es, N.sim, E, ?_⟩
    cases gt : ta es h with
    | bad => rw [gt] at p'; exact p'.elim
    | exc x h2 =>
      rw [gt] at p'
      exact fun ρ2 H2 od N2 q => p' ρ2 H2 σ od (N.trans S1 N2) (E.keep N.sim N2.toFw) q
    | ok k h2 =>
      rw [gt] at p'
      intro ρ2 H2 k' N2 ek
      obtain rfl : k = k' := ek
      have Nb := N.trans S1 N2
      have E2 := E.keep N.sim N2.toFw
      cases k with
      | false => exact p' ρ2 H2 σ Nb E2
      | true =>
        have p3 : PostS X.K CT Wd ρ1 h1 H0 (match c1 es h2 with
          | .fl (.nx es3) h3 => whileLoop ta c1 m es3 h3
          | .fl (.ct es3) h3 => whileLoop ta c1 m es3 h3
          | .fl (.bk es3) h3 => .fl (.nx es3) h3
          | r => r) D := p'
        rw [if_pos rfl]
        refine ⟨fun σ H => ∃ ρ h es, Nxt X.K CT ρ1 h1 H0 ρ h H ∧ REnv X.K CT ρ h.n H es σ ∧ PostS X.K CT Wd ρ1 h1 H0 (whileLoop ta c1 m es h) D, fun σ' H' q => ⟨m, Nat.lt_succ_self m, q⟩, ρ2, h2, es, N2.sim, E2, ?_⟩
        cases gb : c1 es h2 with
        | bad => rw [gb] at p3; exact p3.elim
        | exc x es3 h3 =>
          rw [gb] at p3
          exact fun ρ3 H3 σ3 od N3 E3 q => p3 ρ3 H3 σ3 od (Nb.trans S1 N3) E3 q
        | fl f h3 =>
          rw [gb] at p3
          cases f with
          | nx es3 => exact fun ρ3 H3 σ3 N3 E3 => ⟨ρ3, h3, es3, Nb.trans S1 N3, E3, p3⟩
          | ct es3 => exact fun ρ3 H3 σ3 N3 E3 => ⟨ρ3, h3, es3, Nb.trans S1 N3, E3, p3⟩
          | bk es3 => exact fun ρ3 H3 σ3 N3 E3 => p3 ρ3 H3 σ3 (Nb.trans S1 N3) E3
          | rt w3 => exact fun ρ3 H3 v N3 r3 => p3 ρ3 H3 v (Nb.trans S1 N3) r3

/-! ### xs[i] = e, xs.append(e) -/
def setItemW (o i v : W) (h : Hx) : R Unit := match o, i with
  | .ref k, .int j => match h.get k with
    | some (.lst xs) => match ixN xs.length j with
      | some m => .ok () (h.put k (.lst (xs.set m v)))
      | none => .bad
    | _ => .bad
  | _, _ => .bad
def gxSub (a b : Ex) : Gx := fun w es h => (a es h).bind fun o h1 => (b es h1).bind fun i h2 => (setItemW o i w h2).bind fun _ h3 => .ok es h3
theorem sg_sub (ha : SE X CT Wd a ca) (hb : SE X CT Wd b cb) (hk : ∀ {to ti : TE} {t : TSet}, PE X a to → PE X b ti → PSet X t → PG X (.Subscript a b p) (gSub to ti t)) : SG X CT Wd [] (.Subscript a b p) (gxSub ca cb) := (hk ha hb set_list).wk fun v σ H Q ⟨ρ, h, es, w, S, E, r, q⟩ => by
  refine ⟨ρ, h, es, S, E, ?_⟩
  have q' : PostG X.K CT Wd ρ h H [] σ ((ca es h).bind fun o h1 => (cb es h1).bind fun i h2 => (setItemW o i w h2).bind fun _ h3 => .ok es h3) Q := q
  cases g1 : ca es h with
  | bad => rw [g1] at q'; exact q'.elim
  | exc x h1 => rw [g1] at q'; exact q'
  | ok o h1 =>
    rw [g1] at q'
    intro ρ1 H1 vo N1 ro
    refine ⟨ρ1, h1, es, N1.sim, E.keep S N1.toFw, ?_⟩
    have q2 : PostG X.K CT Wd ρ h H [] σ ((cb es h1).bind fun i h2 => (setItemW o i w h2).bind fun _ h3 => .ok es h3) Q := q'
    cases g2 : cb es h1 with
    | bad => rw [g2] at q2; exact q2.elim
    | exc x h2 => rw [g2] at q2; exact fun ρ2 H2 od N2 z => q2 ρ2 H2 od (N1.trans S N2) z
    | ok i h2 =>
      rw [g2] at q2
      intro ρ2 H2 vi N2 ri
      have Nb := N1.trans S N2
      have ro2 := Rep.keep N1.sim N2.toFw _ _ ro
      have q3 : PostG X.K CT Wd ρ h H [] σ ((setItemW o i w h2).bind fun _ h3 => .ok es h3) Q := q2
      cases ro2 with
      | @ref k hk =>
        cases ri with
        | int j =>
          cases gk : h2.get k with
          | none =>
            have : setItemW (.ref k) (.int j) w h2 = .bad := by unfold setItemW; simp only [gk]
            rw [this] at q3
            exact q3.elim
          | some ob =>
            cases ob with
            | dic _ _ =>
              have : setItemW (.ref k) (.int j) w h2 = .bad := by unfold setItemW; simp only [gk]
              rw [this] at q3
              exact q3.elim
            | dicN _ _ =>
              have : setItemW (.ref k) (.int j) w h2 = .bad := by unfold setItemW; simp only [gk]
              rw [this] at q3
              exact q3.elim
            | ins _ _ =>
              have : setItemW (.ref k) (.int j) w h2 = .bad := by unfold setItemW; simp only [gk]
              rw [this] at q3
              exact q3.elim
            | lst xs =>
              cases gm : ixN xs.length j with
              | none =>
                have : setItemW (.ref k) (.int j) w h2 = .bad := by unfold setItemW; simp only [gk, gm]
                rw [this] at q3
                exact q3.elim
              | some m =>
                have : setItemW (.ref k) (.int j) w h2 = .ok () (h2.put k (.lst (xs.set m w))) := by unfold setItemW; simp only [gk, gm]
                rw [this] at q3
                obtain ⟨vs, ev, rs⟩ := lst_get N2.sim gk
                have rw2 := Rep.keep S Nb.toFw _ _ r
                refine ⟨ρ2 k, vs, j, m, rfl, rfl, ev, by rw [← rs.length]; exact gm, ?_⟩
                have N3 : Nxt X.K CT ρ2 h2 H2 ρ2 (h2.put k (.lst (xs.set m w))) (upd H2 (ρ2 k) (.lst (vs.set m v))) :=
                  Nxt.put N2.sim hk (by rw [ev]; exact True.intro) ⟨_, upd_same, Reps.keep N2.sim (Fw.put N2.sim hk (by rw [ev]; exact True.intro)) _ _ (rs.set m rw2)⟩
                exact q3 ρ2 _ σ (Nb.trans S N3) (((E.keep S Nb.toFw)).keep N2.sim N3.toFw) ⟨rfl, fun _ _ => rfl⟩
        | _ => exact (show False from q3).elim
      | _ => exact (show False from q3).elim
/-- methods of built-in classes: the receiver is of the class T -/
def xMeth (T : Bt) (f : W → List W → Hx → R W) (a : Ex) (r : Ax) : Ex := fun es h => (a es h).bind fun o h1 => if btOf h1 o = some T then (r es h1).bind fun ws h2 => f o ws h2 else .bad
def MtS (K : PySem.W.Frag) (CT : CTx) (Wd : WX) (r : V → List V → Hp → VK → Prop) (f : W → List W → Hx → R W) : Prop :=
  ∀ {ρ : Nat → Addr} {h : Hx} {H : Hp} {σ : St} {o : W} {ws : List W} {v : V} {vs : List V} {Q : VK}, Sim K CT ρ h H → Rep K CT ρ h.n H o v → Reps K CT ρ h.n H ws vs → Post K CT (RW K CT) Wd ρ h H σ (f o ws h) Q → r v vs H Q
theorem tyV_of {K : PySem.W.Frag} {ρ : Nat → Addr} {h : Hx} {H : Hp} (S : Sim K CT ρ h H) {T : Bt} {o : W} {v : V} (hT : T = .list ∨ T = .str) (r : Rep K CT ρ h.n H o v) (e : btOf h o = some T) : tyV K T.name v H := by
  cases r with
  | str _ => cases e; rfl
  | fls q _ => cases e; exact .inl ⟨rfl, _, q.sq⟩
  | @ref i hi =>
    have e' : (match h.get i with
      | some (.lst _) => some Bt.list
      | some (.dic _ _) => some .dict
      | _ => none) = some T := e
    split at e'
    · rename_i ys g
      cases e'
      obtain ⟨vs, q, _⟩ := lst_get S g
      exact .inl ⟨rfl, vs, .of q⟩
    · rename_i ys g
      cases e'
      rcases hT with z | z <;> cases z
    · cases e'
  | non => cases e; rcases hT with z | z <;> cases z
  | bl _ => cases e; rcases hT with z | z <;> cases z
  | int _ => cases e; rcases hT with z | z <;> cases z
  | tup _ _ => cases e; rcases hT with z | z <;> cases z
  | ty _ => cases e
  | cl _ => cases e
  | exc _ _ _ => cases e
theorem se_bm {T : Bt} {es : List Expr} {ar : Ax} {r : V → List V → Hp → VK → Prop} {f : W → List W → Hx → R W} (ha : SE X CT Wd a ca) (hr : SA X CT Wd es ar) (hs : MtS X.K CT Wd r f)
    (k : ∀ {to : TE} {t : TA}, PE X a to → PA X es t → PE X e (tBM X.K T.name r to t)) (hT : T = .list ∨ T = .str := by decide) : SE X CT Wd e (xMeth T f ca ar) := (k ha hr).wk fun σ H Q ⟨ρ, h, en, S, E, p⟩ => by
  refine ⟨ρ, h, en, S, E, Post.bind (RR := RW X.K CT) S p fun o h1 ρ1 H1 v N1 r1 p1 => ?_⟩
  obtain ⟨c, p2⟩ := post_if p1
  refine ⟨tyV_of N1.sim hT r1 c, ρ1, h1, en, N1.sim, E.keep S N1.toFw, Post.bind (RR := RA X.K CT) N1.sim p2 fun ws h2 ρ2 H2 vs N2 r2 p3 => ?_⟩
  exact hs N2.sim (Rep.keep N1.sim N2.toFw _ _ r1) r2 p3
def appendW (o : W) (ws : List W) (h : Hx) : R W := match o, ws with
  | .ref k, [v] => match h.get k with
    | some (.lst xs) => if xs.length < lim then .ok .non (h.put k (.lst (xs ++ [v]))) else .bad
    | _ => .bad
  | _, _ => .bad
theorem ms_append {K : PySem.W.Frag} : MtS K CT Wd rAppend appendW := by
  intro ρ h H σ o ws v vs Q S ro rs p
  cases rs with
  | nil => cases ro <;> exact (show False from p).elim
  | cons r1 t =>
    cases t with
    | cons _ _ => cases ro <;> exact (show False from p).elim
    | nil =>
      cases ro with
      | @ref k hk =>
        rename_i w u
        have p' : Post K CT (RW K CT) Wd ρ h H σ (match h.get k with
          | some (.lst xs) => if xs.length < lim then .ok .non (h.put k (.lst (xs ++ [w]))) else .bad
          | _ => .bad) Q := p
        split at p'
        · rename_i xs g
          obtain ⟨us, q, rs⟩ := lst_get S g
          obtain ⟨c, p2⟩ := post_if p'
          refine ⟨ρ k, us, u, rfl, rfl, q, ?_, ?_⟩
          · rw [← rs.length]
            exact Nat.lt_of_lt_of_le c (by decide)
          · exact p2 ρ _ _ (Nxt.put S hk (by rw [q]; exact True.intro) ⟨_, upd_same, Reps.keep S (Fw.put S hk (by rw [q]; exact True.intro)) _ _ (rs.append (.cons r1 .nil))⟩) .non
        · exact p'.elim
      | _ => exact (show False from p).elim

/-! ### defs of the text, and calls of them -/
/-- the promise that a plain function tells -/
def spOf (K : PySem.W.Frag) (CT : CTx) (f : Fn) : Sp := fun vs H Q E => ∃ ρ h ws, Sim K CT ρ h H ∧ Reps K CT ρ h.n H ws vs ∧ match f ws h with
  | .ok w h' => ∀ ρ' H' v, Nxt K CT ρ h H ρ' h' H' → Rep K CT ρ' h'.n H' w v → Q v H'
  | .exc x h' => ∀ ρ' H' od, Nxt K CT ρ h H ρ' h' H' → XcR K CT ρ' h'.n H' x od → E (.ref (CT x.k)) od H'
  | .bad => False
def endOf : RS → R W
  | .fl (.nx _) h => .ok .non h
  | .fl (.rt w) h => .ok w h
  | .exc x _ h => .exc x h
  | _ => .bad
/-- a def with np parameters and nn names in all -/
def mkFn (np nn : Nat) (body : Sx) : Fn := fun ws h => if ws.length = np then endOf (body (ws.map some ++ List.replicate (nn - np) none) h) else .bad
/-- the same, no exception leaves -/
def mkFn0 (np nn : Nat) (body : Sx) : Fn := fun ws h => noexc (mkFn np nn body ws h)
theorem start_env {K : PySem.W.Frag} {ρ : Nat → Addr} {n : Nat} {H : Hp} : ∀ {ws : List W} {vs : List V} (m : Nat), Reps K CT ρ n H ws vs → REnv K CT ρ n H (ws.map some ++ List.replicate m none) (vs.map some ++ List.replicate m none)
  | _, _, m, .nil => ⟨by rw [List.map_nil, List.map_nil, List.nil_append, List.nil_append, List.length_replicate, List.length_replicate], fun i w e => by
    rw [List.map_nil, List.nil_append, List.getElem?_replicate] at e
    split at e <;> cases e⟩
  | _, _, m, .cons r t => by
    have E := start_env m t
    refine ⟨?_, fun i w e => ?_⟩
    · rw [List.map_cons, List.map_cons, List.cons_append, List.cons_append, List.length_cons, List.length_cons, E.len]
    · cases i with
      | zero =>
        rw [List.map_cons, List.cons_append, List.getElem?_cons_zero] at e
        cases e
        exact ⟨_, rfl, r⟩
      | succ i => exact E.at_ i w e
end
section
variable {P : Program} {w : World} {K : PySem.W.Frag} {mg : Str → Option Value} {base : Heap} {CT : CTx}
/-- a def from its body: no exception leaves it -/
theorem fn_ok0 {x qual : Str} {st : Stmt} {f : Addr} {fd : FuncData} {N ps : List Str} {k : Nat} {c : Sx} (F : Fun K x qual st f fd) (S : FnScope N ps (defScope st))
    (body : ∀ (cdv : Value) (A : Around) (outer : List PySem.Env) (s : Shared) (H : Hp) (E : XK), Room k (A.deeper (PyProof.Rows.envOfC qual (defScope st) s.heap.objs.size f cdv)) →
      SSs (cxOf CX0 P w K mg base N qual (defScope st) f cdv A outer s H E).nox CT W0 (defBody st) c) : FnOk P w K mg base CX0 (k + 1) f fd ps (spOf K CT (mkFn0 ps.length N.length c)) := by
  have hp : N.take ps.length = ps := S.pre
  have key : ∀ vs H Q E, spOf K CT (mkFn0 ps.length N.length c) vs H Q E → vs.length = ps.length := fun vs H Q E h => by
    obtain ⟨ρ, h, ws, Sm, r, q⟩ := h
    by_cases e : ws.length = ps.length
    · rw [← r.length]
      exact e
    · unfold mkFn0 mkFn at q
      rw [if_neg e] at q
      exact q.elim
  refine F.ok S key (fun cdv A outer s H vs Q E hr h => ⟨_, body cdv A outer s H E hr, ?_⟩)
  have hl := key vs H Q E h
  obtain ⟨ρ, h, ws, Sm, r, q⟩ := h
  have e : ws.length = ps.length := by rw [r.length]; exact hl
  refine ⟨ρ, h, ws.map some ++ List.replicate (N.length - ps.length) none, Sm, ?_, ?_⟩
  · unfold L2.start
    rw [hl]
    exact start_env _ r
  · unfold mkFn0 mkFn at q
    rw [if_pos e] at q
    cases g : c (ws.map some ++ List.replicate (N.length - ps.length) none) h with
    | bad => rw [g] at q; exact q.elim
    | exc x es h1 => rw [g] at q; exact q.elim
    | fl fl h1 =>
      rw [g] at q
      cases fl with
      | nx es => exact fun ρ' H' σ' N' E' => q ρ' H' .non N' .non
      | rt w => exact fun ρ' H' v N' r' => q ρ' H' v N' r'
      | bk es => exact q.elim
      | ct es => exact q.elim
end
section
variable {X : Cx} {CT : CTx} {Wd : WX} {e : Expr} {es : List Expr} {pos p : Pos}
def xCall (f : Fn) (a : Ax) : Ex := fun es h => (a es h).bind fun ws h1 => f ws h1
/-- f(e, ..): no exception comes out -/
theorem tCall0_of {f : Fn} {ar : Ax} {E : XK} {σ : St} {H : Hp} {Q : VK} (q : tE X.K CT Wd (xCall (fun ws h => noexc (f ws h)) ar) σ H Q) : tCall (spOf X.K CT f) [] E (tAx X.K CT Wd ar) σ H Q := by
  obtain ⟨ρ, h, en, S, E, p⟩ := q
  refine ⟨ρ, h, en, S, E, Post.bind (RR := RA X.K CT) S p fun ws h1 ρ1 H1 vs N1 r1 p1 => ?_⟩
  show spOf X.K CT f (vs ++ []) H1 Q _
  rw [List.append_nil]
  refine ⟨ρ1, h1, ws, N1.sim, r1, ?_⟩
  have p2 : Post X.K CT (RW X.K CT) Wd ρ1 h1 H1 σ (noexc (f ws h1)) Q := p1
  cases g : f ws h1 with
  | bad => rw [g] at p2; exact p2.elim
  | exc x h2 => rw [g] at p2; exact p2.elim
  | ok w h2 => rw [g] at p2; exact fun ρ' H' v N' r' => p2 ρ' H' v N' r'
theorem noexc_mk0 (np nn : Nat) (c : Sx) : (fun ws h => noexc (mkFn0 np nn c ws h)) = mkFn0 np nn c := by
  funext ws h
  unfold mkFn0
  cases mkFn np nn c ws h <;> rfl
theorem se_call0 {np nn : Nat} {c : Sx} {ar : Ax} {k : Nat} {f : Addr} {fd : FuncData} {ps : List Str} {x : Str} (F : FnOk X.prog X.w X.K X.mg X.base CX0 k f fd ps (spOf X.K CT (mkFn0 np nn c))) (hr : Room k X.A) (hg : Gl X x) (hm : X.mg x = some (.ref f)) (hk : PySem.W.keepIn X.K (.ref f) = true) (hb : Binds X.K fd ps [])
    (ha : SA X CT Wd (e :: es) ar)
    (k2 : ∀ {t : TA}, PA X (e :: es) t → PE X (.Call (.Name x p) (e :: es) [] pos) (tCall (spOf X.K CT (mkFn0 np nn c)) [] E0 t)) : SE X CT Wd (.Call (.Name x p) (e :: es) [] pos) (xCall (mkFn0 np nn c) ar) :=
  (k2 ha).wk fun σ H Q q => tCall0_of (by rw [noexc_mk0]; exact q)
end
end Sx

set_option linter.all false
set_option autoImplicit false
set_option maxRecDepth 100000
set_option maxHeartbeats 2000000
namespace Sx
open PySem L2
/-- a def of the text as the top has left it -/
structure DefAt (K : PySem.W.Frag) (mg : Str → Option Value) (x : Str) (st : Stmt) (ps : List Str) where
  f : Addr
  fd : FuncData
  F : Fun K x x st f fd
  b : Binds K fd ps []
  g : mg x = some (.ref f)
theorem units65 {k : Nat} {A : Around} (r : Room k A) : A.units + 65 < cLine := by have := r.un; omega
section
variable {X : Cx} {CT : CTx} {Wd : WX} {a b c e : Expr} {es : List Expr} {ca cb cc : Ex} {pos p : Pos}
theorem se_gstr {x s : Str} {z : List Nat} (hg : Gl X x) (hm : ∃ t, X.mg x = some (.str s t)) (e : s.cps.toList = z := by rfl) (h : z.all (· < 1114112) = true := by decide) (hd : (x == ("__debug__" : Str)) = false := by decide) : SE X CT Wd (.Name x p) (xC (.str z)) := by
  obtain ⟨t, hm⟩ := hm
  refine se_c (pe_glob (v := .str s) hg hm ⟨t, rfl⟩ hd) fun _ _ _ => ?_
  subst e
  exact rep_str s h
theorem se_gint {x : Str} {i : Int} (hg : Gl X x) (hm : ∃ t, X.mg x = some (.int i t)) (hd : (x == ("__debug__" : Str)) = false := by decide) : SE X CT Wd (.Name x p) (xC (.int i)) := by
  obtain ⟨t, hm⟩ := hm
  exact se_c (pe_glob (v := .int i) hg hm ⟨t, rfl⟩ hd) fun _ _ _ => .int i
/-- a call of a def at D -/
theorem se_own0 {np nn : Nat} {cf : Sx} {ar : Ax} {k : Nat} {ps : List Str} {x : Str} {st : Stmt} (D : DefAt X.K X.mg x st ps) (G : FnOk X.prog X.w X.K X.mg X.base CX0 k D.f D.fd ps (spOf X.K CT (mkFn0 np nn cf))) (hr : Room k X.A) (hg : Gl X x)
    (ha : SA X CT Wd (e :: es) ar) (hdb : (x == ("__debug__" : Str)) = false := by decide) (he : starEach (e :: es) X.env = (false, eval e X.env) :: starEach es X.env := by rfl) (hpl : (backTo pos (starEach es X.env)).any (·.1) = false := by rfl) :
    SE X CT Wd (.Call (.Name x p) (e :: es) [] pos) (xCall (mkFn0 np nn cf) ar) :=
  (pe_call (E := E0) (dvs := []) G hr hg D.g D.F.kp D.b .nil pass0 ha hdb he hpl).wk fun σ H Q q => tCall0_of (by rw [noexc_mk0]; exact q)
theorem se_own00 {np nn : Nat} {cf : Sx} {k : Nat} {ps : List Str} {x : Str} {st : Stmt} (D : DefAt X.K X.mg x st ps) (G : FnOk X.prog X.w X.K X.mg X.base CX0 k D.f D.fd ps (spOf X.K CT (mkFn0 np nn cf))) (hr : Room k X.A) (hg : Gl X x) (hdb : (x == ("__debug__" : Str)) = false := by decide) :
    SE X CT Wd (.Call (.Name x p) [] [] pos) (xCall (mkFn0 np nn cf) xNil) :=
  (pe_call0 (E := E0) (dvs := []) G hr hg D.g D.F.kp D.b .nil pass0 hdb).wk fun σ H Q q => by
    obtain ⟨ρ, h, en, S, E, p⟩ := q
    have t : tCall (spOf X.K CT (mkFn0 np nn cf)) [] E0 (tAx X.K CT Wd xNil) σ H Q := tCall0_of (by rw [noexc_mk0]; exact ⟨ρ, h, en, S, E, p⟩)
    obtain ⟨ρ, h, en, S, E, p⟩ := t
    exact Post.here S p .nil
end
/-- the law's promise, by its plain function -/
theorem law_sp {K : PySem.W.Frag} {CT : CTx} {f : Fn} {H : Hp} {a : Addr} {ns : List Int} (hO : Only H) (hS : SqL K H a (ns.map V.int)) (hT : LamX.Tabs CT.tabs H) (hf : ∃ h', f [.fls (ns.map W.int)] ⟨0, .nil⟩ = .ok (.bl true) h') :
    spOf K CT f [.ref a] H (fun v _ => v = .bl true) fun _ _ _ => False := by
  have q : SqF K H a (ns.map V.int) := by
    rcases hS with (h | ⟨o, h⟩) | h
    · rcases hO a with z | ⟨o, xs, z⟩
      · rw [h] at z; cases z
      · rw [h] at z; cases z
    · exact .inl ⟨o, h⟩
    · exact .inr h
  have rs : ∀ ns : List Int, Reps K CT (fun _ => 0) 0 H (ns.map W.int) (ns.map V.int) := fun ns => by
    induction ns with
    | nil => exact .nil
    | cons x r ih => exact .cons (.int x) ih
  refine ⟨fun _ => 0, ⟨0, .nil⟩, [.fls (ns.map W.int)], ⟨fun i j hi => absurd hi (Nat.not_lt_zero _), fun i hi => absurd hi (Nat.not_lt_zero _), (fun i o e => by cases e), (fun i o e => by cases e), hT⟩, .cons (.fls q (rs ns)) .nil, ?_⟩
  obtain ⟨h', e⟩ := hf
  rw [e]
  intro ρ' H' v N r
  cases r
  rfl
end Sx

set_option linter.all false
set_option autoImplicit false
set_option maxRecDepth 100000
set_option maxHeartbeats 2000000
namespace Sx
open PySem L2
/-! ### evaluation, step by step -/
section
variable {α β : Type} {a : α} {h h1 : Hx} {es es1 : Env} {w : W} {x : Xc}
theorem bind_ok {f : α → Hx → R β} : (R.ok a h).bind f = f a h := rfl
theorem bindS_ok {f : α → Hx → RS} : (R.ok a h).bindS es f = f a h := rfl
theorem noexc_ok : noexc (R.ok a h) = R.ok a h := rfl
theorem noexc_exc : noexc (R.exc x h : R α) = R.bad := rfl
theorem noexc_bad : noexc (R.bad : R α) = R.bad := rfl
theorem endOf_rt : endOf (.fl (.rt w) h) = .ok w h := rfl
theorem endOf_nx : endOf (.fl (.nx es) h) = .ok .non h := rfl
def seqS (r : RS) (b : Sx) : RS := match r with
  | .fl (.nx es1) h1 => b es1 h1
  | r => r
theorem cSeq_eq {a b : Sx} : cSeq a b es h = seqS (a es h) b := rfl
theorem seqS_nx {b : Sx} : seqS (.fl (.nx es) h) b = b es h := rfl
theorem seqS_rt {b : Sx} : seqS (.fl (.rt w) h) b = .fl (.rt w) h := rfl
theorem mkFn0_eq {np nn : Nat} {c : Sx} {ws : List W} (e : ws.length = np) : mkFn0 np nn c ws h = noexc (endOf (c (ws.map some ++ List.replicate (nn - np) none) h)) := by
  unfold mkFn0 mkFn
  rw [if_pos e]
theorem xCall_eq {f : Fn} {a : Ax} : xCall f a es h = (a es h).bind f := rfl
theorem isiW_eq {t : Bt} : isiW [w, .ty t] h = isi1 (btOf h w) t h := rfl
theorem isi1_some {b t : Bt} (e : t ≠ .none) : isi1 (some b) t h = .ok (.bl (isB b t)) h := if_pos e
/-- turns of a for -/
def turnF (g : Gx) (b : Sx) (m : Nat) (c' : Cur) (r : RS) : RS := match r with
  | .fl (.nx es3) h3 => forLoop g b m c' es3 h3
  | .fl (.ct es3) h3 => forLoop g b m c' es3 h3
  | .fl (.bk es3) h3 => .fl (.nx es3) h3
  | r => r
theorem forLoop_end {g : Gx} {b : Sx} {m : Nat} {c : Cur} (e : c.step h = some none) : forLoop g b (m + 1) c es h = .fl (.nx es) h := by
  unfold forLoop
  rw [e]
theorem forLoop_step {g : Gx} {b : Sx} {m : Nat} {c c' : Cur} (e : c.step h = some (some (w, c'))) : forLoop g b (m + 1) c es h = (g w es h).bindS es fun es2 h2 => turnF g b m c' (b es2 h2) := by
  conv => lhs; unfold forLoop
  rw [e]
  rfl
theorem turnF_nx {g : Gx} {b : Sx} {m : Nat} {c' : Cur} : turnF g b m c' (.fl (.nx es) h) = forLoop g b m c' es h := rfl
theorem turnF_rt {g : Gx} {b : Sx} {m : Nat} {c' : Cur} : turnF g b m c' (.fl (.rt w) h) = .fl (.rt w) h := rfl
theorem rng_step0 {i : Int} : (Cur.rng i 0).step h = some none := rfl
theorem rng_step {i : Int} {n : Nat} : (Cur.rng i (n + 1)).step h = some (some (.int i, .rng (i + 1) n)) := rfl
/-- a for over a range, by an invariant -/
theorem for_rng {g : Gx} {b : Sx} (I : Nat → Env → Hx → Prop) (lo : Int) : ∀ (n j : Nat) (es : Env) (h : Hx), I j es h →
    (∀ i es h, j ≤ i → i < j + n → I i es h → ∃ es2 h2, g (.int (lo + i)) es h = .ok es2 h2 ∧ ∃ es3 h3, b es2 h2 = .fl (.nx es3) h3 ∧ I (i + 1) es3 h3) →
    ∃ es' h', forLoop g b (n + 1) (.rng (lo + j) n) es h = .fl (.nx es') h' ∧ I (j + n) es' h'
  | 0, j, es, h, i0, _ => ⟨es, h, forLoop_end rfl, i0⟩
  | n + 1, j, es, h, i0, k => by
    obtain ⟨es2, h2, e2, es3, h3, e3, i1⟩ := k j es h (Nat.le_refl _) (by omega) i0
    obtain ⟨es', h', e', i'⟩ := for_rng I lo n (j + 1) es3 h3 i1 fun i es h a b => k i es h (by omega) (by omega)
    refine ⟨es', h', ?_, by rw [show j + (n + 1) = j + 1 + n by omega]; exact i'⟩
    rw [forLoop_step rng_step, e2, bindS_ok, e3, turnF_nx, show lo + (j : Int) + 1 = lo + ((j + 1 : Nat) : Int) by omega]
    exact e'
/-- what stood stands -/
structure Ext (h h' : Hx) : Prop where
  le : h.n ≤ h'.n
  at_ : ∀ i, i < h.n → h'.get i = h.get i
theorem Ext.refl (h : Hx) : Ext h h := ⟨Nat.le_refl _, fun _ _ => rfl⟩
theorem Ext.trans {h h' h'' : Hx} (a : Ext h h') (b : Ext h' h'') : Ext h h'' := ⟨Nat.le_trans a.le b.le, fun i hi => (b.at_ i (Nat.lt_of_lt_of_le hi a.le)).trans (a.at_ i hi)⟩
theorem Ext.new (h : Hx) (o : O) : Ext h (h.new o) := ⟨Nat.le_succ _, fun i hi => by rw [Hx.get_new, if_neg (Nat.ne_of_lt hi)]⟩
theorem new_n {o : O} : (h.new o).n = h.n + 1 := rfl
theorem put_n {i : Nat} {o : O} : (h.put i o).n = h.n := rfl
theorem get_new_same {o : O} : (h.new o).get h.n = some o := by rw [Hx.get_new, if_pos rfl]
theorem get_put_same {i : Nat} {o : O} : (h.put i o).get i = some o := by rw [Hx.get_put, if_pos rfl]
theorem get_put_ne {i j : Nat} {o : O} (e : j ≠ i) : (h.put i o).get j = h.get j := by rw [Hx.get_put, if_neg e]
theorem get_new_ne {j : Nat} {o : O} (e : j ≠ h.n) : (h.new o).get j = h.get j := by rw [Hx.get_new, if_neg e]
end
section
variable {es : Env} {h : Hx} {a b c : Ex} {t u : Tx} {r : Ax} {s1 s2 : Sx} {it : Ix} {g : Gx} {f f2 : W → W → Hx → R W} {o : Ox} {i : Nat} {w : W} {is : List Nat}
theorem cNil_eq : cNil es h = .fl (.nx es) h := rfl
theorem cExpr_eq : cExpr a es h = (a es h).bindS es fun _ h1 => .fl (.nx es) h1 := rfl
theorem cRet_eq : cRet a es h = (a es h).bindS es fun w h1 => .fl (.rt w) h1 := rfl
theorem cRetN_eq : cRetN es h = .fl (.rt .non) h := rfl
theorem cIf_eq : cIf t s1 s2 es h = (t es h).bindS es fun k h1 => if k then s1 es h1 else s2 es h1 := rfl
theorem cAsg_eq : cAsg a g es h = (a es h).bindS es fun w h1 => (g w es h1).bindS es fun es2 h2 => .fl (.nx es2) h2 := rfl
theorem cPar_eq : cPar is r es h = (r es h).bindS es fun ws h1 => if ws.length = is.length then .fl (.nx (setAll is ws es)) h1 else .bad := rfl
theorem cFor_eq : cFor it g s1 es h = (it es h).bindS es fun c h1 => forLoop g s1 (c.fuel h1 + 1) c es h1 := rfl
theorem cWhile_eq {m : Nat} : cWhile m t s1 es h = whileLoop t s1 m es h := rfl
theorem xVar_eq : xVar i es h = match es[i]? with | some (some w) => .ok w h | _ => .bad := rfl
theorem xC_eq : xC w es h = .ok w h := rfl
theorem xOp_eq : xOp f a b es h = (a es h).bind fun x h1 => (b es h1).bind fun y h2 => f x y h2 := rfl
theorem xBl_eq : xBl a es h = (a es h).bind fun w h1 => match w with | .bl b => .ok b h1 | _ => .bad := rfl
theorem xChain_eq : xChain f f2 a b c es h = (a es h).bind fun x h1 => (b es h1).bind fun y h2 => (f x y h2).bind fun k h3 => match k with | .bl true => (c es h3).bind fun z h4 => f2 y z h4 | .bl false => .ok (.bl false) h3 | _ => .bad := rfl
theorem xUn_eq {f : W → Hx → R W} : xUn f a es h = (a es h).bind fun x h1 => f x h1 := rfl
theorem xTru_eq : xTru a es h = (a es h).bind fun w h1 => match truth h1 w with | some b => .ok b h1 | none => .bad := rfl
theorem xAndT_eq : xAndT t u es h = (t es h).bind fun k h1 => if k then u es h1 else .ok false h1 := rfl
theorem xOrT_eq : xOrT t u es h = (t es h).bind fun k h1 => if k then .ok true h1 else u es h1 := rfl
theorem xNotT_eq : xNotT t es h = (t es h).bind fun k h1 => .ok (!k) h1 := rfl
theorem xIf_eq : xIf t a b es h = (t es h).bind fun k h1 => if k then a es h1 else b es h1 := rfl
theorem xAnd_eq : xAnd a b es h = (a es h).bind fun w h1 => match truth h1 w with | some true => b es h1 | some false => .ok w h1 | none => .bad := rfl
theorem xOr_eq : xOr a b es h = (a es h).bind fun w h1 => match truth h1 w with | some true => .ok w h1 | some false => b es h1 | none => .bad := rfl
theorem xNot_eq : xNot a es h = (a es h).bind fun w h1 => match truth h1 w with | some k => .ok (.bl (!k)) h1 | none => .bad := rfl
theorem xNil_eq : xNil es h = .ok [] h := rfl
theorem xCons_eq : xCons a r es h = (a es h).bind fun w h1 => (r es h1).bind fun ws h2 => .ok (w :: ws) h2 := rfl
theorem xTup_eq : xTup r es h = (r es h).bind fun ws h1 => if ws.length ≤ lim then .ok (.tup ws) h1 else .bad := rfl
theorem xLst_eq : xLst r es h = (r es h).bind fun ws h1 => if ws.length ≤ lim then .ok (.ref h1.n) (h1.new (.lst ws)) else .bad := rfl
theorem xDic0_eq : xDic0 es h = .ok (.ref h.n) (h.new (.dic false [])) := rfl
theorem xCallB_eq {f : List W → Hx → R W} : xCallB f r es h = (r es h).bind fun ws h1 => f ws h1 := rfl
theorem xIt_eq : xIt a es h = (a es h).bind fun w h1 => match curOf h1 w with | some k => .ok k h1 | none => .bad := rfl
theorem xRng1_eq : xRng1 r es h = (r es h).bind fun ws h1 => rng1W ws h1 := rfl
theorem xRng2_eq : xRng2 r es h = (r es h).bind fun ws h1 => rng2W ws h1 := rfl
theorem gxName_eq : gxName i w es h = .ok (es.set i (some w)) h := rfl
theorem gxSub_eq : gxSub a b w es h = (a es h).bind fun o h1 => (b es h1).bind fun i h2 => (setItemW o i w h2).bind fun _ h3 => .ok es h3 := rfl
theorem xMeth_eq {T : Bt} {f : W → List W → Hx → R W} : xMeth T f a r es h = (a es h).bind fun o h1 => if btOf h1 o = some T then (r es h1).bind fun ws h2 => f o ws h2 else .bad := rfl
theorem xSl_eq {l u : Ox} : xSl a l u es h = (a es h).bind fun x h1 => (l es h1).bind fun lo h2 => (u es h2).bind fun hi h3 => sliceW x lo hi h3 := rfl
theorem xNo_eq : xNo es h = .ok none h := rfl
theorem xYes_eq : xYes a es h = (a es h).bind fun w h1 => match w with | .int i => .ok (some i) h1 | _ => .bad := rfl
theorem xYesT_eq : xYesT es h = .ok true h := rfl
theorem xLc_eq {e : Ex} {vs : List Nat} : xLc it g t e vs es h = (it es h).bind fun c h1 => lcLoop g t e (wipeE es vs) (c.fuel h1 + 1) c [] h1 := rfl
theorem cast2 : (((2 : Nat) : Int) == 2) = true := rfl
theorem truth_bl {b : Bool} : truth h (.bl b) = some b := rfl
theorem btOf_str {z : List Nat} : btOf h (.str z) = some .str := rfl
theorem btOf_int {z : Int} : btOf h (.int z) = some .int := rfl
theorem btOf_tup {z : List W} : btOf h (.tup z) = some .tuple := rfl
theorem btOf_bl {z : Bool} : btOf h (.bl z) = some .bool := rfl
theorem btOf_non : btOf h .non = some .none := rfl
theorem isB_self {t : Bt} : isB t t = true := by cases t <;> rfl
theorem len_tup {xs : List W} : lenW [.tup xs] h = .ok (.int xs.length) h := rfl
theorem eq_str {a b : List Nat} : eqW (.str a) (.str b) h = .ok (.bl (a == b)) h := rfl
theorem ne_int {a b : Int} : neW (.int a) (.int b) h = .ok (.bl (!(a == b))) h := rfl
theorem isi_int {b : Bt} : isi1 (some b) .int h = .ok (.bl (isB b .int)) h := isi1_some (fun z => nomatch z)
theorem isi_bool {b : Bt} : isi1 (some b) .bool h = .ok (.bl (isB b .bool)) h := isi1_some (fun z => nomatch z)
theorem isi_str {b : Bt} : isi1 (some b) .str h = .ok (.bl (isB b .str)) h := isi1_some (fun z => nomatch z)
theorem isi_tuple {b : Bt} : isi1 (some b) .tuple h = .ok (.bl (isB b .tuple)) h := isi1_some (fun z => nomatch z)
theorem isi_list {b : Bt} : isi1 (some b) .list h = .ok (.bl (isB b .list)) h := isi1_some (fun z => nomatch z)
theorem isi_dict {b : Bt} : isi1 (some b) .dict h = .ok (.bl (isB b .dict)) h := isi1_some (fun z => nomatch z)
theorem add_int {i j : Int} : addW (.int i) (.int j) h = .ok (.int (i + j)) h := rfl
theorem sub_int {i j : Int} : subW (.int i) (.int j) h = .ok (.int (i - j)) h := rfl
theorem neg_int {i : Int} : negW (.int i) h = .ok (.int (-i)) h := rfl
theorem int_int {i : Int} : intW [.int i] h = .ok (.int i) h := rfl
theorem lt_int {i j : Int} : ltW (.int i) (.int j) h = .ok (.bl (decide (i < j))) h := rfl
theorem le_int {i j : Int} : leW (.int i) (.int j) h = .ok (.bl (decide (i ≤ j))) h := rfl
theorem gt_int {i j : Int} : gtW (.int i) (.int j) h = .ok (.bl (decide (j < i))) h := rfl
theorem ge_int {i j : Int} : geW (.int i) (.int j) h = .ok (.bl (decide (j ≤ i))) h := rfl
theorem mod_int {i j : Int} (c : 0 < j) : modW (.int i) (.int j) h = .ok (.int (i % j)) h := if_pos c
theorem fdiv_int {i j : Int} (c : 0 < j ∧ j < 1073741824) : fdivW (.int i) (.int j) h = .ok (.int (i / j)) h := if_pos c
theorem pow_int {i j : Int} (c : 0 ≤ j ∧ j ≤ 1000000 ∧ i.natAbs < 2 ^ 64) : powW (.int i) (.int j) h = .ok (.int (i ^ j.toNat)) h := if_pos c
theorem mul_int {i j : Int} (c : i.natAbs < 2 ^ 64 ∨ j.natAbs < 2 ^ 64) : mulW (.int i) (.int j) h = .ok (.int (i * j)) h := if_pos c
theorem max_int {i j : Int} : max2W [.int i, .int j] h = .ok (.int (if j > i then j else i)) h := rfl
theorem min_int {i j : Int} : min2W [.int i, .int j] h = .ok (.int (if j < i then j else i)) h := rfl
end
end Sx

set_option linter.all false
set_option maxRecDepth 100000
set_option maxHeartbeats 4000000
set_option exponentiation.threshold 2000
namespace Lw
open PySem L2 Sx
local macro_rules | `(tactic| walk_at "ev") => `(tactic| simp only [cSeq_eq, seqS_nx, seqS_rt, bind_ok, bindS_ok, noexc_ok, endOf_rt, endOf_nx, cNil_eq, cExpr_eq, cRet_eq, cRetN_eq, cIf_eq, cAsg_eq, cPar_eq, cFor_eq, xVar_eq, xC_eq, xOp_eq, xBl_eq, xChain_eq, xUn_eq, xTru_eq, xAndT_eq, xOrT_eq, xNotT_eq, xIf_eq, xAnd_eq, xOr_eq, xNot_eq, xNil_eq, xCons_eq, xTup_eq, xLst_eq, xDic0_eq, xCallB_eq, xCall_eq, xIt_eq, xRng1_eq, xRng2_eq, gxName_eq, gxSub_eq, xMeth_eq, xSl_eq, xNo_eq, xYes_eq, xLc_eq, isiW_eq, isi_int, isi_bool, isi_str, isi_tuple, isi_list, isi_dict, truth_bl, curOf, Cur.fuel, wipeE, isB_self, len_tup, ne_int, eq_str, btOf_str, btOf_int, btOf_tup, btOf_bl, btOf_non,
  add_int, sub_int, neg_int, int_int, lt_int, le_int, gt_int, ge_int, max_int, min_int, show (2 : Nat) ≤ lim from by decide, show (0 : Nat) ≤ lim from by decide, show (1 : Nat) ≤ lim from by decide, show (3 : Nat) ≤ lim from by decide,
  List.map_cons, List.map_nil, List.cons_append, List.nil_append, List.append_nil, List.length_cons, List.length_nil, List.getElem?_cons_zero, List.getElem?_cons_succ, List.getElem?_nil, List.set_cons_zero, List.set_cons_succ, Nat.reduceAdd, Nat.reduceSub, if_true, if_false, reduceIte, ite_true, Bool.false_eq_true, Bool.not_true, Bool.not_false, beq_self_eq_true, cast2])
local macro_rules | `(tactic| walk_at "evh") => `(tactic| simp only [cSeq_eq, seqS_nx, seqS_rt, bind_ok, bindS_ok, noexc_ok, endOf_rt, endOf_nx, cNil_eq, cExpr_eq, cRet_eq, cRetN_eq, cIf_eq, cAsg_eq, cPar_eq, cFor_eq, xVar_eq, xC_eq, xOp_eq, xBl_eq, xChain_eq, xUn_eq, xTru_eq, xAndT_eq, xOrT_eq, xNotT_eq, xIf_eq, xAnd_eq, xOr_eq, xNot_eq, xNil_eq, xCons_eq, xTup_eq, xLst_eq, xDic0_eq, xCallB_eq, xCall_eq, xIt_eq, xRng1_eq, xRng2_eq, gxName_eq, gxSub_eq, xMeth_eq, xSl_eq, xNo_eq, xYes_eq, xLc_eq, isiW_eq, isi_int, isi_bool, isi_str, isi_tuple, isi_list, isi_dict, truth_bl, curOf, Cur.fuel, wipeE, isB_self, len_tup, ne_int, eq_str, btOf_str, btOf_int, btOf_tup, btOf_bl, btOf_non,
  add_int, sub_int, neg_int, int_int, lt_int, le_int, gt_int, ge_int, max_int, min_int, show (2 : Nat) ≤ lim from by decide, show (0 : Nat) ≤ lim from by decide, show (1 : Nat) ≤ lim from by decide, show (3 : Nat) ≤ lim from by decide,
  List.map_cons, List.map_nil, List.cons_append, List.nil_append, List.append_nil, List.length_cons, List.length_nil, List.getElem?_cons_zero, List.getElem?_cons_succ, List.getElem?_nil, List.set_cons_zero, List.set_cons_succ, Nat.reduceAdd, Nat.reduceSub, if_true, if_false, reduceIte, ite_true, Bool.false_eq_true, Bool.not_true, Bool.not_false, beq_self_eq_true, cast2, *])
def b__law_numbers_1 : Sx :=
    (cIf (xAndT (xBl (xOp geW (xVar 3) (xOp powW (xC (.int 10)) (xC (.int 18))))) (xBl (xOp gtW (xVar 4) (xC (.int 0))))) (cSeq (cExpr (xMeth .list appendW (xVar 5) (xCons (xOp modW (xCallB intW (xCons (xVar 4) xNil)) (xOp ixW (xVar 2) (xVar 6))) xNil)))
    (cAsg (xOp fdivW (xVar 4) (xOp ixW (xVar 2) (xVar 6))) (gxName 4))) (cSeq (cAsg (xOp powW (xOp addW (xOp addW (xOp modW (xCallB intW (xCons (xVar 3) xNil)) (xC (.int 2147483629))) (xOp mulW (xC (.int 7919)) (xVar 1))) (xC (.int 1))) (xC (.int 3))) (gxName 7))
    (cSeq (cAsg (xOp mulW (xOp addW (xOp modW (xCallB intW (xCons (xVar 7) xNil)) (xC (.int 2147483647))) (xOp mulW (xC (.int 104729)) (xOp addW (xVar 6) (xC (.int 1))))) (xOp addW (xVar 6) (xC (.int 3)))) (gxName 7))
    (cSeq (cAsg (xOp modW (xCallB intW (xCons (xVar 7) xNil)) (xC (.int 2147483629))) (gxName 7))
    (cSeq (cAsg (xOp mulW (xOp modW (xCallB intW (xCons (xOp powW (xVar 7) (xC (.int 5))) xNil)) (xC (.int 2147483647))) (xC (.int 48271))) (gxName 7))
    (cSeq (cAsg (xOp modW (xCallB intW (xCons (xVar 7) xNil)) (xC (.int 2147483629))) (gxName 7))
    (cExpr (xMeth .list appendW (xVar 5) (xCons (xOp modW (xCallB intW (xCons (xOp fdivW (xVar 7) (xC (.int 16))) xNil)) (xOp ixW (xVar 2) (xVar 6))) xNil)))))))))
def c__law_numbers : Sx :=
    (cSeq (cAsg (xCallB max2W (xCons (xCallB intW (xCons (xVar 0) xNil)) (xCons (xCallB intW (xCons (xOp subW (xUn negW (xC (.int 1))) (xVar 0)) xNil)) xNil))) (gxName 3))
    (cSeq (cAsg (xVar 3) (gxName 4))
    (cSeq (cAsg (xLst xNil) (gxName 5))
    (cSeq (cFor (xRng1 (xCons (xCallB lenW (xCons (xVar 2) xNil)) xNil)) (gxName 6) b__law_numbers_1)
    (cRet (xVar 5))))))
def f__law_numbers : Fn := mkFn0 3 8 c__law_numbers
def c__law_draw : Sx :=
    (cSeq (cAsg (xOp ixW (xVar 0) (xC (.int 1))) (gxName 2))
    (cSeq (cAsg (xOp addW (xVar 2) (xC (.int 1))) (gxSub (xVar 0) (xC (.int 1))))
    (cRet (xIf (xBl (xOp ltW (xVar 2) (xCallB lenW (xCons (xOp ixW (xVar 0) (xC (.int 0))) xNil)))) (xOp modW (xCallB intW (xCons (xOp ixW (xOp ixW (xVar 0) (xC (.int 0))) (xVar 2)) xNil)) (xVar 1)) (xC (.int 0))))))
def f__law_draw : Fn := mkFn0 2 3 c__law_draw
def c__law_pool : Sx :=
    (cRet (xLst (xCons (xCall f__law_numbers (xCons (xVar 0) (xCons (xVar 1) (xCons (xOp mulW (xLst (xCons (xC (.int 420)) xNil)) (xVar 2)) xNil)))) (xCons (xC (.int 0)) xNil))))
def f__law_pool : Fn := mkFn0 3 3 c__law_pool
def c__law_pick : Sx :=
    (cRet (xOp ixW (xVar 1) (xCall f__law_draw (xCons (xVar 0) (xCons (xCallB lenW (xCons (xVar 1) xNil)) xNil)))))
def f__law_pick : Fn := mkFn0 2 2 c__law_pick
def c__law_opened : Sx :=
    (cSeq (cAsg (xIf (xBl (xOp neW (xVar 0) (xLst xNil))) (xOp ixW (xVar 0) (xVar 1)) (xC (.int 7))) (gxName 3))
    (cRet (xCall f__law_pool (xCons (xVar 3) (xCons (xVar 1) (xCons (xVar 2) xNil))))))
def f__law_opened : Fn := mkFn0 3 4 c__law_opened
/-! ### drawing -/
structure PoolAt (h : Hx) (p : Nat) : Prop where
  ex : ∃ (a : Nat) (at_ : Int) (xs : List Int), h.get p = some (.lst [.ref a, .int at_]) ∧ h.get a = some (.lst (xs.map W.int)) ∧ 0 ≤ at_ ∧ a ≠ p ∧ p < h.n ∧ a < h.n
theorem PoolAt.ext {h h' : Hx} {p : Nat} (P : PoolAt h p) (e : Ext h h') : PoolAt h' p := by
  obtain ⟨a, at_, xs, e1, e2, h0, ne, l1, l2⟩ := P.ex
  exact ⟨a, at_, xs, (e.at_ p l1).trans e1, (e.at_ a l2).trans e2, h0, ne, Nat.lt_of_lt_of_le l1 e.le, Nat.lt_of_lt_of_le l2 e.le⟩
theorem PoolAt.lt {h : Hx} {p : Nat} (P : PoolAt h p) : p < h.n := by
  obtain ⟨a, at_, xs, e1, e2, h0, ne, l1, l2⟩ := P.ex
  exact l1
theorem ix_lst {h : Hx} {i : Nat} {xs : List W} {j : Int} {w : W} (g : h.get i = some (.lst xs)) (e : atI xs j = some w) : ixW (.ref i) (.int j) h = .ok w h := by
  show (match seqOf h (.ref i) with
    | some xs => match atI xs j with
      | some w => R.ok w h
      | none => .bad
    | none => .bad) = _
  have : seqOf h (.ref i) = some xs := by
    show (match h.get i with
      | some (.lst xs) => some xs
      | _ => none) = some xs
    rw [g]
  rw [this]
  show (match atI xs j with
      | some w => R.ok w h
      | none => .bad) = _
  rw [e]
theorem set_lst {h : Hx} {i : Nat} {xs : List W} {j : Int} {m : Nat} {w : W} (g : h.get i = some (.lst xs)) (e : ixN xs.length j = some m) : setItemW (.ref i) (.int j) w h = .ok () (h.put i (.lst (xs.set m w))) := by
  unfold setItemW
  simp only [g, e]
theorem len_lst {h : Hx} {i : Nat} {xs : List W} (g : h.get i = some (.lst xs)) : lenW [.ref i] h = .ok (.int xs.length) h := by
  show (match h.get i with
      | some (.lst xs) => R.ok (W.int xs.length) h
      | some (.dic false kvs) => .ok (.int kvs.length) h
      | _ => .bad) = _
  rw [g]
theorem ev_draw (p : Nat) (m : Int) (h : Hx) (P : PoolAt h p) (hm : 0 < m) : ∃ r h', f__law_draw [.ref p, .int m] h = .ok (.int r) h' ∧ 0 ≤ r ∧ r < m ∧ PoolAt h' p ∧ h'.n = h.n ∧ ∀ i, i ≠ p → h'.get i = h.get i := by
  obtain ⟨a, at_, xs, g1, g2, h0, ne, l1, l2⟩ := P.ex
  have t1 : f__law_draw [.ref p, .int m] h = noexc (endOf (c__law_draw [some (.ref p), some (.int m), none] h)) := rfl
  have i1 : ixW (.ref p) (.int 1) h = .ok (.int at_) h := ix_lst g1 rfl
  have s1 : setItemW (.ref p) (.int 1) (.int (at_ + 1)) h = .ok () (h.put p (.lst [.ref a, .int (at_ + 1)])) := set_lst (m := 1) g1 rfl
  have k1 : (h.put p (.lst [.ref a, .int (at_ + 1)])).get p = some (.lst [.ref a, .int (at_ + 1)]) := get_put_same
  have k2 : (h.put p (.lst [.ref a, .int (at_ + 1)])).get a = some (.lst (xs.map W.int)) := (get_put_ne ne).trans g2
  have P' : PoolAt (h.put p (.lst [.ref a, .int (at_ + 1)])) p := ⟨a, at_ + 1, xs, k1, k2, by omega, ne, l1, l2⟩
  have i0 := ix_lst (j := 0) k1 (w := .ref a) rfl
  have ln := len_lst k2
  rw [t1]
  unfold c__law_draw
  by_cases c : at_ < ((xs.map W.int).length : Int)
  · have hl : at_.toNat < xs.length := by
      rw [List.length_map] at c
      omega
    have ix : atI (xs.map W.int) at_ = some (.int xs[at_.toNat]) := by
      have e : at_ = ((at_.toNat : Nat) : Int) := by omega
      conv => lhs; rw [e]
      exact atI_nat (by rw [List.getElem?_map, List.getElem?_eq_getElem hl]; rfl)
    have i2 := ix_lst k2 ix
    refine ⟨xs[at_.toNat] % m, h.put p (.lst [.ref a, .int (at_ + 1)]), ?_, Int.emod_nonneg _ (by omega), Int.emod_lt_of_pos _ hm, P', rfl, fun i hi => get_put_ne hi⟩
    clear t1 P P' g1 g2 k1 k2 ix
    simp only [add_int, int_int, lt_int, mod_int hm, decide_eq_true c, i0, i1, i2, s1, ln, cSeq_eq, seqS_nx, bind_ok, bindS_ok, noexc_ok, endOf_rt, cRet_eq, cAsg_eq, xVar_eq, xC_eq, xOp_eq, xBl_eq, xIf_eq, xNil_eq, xCons_eq, xCallB_eq, gxName_eq, gxSub_eq, List.getElem?_cons_zero, List.getElem?_cons_succ, List.set_cons_zero, List.set_cons_succ, if_true]
  · refine ⟨0, h.put p (.lst [.ref a, .int (at_ + 1)]), ?_, Int.le_refl _, hm, P', rfl, fun i hi => get_put_ne hi⟩
    clear t1 P P' g1 g2 k1 k2
    simp only [add_int, int_int, lt_int, mod_int hm, decide_eq_false c, i0, i1, s1, ln, cSeq_eq, seqS_nx, bind_ok, bindS_ok, noexc_ok, endOf_rt, cRet_eq, cAsg_eq, xVar_eq, xC_eq, xOp_eq, xBl_eq, xIf_eq, xNil_eq, xCons_eq, xCallB_eq, gxName_eq, gxSub_eq, List.getElem?_cons_zero, List.getElem?_cons_succ, List.set_cons_zero, List.set_cons_succ, Bool.false_eq_true, if_false]
theorem ev_pick (p l : Nat) (ws : List W) (h : Hx) (P : PoolAt h p) (gl : h.get l = some (.lst ws)) (hl : l ≠ p) (hw : ws ≠ []) : ∃ w h', f__law_pick [.ref p, .ref l] h = .ok w h' ∧ w ∈ ws ∧ PoolAt h' p ∧ h'.n = h.n ∧ ∀ i, i ≠ p → h'.get i = h.get i := by
  have t1 : f__law_pick [.ref p, .ref l] h = noexc (endOf (c__law_pick [some (.ref p), some (.ref l)] h)) := rfl
  have pos : (0 : Int) < (ws.length : Int) := by
    cases ws with
    | nil => exact absurd rfl hw
    | cons _ _ => rw [List.length_cons]; omega
  obtain ⟨r, h1, e1, r0, r1, P1, n1, k1⟩ := ev_draw p ws.length h P pos
  have ln := len_lst gl
  have hr : r.toNat < ws.length := by omega
  have ix : ixW (.ref l) (.int r) h1 = .ok ws[r.toNat] h1 := ix_lst ((k1 l hl).trans gl) (by
    have e : r = ((r.toNat : Nat) : Int) := by omega
    conv => lhs; rw [e]
    exact atI_nat (List.getElem?_eq_getElem hr))
  refine ⟨ws[r.toNat], h1, ?_, List.getElem_mem hr, P1, n1, k1⟩
  rw [t1]
  unfold c__law_pick
  clear t1
  simp only [ln, e1, ix, bind_ok, bindS_ok, noexc_ok, endOf_rt, cRet_eq, xVar_eq, xC_eq, xOp_eq, xNil_eq, xCons_eq, xCallB_eq, xCall_eq, List.getElem?_cons_zero, List.getElem?_cons_succ]
theorem append_lst {h : Hx} {i : Nat} {xs : List W} {w : W} (g : h.get i = some (.lst xs)) (c : xs.length < lim) : appendW (.ref i) [w] h = .ok .non (h.put i (.lst (xs ++ [w]))) := by
  show (match h.get i with
    | some (.lst xs) => if xs.length < lim then R.ok W.non (h.put i (.lst (xs ++ [w]))) else .bad
    | _ => .bad) = _
  rw [g]
  exact if_pos c
theorem bt_lst {h : Hx} {i : Nat} {xs : List W} (g : h.get i = some (.lst xs)) : btOf h (.ref i) = some .list := by
  show (match h.get i with
    | some (.lst _) => some Bt.list
    | some (.dic _ _) => some .dict
    | _ => none) = _
  rw [g]
/-- the numbers of a pool -/
theorem ev_numbers (c s : Int) (z m : Nat) (h : Hx) (gz : h.get z = some (.lst (List.replicate m (.int 420)))) (hz : z < h.n) (hs : 0 ≤ s ∧ s ≤ 100) (hm : m ≤ 1000) :
    ∃ xs : List Int, ∃ h', f__law_numbers [.int c, .int s, .ref z] h = .ok (.ref h.n) h' ∧ h'.n = h.n + 1 ∧ (∀ i, i < h.n → h'.get i = h.get i) ∧ h'.get h.n = some (.lst (xs.map W.int)) := by
  have t1 : f__law_numbers [.int c, .int s, .ref z] h = noexc (endOf (c__law_numbers [some (.int c), some (.int s), some (.ref z), none, none, none, none, none] h)) := rfl
  generalize hw : (if (-1 - c) > c then (-1 - c) else c) = whole
  let I : Nat → Sx.Env → Hx → Prop := fun j es h' => ∃ (l : Int) (k o : Option W) (xs : List Int), es = [some (.int c), some (.int s), some (.ref z), some (.int whole), some (.int l), some (.ref h.n), k, o] ∧ h'.n = h.n + 1 ∧ (∀ i, i < h.n → h'.get i = h.get i) ∧ h'.get h.n = some (.lst (xs.map W.int)) ∧ xs.length = j
  have turn : ∀ (i : Nat) (es : Sx.Env) (h' : Hx), 0 ≤ i → i < 0 + m → I i es h' → ∃ es2 h2, gxName 6 (.int (0 + i)) es h' = .ok es2 h2 ∧ ∃ es3 h3, b__law_numbers_1 es2 h2 = .fl (.nx es3) h3 ∧ I (i + 1) es3 h3 := by
    rintro i es h' _ hi ⟨l, k, o, xs, rfl, n1, k1, gx, lx⟩
    refine ⟨[some (.int c), some (.int s), some (.ref z), some (.int whole), some (.int l), some (.ref h.n), some (.int (0 + i)), o], _, rfl, ?_⟩
    have zi : (h'.get z) = some (.lst (List.replicate m (.int 420))) := (k1 z hz).trans gz
    have ai : atI (List.replicate m (W.int 420)) (0 + (i : Int)) = some (.int 420) := by
      rw [show (0 + (i : Int)) = ((i : Nat) : Int) by omega]
      exact atI_nat (by rw [List.getElem?_replicate, if_pos (by omega)])
    have ix : ixW (.ref z) (.int (0 + i)) h' = .ok (.int 420) h' := ix_lst zi ai
    have bt := bt_lst gx
    have ap : ∀ w, appendW (.ref h.n) [w] h' = .ok .non (h'.put h.n (.lst (xs.map W.int ++ [w]))) := fun w => append_lst gx (by rw [List.length_map]; show xs.length < 100000; omega)
    have fin : ∀ (v l' : Int) (o' : Option W), I (i + 1) [some (.int c), some (.int s), some (.ref z), some (.int whole), some (.int l'), some (.ref h.n), some (.int (0 + i)), o'] (h'.put h.n (.lst (xs.map W.int ++ [.int v]))) := fun v l' o' =>
      ⟨l', _, o', xs ++ [v], rfl, n1, fun j hj => (get_put_ne (Nat.ne_of_lt hj)).trans (k1 j hj), by rw [get_put_same, List.map_append]; rfl, by rw [List.length_append, lx]; rfl⟩
    have iz : ∀ (w : Int), ixW (.ref z) (.int (0 + i)) (h'.put h.n (.lst (xs.map W.int ++ [.int w]))) = .ok (.int 420) (h'.put h.n (.lst (xs.map W.int ++ [.int w]))) := fun w => ix_lst ((get_put_ne (Nat.ne_of_lt hz)).trans zi) ai
    have p18 : ∀ {h : Hx}, powW (.int 10) (.int 18) h = .ok (.int (10 ^ 18)) h := fun {h} => pow_int (i := 10) (j := 18) (by decide)
    have m420 : ∀ {v : Int} {h : Hx}, modW (.int v) (.int 420) h = .ok (.int (v % 420)) h := fun {v h} => mod_int (by decide)
    have f420 : ∀ {v : Int} {h : Hx}, fdivW (.int v) (.int 420) h = .ok (.int (v / 420)) h := fun {v h} => fdiv_int (by decide)
    have f16 : ∀ {v : Int} {h : Hx}, fdivW (.int v) (.int 16) h = .ok (.int (v / 16)) h := fun {v h} => fdiv_int (by decide)
    have ma : ∀ {v : Int} {h : Hx}, modW (.int v) (.int 2147483629) h = .ok (.int (v % 2147483629)) h := fun {v h} => mod_int (by decide)
    have mb : ∀ {v : Int} {h : Hx}, modW (.int v) (.int 2147483647) h = .ok (.int (v % 2147483647)) h := fun {v h} => mod_int (by decide)
    have mu1 : ∀ {v : Int} {h : Hx}, mulW (.int 7919) (.int v) h = .ok (.int (7919 * v)) h := fun {v h} => mul_int (.inl (by decide))
    have mu2 : ∀ {v : Int} {h : Hx}, mulW (.int 104729) (.int v) h = .ok (.int (104729 * v)) h := fun {v h} => mul_int (.inl (by decide))
    have mu3 : ∀ {v : Int} {h : Hx}, mulW (.int v) (.int 48271) h = .ok (.int (v * 48271)) h := fun {v h} => mul_int (.inr (by decide))
    have mu4 : ∀ {v : Int} {h : Hx}, mulW (.int v) (.int (0 + i + 3)) h = .ok (.int (v * (0 + i + 3))) h := fun {v h} => mul_int (.inr (by omega))
    have pw3 : ∀ {h : Hx}, powW (.int (whole % 2147483629 + 7919 * s + 1)) (.int 3) h = .ok (.int ((whole % 2147483629 + 7919 * s + 1) ^ (3 : Int).toNat)) h := fun {h} => pow_int (by
      have a1 := Int.emod_nonneg whole (show (2147483629 : Int) ≠ 0 by decide)
      have a2 := Int.emod_lt_of_pos whole (show (0 : Int) < 2147483629 by decide)
      omega)
    have pw5 : ∀ {v : Int} {h : Hx}, powW (.int (v % 2147483629)) (.int 5) h = .ok (.int ((v % 2147483629) ^ (5 : Int).toNat)) h := fun {v h} => pow_int (by
      have a1 := Int.emod_nonneg v (show (2147483629 : Int) ≠ 0 by decide)
      have a2 := Int.emod_lt_of_pos v (show (0 : Int) < 2147483629 by decide)
      omega)
    by_cases c1 : (10 ^ 18 : Int) ≤ whole ∧ 0 < l
    · refine ⟨_, _, ?_, fin (l % 420) (l / 420) o⟩
      unfold b__law_numbers_1
      simp only [p18, m420, f420, ge_int, gt_int, int_int, ix, iz, bt, ap, decide_eq_true c1.1, decide_eq_true c1.2, cSeq_eq, seqS_nx, bind_ok, bindS_ok, cIf_eq, cExpr_eq, cAsg_eq, xVar_eq, xC_eq, xOp_eq, xBl_eq, xAndT_eq, xMeth_eq, xNil_eq, xCons_eq, xCallB_eq, gxName_eq, List.getElem?_cons_zero, List.getElem?_cons_succ, List.set_cons_zero, List.set_cons_succ, if_true]
    · generalize ho : ((((whole % 2147483629 + 7919 * s + 1) ^ (3 : Int).toNat % 2147483647 + 104729 * (0 + i + 1)) * (0 + i + 3)) % 2147483629) ^ (5 : Int).toNat % 2147483647 * 48271 % 2147483629 = o4
      refine ⟨_, _, ?_, fin (o4 / 16 % 420) l (some (.int o4))⟩
      have fls : ∀ (a b : Sx) (es : Sx.Env), es = [some (.int c), some (.int s), some (.ref z), some (.int whole), some (.int l), some (.ref h.n), some (.int (0 + i)), o] →
          cIf (xAndT (xBl (xOp geW (xVar 3) (xOp powW (xC (.int 10)) (xC (.int 18))))) (xBl (xOp gtW (xVar 4) (xC (.int 0))))) a b es h' = b es h' := fun a b es e => by
        subst e
        simp only [p18, ge_int, gt_int, bind_ok, cIf_eq, xVar_eq, xC_eq, xOp_eq, xBl_eq, xAndT_eq, List.getElem?_cons_zero, List.getElem?_cons_succ]
        by_cases d : (10 ^ 18 : Int) ≤ whole
        · rw [decide_eq_true d, if_pos rfl, decide_eq_false (fun q => c1 ⟨d, q⟩), bindS_ok, if_neg Bool.false_ne_true]
        · rw [decide_eq_false d, if_neg Bool.false_ne_true, bindS_ok, if_neg Bool.false_ne_true]
      unfold b__law_numbers_1
      rw [fls _ _ _ rfl]
      simp only [pw3, pw5, ma, mb, mu1, mu2, mu3, mu4, m420, f16, add_int, int_int, ix, bt, ap, cSeq_eq, seqS_nx, bind_ok, bindS_ok, cExpr_eq, cAsg_eq, xVar_eq, xC_eq, xOp_eq, xMeth_eq, xNil_eq, xCons_eq, xCallB_eq, gxName_eq, List.getElem?_cons_zero, List.getElem?_cons_succ, List.set_cons_zero, List.set_cons_succ, if_true, ho]
  have start : I 0 [some (.int c), some (.int s), some (.ref z), some (.int whole), some (.int whole), some (.ref h.n), none, none] (h.new (.lst [])) := ⟨whole, none, none, [], rfl, rfl, fun i hi => get_new_ne (Nat.ne_of_lt hi), get_new_same, rfl⟩
  obtain ⟨es', h', e', l, k, o, xs, rfl, n1, k1, gx, lx⟩ := for_rng I 0 m 0 _ _ start turn
  refine ⟨xs, h', ?_, n1, k1, gx⟩
  have gz' : (h.new (.lst [])).get z = some (.lst (List.replicate m (.int 420))) := (get_new_ne (Nat.ne_of_lt hz)).trans gz
  have ln := len_lst gz'
  rw [List.length_replicate] at ln
  rw [t1]
  unfold c__law_numbers
  have rg : rng1W [.int (m : Int)] (h.new (.lst [])) = .ok (.rng 0 m) (h.new (.lst [])) := by
    show (if -1000000 ≤ (m : Int) ∧ (m : Int) ≤ 1000000 then R.ok (Cur.rng 0 (m : Int).toNat) (h.new (.lst [])) else .bad) = _
    rw [if_pos (by omega), Int.toNat_natCast]
  have e2 : forLoop (gxName 6) b__law_numbers_1 (m + 1) (.rng 0 m) [some (.int c), some (.int s), some (.ref z), some (.int whole), some (.int whole), some (.ref h.n), none, none] (h.new (.lst [])) = .fl (.nx [some (.int c), some (.int s), some (.ref z), some (.int whole), some (.int l), some (.ref h.n), k, o]) h' := e'
  simp only [max_int, int_int, sub_int, neg_int, hw, ln, rg, cSeq_eq, seqS_nx, bind_ok, bindS_ok, cAsg_eq, cFor_eq, xRng1_eq, xVar_eq, xC_eq, xOp_eq, xUn_eq, xNil_eq, xCons_eq, xCallB_eq, xLst_eq, gxName_eq, List.getElem?_cons_zero, List.getElem?_cons_succ, List.set_cons_zero, List.set_cons_succ, List.length_nil, Nat.zero_le, if_true, Cur.fuel, e2, cRet_eq, endOf_rt, noexc_ok]
theorem flat_rep (m : Nat) (w : W) : (List.replicate m [w]).flatten = List.replicate m w := by
  induction m with
  | zero => rfl
  | succ m ih => rw [List.replicate_succ, List.flatten_cons, ih, List.replicate_succ]; rfl
theorem xLst_ok {a : Ax} {es : Sx.Env} {h h1 : Hx} {ws : List W} (e : a es h = .ok ws h1) (l : ws.length ≤ lim) : xLst a es h = .ok (.ref h1.n) (h1.new (.lst ws)) := by
  unfold xLst
  rw [e, bind_ok, if_pos l]
theorem ev_pool (c s : Int) (m : Nat) (h : Hx) (hs : 0 ≤ s ∧ s ≤ 100) (hm : m ≤ 1000) : ∃ p h', f__law_pool [.int c, .int s, .int m] h = .ok (.ref p) h' ∧ PoolAt h' p ∧ Ext h h' ∧ h.n ≤ p := by
  have t1 : f__law_pool [.int c, .int s, .int m] h = noexc (endOf (c__law_pool [some (.int c), some (.int s), some (.int m)] h)) := rfl
  let h1 := h.new (.lst [.int 420])
  have g1 : h1.get h.n = some (.lst [.int 420]) := get_new_same
  let h2 := h1.new (.lst (List.replicate m (.int 420)))
  have e2 : mulW (.ref h.n) (.int m) h1 = .ok (.ref (h.n + 1)) h2 := by
    show (match h1.get h.n with
      | some (.lst a) => if 0 ≤ (m : Int) ∧ (m : Int) ≤ 100000 ∧ a.length * (m : Int).toNat ≤ lim then R.ok (W.ref h1.n) (h1.new (.lst (List.replicate (m : Int).toNat a).flatten)) else .bad
      | _ => .bad) = _
    rw [g1]
    show (if 0 ≤ (m : Int) ∧ (m : Int) ≤ 100000 ∧ 1 * (m : Int).toNat ≤ lim then R.ok (W.ref h1.n) (h1.new (.lst (List.replicate (m : Int).toNat [W.int 420]).flatten)) else .bad) = _
    rw [if_pos (show 0 ≤ (m : Int) ∧ (m : Int) ≤ 100000 ∧ 1 * (m : Int).toNat ≤ 100000 by omega), Int.toNat_natCast]
    rw [flat_rep]
    rfl
  have g2 : h2.get (h.n + 1) = some (.lst (List.replicate m (.int 420))) := get_new_same
  obtain ⟨xs, h3, e3, n3, k3, g3⟩ := ev_numbers c s (h.n + 1) m h2 g2 (Nat.lt_succ_self _) hs hm
  have n2 : h2.n = h.n + 2 := rfl
  refine ⟨h3.n, h3.new (.lst [.ref h2.n, .int 0]), ?_, ⟨h2.n, 0, xs, get_new_same, ?_, Int.le_refl _, ?_, ?_, ?_⟩, ⟨?_, fun i hi => ?_⟩, by omega⟩
  · rw [t1]
    unfold c__law_pool
    have e1 : xLst (xCons (xC (.int 420)) xNil) [some (.int c), some (.int s), some (.int m)] h = .ok (.ref h.n) h1 := rfl
    have e4 : (xCons (xCall f__law_numbers (xCons (xVar 0) (xCons (xVar 1) (xCons (xOp mulW (xLst (xCons (xC (.int 420)) xNil)) (xVar 2)) xNil)))) (xCons (xC (.int 0)) xNil)) [some (.int c), some (.int s), some (.int m)] h = .ok [.ref h2.n, .int 0] h3 := by
      rw [xCons_eq]
      have a1 : (xCall f__law_numbers (xCons (xVar 0) (xCons (xVar 1) (xCons (xOp mulW (xLst (xCons (xC (.int 420)) xNil)) (xVar 2)) xNil)))) [some (.int c), some (.int s), some (.int m)] h = .ok (.ref h2.n) h3 := by
        rw [xCall_eq, ← e3]
        have a2 : (xOp mulW (xLst (xCons (xC (.int 420)) xNil)) (xVar 2)) [some (.int c), some (.int s), some (.int m)] h = .ok (.ref (h.n + 1)) h2 := by
          rw [xOp_eq, e1]
          exact e2
        simp only [xCons_eq, a2, xVar_eq, xNil_eq, bind_ok, List.getElem?_cons_zero, List.getElem?_cons_succ]
      rw [a1]
      rfl
    simp only [cRet_eq, xLst_ok e4 (show 2 ≤ 100000 by decide), bindS_ok, endOf_rt, noexc_ok]
  · rw [get_new_ne (by omega)]
    exact g3
  · omega
  · exact Nat.lt_succ_self _
  · show h2.n < h3.n + 1
    omega
  · show h.n ≤ h3.n + 1
    omega
  · rw [get_new_ne (by omega), k3 i (by omega)]
    show (h1.new _).get i = _
    rw [get_new_ne (show i ≠ h1.n from Nat.ne_of_lt (Nat.lt_succ_of_lt hi)), get_new_ne (Nat.ne_of_lt hi)]
theorem fls_ne_nil {h : Hx} {ns : List Int} : neW (.fls (ns.map W.int)) (.ref h.n) (h.new (.lst [])) = .ok (.bl (!ns.isEmpty)) (h.new (.lst [])) := by
  have k : ∀ ns : List Int, (ns.map W.int).all (okD (h.new (.lst [])) 19) = true := fun ns => by
    induction ns with
    | nil => rfl
    | cons x r ih => rw [List.map_cons, List.all_cons, ih]; rfl
  have e : okD (h.new (.lst [])) dep (.ref h.n) = true := by
    show (match (h.new (.lst [])).get h.n with
      | some (.lst xs) => xs.all (okD (h.new (.lst [])) 19)
      | _ => false) = true
    rw [get_new_same]
    rfl
  have e1 : okD (h.new (.lst [])) dep (.fls (ns.map W.int)) = true := k ns
  have e2 : eqO (.fls (ns.map W.int)) (.ref h.n) (h.new (.lst [])) = some ns.isEmpty := by
    show (if okD (h.new (.lst [])) dep (.fls (ns.map W.int)) && okD (h.new (.lst [])) dep (.ref h.n) then some (eqH (h.new (.lst [])) dep (.fls (ns.map W.int)) (.ref h.n)) else none) = _
    rw [e, e1]
    show some (match itemsOf (h.new (.lst [])) (.fls (ns.map W.int)), itemsOf (h.new (.lst [])) (.ref h.n) with
      | some a, some b => eqAll (eqH (h.new (.lst [])) 19) a b
      | _, _ => false) = _
    have : itemsOf (h.new (.lst [])) (.ref h.n) = some [] := by
      show (match (h.new (.lst [])).get h.n with
        | some (.lst xs) => some xs
        | _ => none) = _
      rw [get_new_same]
    rw [this]
    cases ns <;> rfl
  unfold neW
  rw [e2]
theorem ev_opened (ns : List Int) (k m : Nat) (h : Hx) (hk : ns ≠ [] → k < ns.length) (hk2 : k ≤ 100) (hm : m ≤ 1000) : ∃ p h', f__law_opened [.fls (ns.map W.int), .int k, .int m] h = .ok (.ref p) h' ∧ PoolAt h' p ∧ Ext h h' ∧ h.n ≤ p := by
  have t1 : f__law_opened [.fls (ns.map W.int), .int k, .int m] h = noexc (endOf (c__law_opened [some (.fls (ns.map W.int)), some (.int k), some (.int m), none] h)) := rfl
  have e1 : ∀ es : Sx.Env, xLst xNil es h = .ok (.ref h.n) (h.new (.lst [])) := fun es => rfl
  have x1 : Ext h (h.new (.lst [])) := Ext.new _ _
  obtain ⟨c, hc⟩ : ∃ c : Int, (xIf (xBl (xOp neW (xVar 0) (xLst xNil))) (xOp ixW (xVar 0) (xVar 1)) (xC (.int 7))) [some (.fls (ns.map W.int)), some (.int k), some (.int m), none] h = .ok (.int c) (h.new (.lst [])) := by
    by_cases c : ns = []
    · subst c
      exact ⟨7, by simp only [xIf_eq, xBl_eq, xOp_eq, xVar_eq, xC_eq, e1, fls_ne_nil, bind_ok, List.getElem?_cons_zero, List.getElem?_cons_succ]; rfl⟩
    · have hl := hk c
      have hn : (!ns.isEmpty) = true := by cases ns <;> first | exact absurd rfl c | rfl
      have ix : ixW (.fls (ns.map W.int)) (.int k) (h.new (.lst [])) = .ok (.int ns[k]) (h.new (.lst [])) := by
        show (match atI (ns.map W.int) (k : Int) with
          | some w => R.ok w (h.new (.lst []))
          | none => .bad) = _
        rw [atI_nat (v := W.int ns[k]) (by rw [List.getElem?_map, List.getElem?_eq_getElem hl]; rfl)]
      exact ⟨ns[k], by simp only [xIf_eq, xBl_eq, xOp_eq, xVar_eq, xC_eq, e1, fls_ne_nil, hn, ix, bind_ok, List.getElem?_cons_zero, List.getElem?_cons_succ, if_true]⟩
  obtain ⟨p, h2, e2, P2, x2, l2⟩ := ev_pool c k m (h.new (.lst [])) (by omega) hm
  refine ⟨p, h2, ?_, P2, x1.trans x2, Nat.le_trans x1.le l2⟩
  rw [t1]
  unfold c__law_opened
  simp only [hc, e2, cSeq_eq, seqS_nx, cAsg_eq, cRet_eq, xCall_eq, xVar_eq, xCons_eq, xNil_eq, gxName_eq, bind_ok, bindS_ok, endOf_rt, noexc_ok, List.getElem?_cons_zero, List.getElem?_cons_succ, List.set_cons_zero, List.set_cons_succ]
end Lw

set_option linter.all false
set_option autoImplicit false
set_option maxRecDepth 100000
set_option maxHeartbeats 2000000
namespace Sx
open PySem L2
open PySem.Builtin.ObjectAttr PyProof.Rows
/-! ### own exceptions: made -/
abbrev exT : List Value := [.type "Exception", .type "BaseException", .type "object"]
/-- what the written part says of an own exception class, at C -/
structure XCls (K : PySem.W.Frag) (C : Addr) : Prop where
  ini : PySem.W.excInitIn K C exT "Exception.__new__" = true
  ovr : PySem.W.excOver K C exT = true
  sa : PySem.W.findIn K (.ref C) "__setattr__" = some (some (.builtin "object.__setattr__"))
  is : ExcC K C
  ty : PySem.W.typeIn K (.ref C) = some (.type "type")
  kp : PySem.W.keepIn K (.ref C) = true
/-- def __init__(self, f): self.f = f -/
def initArgs (f : Str) (p1 p2 : Pos) : Arguments := ⟨[], [⟨"self", none, p1⟩, ⟨f, none, p2⟩], none, [], [], none, []⟩
def initBody (f : Str) (q1 q2 q3 q4 : Pos) : List Stmt := [.Assign [.Attribute (.Name "self" q1) f q2] (.Name f q3) q4]
def initScope (f : Str) : Scope := ⟨.function, [("self", .local), (f, .local)], false, false, []⟩
/-- its __init__ with one field f, at fI -/
structure XIni (K : PySem.W.Frag) (C : Addr) (f : Str) : Prop where
  no : PySem.W.findIn K (.ref C) f = some none
  fn : ∃ (fI : Addr) (qual : Str) (oc : Value) (od : Option Addr) (doc pm : Value) (an : Option Addr) (cdv ct : Value) (osl : Array (Option Value)) (p1 p2 q1 q2 q3 q4 : Pos),
    PySem.W.findIn K (.ref C) "__init__" = some (some (.ref fI)) ∧ PySem.W.typeIn K (.ref fI) = some (.type "function") ∧
    K.lookup fI = some ⟨oc, od, .func (PySem.W.fnOf "__init__" qual (initArgs f p1 p2) (initBody f q1 q2 q3 q4) (initScope f) .none .none doc pm an cdv ct), osl⟩ ∧ PySem.W.codeIn K cdv qual = true
/-- the names of fields that are told -/
abbrev fieldNames : List Str := ["value", "part", "at", "number", "claim", "row"]
/-- what a made exception leaves -/
structure Made1 (h h' : Heap) (e C d : Addr) (f : Str) (v : Value) : Prop where
  keep : ∀ b o, h.get? b = some o → h'.get? b = some o
  new : h.objs.size ≤ e
  obj : ∃ t0, h'.get? e = some ({ cls := .ref C, dict := some d, data := .fields #[.ref t0, .none, .none, .none, .bool false, .none] } : Obj)
  dbig : h.objs.size ≤ d
  dne : d ≠ e
  ns : h'.Ns1 d (fun y => if y = f then some v else none)
section
variable {prog : Program} {w : World} {A : Around} {E : Value → Shared → Prop} {R : Result → Shared → Prop} {s : Shared} {K : PySem.W.Frag} {C : Addr} {f : Str}
/-- self.f = v, the first field -/
theorem xc_store (T : XCls K C) (no : PySem.W.findIn K (.ref C) f = some none) {x : Addr} {v : Value} {t0 : Addr} {Q : Unit → Shared → Prop} (X : K.In s.heap) (hx : s.heap.get? x = some (HandSPX.excO C t0))
    (hq : ∀ h' tk' dx, (∀ b o, b ≠ x → s.heap.get? b = some o → h'.get? b = some o) → s.heap.objs.size ≤ dx → dx ≠ x → h'.get? x = some ({ cls := .ref C, dict := some dx, data := .fields #[.ref t0, .none, .none, .none, .bool false, .none] } : Obj) →
      h'.Ns1 dx (fun y => if y = f then some v else none) → Q () { s with heap := h', toks := tk' }) : wpAny (model prog w) A (setAttr (.ref x) f v) Q E s := by
  have I : PySem.W.InstAt s.heap x (HandSPX.excO C t0) C none := ⟨hx, rfl, rfl, trivial⟩
  obtain ⟨cd, hcd, hov⟩ := PySem.W.any_some T.ovr
  have hd : cd.hasDict = true := by
    obtain ⟨cd', hc', hd'⟩ := PySem.W.any_some T.is.hd
    rw [hcd] at hc'
    cases hc'
    exact hd'
  refine PySem.W.set_plain X I T.sa ?_
  obtain ⟨hp, g, d, t, os⟩ := s
  refine PySem.W.osa_openX (s := ⟨hp, g, d, t + 1, os⟩) PySem.F.store_Exception X I T.ovr (r := none) (by unfold PySem.W.takerIn; rw [no]; rfl) fun b => ?_
  have hcls : PySem.W.Looks (model prog w) hp (classData C) cd := PySem.W.looks_clsIn X hcd
  have hxs : x ≠ hp.objs.size := Nat.ne_of_lt (Heap.lt_size hx)
  obtain ⟨nm, bs, mro, ns, qn, hd', sn, sb, ab, col, del⟩ := cd
  dsimp only at hd
  subst hd
  show wpAny _ _ (storeInOwnDict (.ref x) (.ref C) (.str f t) f v b) _ _ _
  unfold storeInOwnDict ownDictForStores
  repeat (first | with_reducible refine HandSPX.store_in_new ?_ ?_ | with_reducible refine wpAny_loadPart_at hx ?_ | with_reducible refine hcls.at ?_ | wp_step)
  · exact ⟨_, #[], _, (Heap.get?_update_ne _ _ _ _ hxs.symm).trans (Heap.get?_push_at rfl rfl), rfl, fun e he => absurd he (by simp), fun _ => rfl⟩
  · intro h' tk' hn' hs
    refine hq h' tk' hp.objs.size (fun b o hb ho => ?_) (Nat.le_refl _) hxs.symm ?_ hn'
    · exact (hs.2 b (Nat.ne_of_lt (Heap.lt_size ho))).trans ((Heap.get?_update_ne _ _ _ _ hb).trans (Heap.get?_push_of_some _ ho))
    · exact (hs.2 x hxs).trans (Heap.get?_update_self _ (Heap.get?_push_of_some _ hx) rfl)
end
/-! the class called, with names in the call or without -/
section
variable {prog : Program} {w : World} {A : Around} {E : Value → Shared → Prop} {R : Result → Shared → Prop} {h : Heap} {g : Array GenState} {d : Drawn} {t : Nat} {os : OsState} {B newId initId : String} {bmB : List Value}
variable {nm q : Str} {C N : Addr} {bs bm : List Value} {hdct : Bool} {sn : List Str} {sub : List Value} {ab : Bool} {col : Option Bool} {dd : Option Addr} {k0 k1 k2 k3 k5 : Option Value} {kw : List (Str × Value)} {rest : List Value}
theorem xc_checkNew {M : Model} (F : ExcBaseFacts B newId initId bmB) (hT : ∀ Y : String, bm.contains (.type Y) = bmB.contains (.type Y)) {Q : Unit → Shared → Prop} (hC : h.get? C = some (excClassObj nm q C N bs bm hdct sn sub ab col dd k0 k1 k2 k3 k5 newId)) (hq : Q () ⟨h, g, d, t, os⟩) :
    wpAny M A (checkBuiltinCall newId ⟨.ref C :: rest, kw⟩) Q E ⟨h, g, d, t, os⟩ := by
  have hc : (Value.ref C :: bm).contains (.type B) = true := by rw [List.contains_cons, hT, F.hasB]; exact Bool.or_true _
  have hs := F.noStar
  simp only [checkBuiltinCall, F.newKind, F.newSplit, F.newRow]
  repeat (first | refine wpAny_loadPart_at hC ?_ | (refine wpAny_isSubtype_exc hC ?_; rw [hc]) | refine wpAny_staticBase_exc hC ?_ | refine wpAny_madeBy_exc hC ?_ | (simp only [bne_self_eq_false, Bool.false_eq_true, if_false]) | wp_step)
  exact hq
theorem xc_new (F : ExcBaseFacts B newId initId bmB) (hT : ∀ Y : String, bm.contains (.type Y) = bmB.contains (.type Y)) (hC : h.get? C = some (excClassObj nm q C N bs bm hdct sn sub ab col dd k0 k1 k2 k3 k5 newId))
    (hq : R (.ok (.ret (.ref (h.objs.size + 1)))) ⟨(h.push (PySem.W.kdv_tup rest)).push (HandSPX.excO C h.objs.size), g, d, t, os⟩) (hz : rest.length ≤ sizeLine) : codeAny (model prog w) A (.builtin newId ⟨.ref C :: rest, kw⟩) R ⟨h, g, d, t, os⟩ := by
  have he := F.ends
  have c1 : (Value.ref C :: bm).contains (.type B) = true := by rw [List.contains_cons, hT, F.hasB]; exact Bool.or_true _
  have c2 : (Value.ref C :: bm).contains (.type "AttributeError") = false := by rw [List.contains_cons, hT, F.noAttr]; exact rfl
  have c3 : (Value.ref C :: bm).contains (.type "NameError") = false := by rw [List.contains_cons, hT, F.noName]; exact rfl
  refine codeAny_builtinAt F.entry ?_
  unfold Builtin.«BaseException.__new__»
  refine PySem.wpAt_bind ?_
  show PySem.wpAt _ _ _ (stack >>= _) _ _ _
  refine PySem.wpAt_bind (PySem.wpAt_stack fun p below => PySem.wpAt_of_wpAny ?_)
  wp_walk
  refine PySem.wpAt_of_wpAny ?_
  rw [F.owner]
  repeat (first | with_reducible refine wpAny_madeHere_exc F.canon hC ?_ | with_reducible refine wpAny_loadPart_at hC ?_ | (with_reducible refine wpAny_isSubtype_exc hC ?_; first | rw [c1] | rw [c2] | rw [c3]) | wp_step)
  show R _ _
  rw [Heap.size_push]
  exact hq
theorem xc_typeCall (F : ExcBaseFacts B newId initId bmB) (hT : ∀ Y : String, bm.contains (.type Y) = bmB.contains (.type Y)) {fI : Addr} {Q : Fin → Shared → Prop} (hC : h.get? C = some (excClassObj nm q C N bs bm hdct sn sub ab col dd k0 k1 k2 k3 k5 newId))
    (hi : PySem.W.Looks (model prog w) h (typeLookup (.ref C) "__init__") (some (.ref fI))) (hb : ∀ self, PySem.W.Looks (model prog w) h (bindSpecial (.ref fI) self) (.ref fI, [self])) (hz : rest.length ≤ sizeLine)
    (hq : codeAny (model prog w) A (.call (.ref fI) ⟨.ref (h.objs.size + 1) :: rest, kw⟩) (fun r s' => match r with | .ok (.ret v) => v = .none ∧ Q (.done (.ret (.ref (h.objs.size + 1)))) s' | .ok _ => False | .error e => E e s')
      ⟨(h.push (PySem.W.kdv_tup rest)).push (HandSPX.excO C h.objs.size), g, d, t, os⟩) : wpAny (model prog w) A (Builtin.«type.__call__» ⟨.ref C :: rest, kw⟩) Q E ⟨h, g, d, t, os⟩ := by
  repeat (first | with_reducible refine wpAny_loadPart_at hC ?_ | with_reducible refine wpAny_madeBy_exc hC ?_ | wp_step)
  refine codeAny_call_builtin_code (Code.quiet_builtin _ F.quiet) (xc_checkNew F hT hC (xc_new F hT hC ?_ hz))
  show wpAny _ _ _ _ _ _
  have k : ∀ b o, h.get? b = some o → ((h.push (PySem.W.kdv_tup rest)).push (HandSPX.excO C h.objs.size)).get? b = some o := fun b o e => Heap.get?_push_of_some _ (Heap.get?_push_of_some _ e)
  have hC1 := k _ _ hC
  have hg : ((h.push (PySem.W.kdv_tup rest)).push (HandSPX.excO C h.objs.size)).get? (h.objs.size + 1) = some (HandSPX.excO C h.objs.size) := by heap_get
  have hs : (Value.ref C :: bm).contains (.ref C) = true := by simp
  have i1 := hi.keeps k
  have b1 := (hb (.ref (h.objs.size + 1))).keeps k
  unfold isInstance
  repeat (first | with_reducible refine wpAny_loadPart_at hg ?_ | (with_reducible refine wpAny_isSubtype_exc hC1 ?_; rw [hs]) | wp_step)
  show wpAny _ _ (typeLookup (.ref C) _) _ _ _
  refine i1.at (wpAny_holding (wpAny_bind (b1.at (wpAny_bind (wpAny_call (codeAny_mono hq fun r s' z => ?_))))))
  rcases r with e | (v | _ | _ | _) <;> first | exact z | exact z.elim | skip
  obtain ⟨rfl, z⟩ := z
  first
    | exact wpAny_pure (wpAny_pure z)
    | (wp_walk; exact z)
theorem xc_call (F : ExcBaseFacts B newId initId bmB) (hT : ∀ Y : String, bm.contains (.type Y) = bmB.contains (.type Y)) {fI : Addr} (hC : h.get? C = some (excClassObj nm q C N bs bm hdct sn sub ab col dd k0 k1 k2 k3 k5 newId))
    (hi : PySem.W.Looks (model prog w) h (typeLookup (.ref C) "__init__") (some (.ref fI))) (hb : ∀ self, PySem.W.Looks (model prog w) h (bindSpecial (.ref fI) self) (.ref fI, [self])) (hz : rest.length ≤ sizeLine)
    (hq : codeAny (model prog w) (A.under (.builtin "type.__call__" ⟨.ref C :: rest, kw⟩)) (.call (.ref fI) ⟨.ref (h.objs.size + 1) :: rest, kw⟩) (PySem.W.InitBack (h.objs.size + 1) R)
      ⟨(h.push (PySem.W.kdv_tup rest)).push (HandSPX.excO C h.objs.size), g, d, t, os⟩) : codeAny (model prog w) A (.call (.ref C) ⟨rest, kw⟩) R ⟨h, g, d, t, os⟩ := by
  have f1 := tc_lookup
  have f2 := tc_bind (.ref C)
  have f3 := tc_sub
  have hTy : (⟨h, g, d, t, os⟩ : Shared).TypeIs (.ref C) "type" := ⟨_, hC, rfl⟩
  refine codeAny_of_tree ?_
  show wpAny _ _ (callAny (.ref C) _) _ _ _
  repeat (any_goals (first | assumption | with_reducible refine wpAny_loadPart_at hC ?_ | wp_step))
  refine ⟨rfl, ?_⟩
  refine codeAny_call_builtin_at (Code.quiet_builtin _ (by decide +kernel)) entry_typeCall ?_
  have ck : ∀ {Q : Unit → Shared → Prop} {E : Value → Shared → Prop} {A : Around}, Q () ⟨h, g, d, t, os⟩ → wpAny (model prog w) A (checkBuiltinCall "type.__call__" ⟨.ref C :: rest, kw⟩) Q E ⟨h, g, d, t, os⟩ := fun {Q E A} hq => by
    simp only [checkBuiltinCall, tc_kind, tc_split]
    repeat (any_goals (first | assumption | with_reducible refine wpAny_loadPart_at hC ?_ | with_reducible refine wpAny_onRaise ?_ | with_reducible refine wpAny_map ?_ | wp_step))
  refine ck (xc_typeCall F hT hC hi hb hz (codeAny_mono hq fun r s' z => ?_))
  rcases r with e | (v | _ | _ | _) <;> exact z
end
section
variable {prog : Program} {w : World} {A : Around} {E : Value → Shared → Prop} {R : Result → Shared → Prop} {s : Shared} {K : PySem.W.Frag} {C : Addr} {f : Str}
/-- what a call of the class hands to __init__: the field by its place, or by its name -/
inductive OneArg (f : Str) (v : Value) : List Value → List (Str × Value) → Prop
  | pos : OneArg f v [v] []
  | kw : OneArg f v [] [(f, v)]
theorem ldv {M : Model} {name : Str} {scope : Scope} {L a : Addr} {cd : Value} {m : Str → Option Value} {x : Str} {pos : Pos} {v : Value} {Q : Value → Shared → Prop} (hn : s.heap.Ns L m) (hv : m x = some v) (h : Q v s) (hk : scope.kind = .function) (hl : (envOfC name scope L a cd).kindOf x = some .local)
    (hd : (x == ("__debug__" : Str)) = false) : wpAny M A (eval (.Name x pos) (envOfC name scope L a cd)) Q E s := wpAny_Name (wpAny_loadName_local hk hl hn hv h) hd
theorem xc_init (T : XCls K C) (hf : f ∈ fieldNames) {fI x t0 : Addr} {v : Value} {rest : List Value} {kw : List (Str × Value)} {qual : Str} {oc : Value} {od : Option Addr} {doc pm : Value} {an : Option Addr} {cdv ct : Value} {osl : Array (Option Value)} {p1 p2 q1 q2 q3 q4 : Pos} (no : PySem.W.findIn K (.ref C) f = some none)
    (ho : K.lookup fI = some ⟨oc, od, .func (PySem.W.fnOf "__init__" qual (initArgs f p1 p2) (initBody f q1 q2 q3 q4) (initScope f) .none .none doc pm an cdv ct), osl⟩) (hcd : PySem.W.codeIn K cdv qual = true)
    (ha : OneArg f v rest kw) (X : K.In s.heap) (hlim : s.heap.NoLimit) (hx : s.heap.get? x = some (HandSPX.excO C t0)) (hroom : A.depth < recursionLimit)
    (hq : ∀ h' tk dx, (∀ b o, b ≠ x → s.heap.get? b = some o → h'.get? b = some o) → s.heap.objs.size ≤ dx → dx ≠ x → h'.get? x = some ({ cls := .ref C, dict := some dx, data := .fields #[.ref t0, .none, .none, .none, .bool false, .none] } : Obj) →
      h'.Ns1 dx (fun y => if y = f then some v else none) → R (.ok (.ret .none)) { s with heap := h', toks := tk }) : codeAny (model prog w) A (.call (.ref fI) ⟨.ref x :: rest, kw⟩) R s := by
  have main : BindsTo s (PySem.W.fnOf "__init__" qual (initArgs f p1 p2) (initBody f q1 q2 q3 q4) (initScope f) .none .none doc pm an cdv ct) ⟨.ref x :: rest, kw⟩ [("self", .ref x), (f, v)] := by
    cases ha with
    | pos =>
      refine BindsTo.of_eq ?_
      simp only [fieldNames, List.mem_cons, List.not_mem_nil, or_false] at hf
      rcases hf with rfl | rfl | rfl | rfl | rfl | rfl <;> first | rfl | with_unfolding_all rfl
    | kw =>
      refine BindsTo.of_eq ?_
      simp only [fieldNames, List.mem_cons, List.not_mem_nil, or_false] at hf
      rcases hf with rfl | rfl | rfl | rfl | rfl | rfl <;> first | rfl | with_unfolding_all rfl
  have kind : ([(("self" : Str), Value.ref x), (f, v)].all fun y => (initScope f).names.lookup y.1 == some .local || (initScope f).names.lookup y.1 == some .cell) = true := by
    simp only [fieldNames, List.mem_cons, List.not_mem_nil, or_false] at hf
    rcases hf with rfl | rfl | rfl | rfl | rfl | rfl <;> first | rfl | with_unfolding_all rfl
  have l1 : ∀ L a cd, (envOfC qual (initScope f) L a cd).kindOf f = some .local := fun L a cd => by
    simp only [fieldNames, List.mem_cons, List.not_mem_nil, or_false] at hf
    rcases hf with rfl | rfl | rfl | rfl | rfl | rfl <;> rfl
  have l2 : ∀ L a cd, (envOfC qual (initScope f) L a cd).kindOf "self" = some .local := fun L a cd => rfl
  have dbg : (f == ("__debug__" : Str)) = false := by
    simp only [fieldNames, List.mem_cons, List.not_mem_nil, or_false] at hf
    rcases hf with rfl | rfl | rfl | rfl | rfl | rfl <;> decide
  have b1 : ∀ k, bindL (envOfC qual (initScope f) k fI cdv).kindOf [(("self" : Str), Value.ref x), (f, v)] (fun _ => none) f = some v := fun k => by
    simp only [fieldNames, List.mem_cons, List.not_mem_nil, or_false] at hf
    rcases hf with rfl | rfl | rfl | rfl | rfl | rfl <;> first | rfl | with_unfolding_all rfl | kernel_rfl
  have b2 : ∀ k, bindL (envOfC qual (initScope f) k fI cdv).kindOf [(("self" : Str), Value.ref x), (f, v)] (fun _ => none) "self" = some (.ref x) := fun k => by
    simp only [fieldNames, List.mem_cons, List.not_mem_nil, or_false] at hf
    rcases hf with rfl | rfl | rfl | rfl | rfl | rfl <;> first | rfl | with_unfolding_all rfl | kernel_rfl
  refine Att.call_fn (binds := [("self", .ref x), (f, v)]) X hlim ho hcd hroom main kind (fun s₁ IC => ?_) rfl rfl rfl
  obtain ⟨h₁, tk₁, rfl⟩ := IC.toInCall.same
  have k := IC.toInCall.keep
  have hn := IC.toInCall.ns
  show wpAny _ _ (execs _ _) _ _ _
  refine wpAny_execs_cons (plainObj_wpAny_Assign_Attribute ?_)
  refine ldv (v := v) hn (b1 _) (ldv (v := .ref x) hn (b2 _) ?_ rfl (l2 _ _ _) (by decide)) rfl (l1 _ _ _) dbg
  refine xc_store T no (X.keeps k) (k _ _ hx) fun h' tk' dx k' dn dne hx' hns => ?_
  show wpAny _ _ (execs _ _) _ _ _
  have z : s.heap.objs.size < h₁.objs.size := hn.lt
  exact wpAny_execs_nil (hq h' tk' dx (fun b o hb e => k' b o hb (k b o e)) (Nat.le_of_lt (Nat.lt_of_lt_of_le z dn)) dne hx' hns)
theorem xc_made (T : XCls K C) (hf : f ∈ fieldNames) (I : XIni K C f) {v : Value} {rest : List Value} {kw : List (Str × Value)} (ha : OneArg f v rest kw) (X : K.In s.heap) (hlim : s.heap.NoLimit) (hroom : A.depth + 1 < recursionLimit)
    (hq : ∀ h' tk e d, Made1 s.heap h' e C d f v → R (.ok (.ret (.ref e))) { s with heap := h', toks := tk }) : codeAny (model prog w) A (.call (.ref C) ⟨rest, kw⟩) R s := by
  obtain ⟨fI, qual, oc, od, doc, pm, an, cdv, ct, osl, p1, p2, q1, q2, q3, q4, iC, tI, ho, hcd⟩ := I.fn
  obtain ⟨nm, N, qn, bs, bm, hdct, sn, sub, ab, col, dd, k0, k1, k2, k3, k5, hC, hT⟩ := PySem.W.excInit_of X T.ini
  obtain ⟨hp, g, dr, tk, os⟩ := s
  have k : ∀ b o, hp.get? b = some o → ((hp.push (PySem.W.kdv_tup rest)).push (HandSPX.excO C hp.objs.size)).get? b = some o := fun b o e => Heap.get?_push_of_some _ (Heap.get?_push_of_some _ e)
  have hg : ((hp.push (PySem.W.kdv_tup rest)).push (HandSPX.excO C hp.objs.size)).get? (hp.objs.size + 1) = some (HandSPX.excO C hp.objs.size) := by heap_get
  have hz : rest.length ≤ sizeLine := by
    rw [sizeLine_eq]
    cases ha
    · exact (by decide : 1 ≤ 16777216)
    · exact Nat.zero_le _
  refine xc_call PySem.F.excBase_Exception hT hC (PySem.W.looks_findIn X iC) (fun self => PySem.W.bind_fn X self tI) hz ?_
  refine xc_init (s := ⟨(hp.push (PySem.W.kdv_tup rest)).push (HandSPX.excO C hp.objs.size), g, dr, tk, os⟩) T hf I.no ho hcd ha (X.keeps k) (hlim.keeps k) hg hroom fun h' tk' dx k' dn dne hx hns => ?_
  have old : ∀ b o, hp.get? b = some o → h'.get? b = some o := fun b o e => k' b o (Nat.ne_of_lt (Nat.lt_succ_of_lt (Heap.lt_size e))) (k b o e)
  have z : hp.objs.size + 1 + 1 ≤ dx := by
    have q := dn
    rw [Heap.size_push, Heap.size_push] at q
    exact q
  exact ⟨rfl, hq h' tk' (hp.objs.size + 1) dx ⟨old, Nat.le_succ _, ⟨_, hx⟩, Nat.le_trans (Nat.le_trans (Nat.le_succ _) (Nat.le_succ _)) z, dne, hns⟩⟩
end
end Sx

set_option linter.all false
set_option autoImplicit false
set_option maxRecDepth 100000
set_option maxHeartbeats 2000000
namespace Sx
open PySem L2
open PyProof.Rows hiding St
/-! ### own exceptions as values -/
theorem relO_one {v : V} {u : Value} (r : RelV v u) (f g : Str) : RelO (List.lookup g [(f, v)]) (if g = f then some u else none) := by
  by_cases c : g = f
  · subst c
    rw [if_pos rfl, show List.lookup g [(g, v)] = some v by simp [List.lookup]]
    exact r
  · rw [if_neg c, show List.lookup g [(f, v)] = none by simp [List.lookup, show (g == f) = false by simpa using c]]
    exact trivial
theorem exv_ok {P : Program} {w : World} {H : Hp} {h : Heap} {a C : Addr} {od : Option Addr} {oe : Obj} {vs : Array Value} (e : h.get? a = some oe) (z : Zc (.ref C) od oe) (d : oe.data = .fields vs) : ObjOk P w H h a (exv a C od) :=
  ⟨⟨oe, vs, e, z, d⟩, ⟨oe, e⟩, fun _ _ ⟨o, v, q, r⟩ k => ⟨o, v, k o q, r⟩⟩
section
variable {X : Cx} {pins : List (Addr × Obj)} {σ : St} {H1 : Hp} {s1 : Shared}
/-- a made exception is laid aside: its dict, then itself -/
theorem laid_exc {h' : Heap} {tk : Nat} {e C d : Addr} {f : Str} {v : V} {u : Value} (I1 : Inv X pins σ H1 s1) (M : Made1 s1.heap h' e C d f u) (rv : RelV v u) :
    H1 d = none ∧ H1 e = none ∧ Inv X pins σ (upd (upd H1 d (.xd [(f, v)])) e (exv e C (some d))) { s1 with heap := h', toks := tk } := by
  have nd : H1 d = none := I1.hok.fresh M.dbig
  have ne : H1 e = none := I1.hok.fresh M.new
  refine ⟨nd, ne, ?_⟩
  obtain ⟨t0, he⟩ := M.obj
  obtain ⟨G, g1, g2⟩ := restrict h' fun b => decide (b ≠ e)
  have gk : ∀ b, b ≠ e → G.get? b = h'.get? b := fun b hb => g1 b (decide_eq_true hb)
  have ge : G.get? e = none := g2 e (by simp)
  have old : ∀ b o, s1.heap.get? b = some o → G.get? b = some o := fun b o q => (gk b (Nat.ne_of_lt (Nat.lt_of_lt_of_le (Heap.lt_size q) M.new))).trans (M.keep b o q)
  have ob : ObjOk X.prog X.w (upd H1 d (.xd [(f, v)])) G d (.xd [(f, v)]) := ⟨_, M.ns.at (fun o q => (gk d M.dne).trans q), fun g => relO_one rv f g⟩
  have J : Inv X pins σ (upd H1 d (.xd [(f, v)])) { s1 with heap := G, toks := tk } := I1.laid (t' := tk) old M.dbig ob
  have back : ∀ b o, G.get? b = some o → h'.get? b = some o := fun b o q => by
    by_cases hb : b = e
    · rw [hb, ge] at q; cases q
    · exact (gk b hb).symm.trans q
  have n2 : upd H1 d (.xd [(f, v)]) e = none := by rw [upd_ne (Ne.symm M.dne)]; exact ne
  exact J.laidN (t' := tk) back ge n2 (exv_ok he ⟨rfl, rfl⟩ rfl)
end
def xExc (k : Nat) (f : Str) (a : Ax) : Ex := fun es h => (a es h).bind fun ws h1 => match ws with
  | [w] => .ok (.exc k [f] [w]) h1
  | _ => .bad
def xExc0 (k : Nat) : Ex := fun _ h => .ok (.exc k [] []) h
section
variable {X : Cx} {CT : CTx} {Wd : WX} {a e : Expr} {ca : Ex} {ar : Ax} {pos p : Pos} {x f : Str} {k j : Nat}
/-- the value is ours -/
theorem exc_here {ρ : Nat → Addr} {h : Hx} {H : Hp} {w : W} {v : V} {d b : Addr} (S : Sim X.K CT ρ h H) (r : Rep X.K CT ρ h.n H w v) (nd : H d = none) (nb : H b = none) (db : d ≠ b) :
    Nxt X.K CT ρ h H ρ h (upd (upd H d (.xd [(f, v)])) b (exv b (CT k) (some d))) ∧ Rep X.K CT ρ h.n (upd (upd H d (.xd [(f, v)])) b (exv b (CT k) (some d))) (.exc k [f] [w]) (.ref b) := by
  have N1 : Nxt X.K CT ρ h H ρ h (upd H d (.xd [(f, v)])) := Nxt.aside S nd
  have N2 : Nxt X.K CT ρ h (upd H d (.xd [(f, v)])) ρ h (upd (upd H d (.xd [(f, v)])) b (exv b (CT k) (some d))) := Nxt.aside N1.sim (by rw [upd_ne (Ne.symm db)]; exact nb)
  have N := N1.trans S N2
  refine ⟨N, .exc (od := some d) (vs := [v]) upd_same ?_ (.cons (Rep.keep S N.toFw _ _ r) .nil)⟩
  show upd (upd H d (.xd [(f, v)])) b (exv b (CT k) (some d)) d = _
  rw [upd_ne db, upd_same]
  rfl
theorem se_exc (T : XCls X.K (CT k)) (I : XIni X.K (CT k) f) (hr : Room j X.A) (hg : Gl X x) (hm : X.mg x = some (.ref (CT k))) (ha : SA X CT Wd [a] ar) (hf : f ∈ fieldNames := by decide) (hdb : (x == ("__debug__" : Str)) = false := by decide)
    (he : starEach [a] X.env = (false, eval a X.env) :: starEach [] X.env := by rfl) : SE X CT Wd (.Call (.Name x p) [a] [] pos) (xExc k f ar) := by
  refine ⟨fun pins s σ H Q J q => ?_⟩
  obtain ⟨ρ, h, es, S, E, pp⟩ := q
  refine wpAny_Call_Name_kw (ld_glob J hg hm ?_ hdb)
  have run := ha.run pos pins s σ H (fun vs H1 => ∃ (v : V), vs = [v] ∧ ∀ d b, H1 d = none → H1 b = none → d ≠ b → Q (.ref b) (upd (upd H1 d (.xd [(f, v)])) b (exv b (CT k) (some d)))) J ⟨ρ, h, es, S, E, Post.bind (RR := RA X.K CT) S pp fun ws h1 ρ1 H1 vs N r p1 => by
    cases r with
    | nil => exact p1.elim
    | cons r1 t =>
      cases t with
      | cons _ _ => exact p1.elim
      | nil =>
        refine ⟨_, rfl, fun d b nd nb db => ?_⟩
        obtain ⟨N2, r2⟩ := exc_here (k := k) (f := f) N.sim r1 nd nb db
        exact p1 ρ1 _ _ N2 r2⟩
  refine PySem.W.callWith_K (h₀ := X.base) J.ok.mod.kin T.kp (thn run fun us s1 ⟨vs, H1, I1, r1, v, ev, q1⟩ => ⟨I1.kIn, ?_⟩) he (by rfl)
  subst ev
  cases r1 with
  | cons rv rn =>
    cases rn
    rename_i u us'
    show wpAny _ _ (call (.ref (CT k)) [u]) _ _ _
    have lim := I1.nolimit
    obtain ⟨hp, g, dr, tk, os⟩ := s1
    refine wpAny_call (xc_made T hf I .pos I1.kIn lim (by have := hr.dp; omega) fun h' tk' b d M => ?_)
    obtain ⟨nd, nb, J2⟩ := laid_exc (tk := tk') I1 M rv
    exact ⟨.ref b, _, J2, rfl, q1 d b nd nb M.dne⟩
/-- C(f=a) -/
theorem se_excKw {kpos : Pos} (T : XCls X.K (CT k)) (I : XIni X.K (CT k) f) (hr : Room j X.A) (hg : Gl X x) (hm : X.mg x = some (.ref (CT k))) (ha : SE X CT Wd a ca) (hf : f ∈ fieldNames := by decide) (hdb : (x == ("__debug__" : Str)) = false := by decide) :
    SE X CT Wd (.Call (.Name x p) [] [⟨some f, a, kpos⟩] pos) (xExc k f (xCons ca xNil)) := by
  refine ⟨fun pins s σ H Q J q => ?_⟩
  obtain ⟨ρ, h, es, S, E, pp⟩ := q
  refine wpAny_Call_Name_kw (ld_glob J hg hm ?_ hdb)
  have run := (pk_cons (nm := some f) (kpos := kpos) ha pk_nil).run pos pins s σ H (fun vs H1 => ∃ (v : V), vs = [v] ∧ ∀ d b, H1 d = none → H1 b = none → d ≠ b → Q (.ref b) (upd (upd H1 d (.xd [(f, v)])) b (exv b (CT k) (some d)))) J ⟨ρ, h, es, S, E, by
    have p2 : Post X.K CT (RW X.K CT) Wd ρ h H σ ((ca es h).bind fun w h1 => .ok (.exc k [f] [w]) h1) Q := by
      have p3 : Post X.K CT (RW X.K CT) Wd ρ h H σ (((ca es h).bind fun w h1 => ((.ok [] h1 : R (List W)).bind fun ws h2 => .ok (w :: ws) h2)).bind fun ws h1 => match ws with
        | [w] => .ok (.exc k [f] [w]) h1
        | _ => .bad) Q := pp
      cases g : ca es h with
      | bad => rw [g] at p3; exact p3
      | exc x2 h2 => rw [g] at p3; exact p3
      | ok w2 h2 => rw [g] at p3; exact p3
    exact Post.bind (RR := RW X.K CT) S p2 fun w h1 ρ1 H1 v N r p1 => by
      show ∃ _, _
      refine ⟨_, rfl, fun d b nd nb db => ?_⟩
      obtain ⟨N2, r2⟩ := exc_here (k := k) (f := f) N.sim r nd nb db
      exact p1 ρ1 _ _ N2 r2⟩
  refine PySem.W.callWith_KW0 (h₀ := X.base) J.ok.mod.kin T.kp rfl (thn run fun us s1 ⟨vs, H1, I1, r1, v, ev, q1⟩ => ⟨I1.kIn, ?_⟩) rfl
  subst ev
  cases r1 with
  | cons rv rn =>
    cases rn
    rename_i u us'
    show wpAny _ _ (call (.ref (CT k)) [] [(f, u)]) _ _ _
    have lim := I1.nolimit
    obtain ⟨hp, g, dr, tk, os⟩ := s1
    refine wpAny_call (xc_made T hf I .kw I1.kIn lim (by have := hr.dp; omega) fun h' tk' b d M => ?_)
    obtain ⟨nd, nb, J2⟩ := laid_exc (tk := tk') I1 M rv
    exact ⟨.ref b, _, J2, rfl, q1 d b nd nb M.dne⟩
/-- C() of a class without own __init__ -/
theorem se_exc0 (q : PySem.W.excIn X.K (CT k) exT "Exception.__new__" = true) (kp : PySem.W.keepIn X.K (.ref (CT k)) = true) (hg : Gl X x) (hm : X.mg x = some (.ref (CT k))) (hdb : (x == ("__debug__" : Str)) = false := by decide) :
    SE X CT Wd (.Call (.Name x p) [] [] pos) (xExc0 k) := by
  refine ⟨fun pins s σ H Q J ⟨ρ, h, es, S, E, pp⟩ => ?_⟩
  refine wpAny_Call_Name_kw (ld_glob J hg hm ?_ hdb)
  refine PySem.W.callWith_K0 J.kIn kp ?_
  obtain ⟨bm, N, nm, qn, bs, hdct, sn, sub, ab, col, dd, k0, k1, k2, k3, k5, mN, hC, hN, hni, T⟩ := exc_obj J.kIn q
  obtain ⟨hp, g, dr, tk, os⟩ := s
  refine wpAny_call_exc_subT (rest := []) PySem.F.excBase_Exception T hC hN hni (fun h' b hm => ?_) (Nat.zero_le _)
  have hn : H b = none := J.hok.gone hm.new
  obtain ⟨t, ht, _, _⟩ := hm.there
  refine ⟨.ref b, upd H b (exv b (CT k) none), J.laidN hm.keeps hm.new hn (exv_ok ht ⟨rfl, rfl⟩ rfl), rfl, ?_⟩
  exact pp ρ _ _ (Nxt.aside S hn) (.exc (od := none) (vs := []) upd_same ⟨rfl, rfl⟩ .nil)
/-! ### fields of exceptions -/
def fieldW (ok : Nat → Bool) (f : Str) (w : W) (h : Hx) : R W := match w with
  | .exc k [g] [u] => if ok k = true ∧ g = f then .ok u h else .bad
  | _ => .bad
theorem se_xfield {ok : Nat → Bool} (T : ∀ k, ok k = true → XCls X.K (CT k) ∧ PySem.W.findIn X.K (.ref (CT k)) f = some none) (ha : SE X CT Wd a ca) (hb : attributeBase a f X.env (eval a X.env) = eval a X.env := by rfl) : SE X CT Wd (.Attribute a f pos) (xUn (fieldW ok f) ca) := by
  refine ⟨fun pins s σ H Q J ⟨ρ, h, es, S, E, pp⟩ => ?_⟩
  have run := ha.run pins s σ H (fun v H1 => ∃ b k d u, v = .ref b ∧ ok k = true ∧ H1 b = some (exv b (CT k) (some d)) ∧ H1 d = some (.xd [(f, u)]) ∧ Q u H1) J ⟨ρ, h, es, S, E, Post.bind (RR := RW X.K CT) S pp fun w h1 ρ1 H1 v N r p1 => by
    have p1 : Post X.K CT (RW X.K CT) Wd ρ1 h1 H1 σ (fieldW ok f w h1) Q := p1
    cases r with
    | @exc b k od ns ws vs r1 r2 r3 =>
      cases ns with
      | nil => exact p1.elim
      | cons g t =>
        cases t with
        | cons _ _ => exact p1.elim
        | nil =>
          cases r3 with
          | nil => exact p1.elim
          | @cons u vu _ _ ru rt =>
            cases rt with
            | cons _ _ => exact p1.elim
            | nil =>
              have p2 : Post X.K CT (RW X.K CT) Wd ρ1 h1 H1 σ (if ok k = true ∧ g = f then .ok u h1 else .bad) Q := p1
              obtain ⟨⟨c1, c2⟩, p3⟩ := post_if p2
              subst c2
              cases od with
              | none => exact absurd r2.1 (by simp)
              | some d => exact ⟨b, k, d, _, rfl, c1, r1, r2, Post.here N.sim p3 ru⟩
    | _ => exact p1.elim⟩
  refine attr_of hb (thn run fun u s1 ⟨v, H1, I1, r1, b, k, d, vu, ev, c1, eb, ed, q⟩ => ?_)
  subst ev
  obtain rfl : u = Value.ref b := r1
  obtain ⟨TX, no⟩ := T k c1
  obtain ⟨⟨oe, vs, hb1, hz, hd⟩, _, _⟩ := I1.hok b _ eb
  obtain ⟨mA, hns, hrr⟩ := (show ObjOk X.prog X.w H1 s1.heap d (.xd [(f, vu)]) from I1.hok d _ ed)
  obtain ⟨od, ho, hl⟩ := lookIn_ns hns
  obtain ⟨uu, hu, ru⟩ := RelO.some_of (v := vu) (o := mA f) (by
    have l : List.lookup f [(f, vu)] = some vu := by simp [List.lookup]
    rw [← l]
    exact hrr f)
  have JJ : PySem.W.InstAt s1.heap b oe (CT k) (some od) := ⟨hb1, hz.1, by unfold PySem.W.notCls; rw [hd] <;> rfl, by rw [hz.2]; exact ho⟩
  exact HandSPX.exc_get I1.kIn JJ TX.is.hg TX.is.hk TX.is.hs (PySem.W.findObj_own TX.is.hd no rfl (by rw [hl, hu])) (handed_of ru) ⟨vu, H1, I1.tok _, ru, q⟩
end
end Sx

set_option linter.all false
set_option autoImplicit false
set_option maxRecDepth 100000
set_option maxHeartbeats 2000000
namespace Sx
open PySem L2
open PyProof.Rows hiding St
/-! ### isinstance with classes of the text -/
/-- the classes of the text -/
structure CTab (K : PySem.W.Frag) (CT : Nat → Addr) (n : Nat) (mro : Nat → List Nat) (ex : Nat → Bool) : Prop where
  ty : ∀ k, k < n → PySem.W.typeIn K (.ref (CT k)) = some (.type "type")
  mr : ∀ k, k < n → (PySem.W.clsIn K (CT k)).map (·.mro) = some ((mro k).map (fun j => Value.ref (CT j)) ++ (if ex k then exT else [.type "object"]))
  lt : ∀ k, k < n → ∀ j ∈ mro k, j < n
  self : ∀ k, k < n → k ∈ mro k
  inj : ∀ i j, i < n → j < n → CT i = CT j → i = j
section
variable {K : PySem.W.Frag} {CT : Nat → Addr} {n : Nat} {mro : Nat → List Nat} {ex : Nat → Bool}
theorem CTab.mroIn (T : CTab K CT n mro ex) {k : Nat} (hk : k < n) (c : Value) : PySem.W.mroIn K (CT k) c = some (((mro k).map (fun j => Value.ref (CT j)) ++ (if ex k then exT else [.type "object"])).contains c) := by
  obtain ⟨cd, hc, hm⟩ := Option.map_eq_some_iff.mp (T.mr k hk)
  unfold PySem.W.mroIn
  rw [hc, Option.bind_some, hm, if_neg]
  cases h : mro k with
  | nil => exact absurd (T.self k hk) (by rw [h]; simp)
  | cons _ _ => simp
theorem CTab.cls (T : CTab K CT n mro ex) {k : Nat} (hk : k < n) : ((PySem.W.clsIn K (CT k)).isSome && PySem.W.typeIn K (.ref (CT k)) == some (.type "type")) = true := by
  obtain ⟨cd, hc, hm⟩ := Option.map_eq_some_iff.mp (T.mr k hk)
  rw [hc, T.ty k hk]
  rfl
theorem CTab.oo (T : CTab K CT n mro ex) {i j : Nat} (hi : i < n) (hj : j < n) : PySem.W.kitOne K (.ref (CT i)) (.ref (CT j)) = some ((mro i).contains j) := by
  unfold PySem.W.kitOne
  by_cases c : i = j
  · subst c
    rw [if_pos (by simp)]
    rw [show (mro i).contains i = true by simpa using T.self i hi]
  · have ne : ¬ ((Value.ref (CT i) == Value.ref (CT j)) = true) := fun q => c (T.inj i j hi hj (Value.ref.inj (beq_iff_eq.mp q)))
    rw [if_neg ne]
    show (if ((PySem.W.clsIn K (CT j)).isSome && PySem.W.typeIn K (.ref (CT j)) == some (.type "type")) = true then PySem.W.mroIn K (CT i) (.ref (CT j)) else none) = _
    rw [if_pos (T.cls hj), T.mroIn hi]
    congr 1
    rw [Bool.eq_iff_iff]
    simp only [List.contains_iff_mem, List.mem_append, List.mem_map]
    constructor
    · rintro (⟨m, hm, e⟩ | h)
      · have := T.inj m j (T.lt i hi m hm) hj (Value.ref.inj e)
        rw [← this]
        exact hm
      · exfalso
        revert h
        split <;> simp [exT]
    · intro h
      exact .inl ⟨j, h, rfl⟩
def isTypeV : Value → Bool
  | .type _ => true
  | _ => false
theorem bt_mro (b : Bt) : ((fastBuiltinMro b.name).elim false fun l => l.all isTypeV) = true := by cases b <;> decide +kernel
theorem CTab.bo (T : CTab K CT n mro ex) (b : Bt) {j : Nat} (hj : j < n) : PySem.W.kitOne K (.type b.name) (.ref (CT j)) = some false := by
  unfold PySem.W.kitOne
  rw [if_neg (by intro q; have := beq_iff_eq.mp q; cases this)]
  show (if ((PySem.W.clsIn K (CT j)).isSome && PySem.W.typeIn K (.ref (CT j)) == some (.type "type")) = true then (fastBuiltinMro b.name).map (·.contains (.ref (CT j))) else none) = _
  rw [if_pos (T.cls hj)]
  have h := bt_mro b
  cases g : fastBuiltinMro b.name with
  | none => rw [g] at h; exact absurd h (by simp)
  | some l =>
    rw [g] at h
    have h' : l.all isTypeV = true := h
    show some (l.contains (.ref (CT j))) = some false
    congr 1
    rw [Bool.eq_false_iff]
    intro q
    have := List.all_eq_true.mp h' _ (List.contains_iff_mem.mp q)
    cases this
theorem CTab.ob (T : CTab K CT n mro ex) {i : Nat} (hi : i < n) (t : Bt) (ht : t ≠ .none) : PySem.W.kitOne K (.ref (CT i)) (.type t.name) = some false := by
  unfold PySem.W.kitOne
  rw [if_neg (by intro q; have := beq_iff_eq.mp q; cases this)]
  have km : PySem.W.kitMeta t.name = true := by cases t <;> first | exact absurd rfl ht | decide +kernel
  show (if PySem.W.kitMeta t.name = true then PySem.W.mroIn K (CT i) (.type t.name) else none) = _
  rw [if_pos km, T.mroIn hi]
  congr 1
  rw [Bool.eq_false_iff]
  intro q
  have q2 := List.contains_iff_mem.mp q
  rcases List.mem_append.mp q2 with h | h
  · obtain ⟨m, _, e⟩ := List.mem_map.mp h
    cases e
  · revert h
    split <;> (cases t <;> first | exact absurd rfl ht | (simp [exT, Bt.name]))
end
def kdOf (h : Hx) (w : W) : Option (Bt ⊕ Nat) := match w with
  | .exc k _ _ => some (.inr k)
  | w => (btOf h w).map .inl
theorem kdOf_inl {h : Hx} {w : W} {bt : Bt} (e : kdOf h w = some (.inl bt)) : btOf h w = some bt := by
  have key : ∀ o : Option Bt, o.map (Sum.inl (β := Nat)) = some (.inl bt) → o = some bt := fun o q => by
    obtain ⟨b', h1, h2⟩ := Option.map_eq_some_iff.mp q
    cases h2
    exact h1
  cases w <;> first | exact key _ e | cases e
def kit1 (n : Nat) (mro : Nat → List Nat) (xs : Nat → Bool) (d : Bt ⊕ Nat) (c : W) : Option Bool := match d, c with
  | .inl b, .ty t => if t ≠ .none then some (isB b t) else none
  | .inl _, .cl j => if j < n then some false else none
  | .inr i, .ty t => if xs i = true ∧ i < n ∧ t ≠ .none then some false else none
  | .inr i, .cl j => if xs i = true ∧ i < n ∧ j < n then some ((mro i).contains j) else none
  | _, _ => none
def isiT (n : Nat) (mro : Nat → List Nat) (xs : Nat → Bool) (ws : List W) (h : Hx) : R W := match ws with
  | [w, c] => match (kdOf h w).bind fun d => kit1 n mro xs d c with
    | some b => .ok (.bl b) h
    | none => .bad
  | _ => .bad
/-- the type of a value, exceptions too -/
def TyY (K : PySem.W.Frag) (H : Hp) (x : V) (t : Value) : Prop := TyX K H x t ∨ ∃ a C od ns vs, x = .ref a ∧ H a = some (exv a C od) ∧ XdAt H od ns vs ∧ ExcC K C ∧ t = .ref C
def rIsY (K : PySem.W.Frag) : List V → Hp → VK → Prop := fun xs H Q => ∃ (x c : V) (t u : Value) (b : Bool), xs = [x, c] ∧ ClsV c u ∧ TyY K H x t ∧ PySem.W.kitOne K t u = some b ∧ Q (.bl b) H
section
variable {X : Cx} {CT : CTx} {Wd : WX} {n : Nat} {mro : Nat → List Nat} {ex xs : Nat → Bool}
theorem kit_ofY {pins : List (Addr × Obj)} {σ : St} {H : Hp} {s : Shared} {x : V} {u t : Value} (I : Inv X pins σ H s) (rx : RelV x u) (ty : TyY X.K H x t) : ∃ P : Heap → Prop, PySem.W.KitX X.K u t P ∧ P s.heap ∧ u ≠ .builtin "__main__.__loader__#opaque" := by
  rcases ty with ty | ⟨a, C, od, ns, vs, rfl, ea, ed, c, rfl⟩
  · exact kit_of I rx ty
  · cases (show u = Value.ref a from rx)
    obtain ⟨⟨oe, fv, hb1, hz, hd⟩, _, _⟩ := I.hok a _ ea
    have hcl : (PySem.W.clsIn X.K C).isSome = true := by
      obtain ⟨cd, h1, _⟩ := PySem.W.any_some c.hd
      rw [h1]
      rfl
    have nc : PySem.W.notCls oe = true := by unfold PySem.W.notCls; rw [hd] <;> rfl
    cases od with
    | none => exact ⟨fun h => PySem.W.InstAt h a oe C none, PySem.W.kitx_exc hcl c.hg c.hk c.hs c.ha c.hn c.ht c.hm, ⟨hb1, hz.1, nc, by rw [hz.2]; trivial⟩, fun z => nomatch z⟩
    | some d =>
      obtain ⟨mA, hns, _⟩ := (show ObjOk X.prog X.w H s.heap d (.xd (ns.zip vs)) from I.hok d _ ed)
      obtain ⟨od, ho, hl⟩ := lookIn_ns hns
      exact ⟨fun h => PySem.W.InstAt h a oe C (some od), PySem.W.kitx_exc hcl c.hg c.hk c.hs c.ha c.hn c.ht c.hm, ⟨hb1, hz.1, nc, by rw [hz.2]; exact ho⟩, fun z => nomatch z⟩
theorem call_isY : CallR X (.builtin "isinstance") (rIsY X.K) := by
  intro pins s σ H xs us Q I r h
  obtain ⟨x, c, t, u, b, rfl, k, ty, e, q⟩ := h
  obtain ⟨u1, u2, rfl, r1, r2⟩ := vals2 r
  obtain rfl := k.eq r2
  obtain ⟨P, Z, p, hx⟩ := kit_ofY I r1 ty
  exact PySem.W.kia_one Z I.kIn p e hx fun tk => ⟨.bl b, H, I.kept (t' := tk) fun _ _ z => z, rfl, q⟩
theorem kdOf_ty (T : CTab X.K CT n mro ex) (xT : ∀ k, xs k = true → XCls X.K (CT k)) {ρ : Nat → Addr} {h : Hx} {H : Hp} (S : Sim X.K CT ρ h H) {w c : W} {v vc : V} {d : Bt ⊕ Nat} {b : Bool} (r : Rep X.K CT ρ h.n H w v) (rc : Rep X.K CT ρ h.n H c vc) (e : kdOf h w = some d) (e2 : kit1 n mro xs d c = some b) :
    ∃ t u, ClsV vc u ∧ TyY X.K H v t ∧ PySem.W.kitOne X.K t u = some b := by
  cases d with
  | inl bt =>
    have ty : TyX X.K H v (.type bt.name) := by
      exact btOf_of S r (kdOf_inl e)
    cases rc with
    | ty t =>
      have e3 : (if t ≠ .none then some (isB bt t) else none) = some b := e2
      by_cases ht : t ≠ .none
      · rw [if_pos ht] at e3
        cases e3
        exact ⟨_, _, .ty _, .inl ty, isB_kit X.K bt t ht⟩
      · rw [if_neg ht] at e3
        cases e3
    | cl j =>
      have e3 : (if j < n then some false else none) = some b := e2
      by_cases hj : j < n
      · rw [if_pos hj] at e3
        cases e3
        exact ⟨_, _, .own _, .inl ty, T.bo bt hj⟩
      · rw [if_neg hj] at e3
        cases e3
    | _ => cases e2
  | inr i =>
    cases r with
    | @exc a k od ns ws vs r1 r2 r3 =>
      have ek : i = k := (Sum.inr.inj (Option.some.inj e)).symm
      rw [ek] at e2
      cases rc with
      | ty t =>
        have e3 : (if xs k = true ∧ k < n ∧ t ≠ .none then some false else none) = some b := e2
        by_cases c : xs k = true ∧ k < n ∧ t ≠ .none
        · rw [if_pos c] at e3
          cases e3
          exact ⟨_, _, .ty _, .inr ⟨a, CT k, od, ns, vs, rfl, r1, r2, (xT k c.1).is, rfl⟩, T.ob c.2.1 t c.2.2⟩
        · rw [if_neg c] at e3
          cases e3
      | cl j =>
        have e3 : (if xs k = true ∧ k < n ∧ j < n then some ((mro k).contains j) else none) = some b := e2
        by_cases c : xs k = true ∧ k < n ∧ j < n
        · rw [if_pos c] at e3
          cases e3
          exact ⟨_, _, .own _, .inr ⟨a, CT k, od, ns, vs, rfl, r1, r2, (xT k c.1).is, rfl⟩, T.oo c.2.1 c.2.2⟩
        · rw [if_neg c] at e3
          cases e3
      | _ => cases e2
    | non => cases e
    | bl _ => cases e
    | int _ => cases e
    | str _ => cases e
    | tup _ _ => cases e
    | fls _ _ => cases e
    | ty _ => cases e
    | cl _ => cases e
    | @ref m hm =>
      obtain ⟨b', h1, h2⟩ := Option.map_eq_some_iff.mp (show Option.map Sum.inl (btOf h (.ref m)) = some (Sum.inr i) from e)
      cases h2
theorem cs_isY (T : CTab X.K CT n mro ex) (xT : ∀ k, xs k = true → XCls X.K (CT k)) : CallS X.K CT Wd (rIsY X.K) (isiT n mro xs) := by
  intro ρ h H σ ws vs Q S r p
  cases r with
  | nil => exact p.elim
  | cons r1 t =>
    cases t with
    | nil => exact p.elim
    | cons r2 t =>
      cases t with
      | cons _ _ => exact p.elim
      | nil =>
        rename_i w v c vc
        have p' : Post X.K CT (RW X.K CT) Wd ρ h H σ (match (kdOf h w).bind fun d => kit1 n mro xs d c with
          | some b => .ok (.bl b) h
          | none => .bad) Q := p
        cases g : (kdOf h w).bind fun d => kit1 n mro xs d c with
        | none => rw [g] at p'; exact p'.elim
        | some b =>
          rw [g] at p'
          obtain ⟨d, g1, g2⟩ := Option.bind_eq_some_iff.mp g
          obtain ⟨t, u, k1, k2, k3⟩ := kdOf_ty T xT S r1 r2 g1 g2
          exact ⟨v, vc, t, u, b, rfl, k1, k2, k3, Post.here S p' (.bl b)⟩
end
end Sx

set_option linter.all false
set_option autoImplicit false
set_option maxRecDepth 100000
set_option maxHeartbeats 2000000
namespace Sx
open PySem L2
open PyProof.Rows hiding St
/-! ### raise -/
def cRaise (k : Nat) (f : Str) (a : Ax) : Sx := fun es h => (a es h).bindS es fun ws h1 => match ws with
  | [w] => .exc ⟨k, [f], [w]⟩ es h1
  | _ => .bad
def cRaise0 (k : Nat) : Sx := fun es h => .exc ⟨k, [], []⟩ es h
section
variable {X : Cx} {CT : CTx} {Wd : WX} {a e : Expr} {ca : Ex} {ar : Ax} {pos p pos2 : Pos} {x f : Str} {k j : Nat}
theorem pmk_exc {ta : TA} (T : XCls X.K (CT k)) (I : XIni X.K (CT k) f) (hr : Room j X.A) (hg : Gl X x) (hm : X.mg x = some (.ref (CT k))) (ha : PA X [a] ta) (hf : f ∈ fieldNames := by decide) (hdb : (x == ("__debug__" : Str)) = false := by decide)
    (he : starEach [a] X.env = (false, eval a X.env) :: starEach [] X.env := by rfl) :
    PMk X (.Call (.Name x p) [a] [] pos) (fun σ H Q => ta σ H fun vs H1 => ∃ v, vs = [v] ∧ ∀ d, H1 d = none → Q (.ref (CT k)) (some d) (upd H1 d (.xd [(f, v)]))) := by
  intro pins s σ H Q J h
  refine wpAny_Call_Name_kw (ld_glob J hg hm ?_ hdb)
  refine PySem.W.callWith_K (h₀ := X.base) J.ok.mod.kin T.kp (thn (ha.run pos pins s σ H _ J h) fun us s1 ⟨vs, H1, I1, r1, v, ev, q1⟩ => ⟨I1.kIn, ?_⟩) he (by rfl)
  subst ev
  cases r1 with
  | cons rv rn =>
    cases rn
    rename_i u us'
    show wpAny _ _ (call (.ref (CT k)) [u]) _ _ _
    have lim := I1.nolimit
    obtain ⟨hp, g, dr, tk, os⟩ := s1
    refine wpAny_call (xc_made T hf I .pos I1.kIn lim (by have := hr.dp; omega) fun h' tk' b d M => ?_)
    show MkP X pins σ Q (.ref b) ⟨h', g, dr, tk', os⟩
    obtain ⟨t0, hoe⟩ := M.obj
    obtain ⟨G, g1, g2⟩ := restrict h' fun c => decide (c ≠ b)
    have gk : ∀ c, c ≠ b → G.get? c = h'.get? c := fun c hc => g1 c (decide_eq_true hc)
    have ge : G.get? b = none := g2 b (by simp)
    have old : ∀ c o, hp.get? c = some o → G.get? c = some o := fun c o q => (gk c (Nat.ne_of_lt (Nat.lt_of_lt_of_le (Heap.lt_size q) M.new))).trans (M.keep c o q)
    have ob : ObjOk X.prog X.w (upd H1 d (.xd [(f, v)])) G d (.xd [(f, v)]) := ⟨_, M.ns.at (fun o q => (gk d M.dne).trans q), fun y => relO_one rv f y⟩
    have JJ : Inv X pins σ (upd H1 d (.xd [(f, v)])) ⟨G, g, dr, tk', os⟩ := I1.laid (t' := tk') old M.dbig ob
    refine ⟨b, _, _, ⟨G, g, dr, tk', os⟩, _, .ref (CT k), some d, rfl, JJ, fun c o q => ?_, ge, hoe, ⟨rfl, rfl⟩, rfl, rfl, ?_, rfl, I1.bare, raises_own T.is.hs T.ty, q1 d (I1.hok.fresh M.dbig)⟩
    · by_cases hc : c = b
      · have q' : G.get? c = some o := q
        rw [hc, ge] at q'; cases q'
      · exact (gk c hc).symm.trans q
    · rw [upd_ne (Ne.symm M.dne)]
      exact I1.hok.fresh M.new
theorem s_raise (hc : X.calm = true) (T : XCls X.K (CT k)) (I : XIni X.K (CT k) f) (hr : Room j X.A) (tk : Takes X Wd) (hg : Gl X x) (hm : X.mg x = some (.ref (CT k))) (ha : SA X CT Wd [a] ar) (hf : f ∈ fieldNames := by decide) (hdb : (x == ("__debug__" : Str)) = false := by decide)
    (he : starEach [a] X.env = (false, eval a X.env) :: starEach [] X.env := by rfl) : SS X CT Wd (.Raise (some (.Call (.Name x p) [a] [] pos)) none pos2) (cRaise k f ar) :=
  (ps_raise hc tk (pmk_exc T I hr hg hm ha hf hdb he)).wk fun D σ H ⟨ρ, h, es, S, E, p⟩ => by
    refine ⟨ρ, h, es, S, E, PostS.bind (RR := RA X.K CT) S E p fun ws h1 ρ1 H1 vs N r p1 => ?_⟩
    cases r with
    | nil => exact p1.elim
    | @cons w v _ _ r1 t =>
      cases t with
      | cons _ _ => exact p1.elim
      | nil =>
        refine ⟨_, rfl, fun d nd => ?_⟩
        have N2 : Nxt X.K CT ρ1 h1 H1 ρ1 h1 (upd H1 d (.xd [(f, v)])) := Nxt.aside N.sim nd
        have p2 : PostS X.K CT Wd ρ1 h1 H1 (.exc ⟨k, [f], [w]⟩ es h1) D := p1
        exact p2 ρ1 _ σ (some d) N2 ((E.keep S N.toFw).keep N.sim N2.toFw) ⟨[v], upd_same, .cons (Rep.keep N.sim N2.toFw _ _ r1) .nil⟩
end
/-! ### try: the caught exception is a value of ours in the suite -/
structure Hd where
  j : Nat
  slot : Option Nat
  c : Sx
def unset (o : Option Nat) (es : Env) : Env := match o with
  | some i => es.set i none
  | none => es
def offSlot (o : Option Nat) (r : RS) : RS := match r with
  | .fl (.nx es) h => .fl (.nx (unset o es)) h
  | .fl (.bk es) h => .fl (.bk (unset o es)) h
  | .fl (.ct es) h => .fl (.ct (unset o es)) h
  | .fl (.rt w) h => .fl (.rt w) h
  | _ => .bad
def inSlot (o : Option Nat) (w : W) (es : Env) : Env := match o with
  | some i => es.set i (some w)
  | none => es
def handle (n : Nat) (mro : Nat → List Nat) (xs : Nat → Bool) (x : Xc) (es : Env) (h : Hx) : List Hd → RS
  | [] => .exc x es h
  | d :: r => if xs x.k = true ∧ x.k < n ∧ d.j < n then (if (mro x.k).contains d.j then offSlot d.slot (d.c (inSlot d.slot (.exc x.k x.ns x.ws) es) h) else handle n mro xs x es h r) else .bad
def cTry (n : Nat) (mro : Nat → List Nat) (xs : Nat → Bool) (b : Sx) (hs : List Hd) : Sx := fun es h => match b es h with
  | .exc x es1 h1 => handle n mro xs x es1 h1 hs
  | r => r
theorem un_track {fs ex : List Addr} {H0 H : Hp} {h0 h : Heap} {a : Addr} {o : HO} (U : Un fs ex H0 H h0 h) (n0 : h0.get? a = none) (na : H a = none) : Un fs ex H0 (upd H a o) h0 h where
  keep := U.keep
  slot := U.slot
  free := fun b u q n e => by rw [upd_ne (fun z => by rw [z, n0] at q; cases q)]; exact U.free b u q n e
  there := U.there
  tups := fun b xs q => by have z := U.tups b xs q; rw [upd_ne (ne_of_none z na)]; exact z
  frzs := fun b u xs q => by have z := U.frzs b u xs q; rw [upd_ne (ne_of_none z na)]; exact z
  tbls := fun b ps q => by obtain ⟨m, z⟩ := U.tbls b ps q; exact ⟨m, by rw [upd_ne (ne_of_none z na)]; exact z⟩
section
variable {X : Cx} {pins : List (Addr × Obj)} {σ : St} {H : Hp} {s : Shared}
theorem inv_track {a C : Addr} {od : Option Addr} {oe : Obj} {vs : Array Value} (I : Inv X pins σ H s) (ha : s.heap.get? a = some oe) (hz : Zc (.ref C) od oe) (hd : oe.data = .fields vs) (na : H a = none) (nL : a ≠ X.env.locals) (n0 : X.s_0.heap.get? a = none)
    (np : ∀ p ∈ X.pn ++ pins, p.1 ≠ a) : Inv (X.suite a (X.pn ++ pins)) [] σ (upd H a (exv a C od)) s :=
  ⟨I.ok.suite _ _, I.os, I.bare, un_track I.base n0 na, I.loc, I.cell, by rw [upd_ne (Ne.symm nL)]; exact I.free, fun y c e => by
      obtain ⟨v, o, ho, hdv⟩ := I.cell y c e
      rw [upd_ne (fun z => by rw [z, ha] at ho; cases ho; rw [hd] at hdv; cases hdv)]
      exact I.freeC y c e, fun q hq => by
      have hq' : q ∈ X.pn ++ pins := by rw [List.append_nil] at hq; exact hq
      obtain ⟨e, n, ne, nf, d⟩ := I.pin q hq'
      exact ⟨e, by rw [upd_ne (np q hq')]; exact n, ne, nf, d⟩, I.hok.laidN (fun _ _ e => e) na (exv_ok ha hz hd), I.len⟩
theorem inv_out {a : Addr} {pn' : List (Addr × Obj)} (I : Inv (X.suite a (X.pn ++ pins)) pn' σ H s) (ok : X.Ok) : Inv X pins σ H s :=
  ⟨ok, I.os, I.bare, I.base, I.loc, I.cell, I.free, I.freeC, fun q hq => I.pin q (List.mem_append_left _ hq), I.hok, I.len⟩
end
/-- the clauses -/
inductive Hds (X : Cx) (CT : CTx) : List ExceptHandler → List Hd → Prop
  | nil : Hds X CT [] []
  | plain {x : Str} {j : Nat} {c : Sx} {b₀ : Stmt} {suite : List Stmt} {np pos' : Pos} {hds : List ExceptHandler} {l : List Hd} (hc : Gl X x ∧ (x == ("__debug__" : Str)) = false ∧ X.mg x = some (.ref (CT j))) (hsu : ∀ (a : Addr) (pn : List (Addr × Obj)), SSs (X.suite a pn) CT W0 (b₀ :: suite) c) (r : Hds X CT hds l) :
      Hds X CT (.ExceptHandler (some (.Name x np)) none (b₀ :: suite) pos' :: hds) (⟨j, none, c⟩ :: l)
  | named {x m : Str} {i j : Nat} {c : Sx} {b₀ : Stmt} {suite : List Stmt} {np pos' : Pos} {hds : List ExceptHandler} {l : List Hd} (hc : Gl X x ∧ (x == ("__debug__" : Str)) = false ∧ X.mg x = some (.ref (CT j))) (hi : X.N[i]? = some m) (hln : X.env.kindOf m = some .local)
      (hsu : ∀ (a : Addr) (pn : List (Addr × Obj)), SSs (X.suite a pn) CT W0 (b₀ :: suite) c) (r : Hds X CT hds l) : Hds X CT (.ExceptHandler (some (.Name x np)) (some m) (b₀ :: suite) pos' :: hds) (⟨j, some i, c⟩ :: l)
section
variable {X : Cx} {CT : CTx} {Wd : WX} {n : Nat} {mro : Nat → List Nat} {ex xs : Nat → Bool} {pos : Pos}
/-- what is wished of an exception of the body -/
def wTry (K : PySem.W.Frag) (CT : CTx) (n : Nat) (mro : Nat → List Nat) (xs : Nat → Bool) (Wd : WX) (hl : List Hd) (D : Ends) : WX := fun cls od σ H => ∃ ρ h es x, Sim K CT ρ h H ∧ REnv K CT ρ h.n H es σ ∧ cls = .ref (CT x.k) ∧ XcR K CT ρ h.n H x od ∧ PostS K CT Wd ρ h H (handle n mro xs x es h hl) D
theorem REnv.unset {K : PySem.W.Frag} {ρ : Nat → Addr} {m : Nat} {H : Hp} {es : Env} {σ : St} (E : REnv K CT ρ m H es σ) (i : Nat) : REnv K CT ρ m H (es.set i none) (σ.set i none) := by
  refine ⟨by rw [List.length_set, List.length_set]; exact E.len, fun j u e => ?_⟩
  rw [List.getElem?_set] at e ⊢
  by_cases ij : i = j
  · subst ij
    rw [if_pos rfl] at e
    split at e <;> cases e
  · rw [if_neg ij] at e ⊢
    exact E.at_ j u e
theorem exm_tab (T : CTab X.K CT n mro ex) (xT : ∀ k, xs k = true → XCls X.K (CT k)) {k j : Nat} (hj : j < n) (hk : k < n) (xj : xs j = true) : PySem.W.exmOne X.K (.ref (CT k)) (.ref (CT j)) = some ((mro k).contains j) := by
  refine PySem.W.exm_ref (xT j xj).is.hs (xT j xj).is.hd (xT j xj).ty ?_
  have h := T.oo hk hj
  unfold PySem.W.kitOne at h
  by_cases c : (Value.ref (CT k) == Value.ref (CT j)) = true
  · have e : k = j := T.inj k j hk hj (Value.ref.inj (beq_iff_eq.mp c))
    subst e
    show PySem.W.mroIn X.K (CT k) (.ref (CT k)) = _
    rw [T.mroIn hk, show (mro k).contains k = true by simpa using T.self k hk]
    congr 1
    simp only [List.contains_iff_mem, List.mem_append, List.mem_map]
    exact .inl ⟨k, T.self k hk, rfl⟩
  · rw [if_neg c] at h
    have h2 : (if ((PySem.W.clsIn X.K (CT j)).isSome && PySem.W.typeIn X.K (.ref (CT j)) == some (.type "type")) = true then PySem.W.subIn X.K (.ref (CT k)) (.ref (CT j)) else none) = some ((mro k).contains j) := h
    rw [if_pos (T.cls hj)] at h2
    exact h2
theorem s_try {body : List Stmt} {h₀ : ExceptHandler} {hds : List ExceptHandler} {cb : Sx} {hl : List Hd} (T : CTab X.K CT n mro ex) (xT : ∀ k, xs k = true → XCls X.K (CT k)) (hj : ∀ d ∈ hl, xs d.j = true) (hs : X.stack = X.env :: X.outer) (hf : X.env.frame = some X.env.locals) (hN : X.N.Nodup) (hx : X.ex = []) (tk : Takes X Wd)
    (hb : ∀ (W : WX) (pn : List (Addr × Obj)) (xe : Value → Shared → Prop), Takes (X.tr pn xe) W → PassesOwn (model X.prog X.w) X.A X.env xe → SSs (X.tr pn xe) CT W body cb) (hh : Hds X CT (h₀ :: hds) hl) : SS X CT Wd (.Try body (h₀ :: hds) [] [] pos) (cTry n mro xs cb hl) := by
  refine ⟨fun pins s σ H D I q => ?_⟩
  obtain ⟨ρ, h, es, S, E, pp⟩ := q
  have ok := I.ok
  have hfr : X.A.frames = some (X.env :: X.outer) := by rw [ok.frames, hs]
  refine wpAny_Try_except ?_
  have rd : tSt (X.tr (X.pn ++ pins) X.xe).K CT (wTry X.K CT n mro xs Wd hl D) cb D σ H := by
    refine ⟨ρ, h, es, S, E, ?_⟩
    have p2 : PostS X.K CT Wd ρ h H (match cb es h with
      | .exc x es1 h1 => handle n mro xs x es1 h1 hl
      | r => r) D := pp
    cases g : cb es h with
    | bad => rw [g] at p2; exact p2
    | fl f h1 =>
      rw [g] at p2
      cases f with
      | nx _ => exact p2
      | rt _ => exact p2
      | bk _ => exact p2
      | ct _ => exact p2
    | exc x es1 h1 =>
      rw [g] at p2
      exact fun ρ1 H1 σ1 od N E1 xr => ⟨ρ1, h1, es1, x, N.sim, E1, rfl, xr, PostS.step S N p2⟩
  refine wpAny_mono ((hb (wTry X.K CT n mro xs Wd hl D) (X.pn ++ pins) (fun e s₁ => wpAny (model X.prog X.w) X.A (noteFrame e X.env) (fun _ s₂ => wpAny (model X.prog X.w) X.A (setFlight e none) (fun _ s₃ =>
    wpAny (model X.prog X.w) X.A (handleBy e X.env (h₀ :: hds)) (SP X pins D) X.xe s₃) X.xe s₂) X.xe s₁) (fun u s' xx => ?_) PassesOwn.looking).run [] s σ H D (I.toTry _) rd) (fun f s1 hsp => ?_) (fun e s1 he => he)
  · -- caught
    obtain ⟨a, B, sI, pins', σ', H', cls, d, rfl, J', nb, up, sky, na, os, ag, w⟩ := xx
    have J : Inv X pins σ' H' sI := J'.ofTry ok
    have sky' : Sky B (X.env :: X.outer) a (Zc cls d) X.env.locals s'.heap := by rw [← hs]; exact sky
    show wpAny (model X.prog X.w) X.A (noteFrame (.ref a) X.env) _ _ _
    refine Sky.land Zc.steady hfr hf sky' fun h3 fl3 up3 => ?_
    have J3 : Inv X pins σ' H' { s' with heap := h3 } := J.landed nb fl3.1 (up.trans up3) os ag
    obtain ⟨oe3, vs3, he3, hz3, hd3⟩ := fl3.there
    have nfr : a ∉ frs (X.env :: X.outer) := fun hm => by
      obtain ⟨_, o', e', hnf⟩ := (show h3.FunFrames B (X.env :: X.outer) from fl3.2.2.1).mem hm
      rw [he3] at e'
      cases e'
      exact hnf _ hd3
    have nL : a ≠ X.env.locals := fun z => nfr (List.mem_filterMap.mpr ⟨X.env, List.mem_cons_self, by rw [hf, z]⟩)
    have nF : a ∉ X.fs := fun hm => by
      obtain ⟨e, he, q⟩ := List.mem_filterMap.mp hm
      exact nfr (List.mem_filterMap.mpr ⟨e, List.mem_cons_of_mem _ he, q⟩)
    have nI : sI.heap.get? a = none := by
      cases z : sI.heap.get? a with
      | none => rfl
      | some o =>
        have y := nb a o z (by rw [hs]; exact nfr)
        rw [fl3.2.1] at y
        cases y
    have n0 : X.s_0.heap.get? a = none := by
      cases z : X.s_0.heap.get? a with
      | none => rfl
      | some o =>
        obtain ⟨o', y⟩ := J.base.there a o z (by rw [hx]; simp)
        rw [nI] at y
        cases y
    have npin : ∀ p ∈ X.pn ++ pins, p.1 ≠ a := fun p hp z => by
      obtain ⟨e, _⟩ := J.pin p hp
      rw [z, nI] at e
      cases e
    obtain ⟨ρ1, h1, es1, x, S1, E1, rfl, ⟨vs1, xd1, rs1⟩, w⟩ := w
    have S3 := J3.suite he3 hd3 na nL nF
    have LT : PySem.W.Looks (model X.prog X.w) h3 (typeOf (.ref a)) (.ref (CT x.k)) := fun A Q E s k q => wpAny_typeOf_ref (k _ _ he3) (by rw [hz3.1]; exact q)
    have test : ∀ {y : Str} {j : Nat} {np : Pos} {Q : Value → Shared → Prop} {E : Value → Shared → Prop}, Gl X y ∧ (y == ("__debug__" : Str)) = false ∧ X.mg y = some (.ref (CT j)) → Q (.ref (CT j)) { s' with heap := h3 } →
        wpAny (model X.prog X.w) (X.A.mark (some (.ref a))) (eval (.Name y np) X.env) Q E { s' with heap := h3 } := fun {y j np Q E} hc q => ld_glob (X := X.suite a ((a, oe3) :: (X.pn ++ pins))) S3 hc.1 hc.2.2 q hc.2.1
    have no : handle n mro xs x es1 h1 [] = .exc x es1 h1 := rfl
    have go : ∀ {hds' : List ExceptHandler} {l' : List Hd}, Hds X CT hds' l' → (∀ d ∈ l', xs d.j = true) → PostS X.K CT Wd ρ1 h1 H' (handle n mro xs x es1 h1 l') D → wpAny (model X.prog X.w) X.A (handleBy (.ref a) X.env hds') (SP X pins D) X.xe { s' with heap := h3 } := by
      intro hds' l' hk
      induction hk with
      | nil =>
        intro _ w
        refine wpAny_handleBy_nil ?_
        obtain ⟨k1, k2, k3, oe, vs, TT, oT, ts', he, hz, hd, h1', hr⟩ := id fl3
        unfold PySem.passOn
        refine wpAny_bind (wpAny_field he hd h1' ?_)
        rw [if_neg (show ¬ ((Value.ref TT == Value.none) = true) from by simp)]
        have fin : wpAny (model X.prog X.w) X.A (setFlight (.ref a) X.env.frame) (fun _ s4 => wpAny (model X.prog X.w) X.A (throw (.ref a) : Sem Flow) (SP X pins D) X.xe s4) X.xe { s' with heap := h3 } := by
          rw [hf]
          refine HandSPX.setFlight_upZ fl3 fun h4 hh4 up4 => wpAny_throw (tk _ _ ?_)
          exact ⟨a, B, sI, pins, σ', H', _, d, rfl, J, nb, (up.trans up3).trans up4, .inr (.inr (by rw [hs]; exact hh4)), na, os, ag, w ρ1 H' σ' d (Nxt.refl S1) E1 ⟨vs1, xd1, rs1⟩⟩
        first
          | exact wpAny_bind (wpAny_pure (wpAny_bind fin))
          | exact wpAny_bind fin
      | @plain y j c b₀ suite np pos' hds2 l2 hc hsu r ih =>
        intro hj w
        have w1 : PostS X.K CT Wd ρ1 h1 H' (if xs x.k = true ∧ x.k < n ∧ j < n then (if (mro x.k).contains j then offSlot none (c es1 h1) else handle n mro xs x es1 h1 l2) else .bad) D := w
        by_cases c0 : xs x.k = true ∧ x.k < n ∧ j < n
        · rw [if_pos c0] at w1
          refine wpAny_handleBy_cons (codeAny_handlers_test ?_) (by intro q; cases q)
          have LM := PySem.W.exm_one (M := model X.prog X.w) (J3.kIn) LT (exm_tab T xT c0.2.2 c0.2.1 (hj _ List.mem_cons_self))
          refine test hc (LM.here ?_)
          cases c1 : (mro x.k).contains j with
          | true =>
            rw [c1, if_pos rfl] at w1
            refine codeAny_handlers_suite ?_
            refine HandSPX.lands_againZ fl3 fun h4 fl4 up4 => ?_
            have J4 : Inv X pins σ' H' { s' with heap := h4 } := J.landed nb fl4.1 ((up.trans up3).trans up4) os ag
            obtain ⟨oe4, vs4, he4, hz4, hd4⟩ := fl4.there
            have S4 := inv_track J4 he4 hz4 hd4 na nL n0 npin
            have N4 : Nxt X.K CT ρ1 h1 H' ρ1 h1 (upd H' a (exv a (CT x.k) d)) := Nxt.aside S1 na
            have w2 : PostS X.K CT Wd ρ1 h1 (upd H' a (exv a (CT x.k) d)) (offSlot none (c es1 h1)) D := PostS.step S1 N4 w1
            have rd2 : tSt (X.suite a (X.pn ++ pins)).K CT W0 c D σ' (upd H' a (exv a (CT x.k) d)) := by
              refine ⟨ρ1, h1, es1, N4.sim, E1.keep S1 N4.toFw, ?_⟩
              cases g : c es1 h1 with
              | bad => rw [g] at w2; exact w2.elim
              | exc _ _ _ => rw [g] at w2; exact w2.elim
              | fl f h5 =>
                rw [g] at w2
                cases f with
                | nx _ => exact w2
                | rt _ => exact w2
                | bk _ => exact w2
                | ct _ => exact w2
            refine wpAny_mono ((hsu a (X.pn ++ pins)).run [] _ _ _ _ S4 rd2) (fun f s6 hsp => ?_) (fun _ _ z => False.elim z)
            cases f with
            | next =>
              obtain ⟨σ6, H6, S6, q6⟩ := hsp
              exact ⟨_, _, inv_out S6 ok, q6⟩
            | brk =>
              obtain ⟨σ6, H6, S6, q6⟩ := hsp
              exact ⟨_, _, inv_out S6 ok, q6⟩
            | cont =>
              obtain ⟨σ6, H6, S6, q6⟩ := hsp
              exact ⟨_, _, inv_out S6 ok, q6⟩
            | ret u =>
              obtain ⟨v6, σ6, H6, S6, r6, q6⟩ := hsp
              exact ⟨_, _, _, inv_out S6 ok, r6, q6⟩
          | false =>
            rw [c1, if_neg Bool.false_ne_true] at w1
            exact ih (fun d hd => hj d (List.mem_cons_of_mem _ hd)) w1
        · rw [if_neg c0] at w1
          exact w1.elim
      | @named y m i j c b₀ suite np pos' hds2 l2 hc hi hln hsu r ih =>
        intro hj w
        have w1 : PostS X.K CT Wd ρ1 h1 H' (if xs x.k = true ∧ x.k < n ∧ j < n then (if (mro x.k).contains j then offSlot (some i) (c (es1.set i (some (.exc x.k x.ns x.ws))) h1) else handle n mro xs x es1 h1 l2) else .bad) D := w
        by_cases c0 : xs x.k = true ∧ x.k < n ∧ j < n
        · rw [if_pos c0] at w1
          refine wpAny_handleBy_cons (codeAny_handlers_test ?_) (by intro q; cases q)
          have LM := PySem.W.exm_one (M := model X.prog X.w) (J3.kIn) LT (exm_tab T xT c0.2.2 c0.2.1 (hj _ List.mem_cons_self))
          refine test hc (LM.here ?_)
          cases c1 : (mro x.k).contains j with
          | true =>
            rw [c1, if_pos rfl] at w1
            refine codeAny_handlers_suite_as ?_
            refine HandSPX.lands_againZ fl3 fun h4 fl4 up4 => ?_
            have J4 : Inv X pins σ' H' { s' with heap := h4 } := J.landed nb fl4.1 ((up.trans up3).trans up4) os ag
            obtain ⟨oe4, vs4, he4, hz4, hd4⟩ := fl4.there
            have S4 := inv_track J4 he4 hz4 hd4 na nL n0 npin
            have N4 : Nxt X.K CT ρ1 h1 H' ρ1 h1 (upd H' a (exv a (CT x.k) d)) := Nxt.aside S1 na
            have w2 : PostS X.K CT Wd ρ1 h1 (upd H' a (exv a (CT x.k) d)) (offSlot (some i) (c (es1.set i (some (.exc x.k x.ns x.ws))) h1)) D := PostS.step S1 N4 w1
            have ka : Kp X.K ρ1 h1.n H' ρ1 h1.n (upd H' a (exv a (CT x.k) d)) := Kp.of S1 N4.toFw
            have rx : Rep X.K CT ρ1 h1.n (upd H' a (exv a (CT x.k) d)) (.exc x.k x.ns x.ws) (.ref a) := .exc upd_same (XdAt.kp ka xd1) (Reps.kp ka _ _ rs1)
            refine store_ok (X := X.suite a (X.pn ++ pins)) (v := .ref a) S4 hN hi (.inl hln) rfl (fun s5 S5 => ?_) (.inr hln)
            have rd2 : tSt (X.suite a (X.pn ++ pins)).K CT W0 c { nx := fun σ' H' => D.nx (σ'.set i none) H', rt := D.rt, bk := fun σ' H' => D.bk (σ'.set i none) H', ct := fun σ' H' => D.ct (σ'.set i none) H' } (σ'.set i (some (.ref a))) (upd H' a (exv a (CT x.k) d)) := by
              refine ⟨ρ1, h1, es1.set i (some (.exc x.k x.ns x.ws)), N4.sim, (E1.keep S1 N4.toFw).set rx i, ?_⟩
              cases g : c (es1.set i (some (.exc x.k x.ns x.ws))) h1 with
              | bad => rw [g] at w2; exact w2.elim
              | exc _ _ _ => rw [g] at w2; exact w2.elim
              | fl f h5 =>
                rw [g] at w2
                cases f with
                | nx _ => exact fun ρ6 H6 σ6 N6 E6 => w2 ρ6 H6 _ N6 (E6.unset i)
                | rt _ => exact w2
                | bk _ => exact fun ρ6 H6 σ6 N6 E6 => w2 ρ6 H6 _ N6 (E6.unset i)
                | ct _ => exact fun ρ6 H6 σ6 N6 E6 => w2 ρ6 H6 _ N6 (E6.unset i)
            refine wpAny_mono ((hsu a (X.pn ++ pins)).run [] _ _ _ _ S5 rd2) (fun f s6 hsp => ?_) (fun _ _ z => False.elim z)
            have end_ : ∀ {σ6 : St} {H6 : Hp} {Q : Shared → Prop}, Inv (X.suite a (X.pn ++ pins)) [] σ6 H6 s6 → (∀ s7, Inv X pins (σ6.set i none) H6 s7 → Q s7) →
                wpAny (model X.prog X.w) X.A (do bindName X.env m .none; unbindBehindTheSuite X.env m pos') (fun _ s7 => Q s7) X.xe s6 := fun {σ6 H6 Q} S6 hq => gone_ok (inv_out S6 ok) hN hi hln hq
            cases f with
            | next =>
              obtain ⟨σ6, H6, S6, q6⟩ := hsp
              exact end_ S6 fun s7 J7 => ⟨_, _, J7, q6⟩
            | brk =>
              obtain ⟨σ6, H6, S6, q6⟩ := hsp
              exact end_ S6 fun s7 J7 => ⟨_, _, J7, q6⟩
            | cont =>
              obtain ⟨σ6, H6, S6, q6⟩ := hsp
              exact end_ S6 fun s7 J7 => ⟨_, _, J7, q6⟩
            | ret u =>
              obtain ⟨v6, σ6, H6, S6, r6, q6⟩ := hsp
              exact end_ S6 fun s7 J7 => ⟨_, _, _, J7, r6, q6⟩
          | false =>
            rw [c1, if_neg Bool.false_ne_true] at w1
            exact ih (fun d hd => hj d (List.mem_cons_of_mem _ hd)) w1
        · rw [if_neg c0] at w1
          exact w1.elim
    exact go hh hj w
  · cases f with
    | next =>
      obtain ⟨σ', H', J', q⟩ := hsp
      exact wpAny_execs_nil ⟨σ', H', J'.ofTry ok, q⟩
    | brk =>
      obtain ⟨σ', H', J', q⟩ := hsp
      exact ⟨σ', H', J'.ofTry ok, q⟩
    | cont =>
      obtain ⟨σ', H', J', q⟩ := hsp
      exact ⟨σ', H', J'.ofTry ok, q⟩
    | ret u =>
      obtain ⟨v, σ', H', J', r, q⟩ := hsp
      exact ⟨v, σ', H', J'.ofTry ok, r, q⟩
end
end Sx

set_option linter.all false
set_option autoImplicit false
set_option maxRecDepth 100000
set_option maxHeartbeats 2000000
namespace Sx
open PySem L2
/-! ### enumerate -/
def enumW (ws : List W) (h1 : Hx) : R Cur := match ws with
  | [.ref i] => match h1.get i with
    | some (.lst _) => .ok (.enm i 0) h1
    | _ => .bad
  | _ => .bad
def xEnum (a : Ax) : Ix := fun es h => (a es h).bind fun ws h1 => enumW ws h1
section
variable {K : PySem.W.Frag} {CT : CTx} {ρ : Nat → Addr} {h : Hx} {H : Hp}
theorem its_enm {i : Nat} (hi : i < h.n) : ItS K CT ρ h H (Ite K (ρ i)) (.enm i 0) := by
  refine ⟨fun j c => c = .enm i j, rfl, fun j c e ρ' h' H' N => ?_⟩
  subst e
  show match (match h'.get i with
    | some (.lst xs) => some (xs[j]?.map fun w => (W.tup [.int (j : Nat), w], Cur.enm i (j + 1)))
    | _ => none) with
    | none => True
    | some none => _
    | some (some (w, c')) => _
  cases g : h'.get i with
  | none => exact trivial
  | some o =>
    cases o with
    | dic _ _ => exact trivial
    | ins _ _ => exact trivial
    | dicN _ _ => exact trivial
    | lst xs =>
      obtain ⟨vs, q, rs⟩ := lst_get N.sim g
      rw [N.ext i hi] at q
      show match some (xs[j]?.map fun w => (W.tup [.int (j : Nat), w], Cur.enm i (j + 1))) with
        | none => True
        | some none => _
        | some (some (w, c')) => _
      cases g2 : xs[j]? with
      | none => exact ⟨vs, .of q, by rw [← rs.length]; exact List.getElem?_eq_none_iff.mp g2⟩
      | some w =>
        obtain ⟨v, ev, rv⟩ := rs.get g2
        refine ⟨rfl, ⟨vs, v, .of q, ev⟩, fun x H'' y => ?_⟩
        obtain ⟨T, x0, e1, e2, e3, k⟩ := y
        subst e1
        subst e3
        have := k vs (.of q)
        rw [ev] at this
        cases this
        have N2 : Nxt K CT ρ' h' H' ρ' h' (upd H' T (.tup [.int (j : Nat), v])) := Nxt.aside N.sim e2
        exact ⟨N2, .tup (.inl (.inl upd_same)) (.cons (.int _) (.cons (Rep.keep N.sim N2.toFw _ _ rv) .nil))⟩
end
section
variable {X : Cx} {CT : CTx} {Wd : WX} {a e tg : Expr} {ar : Ax} {pos p tpos : Pos} {elts : List Expr} {kk : Nat}
theorem si_enum (hg : Gl X "enumerate") (hm : X.mg "enumerate" = none) (ha : SA X CT Wd [e] ar) (hs : starEach [e] X.env = [(false, eval e X.env)] := by rfl) : SI X CT Wd (.Tuple elts kk tpos) (.Call (.Name "enumerate" p) [e] [] pos) (xEnum ar) := (pi_enum hg hm ha hs).wk fun σ H R ⟨ρ, h, es, S, E, q⟩ => by
  refine ⟨ρ, h, es, S, E, ?_⟩
  have q' : PostI X.K CT Wd ρ h H σ ((ar es h).bind fun ws h1 => enumW ws h1) R := q
  cases g : ar es h with
  | bad => rw [g] at q'; exact q'.elim
  | exc x h1 => rw [g] at q'; exact q'
  | ok ws h1 =>
    rw [g] at q'
    intro ρ1 H1 vs N rs
    have q2 : PostI X.K CT Wd ρ h H σ (enumW ws h1) R := q'
    cases rs with
    | nil => exact q2.elim
    | cons r t =>
      cases t with
      | cons _ _ => cases r <;> exact (show False from q2).elim
      | nil =>
        cases r with
        | @ref i hi =>
          have q3 : PostI X.K CT Wd ρ h H σ (match h1.get i with
            | some (.lst _) => .ok (.enm i 0) h1
            | _ => .bad) R := q2
          split at q3
          · rename_i xs gi
            obtain ⟨us, qq, _⟩ := lst_get N.sim gi
            exact ⟨_, us, rfl, .of qq, q3 ρ1 H1 _ N (its_enm hi)⟩
          · exact q3.elim
        | _ => exact (show False from q2).elim
/-- a class of the text, as a value -/
theorem se_cl {x : Str} {k : Nat} (hg : Gl X x) (hm : X.mg x = some (.ref (CT k))) (hd : (x == ("__debug__" : Str)) = false := by decide) : SE X CT Wd (.Name x p) (xC (.cl k)) :=
  se_c (pe_glob (v := .ref (CT k)) hg hm rfl hd) fun _ _ _ => .cl k
end
end Sx

set_option linter.all false
set_option autoImplicit false
set_option maxRecDepth 100000
set_option maxHeartbeats 2000000
namespace Sx
open PySem L2
/-! ### the classes of the text, by one look -/
open PySem.W in
def xclsB (K : Frag) (C : Addr) : Bool := excInitIn K C exT "Exception.__new__" && excOver K C exT && findIn K (.ref C) "__setattr__" == some (some (.builtin "object.__setattr__")) && typeIn K (.ref C) == some (.type "type") && keepIn K (.ref C) &&
  (findIn K (.ref C) "__getattribute__" == some (some (.builtin "BaseException.__getattribute__")) && findIn K (.ref C) "__getattr__" == some none && subIn K (.ref C) (.type "BaseException") == some true && hasDictIn K C &&
  findIn K (.ref C) "__class__" == some (some (.builtin "object.__class__")) && specialIn K (.builtin "object.__class__") "__get__" == some (some (.builtin "getset_descriptor.__get__")) && takesIn K (.builtin "object.__class__") == some true && mroIn K C (.type "object") == some true)
theorem xcls_of {K : PySem.W.Frag} {C : Addr} (h : xclsB K C = true) : XCls K C := by
  unfold xclsB at h
  simp only [Bool.and_eq_true, beq_iff_eq] at h
  obtain ⟨⟨⟨⟨⟨h1, h2⟩, h3⟩, h4⟩, h5⟩, ⟨⟨⟨⟨⟨⟨⟨g1, g2⟩, g3⟩, g4⟩, g5⟩, g6⟩, g7⟩, g8⟩⟩ := h
  exact ⟨h1, h2, h3, ⟨g1, g2, g3, g4, g5, g6, g7, g8⟩, h4, h5⟩
/-- where the classes lie -/
abbrev ctOf (cs : List Addr) : Nat → Addr := fun k => cs.getD k 0
open PySem.W in
def ctabB (K : Frag) (cs : List Addr) (mro : List (List Nat)) (ex : List Bool) : Bool := decide cs.Nodup && (List.range cs.length).all fun k => typeIn K (.ref (ctOf cs k)) == some (.type "type") &&
  (clsIn K (ctOf cs k)).map (·.mro) == some ((mro.getD k []).map (fun j => Value.ref (ctOf cs j)) ++ (if ex.getD k false then exT else [.type "object"])) && (mro.getD k []).all (fun j => decide (j < cs.length)) && (mro.getD k []).contains k && (!ex.getD k false || xclsB K (ctOf cs k))
theorem ctab_of {K : PySem.W.Frag} {cs : List Addr} {mro : List (List Nat)} {ex : List Bool} (h : ctabB K cs mro ex = true) : CTab K (ctOf cs) cs.length (fun k => mro.getD k []) (fun k => ex.getD k false) ∧ ∀ k, (decide (k < cs.length) && ex.getD k false) = true → XCls K (ctOf cs k) := by
  unfold ctabB at h
  rw [Bool.and_eq_true, decide_eq_true_eq] at h
  obtain ⟨nd, al⟩ := h
  have each : ∀ k, k < cs.length → _ := fun k hk => List.all_eq_true.mp al k (List.mem_range.mpr hk)
  simp only [Bool.and_eq_true, beq_iff_eq] at each
  refine ⟨⟨fun k hk => (each k hk).1.1.1.1, fun k hk => (each k hk).1.1.1.2, fun k hk j hj => ?_, fun k hk => List.contains_iff_mem.mp (each k hk).1.2, fun i j hi hj e => ?_⟩, fun k hk => ?_⟩
  · exact of_decide_eq_true (List.all_eq_true.mp (each k hk).1.1.2 j hj)
  · have e1 : cs[i] = cs[j] := by
      have := e
      unfold ctOf at this
      rw [List.getD_eq_getElem?_getD, List.getD_eq_getElem?_getD, List.getElem?_eq_getElem hi, List.getElem?_eq_getElem hj] at this
      exact this
    exact (List.getElem_inj nd).mp e1
  · rw [Bool.and_eq_true, decide_eq_true_eq] at hk
    have q := (each k hk.1).2
    rw [hk.2] at q
    exact xcls_of (by simpa using q)
theorem xini_of {K : PySem.W.Frag} {C fI : Addr} {f qual : Str} {oc : Value} {od : Option Addr} {doc pm : Value} {an : Option Addr} {cdv ct : Value} {osl : Array (Option Value)} {p1 p2 q1 q2 q3 q4 : Pos} (no : PySem.W.findIn K (.ref C) f = some none) (a : PySem.W.findIn K (.ref C) "__init__" = some (some (.ref fI)))
    (t : PySem.W.typeIn K (.ref fI) = some (.type "function")) (l : K.lookup fI = some ⟨oc, od, .func (PySem.W.fnOf "__init__" qual (initArgs f p1 p2) (initBody f q1 q2 q3 q4) (initScope f) .none .none doc pm an cdv ct), osl⟩) (c : PySem.W.codeIn K cdv qual = true) : XIni K C f :=
  ⟨no, fI, qual, oc, od, doc, pm, an, cdv, ct, osl, p1, p2, q1, q2, q3, q4, a, t, l, c⟩
/-- the law's promise, wherever the classes lie -/
def spAll (K : PySem.W.Frag) (f : Fn) : Sp := fun vs H Q E => ∀ CT, spOf K CT f vs H Q E
end Sx

set_option linter.all false
set_option autoImplicit false
set_option maxRecDepth 100000
set_option maxHeartbeats 2000000
namespace Sx
open PySem L2
/-! ### instances: fields -/
def insW (ok : Nat → Bool) (f : Nat) (w : W) (h : Hx) : R W := match w with
  | .ref i => match h.get i with
    | some (.ins k fs) => match fs.lookup f with
      | some u => if ok k = true then .ok u h else .bad
      | none => .bad
    | _ => .bad
  | _ => .bad
def putW (f : Nat) (w : W) : List (Nat × W) → List (Nat × W)
  | [] => [(f, w)]
  | (g, u) :: r => if g = f then (f, w) :: r else (g, u) :: putW f w r
def setFldW (ok : Nat → Bool) (f : Nat) (o w : W) (h : Hx) : R Unit := match o with
  | .ref i => match h.get i with
    | some (.ins k fs) => if ok k = true ∧ fs.length < 1000 then .ok () (h.put i (.ins k (putW f w fs))) else .bad
    | _ => .bad
  | _ => .bad
/-- o.f = e -/
def cFld (ok : Nat → Bool) (f : Nat) (o e : Ex) : Sx := fun es h => (e es h).bindS es fun w h1 => (o es h1).bindS es fun ov h2 => (setFldW ok f ov w h2).bindS es fun _ h3 => .fl (.nx es) h3
theorem ins_sim {K : PySem.W.Frag} {CT : CTx} {ρ : Nat → Addr} {h : Hx} {H : Hp} {i k : Nat} {fs : List (Nat × W)} (S : Sim K CT ρ h H) (g : h.get i = some (.ins k fs)) : ∃ dx vs, H (ρ i) = some (.ins (CT k) dx vs) ∧ RepF K CT ρ h.n H fs vs := S.ob i _ g
theorem nm_beq (f g : Nat) : (nm f == nm g) = (f == g) := by
  rw [Bool.eq_iff_iff, beq_iff_eq, beq_iff_eq]
  exact ⟨nm_inj, fun e => by rw [e]⟩
theorem RepF.lookup {K : PySem.W.Frag} {CT : CTx} {ρ : Nat → Addr} {n : Nat} {H : Hp} {f : Nat} : ∀ {fs : List (Nat × W)} {vs : List (Str × V)} {u : W}, RepF K CT ρ n H fs vs → fs.lookup f = some u → ∃ v, vs.lookup (nm f) = some v ∧ Rep K CT ρ n H u v
  | _, _, _, .nil, e => by cases e
  | _, _, u, .cons (f := g) r t, e => by
    rw [List.lookup_cons] at e ⊢
    rw [nm_beq]
    cases c : f == g with
    | true =>
      rw [c] at e
      cases e
      exact ⟨_, rfl, r⟩
    | false =>
      rw [c] at e
      exact RepF.lookup t e
theorem RepF.length {K : PySem.W.Frag} {CT : CTx} {ρ : Nat → Addr} {n : Nat} {H : Hp} : ∀ {fs : List (Nat × W)} {vs : List (Str × V)}, RepF K CT ρ n H fs vs → fs.length = vs.length
  | _, _, .nil => rfl
  | _, _, .cons _ t => by rw [List.length_cons, List.length_cons, RepF.length t]
theorem RepF.none {K : PySem.W.Frag} {CT : CTx} {ρ : Nat → Addr} {n : Nat} {H : Hp} {f : Nat} : ∀ {fs : List (Nat × W)} {vs : List (Str × V)}, RepF K CT ρ n H fs vs → fs.lookup f = none → vs.lookup (nm f) = none
  | _, _, .nil, _ => rfl
  | _, _, .cons (f := g) r t, e => by
    rw [List.lookup_cons] at e ⊢
    rw [nm_beq]
    cases c : f == g with
    | true => rw [c] at e; cases e
    | false =>
      rw [c] at e
      exact RepF.none t e
section
variable {X : Cx} {CT : CTx} {Wd : WX} {a e o : Expr} {ca co ce : Ex} {ar : Ax} {pos p pos' : Pos} {x f m : Str} {k j : Nat} {ok : Nat → Bool} {fc mc : Nat}
theorem se_ifld (hf : nm fc = f) (T : ∀ k, ok k = true → Cls X.K (CT k) ∧ NoAttr X.K (CT k) f) (ha : SE X CT Wd a ca) (hb : attributeBase a f X.env (eval a X.env) = eval a X.env := by rfl) : SE X CT Wd (.Attribute a f pos) (xUn (insW ok fc) ca) :=
  (pe_fld ha hb).wk fun σ H Q ⟨ρ, h, es, S, E, pp⟩ => by
    subst hf
    refine ⟨ρ, h, es, S, E, Post.bind (RR := RW X.K CT) S pp fun w h1 ρ1 H1 v N r p1 => ?_⟩
    have p2 : Post X.K CT (RW X.K CT) Wd ρ1 h1 H1 σ (insW ok fc w h1) Q := p1
    cases r with
    | @ref i hi =>
      have p3 : Post X.K CT (RW X.K CT) Wd ρ1 h1 H1 σ (match h1.get i with
        | some (.ins k fs) => match fs.lookup fc with
          | some u => if ok k = true then .ok u h1 else .bad
          | none => .bad
        | _ => .bad) Q := p2
      split at p3
      · rename_i k fs g
        split at p3
        · rename_i u gu
          obtain ⟨c, p4⟩ := post_if p3
          obtain ⟨dx, vs, eh, rf⟩ := ins_sim N.sim g
          obtain ⟨vu, lu, ru⟩ := rf.lookup gu
          exact ⟨_, _, dx, vs, vu, rfl, eh, (T k c).1, (T k c).2, lu, Post.here N.sim p4 ru⟩
        · exact p3.elim
      · exact p3.elim
    | _ => exact p2.elim
theorem RepF.put {K : PySem.W.Frag} {ρ : Nat → Addr} {n : Nat} {H : Hp} {w : W} {v : V} (r : Rep K CT ρ n H w v) : ∀ {fs : List (Nat × W)} {vs : List (Str × V)}, RepF K CT ρ n H fs vs → RepF K CT ρ n H (putW fc w fs) (putF (nm fc) v vs)
  | _, _, .nil => .cons r .nil
  | _, _, .cons (f := g) q t => by
    unfold putW putF
    by_cases c : g = fc
    · rw [if_pos c, if_pos (by rw [c])]
      subst c
      exact .cons r t
    · rw [if_neg c, if_neg (fun z => c (nm_inj z))]
      exact .cons q (RepF.put r t)
theorem s_ifld (hf : nm fc = f) (T : ∀ k, ok k = true → Cls X.K (CT k) ∧ NoAttr X.K (CT k) f) (ho : SE X CT Wd o co) (he : SE X CT Wd e ce) (hs : swapsWith e (some (.Attribute o f pos')) pos.line X.env = pure false := by rfl) : SS X CT Wd (.Assign [.Attribute o f pos'] e pos) (cFld ok fc co ce) :=
  (ps_fld ho he hs).wk fun D σ H ⟨ρ, h, es, S, E, pp⟩ => by
    subst hf
    refine ⟨ρ, h, es, S, E, PostS.bind (RR := RW X.K CT) S E pp fun w h1 ρ1 H1 v N1 r1 p1 => ?_⟩
    have E1 := E.keep S N1.toFw
    refine ⟨ρ1, h1, es, N1.sim, E1, PostS.bind (RR := RW X.K CT) N1.sim E1 p1 fun ov h2 ρ2 H2 u N2 r2 p2 => ?_⟩
    have E2 := E1.keep N1.sim N2.toFw
    have rw2 := Rep.keep N1.sim N2.toFw _ _ r1
    have p3 : PostS X.K CT Wd ρ2 h2 H2 ((setFldW ok fc ov w h2).bindS es fun _ h3 => .fl (.nx es) h3) D := p2
    cases r2 with
    | @ref i hi =>
      cases g : h2.get i with
      | none =>
        have : setFldW ok fc (.ref i) w h2 = .bad := by unfold setFldW; simp only [g]
        rw [this] at p3
        exact p3.elim
      | some ob =>
        cases ob with
        | lst _ =>
          have : setFldW ok fc (.ref i) w h2 = .bad := by unfold setFldW; simp only [g]
          rw [this] at p3
          exact p3.elim
        | dicN _ _ =>
          have : setFldW ok fc (.ref i) w h2 = .bad := by unfold setFldW; simp only [g]
          rw [this] at p3
          exact p3.elim
        | dic _ _ =>
          have : setFldW ok fc (.ref i) w h2 = .bad := by unfold setFldW; simp only [g]
          rw [this] at p3
          exact p3.elim
        | ins k fs =>
          by_cases c : ok k = true ∧ fs.length < 1000
          · have q : setFldW ok fc (.ref i) w h2 = .ok () (h2.put i (.ins k (putW fc w fs))) := by
              unfold setFldW
              simp only [g]
              exact if_pos c
            rw [q] at p3
            obtain ⟨dx, vs, eh, rf⟩ := ins_sim N2.sim g
            refine ⟨_, _, dx, vs, rfl, eh, (T k c.1).1, (T k c.1).2, by rw [← rf.length]; exact c.2, ?_⟩
            have N3 : Nxt X.K CT ρ2 h2 H2 ρ2 (h2.put i (.ins k (putW fc w fs))) (upd H2 (ρ2 i) (.ins (CT k) dx (putF (nm fc) v vs))) :=
              Nxt.put N2.sim hi (by rw [eh]; exact True.intro) ⟨dx, _, upd_same, RepF.keep N2.sim (Fw.put N2.sim hi (by rw [eh]; exact True.intro)) (RepF.put rw2 rf)⟩
            exact p3 ρ2 _ σ N3 (E2.keep N2.sim N3.toFw)
          · have q : setFldW ok fc (.ref i) w h2 = .bad := by
              unfold setFldW
              simp only [g]
              exact if_neg c
            rw [q] at p3
            exact p3.elim
    | _ => exact (show False from p3).elim
end
end Sx

set_option linter.all false
set_option autoImplicit false
set_option maxRecDepth 100000
set_option maxHeartbeats 2000000
namespace Sx
open PySem L2
/-! ### defs that may raise; nothing is being shown around them -/
structure FnG (P : Program) (w : World) (K : PySem.W.Frag) (mg : Str → Option Value) (base : Heap) (k : Nat) (f : Addr) (fd : FuncData) (ps : List Str) (sp : Sp) : Prop where
  len : ∀ vs H Q E, sp vs H Q E → vs.length = ps.length
  run : ∀ (A : Around) (outer : List PySem.Env) (s : Shared) (H : Hp) (args : Args) (us : List Value) (vs : List V) (Q : VK) (E : XK), A.guards = some [] → Room k A → Env0 P w K mg base A outer s H → BindsTo s fd args (ps.zip us) → Vals vs us → sp vs H Q E →
    codeAny (model P w) A (.call (.ref f) args) (CR (L2.CX P w) outer P w H s Q E) s
abbrev WE0 (E : XK) : WX := fun cls d _ H => E cls d H
section
variable {P : Program} {w : World} {K : PySem.W.Frag} {mg : Str → Option Value} {base : Heap} {CT : CTx}
/-- a def from its body -/
theorem fn_okG {x qual : Str} {params : Arguments} {body : List Stmt} {scope : Scope} {dvs : List V} {kws : List (Str × V)} {f : Addr} {fd : FuncData} {N ps : List Str} {k : Nat} {c : Sx} (F : FunD K x qual params body scope dvs kws f fd) (S : FnScope N ps scope)
    (hbody : ∀ (A : Around) (outer : List PySem.Env) (s : Shared) (H : Hp) (E : XK) (X : Cx), X = cxOf (L2.CX P w) P w K mg base N qual scope f fd.code A outer s H E → A.guards = some [] → Room k (A.deeper (PyProof.Rows.envOfC qual scope s.heap.objs.size f fd.code)) →
      Takes (cxOf (L2.CX P w) P w K mg base N qual scope f fd.code A outer s H E) (WE0 E) → PassesOwn (model P w) (A.deeper (PyProof.Rows.envOfC qual scope s.heap.objs.size f fd.code)) (PyProof.Rows.envOfC qual scope s.heap.objs.size f fd.code) (cxOf (L2.CX P w) P w K mg base N qual scope f fd.code A outer s H E).xe →
      SSs (cxOf (L2.CX P w) P w K mg base N qual scope f fd.code A outer s H E) CT (WE0 E) body c) : FnG P w K mg base (k + 1) f fd ps (spOf K CT (mkFn ps.length N.length c)) := by
  have key : ∀ vs H Q E, spOf K CT (mkFn ps.length N.length c) vs H Q E → vs.length = ps.length := fun vs H Q E h => by
    obtain ⟨ρ, h, ws, Sm, r, q⟩ := h
    by_cases e : ws.length = ps.length
    · rw [← r.length]
      exact e
    · unfold mkFn at q
      rw [if_neg e] at q
      exact q.elim
  refine ⟨key, fun A outer s H args us vs Q E hG hr e0 hb r h => ?_⟩
  have hl := key vs H Q E h
  obtain ⟨oc, od, dV, kV, doc, pm, an, cdv, ct, osl, rfl, lk, hcd, _, _⟩ := F.ex
  refine LamX.run_ofS (CX := L2.CX P w) (E := E) (N := N) lk hcd S hr e0 hb r hl fun hr' => ?_
  refine ⟨_, hbody A outer s H E _ rfl hG hr' (takes_of rfl rfl rfl rfl) (passes_of rfl), ?_⟩
  obtain ⟨ρ, h, ws, Sm, rw_, q⟩ := h
  have e : ws.length = ps.length := by rw [rw_.length]; exact hl
  refine ⟨ρ, h, ws.map some ++ List.replicate (N.length - ps.length) none, Sm, ?_, ?_⟩
  · unfold L2.start
    rw [hl]
    exact start_env _ rw_
  · unfold mkFn at q
    rw [if_pos e] at q
    cases g : c (ws.map some ++ List.replicate (N.length - ps.length) none) h with
    | bad => rw [g] at q; exact q.elim
    | exc x es h1 => rw [g] at q; exact fun ρ' H' σ' od N' _ r' => q ρ' H' od N' r'
    | fl fl h1 =>
      rw [g] at q
      cases fl with
      | nx es => exact fun ρ' H' σ' N' E' => q ρ' H' .non N' .non
      | rt w => exact fun ρ' H' v N' r' => q ρ' H' v N' r'
      | bk es => exact q.elim
      | ct es => exact q.elim
end
section
variable {X : Cx} {CT : CTx} {Wd : WX} {k : Nat} {f C : Addr} {fd : FuncData} {ps : List Str} {sp : Sp} {dvs : List V} {ds : List Value} {E : St → XK} {x m : Str} {p pos apos : Pos} {e o : Expr} {es : List Expr} {t : TA} {to : TE}
/-- the callee is run -/
theorem run_fnG {pins : List (Addr × Obj)} {σ : St} {H : Hp} {s : Shared} {Q : VK} {args : Args} {us : List Value} {vs : List V} (F : FnG X.prog X.w X.K X.mg X.base k f fd ps sp) (hG : X.A.guards = some []) (hr : Room k X.A) (tk : Takes X Wd)
    (I : Inv X pins σ H s) (hb : us.length = ps.length → BindsTo s fd args (ps.zip us)) (r : Vals vs us) (h : sp vs H Q (WE Wd σ)) : codeAny (model X.prog X.w) X.A (.call (.ref f) args) (fun r s' => match r with
      | .ok (.ret u) => EP X pins σ Q u s'
      | .ok _ => False
      | .error e => X.xe e s') s := by
  have hl : us.length = ps.length := by
    rw [← r.length]
    exact F.len _ _ _ _ h
  refine codeAny_mono (F.run X.A X.stack s H args us vs Q (WE Wd σ) hG hr I.env0 (hb hl) r h) fun res s' hq => ?_
  rcases res with e | fl
  · exact passAt tk σ pins H s e s' I hq
  cases fl with
  | ret u => exact I.after hq
  | _ => exact hq
theorem call_fnG {pins : List (Addr × Obj)} {σ : St} {H : Hp} {s : Shared} {Q : VK} {us : List Value} {vs : List V} (F : FnG X.prog X.w X.K X.mg X.base k f fd ps sp) (hG : X.A.guards = some []) (hr : Room k X.A) (hb : Binds X.K fd ps ds) (hd : Vals dvs ds) (tk : Takes X Wd)
    (I : Inv X pins σ H s) (r : Vals vs us) (h : sp (vs ++ dvs) H Q (WE Wd σ)) : wpAny (model X.prog X.w) X.A (call (.ref f) us) (EP X pins σ Q) X.xe s := by
  refine wpAny_call (codeAny_mono (run_fnG (us := us ++ ds) (args := ⟨us, []⟩) F hG hr tk I (fun hl => hb s us I.kIn hl) (r.append hd) h) fun res s' hq => ?_)
  rcases res with e | fl
  · exact hq
  cases fl with
  | ret u => exact hq
  | _ => exact False.elim hq
abbrev tCallG (sp : Sp) (dvs : List V) (Wd : WX) (t : TA) : TE := fun σ H Q => t σ H fun vs H1 => sp (vs ++ dvs) H1 Q (WE Wd σ)
theorem pe_callG (F : FnG X.prog X.w X.K X.mg X.base k f fd ps sp) (hG : X.A.guards = some []) (hr : Room k X.A) (hg : Gl X x) (hm : X.mg x = some (.ref f)) (hk : PySem.W.keepIn X.K (.ref f) = true) (hb : Binds X.K fd ps ds) (hd : Vals dvs ds) (tk : Takes X Wd)
    (ha : PA X (e :: es) t) (hdb : (x == ("__debug__" : Str)) = false) (he : starEach (e :: es) X.env = (false, eval e X.env) :: starEach es X.env) (hpl : (backTo pos (starEach es X.env)).any (·.1) = false) : PE X (.Call (.Name x p) (e :: es) [] pos) (tCallG sp dvs Wd t) :=
  ⟨fun pins s σ H Q I h => wpAny_Call_Name_kw (ld_glob I hg hm (PySem.W.callWith_K (h₀ := X.base) I.ok.mod.kin hk (thn (ha.run pos pins s σ H _ I h) fun us s1 ⟨vs, H1, I1, r, q⟩ => ⟨I1.kIn, call_fnG F hG hr hb hd tk I1 r q⟩) he hpl) hdb)⟩
theorem pe_callG0 (F : FnG X.prog X.w X.K X.mg X.base k f fd ps sp) (hG : X.A.guards = some []) (hr : Room k X.A) (hg : Gl X x) (hm : X.mg x = some (.ref f)) (hk : PySem.W.keepIn X.K (.ref f) = true) (hb : Binds X.K fd ps ds) (hd : Vals dvs ds) (tk : Takes X Wd)
    (hdb : (x == ("__debug__" : Str)) = false) : PE X (.Call (.Name x p) [] [] pos) (tCallG sp dvs Wd tNil) :=
  ⟨fun pins s σ H Q I h => wpAny_Call_Name_kw (ld_glob I hg hm (PySem.W.callWith_K0 I.kIn hk (call_fnG (us := []) F hG hr hb hd tk I .nil h)) hdb)⟩
abbrev tMethG (C : Addr) (m : Str) (sp : Sp) (dvs : List V) (Wd : WX) (ta : TE) (t : TA) : TE := fun σ H Q => ta σ H fun x H1 => ∃ a dx fs, x = .ref a ∧ H1 a = some (.ins C dx fs) ∧ fs.lookup m = none ∧ t σ H1 fun vs H2 => sp (x :: (vs ++ dvs)) H2 Q (WE Wd σ)
theorem pe_methG {pl : Sem Bool} (he : PE X o to) (c : Cls X.K C) (hm : Meth X.K C m f) (F : FnG X.prog X.w X.K X.mg X.base k f fd ps sp) (hG : X.A.guards = some []) (hr : Room k X.A) (hb : Binds X.K fd ps ds) (hd : Vals dvs ds) (tk : Takes X Wd) (ha : PA X (e :: es) t)
    (hst : starEach (e :: es) X.env = (false, eval e X.env) :: starEach es X.env) (hpl : (backTo pos (starEach es X.env)).any (·.1) = false)
    (ht : eval (.Call (.Attribute o m apos) (e :: es) [] pos) X.env = (do
      let v ← eval o X.env
      standAt apos.atName
      let (f, first) ← holding [v] (getMethod v m pl)
      callWith pos f first (backTo pos (starEach (e :: es) X.env)) (backToKw pos (keywordEach [] X.env)))) : PE X (.Call (.Attribute o m apos) (e :: es) [] pos) (tMethG C m sp dvs Wd to t) :=
  ⟨fun pins s σ H Q I h => PySem.W.methodCall_KW (pl := pl) (thn (he.run pins s σ H _ I h) fun u s1 hu => by
    obtain ⟨x, H1, I1, rx, a, dx, fs, ex, ea, l, q⟩ := hu
    subst ex
    cases (show u = Value.ref a from rx)
    exact getmeth_ok I1 ea c hm l (PySem.W.callWith_K (first := [.ref a]) (h₀ := X.base) I.ok.mod.kin hm.kp (thn (ha.run pos pins s1 σ H1 _ I1 q) fun us s2 ⟨vs, H2, I2, r, q2⟩ => ⟨I2.kIn, call_fnG (us := .ref a :: us) (vs := .ref a :: vs) F hG hr hb hd tk I2 (.cons rfl r) q2⟩) hst hpl)) ht⟩
theorem pe_methG0 {pl : Sem Bool} (he : PE X o to) (c : Cls X.K C) (hm : Meth X.K C m f) (F : FnG X.prog X.w X.K X.mg X.base k f fd ps sp) (hG : X.A.guards = some []) (hr : Room k X.A) (hb : Binds X.K fd ps ds) (hd : Vals dvs ds) (tk : Takes X Wd)
    (ht : eval (.Call (.Attribute o m apos) [] [] pos) X.env = (do
      let v ← eval o X.env
      standAt apos.atName
      let (f, first) ← holding [v] (getMethod v m pl)
      callWith pos f first (backTo pos (starEach [] X.env)) (backToKw pos (keywordEach [] X.env)))) : PE X (.Call (.Attribute o m apos) [] [] pos) (tMethG C m sp dvs Wd to tNil) :=
  ⟨fun pins s σ H Q I h => PySem.W.methodCall_KW (pl := pl) (thn (he.run pins s σ H _ I h) fun u s1 hu => by
    obtain ⟨x, H1, I1, rx, a, dx, fs, ex, ea, l, q⟩ := hu
    subst ex
    cases (show u = Value.ref a from rx)
    exact getmeth_ok I1 ea c hm l (PySem.W.callWith_K0 (first := [.ref a]) I1.kIn hm.kp (call_fnG (us := [.ref a]) (vs := [.ref a]) F hG hr hb hd tk I1 (.cons rfl .nil) q))) ht⟩
abbrev tMakeG (C : Addr) (sp : Sp) (dvs : List V) (Wd : WX) (t : TA) : TE := fun σ H Q => t σ H fun vs H1 => ∀ x dx, H1 x = none → H1 dx = none → dx ≠ x →
  sp (.ref x :: (vs ++ dvs)) (upd (upd H1 dx (.own x)) x (.ins C dx [])) (fun v H2 => v = .non ∧ Q (.ref x) H2) (WE Wd σ)
theorem under_guards {A : Around} {C : Addr} {us : List Value} {kw : List (Str × Value)} (h : A.guards = some []) : (A.under (.builtin "type.__call__" ⟨.ref C :: us, kw⟩)).guards = some [] := by
  first
    | exact h
    | (simpa [Around.under, Code.guards, Code.isGuard, pushGuards, guardIds] using h)
theorem call_makeG {pins : List (Addr × Obj)} {σ : St} {H : Hp} {s : Shared} {Q : VK} {us zs : List Value} {kw : List (Str × Value)} {vs : List V} (M : Mk X.K C f) (F : FnG X.prog X.w X.K X.mg X.base k f fd ps sp) (hG : X.A.guards = some []) (hr : Room (k + 1) X.A)
    (hb : ∀ s : Shared, X.K.In s.heap → ∀ a : Value, (a :: zs).length = ps.length → BindsTo s fd ⟨a :: us, kw⟩ (ps.zip (a :: zs))) (tk : Takes X Wd) (I : Inv X pins σ H s) (r : Vals vs zs)
    (h : ∀ x dx, H x = none → H dx = none → dx ≠ x → sp (.ref x :: vs) (upd (upd H dx (.own x)) x (.ins C dx [])) (fun v H2 => v = .non ∧ Q (.ref x) H2) (WE Wd σ)) : wpAny (model X.prog X.w) X.A (call (.ref C) us kw) (EP X pins σ Q) X.xe s := by
  have hq := h (s.heap.objs.size + 1) s.heap.objs.size (I.hok.fresh (Nat.le_succ _)) (I.hok.fresh (Nat.le_refl _)) (Nat.ne_of_lt (Nat.lt_succ_self _))
  have I2 := Inv.made (C := C) I
  have r2 : Vals (V.ref (s.heap.objs.size + 1) :: vs) (Value.ref (s.heap.objs.size + 1) :: zs) := .cons rfl r
  have hl : (Value.ref (s.heap.objs.size + 1) :: zs).length = ps.length := by
    rw [← r2.length]
    exact F.len _ _ _ _ hq
  refine wpAny_call (make_map (f := f) I.kIn M.makes M.init (beq_iff_eq.mp M.fn) (codeAny_mono (F.run _ X.stack _ _ ⟨Value.ref (s.heap.objs.size + 1) :: us, kw⟩ (Value.ref (s.heap.objs.size + 1) :: zs) _ _ (WE Wd σ) (under_guards hG) (hr.make C us kw) (I2.env0.make C us kw) (hb _ I2.kIn _ hl) r2 hq) fun res s' hq' => ?_))
  rcases res with e | fl
  · exact passAt tk σ pins _ _ e s' I2 hq'
  cases fl with
  | ret u =>
    obtain ⟨v, H', I3, rv, ev, q3⟩ := I2.after hq'
    subst ev
    exact ⟨rv, V.ref (s.heap.objs.size + 1), H', I3, rfl, q3⟩
  | _ => exact False.elim hq'
theorem pe_makeG (M : Mk X.K C f) (F : FnG X.prog X.w X.K X.mg X.base k f fd ps sp) (hG : X.A.guards = some []) (hr : Room (k + 1) X.A) (hg : Gl X x) (hm : X.mg x = some (.ref C)) (hb : Binds X.K fd ps ds) (hd : Vals dvs ds) (tk : Takes X Wd)
    (ha : PA X (e :: es) t) (hdb : (x == ("__debug__" : Str)) = false) (he : starEach (e :: es) X.env = (false, eval e X.env) :: starEach es X.env) (hpl : (backTo pos (starEach es X.env)).any (·.1) = false) : PE X (.Call (.Name x p) (e :: es) [] pos) (tMakeG C sp dvs Wd t) :=
  ⟨fun pins s σ H Q I h => wpAny_Call_Name_kw (ld_glob I hg hm (PySem.W.callWith_K (h₀ := X.base) I.ok.mod.kin M.kp (thn (ha.run pos pins s σ H _ I h) fun us s1 ⟨vs, H1, I1, r, q⟩ => ⟨I1.kIn, call_makeG (us := us) (zs := us ++ ds) (kw := []) M F hG hr (fun s hs a hl => hb s (a :: us) hs hl) tk I1 (r.append hd) q⟩) he hpl) hdb)⟩
end
end Sx

set_option linter.all false
set_option autoImplicit false
set_option maxRecDepth 100000
set_option maxHeartbeats 2000000
namespace Sx
open PySem L2
/-! ### calls by plain functions -/
def xCallX (f : Fn) (dw : List W) (a : Ax) : Ex := fun es h => (a es h).bind fun ws h1 => f (ws ++ dw) h1
def xMakeX (k : Nat) (f : Fn) (dw : List W) (a : Ax) : Ex := fun es h => (a es h).bind fun ws h1 => (f (.ref h1.n :: (ws ++ dw)) (h1.new (.ins k []))).bind fun r h2 => match r with
  | .non => .ok (.ref h1.n) h2
  | _ => .bad
def xMethX (k m : Nat) (f : Fn) (dw : List W) (o : Ex) (a : Ax) : Ex := fun es h => (o es h).bind fun ov h1 => match ov with
  | .ref i => match h1.get i with
    | some (.ins j fs) => if j = k ∧ fs.lookup m = none then (a es h1).bind fun ws h2 => f (.ref i :: (ws ++ dw)) h2 else .bad
    | _ => .bad
  | _ => .bad
section
variable {K : PySem.W.Frag} {CT : CTx} {Wd : WX} {ρ : Nat → Addr} {h : Hx} {H : Hp} {σ : St}
/-- a plain function's promise, asked for with what is wished of its exceptions -/
theorem sp_of {f : Fn} {ws : List W} {vs : List V} {Q : VK} (S : Sim K CT ρ h H) (r : Reps K CT ρ h.n H ws vs) (p : Post K CT (RW K CT) Wd ρ h H σ (f ws h) Q) : spOf K CT f vs H Q (WE Wd σ) := by
  refine ⟨ρ, h, ws, S, r, ?_⟩
  cases g : f ws h with
  | bad => rw [g] at p; exact p.elim
  | exc x h2 => rw [g] at p; exact p
  | ok w h2 => rw [g] at p; exact p
end
section
variable {X : Cx} {CT : CTx} {Wd : WX} {k j : Nat} {f C : Addr} {fd : FuncData} {ps : List Str} {fn : Fn} {dvs : List V} {dw : List W} {ds : List Value} {x m : Str} {mc : Nat} {p pos apos : Pos} {e o : Expr} {es : List Expr} {ar : Ax} {co : Ex}
theorem tCallG_of (hw : ∀ ρ n H, Reps X.K CT ρ n H dw dvs) {σ : St} {H : Hp} {Q : VK} (q : tE X.K CT Wd (xCallX fn dw ar) σ H Q) : tCallG (spOf X.K CT fn) dvs Wd (tAx X.K CT Wd ar) σ H Q := by
  obtain ⟨ρ, h, en, S, E, pp⟩ := q
  exact ⟨ρ, h, en, S, E, Post.bind (RR := RA X.K CT) S pp fun ws h1 ρ1 H1 vs N1 r1 p1 => sp_of N1.sim (r1.append (hw _ _ _)) p1⟩
theorem tNil_of {t : TA → TE} {c : Ax → Ex} {σ : St} {H : Hp} {Q : VK} (q : tE X.K CT Wd (c xNil) σ H Q) (k : ∀ σ H Q, tE X.K CT Wd (c xNil) σ H Q → t (tAx X.K CT Wd xNil) σ H Q) (m : (∀ σ H Q, tAx X.K CT Wd xNil σ H Q → tNil σ H Q) → t (tAx X.K CT Wd xNil) σ H Q → t tNil σ H Q) : t tNil σ H Q :=
  m (fun σ H Q ⟨ρ, h, es, S, E, p⟩ => Post.here S p .nil) (k σ H Q q)
/-- f(e, ..) -/
theorem se_callX (F : FnG X.prog X.w X.K X.mg X.base k f fd ps (spOf X.K CT fn)) (hG : X.A.guards = some []) (hr : Room k X.A) (tk : Takes X Wd) (hg : Gl X x) (hm : X.mg x = some (.ref f)) (hk : PySem.W.keepIn X.K (.ref f) = true) (hb : Binds X.K fd ps ds) (hd : Vals dvs ds) (hw : ∀ ρ n H, Reps X.K CT ρ n H dw dvs)
    (ha : SA X CT Wd (e :: es) ar) (hdb : (x == ("__debug__" : Str)) = false := by decide) (he : starEach (e :: es) X.env = (false, eval e X.env) :: starEach es X.env := by rfl) (hpl : (backTo pos (starEach es X.env)).any (·.1) = false := by rfl) : SE X CT Wd (.Call (.Name x p) (e :: es) [] pos) (xCallX fn dw ar) :=
  (pe_callG F hG hr hg hm hk hb hd tk ha hdb he hpl).wk fun _ _ _ q => tCallG_of hw q
/-- f() -/
theorem se_callX0 (F : FnG X.prog X.w X.K X.mg X.base k f fd ps (spOf X.K CT fn)) (hG : X.A.guards = some []) (hr : Room k X.A) (tk : Takes X Wd) (hg : Gl X x) (hm : X.mg x = some (.ref f)) (hk : PySem.W.keepIn X.K (.ref f) = true) (hb : Binds X.K fd ps ds) (hd : Vals dvs ds) (hw : ∀ ρ n H, Reps X.K CT ρ n H dw dvs)
    (hdb : (x == ("__debug__" : Str)) = false := by decide) : SE X CT Wd (.Call (.Name x p) [] [] pos) (xCallX fn dw xNil) :=
  (pe_callG0 F hG hr hg hm hk hb hd tk hdb).wk fun _ _ _ q => by
    obtain ⟨ρ, h, es, S, E, pp⟩ := tCallG_of hw q
    exact Post.here S pp .nil
/-- C(e, ..) -/
theorem se_makeX (M : Mk X.K (CT j) f) (F : FnG X.prog X.w X.K X.mg X.base k f fd ps (spOf X.K CT fn)) (hG : X.A.guards = some []) (hr : Room (k + 1) X.A) (tk : Takes X Wd) (hg : Gl X x) (hm : X.mg x = some (.ref (CT j))) (hb : Binds X.K fd ps ds) (hd : Vals dvs ds) (hw : ∀ ρ n H, Reps X.K CT ρ n H dw dvs)
    (ha : SA X CT Wd (e :: es) ar) (hdb : (x == ("__debug__" : Str)) = false := by decide) (he : starEach (e :: es) X.env = (false, eval e X.env) :: starEach es X.env := by rfl) (hpl : (backTo pos (starEach es X.env)).any (·.1) = false := by rfl) : SE X CT Wd (.Call (.Name x p) (e :: es) [] pos) (xMakeX j fn dw ar) :=
  (pe_makeG M F hG hr hg hm hb hd tk ha hdb he hpl).wk fun σ H Q q => by
    obtain ⟨ρ, h, en, S, E, pp⟩ := q
    refine ⟨ρ, h, en, S, E, Post.bind (RR := RA X.K CT) S pp fun ws h1 ρ1 H1 vs N1 r1 p1 => ?_⟩
    intro y dx ny nd ne
    have N2 : Nxt X.K CT ρ1 h1 H1 ρ1 h1 (upd H1 dx (.own y)) := Nxt.aside N1.sim nd
    have N3 : Nxt X.K CT ρ1 h1 (upd H1 dx (.own y)) (ρnew ρ1 h1.n y) (h1.new (.ins j [])) (upd (upd H1 dx (.own y)) y (.ins (CT j) dx [])) := Nxt.fresh N2.sim (by rw [upd_ne (Ne.symm ne)]; exact ny) ⟨dx, [], upd_same, .nil⟩
    have N := N2.trans N1.sim N3
    have hx : Rep X.K CT (ρnew ρ1 h1.n y) (h1.new (.ins j [])).n (upd (upd H1 dx (.own y)) y (.ins (CT j) dx [])) (.ref h1.n) (.ref y) := by
      have z : ρnew ρ1 h1.n y h1.n = y := if_pos rfl
      have r : Rep X.K CT (ρnew ρ1 h1.n y) (h1.new (.ins j [])).n (upd (upd H1 dx (.own y)) y (.ins (CT j) dx [])) (.ref h1.n) (.ref (ρnew ρ1 h1.n y h1.n)) := .ref (Nat.lt_succ_self _)
      rw [z] at r
      exact r
    refine ⟨ρnew ρ1 h1.n y, h1.new (.ins j []), .ref h1.n :: (ws ++ dw), N.sim, .cons hx ((Reps.keep N1.sim N.toFw _ _ r1).append (hw _ _ _)), ?_⟩
    have p3 := Post.step N1.sim N (show Post X.K CT (RW X.K CT) Wd ρ1 h1 H1 σ ((fn (.ref h1.n :: (ws ++ dw)) (h1.new (.ins j []))).bind fun r h2 => match r with
      | .non => .ok (.ref h1.n) h2
      | _ => .bad) Q from p1)
    cases g : fn (.ref h1.n :: (ws ++ dw)) (h1.new (.ins j [])) with
    | bad => rw [g] at p3; exact p3.elim
    | exc _ _ => rw [g] at p3; exact p3
    | ok r h2 =>
      rw [g] at p3
      intro ρ4 H4 v N4 r4
      cases r4 with
      | non =>
        refine ⟨rfl, ?_⟩
        have p4 : Post X.K CT (RW X.K CT) Wd (ρnew ρ1 h1.n y) (h1.new (.ins j [])) (upd (upd H1 dx (.own y)) y (.ins (CT j) dx [])) σ (.ok (.ref h1.n) h2) Q := p3
        exact p4 ρ4 H4 _ N4 (Rep.keep N.sim N4.toFw _ _ hx)
      | _ => exact (show False from p3).elim
theorem tMethG_of (hmc : nm mc = m) (hw : ∀ ρ n H, Reps X.K CT ρ n H dw dvs) {σ : St} {H : Hp} {Q : VK} (q : tE X.K CT Wd (xMethX j mc fn dw co ar) σ H Q) : tMethG (CT j) m (spOf X.K CT fn) dvs Wd (tE X.K CT Wd co) (tAx X.K CT Wd ar) σ H Q := by
  subst hmc
  obtain ⟨ρ, h, es, S, E, pp⟩ := q
  refine ⟨ρ, h, es, S, E, Post.bind (RR := RW X.K CT) S pp fun ov h1 ρ1 H1 v N1 r1 p1 => ?_⟩
  cases r1 with
  | @ref i hi =>
    have p2 : Post X.K CT (RW X.K CT) Wd ρ1 h1 H1 σ (match h1.get i with
      | some (.ins l fs) => if l = j ∧ fs.lookup mc = none then (ar es h1).bind fun ws h2 => fn (.ref i :: (ws ++ dw)) h2 else .bad
      | _ => .bad) Q := p1
    split at p2
    · rename_i l fs g
      obtain ⟨⟨rfl, c2⟩, p3⟩ := post_if p2
      obtain ⟨dx, vs, eh, rf⟩ := ins_sim N1.sim g
      exact ⟨_, dx, vs, rfl, eh, rf.none c2, ρ1, h1, es, N1.sim, E.keep S N1.toFw, Post.bind (RR := RA X.K CT) N1.sim p3 fun ws h2 ρ2 H2 us N2 r2 p4 => sp_of N2.sim (.cons (Rep.keep N1.sim N2.toFw _ _ (.ref hi)) (r2.append (hw _ _ _))) p4⟩
    · exact p2.elim
  | _ => exact (show False from p1).elim
/-- o.m(e, ..) -/
theorem se_methX {pl : Sem Bool} (hmc : nm mc = m) (c : Cls X.K (CT j)) (M : Meth X.K (CT j) m f) (F : FnG X.prog X.w X.K X.mg X.base k f fd ps (spOf X.K CT fn)) (hG : X.A.guards = some []) (hr : Room k X.A) (tk : Takes X Wd) (hb : Binds X.K fd ps ds) (hd : Vals dvs ds) (hw : ∀ ρ n H, Reps X.K CT ρ n H dw dvs)
    (ho : SE X CT Wd o co) (ha : SA X CT Wd (e :: es) ar) (he : starEach (e :: es) X.env = (false, eval e X.env) :: starEach es X.env := by rfl) (hpl : (backTo pos (starEach es X.env)).any (·.1) = false := by rfl)
    (ht : eval (.Call (.Attribute o m apos) (e :: es) [] pos) X.env = (do
      let v ← eval o X.env
      standAt apos.atName
      let (f, first) ← holding [v] (getMethod v m pl)
      callWith pos f first (backTo pos (starEach (e :: es) X.env)) (backToKw pos (keywordEach [] X.env))) := by rfl) : SE X CT Wd (.Call (.Attribute o m apos) (e :: es) [] pos) (xMethX j mc fn dw co ar) :=
  (pe_methG ho c M F hG hr hb hd tk ha he hpl ht).wk fun _ _ _ q => tMethG_of hmc hw q
/-- o.m() -/
theorem se_methX0 {pl : Sem Bool} (hmc : nm mc = m) (c : Cls X.K (CT j)) (M : Meth X.K (CT j) m f) (F : FnG X.prog X.w X.K X.mg X.base k f fd ps (spOf X.K CT fn)) (hG : X.A.guards = some []) (hr : Room k X.A) (tk : Takes X Wd) (hb : Binds X.K fd ps ds) (hd : Vals dvs ds) (hw : ∀ ρ n H, Reps X.K CT ρ n H dw dvs)
    (ho : SE X CT Wd o co)
    (ht : eval (.Call (.Attribute o m apos) [] [] pos) X.env = (do
      let v ← eval o X.env
      standAt apos.atName
      let (f, first) ← holding [v] (getMethod v m pl)
      callWith pos f first (backTo pos (starEach [] X.env)) (backToKw pos (keywordEach [] X.env))) := by rfl) : SE X CT Wd (.Call (.Attribute o m apos) [] [] pos) (xMethX j mc fn dw co xNil) :=
  (pe_methG0 ho c M F hG hr hb hd tk ht).wk fun σ H Q q => by
    obtain ⟨ρ, h, es, S, E, pp⟩ := tMethG_of hmc hw q
    refine ⟨ρ, h, es, S, E, ?_⟩
    cases g : co es h with
    | bad => rw [g] at pp; exact pp
    | exc x h1 => rw [g] at pp; exact pp
    | ok w h1 =>
      rw [g] at pp
      intro ρ1 H1 v N r
      obtain ⟨a, dx, fs, e1, e2, e3, ρ2, h2, es2, S2, E2, p2⟩ := pp ρ1 H1 v N r
      exact ⟨a, dx, fs, e1, e2, e3, Post.here S2 p2 .nil⟩
/-! ### properties: they raise nothing -/
def xPropX (j : Nat) (f : Fn) (o : Ex) : Ex := fun es h => (o es h).bind fun ov h1 => match ov with
  | .ref i => match h1.get i with
    | some (.ins l fs) => if l = j then noexc (f [.ref i] h1) else .bad
    | _ => .bad
  | _ => .bad
theorem getprop_G {a dx g : Addr} {fs : List (Str × V)} {pp : Addr} {sp : Sp} {pins : List (Addr × Obj)} {σ : St} {H : Hp} {s : Shared} {Q : VK} {b : Bool} {E' : Value → Shared → Prop} (I : Inv X pins σ H s) (ea : H a = some (.ins C dx fs)) (c : Cls X.K C) (hp : PropOf X.K C m pp g)
    (F : FnG X.prog X.w X.K X.mg X.base k g fd ps sp) (hG : X.A.guards = some []) (hr : Room (k + 1) X.A) (hb : Binds X.K fd ps []) (h : sp [.ref a] H Q (fun _ _ _ => False)) : wpAny (model X.prog X.w) X.A (getAttr (.ref a) m b) (EP X pins σ Q) E' s := by
  obtain ⟨mA, O, _, _, _, _⟩ := ins_get I.hok ea
  obtain ⟨od, J, _⟩ := O.look
  obtain ⟨rest, hrec⟩ := hp.rec_
  have I1 := I.tok (s.toks + 1)
  have hl : ([Value.ref a] ++ []).length = ps.length := by
    rw [← F.len _ _ _ _ h]
    rfl
  have hc : (PySem.W.clsIn X.K C).isSome = true := by
    obtain ⟨cd, hc, _⟩ := PySem.W.any_some c.hd
    rw [hc]
    rfl
  refine PySem.W.get_bind I.kIn J (PySem.W.plainGet_of (c.get m)).1 (PySem.W.findObj_data hc hp.at_ hp.get hp.tak) (PySem.W.plainGet_of (c.get m)).2 (wpAny_call (PySem.W.prop_get (s := { s with toks := s.toks + 1 }) I.kIn hrec ?_))
  refine codeAny_mono (F.run X.A.in1 X.stack { s with toks := s.toks + 1 } H ⟨[.ref a], []⟩ [.ref a] [.ref a] Q (fun _ _ _ => False) hG hr.in1 I1.env0.in1 (hb _ [.ref a] I1.kIn hl) (.cons rfl .nil) h) fun res s' hq => ?_
  rcases res with e | fl
  · obtain ⟨_, _, _, _, _, _, _, _, _, _, _, _, z⟩ := (show L2.CX X.prog X.w X.stack H { s with toks := s.toks + 1 } (fun _ _ _ => False) e s' from hq)
    exact z.elim
  cases fl with
  | ret u =>
    obtain ⟨v, H', I3, rv, q3⟩ := I1.after hq
    show wpAny _ _ (handedOut u) _ _ _
    rw [PySem.W.handedOut_of (handed_of rv)]
    exact wpAny_pure ⟨v, H', I3, rv, q3⟩
  | _ => exact False.elim hq
theorem se_propX {g pp : Addr} (c : Cls X.K (CT j)) (hp : PropOf X.K (CT j) m pp g) (F : FnG X.prog X.w X.K X.mg X.base k g fd ps (spOf X.K CT fn)) (hG : X.A.guards = some []) (hr : Room (k + 1) X.A) (hb : Binds X.K fd ps []) (ho : SE X CT Wd o co) (hab : attributeBase o m X.env (eval o X.env) = eval o X.env := by rfl) :
    SE X CT Wd (.Attribute o m pos) (xPropX j fn co) := ⟨fun pins s σ H Q I ⟨ρ, h, es, S, E, pp⟩ => attr_of hab (thn (ho.run pins s σ H (fun v H1 => ∃ a dx fs, v = .ref a ∧ H1 a = some (.ins (CT j) dx fs) ∧ spOf X.K CT fn [.ref a] H1 Q (fun _ _ _ => False)) I ⟨ρ, h, es, S, E, Post.bind (RR := RW X.K CT) S pp fun ov h1 ρ1 H1 v N1 r1 p1 => by
      cases r1 with
      | @ref i hi =>
        have p2 : Post X.K CT (RW X.K CT) Wd ρ1 h1 H1 σ (match h1.get i with
          | some (.ins l fs) => if l = j then noexc (fn [.ref i] h1) else .bad
          | _ => .bad) Q := p1
        split at p2
        · rename_i l fs g
          obtain ⟨rfl, p3⟩ := post_if p2
          obtain ⟨dx, vs, eh, rf⟩ := ins_sim N1.sim g
          refine ⟨_, dx, vs, rfl, eh, ρ1, h1, [.ref i], N1.sim, .cons (.ref hi) .nil, ?_⟩
          cases g2 : fn [.ref i] h1 with
          | bad => rw [g2] at p3; exact p3.elim
          | exc _ _ => rw [g2] at p3; exact p3.elim
          | ok w3 h3 => rw [g2] at p3; exact fun ρ' H' v N' r' => p3 ρ' H' v N' r'
        · exact p2.elim
      | _ => exact (show False from p1).elim⟩) fun u s1 hu => by
    obtain ⟨x, H1, I1, rx, a, dx, fs, ex, ea, q⟩ := hu
    subst ex
    cases (show u = Value.ref a from rx)
    exact getprop_G I1 ea c hp F hG hr hb q)⟩
end
end Sx

set_option linter.all false
set_option autoImplicit false
set_option maxRecDepth 100000
set_option maxHeartbeats 2000000
namespace Sx
open PySem L2
/-! ### keys that are ints and texts -/
def keyOf : W → Option Key
  | .int i => some (.inl i)
  | .str z => some (.inr ⟨z.toArray⟩)
  | _ => none
def eqK : W → W → Bool
  | .int i, .int j => i == j
  | .str a, .str b => a == b
  | _, _ => false
def findK : List (W × W) → W → Option W
  | [], _ => none
  | (k, w) :: r, x => if eqK k x = true then some w else findK r x
def putKW (ws : List (W × W)) (x v : W) : List (W × W) := if (ws.any fun p => eqK p.1 x) = true then ws.map (fun p => if eqK p.1 x = true then (p.1, v) else p) else ws ++ [(x, v)]
theorem eqK_dec {k j : Key} {x : W} (e : keyOf x = some j) : eqK (wKey k) x = decide (k = j) := by
  rw [Bool.eq_iff_iff, decide_eq_true_iff]
  cases x with
  | int i =>
    cases e
    cases k with
    | inl a => simp [wKey, eqK]
    | inr a => simp [wKey, eqK]
  | str z =>
    cases e
    cases k with
    | inl a => simp [wKey, eqK]
    | inr a =>
      obtain ⟨⟨l⟩⟩ := a
      simp [wKey, eqK]
  | _ => cases e
theorem wKey_of {j : Key} {x : W} (e : keyOf x = some j) : wKey j = x := by
  cases x with
  | int i => cases e; rfl
  | str z => cases e; rfl
  | _ => cases e
section
variable {K : PySem.W.Frag} {CT : CTx} {ρ : Nat → Addr} {n : Nat} {H : Hp}
theorem key_rel {j : Key} {x : W} {v : V} (e : keyOf x = some j) (r : Rep K CT ρ n H x v) : v = kV j := by
  cases r with
  | int i => cases e; rfl
  | str z => cases e; rfl
  | _ => cases e
theorem findK_some {j : Key} {x : W} (e : keyOf x = some j) : ∀ {ws : List (W × W)} {vs : List (Key × V)}, RepK K CT ρ n H ws vs → ∀ {w : W}, findK ws x = some w → ∃ v, valV vs j = some v ∧ Rep K CT ρ n H w v
  | _, _, .nil, _, q => by cases q
  | _, _, .cons (k := k) rk r t, w, q => by
    unfold findK at q
    rw [eqK_dec (k := k) e] at q
    by_cases c : k = j
    · rw [if_pos (decide_eq_true c)] at q
      cases q
      exact ⟨_, valV_pos c, r⟩
    · rw [if_neg (by simpa using c)] at q
      obtain ⟨v, h1, h2⟩ := findK_some e t q
      exact ⟨v, by rw [valV_neg c]; exact h1, h2⟩
theorem findK_none {j : Key} {x : W} (e : keyOf x = some j) : ∀ {ws : List (W × W)} {vs : List (Key × V)}, RepK K CT ρ n H ws vs → findK ws x = none → valV vs j = none
  | _, _, .nil, _ => rfl
  | _, _, .cons (k := k) rk r t, q => by
    unfold findK at q
    rw [eqK_dec (k := k) e] at q
    by_cases c : k = j
    · rw [if_pos (decide_eq_true c)] at q
      cases q
    · rw [if_neg (by simpa using c)] at q
      rw [valV_neg c]
      exact findK_none e t q
theorem anyK {j : Key} {x : W} (e : keyOf x = some j) : ∀ {ws : List (W × W)} {vs : List (Key × V)}, RepK K CT ρ n H ws vs → (ws.any fun p => eqK p.1 x) = vs.any fun kv => decide (kv.1 = j)
  | _, _, .nil => rfl
  | _, _, .cons (k := k) rk r t => by
    rw [List.any_cons, List.any_cons, anyK e t]
    show (eqK (wKey k) x || _) = (decide (k = j) || _)
    rw [eqK_dec e]
theorem mapK {j : Key} {x w : W} {v : V} (e : keyOf x = some j) (rw_ : Rep K CT ρ n H w v) : ∀ {ws : List (W × W)} {vs : List (Key × V)}, RepK K CT ρ n H ws vs → RepK K CT ρ n H (ws.map fun p => if eqK p.1 x = true then (p.1, w) else p) (vs.map fun kv => if kv.1 = j then (kv.1, v) else kv)
  | _, _, .nil => .nil
  | _, _, .cons (k := k) rk r t => by
    rw [List.map_cons, List.map_cons]
    by_cases c : k = j
    · rw [if_pos (show eqK (wKey k) x = true by rw [eqK_dec e]; exact decide_eq_true c), if_pos c]
      exact .cons rk rw_ (mapK e rw_ t)
    · rw [if_neg (show ¬ eqK (wKey k) x = true by rw [eqK_dec e]; simpa using c), if_neg c]
      exact .cons rk r (mapK e rw_ t)
theorem RepK.append : ∀ {ws ws' : List (W × W)} {vs vs' : List (Key × V)}, RepK K CT ρ n H ws vs → RepK K CT ρ n H ws' vs' → RepK K CT ρ n H (ws ++ ws') (vs ++ vs')
  | _, _, _, _, .nil, s => s
  | _, _, _, _, .cons c r t, s => .cons c r (RepK.append t s)
theorem putKW_rep {j : Key} {x w : W} {v vx : V} (e : keyOf x = some j) (rx : Rep K CT ρ n H x vx) (rw_ : Rep K CT ρ n H w v) {ws : List (W × W)} {vs : List (Key × V)} (r : RepK K CT ρ n H ws vs) : RepK K CT ρ n H (putKW ws x w) (putK vs j v) := by
  unfold putKW putK
  rw [anyK e r]
  split
  · exact mapK e rw_ r
  · refine RepK.append r ?_
    rw [key_rel e rx] at rx
    rw [← wKey_of e] at rx ⊢
    exact .cons rx rw_ .nil
end
/-! ### keys that are tuples -/
def eqT : Nat → W → W → Bool
  | 0, _, _ => false
  | f + 1, x, y => match x, y with
    | .tup a, .tup b => eqAll (eqT f) a b
    | .int i, .int j => i == j
    | .str a, .str b => a == b
    | .non, .non => true
    | .bl a, .bl b => a == b
    | .bl a, .int j => eqI a j
    | .int i, .bl b => i == (if b then 1 else 0)
    | _, _ => false
def okT : Nat → W → Bool
  | 0, _ => false
  | f + 1, x => match x with
    | .tup a => a.all (okT f)
    | .int _ => true
    | .str _ => true
    | .non => true
    | .bl _ => true
    | _ => false
theorem nkAll_ok {f : Nat} (ih : ∀ x, okT f x = true → ∃ k, nkOf x = some k ∧ k.depth ≤ f) : ∀ (a : List W), a.all (okT f) = true → ∃ ks, nkAll a = some ks ∧ NestedKey.depthAll ks ≤ f
  | [], _ => ⟨[], by unfold nkAll; rfl, by simp [NestedKey.depthAll]⟩
  | x :: r, h => by
    rw [List.all_cons, Bool.and_eq_true] at h
    obtain ⟨k, e1, e2⟩ := ih x h.1
    obtain ⟨ks, e3, e4⟩ := nkAll_ok ih r h.2
    refine ⟨k :: ks, ?_, ?_⟩
    · unfold nkAll
      rw [e1, e3]
      rfl
    · simp only [NestedKey.depthAll]
      omega
theorem okT_nk : ∀ (f : Nat) (x : W), okT f x = true → ∃ k, nkOf x = some k ∧ k.depth ≤ f
  | 0, _, h => by cases h
  | f + 1, .tup a, h => by
    obtain ⟨ks, e1, e2⟩ := nkAll_ok (fun x hx => okT_nk f x hx) a h
    refine ⟨.tup ks, by unfold nkOf; rw [e1]; rfl, ?_⟩
    simp only [NestedKey.depth]
    omega
  | f + 1, .int i, _ => ⟨.num i, by unfold nkOf; rfl, by simp [NestedKey.depth]⟩
  | f + 1, .str z, _ => ⟨.text ⟨z.toArray⟩, by unfold nkOf; rfl, by simp [NestedKey.depth]⟩
  | f + 1, .non, _ => ⟨.none, by unfold nkOf; rfl, by simp [NestedKey.depth]⟩
  | f + 1, .bl b, _ => ⟨.num (if b = true then 1 else 0), by unfold nkOf; rfl, by simp [NestedKey.depth]⟩
  | f + 1, .fls _, h => by cases h
  | f + 1, .ref _, h => by cases h
  | f + 1, .ty _, h => by cases h
  | f + 1, .cl _, h => by cases h
  | f + 1, .exc _ _ _, h => by cases h
theorem eqT_all {f : Nat} (ih : ∀ a b ka kb, nkOf a = some ka → nkOf b = some kb → ka.depth ≤ f → eqT (f + 1) a b = decide (ka = kb)) : ∀ (a b : List W) (ka kb : List NestedKey), nkAll a = some ka → nkAll b = some kb → NestedKey.depthAll ka ≤ f → eqAll (eqT (f + 1)) a b = decide (ka = kb)
  | [], b, ka, kb, e1, e2, _ => by
    unfold nkAll at e1
    cases e1
    cases b with
    | nil => unfold nkAll at e2; cases e2; rfl
    | cons y s =>
      unfold nkAll at e2
      obtain ⟨k, _, e3⟩ := Option.bind_eq_some_iff.mp e2
      obtain ⟨ks, _, rfl⟩ := Option.map_eq_some_iff.mp e3
      rfl
  | x :: r, b, ka, kb, e1, e2, hd => by
    unfold nkAll at e1
    obtain ⟨k, h1, e3⟩ := Option.bind_eq_some_iff.mp e1
    obtain ⟨ks, h2, rfl⟩ := Option.map_eq_some_iff.mp e3
    simp only [NestedKey.depthAll] at hd
    cases b with
    | nil => unfold nkAll at e2; cases e2; rfl
    | cons y s =>
      unfold nkAll at e2
      obtain ⟨l, h3, e4⟩ := Option.bind_eq_some_iff.mp e2
      obtain ⟨ls, h4, rfl⟩ := Option.map_eq_some_iff.mp e4
      show (eqT (f + 1) x y && eqAll (eqT (f + 1)) r s) = _
      rw [ih x y k l h1 h3 (by omega), eqT_all ih r s ks ls h2 h4 (by omega)]
      rw [Bool.eq_iff_iff]
      simp
theorem nk_tup {a : List W} {k : NestedKey} (h : nkOf (.tup a) = some k) : ∃ ks, nkAll a = some ks ∧ k = .tup ks := by
  unfold nkOf at h
  obtain ⟨ks, h1, rfl⟩ := Option.map_eq_some_iff.mp h
  exact ⟨ks, h1, rfl⟩
theorem eqT_dec : ∀ (f : Nat) (a b : W) (ka kb : NestedKey), nkOf a = some ka → nkOf b = some kb → ka.depth ≤ f → eqT (f + 1) a b = decide (ka = kb) := by
  intro f
  induction f with
  | zero =>
    intro a b ka kb h1 h2 hd
    cases a <;> cases b <;> (try (unfold nkOf at h1; cases h1; done)) <;> (try (unfold nkOf at h2; cases h2; done)) <;>
      (try (obtain ⟨ks, _, rfl⟩ := nk_tup h1; simp [NestedKey.depth] at hd; done)) <;> (try (obtain ⟨ks, _, rfl⟩ := nk_tup h2; unfold nkOf at h1; cases h1; exact (decide_eq_false (by intro z; cases z)).symm)) <;>
      (unfold nkOf at h1 h2; cases h1; cases h2; rw [Bool.eq_iff_iff]; simp [eqT, eqI])
    all_goals (rename_i x y; cases x <;> cases y <;> simp)
  | succ f ih =>
    intro a b ka kb h1 h2 hd
    cases a <;> cases b <;> (try (unfold nkOf at h1; cases h1; done)) <;> (try (unfold nkOf at h2; cases h2; done)) <;>
      (try (obtain ⟨ks, h3, rfl⟩ := nk_tup h1; obtain ⟨ls, h4, rfl⟩ := nk_tup h2; simp only [NestedKey.depth] at hd; show eqAll (eqT (f + 1)) _ _ = _; rw [eqT_all ih _ _ ks ls h3 h4 (by omega), Bool.eq_iff_iff]; simp; done)) <;>
      (try (obtain ⟨ks, _, rfl⟩ := nk_tup h1; unfold nkOf at h2; cases h2; exact (decide_eq_false (by intro z; cases z)).symm)) <;> (try (obtain ⟨ks, _, rfl⟩ := nk_tup h2; unfold nkOf at h1; cases h1; exact (decide_eq_false (by intro z; cases z)).symm)) <;>
      (unfold nkOf at h1 h2; cases h1; cases h2; rw [Bool.eq_iff_iff]; simp [eqT, eqI])
    all_goals (rename_i x y; cases x <;> cases y <;> simp)
end Sx

set_option linter.all false
set_option autoImplicit false
set_option maxRecDepth 100000
set_option maxHeartbeats 2000000
namespace Sx
open PySem L2
/-! ### nested tuples as keys -/
section
variable {X : Cx} {CT : CTx} {pins : List (Addr × Obj)} {σ : St} {H : Hp} {s : Shared} {ρ : Nat → Addr} {n : Nat}
mutual
theorem nested_is (I : Inv X pins σ H s) : ∀ (w : W) (v : V) (u : Value) (k : NestedKey), Rep X.K CT ρ n H w v → RelV v u → nkOf w = some k → NestedIs s.heap k u
  | .non, _, u, k, r, e, q => by
    cases r
    cases q
    cases (show u = Value.none from e)
    exact .none
  | .bl b, _, u, k, r, e, q => by
    cases r
    cases q
    cases (show u = Value.bool b from e)
    exact .bool rfl
  | .int i, _, u, k, r, e, q => by
    cases r
    cases q
    obtain ⟨t, z⟩ := (show ∃ t, u = Value.int i t from e)
    cases z
    exact .int i t
  | .str z, _, u, k, r, e, q => by
    cases r
    cases q
    obtain ⟨t, y⟩ := (show ∃ t, u = Value.str ⟨z.toArray⟩ t from e)
    cases y
    exact .text _ t
  | .tup ws, _, u, k, r, e, q => by
    cases r with
    | @tup a _ vs sq rs =>
      cases (show u = Value.ref a from e)
      obtain ⟨ks, hk, rfl⟩ := Option.map_eq_some_iff.mp (show (nkAll ws).map NestedKey.tup = some k by rw [← q]; unfold nkOf; rfl)
      obtain ⟨its, rv, ⟨o, ho, hc, m, hd⟩, _⟩ := I.tuple sq
      exact .tup ho hc hd (nested_all I ws vs its ks rs rv hk)
  | .fls _, _, _, _, _, _, q => by unfold nkOf at q; cases q
  | .ref _, _, _, _, _, _, q => by unfold nkOf at q; cases q
  | .ty _, _, _, _, _, _, q => by unfold nkOf at q; cases q
  | .cl _, _, _, _, _, _, q => by unfold nkOf at q; cases q
  | .exc _ _ _, _, _, _, _, _, q => by unfold nkOf at q; cases q
theorem nested_all (I : Inv X pins σ H s) : ∀ (ws : List W) (vs : List V) (us : List Value) (ks : List NestedKey), Reps X.K CT ρ n H ws vs → Vals vs us → nkAll ws = some ks → NestedAll s.heap ks us
  | [], _, _, ks, r, e, q => by
    cases r
    cases e
    unfold nkAll at q
    cases q
    exact .nil
  | w :: ws, _, _, ks, r, e, q => by
    cases r with
    | cons r1 r2 =>
      cases e with
      | cons e1 e2 =>
        unfold nkAll at q
        obtain ⟨k, hk, q2⟩ := Option.bind_eq_some_iff.mp q
        obtain ⟨ks', hks, rfl⟩ := Option.map_eq_some_iff.mp q2
        exact .cons (nested_is I w _ _ k r1 e1 hk) (nested_all I ws _ _ ks' r2 e2 hks)
end
end

/-! ### dicts with tuple keys: looks, stores -/
def findT : List (W × W) → W → Option W
  | [], _ => none
  | (k, w) :: r, x => if eqT 9 k x = true then some w else findT r x
def putT (ws : List (W × W)) (x v : W) : List (W × W) := if (ws.any fun p => eqT 9 p.1 x) = true then ws.map (fun p => if eqT 9 p.1 x = true then (p.1, v) else p) else ws ++ [(x, v)]
section
variable {K : PySem.W.Frag} {CT : CTx} {ρ : Nat → Addr} {n : Nat} {H : Hp}
theorem findT_some {k : NestedKey} {x : W} (e : nkOf x = some k) : ∀ {kvs : List (W × W)} {xs : List (NestedKey × Addr × Value)}, RepN K CT ρ n H kvs xs → ∀ {w : W}, findT kvs x = some w → ∃ b u v, atKey xs k = some (b, u) ∧ Rep K CT ρ n H w v ∧ RelV v u
  | _, _, .nil, _, q => by cases q
  | _, _, .cons (kw := kw) (nk := nk) a dp _ d r f, w, q => by
    unfold findT at q
    rw [eqT_dec 8 kw x nk k a e dp] at q
    unfold atKey
    rw [List.find?_cons]
    by_cases c : nk = k
    · rw [if_pos (decide_eq_true c)] at q
      cases q
      rw [decide_eq_true c]
      exact ⟨_, _, _, rfl, d, r⟩
    · rw [if_neg (by simpa using c)] at q
      rw [decide_eq_false c]
      exact findT_some e f q
theorem findT_none {k : NestedKey} {x : W} (e : nkOf x = some k) : ∀ {kvs : List (W × W)} {xs : List (NestedKey × Addr × Value)}, RepN K CT ρ n H kvs xs → findT kvs x = none → atKey xs k = none
  | _, _, .nil, _ => rfl
  | _, _, .cons (kw := kw) (nk := nk) a dp _ d r f, q => by
    unfold findT at q
    rw [eqT_dec 8 kw x nk k a e dp] at q
    unfold atKey
    rw [List.find?_cons]
    by_cases c : nk = k
    · rw [if_pos (decide_eq_true c)] at q
      cases q
    · rw [if_neg (by simpa using c)] at q
      rw [decide_eq_false c]
      exact findT_none e f q
theorem anyT {k : NestedKey} {x : W} (e : nkOf x = some k) : ∀ {kvs : List (W × W)} {xs : List (NestedKey × Addr × Value)}, RepN K CT ρ n H kvs xs → (kvs.any fun p => eqT 9 p.1 x) = (atKey xs k).isSome
  | _, _, .nil => rfl
  | _, _, .cons (kw := kw) (nk := nk) a dp _ d r f => by
    rw [List.any_cons, anyT e f]
    show (eqT 9 kw x || _) = _
    rw [eqT_dec 8 kw x nk k a e dp]
    unfold atKey
    rw [List.find?_cons]
    by_cases c : nk = k
    · rw [decide_eq_true c]
      rfl
    · rw [decide_eq_false c]
      rfl
theorem mapT {k : NestedKey} {x w : W} {v : V} {u : Value} (e : nkOf x = some k) (rw_ : Rep K CT ρ n H w v) (ru : RelV v u) : ∀ {kvs : List (W × W)} {xs : List (NestedKey × Addr × Value)}, RepN K CT ρ n H kvs xs → RepN K CT ρ n H (kvs.map fun p => if eqT 9 p.1 x = true then (p.1, w) else p) (xs.map (putAt k u))
  | _, _, .nil => .nil
  | _, _, .cons (kw := kw) (nk := nk) a dp c0 d r f => by
    rw [List.map_cons, List.map_cons]
    unfold putAt
    by_cases c : nk = k
    · rw [if_pos (show eqT 9 kw x = true by rw [eqT_dec 8 kw x nk k a e dp]; exact decide_eq_true c), if_pos c]
      exact .cons a dp c0 rw_ ru (mapT e rw_ ru f)
    · rw [if_neg (show ¬ eqT 9 kw x = true by rw [eqT_dec 8 kw x nk k a e dp]; simpa using c), if_neg c]
      exact .cons a dp c0 d r (mapT e rw_ ru f)
theorem RepN.append : ∀ {ws ws' : List (W × W)} {xs xs' : List (NestedKey × Addr × Value)}, RepN K CT ρ n H ws xs → RepN K CT ρ n H ws' xs' → RepN K CT ρ n H (ws ++ ws') (xs ++ xs')
  | _, _, _, _, .nil, s => s
  | _, _, _, _, .cons a b c d e f, s => .cons a b c d e (RepN.append f s)
theorem putT_rep {k : NestedKey} {x w : W} {v : V} {u : Value} {b : Addr} (e : nkOf x = some k) (dp : k.depth ≤ 8) (rx : Rep K CT ρ n H x (.ref b)) (rw_ : Rep K CT ρ n H w v) (ru : RelV v u) {kvs : List (W × W)} {xs : List (NestedKey × Addr × Value)} (r : RepN K CT ρ n H kvs xs) :
    RepN K CT ρ n H (putT kvs x w) (storedH xs k b u) := by
  unfold putT storedH
  rw [anyT e r]
  split
  · exact mapT e rw_ ru r
  · exact RepN.append r (.cons e dp rx rw_ ru .nil)
theorem keys_putAt (k : NestedKey) (u : Value) : ∀ xs : List (NestedKey × Addr × Value), (xs.map (putAt k u)).map (·.1) = xs.map (·.1)
  | [] => rfl
  | x :: r => by
    rw [List.map_cons, List.map_cons, List.map_cons, keys_putAt k u r]
    unfold putAt
    split <;> rfl
theorem atKey_none {k : NestedKey} : ∀ {xs : List (NestedKey × Addr × Value)}, atKey xs k = none → k ∉ xs.map (·.1)
  | [], _ => by simp
  | x :: r, h => by
    unfold atKey at h
    rw [List.find?_cons] at h
    by_cases c : x.1 = k
    · rw [decide_eq_true c] at h
      cases h
    · rw [decide_eq_false c] at h
      rw [List.map_cons, List.mem_cons, not_or]
      exact ⟨fun z => c z.symm, atKey_none (xs := r) h⟩
theorem nodup_stored {k : NestedKey} {b : Addr} {u : Value} {xs : List (NestedKey × Addr × Value)} (nd : (xs.map (·.1)).Nodup) : ((storedH xs k b u).map (·.1)).Nodup := by
  cases g : atKey xs k with
  | some p =>
    rw [storedH_old g, keys_putAt]
    exact nd
  | none =>
    rw [storedH_new g, List.map_append, List.nodup_append]
    refine ⟨nd, by simp, fun a ha c hc z => ?_⟩
    rw [List.map_cons, List.map_nil, List.mem_singleton] at hc
    have hc' : c = k := hc
    exact atKey_none g (by rw [← hc', ← z]; exact ha)
theorem repN_len : ∀ {kvs : List (W × W)} {xs : List (NestedKey × Addr × Value)}, RepN K CT ρ n H kvs xs → kvs.length = xs.length
  | _, _, .nil => rfl
  | _, _, .cons _ _ _ _ _ f => by rw [List.length_cons, List.length_cons, repN_len f]
end
/-- the tuple at b is the key k, the dict at a holds xs -/
def AtD (K : PySem.W.Frag) (P : Program) (w : World) (H : Hp) (a b : Addr) (k : NestedKey) (xs : List (NestedKey × Addr × Value)) : Prop := ∃ (CT : CTx) (ρ : Nat → Addr) (n : Nat) (kw : W) (kvs : List (W × W)),
  Rep K CT ρ n H kw (.ref b) ∧ nkOf kw = some k ∧ k.depth ≤ 8 ∧ RepN K CT ρ n H kvs xs ∧ (xs.map (·.1)).Nodup ∧ ((Rd H a (dNo P w a xs) ∧ (a == sysModules) = false) ∨ (xs = [] ∧ Rd H a (.dK [])))
theorem dNo_ok {P : Program} {w : World} {H : Hp} {h : Heap} {a : Addr} {xs : List (NestedKey × Addr × Value)} (D : h.DictOfH (nestedKind P w) a xs) : ObjOk P w H h a (dNo P w a xs) := by
  obtain ⟨o, es, ep, h1, h2, h3, h4, _, _⟩ := D
  exact ⟨⟨o, es, ep, h1, h2, h3, h4⟩, ⟨o, h1⟩, fun _ _ ⟨o, es, ep, q, r⟩ k => ⟨o, es, ep, k o q, r⟩⟩
section
variable {X : Cx} {CT : CTx} {pins : List (Addr × Obj)} {σ : St} {H : Hp} {s : Shared} {ρ : Nat → Addr} {n : Nat}
theorem keyN (I : Inv X pins σ H s) {w : W} {b : Addr} {k : NestedKey} (r : Rep X.K CT ρ n H w (.ref b)) (e : nkOf w = some k) (d : k.depth ≤ 8) : (nestedKind X.prog X.w).is s.heap k b := ⟨nested_is I w _ _ k r rfl e, d⟩
theorem keysN (I : Inv X pins σ H s) : ∀ {kvs : List (W × W)} {xs : List (NestedKey × Addr × Value)}, RepN X.K CT ρ n H kvs xs → ∀ x ∈ xs, (nestedKind X.prog X.w).is s.heap x.1 x.2.1
  | _, _, .nil, x, hx => by cases hx
  | _, _, .cons a b c d e f, x, hx => by
    rcases List.mem_cons.mp hx with rfl | h
    · exact keyN I c a b
    · exact keysN I f x h
theorem dictN (I : Inv X pins σ H s) {a : Addr} {kvs : List (W × W)} {xs : List (NestedKey × Addr × Value)} (e : Rd H a (dNo X.prog X.w a xs)) (r : RepN X.K CT ρ n H kvs xs) (nd : (xs.map (·.1)).Nodup) : s.heap.DictOfH (nestedKind X.prog X.w) a xs := by
  obtain ⟨⟨o, es, ep, h1, h2, h3, h4⟩, _, _⟩ := e.ok I.hok
  exact ⟨o, es, ep, h1, h2, h3, h4, keysN I r, nd⟩
theorem AtD.dict {a b : Addr} {k : NestedKey} {xs : List (NestedKey × Addr × Value)} (I : Inv X pins σ H s) (h : AtD X.K X.prog X.w H a b k xs) : s.heap.DictOfH (nestedKind X.prog X.w) a xs ∧ (nestedKind X.prog X.w).is s.heap k b ∧ (a == sysModules) = false := by
  obtain ⟨CT, ρ, n, kw, kvs, rk, ek, dk, rn, nd, h⟩ := h
  rcases h with ⟨h1, h2⟩ | ⟨rfl, h1⟩
  · exact ⟨dictN I h1 rn nd, keyN I rk ek dk, h2⟩
  · obtain ⟨_, hd, vs, kv, o, es, ep, e1, e2, e3, e4, e5, e6⟩ := dk_rd I.hok h1
    cases kv
    have e0 : es.toList = [] := by
      cases q : es.toList with
      | nil => rfl
      | cons x r =>
        rw [q] at e5
        cases e5
    exact ⟨⟨o, es, ep, e1, e2, e3, by rw [e0]; rfl, fun x hx => absurd hx List.not_mem_nil, List.nodup_nil⟩, keyN I rk ek dk, hd⟩
end
/-- what the dict at a tells of the key y -/
def DG (K : PySem.W.Frag) (P : Program) (w : World) (H : Hp) (a : Addr) (y : V) (r : Option V) : Prop := DGet H a y r ∨ ∃ b k xs, y = .ref b ∧ AtD K P w H a b k xs ∧ match atKey xs k with
  | none => r = none
  | some p => ∃ v, r = some v ∧ RelV v p.2
section
variable {X : Cx} {pins : List (Addr × Obj)} {σ : St} {H : Hp} {s : Shared} {a : Addr} {y v d : V} {u r : Value} {o : Option V} {E : Value → Shared → Prop}
theorem DG.typeIs (I : Inv X pins σ H s) (g : DG X.K X.prog X.w H a y o) : s.TypeIs (.ref a) "dict" := by
  rcases g with g | ⟨b, k, xs, _, g, _⟩
  · exact dict_typeIs I g
  · exact (g.dict I).1.typeIs
theorem isSome_at {xs : List (NestedKey × Addr × Value)} {k : NestedKey} (g : match atKey xs k with
  | none => o = none
  | some p => ∃ v, o = some v ∧ RelV v p.2) : (atKey xs k).isSome = o.isSome := by
  cases q : atKey xs k with
  | none =>
    rw [q] at g
    have g' : o = none := g
    rw [g']
    rfl
  | some p => rw [q] at g; obtain ⟨v, rfl, _⟩ := g; rfl
theorem dg_in {Q : Value → Shared → Prop} (hu : X.A.units + 65 < cLine) (I : Inv X pins σ H s) (g : DG X.K X.prog X.w H a y o) (ry : RelV y u) (h : ∀ s', Inv X pins σ H s' → Q (.bool o.isSome) s') : wpAny (model X.prog X.w) X.A (compareOp .In u (.ref a)) Q E s := by
  rcases g with g | ⟨b, k, xs, rfl, g, e⟩
  · exact d_in (by omega) I g ry h
  · cases (show u = Value.ref b from ry)
    obtain ⟨D, hk, hm⟩ := g.dict I
    refine in_keyed (knd := nestedKind X.prog X.w) (show X.A.units + 1 + 8 < cLine by omega) hk hm ⟨xs, D, rfl⟩ ?_
    rw [valueAt_pairsH, Option.isSome_map, isSome_at e]
    exact h _ (I.tok _)
theorem dg_notIn {Q : Value → Shared → Prop} (hu : X.A.units + 65 < cLine) (I : Inv X pins σ H s) (g : DG X.K X.prog X.w H a y o) (ry : RelV y u) (h : ∀ s', Inv X pins σ H s' → Q (.bool (!o.isSome)) s') : wpAny (model X.prog X.w) X.A (compareOp .NotIn u (.ref a)) Q E s := by
  rcases g with g | ⟨b, k, xs, rfl, g, e⟩
  · exact d_notIn (by omega) I g ry h
  · cases (show u = Value.ref b from ry)
    obtain ⟨D, hk, hm⟩ := g.dict I
    refine notIn_keyed (knd := nestedKind X.prog X.w) (show X.A.units + 1 + 8 < cLine by omega) hk hm ⟨xs, D, rfl⟩ ?_
    rw [valueAt_pairsH, Option.isSome_map, isSome_at e]
    exact h _ (I.tok _)
theorem dg_getItem {Q : Value → Shared → Prop} (hu : X.A.units + 65 < cLine) (I : Inv X pins σ H s) (g : DG X.K X.prog X.w H a y (some v)) (ry : RelV y u) (h : ∀ z s', Inv X pins σ H s' → RelV v z → Q z s') : wpAny (model X.prog X.w) X.A (getItem (.ref a) u) Q E s := by
  rcases g with g | ⟨b, k, xs, rfl, g, e⟩
  · exact d_getItem (by omega) I g ry h
  · cases (show u = Value.ref b from ry)
    obtain ⟨D, hk, hm⟩ := g.dict I
    cases q : atKey xs k with
    | none => rw [q] at e; cases e
    | some p =>
      rw [q] at e
      obtain ⟨v', e1, e2⟩ := e
      cases e1
      exact wpAny_getItem_heap (knd := nestedKind X.prog X.w) (show X.A.units + 1 + 8 < cLine by omega) hk D q (h _ _ (I.tok _) e2)
theorem dg_get2 {Q : Value → Shared → Prop} (hu : X.A.units + 65 < cLine) (I : Inv X pins σ H s) (g : DG X.K X.prog X.w H a y o) (ry : RelV y u) (rd : RelV d r) (h : ∀ z s', Inv X pins σ H s' → RelV (o.getD d) z → Q z s') : wpAny (model X.prog X.w) X.A (call (.builtin "dict.get") [.ref a, u, r]) Q E s := by
  rcases g with g | ⟨b, k, xs, rfl, g, e⟩
  · exact d_get2 (by omega) I g ry rd h
  · cases (show u = Value.ref b from ry)
    obtain ⟨D, hk, hm⟩ := g.dict I
    refine getOr_keyed (knd := nestedKind X.prog X.w) (show X.A.units + 1 + 8 < cLine by omega) hk hm ⟨xs, D, rfl⟩ ?_
    rw [valueAt_pairsH]
    cases q : atKey xs k with
    | none => rw [q] at e; subst e; exact h _ _ (I.tok _) rd
    | some p =>
      rw [q] at e
      obtain ⟨v', rfl, e2⟩ := e
      exact h _ _ (I.tok _) e2
end
end Sx

set_option linter.all false
set_option autoImplicit false
set_option maxRecDepth 100000
set_option maxHeartbeats 2000000
namespace Sx
open PySem L2
/-! ### dicts by plain values -/
def isTup : W → Bool
  | .tup _ => true
  | _ => false
/-- what a dict tells of a key: none: not served -/
def dGet (h : Hx) (d k : W) : Option (Option W) := match d with
  | .ref i => match h.get i with
    | some (.dic _ kvs) => match keyOf k with
      | some _ => some (findK kvs k)
      | none => if kvs.isEmpty = true ∧ isTup k = true ∧ okT 8 k = true then some none else none
    | some (.dicN _ kvs) => if isTup k = true ∧ okT 8 k = true then some (findT kvs k) else none
    | _ => none
  | _ => none
def RepO (K : PySem.W.Frag) (CT : CTx) (ρ : Nat → Addr) (n : Nat) (H : Hp) : Option W → Option V → Prop
  | none, r => r = none
  | some w, r => ∃ v, r = some v ∧ Rep K CT ρ n H w v
theorem rd_lkd {H : Hp} {a : Addr} {lk : Bool} {od : Obj} {u : HO} (e : H a = some (lkd lk od u)) : Rd H a u := by
  cases lk with
  | false => exact .inl e
  | true => exact .inr ⟨od, e⟩
section
variable {X : Cx} {CT : CTx} {Wd : WX} {ρ : Nat → Addr} {h : Hx} {H : Hp} {σ : St}
theorem tup_ref {K : PySem.W.Frag} {n : Nat} {k : W} {v : V} (r : Rep K CT ρ n H k v) (t : isTup k = true) : ∃ b, v = .ref b := by
  cases r with
  | tup _ _ => exact ⟨_, rfl⟩
  | _ => cases t
theorem dGet_of (hP : X.prog = CT.P) (hw : X.w = CT.w) (S : Sim X.K CT ρ h H) {d k : W} {vd vk : V} {o : Option W} (rd : Rep X.K CT ρ h.n H d vd) (rk : Rep X.K CT ρ h.n H k vk) (e : dGet h d k = some o) :
    ∃ a r, vd = .ref a ∧ DG X.K X.prog X.w H a vk r ∧ RepO X.K CT ρ h.n H o r := by
  cases rd with
  | @ref i hi =>
    have e1 : (match h.get i with
      | some (.dic _ kvs) => match keyOf k with
        | some _ => some (findK kvs k)
        | none => if kvs.isEmpty = true ∧ isTup k = true ∧ okT 8 k = true then some none else none
      | some (.dicN _ kvs) => if isTup k = true ∧ okT 8 k = true then some (findT kvs k) else none
      | _ => none) = some o := e
    split at e1
    · rename_i lk kvs g
      obtain ⟨od, vs, q, rs⟩ := S.ob i _ g
      split at e1
      · rename_i j ej
        cases e1
        have ek := key_rel ej rk
        subst ek
        cases gf : findK kvs k with
        | none => exact ⟨_, none, rfl, .inl (.inl ⟨vs, j, rd_lkd q, rfl, (findK_none ej rs gf).symm⟩), rfl⟩
        | some w =>
          obtain ⟨v, h1, h2⟩ := findK_some ej rs gf
          exact ⟨_, some v, rfl, .inl (.inl ⟨vs, j, rd_lkd q, rfl, h1.symm⟩), v, rfl, h2⟩
      · rename_i ej
        split at e1
        · rename_i c
          cases e1
          obtain ⟨c1, c2, c3⟩ := c
          obtain ⟨b, rfl⟩ := tup_ref rk c2
          obtain ⟨nk, h1, h2⟩ := okT_nk 8 k c3
          cases kvs with
          | cons _ _ => cases c1
          | nil =>
            cases rs
            exact ⟨_, none, rfl, .inr ⟨b, nk, [], rfl, ⟨CT, ρ, h.n, k, [], rk, h1, h2, .nil, List.nodup_nil, .inr ⟨rfl, rd_lkd q⟩⟩, rfl⟩, rfl⟩
        · cases e1
    · rename_i lk kvs g
      obtain ⟨od, xs, q, rs, nd, hm⟩ := S.ob i _ g
      split at e1
      · rename_i c
        obtain ⟨c2, c3⟩ := c
        cases e1
        obtain ⟨b, rfl⟩ := tup_ref rk c2
        obtain ⟨nk, h1, h2⟩ := okT_nk 8 k c3
        rw [← hP, ← hw] at q
        have A : AtD X.K X.prog X.w H (ρ i) b nk xs := ⟨CT, ρ, h.n, k, kvs, rk, h1, h2, rs, nd, .inl ⟨rd_lkd q, hm⟩⟩
        cases gf : findT kvs k with
        | none =>
          refine ⟨_, none, rfl, .inr ⟨b, nk, xs, rfl, A, ?_⟩, rfl⟩
          rw [findT_none h1 rs gf]
        | some w =>
          obtain ⟨b', u, v, h3, h4, h5⟩ := findT_some h1 rs gf
          refine ⟨_, some v, rfl, .inr ⟨b, nk, xs, rfl, A, ?_⟩, v, rfl, h4⟩
          rw [h3]
          exact ⟨v, rfl, h5⟩
      · cases e1
    · cases e1
  | _ => cases e
theorem isSome_of {K : PySem.W.Frag} {n : Nat} {o : Option W} {r : Option V} (q : RepO K CT ρ n H o r) : r.isSome = o.isSome := by
  cases o with
  | none => have q' : r = none := q; rw [q']; rfl
  | some w => obtain ⟨v, rfl, _⟩ := q; rfl
/-! in, not in -/
def rInG (K : PySem.W.Frag) (P : Program) (w : World) (neg : Bool) : R2 := fun x y H Q => ∃ a o, y = .ref a ∧ DG K P w H a x o ∧ Q (.bl (neg != o.isSome)) H
theorem op_inG (hu : X.A.units + 65 < cLine) : OpR X (compareOp .In) (rInG X.K X.prog X.w false) := by
  intro pins s σ H x y v u Q I rx ry q
  obtain ⟨a, o, rfl, g, q⟩ := q
  cases (show u = Value.ref a from ry)
  refine dg_in hu I g rx fun s' I' => ⟨.bl o.isSome, H, I', rfl, ?_⟩
  cases o <;> exact q
theorem op_notInG (hu : X.A.units + 65 < cLine) : OpR X (compareOp .NotIn) (rInG X.K X.prog X.w true) := by
  intro pins s σ H x y v u Q I rx ry q
  obtain ⟨a, o, rfl, g, q⟩ := q
  cases (show u = Value.ref a from ry)
  refine dg_notIn hu I g rx fun s' I' => ⟨.bl (!o.isSome), H, I', rfl, ?_⟩
  cases o <;> exact q
/-- the own __contains__ of an instance -/
abbrev CTbl := Nat → Option Fn
def inX (T : CTbl) (neg : Bool) (x y : W) (h : Hx) : R W := match y with
  | .ref i => match h.get i with
    | some (.lst _) => match inO x y h with
      | some b => .ok (.bl (neg != b)) h
      | none => .bad
    | some (.ins k _) => match T k with
      | some f => (noexc (f [y, x] h)).bind fun r h2 => match r with
        | .bl b => .ok (.bl (neg != b)) h2
        | _ => .bad
      | none => .bad
    | _ => match dGet h y x with
      | some o => .ok (.bl (neg != o.isSome)) h
      | none => .bad
  | _ => match inO x y h with
    | some b => .ok (.bl (neg != b)) h
    | none => .bad
/-- what is asked of an own class for x in o -/
structure HasIn (X : Cx) (CT : CTx) (T : CTbl) (k : Nat) (fn : Fn) : Prop where
  ex : ∃ (f : Addr) (fd : FuncData) (ps : List Str) (j : Nat), Meth X.K (CT k) "__contains__" f ∧ FnG X.prog X.w X.K X.mg X.base j f fd ps (spOf X.K CT fn) ∧ Room j X.A ∧ Binds X.K fd ps []
def rInO (X : Cx) (CT : CTx) (T : CTbl) (neg : Bool) : R2 := fun x y H Q => ∃ k fn a dx fs, T k = some fn ∧ HasIn X CT T k fn ∧ y = .ref a ∧ H a = some (.ins (CT k) dx fs) ∧ spOf X.K CT fn [y, x] H (fun v H2 => ∃ b, v = .bl b ∧ Q (.bl (neg != b)) H2) (fun _ _ _ => False)
theorem contains_G {pins : List (Addr × Obj)} {s : Shared} {T : CTbl} {k : Nat} {fn : Fn} {a dx : Addr} {fs : List (Str × V)} {x : V} {v : Value} {R : Bool → Hp → Prop} (hG : X.A.guards = some []) (I : Inv X pins σ H s) (hI : HasIn X CT T k fn) (ea : H a = some (.ins (CT k) dx fs)) (rx : RelV x v)
    (p : spOf X.K CT fn [.ref a, x] H (fun v H2 => ∃ b, v = .bl b ∧ R b H2) (fun _ _ _ => False)) : wpAny (model X.prog X.w) X.A (PySem.contains (.ref a) v) (fun b s' => ∃ H', Inv X pins σ H' s' ∧ R b H') X.xe s := by
  obtain ⟨f, fd, ps, j, M, F, hr, hb⟩ := hI.ex
  obtain ⟨mA, O, _, _, _, _⟩ := ins_get I.hok ea
  obtain ⟨od, J, _⟩ := O.look
  unfold PySem.contains
  refine wpAny_holding (wpAny_bind (wpAny_bind (J.type.here ((PySem.W.looks_findIn I.kIn M.at_).here ?_))))
  rw [if_neg (by simp)]
  refine wpAny_bind (PySem.W.unlessNone_K I.kIn J M.at_ M.fn (wpAny_mono (call_fnG (Wd := fun _ _ _ _ => False) (us := [.ref a, v]) (vs := [.ref a, x]) (dvs := []) F hG hr hb .nil L2.takes0 I (.cons rfl (.cons rx .nil)) p) (fun u s' hu => ?_) fun _ _ z => z))
  obtain ⟨z, H', I', rz, b, rfl, q⟩ := hu
  cases (show u = Value.bool b from rz)
  exact wpAny_truthy_bool ⟨H', I', q⟩
theorem op_inO {T : CTbl} (hG : X.A.guards = some []) : OpR X (compareOp .In) (rInO X CT T false) := by
  intro pins s σ H x y v u Q I rx ry q
  obtain ⟨k, fn, a, dx, fs, _, hI, rfl, ea, p⟩ := q
  cases (show u = Value.ref a from ry)
  refine wpAny_bind (wpAny_mono (contains_G hG I hI ea rx p) (fun b s' ⟨H', I', q⟩ => wpAny_pure ⟨.bl b, H', I', rfl, ?_⟩) fun _ _ z => z)
  cases b <;> exact q
theorem op_notInO {T : CTbl} (hG : X.A.guards = some []) : OpR X (compareOp .NotIn) (rInO X CT T true) := by
  intro pins s σ H x y v u Q I rx ry q
  obtain ⟨k, fn, a, dx, fs, _, hI, rfl, ea, p⟩ := q
  cases (show u = Value.ref a from ry)
  refine wpAny_bind (wpAny_mono (contains_G hG I hI ea rx p) (fun b s' ⟨H', I', q⟩ => wpAny_pure ⟨.bl (!b), H', I', rfl, ?_⟩) fun _ _ z => z)
  cases b <;> exact q
abbrev rInAll (X : Cx) (CT : CTx) (T : CTbl) : R2 := fun x y H Q => rInW X.K x y H Q ∨ rInG X.K X.prog X.w false x y H Q ∨ rInO X CT T false x y H Q
abbrev rNotInAll (X : Cx) (CT : CTx) (T : CTbl) : R2 := fun x y H Q => rNotInW X.K x y H Q ∨ rInG X.K X.prog X.w true x y H Q ∨ rInO X CT T true x y H Q
theorem or_inA {T : CTbl} (hG : X.A.guards = some []) (hu : X.A.units + 65 < cLine) : OpR X (compareOp .In) (rInAll X CT T) := opR_or (or_in hu) (opR_or (op_inG hu) (op_inO hG))
theorem or_notInA {T : CTbl} (hG : X.A.guards = some []) (hu : X.A.units + 65 < cLine) : OpR X (compareOp .NotIn) (rNotInAll X CT T) := opR_or (or_notIn hu) (opR_or (op_notInG hu) (op_notInO hG))
theorem inX_of {T : CTbl} (hP : X.prog = CT.P) (hw : X.w = CT.w) (hI : ∀ k fn, T k = some fn → HasIn X CT T k fn) {neg : Bool} {x y : W} {v u : V} {Q : VK} (S : Sim X.K CT ρ h H) (rx : Rep X.K CT ρ h.n H x v) (ry : Rep X.K CT ρ h.n H y u) (p : Post X.K CT (RW X.K CT) Wd ρ h H σ (inX T neg x y h) Q) :
    (∃ b, inO x y h = some b ∧ Q (.bl (neg != b)) H) ∨ rInG X.K X.prog X.w neg v u H Q ∨ rInO X CT T neg v u H Q := by
  have one : ∀ {o : Option Bool}, Post X.K CT (RW X.K CT) Wd ρ h H σ (match o with
      | some b => .ok (.bl (neg != b)) h
      | none => .bad) Q → ∃ b, o = some b ∧ Q (.bl (neg != b)) H := fun {o} p => by
    cases o with
    | none => exact p.elim
    | some b => exact ⟨b, rfl, Post.here S p (.bl _)⟩
  cases y with
  | ref i =>
    cases g : h.get i with
    | none =>
      have e : inX T neg x (.ref i) h = .bad := by unfold inX; simp only [g]; unfold dGet; simp only [g]
      rw [e] at p
      exact p.elim
    | some ob =>
      cases ob with
      | lst xs =>
        have e : inX T neg x (.ref i) h = (match inO x (.ref i) h with
          | some b => .ok (.bl (neg != b)) h
          | none => .bad) := by unfold inX; simp only [g]
        rw [e] at p
        exact .inl (one p)
      | ins k fs =>
        have e : inX T neg x (.ref i) h = (match T k with
          | some f => (noexc (f [.ref i, x] h)).bind fun r h2 => match r with
            | .bl b => .ok (.bl (neg != b)) h2
            | _ => .bad
          | none => .bad) := by unfold inX; simp only [g]
        rw [e] at p
        cases gt : T k with
        | none => rw [gt] at p; exact p.elim
        | some f =>
          rw [gt] at p
          obtain ⟨dx, vs, eh, rf⟩ := ins_sim S g
          cases ry with
          | ref hi =>
            refine .inr (.inr ⟨k, f, ρ i, dx, vs, gt, hI k f gt, rfl, eh, ρ, h, [.ref i, x], S, .cons (.ref hi) (.cons rx .nil), ?_⟩)
            have p2 : Post X.K CT (RW X.K CT) Wd ρ h H σ ((noexc (f [.ref i, x] h)).bind fun r h2 => match r with
              | .bl b => .ok (.bl (neg != b)) h2
              | _ => .bad) Q := p
            cases gf : f [.ref i, x] h with
            | bad => rw [gf] at p2; exact p2.elim
            | exc _ _ => rw [gf] at p2; exact p2.elim
            | ok r h2 =>
              rw [gf] at p2
              intro ρ' H' v' N' r'
              cases r' with
              | bl b =>
                have p3 : Post X.K CT (RW X.K CT) Wd ρ h H σ (.ok (.bl (neg != b)) h2) Q := p2
                exact ⟨b, rfl, p3 ρ' H' _ N' (.bl _)⟩
              | _ => exact (show False from p2).elim
      | dic lk kvs =>
        have e : inX T neg x (.ref i) h = (match dGet h (.ref i) x with
          | some o => .ok (.bl (neg != o.isSome)) h
          | none => .bad) := by unfold inX; simp only [g]
        rw [e] at p
        cases gd : dGet h (.ref i) x with
        | none => rw [gd] at p; exact p.elim
        | some o =>
          rw [gd] at p
          obtain ⟨a, r, rfl, d, q⟩ := dGet_of hP hw S ry rx gd
          refine .inr (.inl ⟨a, r, rfl, d, ?_⟩)
          rw [isSome_of q]
          exact Post.here S p (.bl _)
      | dicN lk kvs =>
        have e : inX T neg x (.ref i) h = (match dGet h (.ref i) x with
          | some o => .ok (.bl (neg != o.isSome)) h
          | none => .bad) := by unfold inX; simp only [g]
        rw [e] at p
        cases gd : dGet h (.ref i) x with
        | none => rw [gd] at p; exact p.elim
        | some o =>
          rw [gd] at p
          obtain ⟨a, r, rfl, d, q⟩ := dGet_of hP hw S ry rx gd
          refine .inr (.inl ⟨a, r, rfl, d, ?_⟩)
          rw [isSome_of q]
          exact Post.here S p (.bl _)
  | _ => exact .inl (one p)
theorem os_inA {T : CTbl} (hP : X.prog = CT.P) (hw : X.w = CT.w) (hI : ∀ k fn, T k = some fn → HasIn X CT T k fn) : OpS X.K CT Wd (rInAll X CT T) (inX T false) := by
  intro ρ h H σ x y v u Q S rx ry p
  rcases inX_of hP hw hI S rx ry p with ⟨b, g, q⟩ | q | q
  · rw [show (false != b) = b by cases b <;> rfl] at q
    rcases inO_of S rx ry g with ⟨c, z, e1, e2, e⟩ | ⟨a, xs, e1, hq, f1, f2, e⟩ | ⟨d, ds, h1, h2, h3, h4, e⟩
    · exact .inl (.inl ⟨c, z, e1, e2, by rw [e]; exact q⟩)
    · exact .inl (.inr (.inl ⟨a, xs, e1, hq, f1, f2, by rw [e]; exact q⟩))
    · exact .inl (.inr (.inr ⟨d, ds, h1, h2, h3, h4, by rw [e]; exact q⟩))
  · exact .inr (.inl q)
  · exact .inr (.inr q)
theorem os_notInA {T : CTbl} (hP : X.prog = CT.P) (hw : X.w = CT.w) (hI : ∀ k fn, T k = some fn → HasIn X CT T k fn) : OpS X.K CT Wd (rNotInAll X CT T) (inX T true) := by
  intro ρ h H σ x y v u Q S rx ry p
  rcases inX_of hP hw hI S rx ry p with ⟨b, g, q⟩ | q | q
  · rw [show (true != b) = !b by cases b <;> rfl] at q
    rcases inO_of S rx ry g with ⟨c, z, e1, e2, e⟩ | ⟨a, xs, e1, hq, f1, f2, e⟩ | ⟨d, ds, h1, h2, h3, h4, e⟩
    · exact .inl (.inl ⟨c, z, e1, e2, by rw [e]; exact q⟩)
    · exact .inl (.inr (.inl ⟨a, xs, e1, hq, f1, f2, by rw [e]; exact q⟩))
    · exact .inl (.inr (.inr ⟨d, ds, h1, h2, h3, h4, by rw [e]; exact q⟩))
  · exact .inr (.inl q)
  · exact .inr (.inr q)
end
end Sx

set_option linter.all false
set_option autoImplicit false
set_option maxRecDepth 100000
set_option maxHeartbeats 2000000
namespace Sx
open PySem L2
/-! ### o[i] -/
/-- an own __getitem__ -/
structure HasGet (X : Cx) (CT : CTx) (k : Nat) (fn : Fn) : Prop where
  ex : ∃ (f : Addr) (fd : FuncData) (ps : List Str) (j : Nat), Meth X.K (CT k) "__getitem__" f ∧ PySem.W.fnIn X.K f = true ∧ FnG X.prog X.w X.K X.mg X.base j f fd ps (spOf X.K CT fn) ∧ Room (j + 1) X.A ∧ Binds X.K fd ps []
def ixX (T : CTbl) (x y : W) (h : Hx) : R W := match x with
  | .ref i => match h.get i with
    | some (.lst _) => ixW x y h
    | some (.ins k _) => match T k with
      | some f => f [x, y] h
      | none => .bad
    | _ => match dGet h x y with
      | some (some w) => .ok w h
      | _ => .bad
  | _ => ixW x y h
section
variable {X : Cx} {CT : CTx} {Wd : WX} {ρ : Nat → Addr} {h : Hx} {H : Hp} {σ : St} {a b : Expr} {ca cb : Ex} {pos : Pos}
def rIxG (K : PySem.W.Frag) (P : Program) (w : World) : R2 := fun x y H Q => ∃ a v, x = .ref a ∧ DG K P w H a y (some v) ∧ Q v H
theorem ix_G (hu : X.A.units + 65 < cLine) : IxR X (rIxG X.K X.prog X.w) := by
  intro value slice pins s σ H x y v u Q I rx ry hq hs
  obtain ⟨a, z, rfl, g, q⟩ := hq
  cases (show v = Value.ref a from rx)
  have hT := g.typeIs I
  have hget := dg_getItem (Q := fun r s₃ => wpAny (model X.prog X.w) X.A (letTemporaryGo value (.ref a) r >>= fun _ => pure r) (EP X pins σ Q) X.xe s₃) (E := X.xe) hu I g ry fun z' s' I' rz => wpAny_bind (wpAny_letTemporaryGo (wpAny_pure ⟨z, H, I', rz, q⟩))
  have fin : wpAny (model X.prog X.w) X.A (subscripted slice false (.ref a) u) (fun r s₃ => wpAny (model X.prog X.w) X.A (letTemporaryGo value (.ref a) r >>= fun _ => pure r) (EP X pins σ Q) X.xe s₃) X.xe s := by rw [hs]; exact wpAny_operating hget
  unfold PyProof.Rows.subscriptTail
  rw [PySem.getitemInPython_of_ne hT.not_modules]
  refine wpAny_bind (wpAny_bind (wpAny_specialOf hT PySem.F.slot_dict_getitem.lookup ?_))
  first
    | exact wpAny_pure (wpAny_bind fin)
    | exact wpAny_bind (wpAny_pure (wpAny_bind fin))
    | exact wpAny_bind fin
def rIxO (X : Cx) (CT : CTx) (Wd : WX) (T : CTbl) (σ : St) : R2 := fun x y H Q => ∃ k fn a dx fs, T k = some fn ∧ HasGet X CT k fn ∧ x = .ref a ∧ H a = some (.ins (CT k) dx fs) ∧ spOf X.K CT fn [x, y] H Q (WE Wd σ)
theorem ix_O {T : CTbl} {pins : List (Addr × Obj)} {s : Shared} {value slice : Expr} {x y : V} {v u : Value} {Q : VK} (hG : X.A.guards = some []) (tk : Takes X Wd) (I : Inv X pins σ H s) (rx : RelV x v) (ry : RelV y u) (q : rIxO X CT Wd T σ x y H Q)
    (hsl : ∀ o i, subscripted slice true o i = runValue (.builtin "lifetime.subscript" ⟨[o, i], []⟩)) : wpAny (model X.prog X.w) X.A (PyProof.Rows.subscriptTail value slice v u) (EP X pins σ Q) X.xe s := by
  obtain ⟨k, fn, a, dx, fs, _, hI, rfl, ea, p⟩ := q
  cases (show v = Value.ref a from rx)
  obtain ⟨f, fd, ps, j, M, hfn, F, hr, hb⟩ := hI.ex
  obtain ⟨mA, O, _, _, _, _⟩ := ins_get I.hok ea
  obtain ⟨od, J, _⟩ := O.look
  have hl : ([Value.ref a, u] ++ []).length = ps.length := by
    have e := F.len _ _ _ _ p
    rw [← e]
    rfl
  have run : wpAny (model X.prog X.w) X.A.in1 (call (.ref f) [.ref a, u]) (EP X pins σ Q) X.xe s := by
    refine wpAny_call (codeAny_mono (F.run X.A.in1 X.stack s H ⟨[.ref a, u], []⟩ [.ref a, u] [.ref a, y] Q (WE Wd σ) hG hr.in1 I.env0.in1 (hb s [.ref a, u] I.kIn hl) (.cons rfl (.cons ry .nil)) p) fun res s' hq => ?_)
    rcases res with e | fl
    · exact passAt tk σ pins H s e s' I hq
    cases fl with
    | ret z => exact I.after hq
    | _ => exact False.elim hq
  unfold PySem.W.fnIn at hfn
  split at hfn
  · rename_i e
    unfold PyProof.Rows.subscriptTail getitemInPython
    refine wpAny_bind (wpAny_bind (wpAny_bind (J.type.here ((PySem.W.looks_findIn I.kIn M.at_).here ?_))))
    dsimp only
    refine wpAny_bind (wpAny_load (I.kIn _ _ e) (wpAny_pure ?_))
    dsimp only
    rw [hsl]
    refine wpAny_bind (wpAny_runValue (codeAny_builtin PySem.W.entry_sub ?_))
    unfold Builtin.«lifetime.subscript»
    refine wpAny_bind (PySem.W.special_fn I.kIn J M.at_ (beq_iff_eq.mp M.fn) (wpAny_mono run (fun z s' hz => wpAny_pure ?_) fun _ _ z => z))
    show wpAny (model X.prog X.w) X.A (letTemporaryGo value (.ref a) z >>= fun _ => pure z) (EP X pins σ Q) X.xe s'
    exact wpAny_bind (wpAny_letTemporaryGo (wpAny_pure hz))
  · cases hfn
theorem ixX_of {T : CTbl} (hP : X.prog = CT.P) (hw : X.w = CT.w) (hI : ∀ k fn, T k = some fn → HasGet X CT k fn) {x y : W} {v u : V} {Q : VK} (S : Sim X.K CT ρ h H) (rx : Rep X.K CT ρ h.n H x v) (ry : Rep X.K CT ρ h.n H y u) (p : Post X.K CT (RW X.K CT) Wd ρ h H σ (ixX T x y h) Q) :
    Post X.K CT (RW X.K CT) Wd ρ h H σ (ixW x y h) Q ∨ rIxG X.K X.prog X.w v u H Q ∨ rIxO X CT Wd T σ v u H Q := by
  cases x with
  | ref i =>
    have dict : Post X.K CT (RW X.K CT) Wd ρ h H σ (match dGet h (.ref i) y with
        | some (some w) => .ok w h
        | _ => .bad) Q → rIxG X.K X.prog X.w v u H Q := fun p => by
      cases gd : dGet h (.ref i) y with
      | none => rw [gd] at p; exact p.elim
      | some o =>
        rw [gd] at p
        cases o with
        | none => exact p.elim
        | some w =>
          obtain ⟨a, r, rfl, d, z, rfl, q⟩ := dGet_of hP hw S rx ry gd
          exact ⟨a, z, rfl, d, Post.here S p q⟩
    cases g : h.get i with
    | none =>
      have e : ixX T (.ref i) y h = .bad := by unfold ixX; simp only [g]; unfold dGet; simp only [g]
      rw [e] at p
      exact p.elim
    | some ob =>
      cases ob with
      | lst xs =>
        have e : ixX T (.ref i) y h = ixW (.ref i) y h := by unfold ixX; simp only [g]
        rw [e] at p
        exact .inl p
      | ins k fs =>
        have e : ixX T (.ref i) y h = (match T k with
          | some f => f [.ref i, y] h
          | none => .bad) := by unfold ixX; simp only [g]
        rw [e] at p
        cases gt : T k with
        | none => rw [gt] at p; exact p.elim
        | some f =>
          rw [gt] at p
          obtain ⟨dx, vs, eh, rf⟩ := ins_sim S g
          cases rx with
          | ref hi => exact .inr (.inr ⟨k, f, ρ i, dx, vs, gt, hI k f gt, rfl, eh, sp_of S (.cons (.ref hi) (.cons ry .nil)) p⟩)
      | dic lk kvs =>
        have e : ixX T (.ref i) y h = (match dGet h (.ref i) y with
          | some (some w) => .ok w h
          | _ => .bad) := by unfold ixX; simp only [g]
        rw [e] at p
        exact .inr (.inl (dict p))
      | dicN lk kvs =>
        have e : ixX T (.ref i) y h = (match dGet h (.ref i) y with
          | some (some w) => .ok w h
          | _ => .bad) := by unfold ixX; simp only [g]
        rw [e] at p
        exact .inr (.inl (dict p))
  | _ => exact .inl p
theorem se_ixX {T : CTbl} (hP : X.prog = CT.P) (hw : X.w = CT.w) (hI : ∀ k fn, T k = some fn → HasGet X CT k fn) (hG : X.A.guards = some []) (hu : X.A.units + 65 < cLine) (tk : Takes X Wd) (ha : SE X CT Wd a ca) (hb : SE X CT Wd b cb) (hs : PlainIx b)
    (hsl : ∀ o i, subscripted b true o i = runValue (.builtin "lifetime.subscript" ⟨[o, i], []⟩)) : SE X CT Wd (.Subscript a b pos) (xOp (ixX T) ca cb) :=
  ⟨fun pins s σ H Q I ⟨ρ, h, es, S, E, p⟩ => PyProof.Rows.Subscript_ (binT (R := fun x y H2 => rIx X.K x y H2 Q ∨ rIxG X.K X.prog X.w x y H2 Q ∨ rIxO X CT Wd T σ x y H2 Q) ha hb I ⟨ρ, h, es, S, E, Post.bind S p fun w h1 ρ1 H1 v N1 r1 p1 => ⟨ρ1, h1, es, N1.sim, E.keep S N1.toFw, Post.bind N1.sim p1 fun w2 h2 ρ2 H2 u N2 r2 p2 => by
    rcases ixX_of hP hw hI N2.sim (Rep.keep N1.sim N2.toFw _ _ r1) r2 p2 with q | q | q
    · exact .inl (os_ix N2.sim (Rep.keep N1.sim N2.toFw _ _ r1) r2 q)
    · exact .inr (.inl q)
    · exact .inr (.inr q)⟩⟩ fun v u s2 x y H2 I2 rx ry q => by
    rcases q with q | q | q
    · exact ix_seq a b pins s2 σ H2 x y v u Q I2 rx ry q (hs _ _)
    · exact ix_G hu a b pins s2 σ H2 x y v u Q I2 rx ry q (hs _ _)
    · exact ix_O hG tk I2 rx ry q hsl)⟩
/-! ### d.get(k, x) -/
def getW (d k x : W) (h : Hx) : R W := match dGet h d k with
  | some (some w) => .ok w h
  | some none => .ok x h
  | none => .bad
def isDic (h : Hx) : W → Bool
  | .ref i => match h.get i with
    | some (.dic _ _) => true
    | some (.dicN _ _) => true
    | _ => false
  | _ => false
def xGet2 (d k x : Ex) : Ex := fun es h => (d es h).bind fun dv h1 => if isDic h1 dv = true then (k es h1).bind fun kv h2 => (x es h2).bind fun xv h3 => getW dv kv xv h3 else .bad
/-- a dict stands at a -/
def IsG (P : Program) (w : World) (H : Hp) (a : Addr) : Prop := IsD H a ∨ ∃ xs, Rd H a (dNo P w a xs) ∧ (a == sysModules) = false
theorem isG_at {pins : List (Addr × Obj)} {s : Shared} {a : Addr} (I : Inv X pins σ H s) (d : IsG X.prog X.w H a) : s.TypeIs (.ref a) "dict" ∧ (∀ b, Value.ref a = .ref b → ∃ ob, s.heap.get? b = some ob ∧ ob.dict = none) ∧ (a == sysModules) = false := by
  rcases d with d | ⟨xs, d, hm⟩
  · exact isD_at I d
  · obtain ⟨⟨o, es, ep, h1, h2, h3, h4⟩, _, _⟩ := d.ok I.hok
    exact ⟨⟨o, h1, h2.1⟩, fun b e => by cases e; exact ⟨o, h1, h2.2.1⟩, hm⟩
theorem isDic_of (hP : X.prog = CT.P) (hw : X.w = CT.w) (S : Sim X.K CT ρ h H) {d : W} {v : V} (r : Rep X.K CT ρ h.n H d v) (e : isDic h d = true) : ∃ a, v = .ref a ∧ IsG X.prog X.w H a := by
  cases r with
  | @ref i hi =>
    have e1 : (match h.get i with
      | some (.dic _ _) => true
      | some (.dicN _ _) => true
      | _ => false) = true := e
    split at e1
    · rename_i lk kvs g
      obtain ⟨od, vs, q, _⟩ := S.ob i _ g
      exact ⟨_, rfl, .inl (.inl ⟨vs, rd_lkd q⟩)⟩
    · rename_i lk kvs g
      obtain ⟨od, xs, q, _, _, hm⟩ := S.ob i _ g
      rw [← hP, ← hw] at q
      exact ⟨_, rfl, .inr ⟨xs, rd_lkd q, hm⟩⟩
    · cases e1
  | _ => cases e
theorem se_get2 {d k x : Expr} {cd ck cx : Ex} {apos cpos : Pos} (hP : X.prog = CT.P) (hw : X.w = CT.w) (hu : X.A.units + 65 < cLine) (hd : SE X CT Wd d cd) (hk : SE X CT Wd k ck) (hx : SE X CT Wd x cx) (m : M2 X d "get" apos k x cpos) : SE X CT Wd (.Call (.Attribute d "get" apos) [k, x] [] cpos) (xGet2 cd ck cx) :=
  ⟨fun pins s σ H Q I ⟨ρ, h, es, S, E, p⟩ => wpAny_Call_method m.base m.few m.line PySem.F.plainAttrs_dict PySem.F.slot_dict_get PySem.F.type_dict_get (thn (hd.run pins s σ H (fun v H1 => ∃ a, v = .ref a ∧ IsG X.prog X.w H1 a ∧ tE X.K CT Wd ck σ H1 fun y H2 => tE X.K CT Wd cx σ H2 fun z H3 => ∃ o, DG X.K X.prog X.w H3 a y o ∧ Q (o.getD z) H3) I ⟨ρ, h, es, S, E, Post.bind (RR := RW X.K CT) S p fun dv h1 ρ1 H1 v N1 r1 p1 => by
      obtain ⟨c, p2⟩ := post_if p1
      obtain ⟨a, rfl, g⟩ := isDic_of hP hw N1.sim r1 c
      have E1 := E.keep S N1.toFw
      refine ⟨a, rfl, g, ρ1, h1, es, N1.sim, E1, Post.bind (RR := RW X.K CT) N1.sim p2 fun kv h2 ρ2 H2 y N2 r2 p3 => ?_⟩
      refine ⟨ρ2, h2, es, N2.sim, E1.keep N1.sim N2.toFw, Post.bind (RR := RW X.K CT) N2.sim p3 fun xv h3 ρ3 H3 z N3 r3 p4 => ?_⟩
      have r1' := Rep.keep N2.sim N3.toFw _ _ (Rep.keep N1.sim N2.toFw _ _ r1)
      have r2' := Rep.keep N2.sim N3.toFw _ _ r2
      have p5 : Post X.K CT (RW X.K CT) Wd ρ3 h3 H3 σ (match dGet h3 dv kv with
        | some (some w) => .ok w h3
        | some none => .ok xv h3
        | none => .bad) Q := p4
      cases gd : dGet h3 dv kv with
      | none => rw [gd] at p5; exact p5.elim
      | some o =>
        rw [gd] at p5
        obtain ⟨a', r, e, dg, q⟩ := dGet_of hP hw N3.sim r1' r2' gd
        cases e
        cases o with
        | none =>
          have q' : r = none := q
          subst q'
          exact ⟨none, dg, Post.here N3.sim p5 r3⟩
        | some w =>
          obtain ⟨v', rfl, q'⟩ := q
          exact ⟨some v', dg, Post.here N3.sim p5 q'⟩⟩) fun u s1 hu1 => by
    obtain ⟨v, H1, I1, rv, a, rfl, g, q1⟩ := hu1
    cases (show u = Value.ref a from rv)
    obtain ⟨t1, t2, _⟩ := isG_at I1 g
    refine ⟨t1, t2, ?_⟩
    rw [m.trees]
    exact Calls.callWith_builtin rfl (Calls.evalArgs_plain (Calls.spliced_cons (thn (hk.run pins s1 σ H1 _ I1 q1) fun iv s2 ⟨y, H2, I2, ry, q2⟩ => Calls.spliced_cons (thn (hx.run pins s2 σ H2 _ I2 q2) fun fv s3 ⟨z, H3, I3, rz, o, dg, q3⟩ => Calls.spliced_nil (dg_get2 hu I3 dg ry rz fun w' s4 I4 rw' => ⟨_, H3, I4, rw', q3⟩))))))⟩
end
end Sx

set_option linter.all false
set_option autoImplicit false
set_option maxRecDepth 100000
set_option maxHeartbeats 2000000
namespace Sx
open PySem L2
/-! ### d[k] = v -/
/-- the object behind d[k] = v -/
def dPut (o : O) (k v : W) : Option O := match o with
  | .dic false kvs => match keyOf k with
    | some _ => if kvs.length < lim then some (.dic false (putKW kvs k v)) else none
    | none => if kvs.isEmpty = true ∧ isTup k = true ∧ okT 8 k = true then some (.dicN false [(k, v)]) else none
  | .dicN false kvs => if isTup k = true ∧ okT 8 k = true ∧ kvs.length < lim then some (.dicN false (putT kvs k v)) else none
  | _ => none
def setX (o i v : W) (h : Hx) : R Unit := match o with
  | .ref k => match h.get k with
    | some (.lst _) => setItemW o i v h
    | some ob => match dPut ob i v with
      | some ob' => .ok () (h.put k ob')
      | none => .bad
    | none => .bad
  | _ => .bad
def gxSubX (a b : Ex) : Gx := fun w es h => (a es h).bind fun o h1 => (b es h1).bind fun i h2 => (setX o i w h2).bind fun _ h3 => .ok es h3
section
variable {X : Cx} {CT : CTx} {Wd : WX} {ρ : Nat → Addr} {h : Hx} {H : Hp} {σ : St} {a b : Expr} {ca cb : Ex} {p : Pos}
/-- the dict at a may be written -/
def rSetT (K : PySem.W.Frag) (P : Program) (w : World) : TSet := fun o i v H Q => ∃ k xs a b, o = .ref a ∧ i = .ref b ∧ AtD K P w H a b k xs ∧ Mut (H a) ∧ xs.length < 100000 ∧ ∀ u, RelV v u → (a == sysModules) = false → Q (upd H a (dNo P w a (storedH xs k b u)))
theorem set_T (hu : X.A.units + 65 < cLine) : PSet X (rSetT X.K X.prog X.w) := by
  intro pins s σ H o i v ov iv u Q I ro ri rv hh
  obtain ⟨k, xs, a, b, rfl, rfl, g, mu, hl, q⟩ := hh
  cases (show ov = Value.ref a from ro)
  cases (show iv = Value.ref b from ri)
  obtain ⟨D, hk, hm⟩ := g.dict I
  refine wpAny_setItem_heap (knd := nestedKind X.prog X.w) (show X.A.units + 1 + 8 < cLine by omega) hk D (fun h' D' sb => ?_) (by rw [sizeLine_eq]; omega)
  refine ⟨_, I.write (t' := s.toks + (nestedKind X.prog X.w).draws k) (x := a) (e := a) (o := dNo X.prog X.w a (storedH xs k b u)) mu (.inl rfl) (fun c ob hc z => (sb.2 c hc).trans z) ?_ (dNo_ok D'), q u rv hm⟩
  obtain ⟨o, _, _, h1, _⟩ := D'
  exact ⟨o, h1⟩
abbrev rSetX (K : PySem.W.Frag) (P : Program) (w : World) : TSet := fun o i v H Q => rSetL o i v H Q ∨ rSetD o i v H Q ∨ rSetT K P w o i v H Q
theorem set_X (hu : X.A.units + 65 < cLine) : PSet X (rSetX X.K X.prog X.w) := by
  intro pins s σ H o i v ov iv u Q I ro ri rv hh
  rcases hh with hh | hh | hh
  · exact set_list pins s σ H o i v ov iv u Q I ro ri rv hh
  · exact set_dict (by omega) pins s σ H o i v ov iv u Q I ro ri rv hh
  · exact set_T hu pins s σ H o i v ov iv u Q I ro ri rv hh
/-- a store under an int or a text -/
def rSetK (D : Addr) (i v : V) (H : Hp) (Q : Hp → Prop) : Prop := ∃ kvs k, i = kV k ∧ H D = some (.dK kvs) ∧ kvs.length < sizeLine ∧ Q (upd H D (.dK (putK kvs k v)))
/-- a plain dict behind a store, and the heap behind it -/
theorem dPut_ofK (hP : X.prog = CT.P) (hw : X.w = CT.w) (S : Sim X.K CT ρ h H) {j : Nat} {ob ob' : O} {k w : W} {vk vw : V} (g : h.get j = some ob) (hj : j < h.n) (rk : Rep X.K CT ρ h.n H k vk) (rv : Rep X.K CT ρ h.n H w vw) (e : dPut ob k w = some ob') {Q : Hp → Prop}
    (q : ∀ H', Nxt X.K CT ρ h H ρ (h.put j ob') H' → Q H') : rSetK (ρ j) vk vw H Q ∨ rSetT X.K X.prog X.w (.ref (ρ j)) vk vw H Q := by
  cases ob with
  | dic lk kvs =>
    cases lk with
    | true => cases e
    | false =>
      obtain ⟨od, vs, ev, rs⟩ := S.ob j _ g
      have ev' : H (ρ j) = some (.dK vs) := ev
      have e1 : (match keyOf k with
        | some _ => if kvs.length < lim then some (O.dic false (putKW kvs k w)) else none
        | none => if kvs.isEmpty = true ∧ isTup k = true ∧ okT 8 k = true then some (.dicN false [(k, w)]) else none) = some ob' := e
      split at e1
      · rename_i kk ek
        split at e1
        · rename_i c
          cases e1
          have ekv := key_rel ek rk
          subst ekv
          refine .inl ⟨_, kk, rfl, ev', (by rw [← repK_len rs]; exact Nat.lt_of_lt_of_le c (by decide)), q _ ?_⟩
          exact Nxt.put S hj (by rw [ev']; exact True.intro) ⟨default, _, upd_same, RepK.keep S (Fw.put S hj (by rw [ev']; exact True.intro)) (putKW_rep ek rk rv rs)⟩
        · cases e1
      · rename_i ek
        split at e1
        · rename_i c
          obtain ⟨c1, c2, c3⟩ := c
          cases e1
          cases kvs with
          | cons _ _ => cases c1
          | nil =>
            cases rs
            obtain ⟨b, rfl⟩ := tup_ref rk c2
            obtain ⟨nk, h1, h2⟩ := okT_nk 8 k c3
            refine .inr ⟨nk, [], ρ j, b, rfl, rfl, ⟨CT, ρ, h.n, k, [], rk, h1, h2, .nil, List.nodup_nil, .inr ⟨rfl, .inl ev'⟩⟩, by rw [ev']; exact True.intro, by decide, fun u ru hm => q _ ?_⟩
            have F := Fw.put (u := dNo X.prog X.w (ρ j) (storedH [] nk b u)) S hj (by rw [ev']; exact True.intro)
            refine Nxt.put S hj (by rw [ev']; exact True.intro) ⟨default, _, by rw [← hP, ← hw]; exact upd_same, RepN.kp (Kp.of S F) (.cons h1 h2 rk rv ru .nil), ?_, ?_⟩
            · simp [storedH_new (show atKey [] nk = none from rfl)]
            · exact hm
        · cases e1
  | dicN lk kvs =>
    cases lk with
    | true => cases e
    | false =>
      obtain ⟨od, xs, ev, rs, nd, hm⟩ := S.ob j _ g
      rw [← hP, ← hw] at ev
      have ev' : H (ρ j) = some (dNo X.prog X.w (ρ j) xs) := ev
      have e1 : (if isTup k = true ∧ okT 8 k = true ∧ kvs.length < lim then some (O.dicN false (putT kvs k w)) else none) = some ob' := e
      split at e1
      · rename_i c
        obtain ⟨c2, c3, c4⟩ := c
        cases e1
        obtain ⟨b, rfl⟩ := tup_ref rk c2
        obtain ⟨nk, h1, h2⟩ := okT_nk 8 k c3
        refine .inr ⟨nk, xs, ρ j, b, rfl, rfl, ⟨CT, ρ, h.n, k, kvs, rk, h1, h2, rs, nd, .inl ⟨.inl ev', hm⟩⟩, by rw [ev']; exact True.intro, by rw [← repN_len rs]; exact c4, fun u ru _ => q _ ?_⟩
        have F := Fw.put (u := dNo X.prog X.w (ρ j) (storedH xs nk b u)) S hj (by rw [ev']; exact True.intro)
        exact Nxt.put S hj (by rw [ev']; exact True.intro) ⟨default, _, by rw [← hP, ← hw]; exact upd_same, RepN.kp (Kp.of S F) (putT_rep h1 h2 rk rv ru rs), nodup_stored nd, hm⟩
      · cases e1
  | lst _ => cases e
  | ins _ _ => cases e
theorem dPut_of (hP : X.prog = CT.P) (hw : X.w = CT.w) (S : Sim X.K CT ρ h H) {j : Nat} {ob ob' : O} {k w : W} {vk vw : V} (g : h.get j = some ob) (hj : j < h.n) (rk : Rep X.K CT ρ h.n H k vk) (rv : Rep X.K CT ρ h.n H w vw) (e : dPut ob k w = some ob') {Q : Hp → Prop}
    (q : ∀ H', Nxt X.K CT ρ h H ρ (h.put j ob') H' → Q H') : rSetD (.ref (ρ j)) vk vw H Q ∨ rSetT X.K X.prog X.w (.ref (ρ j)) vk vw H Q := by
  rcases dPut_ofK hP hw S g hj rk rv e q with ⟨kvs, k, rfl, a, b, c⟩ | z
  · exact .inl ⟨ρ j, _, rfl, DPut.k a b, c⟩
  · exact .inr z
theorem sg_subX (hP : X.prog = CT.P) (hw : X.w = CT.w) (hu : X.A.units + 65 < cLine) (ha : SE X CT Wd a ca) (hb : SE X CT Wd b cb) (hk : ∀ {to ti : TE} {t : TSet}, PE X a to → PE X b ti → PSet X t → PG X (.Subscript a b p) (gSub to ti t)) : SG X CT Wd [] (.Subscript a b p) (gxSubX ca cb) := (hk ha hb (set_X hu)).wk fun v σ H Q ⟨ρ, h, es, w, S, E, r, q⟩ => by
  refine ⟨ρ, h, es, S, E, ?_⟩
  have q' : PostG X.K CT Wd ρ h H [] σ ((ca es h).bind fun o h1 => (cb es h1).bind fun i h2 => (setX o i w h2).bind fun _ h3 => .ok es h3) Q := q
  cases g1 : ca es h with
  | bad => rw [g1] at q'; exact q'.elim
  | exc x h1 => rw [g1] at q'; exact q'
  | ok o h1 =>
    rw [g1] at q'
    intro ρ1 H1 vo N1 ro
    refine ⟨ρ1, h1, es, N1.sim, E.keep S N1.toFw, ?_⟩
    have q2 : PostG X.K CT Wd ρ h H [] σ ((cb es h1).bind fun i h2 => (setX o i w h2).bind fun _ h3 => .ok es h3) Q := q'
    cases g2 : cb es h1 with
    | bad => rw [g2] at q2; exact q2.elim
    | exc x h2 => rw [g2] at q2; exact fun ρ2 H2 od N2 z => q2 ρ2 H2 od (N1.trans S N2) z
    | ok i h2 =>
      rw [g2] at q2
      intro ρ2 H2 vi N2 ri
      have Nb := N1.trans S N2
      have ro2 := Rep.keep N1.sim N2.toFw _ _ ro
      have rw2 := Rep.keep S Nb.toFw _ _ r
      have E2 := E.keep S Nb.toFw
      have q3 : PostG X.K CT Wd ρ h H [] σ ((setX o i w h2).bind fun _ h3 => .ok es h3) Q := q2
      have fin : ∀ {h3 : Hx} {H3 : Hp}, setX o i w h2 = .ok () h3 → Nxt X.K CT ρ2 h2 H2 ρ2 h3 H3 → Q σ H3 := fun {h3 H3} e N3 => by
        rw [e] at q3
        exact q3 ρ2 _ σ (Nb.trans S N3) (E2.keep N2.sim N3.toFw) ⟨rfl, fun _ _ => rfl⟩
      cases ro2 with
      | @ref k hk =>
        cases gk : h2.get k with
        | none =>
          have e : setX (.ref k) i w h2 = .bad := by unfold setX; simp only [gk]
          rw [e] at q3
          exact q3.elim
        | some ob =>
          have other : (∀ xs, ob ≠ .lst xs) → setX (.ref k) i w h2 = (match dPut ob i w with
              | some ob' => .ok () (h2.put k ob')
              | none => .bad) := fun n => by
            unfold setX
            simp only [gk]
          cases ob with
          | lst xs =>
            have e : setX (.ref k) i w h2 = setItemW (.ref k) i w h2 := by unfold setX; simp only [gk]
            rw [e] at q3 fin
            cases ri with
            | int j =>
              cases gm : ixN xs.length j with
              | none =>
                have e2 : setItemW (.ref k) (.int j) w h2 = .bad := by unfold setItemW; simp only [gk, gm]
                rw [e2] at q3
                exact q3.elim
              | some m =>
                obtain ⟨vs, ev, rs⟩ := lst_get N2.sim gk
                refine .inl ⟨ρ2 k, vs, j, m, rfl, rfl, ev, by rw [← rs.length]; exact gm, fin (h3 := h2.put k (.lst (xs.set m w))) (by unfold setItemW; simp only [gk, gm]) ?_⟩
                exact Nxt.put N2.sim hk (by rw [ev]; exact True.intro) ⟨_, upd_same, Reps.keep N2.sim (Fw.put N2.sim hk (by rw [ev]; exact True.intro)) _ _ (rs.set m rw2)⟩
            | _ => exact (show False from q3).elim
          | dic lk kvs =>
            have e := other fun _ z => by cases z
            cases gd : dPut (.dic lk kvs) i w with
            | none => rw [gd] at e; rw [e] at q3; exact q3.elim
            | some ob' =>
              rw [gd] at e
              exact .inr (dPut_of hP hw N2.sim gk hk ri rw2 gd fun H3 N3 => fin e N3)
          | dicN lk kvs =>
            have e := other fun _ z => by cases z
            cases gd : dPut (.dicN lk kvs) i w with
            | none => rw [gd] at e; rw [e] at q3; exact q3.elim
            | some ob' =>
              rw [gd] at e
              exact .inr (dPut_of hP hw N2.sim gk hk ri rw2 gd fun H3 N3 => fin e N3)
          | ins c fs =>
            have e := other fun _ z => by cases z
            rw [e] at q3
            exact q3.elim
      | _ => exact (show False from q3).elim
end
end Sx

set_option linter.all false
set_option autoImplicit false
set_option maxRecDepth 100000
set_option maxHeartbeats 2000000
set_option exponentiation.threshold 2000
namespace Sx
open PySem L2
/-! ### the texts of data -/
def plainC (c : Nat) : Bool := Nat.ble 32 c && Nat.blt c 127 && !(Nat.beq c 39) && !(Nat.beq c 92)
theorem plain_repr : ∀ c : Fin 127, plainC c.1 = true → Builtin.Str.reprChar 39 c.1 = [c.1] := by decide +kernel
theorem plainC_lt {c : Nat} (h : plainC c = true) : c < 127 := by
  unfold plainC at h
  simp only [Bool.and_eq_true] at h
  have := Nat.le_of_ble_eq_true h.1.1.2
  omega
theorem repr_char {c : Nat} (h : plainC c = true) : Builtin.Str.reprChar 39 c = [c] := plain_repr ⟨c, plainC_lt h⟩ h
theorem fold_plain : ∀ (z : List Nat) (acc : Array Nat), z.all plainC = true → z.foldl (fun out c => out ++ (Builtin.Str.reprChar 39 c).toArray) acc = acc ++ z.toArray
  | [], acc, _ => by simp
  | c :: r, acc, h => by
    rw [List.all_cons, Bool.and_eq_true] at h
    rw [List.foldl_cons, repr_char h.1, fold_plain r _ h.2]
    simp
theorem repr_plain {z : List Nat} (h : z.all plainC = true) : reprText ⟨z.toArray⟩ = ⟨(39 :: (z ++ [39])).toArray⟩ := by
  have q : reprQuote ⟨z.toArray⟩ = 39 := by
    unfold reprQuote
    have n39 : (z.toArray.contains 39) = false := by
      cases e : z.toArray.contains 39 with
      | false => rfl
      | true =>
        have hm : (39 : Nat) ∈ z := by simpa using e
        have := List.all_eq_true.mp h 39 hm
        exact absurd this (by decide)
    show (if (z.toArray.contains 39 && !z.toArray.contains 34) = true then 34 else 39) = 39
    rw [n39]
    rfl
  unfold reprText
  rw [q]
  show (⟨(z.toArray.foldl (fun out c => out ++ (Builtin.Str.reprChar 39 c).toArray) #[39]).push 39⟩ : Str) = _
  rw [List.foldl_toArray, fold_plain z _ h]
  simp
theorem int_small : ∀ n : Fin 10, intStr (Int.ofNat n.1) = [48 + n.1] := by decide +kernel
def intS (i : Int) : List Nat := match i with
  | .ofNat n => if n < 10 then [48 + n] else intStr (.ofNat n)
  | i => intStr i
theorem intS_eq (i : Int) : intS i = intStr i := by
  cases i with
  | ofNat n =>
    show (if n < 10 then [48 + n] else intStr (.ofNat n)) = _
    by_cases c : n < 10
    · rw [if_pos c]
      exact (int_small ⟨n, c⟩).symm
    · rw [if_neg c]
  | negSucc n => rfl
def joinL : List (List Nat) → List Nat
  | [] => []
  | [x] => x
  | x :: y :: r => x ++ (44 :: 32 :: joinL (y :: r))
def optAll (f : W → Option (List Nat)) : List W → Option (List (List Nat))
  | [] => some []
  | x :: r => match f x with
    | none => none
    | some t => match optAll f r with
      | none => none
      | some ts => some (t :: ts)
/-- repr of a datum; none: not served -/
def shownO (h : Hx) : Nat → W → Option (List Nat)
  | 0, _ => none
  | f + 1, w => match w with
    | .int i => if i.natAbs < 2 ^ 1900 then some (intS i) else none
    | .str z => if z.all plainC = true then some (39 :: (z ++ [39])) else none
    | .tup xs => (optAll (shownO h f) xs).map fun ts => 40 :: (joinL ts ++ (if ts.length = 1 then [44, 41] else [41]))
    | .non => some [78, 111, 110, 101]
    | .bl true => some [84, 114, 117, 101]
    | .bl false => some [70, 97, 108, 115, 101]
    | .fls xs => (optAll (shownO h f) xs).map fun ts => 91 :: (joinL ts ++ [93])
    | .ref i => match h.get i with
      | some (.lst xs) => (optAll (shownO h f) xs).map fun ts => 91 :: (joinL ts ++ [93])
      | _ => none
    | _ => none
theorem str_ext {a b : Str} (h : a.cps.toList = b.cps.toList) : a = b := by
  obtain ⟨⟨x⟩⟩ := a
  obtain ⟨⟨y⟩⟩ := b
  have h' : x = y := h
  rw [h']
theorem cps_append (a b : Str) : (a ++ b).cps.toList = a.cps.toList ++ b.cps.toList := by
  show (a.cps ++ b.cps).toList = _
  simp
theorem join_cps : ∀ (ts : List Str), (Str.join ", " ts).cps.toList = joinL (ts.map fun t => t.cps.toList)
  | [] => rfl
  | [x] => rfl
  | x :: y :: r => by
    show ((x ++ (", " : Str)) ++ Str.join ", " (y :: r)).cps.toList = _
    rw [cps_append, cps_append, join_cps (y :: r)]
    show _ = x.cps.toList ++ (44 :: 32 :: joinL ((y :: r).map fun t => t.cps.toList))
    rw [List.append_assoc]
    rfl
theorem textFrom_cps : ∀ (ts : List Str) (k : Nat) (acc : Str), (textFrom (k + 1) acc ts).cps.toList = acc.cps.toList ++ (match ts with
    | [] => []
    | _ :: _ => 44 :: 32 :: joinL (ts.map fun t => t.cps.toList))
  | [], k, acc => by
    show acc.cps.toList = _
    simp
  | [x], k, acc => by
    show (acc ++ (if k + 1 > 0 then ", " else "" : String) ++ x).cps.toList = _
    rw [if_pos (Nat.succ_pos k), cps_append, cps_append, List.append_assoc]
    rfl
  | x :: y :: r, k, acc => by
    show (textFrom (k + 1 + 1) (acc ++ (if k + 1 > 0 then ", " else "" : String) ++ x) (y :: r)).cps.toList = _
    rw [textFrom_cps (y :: r) (k + 1), if_pos (Nat.succ_pos k), cps_append, cps_append, List.append_assoc, List.append_assoc]
    rfl
theorem list_cps (ts : List Str) : (listText ts).cps.toList = 91 :: (joinL (ts.map fun t => t.cps.toList) ++ [93]) := by
  unfold listText
  rw [cps_append]
  cases ts with
  | nil => rfl
  | cons x r =>
    show (textFrom (0 + 1) (("[" : Str) ++ (if 0 > 0 then ", " else "" : String) ++ x) r).cps.toList ++ _ = _
    rw [textFrom_cps r 0, if_neg (Nat.lt_irrefl 0), cps_append, cps_append]
    cases r with
    | nil =>
      show ([91] ++ [] ++ x.cps.toList) ++ [] ++ [93] = 91 :: (x.cps.toList ++ [93])
      simp
    | cons y s =>
      show (([91] ++ [] ++ x.cps.toList) ++ (44 :: 32 :: joinL ((y :: s).map fun t => t.cps.toList))) ++ [93] = 91 :: ((x.cps.toList ++ (44 :: 32 :: joinL ((y :: s).map fun t => t.cps.toList))) ++ [93])
      simp
theorem tuple_cps (ts : List Str) : (tupleText ts).cps.toList = 40 :: (joinL (ts.map fun t => t.cps.toList) ++ (if ts.length = 1 then [44, 41] else [41])) := by
  unfold tupleText
  rw [cps_append, cps_append, join_cps]
  by_cases c : ts.length = 1
  · rw [if_pos c, if_pos (by simp [c])]
    rfl
  · rw [if_neg c, if_neg (by simpa using c)]
    rfl
/-- what shownO tells is repr -/
theorem shown_all {h : Hx} {f : Nat} (ih : ∀ w t, shownO h f w = some t → okD h f w = true ∧ (toD h f w).shown.cps.toList = t ∧ (toD h f w).showable = true) : ∀ (xs : List W) (ts : List (List Nat)), optAll (shownO h f) xs = some ts →
    xs.all (okD h f) = true ∧ (PyData.shownAll (xs.map (toD h f))).map (fun t => t.cps.toList) = ts ∧ PyData.showableAll (xs.map (toD h f)) = true
  | [], ts, e => by
    cases e
    refine ⟨rfl, ?_, ?_⟩
    · simp [PyData.shownAll]
    · simp [PyData.showableAll]
  | x :: r, ts, e => by
    unfold optAll at e
    cases g : shownO h f x with
    | none => rw [g] at e; cases e
    | some t =>
      rw [g] at e
      have e2 : (match optAll (shownO h f) r with
        | none => none
        | some ts => some (t :: ts)) = some ts := e
      cases g2 : optAll (shownO h f) r with
      | none => rw [g2] at e2; cases e2
      | some us =>
        rw [g2] at e2
        cases e2
        obtain ⟨a1, a2, a3⟩ := ih x t g
        obtain ⟨b1, b2, b3⟩ := shown_all ih r us g2
        refine ⟨?_, ?_, ?_⟩
        · rw [List.all_cons, a1, b1]
          rfl
        · rw [List.map_cons]
          simp only [PyData.shownAll, List.map_cons]
          rw [a2, b2]
        · rw [List.map_cons]
          simp only [PyData.showableAll]
          rw [a3, b3]
          rfl
theorem shownO_of (h : Hx) : ∀ (f : Nat) (w : W) (t : List Nat), shownO h f w = some t → okD h f w = true ∧ (toD h f w).shown.cps.toList = t ∧ (toD h f w).showable = true
  | 0, _, _, e => by cases e
  | f + 1, .int i, t, e => by
    have e' : (if i.natAbs < 2 ^ 1900 then some (intS i) else none) = some t := e
    by_cases c : i.natAbs < 2 ^ 1900
    · rw [if_pos c] at e'
      cases e'
      refine ⟨rfl, ?_, ?_⟩
      · show (PyData.shown (.int i)).cps.toList = _
        rw [intS_eq]
        simp only [PyData.shown]
        rfl
      · show PyData.showable (.int i) = true
        simp only [PyData.showable]
        refine decide_eq_true ?_
        by_cases z : i.natAbs = 0
        · rw [z]
          decide
        · exact Nat.lt_trans ((Nat.log2_lt z).mpr c) (by decide)
    · rw [if_neg c] at e'
      cases e'
  | f + 1, .str z, t, e => by
    have e' : (if z.all plainC = true then some (39 :: (z ++ [39])) else none) = some t := e
    by_cases c : z.all plainC = true
    · rw [if_pos c] at e'
      cases e'
      refine ⟨rfl, ?_, by simp [toD, PyData.showable]⟩
      show (PyData.shown (.str ⟨z.toArray⟩)).cps.toList = _
      simp only [PyData.shown]
      rw [repr_plain c]
    · rw [if_neg c] at e'
      cases e'
  | f + 1, .tup xs, t, e => by
    obtain ⟨ts, e1, rfl⟩ := Option.map_eq_some_iff.mp (show (optAll (shownO h f) xs).map _ = some t from e)
    obtain ⟨a1, a2, a3⟩ := shown_all (fun w t => shownO_of h f w t) xs ts e1
    refine ⟨a1, ?_, ?_⟩
    · show (PyData.shown (.tuple (xs.map (toD h f)))).cps.toList = _
      simp only [PyData.shown]
      rw [tuple_cps, a2]
      have hl : (PyData.shownAll (xs.map (toD h f))).length = ts.length := by rw [← a2, List.length_map]
      rw [hl]
    · show PyData.showable (.tuple (xs.map (toD h f))) = true
      simp only [PyData.showable]
      exact a3
  | f + 1, .non, t, e => by cases e; exact ⟨rfl, by simp only [toD, PyData.shown]; rfl, by simp [toD, PyData.showable]⟩
  | f + 1, .bl true, t, e => by cases e; exact ⟨rfl, by simp only [toD, PyData.shown]; rfl, by simp [toD, PyData.showable]⟩
  | f + 1, .bl false, t, e => by cases e; exact ⟨rfl, by simp only [toD, PyData.shown]; rfl, by simp [toD, PyData.showable]⟩
  | f + 1, .fls xs, t, e => by
    obtain ⟨ts, e1, rfl⟩ := Option.map_eq_some_iff.mp (show (optAll (shownO h f) xs).map _ = some t from e)
    obtain ⟨a1, a2, a3⟩ := shown_all (fun w t => shownO_of h f w t) xs ts e1
    refine ⟨a1, ?_, ?_⟩
    · show (PyData.shown (.list (xs.map (toD h f)))).cps.toList = _
      simp only [PyData.shown]
      rw [list_cps, a2]
    · show PyData.showable (.list (xs.map (toD h f))) = true
      simp only [PyData.showable]
      exact a3
  | f + 1, .ref i, t, e => by
    have e' : (match h.get i with
      | some (.lst xs) => (optAll (shownO h f) xs).map fun ts => 91 :: (joinL ts ++ [93])
      | _ => none) = some t := e
    split at e'
    · rename_i xs g
      obtain ⟨ts, e1, rfl⟩ := Option.map_eq_some_iff.mp e'
      obtain ⟨a1, a2, a3⟩ := shown_all (fun w t => shownO_of h f w t) xs ts e1
      have hd : toD h (f + 1) (.ref i) = .list (xs.map (toD h f)) := by
        show (match h.get i with
          | some (.lst xs) => PyData.list (xs.map (toD h f))
          | _ => .none) = _
        rw [g]
      refine ⟨?_, ?_, ?_⟩
      · show (match h.get i with
          | some (.lst xs) => xs.all (okD h f)
          | _ => false) = true
        rw [g]
        exact a1
      · rw [hd]
        simp only [PyData.shown]
        rw [list_cps, a2]
      · rw [hd]
        simp only [PyData.showable]
        exact a3
    · cases e'
  | f + 1, .ty _, _, e => by cases e
  | f + 1, .cl _, _, e => by cases e
  | f + 1, .exc _ _ _, _, e => by cases e
/-- str(x) -/
def strO (h : Hx) (w : W) : Option (List Nat) := match w with
  | .str z => some z
  | w => shownO h dep w
end Sx

set_option linter.all false
set_option autoImplicit false
set_option maxRecDepth 100000
set_option maxHeartbeats 2000000
namespace Sx
open PySem L2
/-! ### a stable sort by texts -/
abbrev TW := List Nat × W
def ltL : List Nat → List Nat → Bool
  | [], [] => false
  | [], _ :: _ => true
  | _ :: _, [] => false
  | x :: r, y :: t => if Nat.blt x y = true then true else if Nat.beq x y = true then ltL r t else false
theorem ltL_eq : ∀ a b : List Nat, ltL a b = decide (a < b)
  | [], [] => by simp [ltL]
  | [], _ :: _ => by simp [ltL]
  | _ :: _, [] => by simp [ltL]
  | x :: r, y :: t => by
    unfold ltL
    rw [ltL_eq r t, Bool.eq_iff_iff]
    by_cases c1 : x < y
    · rw [if_pos (show Nat.blt x y = true from Nat.ble_eq_true_of_le c1)]
      simp [List.cons_lt_cons_iff, c1]
    · rw [if_neg (show ¬ Nat.blt x y = true from fun z => c1 (Nat.le_of_ble_eq_true z))]
      by_cases c2 : x = y
      · rw [if_pos (by simpa using c2)]
        simp [List.cons_lt_cons_iff, c1, c2]
      · rw [if_neg (by simpa using c2)]
        simp [List.cons_lt_cons_iff, c1, c2]
def leP (a b : TW) : Bool := !ltL b.1 a.1
def insP (x : TW) : List TW → List TW
  | [] => [x]
  | y :: r => if leP x y = true then x :: y :: r else y :: insP x r
def sortP : List TW → List TW
  | [] => []
  | x :: r => insP x (sortP r)
theorem leP_trans (a b c : TW) (h1 : leP a b = true) (h2 : leP b c = true) : leP a c = true := by
  unfold leP at *
  rw [ltL_eq] at *
  simp only [Bool.not_eq_true', decide_eq_false_iff_not] at *
  exact List.not_lt.mpr (List.le_trans (List.not_lt.mp h1) (List.not_lt.mp h2))
theorem leP_total (a b : TW) : (leP a b || leP b a) = true := by
  unfold leP
  rw [ltL_eq, ltL_eq]
  by_cases c : b.1 < a.1
  · have : ¬ a.1 < b.1 := fun z => List.lt_irrefl _ (List.lt_trans c z)
    simp [this]
  · simp [c]
theorem ins_mem {x z : TW} : ∀ {l : List TW}, z ∈ insP x l → z = x ∨ z ∈ l
  | [], h => .inl (List.mem_singleton.mp h)
  | y :: r, h => by
    unfold insP at h
    by_cases c : leP x y = true
    · rw [if_pos c] at h
      rcases List.mem_cons.mp h with h | h
      · exact .inl h
      · exact .inr h
    · rw [if_neg c] at h
      rcases List.mem_cons.mp h with h | h
      · exact .inr (by rw [h]; exact List.mem_cons_self)
      · rcases ins_mem h with h | h
        · exact .inl h
        · exact .inr (List.mem_cons_of_mem _ h)
theorem ins_sorted {x : TW} : ∀ {l : List TW}, l.Pairwise (fun a b => leP a b = true) → (insP x l).Pairwise (fun a b => leP a b = true)
  | [], _ => by unfold insP; exact List.pairwise_singleton _ _
  | y :: r, h => by
    rw [List.pairwise_cons] at h
    unfold insP
    by_cases c : leP x y = true
    · rw [if_pos c, List.pairwise_cons]
      refine ⟨fun z hz => ?_, List.pairwise_cons.mpr h⟩
      rcases List.mem_cons.mp hz with e | e
      · rw [e]
        exact c
      · exact leP_trans _ _ _ c (h.1 z e)
    · rw [if_neg c, List.pairwise_cons]
      refine ⟨fun z hz => ?_, ins_sorted h.2⟩
      rcases ins_mem hz with e | e
      · rw [e]
        have := leP_total x y
        rw [Bool.not_eq_true] at c
        rw [c, Bool.false_or] at this
        exact this
      · exact h.1 z e
theorem ins_filter {x z : TW} : ∀ {l : List TW}, l.Pairwise (fun a b => leP a b = true) → (insP x l).filter (PySem.W.Srt.alike leP z) = (x :: l).filter (PySem.W.Srt.alike leP z)
  | [], _ => rfl
  | y :: r, h => by
    rw [List.pairwise_cons] at h
    unfold insP
    by_cases c : leP x y = true
    · rw [if_pos c]
    · rw [if_neg c, List.filter_cons, ins_filter h.2]
      rw [List.filter_cons (x := x) (xs := y :: r), List.filter_cons (x := y) (xs := r), List.filter_cons (x := x) (xs := r)]
      by_cases hx : PySem.W.Srt.alike leP z x = true
      · by_cases hy : PySem.W.Srt.alike leP z y = true
        · exfalso
          unfold PySem.W.Srt.alike at hx hy
          rw [Bool.and_eq_true] at hx hy
          exact c (leP_trans _ _ _ hx.2 hy.1)
        · simp [hx, hy]
      · simp [hx]
theorem sort_sorted : ∀ l : List TW, (sortP l).Pairwise (fun a b => leP a b = true)
  | [] => List.Pairwise.nil
  | x :: r => ins_sorted (sort_sorted r)
theorem sort_filter (z : TW) : ∀ l : List TW, (sortP l).filter (PySem.W.Srt.alike leP z) = l.filter (PySem.W.Srt.alike leP z)
  | [] => rfl
  | x :: r => by
    show (insP x (sortP r)).filter _ = _
    rw [ins_filter (sort_sorted r), List.filter_cons, List.filter_cons, sort_filter z r]
theorem sortP_eq (l : List TW) : sortP l = l.mergeSort leP := PySem.W.Srt.the leP leP_trans leP_total (sort_sorted l) fun z => sort_filter z l
def keyP (p : TW) : PyData := .str ⟨p.1.toArray⟩
theorem keyP_le : PySem.W.dataLe false keyP = leP := by
  funext a b
  unfold PySem.W.dataLe PySem.W.sortLe leP keyP
  show (!(PyProof.Rows.lexLt PyProof.Rows.itemOrd (PySem.W.keyToks (.str ⟨b.1.toArray⟩)) (PySem.W.keyToks (.str ⟨a.1.toArray⟩)))) = _
  simp only [PySem.W.keyToks]
  show (!((PyProof.Rows.itemLt (.inr b.1) (.inr a.1)) || (!(PyProof.Rows.itemLt (.inr a.1) (.inr b.1)) && false))) = _
  rw [Bool.and_false, Bool.or_false, ltL_eq]
  rfl
end Sx

set_option linter.all false
set_option autoImplicit false
set_option maxRecDepth 100000
set_option maxHeartbeats 2000000
namespace Sx
open PySem L2
/-! ### a lambda is made -/
/-- the heap behind it: as it was, or with a code object more in the maker's table -/
def LamH (P : Addr) (q : Str) (H H1 : Hp) : Prop := H1 = H ∨ ∃ ps more c, H P = some (.tbl ps) ∧ H c = none ∧ TriplesOk ps.toList ∧ (∀ (p' : Pos) (cv : Value), codeAmong p' (ps ++ more).toList = some cv → codeAmong p' ps.toList = some cv ∨ cv = .ref c) ∧ TriplesOk (ps ++ more).toList ∧
  H1 = upd (upd H P (.tbl (ps ++ more))) c (LamX.CodeO c q)
theorem nxt_lam {K : PySem.W.Frag} {CT : CTx} {ρ : Nat → Addr} {h : Hx} {H H1 : Hp} {P : Addr} {q : Str} (S : Sim K CT ρ h H) (hu : ∀ p ∈ CT.tabs, p.1 = P → p.2 = q) (l : LamH P q H H1) : Nxt K CT ρ h H ρ h H1 := by
  rcases l with rfl | ⟨ps, more, c, hP, hc, t1, am, t2, rfl⟩
  · exact Nxt.refl S
  · have nP : ∀ i, i < h.n → ρ i ≠ P := fun i hi e => by
      obtain ⟨u, eu, w⟩ := S.some hi
      rw [e, hP] at eu
      exact w.tb _ (Option.some.inj eu).symm
    have nC : ∀ i, i < h.n → ρ i ≠ c := fun i hi e => by
      obtain ⟨u, eu, w⟩ := S.some hi
      rw [e, hc] at eu
      cases eu
    have at_ : ∀ b, b ≠ P → b ≠ c → upd (upd H P (.tbl (ps ++ more))) c (LamX.CodeO c q) b = H b := fun b h1 h2 => by rw [upd_ne h2, upd_ne h1]
    have keep : ∀ b o, H b = some o → (∀ ps, o ≠ .tbl ps) → upd (upd H P (.tbl (ps ++ more))) c (LamX.CodeO c q) b = some o := fun b o e t => by
      rw [at_ b (fun z => by rw [z, hP] at e; exact t _ (Option.some.inj e).symm) (ne_of_none e hc)]
      exact e
    have F : Fw ρ h.n H ρ h.n (upd (upd H P (.tbl (ps ++ more))) c (LamX.CodeO c q)) := by
      refine ⟨Nat.le_refl _, fun _ _ => rfl, fun a o e t _ => keep a o e t, fun i a b => absurd b (Nat.not_lt.mpr a), fun a qs e => ?_, fun a od u e => keep a _ e (fun _ z => nomatch z)⟩
      by_cases z : a = P
      · rw [z, hP] at e
        cases e
        exact ⟨more, by rw [z, upd_ne (ne_of_none hP hc), upd_same]⟩
      · exact ⟨#[], by rw [at_ a z (ne_of_none e hc), e]; simp⟩
    refine ⟨F, S.inj, S.dom, S.lt, fun i o e => (S.ob i o e).keep S F (at_ _ (nP i (S.lt i o e)) (nC i (S.lt i o e))), fun p hp => ?_⟩
    obtain ⟨qs, a1, a2, a3⟩ := S.tab p hp
    have co : ∀ c0, H c0 = some (LamX.CodeO c0 p.2) → upd (upd H P (.tbl (ps ++ more))) c (LamX.CodeO c q) c0 = some (LamX.CodeO c0 p.2) := fun c0 e => keep c0 _ e LamX.codeO_ne
    by_cases z : p.1 = P
    · rw [z, hP] at a1
      cases a1
      refine ⟨ps ++ more, by rw [z, upd_ne (ne_of_none hP hc), upd_same], t2, fun p' cv e => ?_⟩
      rcases am p' cv e with e | e
      · obtain ⟨c0, e1, e2⟩ := a3 p' cv e
        exact ⟨c0, e1, co c0 e2⟩
      · exact ⟨c, e, by rw [hu p hp z]; exact upd_same⟩
    · refine ⟨qs, by rw [at_ _ z (ne_of_none a1 hc)]; exact a1, a2, fun p' cv e => ?_⟩
      obtain ⟨c0, e1, e2⟩ := a3 p' cv e
      exact ⟨c0, e1, co c0 e2⟩
section
variable {X : Cx} {pins : List (Addr × Obj)} {σ : L2.St} {H : Hp} {s : Shared}
theorem lam_new {T : List (Addr × Str)} {c P : Addr} {params : Arguments} {body : Expr} {scope : Scope} {pos : Pos} {E : Value → Shared → Prop} {Q : Value → Shared → Prop} (I : Inv X pins σ H s) (TB : LamX.TabB X.base X.mg c P) (hcode : X.env.code = .ref c)
    (hm : (P, X.env.qual ++ "<lambda>") ∈ T) (hT : LamX.Tabs T H) (hdef : defaultsOf params X.env = ([], [])) (hfree : ∀ y ∈ scope.names, y.2 = .free → ∃ c, X.env.cells.lookup y.1 = some c)
    (h : ∀ (f c' : Addr) (pm ctv : Value) (H1 : Hp) (s' : Shared), Inv X pins σ H1 s' → LamH P (X.env.qual ++ "<lambda>") H H1 → s'.heap.get? f = some (PySem.W.kla_obj "<lambda>" (X.env.qual ++ "<lambda>") params body scope (cloFrom X.env.cells scope.names []) pm c' ctv) → H1 f = none →
      s.heap.objs.size ≤ f → H1 c' = some (LamX.CodeO c' (X.env.qual ++ "<lambda>")) → Q (.ref f) s') : wpAny (model X.prog X.w) X.A (eval (.Lambda params body scope pos) X.env) Q E s := by
  obtain ⟨ps, hP, ht, ha⟩ := hT _ hm
  refine PySem.W.kla_eval hdef ?_
  have bP : s.heap.BuiltinsAt X.mg P := TB.bm.keeps I.bk
  have hP' : s.heap.get? P = some { cls := .none, data := .fields ps } := I.hok P _ hP
  cases hc : codeAmong pos ps.toList with
  | none =>
    refine PySem.W.kla_makeFunction (mg := X.mg) (c := c) (P := P) (ps := ps) (closure_ok hfree) I.ok.glob (I.mod.glob.keeps I.bk) hcode (TB.code.keeps I.bk) hP' ht hc TB.gP bP fun c' ctv h' tk hx hge hlt hrec htb => ?_
    obtain ⟨c2, oc, vs, t, e2, hoc, hd, hv⟩ := hrec
    cases e2
    have hsz : s.heap.objs.size ≤ h'.objs.size := Nat.le_trans hge (Nat.le_of_lt hlt)
    have nC : H c' = none := I.hok.fresh hge
    have n1 : h'.objs.size ≠ c' := Nat.ne_of_gt hlt
    have n2 : h'.objs.size ≠ P := Nat.ne_of_gt (Nat.lt_of_lt_of_le (Heap.lt_size hP') hsz)
    have eL : (ps ++ #[rawInt pos.line, rawInt pos.col, .ref c']).toList = ps.toList ++ [rawInt pos.line, rawInt pos.col, .ref c'] := by simp
    have J := LamX.inv_table (t' := tk) (more := #[rawInt pos.line, rawInt pos.col, .ref c']) (h' := h'.push (PySem.W.kla_obj "<lambda>" (X.env.qual ++ "<lambda>") params body scope (cloFrom X.env.cells scope.names []) ((X.mg "__name__").getD .none) c' ctv)) (q := X.env.qual ++ "<lambda>") I hP
      (fun b o hb e => Heap.get?_push_of_some _ (hx b o hb e)) (Heap.get?_push_of_some _ htb) hge ⟨oc, vs, t, Heap.get?_push_of_some _ hoc, hd, hv⟩
    refine h h'.objs.size c' ((X.mg "__name__").getD .none) ctv _ _ J (.inr ⟨ps, _, c', hP, nC, ht, fun p' cv e => ?_, ?_, rfl⟩) (Heap.get?_push_size _ rfl) ?_ hsz upd_same
    · rw [eL] at e
      exact LamX.among_app _ ht e
    · rw [eL]
      exact PySem.TriplesOk_snoc _ _ _ _ ht
    · rw [upd_ne n1, upd_ne n2]
      exact I.hok.fresh hsz
  | some cv =>
    obtain ⟨c', e, hco⟩ := ha pos cv hc
    subst e
    refine PySem.W.kla_makeFunctionHit (mg := X.mg) (c := c) (P := P) (ps := ps) (closure_ok hfree) I.ok.glob (I.mod.glob.keeps I.bk) hcode (TB.code.keeps I.bk) hP' ht hc bP fun ctv h' tk hx hsz => ?_
    have J : Inv X pins σ H { s with heap := h'.push (PySem.W.kla_obj "<lambda>" (X.env.qual ++ "<lambda>") params body scope (cloFrom X.env.cells scope.names []) ((X.mg "__name__").getD .none) c' ctv), toks := tk } := I.kept fun b o e => Heap.get?_push_of_some _ (hx b o e)
    exact h h'.objs.size c' ((X.mg "__name__").getD .none) ctv H _ J (.inl rfl) (Heap.get?_push_size _ rfl) (I.hok.fresh hsz) hsz hco
end
end Sx

set_option linter.all false
set_option autoImplicit false
set_option maxRecDepth 100000
set_option maxHeartbeats 2000000
namespace Sx
open PySem L2
/-! ### the items of a list, the keys of a dict -/
def collW (h : Hx) : W → Option (List W)
  | .fls xs => some xs
  | .ref i => match h.get i with
    | some (.lst xs) => some xs
    | some (.dic _ kvs) => some (kvs.map (·.1))
    | some (.dicN _ kvs) => some (kvs.map (·.1))
    | _ => none
  | _ => none
section
variable {X : Cx} {CT : CTx} {ρ : Nat → Addr} {h : Hx} {H : Hp} {σ : St} {pins : List (Addr × Obj)} {s : Shared}
theorem repK_keys {K : PySem.W.Frag} {n : Nat} : ∀ {ws : List (W × W)} {vs : List (Key × V)}, RepK K CT ρ n H ws vs → Reps K CT ρ n H (ws.map (·.1)) (vs.map fun p => kV p.1)
  | _, _, .nil => .nil
  | _, _, .cons c _ t => .cons c (repK_keys t)
theorem repN_keys {K : PySem.W.Frag} {n : Nat} : ∀ {ws : List (W × W)} {xs : List (NestedKey × Addr × Value)}, RepN K CT ρ n H ws xs → Reps K CT ρ n H (ws.map (·.1)) (xs.map fun x => V.ref x.2.1)
  | _, _, .nil => .nil
  | _, _, .cons _ _ c _ _ t => .cons c (repN_keys t)
theorem kv_keys {κ : Type} : ∀ {kvs : List (κ × V)} {vs : List (κ × Value)}, KV kvs vs → vs.map (·.1) = kvs.map (·.1)
  | _, _, .nil => rfl
  | _, _, .cons h t => by rw [List.map_cons, List.map_cons, h.1, kv_keys t]
theorem kv_keysV : ∀ {kvs : List (Key × V)} {vs : List (Key × Value)}, KV kvs vs → (kvs.map fun p => kV p.1) = vs.map fun p => kV p.1
  | _, _, .nil => rfl
  | _, _, .cons h t => by rw [List.map_cons, List.map_cons, h.1, kv_keysV t]
theorem vals_refs {xs : List (NestedKey × Addr × Value)} : Vals (xs.map fun x => V.ref x.2.1) (xs.map fun x => Value.ref x.2.1) := by
  induction xs with
  | nil => exact .nil
  | cons x r ih => exact .cons rfl ih
theorem raw_keys {xs : List (NestedKey × Addr × Value)} {es : Array DictEntry} {acc : Array Value} (he : es.toList = xs.map (entryOfKey (nestedKind X.prog X.w))) (hl : acc.size = es.size) (it : ∀ (j : Nat) (v : Value), acc[j]? = some v → ∃ en : DictEntry, es[j]? = some en ∧ v = en.key) :
    acc.toList = xs.map fun x => Value.ref x.2.1 := by
  have l1 : es.size = xs.length := by
    have := congrArg List.length he
    simpa using this
  apply List.ext_getElem?
  intro j
  rw [List.getElem?_map]
  cases hj : acc.toList[j]? with
  | none =>
    have h1 := List.getElem?_eq_none_iff.mp hj
    rw [Array.length_toList] at h1
    rw [List.getElem?_eq_none (by omega)]
    rfl
  | some v =>
    obtain ⟨en, hen, hv⟩ := it j v (by rw [← Array.getElem?_toList]; exact hj)
    have qe := entry_at he j
    rw [hen] at qe
    cases hb : xs[j]? with
    | none => rw [hb] at qe; cases qe
    | some b =>
      rw [hb] at qe
      cases (Option.some.inj qe)
      rw [hv]
      rfl
/-- the walk through them, at any depth of built-ins -/
theorem collect_W {A : Around} {E : Value → Shared → Prop} (hP : X.prog = CT.P) (hw : X.w = CT.w) (hA : A.handled = none) (I : Inv X pins σ H s) (S : Sim X.K CT ρ h H) {x : W} {v : V} {ws : List W} (r : Rep X.K CT ρ h.n H x v) (e : collW h x = some ws) (hl : ws.length ≤ lim) :
    ∃ a us, v = .ref a ∧ Reps X.K CT ρ h.n H ws us ∧ ∀ R : List Value → Shared → Prop, ((∀ (h' : Heap) (tk : Nat) (acc : List Value), (∀ b o, s.heap.get? b = some o → h'.get? b = some o) → Vals us acc → R acc { s with heap := h', toks := tk }) → wpAny (model X.prog X.w) A (collect (.ref a)) R E s) := by
  have lst : ∀ {a : Addr} {us : List V}, SqL X.K H a us → Reps X.K CT ρ h.n H ws us → ∀ R : List Value → Shared → Prop, (∀ (h' : Heap) (tk : Nat) (acc : List Value), (∀ b o, s.heap.get? b = some o → h'.get? b = some o) → Vals us acc → R acc { s with heap := h', toks := tk }) → wpAny (model X.prog X.w) A (collect (.ref a)) R E s := fun {a us} q rs R k => by
    obtain ⟨its, rv, p, hz⟩ := I.list q
    refine PyProof.Rows.collect_list p.isList (k _ s.toks its (fun b o eb => ?_) rv) (by rw [← rv.length, ← rs.length]; exact lim_line hl)
    have hb : b < s.heap.objs.size := Heap.lt_size eb
    rw [Heap.get?_update_other _ _ (Nat.ne_of_gt hb)]
    exact Heap.get?_push_of_some _ eb
  cases r with
  | @fls a xs us q rs =>
    cases e
    exact ⟨a, us, rfl, rs, lst q.sq rs⟩
  | @ref i hi =>
    have e1 : (match h.get i with
      | some (.lst xs) => some xs
      | some (.dic _ kvs) => some (kvs.map (·.1))
      | some (.dicN _ kvs) => some (kvs.map (·.1))
      | _ => none) = some ws := e
    split at e1
    · rename_i xs g
      cases e1
      obtain ⟨us, q, rs⟩ := lst_get S g
      exact ⟨_, us, rfl, rs, lst (.of q) rs⟩
    · rename_i lk kvs g
      cases e1
      obtain ⟨od, us, q, rs⟩ := S.ob i _ g
      have hk := repK_keys rs
      refine ⟨_, _, rfl, hk, fun R k => ?_⟩
      obtain ⟨z, lo, vs, rel, dd⟩ := dk_rd I.hok (rd_lkd q)
      obtain ⟨ep, hat⟩ := dd.dictAt
      have hlv : vs.length ≤ sizeLine := by
        rw [← Paired.length rel, ← repK_len rs]
        rw [List.length_map] at hl
        exact lim_line hl
      refine PySem.W.kdu_collect (A := A) (PySem.W.kdl_dict (knd := mixKind X.prog X.w) (kvs := vs) (ep := ep) lo) hA hat hlv fun h' tk acc hkp hacc => k h' tk acc.toList hkp ?_
      have e3 : (us.map fun p => kV p.1) = vs.map fun p => kV p.1 := kv_keysV rel
      rw [e3]
      exact keys_at (by rw [Array.length_toList, hacc.1]) fun j v hv => hacc.2 j v (by rw [← Array.getElem?_toList]; exact hv)
    · rename_i lk kvs g
      cases e1
      obtain ⟨od, xs, q, rs, nd, hm⟩ := S.ob i _ g
      rw [← hP, ← hw] at q
      refine ⟨_, _, rfl, repN_keys rs, fun R k => ?_⟩
      obtain ⟨⟨o, es, ep, h1, h2, h3, h4⟩, _, _⟩ := (rd_lkd q).ok I.hok
      have hlv : es.size ≤ sizeLine := by
        have := congrArg List.length h4
        rw [List.length_map, ← repN_len rs, Array.length_toList] at this
        rw [List.length_map] at hl
        rw [this]
        exact lim_line hl
      refine PySem.W.kdu_collect (A := A) (kdl_raw hm h2 h3) hA h1 hlv fun h' tk acc hkp hacc => k h' tk acc.toList hkp ?_
      rw [raw_keys (X := X) h4 hacc.1 hacc.2]
      exact vals_refs
    · cases e1
  | _ => cases e
/-! ### the key: lambda v: str(v) -/
theorem str_ok {A : Around} {w : W} {v : V} {u : Value} {t : List Nat} {h' : Heap} {tk : Nat} {Q : Value → Shared → Prop} {E : Value → Shared → Prop} (hG : A.guards = some []) (hu : A.units + 30 < cLine) (I : Inv X pins σ H s) (S : Sim X.K CT ρ h H) (r : Rep X.K CT ρ h.n H w v) (ru : RelV v u) (e : strO h w = some t) (hl : t.length ≤ lim)
    (hk : ∀ b o, s.heap.get? b = some o → h'.get? b = some o) (hQ : ∀ h2 tk2 z, (∀ b o, h'.get? b = some o → h2.get? b = some o) → Q (.str ⟨t.toArray⟩ z) { s with heap := h2, toks := tk2 }) : wpAny (model X.prog X.w) A (call (.type "str") [u]) Q E { s with heap := h', toks := tk } := by
  have sz : (⟨t.toArray⟩ : Str).length ≤ sizeLine := by
    show t.toArray.size ≤ sizeLine
    rw [List.size_toArray]
    exact lim_line hl
  have main : ∀ a : Addr, v = .ref a → shownO h dep w = some t → wpAny (model X.prog X.w) A (call (.type "str") [u]) Q E { s with heap := h', toks := tk } := fun a ea g => by
    subst ea
    cases (show u = Value.ref a from ru)
    obtain ⟨k1, k2, k3⟩ := shownO_of h dep w t g
    obtain ⟨d1, d2, d3⟩ := okD_data S dep w _ k1 r
    obtain ⟨as, rd⟩ := Dp.reads I _ _ _ d1 (show RelV (.ref a) (Value.ref a) from rfl)
    have es : (toD h dep w).shown = ⟨t.toArray⟩ := str_ext (by rw [k2])
    have hd : (toD h dep w).hasDict = true → sysModules ∉ as := PyData.noDict_hsm (PyData.hasDict_of_canLay _ d2)
    refine str_of_reads (s := { s with heap := h', toks := tk }) rd k3 hd hG (by have : dep = 20 := rfl; omega) hk (fun h2 z tk2 hk2 => ?_) (by rw [es]; exact sz)
    rw [es]
    exact hQ h2 tk2 z hk2
  cases r with
  | @str z hz =>
    obtain ⟨q, rfl⟩ := (show ∃ q, u = Value.str ⟨z.toArray⟩ q from ru)
    cases e
    exact PySem.P.str_of_str (hQ h' tk q fun _ _ e => e)
  | int i =>
    obtain ⟨q, rfl⟩ := (show ∃ q, u = Value.int i q from ru)
    have e1 : (if i.natAbs < 2 ^ 1900 then some (intS i) else none) = some t := e
    by_cases c : i.natAbs < 2 ^ 1900
    · rw [if_pos c] at e1
      cases e1
      have et : (⟨(intS i).toArray⟩ : Str) = toString i := str_ext (by rw [intS_eq]; rfl)
      refine PySem.P.str_of_int ?_ ?_
      · by_cases z : i.natAbs = 0
        · rw [z]
          decide
        · exact Nat.lt_trans ((Nat.log2_lt z).mpr c) (by decide)
      · rw [← et]
        exact hQ h' _ _ fun _ _ e => e
    · rw [if_neg c] at e1
      cases e1
  | tup _ _ => exact main _ rfl e
  | fls _ _ => exact main _ rfl e
  | ref _ => exact main _ rfl e
  | non =>
    cases (show u = Value.none from ru)
    cases e
    exact PySem.P.str_of_none (hQ h' _ _ fun _ _ e => e)
  | bl b =>
    cases (show u = Value.bool b from ru)
    cases b with
    | true => cases e; exact PySem.P.str_of_bool (hQ h' _ _ fun _ _ e => e)
    | false => cases e; exact PySem.P.str_of_bool (hQ h' _ _ fun _ _ e => e)
  | ty _ => cases e
  | cl _ => cases e
  | exc _ _ _ => cases e
end
end Sx

set_option linter.all false
set_option autoImplicit false
set_option maxRecDepth 100000
set_option maxHeartbeats 2000000
namespace Sx
open PySem L2
/-! ### sorted(e, key=lambda x: str(x)) -/
abbrev strBody (x : Str) (p q r : Pos) : Expr := .Call (.Name "str" p) [.Name x q] [] r
abbrev strScope (x : Str) : Scope := { kind := .function, names := [(x, .local), (Str.ofString "str", .globalImplicit)], isGenerator := false, isCoroutine := false, more := [] }
abbrev strArgs (x : Str) (p : Pos) : Arguments := { posonlyargs := [], args := [{ arg := x, annotation := none, pos := p }], vararg := none, kwonlyargs := [], kw_defaults := [], kwarg := none, defaults := [] }
/-- how its call binds -/
abbrev StrB (x : Str) (p1 p2 p3 p4 : Pos) : Prop := ∀ (s : Shared) (q : Str) (pm : Value) (c' : Addr) (ctv u : Value), BindsTo s (PySem.W.kla_fn "<lambda>" q (strArgs x p1) (strBody x p2 p3 p4) (strScope x) [] pm (.ref c') ctv) ⟨[u], []⟩ [(x, u)]
theorem strB_word {p1 p2 p3 p4 : Pos} : StrB "word" p1 p2 p3 p4 := fun _ _ _ _ _ _ => .of_eq rfl
section
variable {X : Cx} {CT : CTx} {ρ : Nat → Addr} {h : Hx} {H : Hp} {σ : L2.St} {pins : List (Addr × Obj)} {s : Shared}
/-- one turn of the key -/
theorem turn_str {A : Around} {k : Nat} {x q : Str} {p1 p2 p3 p4 : Pos} {f c' : Addr} {pm ctv : Value} {w : W} {v : V} {u : Value} {t : List Nat} {h' : Heap} {tk : Nat} {E : Value → Shared → Prop} (hG : A.guards = some []) (hr : Room (k + 1) A) (hb : StrB x p1 p2 p3 p4) (hms : X.mg "str" = none) (hx : (x == (Str.ofString "str")) = false) (hxd : (x == ("__debug__" : Str)) = false) (I : Inv X pins σ H s) (S : Sim X.K CT ρ h H)
    (hf : s.heap.get? f = some (PySem.W.kla_obj "<lambda>" q (strArgs x p1) (strBody x p2 p3 p4) (strScope x) [] pm c' ctv)) (hc : H c' = some (LamX.CodeO c' q)) (hk : ∀ b o, s.heap.get? b = some o → h'.get? b = some o) (r : Rep X.K CT ρ h.n H w v) (ru : RelV v u) (e : strO h w = some t) (hl : t.length ≤ lim) :
    wpAny (model X.prog X.w) A (call (.ref f) [u]) (PySem.W.KeyPure (.str ⟨t.toArray⟩) { s with heap := h', toks := tk }) E { s with heap := h', toks := tk } := by
  obtain ⟨⟨oc, cvs, ct, g1, g2, g3⟩, _⟩ := I.hok c' _ hc
  have lim0 : h'.NoLimit := (I.mod.nolimit.keeps I.bk).keeps hk
  obtain ⟨mb, b1, b2⟩ := I.mod.blt
  refine wpAny_call (PySem.W.kla_callFunE (s := { s with heap := h', toks := tk }) hr.depth (hk _ _ hf) rfl rfl rfl rfl ⟨c', oc, cvs, ct, rfl, hk _ _ g1, g2, g3⟩ ?_)
  refine hb _ _ _ _ _ _ _ _ _ _ ?_
  have hkL : (strScope x).names.lookup x = some .local := by
    show ((x, NameKind.local) :: _).lookup x = _
    rw [List.lookup_cons]
    simp
  have hkS : (strScope x).names.lookup (Str.ofString "str") = some .globalImplicit := by
    show ((x, NameKind.local) :: (Str.ofString "str", NameKind.globalImplicit) :: []).lookup (Str.ofString "str") = _
    have hx' : (Str.ofString "str" == x) = false := by rw [Bool.beq_comm]; exact hx
    rw [List.lookup_cons, hx', List.lookup_cons]
    simp
  refine wpAny_newFunctionEnv (fun y hy => ?_) (fun y hy => ?_) fun h2 hns hsb => ?_
  · simp only [List.mem_cons, List.not_mem_nil, or_false] at hy
    rcases hy with rfl | rfl <;> exact fun z => nomatch z
  · rw [List.mem_singleton] at hy
    subst hy
    exact hkL
  · have k2 : ∀ b o, h'.get? b = some o → h2.get? b = some o := fun b o e => (hsb.2 b (Nat.ne_of_lt (Heap.lt_size e))).trans (Heap.get?_push_of_some _ e)
    have k3 : ∀ b o, s.heap.get? b = some o → h2.get? b = some o := fun b o e => k2 b o (hk b o e)
    refine ⟨lim0.keeps k2, PySem.W.kla_codeExpr ?_⟩
    have hux : (([(x, u)] : List (Str × Value)).reverse.lookup x) = some u := by
      show ((x, u) :: []).lookup x = _
      rw [List.lookup_cons]
      simp
    refine wpAny_Call_Name_kw (Calls.Name_function_global rfl hkS (Calls.loadGlobal_builtin (mg := X.mg) ((I.mod.glob.keeps I.bk).keeps k3) hms (b1.keeps fun b o e => k3 b o (I.bk b o e)) ((b2 "str" (by decide)).trans (by rfl)) ?_) (by decide))
    refine PyProof.Rows.callWith_type1 ?_ rfl rfl
    refine Calls.spliced_cons (wpAny_Name (wpAny_loadName_local rfl hkL hns hux ?_) hxd)
    refine Calls.spliced_nil ?_
    refine str_ok (s := s) (h' := h2) (A := A.deeper _) hG (Nat.lt_of_le_of_lt (Nat.add_le_add_left (by decide : 30 ≤ 64) _) (hr.deeper _).units) I S r ru e hl k3 fun h3 tk3 z hk3 => ?_
    exact ⟨h3, tk3, rfl, fun b o e => hk3 b o (k2 b o e), .str _ _⟩
end
/-- the texts of them, with them -/
def pairsO (h : Hx) : List W → Option (List TW)
  | [] => some []
  | w :: r => match strO h w with
    | none => none
    | some t => if t.length ≤ lim then (match pairsO h r with
      | none => none
      | some ps => some ((t, w) :: ps)) else none
def sortKW (w : W) (h : Hx) : R W := match collW h w with
  | some ws => match pairsO h ws with
    | some ps => if ws.length ≤ lim then .ok (.ref h.n) (h.new (.lst ((sortP ps).map (·.2)))) else .bad
    | none => .bad
  | none => .bad
section
variable {X : Cx} {CT : CTx} {ρ : Nat → Addr} {h : Hx} {H : Hp} {σ : L2.St} {pins : List (Addr × Obj)} {s : Shared}
/-- a value with its text -/
def KeyR (X : Cx) (CT : CTx) (ρ : Nat → Addr) (h : Hx) (H : Hp) (u : Value) (p : TW) : Prop := ∃ v, RelV v u ∧ Rep X.K CT ρ h.n H p.2 v ∧ strO h p.2 = some p.1 ∧ p.1.length ≤ lim
theorem pairs_each : ∀ {ws : List W} {vs : List V} {us : List Value} {ps : List TW}, pairsO h ws = some ps → Reps X.K CT ρ h.n H ws vs → Vals vs us → PySem.W.EachIs (KeyR X CT ρ h H) us ps
  | [], _, _, _, e, .nil, .nil => by cases e; exact .nil
  | w :: r, _, _, ps, e, .cons r1 t, .cons q1 q2 => by
    unfold pairsO at e
    cases g : strO h w with
    | none => rw [g] at e; cases e
    | some z =>
      rw [g] at e
      have e1 : (if z.length ≤ lim then (match pairsO h r with
        | none => none
        | some ps => some ((z, w) :: ps)) else none) = some ps := e
      by_cases c : z.length ≤ lim
      · rw [if_pos c] at e1
        cases g2 : pairsO h r with
        | none => rw [g2] at e1; cases e1
        | some qs =>
          rw [g2] at e1
          cases e1
          exact .cons ⟨_, q1, r1, g, c⟩ (pairs_each g2 t q2)
      · rw [if_neg c] at e1
        cases e1
theorem each_reps : ∀ {us : List Value} {ps : List TW}, PySem.W.EachIs (KeyR X CT ρ h H) us ps → ∃ vs, Reps X.K CT ρ h.n H (ps.map (·.2)) vs ∧ Vals vs us
  | _, _, .nil => ⟨[], .nil, .nil⟩
  | _, _, .cons ⟨v, a, b, _, _⟩ t => let ⟨vs, c, d⟩ := each_reps t; ⟨v :: vs, .cons b c, .cons a d⟩
/-- the call -/
theorem sortK_run {Q : VK} {Wd : WX} {k : Nat} {x q : Str} {p1 p2 p3 p4 : Pos} {f c' : Addr} {pm ctv : Value} {w : W} {v : V} {u : Value} (hP : X.prog = CT.P) (hw : X.w = CT.w) (hG : X.A.guards = some []) (hr : Room (k + 3) X.A) (hb : StrB x p1 p2 p3 p4) (hms : X.mg "str" = none) (hx : (x == (Str.ofString "str")) = false) (hxd : (x == ("__debug__" : Str)) = false) (I : Inv X pins σ H s) (S : Sim X.K CT ρ h H)
    (hf : s.heap.get? f = some (PySem.W.kla_obj "<lambda>" q (strArgs x p1) (strBody x p2 p3 p4) (strScope x) [] pm c' ctv)) (hc : H c' = some (LamX.CodeO c' q)) (r : Rep X.K CT ρ h.n H w v) (ru : RelV v u) (p : Post X.K CT (RW X.K CT) Wd ρ h H σ (sortKW w h) Q) :
    wpAny (model X.prog X.w) X.A (call (.builtin "sorted") [u] [(Str.ofString "key", .ref f)]) (EP X pins σ Q) X.xe s := by
  unfold sortKW at p
  cases g1 : collW h w with
  | none => rw [g1] at p; exact p.elim
  | some ws =>
    rw [g1] at p
    have p1' : Post X.K CT (RW X.K CT) Wd ρ h H σ (match pairsO h ws with
      | some ps => if ws.length ≤ lim then .ok (.ref h.n) (h.new (.lst ((sortP ps).map (·.2)))) else .bad
      | none => .bad) Q := p
    cases g2 : pairsO h ws with
    | none => rw [g2] at p1'; exact p1'.elim
    | some ps =>
      rw [g2] at p1'
      obtain ⟨cl, p2'⟩ := post_if (show Post X.K CT (RW X.K CT) Wd ρ h H σ (if ws.length ≤ lim then .ok (.ref h.n) (h.new (.lst ((sortP ps).map (·.2)))) else .bad) Q from p1')
      refine PyProof.Rows.call_function_entry_kw PyProof.Rows.kind_sorted PyProof.Rows.plain_sorted PyProof.Rows.entry_sorted (PyProof.Rows.ksk_s1 _ _) ?_
      unfold Builtin.«sorted»
      refine wpAny_bind (m := checkCount "sorted" 1 1 _) (wpAny_pure ?_)
      obtain ⟨a, vs, rfl, rvs, run⟩ := collect_W (A := X.A.in1) (E := X.xe) hP hw hr.in1.hd I S r g1 cl
      obtain rfl : u = .ref a := ru
      refine wpAny_bind (run _ fun h' tk acc hk hv => ?_)
      have hL : acc.length ≤ sizeLine := by
        rw [← hv.length, ← rvs.length]
        exact lim_line cl
      refine wpAny_bind (wpAny_newList ?_ hL)
      have each := pairs_each g2 rvs hv
      have at_ : (h'.push (PyProof.Rows.seqObj "list" acc.toArray 0)).get? h'.objs.size = some (PyProof.Rows.seqObj "list" acc.toArray 0) := Heap.get?_push_size _ rfl
      have up : ∀ {g : Heap}, PySem.W.KeepsBut h'.objs.size (h'.push (PyProof.Rows.seqObj "list" acc.toArray 0)) g → ∀ b o, s.heap.get? b = some o → g.get? b = some o := fun {g} kp b o e =>
        kp b o (Nat.ne_of_lt (Heap.lt_size (hk b o e))) (Heap.get?_push_of_some _ (hk b o e))
      have I1 : Inv X pins σ H { s with heap := h', toks := tk } := I.kept hk
      have up1 : ∀ {g : Heap}, PySem.W.KeepsBut h'.objs.size (h'.push (PyProof.Rows.seqObj "list" acc.toArray 0)) g → ∀ b o, h'.get? b = some o → g.get? b = some o := fun {g} kp b o e =>
        kp b o (Nat.ne_of_lt (Heap.lt_size e)) (Heap.get?_push_of_some _ e)
      refine wpAny_bind (wpAny_holding (PyProof.Rows.wpAny_call_entry_kw PyProof.Rows.slot_list_sort ⟨_, at_, rfl⟩ PyProof.Rows.entry_list_sort ?_ (PyProof.Rows.ksk_l1 _ _)))
      show wpAny (model X.prog X.w) X.A.in1.in1 (Builtin.«list.sort» ⟨[.ref h'.objs.size], [(Str.ofString "key", .ref f)]⟩) _ _ { s with heap := h'.push (PyProof.Rows.seqObj "list" acc.toArray 0), toks := tk }
      rw [PyProof.Rows.ksk_t1]
      refine PySem.W.keyH_tree (kz := ps.map keyP) (s := { s with heap := h'.push (PyProof.Rows.seqObj "list" acc.toArray 0), toks := tk }) at_ (by rw [List.length_map]; exact each.length.symm) hL (fun d hd d' hd' => ?_) (.inr fun d hd => ?_) (fun d hd => ?_)
        (PySem.W.keyH_turns (s := { s with heap := h'.push (PyProof.Rows.seqObj "list" acc.toArray 0), toks := tk }) each fun vv pp hR _ g tk2 kp => ?_) fun g tk2 out c kp hD ko => ⟨_, rfl, wpAny_pure ⟨_, rfl, ?_⟩⟩
      · obtain ⟨b, _, rfl⟩ := List.mem_map.mp hd
        obtain ⟨b', _, rfl⟩ := List.mem_map.mp hd'
        rfl
      · obtain ⟨b, _, rfl⟩ := List.mem_map.mp hd
        exact ⟨(fun z => nomatch z), (fun _ z => nomatch z)⟩
      · obtain ⟨b, _, rfl⟩ := List.mem_map.mp hd
        exact Nat.lt_of_le_of_lt (Nat.add_le_add_left (show PyData.depth (.str ⟨b.1.toArray⟩) ≤ 64 by simp [PyData.depth]) _) hr.in1.in1.units
      · obtain ⟨v2, a1, a2, a3, a4⟩ := hR
        exact turn_str (s := s) (A := X.A.in1.in1) (k := k) hG hr.in1.in1 hb hms hx hxd I S hf hc (up kp) a2 a1 a3 a4
      · have ke := PySem.W.keyedOut_each keyP ko each
        rw [keyP_le, ← sortP_eq] at ke
        obtain ⟨vs2, rvs2, hv2⟩ := each_reps ke
        have hl2 : vs2.length ≤ sizeLine := by
          rw [hv2.length, ke.length, sortP_eq, List.length_mergeSort, ← each.length]
          exact hL
        have fr : H h'.objs.size = none := I1.hok.fresh (Nat.le_refl _)
        have J : Inv X pins σ (upd H h'.objs.size (.lst vs2)) { s with heap := g, toks := tk2 } := I1.laid (up1 kp) (Nat.le_refl _) (show ObjOk X.prog X.w _ _ _ (.lst vs2) from ⟨hl2, out, c, hv2, hD⟩)
        have N : Nxt X.K CT ρ h H (ρnew ρ h.n h'.objs.size) (h.new (.lst ((sortP ps).map (·.2)))) (upd H h'.objs.size (.lst vs2)) := Nxt.fresh S fr ⟨vs2, upd_same, Reps.keep S (Fw.fresh ρ h.n fr) _ _ rvs2⟩
        have z : ρnew ρ h.n h'.objs.size h.n = h'.objs.size := if_pos rfl
        have rr : Rep X.K CT (ρnew ρ h.n h'.objs.size) (h.new (.lst ((sortP ps).map (·.2)))).n (upd H h'.objs.size (.lst vs2)) (.ref h.n) (.ref (ρnew ρ h.n h'.objs.size h.n)) := .ref (Nat.lt_succ_self _)
        rw [z] at rr
        exact ⟨.ref h'.objs.size, _, J, rfl, p2' _ _ _ N rr⟩
end
section
variable {X : Cx} {CT : CTx} {Wd : WX} {e : Expr} {ce : Ex} {p p1 p2 p3 p4 p5 p6 pos : Pos} {x : Str} {c P : Addr} {k : Nat}
theorem se_sortK (hP : X.prog = CT.P) (hw : X.w = CT.w) (hG : X.A.guards = some []) (hr : Room (k + 3) X.A) (TB : LamX.TabB X.base X.mg c P) (hcode : X.env.code = .ref c) (hm : (P, X.env.qual ++ "<lambda>") ∈ CT.tabs) (hu : ∀ q ∈ CT.tabs, q.1 = P → q.2 = X.env.qual ++ "<lambda>")
    (hg : Gl X "sorted") (hmg : X.mg "sorted" = none) (hms : X.mg "str" = none) (hb : StrB x p1 p2 p3 p4) (he : SE X CT Wd e ce) (hx : (x == (Str.ofString "str")) = false := by decide) (hxd : (x == ("__debug__" : Str)) = false := by decide)
    (hst : starEach [e] X.env = (false, eval e X.env) :: starEach [] X.env := by rfl) :
    SE X CT Wd (.Call (.Name "sorted" p) [e] [⟨some "key", .Lambda (strArgs x p1) (strBody x p2 p3 p4) (strScope x) p5, p6⟩] pos) (xUn sortKW ce) :=
  ⟨fun pins s σ H Q I ⟨ρ, h, es, S, E, pp⟩ => by
    refine wpAny_Call_Name_kw (ld_blt I hg hmg (by rfl) ?_ (by decide) (by decide))
    have hh : backTo pos (starEach [e] X.env) = (false, eval e X.env) :: backTo pos (starEach [] X.env) := by rw [hst]; rfl
    refine PyProof.Rows.callWith_kw ?_ hh (by rw [hst]; rfl) rfl rfl
    rw [hst]
    show wpAny _ _ (spliced ((false, eval e X.env) :: backTo pos (starEach [] X.env))) _ _ s
    refine Calls.spliced_cons (thn (he.run pins s σ H (fun v H1 => ∃ ρ1 h1 w, Nxt X.K CT ρ h H ρ1 h1 H1 ∧ Rep X.K CT ρ1 h1.n H1 w v ∧ Post X.K CT (RW X.K CT) Wd ρ1 h1 H1 σ (sortKW w h1) Q) I ⟨ρ, h, es, S, E, Post.bind (RR := RW X.K CT) S pp fun w h1 ρ1 H1 v N1 r1 p1 => ⟨ρ1, h1, w, N1, r1, p1⟩⟩) fun u s1 ⟨v, H1, I1, rv, ρ1, h1, w, N1, r1, p1⟩ => ?_)
    refine Calls.spliced_nil ?_
    show wpAny _ _ (evalAll [(do let v ← eval (.Lambda (strArgs x _) (strBody x p2 p3 p4) (strScope x) p5) X.env; standAt pos; pure v)]) _ _ s1
    refine wpAny_evalAll_cons (wpAny_bind (lam_new (T := CT.tabs) I1 TB hcode hm N1.sim.tab rfl (fun y hy e => ?_) fun f c' pm ctv H2 s2 I2 l hf _ _ hc => ?_))
    · simp only [List.mem_cons, List.not_mem_nil, or_false] at hy
      rcases hy with rfl | rfl <;> cases e
    · have N2 := nxt_lam N1.sim hu l
      refine wpAny_bind (wpAny_standAt (wpAny_pure (wpAny_evalAll_nil ?_)))
      exact sortK_run hP hw hG hr hb hms hx hxd I2 N2.sim hf hc (Rep.keep N1.sim N2.toFw _ _ r1) rv (Post.step N1.sim N2 p1)⟩
end
end Sx

set_option linter.all false
set_option autoImplicit false
set_option maxRecDepth 100000
set_option maxHeartbeats 2000000
namespace Sx
open PySem L2
/-! ### locks: a dict that is walked is not written -/
/-- what is locked, and how it stands then -/
def lockO (h : Hx) (i : Nat) : Option (O × O) := match h.get i with
  | some (.dic false kvs) => some (.dic false kvs, .dic true kvs)
  | some (.dicN false kvs) => some (.dicN false kvs, .dicN true kvs)
  | _ => none
/-- the place that an expression tells, if it tells one -/
def spotOf (c : Ex) (es : Env) (h : Hx) : Option Nat := match c es h with
  | .ok (.ref i) _ => some i
  | _ => none
def unlE {α : Type} (i : Nat) (o : O) : R α → R α
  | .ok w h => .ok w (h.put i o)
  | .exc x h => .exc x h
  | .bad => .bad
def unlS (i : Nat) (o : O) : RS → RS
  | .fl f h => .fl f (h.put i o)
  | .exc x es h => .exc x es h
  | .bad => .bad
def xLock (c : Ex) (e : Ex) : Ex := fun es h => match spotOf c es h with
  | some i => match lockO h i with
    | some (o, l) => unlE i o (e es (h.put i l))
    | none => e es h
  | none => e es h
def cLock (c : Ex) (s : Sx) : Sx := fun es h => match spotOf c es h with
  | some i => match lockO h i with
    | some (o, l) => unlS i o (s es (h.put i l))
    | none => s es h
  | none => s es h
section
variable {K : PySem.W.Frag} {CT : CTx} {ρ ρ' : Nat → Addr} {h h' : Hx} {H H' : Hp}
/-- one of ours is changed: what values lean on is kept -/
theorem Kp.own {n : Nat} {a : Addr} {u v : HO} (e : H a = some u) (w : OwnO a u) : Kp K ρ n H ρ n (L2.upd H a v) where
  t := fun b vs r => by
    rcases r with (r | ⟨o, r⟩) | r
    · refine .inl (.inl ?_)
      rw [upd_ne (fun q => by rw [q, e] at r; exact w.t _ (Option.some.inj r))]
      exact r
    · refine .inl (.inr ⟨o, ?_⟩)
      rw [upd_ne (fun q => by rw [q, e] at r; exact w.ft _ _ (Option.some.inj r))]
      exact r
    · exact .inr r
  f := fun b vs r => by
    rcases r with ⟨o, r⟩ | r
    · refine .inl ⟨o, ?_⟩
      rw [upd_ne (fun q => by rw [q, e] at r; exact w.fl _ _ (Option.some.inj r))]
      exact r
    · exact .inr r
  ext := fun _ _ => rfl
  le := Nat.le_refl _
  x := fun b C od r => by
    rw [upd_ne (fun q => by rw [q] at r; rw [e] at r; exact w.x _ _ (Option.some.inj (by rw [r, ← q])))]
    exact r
  xd := fun b φ r => by
    rw [upd_ne (fun q => by rw [q, e] at r; exact w.xd _ (Option.some.inj r))]
    exact r
theorem repK_frz {n : Nat} {a : Addr} {u v : HO} (e : H a = some u) (w : OwnO a u) {ws : List (W × W)} {vs : List (Key × V)} (r : RepK K CT ρ n H ws vs) : RepK K CT ρ n (L2.upd H a v) ws vs := RepK.kp (Kp.own e w) r
/-- locked -/
theorem lock_on (S : Sim K CT ρ h H) {i : Nat} {o l : O} (e : lockO h i = some (o, l)) : ∃ u, i < h.n ∧ H (ρ i) = some u ∧ Mut (some u) ∧ NoFz (some u) ∧ ObR K CT ρ h.n H (ρ i) o ∧ (∀ od, Nxt K CT ρ h H ρ (h.put i l) (upd H (ρ i) (.frz od u))) ∧
    (∀ (ρ' : Nat → Addr) (n' : Nat) (H' : Hp), Fw ρ h.n H ρ' n' H' → H' (ρ i) = some u → ObR K CT ρ' n' H' (ρ i) o) := by
  have e1 : (match h.get i with
    | some (.dic false kvs) => some (O.dic false kvs, O.dic true kvs)
    | some (.dicN false kvs) => some (O.dicN false kvs, O.dicN true kvs)
    | _ => none) = some (o, l) := e
  split at e1
  · rename_i kvs g
    cases e1
    have hi := S.lt i _ g
    obtain ⟨od0, vs, q, rs⟩ := S.ob i _ g
    have q' : H (ρ i) = some (.dK vs) := q
    obtain ⟨u', eu, w⟩ := S.some hi
    rw [q'] at eu
    cases eu
    refine ⟨_, hi, q', True.intro, True.intro, ⟨od0, vs, q, rs⟩, fun od => Nxt.put S hi (by rw [q']; exact True.intro) ⟨od, vs, upd_same, RepK.kp (Kp.own q' w) rs⟩, fun ρ' n' H' F z => ⟨od0, vs, z, RepK.keep S F rs⟩⟩
  · rename_i kvs g
    cases e1
    have hi := S.lt i _ g
    obtain ⟨od0, xs, q, rs, nd, hm⟩ := S.ob i _ g
    have q' : H (ρ i) = some (dNo CT.P CT.w (ρ i) xs) := q
    obtain ⟨u', eu, w⟩ := S.some hi
    rw [q'] at eu
    cases eu
    refine ⟨_, hi, q', True.intro, True.intro, ⟨od0, xs, q, rs, nd, hm⟩, fun od => Nxt.put S hi (by rw [q']; exact True.intro) ⟨od, xs, upd_same, RepN.kp (Kp.own q' w) rs, nd, hm⟩, fun ρ' n' H' F z => ⟨od0, xs, z, RepN.kp (Kp.of S F) rs, nd, hm⟩⟩
  · cases e1
/-- and opened again -/
theorem lock_off (S : Sim K CT ρ h H) {i : Nat} {o l : O} {od : Obj} {u : HO} (hi : i < h.n) (eu : H (ρ i) = some u) (nf : NoFz (some u)) (N1 : Nxt K CT ρ h H ρ (h.put i l) (upd H (ρ i) (.frz od u)))
    (back : ∀ (ρ' : Nat → Addr) (n' : Nat) (H' : Hp), Fw ρ h.n H ρ' n' H' → H' (ρ i) = some u → ObR K CT ρ' n' H' (ρ i) o) (N2 : Nxt K CT ρ (h.put i l) (upd H (ρ i) (.frz od u)) ρ' h' H') :
    H' (ρ i) = some (.frz od u) ∧ Nxt K CT ρ h H ρ' (h'.put i o) (upd H' (ρ i) u) ∧ Kp K ρ' h'.n H' ρ' h'.n (upd H' (ρ i) u) := by
  have ef : H' (ρ i) = some (.frz od u) := N2.frz _ _ _ upd_same
  have N := N1.trans S N2
  have ei : ρ' i = ρ i := N.ext i hi
  have hi' : i < h'.n := Nat.lt_of_lt_of_le hi N.le
  obtain ⟨u', eu', w⟩ := N.sim.some hi'
  rw [ei] at eu' w
  rw [ef] at eu'
  cases eu'
  have kp : Kp K ρ' h'.n H' ρ' h'.n (upd H' (ρ i) u) := Kp.own ef w
  have F : Fw ρ h.n H ρ' h'.n (upd H' (ρ i) u) := by
    refine ⟨N.le, N.ext, fun a o e t z => ?_, N.new, fun a ps e => ?_, fun a od' u' e => ?_⟩
    · rw [upd_ne (fun q => z i hi q.symm)]
      exact N.frm a o e t z
    · obtain ⟨m, em⟩ := N.tbl a ps e
      refine ⟨m, ?_⟩
      rw [upd_ne (fun q => by rw [q, ef] at em; cases em)]
      exact em
    · rw [upd_ne (fun q => by rw [q, eu] at e; rw [Option.some.inj e] at nf; exact nf)]
      exact N.frz a od' u' e
  refine ⟨ef, ⟨F, N.sim.inj, fun j hj => ?_, fun j o' e => ?_, fun j o' e => ?_, fun p hp => ?_⟩, kp⟩
  · rw [Hx.get_put]
    by_cases c : j = i
    · exact ⟨o, if_pos c⟩
    · rw [if_neg c]
      exact N.sim.dom j hj
  · rw [Hx.get_put] at e
    by_cases c : j = i
    · rw [c]
      exact hi'
    · rw [if_neg c] at e
      exact N.sim.lt j o' e
  · rw [Hx.get_put] at e
    by_cases c : j = i
    · rw [if_pos c] at e
      cases e
      rw [c, ei]
      exact back _ _ _ F upd_same
    · rw [if_neg c] at e
      refine (N.sim.ob j o' e).kp kp ?_
      rw [upd_ne (fun q => c (N.sim.inj j i (N.sim.lt j o' e) hi' (q.trans ei.symm)))]
  · obtain ⟨ps, a1, a2, a3⟩ := N.sim.tab p hp
    refine ⟨ps, ?_, a2, fun pos cv hc => ?_⟩
    · rw [upd_ne (fun q => by rw [q, ef] at a1; cases a1)]
      exact a1
    · obtain ⟨c, b1, b2⟩ := a3 pos cv hc
      refine ⟨c, b1, ?_⟩
      rw [upd_ne (fun q => by rw [q, ef] at b2; unfold LamX.CodeO at b2; cases b2)]
      exact b2
end
section
variable {X : Cx} {CT : CTx} {Wd : WX}
theorem se_lock {e : Expr} {c ce : Ex} (he : SE X CT Wd e ce) : SE X CT Wd e (xLock c ce) := ⟨fun pins s σ H Q I ⟨ρ, h, es, S, E, p⟩ => by
  unfold xLock at p
  cases g1 : spotOf c es h with
  | none => rw [g1] at p; exact he.run pins s σ H Q I ⟨ρ, h, es, S, E, p⟩
  | some i =>
    rw [g1] at p
    have p1 : Post X.K CT (RW X.K CT) Wd ρ h H σ (match lockO h i with
      | some (o, l) => unlE i o (ce es (h.put i l))
      | none => ce es h) Q := p
    cases g2 : lockO h i with
    | none => rw [g2] at p1; exact he.run pins s σ H Q I ⟨ρ, h, es, S, E, p1⟩
    | some ol =>
      obtain ⟨o, l⟩ := ol
      rw [g2] at p1
      have p2 : Post X.K CT (RW X.K CT) Wd ρ h H σ (unlE i o (ce es (h.put i l))) Q := p1
      obtain ⟨u, hi, eu, mu, nf, ob, lk, back⟩ := lock_on S g2
      refine (pe_lock he).run pins s σ H Q I ⟨ρ i, u, eu, mu, fun od => ⟨ρ, h.put i l, es, (lk od).sim, E.keep S (lk od).toFw, ?_⟩⟩
      cases g3 : ce es (h.put i l) with
      | bad => rw [g3] at p2; exact p2.elim
      | exc x h1 => rw [g3] at p2; exact fun ρ' H' od' N r => p2 ρ' H' od' ((lk od).trans S N) r
      | ok w h1 =>
        rw [g3] at p2
        intro ρ' H' v N r
        obtain ⟨ef, N3, kp⟩ := lock_off S hi eu nf (lk od) back N
        exact ⟨ef, p2 ρ' _ v N3 (Rep.kp kp _ _ r)⟩⟩
theorem s_lock {st : Stmt} {c : Ex} {cs : Sx} (hs : SS X CT Wd st cs) : SS X CT Wd st (cLock c cs) := ⟨fun pins s σ H D I ⟨ρ, h, es, S, E, p⟩ => by
  unfold cLock at p
  cases g1 : spotOf c es h with
  | none => rw [g1] at p; exact hs.run pins s σ H D I ⟨ρ, h, es, S, E, p⟩
  | some i =>
    rw [g1] at p
    have p1 : PostS X.K CT Wd ρ h H (match lockO h i with
      | some (o, l) => unlS i o (cs es (h.put i l))
      | none => cs es h) D := p
    cases g2 : lockO h i with
    | none => rw [g2] at p1; exact hs.run pins s σ H D I ⟨ρ, h, es, S, E, p1⟩
    | some ol =>
      obtain ⟨o, l⟩ := ol
      rw [g2] at p1
      have p2 : PostS X.K CT Wd ρ h H (unlS i o (cs es (h.put i l))) D := p1
      obtain ⟨u, hi, eu, mu, nf, ob, lk, back⟩ := lock_on S g2
      refine (ps_lock hs).run pins s σ H D I ⟨ρ i, u, eu, mu, fun od => ⟨ρ, h.put i l, es, (lk od).sim, E.keep S (lk od).toFw, ?_⟩⟩
      have renv : ∀ {ρ' : Nat → Addr} {n' : Nat} {H' H2 : Hp} {es' : Env} {σ' : L2.St}, Kp X.K ρ' n' H' ρ' n' H2 → REnv X.K CT ρ' n' H' es' σ' → REnv X.K CT ρ' n' H2 es' σ' := fun kp E => ⟨E.len, fun j w e => let ⟨v, ev, r⟩ := E.at_ j w e; ⟨v, ev, Rep.kp kp _ _ r⟩⟩
      cases g3 : cs es (h.put i l) with
      | bad => rw [g3] at p2; exact p2.elim
      | exc x es' h1 => rw [g3] at p2; exact fun ρ' H' σ' od' N r1 r2 => p2 ρ' H' σ' od' ((lk od).trans S N) r1 r2
      | fl f h1 =>
        rw [g3] at p2
        cases f with
        | nx es' => exact fun ρ' H' σ' N r => let ⟨ef, N3, kp⟩ := lock_off S hi eu nf (lk od) back N; ⟨ef, p2 ρ' _ σ' N3 (renv kp r)⟩
        | rt w => exact fun ρ' H' v N r => let ⟨ef, N3, kp⟩ := lock_off S hi eu nf (lk od) back N; ⟨ef, p2 ρ' _ v N3 (Rep.kp kp _ _ r)⟩
        | bk es' => exact fun ρ' H' σ' N r => let ⟨ef, N3, kp⟩ := lock_off S hi eu nf (lk od) back N; ⟨ef, p2 ρ' _ σ' N3 (renv kp r)⟩
        | ct es' => exact fun ρ' H' σ' N r => let ⟨ef, N3, kp⟩ := lock_off S hi eu nf (lk od) back N; ⟨ef, p2 ρ' _ σ' N3 (renv kp r)⟩⟩
end
end Sx

set_option linter.all false
set_option autoImplicit false
set_option maxRecDepth 100000
set_option maxHeartbeats 2000000
namespace Sx
open PySem L2
/-! ### the keys of a locked dict whose keys are tuples -/
section
variable {X : Cx} {pins : List (Addr × Obj)} {σ : L2.St} {H : Hp} {s : Shared} {d : Addr} {o : Obj}
abbrev NKs := List (NestedKey × Addr × Value)
theorem frzN {xs : NKs} (I : Inv X pins σ H s) (g : H d = some (.frz o (dNo X.prog X.w d xs))) : s.heap.get? d = some o ∧ o.ExactDict ∧ ∃ (tb : Array DictEntry) (ep : Nat), o.data = .dict tb ep ∧ tb.size = xs.length ∧
    ∀ (i : Nat) (x : NestedKey × Addr × Value), xs[i]? = some x → ∃ en : DictEntry, tb[i]? = some en ∧ en.key = .ref x.2.1 ∧ en.val = x.2.2 := by
  obtain ⟨hd, ⟨o', tb, ep, g1, g2, g3, g4⟩, _⟩ := I.hok d _ g
  rw [hd] at g1
  cases g1
  refine ⟨hd, g2, tb, ep, g3, size_of_entries g4, fun i x hx => ?_⟩
  have z := entry_at g4 i
  rw [hx] at z
  exact ⟨_, z, rfl, rfl⟩
end
/-- its walk -/
def ItN (P : Program) (w : World) (d : Addr) (o : Obj) (xs : NKs) : It where
  go := fun i H => H d = some (.frz o (dNo P w d xs)) ∧ i < xs.length
  yld := fun i H x H' => H' = H ∧ ∃ y, xs[i]? = some y ∧ x = .ref y.2.1
  stop := fun i H => H d = some (.frz o (dNo P w d xs)) ∧ xs.length ≤ i
theorem turnN {P : Program} {w : World} {K : PySem.W.Frag} {tg : Expr} {d : Addr} {o : Obj} {tb : Array DictEntry} {ep : Nat} {xs : NKs} (q : Addr) (hod : o.data = .dict tb ep) : Turn P w K tg (ItN P w d o xs) [q] q (fun i h => h.IsKeyIter q d i xs.length ep) := by
  refine ⟨List.mem_singleton.mpr rfl, fun i h st b hb => ?_, fun i h h' st k => st.at fun oi e => k q (List.mem_singleton.mpr rfl) oi e, ?_, ?_, fun A i s Q E st h => wpAny_pyIter_keyiter st h⟩
  · rw [List.mem_singleton.mp hb]
    obtain ⟨oi, e, c, dd⟩ := st
    exact ⟨oi, e, fun v z => by rw [dd] at z; cases z⟩
  · intro X hP hw hK hc i pins s σ H E I hf st hg
    obtain rfl := hP
    obtain rfl := hw
    obtain rfl := hK
    obtain ⟨f0, f1, _, f3, f4, f5⟩ := hf q (List.mem_singleton.mpr rfl)
    obtain ⟨hgd, hx, tb', ep', hdt, hsz, ent⟩ := frzN I hg.1
    obtain ⟨rfl, rfl⟩ := dict_ep hod hdt
    obtain ⟨x, hxi⟩ : ∃ x, xs[i]? = some x := ⟨_, List.getElem?_eq_getElem hg.2⟩
    obtain ⟨en, hen, hkey, _⟩ := ent i x hxi
    refine next_key_item st hgd hdt hsz hen fun h2 st2 sb => ?_
    obtain ⟨oi, e, c, dd⟩ := id st2
    exact ⟨en.key, rfl, go_of (s := { s with heap := h2 }) e c dd (by decide) ⟨.ref x.2.1, H, I.turned (t' := s.toks) (fun b ob hb e => (sb.2 b hb).trans e) f0 f1 f3 f4 f5, hkey, ⟨rfl, x, hxi, rfl⟩, st2, fun b hb => (hf b hb).1⟩⟩
  · intro X hP hw hK hc i pins s σ H E I hf st hg
    obtain rfl := hP
    obtain rfl := hw
    obtain rfl := hK
    obtain ⟨f0, f1, _, f3, f4, f5⟩ := hf q (List.mem_singleton.mpr rfl)
    obtain ⟨hgd, hx, tb', ep', hdt, hsz, ent⟩ := frzN I hg.1
    obtain ⟨rfl, rfl⟩ := dict_ep hod hdt
    exact next_key_end (I.ok.hd hc) st hgd hdt hsz hg.2 fun h2 eb => ⟨rfl, I.turned (t' := s.toks) (fun b ob hb e => eb b ob hb e) f0 f1 f3 f4 f5⟩
def iKeysN (P : Program) (w : World) (td : TE) : TI := fun σ H R => td σ H fun x H1 => ∃ d o xs, x = .ref d ∧ (d == sysModules) = false ∧ H1 d = some (.frz o (dNo P w d xs)) ∧ R (ItN P w d o xs) H1
theorem pi_keysN {X : Cx} {tg e : Expr} {td : TE} (he : PE X e td) : PI X tg e (iKeysN X.prog X.w td) := ⟨fun pins s σ H R I h => thn (he.run pins s σ H _ I h) fun u s1 hq => by
  obtain ⟨x, H1, I1, rx, d, o, xs, rfl, hs, hd, q⟩ := hq
  obtain rfl : u = Value.ref d := rx
  obtain ⟨hgd, hx, tb, ep, hdt, hsz, ent⟩ := frzN I1 hd
  refine iter_keys hs hgd hx hdt (pi_one (tk := s1.toks) I1 _ (turnN _ hdt) ⟨_, Heap.get?_push_size _ rfl, rfl, ?_⟩ q)
  rw [hsz] <;> rfl⟩
/-! ### cursors over what can be walked -/
def curX (h : Hx) : W → Option Cur
  | .ref i => match h.get i with
    | some (.lst _) => some (.live i 0)
    | some (.dic true kvs) => some (.seq (kvs.map (·.1)))
    | some (.dicN true kvs) => some (.seq (kvs.map (·.1)))
    | _ => none
  | w => curOf h w
def xItX (c : Ex) : Ix := fun es h => (c es h).bind fun w h1 => match curX h1 w with
  | some k => .ok k h1
  | none => .bad
section
variable {K : PySem.W.Frag} {CT : CTx} {ρ : Nat → Addr} {h : Hx} {H : Hp}
/-- a walk through what stays locked -/
theorem its_fz {J : It} {ws : List W} {d : Addr} {o : Obj} {u : HO} (g : H d = some (.frz o u)) (st : ∀ j H', H' d = some (.frz o u) → ws.length ≤ j → J.stop j H')
    (go : ∀ (j : Nat) (w : W), ws[j]? = some w → ∀ ρ' h' H', Nxt K CT ρ h H ρ' h' H' → H' d = some (.frz o u) → J.go j H' ∧ ∀ x H'', J.yld j H' x H'' → Nxt K CT ρ' h' H' ρ' h' H'' ∧ Rep K CT ρ' h'.n H'' w x) : ItS K CT ρ h H J (.seq ws) := by
  refine ⟨fun j c => c = .seq (ws.drop j), rfl, fun j c e ρ' h' H' N => ?_⟩
  subst e
  have g' := N.frz _ _ _ g
  cases z : ws.drop j with
  | nil => exact st j H' g' (List.drop_eq_nil_iff.mp z)
  | cons w r =>
    have hj : ws[j]? = some w := by
      have : (ws.drop j)[0]? = some w := by rw [z]; rfl
      rwa [List.getElem?_drop, Nat.add_zero] at this
    obtain ⟨k1, k2⟩ := go j w hj ρ' h' H' N g'
    refine ⟨?_, k1, k2⟩
    show Cur.seq r = .seq (ws.drop (j + 1))
    rw [← List.drop_drop, z]
    rfl
theorem repK_at : ∀ {ws : List (W × W)} {vs : List (Key × V)} {n : Nat} {j : Nat} {w : W}, RepK K CT ρ n H ws vs → (ws.map (·.1))[j]? = some w → ∃ k v, vs[j]? = some (k, v) ∧ Rep K CT ρ n H w (kV k)
  | _, _, _, _, _, .nil, e => by cases e
  | _, _, _, 0, _, .cons c _ _, e => by cases e; exact ⟨_, _, rfl, c⟩
  | _, _, _, j + 1, w, .cons _ _ t, e => repK_at (j := j) t e
theorem repK_val : ∀ {ws : List (W × W)} {vs : List (Key × V)} {n : Nat} {j : Nat} {w : W}, RepK K CT ρ n H ws vs → (ws.map (·.2))[j]? = some w → ∃ k v, vs[j]? = some (k, v) ∧ Rep K CT ρ n H w v
  | _, _, _, _, _, .nil, e => by cases e
  | _, _, _, 0, _, .cons _ c _, e => by cases e; exact ⟨_, _, rfl, c⟩
  | _, _, _, j + 1, w, .cons _ _ t, e => repK_val (j := j) t e
theorem repN_at : ∀ {ws : List (W × W)} {vs : NKs} {n : Nat} {j : Nat} {w : W}, RepN K CT ρ n H ws vs → (ws.map (·.1))[j]? = some w → ∃ x, vs[j]? = some x ∧ Rep K CT ρ n H w (.ref x.2.1)
  | _, _, _, _, _, .nil, e => by cases e
  | _, _, _, 0, _, .cons _ _ c _ _ _, e => by cases e; exact ⟨_, rfl, c⟩
  | _, _, _, j + 1, w, .cons _ _ _ _ _ t, e => repN_at (j := j) t e
theorem its_keys {d : Addr} {o : Obj} {kvs : List (W × W)} {vs : List (Key × V)} (S : Sim K CT ρ h H) (g : H d = some (.frz o (.dK vs))) (rs : RepK K CT ρ h.n H kvs vs) : ItS K CT ρ h H (Itk d o vs) (.seq (kvs.map (·.1))) := by
  refine its_fz g (fun j H' g' hj => ⟨g', by rw [← repK_len rs]; rw [List.length_map] at hj; exact hj⟩) fun j w hj ρ' h' H' N g' => ?_
  obtain ⟨k, v, e1, r⟩ := repK_at rs hj
  refine ⟨⟨g', (List.getElem?_eq_some_iff.mp e1).1⟩, fun x H'' y => ?_⟩
  obtain ⟨rfl, k', v', e2, rfl⟩ := y
  rw [e1] at e2
  cases e2
  exact ⟨Nxt.refl N.sim, Rep.keep S N.toFw _ _ r⟩
theorem its_vals {d : Addr} {o : Obj} {kvs : List (W × W)} {vs : List (Key × V)} (S : Sim K CT ρ h H) (g : H d = some (.frz o (.dK vs))) (rs : RepK K CT ρ h.n H kvs vs) : ItS K CT ρ h H (Itd d o vs) (.seq (kvs.map (·.2))) := by
  refine its_fz g (fun j H' g' hj => ⟨g', by rw [← repK_len rs]; rw [List.length_map] at hj; exact hj⟩) fun j w hj ρ' h' H' N g' => ?_
  obtain ⟨k, v, e1, r⟩ := repK_val rs hj
  refine ⟨⟨g', (List.getElem?_eq_some_iff.mp e1).1⟩, fun x H'' y => ?_⟩
  obtain ⟨rfl, k', e2⟩ := y
  rw [e1] at e2
  cases e2
  exact ⟨Nxt.refl N.sim, Rep.keep S N.toFw _ _ r⟩
theorem its_keysN {P : Program} {pw : World} {d : Addr} {o : Obj} {kvs : List (W × W)} {xs : NKs} (S : Sim K CT ρ h H) (g : H d = some (.frz o (dNo P pw d xs))) (rs : RepN K CT ρ h.n H kvs xs) : ItS K CT ρ h H (ItN P pw d o xs) (.seq (kvs.map (·.1))) := by
  refine its_fz g (fun j H' g' hj => ⟨g', by rw [← repN_len rs]; rw [List.length_map] at hj; exact hj⟩) fun j w hj ρ' h' H' N g' => ?_
  obtain ⟨x, e1, r⟩ := repN_at rs hj
  refine ⟨⟨g', (List.getElem?_eq_some_iff.mp e1).1⟩, fun v H'' y => ?_⟩
  obtain ⟨rfl, x', e2, rfl⟩ := y
  rw [e1] at e2
  cases e2
  exact ⟨Nxt.refl N.sim, Rep.keep S N.toFw _ _ r⟩
end
section
variable {X : Cx} {CT : CTx} {Wd : WX} {e tg : Expr} {ca : Ex}
theorem si_anyX (hP : X.prog = CT.P) (hw : X.w = CT.w) (he : SE X CT Wd e ca) : SI X CT Wd tg e (xItX ca) := (pi_or (si_any he) (pi_or (pi_keys he) (pi_keysN he))).wk fun σ H R ⟨ρ, h, es, S, E, q⟩ => by
  have q' : PostI X.K CT Wd ρ h H σ ((ca es h).bind fun w h1 => match curX h1 w with
    | some k => .ok k h1
    | none => .bad) R := q
  have plain : (∀ w h1, ca es h = .ok w h1 → curX h1 w = curOf h1 w) → tI X.K CT Wd (xIt ca) σ H R := fun z => by
    refine ⟨ρ, h, es, S, E, ?_⟩
    show PostI X.K CT Wd ρ h H σ ((ca es h).bind fun w h1 => match curOf h1 w with
      | some k => .ok k h1
      | none => .bad) R
    cases g : ca es h with
    | bad => rw [g] at q'; exact q'
    | exc x h1 => rw [g] at q'; exact q'
    | ok w h1 =>
      rw [g] at q'
      have := z w h1 g
      show PostI X.K CT Wd ρ h H σ (match curOf h1 w with
        | some k => .ok k h1
        | none => .bad) R
      rw [← this]
      exact q'
  cases g : ca es h with
  | bad => rw [g] at q'; exact q'.elim
  | exc x h1 => exact .inl (plain fun w h1 z => by rw [g] at z; cases z)
  | ok w h1 =>
    cases w with
    | ref i =>
      cases g2 : h1.get i with
      | none => exact .inl (plain fun w h2 z => by rw [g] at z; cases z; simp only [curX, curOf, g2])
      | some ob =>
        rw [g] at q'
        have q2 : PostI X.K CT Wd ρ h H σ (match curX h1 (.ref i) with
          | some k => .ok k h1
          | none => .bad) R := q'
        cases ob with
        | lst xs => exact .inl (plain fun w h2 z => by rw [g] at z; cases z; simp only [curX, curOf, g2])
        | ins _ _ => exact .inl (plain fun w h2 z => by rw [g] at z; cases z; simp only [curX, curOf, g2])
        | dic lk kvs =>
          cases lk with
          | false => exact .inl (plain fun w h2 z => by rw [g] at z; cases z; simp only [curX, curOf, g2])
          | true =>
            have ec : curX h1 (.ref i) = some (.seq (kvs.map (·.1))) := by simp only [curX, g2]
            rw [ec] at q2
            refine .inr (.inl ⟨ρ, h, es, S, E, ?_⟩)
            rw [g]
            intro ρ' H' v N r
            cases r with
            | ref hi =>
              obtain ⟨od, vs, qq, rs⟩ := N.sim.ob i _ g2
              exact ⟨_, od, rfl, .inl ⟨vs, qq, q2 ρ' H' _ N (its_keys N.sim qq rs)⟩⟩
        | dicN lk kvs =>
          cases lk with
          | false => exact .inl (plain fun w h2 z => by rw [g] at z; cases z; simp only [curX, curOf, g2])
          | true =>
            have ec : curX h1 (.ref i) = some (.seq (kvs.map (·.1))) := by simp only [curX, g2]
            rw [ec] at q2
            refine .inr (.inr ⟨ρ, h, es, S, E, ?_⟩)
            rw [g]
            intro ρ' H' v N r
            cases r with
            | ref hi =>
              obtain ⟨od, xs, qq, rs, nd, hm⟩ := N.sim.ob i _ g2
              rw [← hP, ← hw] at qq
              exact ⟨_, od, xs, rfl, hm, qq, q2 ρ' H' _ N (its_keysN N.sim qq rs)⟩
    | _ => exact .inl (plain fun w h2 z => by rw [g] at z; cases z; rfl)
/-! ### d.values() -/
def valsO (h : Hx) : W → Option Cur
  | .ref i => match h.get i with
    | some (.dic true kvs) => some (.seq (kvs.map (·.2)))
    | _ => none
  | _ => none
def xVals (c : Ex) : Ix := fun es h => (c es h).bind fun w h1 => match valsO h1 w with
  | some k => .ok k h1
  | none => .bad
theorem si_vals {apos cpos : Pos} (he : SE X CT Wd e ca) (hbase : attributeBase e "values" X.env (eval e X.env) = eval e X.env := by rfl) (hline : (apos.endLine == cpos.line) = true := by rfl) : SI X CT Wd tg (.Call (.Attribute e "values" apos) [] [] cpos) (xVals ca) :=
  (pi_values he hbase hline).wk fun σ H R ⟨ρ, h, es, S, E, q⟩ => by
    have q' : PostI X.K CT Wd ρ h H σ ((ca es h).bind fun w h1 => match valsO h1 w with
      | some k => .ok k h1
      | none => .bad) R := q
    refine ⟨ρ, h, es, S, E, ?_⟩
    cases g : ca es h with
    | bad => rw [g] at q'; exact q'
    | exc x h1 => rw [g] at q'; exact q'
    | ok w h1 =>
      rw [g] at q'
      intro ρ' H' v N r
      have q2 : PostI X.K CT Wd ρ h H σ (match valsO h1 w with
        | some k => .ok k h1
        | none => .bad) R := q'
      cases r with
      | @ref i hi =>
        cases g2 : h1.get i with
        | none => rw [show valsO h1 (.ref i) = none by simp only [valsO, g2]] at q2; exact q2.elim
        | some ob =>
          cases ob with
          | lst xs => rw [show valsO h1 (.ref i) = none by simp only [valsO, g2]] at q2; exact q2.elim
          | ins _ _ => rw [show valsO h1 (.ref i) = none by simp only [valsO, g2]] at q2; exact q2.elim
          | dicN _ _ => rw [show valsO h1 (.ref i) = none by simp only [valsO, g2]] at q2; exact q2.elim
          | dic lk kvs =>
            cases lk with
            | false => rw [show valsO h1 (.ref i) = none by simp only [valsO, g2]] at q2; exact q2.elim
            | true =>
              rw [show valsO h1 (.ref i) = some (.seq (kvs.map (·.2))) by simp only [valsO, g2]] at q2
              obtain ⟨od, vs, qq, rs⟩ := N.sim.ob i _ g2
              exact ⟨_, od, vs, rfl, qq, q2 ρ' H' _ N (its_vals N.sim qq rs)⟩
      | _ => exact (show False from q2).elim
end
end Sx

set_option linter.all false
set_option autoImplicit false
set_option maxRecDepth 100000
set_option maxHeartbeats 2000000
namespace Sx
open PySem L2
/-! ### a built-in called, by a plain function; the rule may look at the plain values first -/
def CallX (X : Cx) (CT : CTx) (Wd : WX) (F : Value) (f : List W → Hx → R W) : Prop :=
  ∀ {pins : List (Addr × Obj)} {s : Shared} {σ : L2.St} {H : Hp} {ρ : Nat → Addr} {h : Hx} {ws : List W} {vs : List V} {us : List Value} {Q : VK}, Inv X pins σ H s → Sim X.K CT ρ h H → Reps X.K CT ρ h.n H ws vs → Vals vs us → Post X.K CT (RW X.K CT) Wd ρ h H σ (f ws h) Q →
    wpAny (model X.prog X.w) X.A (call F us) (EP X pins σ Q) X.xe s
section
variable {X : Cx} {CT : CTx} {Wd : WX} {e : Expr} {es : List Expr} {ar : Ax} {f : List W → Hx → R W} {p pos : Pos} {x : Str}
theorem CallX.of {F : Value} {r : List V → Hp → VK → Prop} (hc : CallR X F r) (hs : CallS X.K CT Wd r f) : CallX X CT Wd F f := fun I S r1 r2 p => hc _ _ _ _ _ _ _ I r2 (hs S r1 p)
theorem se_bX {id : String} (hc : CallX X CT Wd (.builtin id) f) (hg : Gl X x) (hm : X.mg x = none) (hv : bootBuiltins x = some (.builtin id)) (ha : SA X CT Wd (e :: es) ar) (hn : x ≠ "__name__" := by decide) (hdb : (x == ("__debug__" : Str)) = false := by decide)
    (he : starEach (e :: es) X.env = (false, eval e X.env) :: starEach es X.env := by rfl) (hpl : (backTo pos (starEach es X.env)).any (·.1) = false := by rfl) : SE X CT Wd (.Call (.Name x p) (e :: es) [] pos) (xCallB f ar) :=
  ⟨fun pins s σ H Q I ⟨ρ, h, en, S, E, q⟩ => wpAny_Call_Name_kw (ld_blt I hg hm hv (PyProof.Rows.callWith_builtin1 (thn (ha.run pos pins s σ H (fun vs H1 => ∃ ρ1 h1 ws, Sim X.K CT ρ1 h1 H1 ∧ Reps X.K CT ρ1 h1.n H1 ws vs ∧ Post X.K CT (RW X.K CT) Wd ρ1 h1 H1 σ (f ws h1) Q) I ⟨ρ, h, en, S, E, Post.bind (RR := RA X.K CT) S q fun ws h1 ρ1 H1 vs N1 r1 p1 => ⟨ρ1, h1, ws, N1.sim, r1, p1⟩⟩)
    fun us s1 ⟨vs, H1, I1, rv, ρ1, h1, ws, S1, r1, p1⟩ => hc I1 S1 r1 rv p1) he hpl) hn hdb)⟩
theorem se_tX {T : String} (hc : CallX X CT Wd (.type T) f) (hg : Gl X x) (hm : X.mg x = none) (hv : bootBuiltins x = some (.type T)) (ha : SA X CT Wd (e :: es) ar) (hn : x ≠ "__name__" := by decide) (hdb : (x == ("__debug__" : Str)) = false := by decide)
    (he : starEach (e :: es) X.env = (false, eval e X.env) :: starEach es X.env := by rfl) (hpl : (backTo pos (starEach es X.env)).any (·.1) = false := by rfl) : SE X CT Wd (.Call (.Name x p) (e :: es) [] pos) (xCallB f ar) :=
  ⟨fun pins s σ H Q I ⟨ρ, h, en, S, E, q⟩ => wpAny_Call_Name_kw (ld_blt I hg hm hv (PyProof.Rows.callWith_type1 (thn (ha.run pos pins s σ H (fun vs H1 => ∃ ρ1 h1 ws, Sim X.K CT ρ1 h1 H1 ∧ Reps X.K CT ρ1 h1.n H1 ws vs ∧ Post X.K CT (RW X.K CT) Wd ρ1 h1 H1 σ (f ws h1) Q) I ⟨ρ, h, en, S, E, Post.bind (RR := RA X.K CT) S q fun ws h1 ρ1 H1 vs N1 r1 p1 => ⟨ρ1, h1, ws, N1.sim, r1, p1⟩⟩)
    fun us s1 ⟨vs, H1, I1, rv, ρ1, h1, ws, S1, r1, p1⟩ => hc I1 S1 r1 rv p1) he hpl) hn hdb)⟩
end
/-! ### isinstance -/
/-- an own class whose instances are told apart -/
structure IClsX (K : PySem.W.Frag) (C : Addr) : Prop where
  cl : Cls K C
  ha : PySem.W.findIn K (.ref C) "__class__" = some (some (.builtin "object.__class__"))
  hn : PySem.W.specialIn K (.builtin "object.__class__") "__get__" = some (some (.builtin "getset_descriptor.__get__"))
  htk : PySem.W.takesIn K (.builtin "object.__class__") = some true
  hm : PySem.W.mroIn K C (.type "object") = some true
/-- what is known of a class: that of an exception, or of instances -/
inductive ClsK where
  | x | i
  deriving DecidableEq
def kdX (h : Hx) (w : W) : Option (Bt ⊕ (Nat × ClsK)) := match w with
  | .exc k _ _ => some (.inr (k, .x))
  | .ref i => match h.get i with
    | some (.lst _) => some (.inl .list)
    | some (.dic _ _) => some (.inl .dict)
    | some (.dicN _ _) => some (.inl .dict)
    | some (.ins k _) => some (.inr (k, .i))
    | none => none
  | w => (btOf h w).map .inl
def kitX1 (n : Nat) (mro : Nat → List Nat) (ck : Nat → Option ClsK) (d : Bt ⊕ (Nat × ClsK)) (c : W) : Option Bool := match d, c with
  | .inl b, .ty t => if t ≠ .none then some (isB b t) else none
  | .inl _, .cl j => if j < n then some false else none
  | .inr (i, m), .ty t => if ck i = some m ∧ i < n ∧ t ≠ .none then some false else none
  | .inr (i, m), .cl j => if ck i = some m ∧ i < n ∧ j < n then some ((mro i).contains j) else none
  | _, _ => none
def kitXs (n : Nat) (mro : Nat → List Nat) (ck : Nat → Option ClsK) (d : Bt ⊕ (Nat × ClsK)) : List W → Option Bool
  | [] => some false
  | c :: r => match kitX1 n mro ck d c with
    | some true => some true
    | some false => kitXs n mro ck d r
    | none => none
def isX (n : Nat) (mro : Nat → List Nat) (ck : Nat → Option ClsK) (ws : List W) (h : Hx) : R W := match ws with
  | [w, .tup (c0 :: cs)] => match (kdX h w).bind fun d => kitXs n mro ck d (c0 :: cs) with
    | some b => .ok (.bl b) h
    | none => .bad
  | [w, c] => match (kdX h w).bind fun d => kitX1 n mro ck d c with
    | some b => .ok (.bl b) h
    | none => .bad
  | _ => .bad
section
variable {X : Cx} {CT : CTx} {Wd : WX} {n : Nat} {mro : Nat → List Nat} {ex : Nat → Bool} {ck : Nat → Option ClsK}
/-- the class facts -/
structure CkOk (K : PySem.W.Frag) (CT : Nat → Addr) (ck : Nat → Option ClsK) : Prop where
  x : ∀ k, ck k = some .x → XCls K (CT k)
  i : ∀ k, ck k = some .i → IClsX K (CT k)
/-- the type of a value, in the model -/
def TyOk (X : Cx) (H : Hp) (s : Shared) (u t : Value) : Prop := ∃ P : Heap → Prop, PySem.W.KitX X.K u t P ∧ P s.heap ∧ u ≠ .builtin "__main__.__loader__#opaque"
def tyV (CT : Nat → Addr) : Bt ⊕ (Nat × ClsK) → Value
  | .inl b => .type b.name
  | .inr (k, _) => .ref (CT k)
theorem kdX_ty (C : CkOk X.K CT ck) (hP : X.prog = CT.P) (hw : X.w = CT.w) {pins : List (Addr × Obj)} {σ : L2.St} {s : Shared} {ρ : Nat → Addr} {h : Hx} {H : Hp} (I : Inv X pins σ H s) (S : Sim X.K CT ρ h H) {w : W} {v : V} {u : Value} {d : Bt ⊕ (Nat × ClsK)} (r : Rep X.K CT ρ h.n H w v) (ru : RelV v u) (e : kdX h w = some d)
    (hc : ∀ k m, d = .inr (k, m) → ck k = some m) : TyOk X H s u (tyV CT d) := by
  have flat : ∀ b, btOf h w = some b → TyOk X H s u (.type b.name) := fun b g => kit_of I ru (btOf_of S r g)
  have key : ∀ o : Option Bt, o.map (Sum.inl (β := Nat × ClsK)) = some d → ∃ b, o = some b ∧ d = .inl b := fun o q => by
    obtain ⟨b', h1, h2⟩ := Option.map_eq_some_iff.mp q
    exact ⟨b', h1, h2.symm⟩
  cases w with
  | exc k ns ws =>
    cases e
    cases r with
    | @exc a _ od _ _ vs r1 r2 r3 => exact kit_ofY I ru (.inr ⟨a, CT k, od, ns, vs, rfl, r1, r2, (C.x k (hc _ _ rfl)).is, rfl⟩)
  | ref i =>
    cases r with
    | ref hi =>
      have e1 : (match h.get i with
        | some (.lst _) => some (.inl .list)
        | some (.dic _ _) => some (.inl .dict)
        | some (.dicN _ _) => some (.inl .dict)
        | some (.ins k _) => some (Sum.inr (k, ClsK.i))
        | none => none) = some d := e
      cases g : h.get i with
      | none => rw [g] at e1; cases e1
      | some ob =>
        rw [g] at e1
        cases ob with
        | lst xs => cases e1; exact flat .list (by simp only [btOf, g])
        | dic lk kvs => cases e1; exact flat .dict (by simp only [btOf, g])
        | dicN lk kvs =>
          cases e1
          obtain rfl : u = Value.ref (ρ i) := ru
          obtain ⟨od, xs, q, _, _, hm⟩ := S.ob i _ g
          rw [← hP, ← hw] at q
          obtain ⟨⟨o, tb, ep, g1, g2, g3, g4⟩, _, _⟩ := (rd_lkd q).ok I.hok
          exact ⟨_, PySem.W.kitx_dict, ⟨o, g1, g2.1⟩, fun z => nomatch z⟩
        | ins k fs =>
          cases e1
          obtain ⟨dx, vs, q, _⟩ := S.ob i _ g
          have c := C.i k (hc _ _ rfl)
          exact kit_of I ru (.base (.ins q c.cl c.ha c.hn c.htk c.hm))
  | non => obtain ⟨b, g, rfl⟩ := key (btOf h .non) e; exact flat b g
  | bl y => obtain ⟨b, g, rfl⟩ := key (btOf h (.bl y)) e; exact flat b g
  | int y => obtain ⟨b, g, rfl⟩ := key (btOf h (.int y)) e; exact flat b g
  | str y => obtain ⟨b, g, rfl⟩ := key (btOf h (.str y)) e; exact flat b g
  | tup y => obtain ⟨b, g, rfl⟩ := key (btOf h (.tup y)) e; exact flat b g
  | fls y => obtain ⟨b, g, rfl⟩ := key (btOf h (.fls y)) e; exact flat b g
  | ty y => obtain ⟨b, g, rfl⟩ := key (btOf h (.ty y)) e; exact flat b g
  | cl y => obtain ⟨b, g, rfl⟩ := key (btOf h (.cl y)) e; exact flat b g
theorem kitX1_of (T : CTab X.K CT n mro ex) {d : Bt ⊕ (Nat × ClsK)} {c : W} {b : Bool} (e : kitX1 n mro ck d c = some b) {K : PySem.W.Frag} {ρ : Nat → Addr} {m : Nat} {H : Hp} {vc : V} {uc : Value} (rc : Rep K CT ρ m H c vc) (ru : RelV vc uc) : (∀ k m, d = .inr (k, m) → ck k = some m) ∧ PySem.W.kitOne X.K (tyV CT d) uc = some b := by
  cases d with
  | inl bt =>
    refine ⟨(fun _ _ z => nomatch z), ?_⟩
    cases rc with
    | ty t =>
      obtain rfl : uc = Value.type t.name := ru
      have e3 : (if t ≠ .none then some (isB bt t) else none) = some b := e
      by_cases ht : t ≠ .none
      · rw [if_pos ht] at e3
        cases e3
        exact isB_kit X.K bt t ht
      · rw [if_neg ht] at e3
        cases e3
    | cl j =>
      obtain rfl : uc = Value.ref (CT j) := ru
      have e3 : (if j < n then some false else none) = some b := e
      by_cases hj : j < n
      · rw [if_pos hj] at e3
        cases e3
        exact T.bo bt hj
      · rw [if_neg hj] at e3
        cases e3
    | _ => cases e
  | inr im =>
    obtain ⟨i, m⟩ := im
    cases rc with
    | ty t =>
      obtain rfl : uc = Value.type t.name := ru
      have e3 : (if ck i = some m ∧ i < n ∧ t ≠ .none then some false else none) = some b := e
      by_cases c : ck i = some m ∧ i < n ∧ t ≠ .none
      · rw [if_pos c] at e3
        cases e3
        exact ⟨fun _ _ z => by cases z; exact c.1, T.ob c.2.1 t c.2.2⟩
      · rw [if_neg c] at e3
        cases e3
    | cl j =>
      obtain rfl : uc = Value.ref (CT j) := ru
      have e3 : (if ck i = some m ∧ i < n ∧ j < n then some ((mro i).contains j) else none) = some b := e
      by_cases c : ck i = some m ∧ i < n ∧ j < n
      · rw [if_pos c] at e3
        cases e3
        exact ⟨fun _ _ z => by cases z; exact c.1, T.oo c.2.1 c.2.2⟩
      · rw [if_neg c] at e3
        cases e3
    | _ => cases e
theorem kitXs_of (T : CTab X.K CT n mro ex) {d : Bt ⊕ (Nat × ClsK)} {K : PySem.W.Frag} {ρ : Nat → Addr} {m : Nat} {H : Hp} : ∀ {cs : List W} {b : Bool} {vs : List V} {us : List Value}, kitXs n mro ck d cs = some b → Reps K CT ρ m H cs vs → Vals vs us → (cs ≠ [] → ∀ k m, d = .inr (k, m) → ck k = some m) ∧ PySem.W.kitAny X.K (tyV CT d) us = some b
  | [], _, _, _, e, .nil, .nil => by cases e; exact ⟨fun z => absurd rfl z, rfl⟩
  | c :: r, b, _, _, e, .cons r1 t, .cons q1 q2 => by
    unfold kitXs at e
    cases g : kitX1 n mro ck d c with
    | none => rw [g] at e; cases e
    | some b1 =>
      rw [g] at e
      obtain ⟨k1, k2⟩ := kitX1_of T g r1 q1
      refine ⟨fun _ => k1, ?_⟩
      unfold PySem.W.kitAny
      rw [k2]
      cases b1 with
      | true => cases e; rfl
      | false => exact (kitXs_of T e t q2).2
theorem cx_isX (T : CTab X.K CT n mro ex) (C : CkOk X.K CT ck) (hP : X.prog = CT.P) (hw : X.w = CT.w) : CallX X CT Wd (.builtin "isinstance") (isX n mro ck) := by
  intro pins s σ H ρ h ws vs us Q I S r rv p
  have one : ∀ {w c : W} {v vc : V} {u uc : Value}, Rep X.K CT ρ h.n H w v → RelV v u → Rep X.K CT ρ h.n H c vc → RelV vc uc → Post X.K CT (RW X.K CT) Wd ρ h H σ (match (kdX h w).bind fun d => kitX1 n mro ck d c with
    | some b => .ok (.bl b) h
    | none => .bad) Q → wpAny (model X.prog X.w) X.A (call (.builtin "isinstance") [u, uc]) (EP X pins σ Q) X.xe s := fun {w c v vc u uc} r1 q1 r2 q2 p => by
    cases g : (kdX h w).bind fun d => kitX1 n mro ck d c with
    | none => rw [g] at p; exact p.elim
    | some b =>
      rw [g] at p
      obtain ⟨d, g1, g2⟩ := Option.bind_eq_some_iff.mp g
      obtain ⟨k1, k2⟩ := kitX1_of T g2 r2 q2
      obtain ⟨P, Z, pz, hx⟩ := kdX_ty C hP hw I S r1 q1 g1 k1
      exact PySem.W.kia_one Z I.kIn pz k2 hx fun tk => ⟨.bl b, H, I.kept (t' := tk) fun _ _ z => z, rfl, Post.here S p (.bl b)⟩
  cases r with
  | nil => exact (show False from p).elim
  | cons r1 t =>
    cases t with
    | nil => exact (show False from p).elim
    | cons r2 t =>
      cases t with
      | cons _ _ => exact (show False by cases r2 with | @tup a cs _ _ _ => cases cs <;> exact p | _ => exact p).elim
      | nil =>
        cases rv with
        | cons q1 t2 =>
          cases t2 with
          | cons q2 t3 =>
            cases t3
            rename_i w v c vc u uc
            have r2' := r2
            cases r2 with
            | @tup a cs vs sq rs =>
              obtain rfl : uc = Value.ref a := q2
              cases cs with
              | nil => exact one r1 q1 (.tup sq rs) rfl p
              | cons c0 cs =>
                have p' : Post X.K CT (RW X.K CT) Wd ρ h H σ (match (kdX h w).bind fun d => kitXs n mro ck d (c0 :: cs) with
                  | some b => .ok (.bl b) h
                  | none => .bad) Q := p
                cases g : (kdX h w).bind fun d => kitXs n mro ck d (c0 :: cs) with
                | none => rw [g] at p'; exact p'.elim
                | some b =>
                  rw [g] at p'
                  obtain ⟨d, g1, g2⟩ := Option.bind_eq_some_iff.mp g
                  obtain ⟨its, rv, ⟨⟨oc, od, dt, sl⟩, z1, z2, m, z3⟩, _⟩ := I.tuple sq
                  simp only at z2 z3
                  subst z2 z3
                  obtain ⟨k1, k2⟩ := kitXs_of T g2 rs rv
                  obtain ⟨P, Z, pz, hx⟩ := kdX_ty C hP hw I S r1 q1 g1 (k1 (fun z => nomatch z))
                  exact PySem.W.kia_tup Z I.kIn pz z1 k2 hx fun tk => ⟨.bl b, H, I.kept (t' := tk) fun _ _ z => z, rfl, Post.here S p' (.bl b)⟩
            | _ => exact one r1 q1 r2' q2 p
end
end Sx

set_option linter.all false
set_option autoImplicit false
set_option maxRecDepth 100000
set_option maxHeartbeats 2000000
namespace Sx
open PySem L2
/-! ### len, list, tuple of what can be walked -/
def lenX : List W → Hx → R W
  | [.ref i], h => match h.get i with
    | some (.lst xs) => .ok (.int xs.length) h
    | some (.dic _ kvs) => .ok (.int kvs.length) h
    | some (.dicN _ kvs) => if kvs.length ≤ lim then .ok (.int kvs.length) h else .bad
    | _ => .bad
  | ws, h => lenW ws h
def listX : List W → Hx → R W
  | [.tup xs], h => if xs.length ≤ lim then .ok (.ref h.n) (h.new (.lst xs)) else .bad
  | [w], h => match collW h w with
    | some xs => if xs.length ≤ lim then .ok (.ref h.n) (h.new (.lst xs)) else .bad
    | none => .bad
  | _, _ => .bad
def tupX : List W → Hx → R W
  | [.tup xs], h => .ok (.tup xs) h
  | [.fls xs], h => .ok (.tup xs) h
  | [.ref i], h => match h.get i with
    | some (.lst xs) => .ok (.tup xs) h
    | _ => .bad
  | _, _ => .bad
theorem vals_one {x : V} {us : List Value} (h : Vals [x] us) : ∃ u, us = [u] ∧ RelV x u := by
  cases h with
  | cons r t => cases t; exact ⟨_, rfl, r⟩
section
variable {X : Cx} {CT : CTx} {Wd : WX}
theorem cx_len (hP : X.prog = CT.P) (hw : X.w = CT.w) : CallX X CT Wd (.builtin "len") lenX := by
  intro pins s σ H ρ h ws vs us Q I S r rv p
  have old : lenX ws h = lenW ws h → wpAny (model X.prog X.w) X.A (call (.builtin "len") us) (EP X pins σ Q) X.xe s := fun e => by
    rw [e] at p
    exact CallX.of (callR_or call_len call_lenD) cs_len I S r rv p
  cases r with
  | nil => exact old rfl
  | cons r1 t =>
    cases t with
    | cons _ _ => exact old (by cases r1 <;> rfl)
    | nil =>
      cases r1 with
      | @ref i hi =>
        obtain ⟨u, rfl, ru⟩ := vals_one rv
        obtain rfl : u = Value.ref (ρ i) := ru
        cases g : h.get i with
        | none => exact old (by simp only [lenX, lenW, g])
        | some ob =>
          cases ob with
          | lst xs => exact old (by simp only [lenX, lenW, g])
          | ins _ _ => exact old (by simp only [lenX, lenW, g])
          | dic lk kvs =>
            rw [show lenX [.ref i] h = .ok (.int kvs.length) h by simp only [lenX, g]] at p
            obtain ⟨od, vs, q, rs⟩ := S.ob i _ g
            refine d_len I (rd_lkd q) fun t s' I' => ⟨.int vs.length, H, I', ⟨t, rfl⟩, ?_⟩
            rw [← repK_len rs]
            exact Post.here S p (.int _)
          | dicN lk kvs =>
            rw [show lenX [.ref i] h = (if kvs.length ≤ lim then .ok (.int kvs.length) h else .bad) by simp only [lenX, g]] at p
            obtain ⟨c, p⟩ := post_if p
            obtain ⟨od, xs, q, rs, nd, hm⟩ := S.ob i _ g
            rw [← hP, ← hw] at q
            obtain ⟨⟨o, tb, ep, g1, g2, g3, g4⟩, _, _⟩ := (rd_lkd q).ok I.hok
            have hl : tb.size = kvs.length := by rw [size_of_entries g4, repN_len rs]
            have hz : (kvs.length : Int) < 2 ^ 63 := by have : lim = 100000 := rfl; omega
            refine PyProof.Rows.call_len_slot (n := (kvs.length : Int)) (T := "dict") ⟨o, g1, g2.1⟩ F.slot_dict_len (fun Q' hq => ?_) (by omega) (by omega) ⟨.int kvs.length, H, I.kept (t' := s.toks + 1 + 1) fun _ _ z => z, ⟨_, rfl⟩, Post.here S p (.int _)⟩
            refine call_len_raw hm ⟨o, g1, g2, g3⟩ ?_
            rw [hl]
            exact hq
      | _ => exact old rfl
/-- a new list of ours -/
theorem new_list {pins : List (Addr × Obj)} {s : Shared} {σ : L2.St} {H : Hp} {ρ : Nat → Addr} {h : Hx} {ws : List W} {vs : List V} {us : List Value} {Q : VK} {h' : Heap} {tk : Nat} {a : Addr} {c : Nat} (I : Inv X pins σ H s) (S : Sim X.K CT ρ h H) (r : Reps X.K CT ρ h.n H ws vs) (rv : Vals vs us) (hl : ws.length ≤ lim) (hk : ∀ b o, s.heap.get? b = some o → h'.get? b = some o) (ha : s.heap.objs.size ≤ a)
    (e : h'.get? a = some { cls := .type "list", dict := none, data := .seq us.toArray c, slots := #[] }) (p : Post X.K CT (RW X.K CT) Wd ρ h H σ (.ok (.ref h.n) (h.new (.lst ws))) Q) : EP X pins σ Q (.ref a) { s with heap := h', toks := tk } :=
  ⟨.ref a, upd H a (.lst vs), I.laid hk ha (show ObjOk X.prog X.w _ _ _ (.lst vs) from ⟨by rw [← r.length]; exact lim_line hl, us, c, rv, e⟩), rfl, post_lst S p r (I.hok.fresh ha)⟩
theorem cx_list (hP : X.prog = CT.P) (hw : X.w = CT.w) (hA : X.A.handled = none) : CallX X CT Wd (.type "list") listX := by
  intro pins s σ H ρ h ws vs us Q I S r rv p
  have seq : ∀ {a : Addr} {xs : List W} {ys : List V}, vs = [.ref a] → (SqL X.K H a ys ∨ SqT X.K H a ys) → Reps X.K CT ρ h.n H xs ys → Post X.K CT (RW X.K CT) Wd ρ h H σ (.ok (.ref h.n) (h.new (.lst xs))) Q → wpAny (model X.prog X.w) X.A (call (.type "list") us) (EP X pins σ Q) X.xe s := fun e q rs p =>
    call_list_of pins s σ H vs us Q I rv ⟨_, _, e, q, fun l hl => post_lst S p rs hl⟩
  cases r with
  | nil => exact p.elim
  | cons r1 t =>
    cases t with
    | cons _ _ => exact (show False by cases r1 <;> exact p).elim
    | nil =>
      cases r1 with
      | @tup a xs ys q rs =>
        obtain ⟨c, p⟩ := post_if (show Post X.K CT (RW X.K CT) Wd ρ h H σ (if xs.length ≤ lim then .ok (.ref h.n) (h.new (.lst xs)) else .bad) Q from p)
        exact seq rfl (.inr q) rs p
      | @fls a xs ys q rs =>
        obtain ⟨c, p⟩ := post_if (show Post X.K CT (RW X.K CT) Wd ρ h H σ (if xs.length ≤ lim then .ok (.ref h.n) (h.new (.lst xs)) else .bad) Q from p)
        exact seq rfl (.inl q.sq) rs p
      | @ref i hi =>
        have p1 : Post X.K CT (RW X.K CT) Wd ρ h H σ (match collW h (.ref i) with
          | some xs => if xs.length ≤ lim then .ok (.ref h.n) (h.new (.lst xs)) else .bad
          | none => .bad) Q := p
        obtain ⟨u, rfl, ru⟩ := vals_one rv
        obtain rfl : u = Value.ref (ρ i) := ru
        cases g : h.get i with
        | none => rw [show collW h (.ref i) = none by simp only [collW, g]] at p1; exact p1.elim
        | some ob =>
          cases ob with
          | ins _ _ => rw [show collW h (.ref i) = none by simp only [collW, g]] at p1; exact p1.elim
          | lst xs =>
            rw [show collW h (.ref i) = some xs by simp only [collW, g]] at p1
            obtain ⟨c, p2⟩ := post_if (show Post X.K CT (RW X.K CT) Wd ρ h H σ (if xs.length ≤ lim then .ok (.ref h.n) (h.new (.lst xs)) else .bad) Q from p1)
            obtain ⟨ys, q, rs⟩ := lst_get S g
            exact seq rfl (.inl (.of q)) rs p2
          | dic lk kvs =>
            rw [show collW h (.ref i) = some (kvs.map (·.1)) by simp only [collW, g]] at p1
            obtain ⟨c, p2⟩ := post_if (show Post X.K CT (RW X.K CT) Wd ρ h H σ (if (kvs.map (·.1)).length ≤ lim then .ok (.ref h.n) (h.new (.lst (kvs.map (·.1)))) else .bad) Q from p1)
            obtain ⟨od, ys, q, rs⟩ := S.ob i _ g
            obtain ⟨z, lo, zs, rel, dd⟩ := dk_rd I.hok (rd_lkd q)
            obtain ⟨ep, hat⟩ := dd.dictAt
            have hlv : zs.length ≤ sizeLine := by rw [← Paired.length rel]; exact z
            refine PySem.W.kdl_call (PySem.W.kdl_dict (knd := mixKind X.prog X.w) (kvs := zs) (ep := ep) lo) hA hat hlv fun h' tk acc c' hk hD hacc => ?_
            refine new_list I S (repK_keys rs) (us := acc.toList) ?_ c hk (Nat.le_refl _) (by rw [Array.toArray_toList]; exact hD) p2
            rw [kv_keysV rel]
            exact keys_at (by rw [Array.length_toList, hacc.1]) fun j v hv => hacc.2 j v (by rw [← Array.getElem?_toList]; exact hv)
          | dicN lk kvs =>
            rw [show collW h (.ref i) = some (kvs.map (·.1)) by simp only [collW, g]] at p1
            obtain ⟨c, p2⟩ := post_if (show Post X.K CT (RW X.K CT) Wd ρ h H σ (if (kvs.map (·.1)).length ≤ lim then .ok (.ref h.n) (h.new (.lst (kvs.map (·.1)))) else .bad) Q from p1)
            obtain ⟨od, xs, q, rs, nd, hm⟩ := S.ob i _ g
            rw [← hP, ← hw] at q
            obtain ⟨⟨o, tb, ep, g1, g2, g3, g4⟩, _, _⟩ := (rd_lkd q).ok I.hok
            have hlv : tb.size ≤ sizeLine := by
              rw [size_of_entries g4, ← repN_len rs]
              rw [List.length_map] at c
              exact lim_line c
            refine PySem.W.kdl_call (kdl_raw hm g2 g3) hA g1 hlv fun h' tk acc c' hk hD hacc => ?_
            refine new_list I S (repN_keys rs) (us := acc.toList) ?_ c hk (Nat.le_refl _) (by rw [Array.toArray_toList]; exact hD) p2
            rw [raw_keys (X := X) g4 hacc.1 hacc.2]
            exact vals_refs
      | _ => exact (show False from p).elim
theorem cs_tup {K : PySem.W.Frag} : CallS K CT Wd (fun xs H Q => ∃ p ys, xs = [.ref p] ∧ ((SqL K H p ys ∧ ∀ l, H l = none → Q (.ref l) (upd H l (.tup ys))) ∨ (SqT K H p ys ∧ Q (.ref p) H))) tupX := by
  intro ρ h H σ ws vs Q S r p
  cases r with
  | nil => exact p.elim
  | cons r1 t =>
    cases t with
    | cons _ _ => exact (show False by cases r1 <;> exact p).elim
    | nil =>
      cases r1 with
      | @tup a xs ys q rs => exact ⟨a, ys, rfl, .inr ⟨q, Post.here S p (.tup q rs)⟩⟩
      | @fls a xs ys q rs => exact ⟨a, ys, rfl, .inl ⟨q.sq, fun l hl => post_tup S p rs hl⟩⟩
      | @ref i hi =>
        have p1 : Post K CT (RW K CT) Wd ρ h H σ (match h.get i with
          | some (.lst xs) => .ok (.tup xs) h
          | _ => .bad) Q := p
        split at p1
        · rename_i xs g
          obtain ⟨ys, q, rs⟩ := lst_get S g
          exact ⟨_, ys, rfl, .inl ⟨.of q, fun l hl => post_tup S p1 rs hl⟩⟩
        · exact p1.elim
      | _ => exact (show False from p).elim
theorem cs_any {K : PySem.W.Frag} : CallS K CT Wd (rAny K) anyW := by
  intro ρ h H σ ws vs Q S r p
  cases r with
  | nil => exact p.elim
  | cons r1 t =>
    cases t with
    | cons _ _ => exact (show False from p).elim
    | nil =>
      rename_i w v
      have p' : Post K CT (RW K CT) Wd ρ h H σ (match itemsOf h w with
        | some xs => match boolsOf xs with
          | some bs => .ok (.bl (bs.any id)) h
          | none => .bad
        | none => .bad) Q := p
      cases g : itemsOf h w with
      | none => rw [g] at p'; exact p'.elim
      | some xs =>
        rw [g] at p'
        have p2 : Post K CT (RW K CT) Wd ρ h H σ (match boolsOf xs with
          | some bs => .ok (.bl (bs.any id)) h
          | none => .bad) Q := p'
        cases g2 : boolsOf xs with
        | none => rw [g2] at p2; exact p2.elim
        | some bs =>
          rw [g2] at p2
          obtain ⟨a, us, rfl, q, rs⟩ := itemsOf_of S r1 g
          rw [boolsOf_of rs g2] at q
          exact ⟨a, bs, rfl, q, Post.here S p2 (.bl _)⟩
/-! ### ints of a list: sum, sorted -/
end
def intsOf : List W → Option (List Int)
  | [] => some []
  | .int i :: r => (intsOf r).map (i :: ·)
  | _ :: _ => none
theorem intsOf_of {CT : CTx} {K : PySem.W.Frag} {ρ : Nat → Addr} {n : Nat} {H : Hp} : ∀ {ws : List W} {vs : List V} {ns : List Int}, Reps K CT ρ n H ws vs → intsOf ws = some ns → vs = ns.map V.int
  | _, _, _, .nil, e => by cases e; rfl
  | w :: ws, _, ns, .cons r t, e => by
    cases r with
    | int i =>
      obtain ⟨ms, h1, rfl⟩ := Option.map_eq_some_iff.mp (show (intsOf ws).map (i :: ·) = some ns from e)
      rw [intsOf_of t h1]
      rfl
    | _ => cases e
def insI (x : Int) : List Int → List Int
  | [] => [x]
  | y :: r => if x ≤ y then x :: y :: r else y :: insI x r
def sortI : List Int → List Int
  | [] => []
  | x :: r => insI x (sortI r)
theorem insI_perm (x : Int) : ∀ l, (insI x l).Perm (x :: l)
  | [] => .refl _
  | y :: r => by
    unfold insI
    split
    · exact .refl _
    · exact ((insI_perm x r).cons y).trans (.swap x y r)
theorem sortI_perm : ∀ l, (sortI l).Perm l
  | [] => .refl _
  | x :: r => (insI_perm x _).trans ((sortI_perm r).cons x)
theorem insI_sorted (x : Int) : ∀ l, l.Pairwise (· ≤ ·) → (insI x l).Pairwise (· ≤ ·)
  | [], _ => List.pairwise_singleton _ _
  | y :: r, h => by
    rw [List.pairwise_cons] at h
    unfold insI
    split
    · rename_i c
      rw [List.pairwise_cons]
      refine ⟨fun z hz => ?_, List.pairwise_cons.mpr h⟩
      rcases List.mem_cons.mp hz with e | e
      · rw [e]; exact c
      · exact Int.le_trans c (h.1 z e)
    · rename_i c
      rw [List.pairwise_cons]
      refine ⟨fun z hz => ?_, insI_sorted x r h.2⟩
      rcases List.mem_cons.mp ((insI_perm x r).mem_iff.mp hz) with e | e
      · rw [e]; omega
      · exact h.1 z e
theorem sortI_sorted : ∀ l, (sortI l).Pairwise (· ≤ ·)
  | [] => List.Pairwise.nil
  | x :: r => insI_sorted x _ (sortI_sorted r)
theorem sortI_eq {l l' : List Int} (p : l'.Perm l) (s : l'.Pairwise (· ≤ ·)) : l' = sortI l :=
  List.Perm.eq_of_pairwise (le := (· ≤ ·)) (fun a b _ _ h1 h2 => Int.le_antisymm h1 h2) s (sortI_sorted l) (p.trans (sortI_perm l).symm)
def sumX : List W → Hx → R W
  | [w], h => match itemsOf h w with
    | some xs => match intsOf xs with
      | some ns => .ok (.int ns.sum) h
      | none => .bad
    | none => .bad
  | _, _ => .bad
def sortX : List W → Hx → R W
  | [w], h => match itemsOf h w with
    | some xs => match intsOf xs with
      | some ns => .ok (.ref h.n) (h.new (.lst ((sortI ns).map .int)))
      | none => .bad
    | none => .bad
  | _, _ => .bad
theorem reps_ints {CT : CTx} {K : PySem.W.Frag} {ρ : Nat → Addr} {n : Nat} {H : Hp} : ∀ ns : List Int, Reps K CT ρ n H (ns.map .int) (ns.map V.int)
  | [] => .nil
  | i :: r => .cons (.int i) (reps_ints r)
section
variable {X : Cx} {CT : CTx} {Wd : WX}
theorem cs_sum {K : PySem.W.Frag} : CallS K CT Wd (rSum K) sumX := by
  intro ρ h H σ ws vs Q S r p
  cases r with
  | nil => exact p.elim
  | cons r1 t =>
    cases t with
    | cons _ _ => exact (show False from p).elim
    | nil =>
      rename_i w v
      unfold sumX at p
      cases g : itemsOf h w with
      | none => simp only [g] at p; exact p.elim
      | some xs =>
        cases g2 : intsOf xs with
        | none => simp only [g, g2] at p; exact p.elim
        | some ns =>
          simp only [g, g2] at p
          obtain ⟨a, us, rfl, q, rs⟩ := itemsOf_of S r1 g
          rw [intsOf_of rs g2] at q
          exact ⟨a, ns, rfl, q, Post.here S p (.int _)⟩
theorem cs_sortI {K : PySem.W.Frag} : CallS K CT Wd (rSortedI K) sortX := by
  intro ρ h H σ ws vs Q S r p
  cases r with
  | nil => exact p.elim
  | cons r1 t =>
    cases t with
    | cons _ _ => exact (show False from p).elim
    | nil =>
      rename_i w v
      unfold sortX at p
      cases g : itemsOf h w with
      | none => simp only [g] at p; exact p.elim
      | some xs =>
        cases g2 : intsOf xs with
        | none => simp only [g, g2] at p; exact p.elim
        | some ns =>
          simp only [g, g2] at p
          obtain ⟨a, us, rfl, q, rs⟩ := itemsOf_of S r1 g
          rw [intsOf_of rs g2] at q
          refine ⟨a, ns, rfl, q, fun ns' b pm so hb => ?_⟩
          rw [sortI_eq pm so]
          exact post_lst S p (reps_ints _) hb
end
end Sx

set_option linter.all false
set_option autoImplicit false
set_option maxRecDepth 100000
set_option maxHeartbeats 2000000
namespace Sx
open PySem L2
/-! ### zip of a text and a tuple -/
def ItXT (K : PySem.W.Frag) (x : Str) (b : Addr) : It where
  go := fun i H => ∃ (ys : List V) (y : V) (c : Nat), SqT K H b ys ∧ ys[i]? = some y ∧ x.cps[i]? = some c
  yld := fun i H v H' => ∃ T c y, v = .ref T ∧ H T = none ∧ H' = upd H T (.tup [.str ⟨#[c]⟩, y]) ∧ x.cps[i]? = some c ∧ ∀ ys, SqT K H b ys → ys[i]? = some y
  stop := fun i H => ∃ ys : List V, SqT K H b ys ∧ i ≤ x.cps.size ∧ i ≤ ys.length ∧ (i = x.cps.size ∨ i = ys.length)
section
variable {P : Program} {w : World} {K : PySem.W.Frag} {elts : List Expr} {kk : Nat} {tpos : Pos} {x : Str} {t : Tok} {b : Addr} {N : Nat}
/-- the five places of it -/
abbrev zipAt (N : Nat) : List Addr := [N + 4, N + 2, N + 3, N, N + 1]
theorem zip_not {c : Addr} (h : c ∉ zipAt N) : c ≠ N + 4 ∧ c ≠ N + 3 ∧ c ≠ N ∧ c ≠ N + 1 :=
  ⟨fun e => h (by simp [zipAt, e]), fun e => h (by simp [zipAt, e]), fun e => h (by simp [zipAt, e]), fun e => h (by simp [zipAt, e])⟩
theorem turnXT (hb : b < N) : Turn P w K (.Tuple elts kk tpos) (ItXT K x b) (zipAt N) (N + 4) (fun i h => IsZip h (N + 4) (N + 2) (N + 3) .none ∧ IsTupOf2 h (N + 2) (.ref N) (.ref (N + 1)) ∧ (∃ p q, IsTupOf2 h (N + 3) p q) ∧ h.IsStrIter N (strIterType x) x t i ∧ h.IsTupleIter (N + 1) b i) := by
  have sep : ZipSep2 (N + 4) (N + 2) (N + 3) N (N + 1) [N] [N + 1, b] := zip_sep2 (fp1 := []) (fp2 := [b]) (fun _ h => nomatch h) (fun c hc => by rw [List.mem_singleton.mp hc]; exact hb)
  refine ⟨List.mem_cons_self, fun i h st c hc => ?_, fun i h h' st k => ?_, ?_, ?_, fun A i s Q E st h => wpAny_pyIter_zip st.1 h⟩
  · obtain ⟨z1, z2, ⟨p, q, z3⟩, ⟨o1, e1, _, d1⟩, ⟨o2, e2, _, d2⟩⟩ := st
    simp only [zipAt, List.mem_cons, List.not_mem_nil, or_false] at hc
    rcases hc with rfl | rfl | rfl | rfl | rfl
    · exact ⟨_, z1, fun v z => nomatch z⟩
    · exact ⟨_, z2, fun v z => nomatch z⟩
    · exact ⟨_, z3, fun v z => nomatch z⟩
    · exact ⟨o1, e1, fun v z => by rw [d1] at z; cases z⟩
    · exact ⟨o2, e2, fun v z => by rw [d2] at z; cases z⟩
  · obtain ⟨z1, z2, ⟨p, q, z3⟩, ⟨o1, e1, r1⟩, z5⟩ := st
    exact ⟨k _ (by simp [zipAt]) _ z1, k _ (by simp [zipAt]) _ z2, ⟨p, q, k _ (by simp [zipAt]) _ z3⟩, ⟨o1, k _ (by simp [zipAt]) _ e1, r1⟩, z5.at fun o e => k _ (by simp [zipAt]) o e⟩
  · intro X hP hw hK hc i pins s σ H E I hf st hg
    obtain rfl := hP
    obtain rfl := hw
    obtain rfl := hK
    obtain ⟨z1, z2, ⟨p, q, z3⟩, z4, z5⟩ := st
    obtain ⟨ys, y, c, qy, hy, hxc⟩ := hg
    obtain ⟨its, rv, tp, _⟩ := I.tuple qy
    obtain ⟨u, hu, ru⟩ := rv.get hy
    have hh : X.A.in1.handled = none := I.ok.hd hc
    have hlt : N + 4 < s.heap.objs.size := Heap.lt_size z1
    refine wpAny_pyNext_zipD2_item sep (Draws.text hh N x t) (Draws.tuple hh (N + 1) b (Nat.ne_of_lt (Nat.lt_succ_of_lt hb)) its.toArray) z1 z2 z3 z4 ⟨z5, tp⟩ (Array.getElem?_eq_some_iff.mp hxc).1 (by simpa using (List.getElem?_eq_some_iff.mp hu).1) fun x1 x2 h2 tk y1 y2 k1 k2 k3 k4 k5 k6 k7 => ?_
    obtain ⟨c', u', e1, rfl⟩ := y1
    rw [hxc] at e1
    cases e1
    have e2 : x2 = u := by
      have z : its.toArray[i]? = some x2 := y2
      rw [List.getElem?_toArray, hu] at z
      exact (Option.some.inj z).symm
    subst e2
    refine ⟨_, rfl, wpAny_letOwnedTupleGo_zip (s := { s with heap := h2, toks := tk }) k1 fun h3 j1 sb => ?_⟩
    have at3 : h3.get? s.heap.objs.size = some { cls := .type "tuple", data := .seq #[.str ⟨#[c]⟩ u', x2] } := (sb.2 _ (Nat.ne_of_gt hlt)).trans k5
    have new : ObjOk X.prog X.w (upd H s.heap.objs.size (.tup [.str ⟨#[c]⟩, y])) h3 s.heap.objs.size (.tup [.str ⟨#[c]⟩, y]) :=
      ⟨show 2 ≤ sizeLine by decide, [.str ⟨#[c]⟩ u', x2], .cons ⟨u', rfl⟩ (.cons ru .nil), _, at3, rfl, _, rfl⟩
    have J : Inv X pins σ (upd H s.heap.objs.size (.tup [.str ⟨#[c]⟩, y])) { s with heap := h3, toks := tk } :=
      I.turnedNew (ch := zipAt N) (fun d o hd e => by
        obtain ⟨n1, n2, n3, n4⟩ := zip_not hd
        exact (sb.2 d n1).trans (k7 d o n1 n2 n3 n4 e)) hf (Nat.le_refl _) new
    refine ⟨.ref s.heap.objs.size, _, J, rfl, ⟨_, c, y, rfl, I.hok.fresh (Nat.le_refl _), rfl, hxc, fun l hl => by rw [I.tuple_inj hl qy]; exact hy⟩, ⟨j1, ?_, ⟨_, _, sb.extBut _ _ sep.TOz k2⟩, k3.extBut sb.extBut sep.zi1.symm, k4.1.extBut sb.extBut sep.zi2.symm⟩, fun d hd => ?_⟩
    · exact sb.extBut _ _ sep.TIz (k7 _ _ sep.TIz sep.TITO sep.TIi1 sep.TIi2 z2)
    · have f := (hf d hd).1
      have hd2 : d < s.heap.objs.size := by
        simp only [zipAt, List.mem_cons, List.not_mem_nil, or_false] at hd
        have h5 : ∀ m, m ≤ 4 → (N + m : Nat) < s.heap.objs.size := fun m hm => Nat.lt_of_le_of_lt (Nat.add_le_add_left hm N) hlt
        rcases hd with rfl | rfl | rfl | rfl | rfl
        · exact h5 4 (by decide)
        · exact h5 2 (by decide)
        · exact h5 3 (by decide)
        · exact h5 0 (by decide)
        · exact h5 1 (by decide)
      rw [upd_ne (Nat.ne_of_lt hd2)]
      exact f
  · intro X hP hw hK hc i pins s σ H E I hf st hg
    obtain rfl := hP
    obtain rfl := hw
    obtain rfl := hK
    obtain ⟨z1, z2, ⟨p, q, z3⟩, z4, z5⟩ := st
    obtain ⟨ys, qy, l1, l2, l3⟩ := hg
    obtain ⟨its, rv, tp, _⟩ := I.tuple qy
    have hl := rv.length
    have lz : its.toArray.size = ys.length := by rw [List.size_toArray, hl]
    have hh : X.A.in1.handled = none := I.ok.hd hc
    refine wpAny_pyNext_zipD2_end sep (Draws.text hh N x t) (Draws.tuple hh (N + 1) b (Nat.ne_of_lt (Nat.lt_succ_of_lt hb)) its.toArray) z1 z2 z3 z4 ⟨z5, tp⟩ l1 (by rw [List.size_toArray, ← hl]; exact l2) (lz.symm ▸ l3) fun h2 tk k => ⟨rfl, I.turnedL (ch := zipAt N) (fun d o hd e => ?_) hf⟩
    obtain ⟨n1, n2, n3, n4⟩ := zip_not hd
    exact k d o n1 n2 n3 n4 e
end
/-- a text and a tuple in one row -/
def zipCur : List W → Option Cur
  | [.str z, .tup ws] => some (.seq ((z.zip ws).map fun p => .tup [sign p.1, p.2]))
  | _ => none
def xZip (a : Ax) : Ix := fun es h => (a es h).bind fun ws h1 => match zipCur ws with
  | some k => .ok k h1
  | none => .bad
def iZipX (K : PySem.W.Frag) (ta : TA) : TI := fun σ H R => ta σ H fun vs H1 => ∃ (x : Str) (b : Addr) (ys : List V), vs = [.str x, .ref b] ∧ SqT K H1 b ys ∧ R (ItXT K x b) H1
section
variable {X : Cx} {CT : CTx} {Wd : WX} {e e2 : Expr} {p pos tpos : Pos} {elts : List Expr} {kk : Nat} {ar : Ax}
theorem pi_zipX {ta : TA} (hg : Gl X "zip") (hm : X.mg "zip" = none) (ha : PA X [e, e2] ta) (hs : starEach [e, e2] X.env = (false, eval e X.env) :: starEach [e2] X.env := by rfl) (hpl : (backTo pos (starEach [e2] X.env)).any (·.1) = false := by rfl) :
    PI X (.Tuple elts kk tpos) (.Call (.Name "zip" p) [e, e2] [] pos) (iZipX X.K ta) := ⟨fun pins s σ H R I h => by
  refine PyProof.Rows.Call_ (ld_blt I hg hm PyProof.Rows.boot_zip (PyProof.Rows.callWith_type1 (thn (ha.run pos pins s σ H _ I h) fun us s1 hq => ?_) hs hpl))
  obtain ⟨vs, H1, I1, rv, x, b, ys, rfl, qy, q⟩ := hq
  obtain ⟨u1, u2, rfl, ⟨t, rfl⟩, r2⟩ := vals2 rv
  obtain rfl : u2 = Value.ref b := r2
  obtain ⟨its, rw_, tp, _⟩ := I1.tuple qy
  have hbl : b < s1.heap.objs.size := by obtain ⟨o, ho, _⟩ := id tp; exact Heap.lt_size ho
  refine zip_begins2 (begins_text x t) (begins_tuple b its.toArray) trivial tp fun h2 k1 k2 k3 k4 k5 k6 k7 => wpAny_pyIter_zip k1 ?_
  have I2 : Inv X pins σ H1 { s1 with heap := h2 } := I1.kept (t' := s1.toks) k7
  refine ⟨s1.heap.objs.size + 4, zipAt s1.heap.objs.size, _, _, H1, rfl, I2, turnXT (x := x) (t := t) hbl, ⟨k1, k2, ⟨_, _, k3⟩, ⟨_, k4, rfl, rfl⟩, ⟨_, k5, rfl, rfl⟩⟩, fun d hd => ?_, q⟩
  have hle : s1.heap.objs.size ≤ d := by
    simp only [zipAt, List.mem_cons, List.not_mem_nil, or_false] at hd
    have h5 : ∀ m, s1.heap.objs.size ≤ (s1.heap.objs.size + m : Nat) := fun m => Nat.le_add_right _ m
    rcases hd with rfl | rfl | rfl | rfl | rfl
    · exact h5 4
    · exact h5 2
    · exact h5 3
    · exact h5 0
    · exact h5 1
  exact I1.fpOk hle (I1.hok.fresh hle)⟩
theorem its_zipX {K : PySem.W.Frag} {ρ : Nat → Addr} {h : Hx} {H : Hp} {z : List Nat} {b : Addr} {ws : List W} {ys : List V} (S : Sim K CT ρ h H) (hz : z.all (· < 1114112) = true) (q : SqT K H b ys) (rs : Reps K CT ρ h.n H ws ys) :
    ItS K CT ρ h H (ItXT K ⟨z.toArray⟩ b) (.seq ((z.zip ws).map fun p => .tup [sign p.1, p.2])) := by
  have q' : ∀ ρ' h' H', Nxt K CT ρ h H ρ' h' H' → SqT K H' b ys := fun ρ' h' H' N => (Kp.of S N.toFw).t _ _ q
  refine ⟨fun j c => j ≤ z.length ∧ j ≤ ws.length ∧ c = .seq (((z.zip ws).map fun p => W.tup [sign p.1, p.2]).drop j), ⟨Nat.zero_le _, Nat.zero_le _, rfl⟩, fun j c e ρ' h' H' N => ?_⟩
  obtain ⟨l1, l2, rfl⟩ := e
  have lz : ((z.zip ws).map fun p => W.tup [sign p.1, p.2]).length = min z.length ws.length := by rw [List.length_map, List.length_zip]
  cases g : ((z.zip ws).map fun p => W.tup [sign p.1, p.2]).drop j with
  | nil =>
    have := List.drop_eq_nil_iff.mp g
    rw [lz] at this
    refine ⟨ys, q' ρ' h' H' N, ?_, ?_, ?_⟩
    · show j ≤ z.toArray.size
      rw [List.size_toArray]
      exact l1
    · rw [← rs.length]
      exact l2
    · show j = z.toArray.size ∨ _
      rw [List.size_toArray, ← rs.length]
      omega
  | cons w r =>
    have hj : ((z.zip ws).map fun p => W.tup [sign p.1, p.2])[j]? = some w := by
      have : (((z.zip ws).map fun p => W.tup [sign p.1, p.2]).drop j)[0]? = some w := by rw [g]; rfl
      rwa [List.getElem?_drop, Nat.add_zero] at this
    rw [List.getElem?_map] at hj
    obtain ⟨pr, hp, hw⟩ := Option.map_eq_some_iff.mp hj
    obtain ⟨c, wv⟩ := pr
    obtain ⟨hc, hwv⟩ := List.getElem?_zip_eq_some.mp hp
    obtain ⟨v, ev, rv⟩ := rs.get hwv
    have hcz : (⟨z.toArray⟩ : Str).cps[j]? = some c := by
      show z.toArray[j]? = some c
      rw [List.getElem?_toArray]
      exact hc
    subst hw
    refine ⟨⟨(List.getElem?_eq_some_iff.mp hc).1, (List.getElem?_eq_some_iff.mp hwv).1, ?_⟩, ⟨ys, v, c, q' ρ' h' H' N, ev, hcz⟩, fun x H'' y => ?_⟩
    · rw [← List.drop_drop, g]
      rfl
    · obtain ⟨T, c', y', rfl, hT, rfl, e1, e2⟩ := y
      rw [hcz] at e1
      cases e1
      have e3 := e2 ys (q' ρ' h' H' N)
      rw [ev] at e3
      cases e3
      have N2 : Nxt K CT ρ' h' H' ρ' h' (upd H' T (.tup [.str ⟨#[c]⟩, v])) := Nxt.aside N.sim hT
      have r1 : Rep K CT ρ' h'.n (upd H' T (.tup [.str ⟨#[c]⟩, v])) (.str [c]) (.str ⟨[c].toArray⟩) := .str (by
        rw [List.all_cons, List.all_eq_true.mp hz c (List.mem_of_getElem? hc)]
        rfl)
      exact ⟨N2, .tup (.of upd_same) (.cons r1 (.cons (Rep.keep N.sim N2.toFw _ _ (Rep.keep S N.toFw _ _ rv)) .nil))⟩
theorem si_zip (hg : Gl X "zip") (hm : X.mg "zip" = none) (ha : SA X CT Wd [e, e2] ar) (hs : starEach [e, e2] X.env = (false, eval e X.env) :: starEach [e2] X.env := by rfl) (hpl : (backTo pos (starEach [e2] X.env)).any (·.1) = false := by rfl) :
    SI X CT Wd (.Tuple elts kk tpos) (.Call (.Name "zip" p) [e, e2] [] pos) (xZip ar) := (pi_zipX hg hm ha hs hpl).wk fun σ H R ⟨ρ, h, es, S, E, q⟩ => by
  have q' : PostI X.K CT Wd ρ h H σ ((ar es h).bind fun ws h1 => match zipCur ws with
    | some k => .ok k h1
    | none => .bad) R := q
  refine ⟨ρ, h, es, S, E, ?_⟩
  cases g : ar es h with
  | bad => rw [g] at q'; exact q'
  | exc x h1 => rw [g] at q'; exact q'
  | ok ws h1 =>
    rw [g] at q'
    intro ρ' H' vs N r
    have q2 : PostI X.K CT Wd ρ h H σ (match zipCur ws with
      | some k => .ok k h1
      | none => .bad) R := q'
    cases g2 : zipCur ws with
    | none => rw [g2] at q2; exact q2.elim
    | some k =>
      rw [g2] at q2
      unfold zipCur at g2
      split at g2
      · rename_i z us
        cases g2
        cases r with
        | cons r1 t =>
          cases t with
          | cons r2 t =>
            cases t
            cases r1 with
            | str hz =>
              cases r2 with
              | tup sq rs => exact ⟨_, _, _, rfl, sq, q2 ρ' H' _ N (its_zipX N.sim hz sq rs)⟩
      · cases g2
/-! ### range with a step of -1 -/
def rng3W : List W → Hx → R Cur
  | [.int i, .int j, .int c], h => if c = -1 ∧ -1000000 ≤ i ∧ i ≤ 1000000 ∧ -1000000 ≤ j ∧ j ≤ 1000000 then .ok (.seq ((List.range (i - j).toNat).map fun (k : Nat) => W.int (i - (k : Int)))) h else .bad
  | _, _ => .bad
def xRng3 (a : Ax) : Ix := fun es h => (a es h).bind fun ws h1 => rng3W ws h1
theorem its_down {K : PySem.W.Frag} {ρ : Nat → Addr} {h : Hx} {H : Hp} (i : Int) (n : Nat) : ItS K CT ρ h H (Itc i (-1) n) (.seq ((List.range n).map fun (k : Nat) => W.int (i - (k : Int)))) := by
  refine its_seq (fun j H' hj => ?_) fun j w hj ρ' h' H' N => ⟨?_, fun x H'' y => ?_⟩
  · rw [List.length_map, List.length_range] at hj
    exact hj
  · have := (List.getElem?_eq_some_iff.mp hj).1
    rw [List.length_map, List.length_range] at this
    exact this
  · obtain ⟨e, rfl⟩ := y
    refine ⟨e, ?_⟩
    rw [List.getElem?_map] at hj
    obtain ⟨k, hk, rfl⟩ := Option.map_eq_some_iff.mp hj
    obtain ⟨l, hk'⟩ := List.getElem?_eq_some_iff.mp hk
    rw [List.getElem_range] at hk'
    rw [← hk', show i + (j : Nat) * (-1 : Int) = i - (j : Int) by omega]
    exact .int _
theorem si_range3 {a b c : Expr} {tg : Expr} (hg : Gl X "range") (hm : X.mg "range" = none) (ha : SA X CT Wd [a, b, c] ar) (hs : starEach [a, b, c] X.env = (false, eval a X.env) :: starEach [b, c] X.env := by rfl) (hpl : (backTo pos (starEach [b, c] X.env)).any (·.1) = false := by rfl) :
    SI X CT Wd tg (.Call (.Name "range" p) [a, b, c] [] pos) (xRng3 ar) := (pi_range3 hg hm ha hs hpl).wk fun σ H R ⟨ρ, h, es, S, E, q⟩ => by
  have q' : PostI X.K CT Wd ρ h H σ ((ar es h).bind fun ws h1 => rng3W ws h1) R := q
  refine ⟨ρ, h, es, S, E, ?_⟩
  cases g : ar es h with
  | bad => rw [g] at q'; exact q'
  | exc x h1 => rw [g] at q'; exact q'
  | ok ws h1 =>
    rw [g] at q'
    intro ρ' H' vs N r
    have q2 : PostI X.K CT Wd ρ h H σ (rng3W ws h1) R := q'
    unfold rng3W at q2
    split at q2
    · rename_i i j c
      by_cases cc : c = -1 ∧ -1000000 ≤ i ∧ i ≤ 1000000 ∧ -1000000 ≤ j ∧ j ≤ 1000000
      · rw [if_pos cc] at q2
        obtain ⟨rfl, c1, c2, c3, c4⟩ := cc
        cases r with
        | cons r1 t => cases t with
          | cons r2 t => cases t with
            | cons r3 t =>
              cases t
              cases r1
              cases r2
              cases r3
              exact ⟨i, j, -1, (i - j).toNat, rfl, RgC.neg (by omega) (by omega) (by omega) (by omega), q2 ρ' H' _ N (its_down i _)⟩
      · rw [if_neg cc] at q2
        exact q2.elim
    · exact q2.elim
/-! ### a list turned round -/
def revW (w : W) (h : Hx) : R W := match itemsOf h w with
  | some xs => if xs.length ≤ lim then .ok (.ref h.n) (h.new (.lst xs.reverse)) else .bad
  | none => .bad
theorem reps_rev {K : PySem.W.Frag} {ρ : Nat → Addr} {n : Nat} {H : Hp} : ∀ {ws : List W} {vs : List V}, Reps K CT ρ n H ws vs → Reps K CT ρ n H ws.reverse vs.reverse
  | _, _, .nil => .nil
  | _, _, .cons r t => by
    rw [List.reverse_cons, List.reverse_cons]
    exact (reps_rev t).append (.cons r .nil)
theorem se_rev {ce : Ex} {k : Nat} {p1 p2 p3 : Pos} (he : SE X CT Wd e ce) : SE X CT Wd (.Subscript e (.Slice none none (some (.UnaryOp .USub (.Constant (.int 1) k p1) p2)) p3) pos) (xUn revW ce) := (pe_revL he).wk fun σ H Q ⟨ρ, h, es, S, E, q⟩ => by
  refine ⟨ρ, h, es, S, E, Post.bind (RR := RW X.K CT) S q fun w h1 ρ1 H1 v N1 r1 p1 => ?_⟩
  unfold revW at p1
  cases g : itemsOf h1 w with
  | none => rw [g] at p1; exact p1.elim
  | some xs =>
    rw [g] at p1
    obtain ⟨c, p2⟩ := post_if (show Post X.K CT (RW X.K CT) Wd ρ1 h1 H1 σ (if xs.length ≤ lim then .ok (.ref h1.n) (h1.new (.lst xs.reverse)) else .bad) Q from p1)
    obtain ⟨a, vs, rfl, sq, rs⟩ := itemsOf_of N1.sim r1 g
    exact ⟨a, vs, rfl, sq, fun b hb => post_lst N1.sim p2 (reps_rev rs) hb⟩
end
end Sx

set_option linter.all false
set_option autoImplicit false
set_option maxRecDepth 100000
set_option maxHeartbeats 2000000
namespace Sx
open PySem L2
/-! ### a pair stored in a dict, by the machine itself -/
section
variable {X : Cx} {CT : CTx} {Wd : WX} {pins : List (Addr × Obj)} {s : Shared} {σ : L2.St} {H : Hp} {ρ : Nat → Addr} {h : Hx}
theorem dset {D : Addr} {i v : V} {ku vu : Value} {Q : Hp → Prop} {Q' : Unit → Shared → Prop} {E : Value → Shared → Prop} (hu : X.A.units + 65 < cLine) (I : Inv X pins σ H s) (ri : RelV i ku) (rv : RelV v vu) (q : rSetK D i v H Q ∨ rSetT X.K X.prog X.w (.ref D) i v H Q) (hQ : ∀ H' s', Inv X pins σ H' s' → Q H' → Q' () s') :
    wpAny (model X.prog X.w) X.A (dictSet D ku vu) Q' E s := by
  rcases q with ⟨kvs, k, rfl, hD, hz, q⟩ | ⟨k, xs, a, b, ea, rfl, g, mu, hl, q⟩
  · exact d_dictSet I hD hz ri rv fun s' I' => hQ _ s' I' q
  · cases ea
    obtain rfl : ku = Value.ref b := ri
    obtain ⟨Dt, hk, hm⟩ := g.dict I
    refine wpAny_dictSet_heap (knd := nestedKind X.prog X.w) (show X.A.units + 8 < cLine by omega) hk Dt (fun h2 D2 sb => ?_) (by rw [sizeLine_eq]; omega)
    refine hQ _ _ (I.write (t' := s.toks + (nestedKind X.prog X.w).draws k) (x := D) (e := D) (o := dNo X.prog X.w D (storedH xs k b vu)) mu (.inl rfl) (fun c ob hc z => (sb.2 c hc).trans z) ?_ (dNo_ok D2)) (q vu rv hm)
    obtain ⟨o, _, _, h1, _⟩ := D2
    exact ⟨o, h1⟩
end
/-! ### dict displays -/
def putAll (o : O) : List (W × W) → Option O
  | [] => some o
  | p :: r => (dPut o p.1 p.2).bind fun o' => putAll o' r
/-- keys and values, from the left -/
def xPairs : List (Ex × Ex) → Env → Hx → R (List (W × W))
  | [], _, h => .ok [] h
  | (k, v) :: r, es, h => (k es h).bind fun kw h1 => (v es h1).bind fun vw h2 => (xPairs r es h2).bind fun ps h3 => .ok ((kw, vw) :: ps) h3
def xDic (ps : List (Ex × Ex)) : Ex := fun es h => (xPairs ps es (h.new (.dic false []))).bind fun kvs h1 => match h1.get h.n, putAll (.dic false []) kvs with
  | some (.dic false []), some o => .ok (.ref h.n) (h1.put h.n o)
  | _, _ => .bad
inductive RepP (K : PySem.W.Frag) (CT : CTx) (ρ : Nat → Addr) (n : Nat) (H : Hp) : List (W × W) → List (V × V) → Prop
  | nil : RepP K CT ρ n H [] []
  | cons {a b : W} {u v : V} {ws : List (W × W)} {vs : List (V × V)} : Rep K CT ρ n H a u → Rep K CT ρ n H b v → RepP K CT ρ n H ws vs → RepP K CT ρ n H ((a, b) :: ws) ((u, v) :: vs)
theorem RepP.keep {K : PySem.W.Frag} {CT : CTx} {ρ ρ' : Nat → Addr} {h : Hx} {n' : Nat} {H H' : Hp} (S : Sim K CT ρ h H) (F : Fw ρ h.n H ρ' n' H') : ∀ {ws : List (W × W)} {vs : List (V × V)}, RepP K CT ρ h.n H ws vs → RepP K CT ρ' n' H' ws vs
  | _, _, .nil => .nil
  | _, _, .cons a b t => .cons (Rep.keep S F _ _ a) (Rep.keep S F _ _ b) (RepP.keep S F t)
/-- the pairs of a display, told by plain functions -/
inductive SP2 (X : Cx) (CT : CTx) (Wd : WX) : List (Option Expr) → List Expr → List (Ex × Ex) → Prop
  | nil : SP2 X CT Wd [] [] []
  | cons {k v : Expr} {ck cv : Ex} {ks : List (Option Expr)} {vs : List Expr} {cs : List (Ex × Ex)} : SE X CT Wd k ck → SE X CT Wd v cv → SP2 X CT Wd ks vs cs → SP2 X CT Wd (some k :: ks) (v :: vs) ((ck, cv) :: cs)
section
variable {X : Cx} {CT : CTx} {Wd : WX}
theorem run_pairs {pos : Pos} : ∀ {ks : List (Option Expr)} {vs : List Expr} {cs : List (Ex × Ex)}, SP2 X CT Wd ks vs cs → ∀ {pins : List (Addr × Obj)} {s : Shared} {σ : L2.St} {H : Hp} {ρ : Nat → Addr} {h : Hx} {es : Env} {Q : List (V × V) → Hp → Prop}, Inv X pins σ H s → Sim X.K CT ρ h H → REnv X.K CT ρ h.n H es σ →
    Post X.K CT (RepP X.K CT) Wd ρ h H σ (xPairs cs es h) Q → wpAny (model X.prog X.w) X.A (evalPairs (pairTrees ks vs X.env pos)) (fun us s' => ∃ ps H', Inv X pins σ H' s' ∧ VV ps us ∧ Q ps H') X.xe s
  | _, _, _, .nil, pins, s, σ, H, ρ, h, es, Q, I, S, E, p => pairTrees_nil_walk ⟨[], H, I, .nil, Post.here S p .nil⟩
  | _, _, _, .cons (ck := ck) (cv := cv) (cs := cs) hk hv hr, pins, s, σ, H, ρ, h, es, Q, I, S, E, p => by
    refine pairTrees_cons_walk (thn (hk.run pins s σ H (fun x H1 => tE X.K CT Wd cv σ H1 fun y H2 => ∃ ρ2 h2, Sim X.K CT ρ2 h2 H2 ∧ REnv X.K CT ρ2 h2.n H2 es σ ∧ Post X.K CT (RepP X.K CT) Wd ρ2 h2 H2 σ (xPairs cs es h2) fun ps H3 => Q ((x, y) :: ps) H3) I ⟨ρ, h, es, S, E, Post.bind (RR := RW X.K CT) S p fun kw h1 ρ1 H1 x N1 r1 p1 =>
      ⟨ρ1, h1, es, N1.sim, E.keep S N1.toFw, Post.bind (RR := RW X.K CT) N1.sim p1 fun vw h2 ρ2 H2 y N2 r2 p2 => ⟨ρ2, h2, N2.sim, (E.keep S N1.toFw).keep N1.sim N2.toFw, Post.bind (RR := RepP X.K CT) N2.sim p2 fun ps h3 ρ3 H3 vs N3 r3 p3 => ?_⟩⟩⟩) fun u s1 hx => ?_)
    · exact Post.here N3.sim p3 (.cons (Rep.keep N2.sim N3.toFw _ _ (Rep.keep N1.sim N2.toFw _ _ r1)) (Rep.keep N2.sim N3.toFw _ _ r2) r3)
    · obtain ⟨x, H1, I1, rx, q1⟩ := hx
      refine thn (hv.run pins s1 σ H1 _ I1 q1) fun u2 s2 hy => ?_
      obtain ⟨y, H2, I2, ry, ρ2, h2, S2, E2, q2⟩ := hy
      exact thn (run_pairs hr I2 S2 E2 q2) fun us s3 ⟨ps, H3, I3, rel, q3⟩ => ⟨(x, y) :: ps, H3, I3, .cons ⟨rx, ry⟩ rel, q3⟩
def putTurn (D : Addr) : Value × Value → PUnit → Sem (ForInStep PUnit) := fun x _ => match x with
  | (k, v) => do
    dictSet D k v
    pure (ForInStep.yield PUnit.unit)
/-- pairs in hand are stored, one behind the other -/
theorem run_puts {pins : List (Addr × Obj)} {σ : L2.St} {Q : Unit → Shared → Prop} {E : Value → Shared → Prop} {D : Addr} {j : Nat} (hP : X.prog = CT.P) (hw : X.w = CT.w) (hu : X.A.units + 65 < cLine) : ∀ {kvs : List (W × W)} {ps : List (V × V)} {us : List (Value × Value)} {s : Shared} {H : Hp} {ρ : Nat → Addr} {h : Hx} {o o' : O},
    Inv X pins σ H s → Sim X.K CT ρ h H → h.get j = some o → ρ j = D → RepP X.K CT ρ h.n H kvs ps → VV ps us → putAll o kvs = some o' → (∀ H' s' h', Inv X pins σ H' s' → Nxt X.K CT ρ h H ρ h' H' → (∀ i, h'.get i = (h.put j o').get i) → h'.n = h.n → Q () s') →
    wpAny (model X.prog X.w) X.A (forIn us PUnit.unit (putTurn D)) Q E s
  | [], _, _, s, H, ρ, h, o, o', I, S, g, e, .nil, .nil, z, hQ => by
    cases z
    rw [List.forIn_nil]
    refine wpAny_pure (hQ H s h I (Nxt.refl S) (fun i => ?_) rfl)
    rw [Hx.get_put]
    by_cases c : i = j
    · rw [if_pos c, c]
      exact g
    · rw [if_neg c]
  | p :: r, _, _, s, H, ρ, h, o, o', I, S, g, e, .cons ra rb rt, .cons ⟨q1, q2⟩ qt, z, hQ => by
    obtain ⟨o1, z1, z2⟩ := Option.bind_eq_some_iff.mp (show (dPut o _ _).bind (fun o' => putAll o' r) = some o' from z)
    rw [List.forIn_cons]
    have hj := S.lt j o g
    have step := dPut_ofK hP hw S g hj ra rb z1 (Q := fun H' => Nxt X.K CT ρ h H ρ (h.put j o1) H') fun H' N => N
    rw [e] at step
    refine wpAny_bind (wpAny_bind (dset hu I q1 q2 step fun H' s' I' N => wpAny_pure ?_))
    show wpAny (model X.prog X.w) X.A (forIn _ PUnit.unit (putTurn D)) Q E s'
    refine run_puts hP hw hu I' N.sim (by rw [Hx.get_put, if_pos rfl]) e (RepP.keep S N.toFw rt) qt z2 fun H2 s2 h2 I2 N2 g2 e2 => hQ H2 s2 h2 I2 (N.trans S N2) (fun i => ?_) (e2.trans rfl)
    rw [g2, Hx.get_put, Hx.get_put, Hx.get_put]
    by_cases c : i = j
    · rw [if_pos c, if_pos c]
    · rw [if_neg c, if_neg c, if_neg c]
theorem Nxt.congr {K : PySem.W.Frag} {ρ ρ' : Nat → Addr} {h h' h2 : Hx} {H H' : Hp} (N : Nxt K CT ρ h H ρ' h' H') (g : ∀ i, h'.get i = h2.get i) (e : h'.n = h2.n) : Nxt K CT ρ h H ρ' h2 H' := by
  obtain ⟨F, S⟩ := N
  refine ⟨?_, ?_, ?_, ?_, ?_, S.tab⟩
  · rw [← e]; exact F
  · rw [← e]; exact S.inj
  · intro i hi
    obtain ⟨o, eo⟩ := S.dom i (by rw [e]; exact hi)
    exact ⟨o, by rw [← g]; exact eo⟩
  · intro i o eo
    rw [← e]
    exact S.lt i o (by rw [g]; exact eo)
  · intro i o eo
    rw [← e]
    exact S.ob i o (by rw [g]; exact eo)
theorem pairs_vals : ∀ {ks : List (Option Expr)} {vs : List Expr} {cs : List (Ex × Ex)}, SP2 X CT Wd ks vs cs → ks.all (·.isSome) = true ∧ ks.length = vs.length
  | _, _, _, .nil => ⟨rfl, rfl⟩
  | _, _, _, .cons _ _ t => by
    obtain ⟨a, b⟩ := pairs_vals t
    exact ⟨by rw [List.all_cons, a]; rfl, by rw [List.length_cons, List.length_cons, b]⟩
theorem se_dic {ks : List (Option Expr)} {vs : List Expr} {cs : List (Ex × Ex)} {pos : Pos} (hP : X.prog = CT.P) (hw : X.w = CT.w) (hu : X.A.units + 65 < cLine) (hp : SP2 X CT Wd ks vs cs) (h0 : ks ≠ []) (h15 : ks.length ≤ 15) : SE X CT Wd (.Dict ks vs pos) (xDic cs) := ⟨fun pins s σ H Q I ⟨ρ, h, es, S, E, p⟩ => by
  obtain ⟨hall, hl⟩ := pairs_vals hp
  have hn := pairTrees_length ks vs X.env pos hall hl
  rw [arm_eval_Dict, zip_pairTrees ks vs X.env pos hall hl, dictDisplay_pairs (pairTrees ks vs X.env pos) (fun e => h0 (List.length_eq_zero_iff.mp (by rw [← hn, e]; rfl))) (by rw [hn]; omega)]
  refine wpAny_bind (wpAny_standAt (wpAny_bind ?_))
  unfold subDict
  refine wpAny_bind (wpAny_alloc (wpAny_bind (wpAny_holding ?_)))
  rw [if_pos (by rw [hn]; exact h15)]
  have fr := I.hok.fresh (Nat.le_refl s.heap.objs.size)
  have I1 := I.laid (a := s.heap.objs.size) (o := .dK []) (h' := s.heap.push { cls := .type "dict", data := .dict #[] }) (t' := s.toks) (fun _ _ q => Heap.get?_push_of_some _ q) (Nat.le_refl _) (dk_empty s.heap I.big)
  have N1 : Nxt X.K CT ρ h H (ρnew ρ h.n s.heap.objs.size) (h.new (.dic false [])) (upd H s.heap.objs.size (.dK [])) := Nxt.fresh S fr ⟨default, [], upd_same, .nil⟩
  have at_n : ρnew ρ h.n s.heap.objs.size h.n = s.heap.objs.size := if_pos rfl
  refine wpAny_bind (thn (run_pairs hp I1 N1.sim (E.keep S N1.toFw) (Q := fun ps H2 => ∃ ρ2 h2 kvs o, Nxt X.K CT (ρnew ρ h.n s.heap.objs.size) (h.new (.dic false [])) (upd H s.heap.objs.size (.dK [])) ρ2 h2 H2 ∧ Nxt X.K CT ρ h H ρ2 h2 H2 ∧ ρ2 h.n = s.heap.objs.size ∧ h2.get h.n = some (.dic false []) ∧ RepP X.K CT ρ2 h2.n H2 kvs ps ∧ putAll (.dic false []) kvs = some o ∧ Post X.K CT (RW X.K CT) Wd ρ2 h2 H2 σ (.ok (.ref h.n) (h2.put h.n o)) Q) ?_) fun us s2 hx => ?_)
  · refine Post.bind (RR := RepP X.K CT) N1.sim (Post.step S N1 p) fun kvs h2 ρ2 H2 ps N2 rp p2 => ?_
    have p3 : Post X.K CT (RW X.K CT) Wd ρ2 h2 H2 σ (match h2.get h.n, putAll (.dic false []) kvs with
      | some (.dic false []), some o => .ok (.ref h.n) (h2.put h.n o)
      | _, _ => .bad) Q := p2
    split at p3
    · rename_i o g1 g2
      exact ⟨ρ2, h2, kvs, o, N2, N1.trans S N2, (N2.ext h.n (Nat.lt_succ_self _)).trans at_n, g1, rp, g2, p3⟩
    · exact p3.elim
  · obtain ⟨ps, H2, I2, rel, ρ2, h2, kvs, o, N0, N2, e2, g2, rp, pa, p2⟩ := hx
    refine wpAny_holding ?_
    refine wpAny_bind ?_
    show wpAny (model X.prog X.w) X.A (forIn us PUnit.unit (putTurn s.heap.objs.size)) _ _ s2
    refine run_puts hP hw hu I2 N2.sim g2 e2 rp rel pa fun H3 s3 h3 I3 N3 g3 n3 => wpAny_pure (wpAny_pure (wpAny_pure ?_))
    have N4 : Nxt X.K CT ρ2 h2 H2 ρ2 (h2.put h.n o) H3 := Nxt.congr N3 g3 n3
    have hi : h.n < (h2.put h.n o).n := N2.sim.lt h.n _ g2
    have r : Rep X.K CT ρ2 (h2.put h.n o).n H3 (.ref h.n) (.ref (ρ2 h.n)) := .ref hi
    rw [e2] at r
    exact ⟨.ref s.heap.objs.size, H3, I3, rfl, p2 ρ2 H3 _ N4 r⟩⟩
end
end Sx

set_option linter.all false
set_option autoImplicit false
set_option maxRecDepth 100000
set_option maxHeartbeats 2000000
namespace Sx
open PySem L2
open PyProof.Rows hiding St
/-! ### dict comprehensions, keys ints, texts, tuples -/
/-- what is asked of the walk: D the new dict -/
def tDX (K : PySem.W.Frag) (P : Program) (pw : World) (wi : TI) (g : TG) (tt : TT) (tk tv : TE) (vs : List Nat) : TE := fun σ H Q => wi σ H fun J H1 => ∀ D, H1 D = none → (D == sysModules) = false → ∃ W : Nat → Nat → Hp → Prop, (∃ m, W 0 m (upd H1 D (.dK []))) ∧ ∀ i m H, W i m H →
  (J.stop i H ∧ Q (.ref D) H) ∨ (J.go i H ∧ ∃ Nx : Hp → Prop, (∀ H', Nx H' → ∃ m', m' < m ∧ W (i + 1) m' H') ∧ ∀ x H', J.yld i H x H' → g x (wipe σ vs) H' fun σ2 H2 => wipe σ2 vs = wipe σ vs ∧ tt σ2 H2 fun b H3 =>
    if b = true then tk σ2 H3 fun y H4 => tv σ2 H4 fun z H5 => (rSetK D y z H5 Nx ∨ rSetT K P pw (.ref D) y z H5 Nx) else Nx H3)
abbrev InBlk (X : Cx) (scope : Scope) (φ : Cx → Prop) : Prop := ∀ (s : Shared) (H : Hp) (C : Addr) (cl : List (Str × Addr)) (fp : List Addr), φ (X.blk s H scope (compEnvC scope cl C X.env) fp)
section
variable {X : Cx} {pins : List (Addr × Obj)} {s : Shared} {σ : L2.St} {H : Hp}
theorem dX_core {Q : VK} {kx vx tg iter : Expr} {ifs : List Expr} {scope : Scope} {own : List (Str × Nat)} {pos pos' : Pos} {wi : TI} {g : TG} {tt : TT} {tk tv : TE} {use : Option (Value → Sem Unit)} {Qf : Value → Shared → Prop} (hu : X.A.units + 65 < cLine) (hc : X.calm = true) (hN : X.N.Nodup) (I : Inv X pins σ H s) (hi : PI X tg iter wi)
    (ok : BlkOk X.N X.env.scope scope own) (hg : InBlk X scope fun Y => PG Y tg g) (ht : InBlk X scope fun Y => PTs Y ifs tt) (hk : InBlk X scope fun Y => PE Y kx tk) (he : InBlk X scope fun Y => PE Y vx tv) (hs : ∀ x, foldedSetIterable iter X.env x = pure x)
    (h : tDX X.K X.prog X.w wi g tt tk tv (own.map (·.2)) σ H Q) (hRR : ∀ D C s' m H', Inv X pins σ H' s' → Q (.ref D) H' → s'.heap.Ns C m → FpOk X pins H' C → compPost (model X.prog X.w) X.A X.xe use Qf (.ref D) C (.ok .next) s') :
    wpAny (model X.prog X.w) X.A (comprehension (.DictComp kx vx [⟨tg, iter, ifs, 0⟩] scope pos) scope X.env pos' newDict false (eval iter X.env) use) Qf X.xe s := by
  have free : ∀ y ∈ scope.names, y.2 = .free → ∃ c, X.env.cells.lookup y.1 = some c := fun y hy e => (ok.free y hy e).elim (fun k => I.ok.has _ (.inl k)) fun k => I.ok.has _ (.inr k)
  refine wpAny_comprehension_free (use := use) rfl hs (closure_ok free) ok.kind (fun y hy e => by rw [ok.uniq y hy, e]) (thn (hi.run pins s σ H _ I h) fun xv sa hx => thn hx fun itv sb hb => ?_)
  obtain ⟨it, fp, tn, J, Hb, rfl, Ib, T, stb, fb, q⟩ := hb
  refine wpAny_newObj_type (newEnv_comp ?_)
  obtain ⟨D, hD⟩ : ∃ D, D = sb.heap.objs.size := ⟨_, rfl⟩
  rw [← hD]
  have nD : Hb D = none := Ib.hok.fresh (Nat.le_of_eq hD.symm)
  have mD : (D == sysModules) = false := beq_eq_false_iff_ne.mpr (by rw [hD]; exact Nat.ne_of_gt Ib.big)
  obtain ⟨W, ⟨m0, w0⟩, turn⟩ := q D nD mD
  obtain ⟨sc, hsc⟩ : ∃ sc : Shared, sc = { sb with heap := sb.heap.push { cls := .type "dict", data := .dict #[] } } := ⟨_, rfl⟩
  obtain ⟨Hc, hHc⟩ : ∃ Hc, Hc = upd Hb D (.dK []) := ⟨_, rfl⟩
  have heapc : sc.heap = sb.heap.push { cls := .type "dict", data := .dict #[] } := by rw [hsc]
  have Ic : Inv X pins σ Hc sc := by
    rw [hsc, hHc]
    refine Ib.laid (t' := sb.toks) (fun b o e => Heap.get?_push_of_some _ e) (Nat.le_of_eq hD.symm) ?_
    rw [hD]
    exact dk_empty sb.heap Ib.big
  have fc : ∀ b ∈ fp, FpOk X pins Hc b ∧ b < sc.heap.objs.size := fun b hb => by
    obtain ⟨o, e, _⟩ := T.obj _ _ stb b hb
    have lt := Heap.lt_size e
    refine ⟨⟨?_, (fb b hb).2⟩, by rw [heapc, Heap.size_push]; exact Nat.lt_succ_of_lt lt⟩
    rw [hHc, upd_ne (by rw [hD]; exact Nat.ne_of_lt lt)]
    exact (fb b hb).1
  have stc : tn 0 sc.heap := T.keep _ _ _ stb fun b _ o e => by rw [heapc]; exact Heap.get?_push_of_some _ e
  have Id := block_start Ic ok hN fc
  rw [← hHc] at w0
  show codeAny _ _ (.compStart _ 0 (.ref it) (.ref D) (compEnvC scope (cellsFrom ((Shared.mk _ _ _ _ _).heap.objs.size + 1) scope.names (cloFrom X.env.cells scope.names [])) _ X.env)) (compPost _ X.A X.xe use Qf (.ref D) _) _
  rw [← hsc]
  obtain ⟨ce, hce⟩ : ∃ ce, ce = compEnvC scope (cellsFrom (sc.heap.objs.size + 1) scope.names (cloFrom X.env.cells scope.names [])) sc.heap.objs.size X.env := ⟨_, rfl⟩
  have pg := hg sc Hc sc.heap.objs.size (cellsFrom (sc.heap.objs.size + 1) scope.names (cloFrom X.env.cells scope.names [])) fp
  have pt := ht sc Hc sc.heap.objs.size (cellsFrom (sc.heap.objs.size + 1) scope.names (cloFrom X.env.cells scope.names [])) fp
  have pk := hk sc Hc sc.heap.objs.size (cellsFrom (sc.heap.objs.size + 1) scope.names (cloFrom X.env.cells scope.names [])) fp
  have pv := he sc Hc sc.heap.objs.size (cellsFrom (sc.heap.objs.size + 1) scope.names (cloFrom X.env.cells scope.names [])) fp
  rw [← hce] at Id pg pt pk pv
  have cL : ce.locals = sc.heap.objs.size := by subst hce; rfl
  obtain ⟨sd, hsd⟩ : ∃ sd : Shared, sd = { sc with heap := pushCells (sc.heap.push { cls := .type "dict", data := .dict #[] }) scope.names } := ⟨_, rfl⟩
  rw [← hsd] at Id
  have std : tn 0 sd.heap := T.keep _ _ _ stc fun b _ o e => by rw [hsd]; exact pushCells_keeps _ _ _ _ (Heap.get?_push_of_some _ e)
  suffices loop : codeAny (model X.prog X.w) X.A (.compLoop (.DictComp kx vx [⟨tg, iter, ifs, 0⟩] scope pos) 0 (.ref it) (.ref D) ce) (compPost (model X.prog X.w) X.A X.xe use Qf (.ref D) sc.heap.objs.size) sd by
    have fin := codeAny_compStart_dict loop (T.self X.A 0 _ _ _ std loop)
    rw [hce, hsd] at fin
    exact fin
  have stat : ∀ {σ' : L2.St} {H' : Hp} {s' : Shared}, Inv (X.blk sc Hc scope ce fp) [] σ' H' s' → (∀ b ∈ fp, H' b = none) → ∀ b ∈ fp, FpOk (X.blk sc Hc scope ce fp) [] H' b := fun {σ' H' s'} J' hn b hb =>
    ⟨hn b hb, (J'.ok.exf b hb).1, J'.ok.exfs b hb, .inl hb, (J'.ok.exf b hb).2, fun p hp => nomatch (show p ∈ ([] : List (Addr × Obj)) from hp)⟩
  refine compLoop_anyD (fun n s' => ∃ i H', Inv (X.blk sc Hc scope ce fp) [] (wipe σ (own.map (·.2))) H' s' ∧ tn i s'.heap ∧ (∀ b ∈ fp, H' b = none) ∧ W i n H') ?_ m0 ⟨0, Hc, Id, std, fun b hb => (fc b hb).1.1, w0⟩
  rintro n se ⟨i, He, Ie, ste, ne, we⟩
  rcases turn i n He we with ⟨stop, qq⟩ | ⟨go, Nx, hNx, step⟩
  · refine thnF (T.done (X.blk sc Hc scope ce fp) rfl rfl rfl hc i [] se _ He (fun _ _ => False) Ie (stat Ie ne) ste stop) fun r sf hr => ?_
    obtain ⟨rfl, If⟩ := hr
    have Ig : Inv X pins σ He sf := Ic.call' (ch := fp) If.os If.base If.hok If.bare fun b hb => ⟨(fc b hb).1.2.2.2.1, (fc b hb).1.2.1, (fc b hb).1.2.2.2.2.1, (fc b hb).1.2.2.2.2.2⟩
    have nC : He sc.heap.objs.size = none := cL ▸ (show He ce.locals = none from If.free)
    obtain ⟨m, hn, _⟩ := If.loc
    exact hRR D sc.heap.objs.size sf m He Ig qq (cL ▸ (show sf.heap.Ns ce.locals m from hn)) (Ic.fpOk (Nat.le_refl _) nC)
  · refine thnF (T.item (X.blk sc Hc scope ce fp) rfl rfl rfl hc i [] se _ He (fun _ _ => False) Ie (stat Ie ne) ste go) fun r sf hr => ?_
    obtain ⟨u, rfl, hf⟩ := hr
    refine thnF hf fun _ sg hg' => ?_
    obtain ⟨x, Hg, Ig, rg, yg, stg, ng⟩ := hg'
    have Ip := Ig.pinned (stat Ig ng) (T.obj _ _ stg)
    refine thnF (pg.run _ sg _ Hg x u _ Ip rg (step x Hg yg)) fun _ sh hh => ?_
    obtain ⟨σh, Hh, Ih, ew, qh⟩ := hh
    refine thnF (pt.run _ sh σh Hh _ Ih qh) fun b si hi' => ?_
    obtain ⟨Hi, Ii, qi⟩ := hi'
    have fin : ∀ {s' : Shared} {H' : Hp}, Inv (X.blk sc Hc scope ce fp) ([] ++ pinsAt fp sg.heap) σh H' s' → Nx H' → ∃ m, m < n ∧ ∃ i H', Inv (X.blk sc Hc scope ce fp) [] (wipe σ (own.map (·.2))) H' s' ∧ tn i s'.heap ∧ (∀ b ∈ fp, H' b = none) ∧ W i m H' := fun {s' H'} J' nx => by
      obtain ⟨m', lm, w'⟩ := hNx H' nx
      have pinned : ∀ b ∈ fp, ∀ o, sg.heap.get? b = some o → s'.heap.get? b = some o ∧ H' b = none := fun b hb o e =>
        ⟨(J'.pin (b, o) (List.mem_append_right _ (List.mem_append_right _ (mem_pinsAt hb e)))).1, (J'.pin (b, o) (List.mem_append_right _ (List.mem_append_right _ (mem_pinsAt hb e)))).2.1⟩
      refine ⟨m', lm, i + 1, H', (J'.unpinned (pins := [])).weak (by rw [← ew, wipe_length]) (fun j v e => (wipe_some (ew ▸ e)).1), T.keep _ _ _ stg fun b hb o e => (pinned b hb o e).1, fun b hb => ?_, w'⟩
      obtain ⟨o, e, _⟩ := T.obj _ _ stg b hb
      exact (pinned b hb o e).2
    cases b with
    | false => exact fin Ii qi
    | true =>
      refine thnF (pk.run _ si σh Hi _ Ii (by simpa using qi)) fun kz sj hj => ?_
      obtain ⟨yk, Hj, Ij, rj, qj⟩ := hj
      refine thnF (pv.run _ sj σh Hj _ Ij qj) fun vz sk hk' => ?_
      obtain ⟨yv, Hk, Ik, rk, qk⟩ := hk'
      exact dset (X := X.blk sc Hc scope ce fp) hu Ik rj rk qk fun H' s' J' nx => fin J' nx
/-- as a value -/
theorem pe_dX {kx vx tg iter : Expr} {ifs : List Expr} {scope : Scope} {own : List (Str × Nat)} {pos : Pos} {wi : TI} {g : TG} {tt : TT} {tk tv : TE} (hu : X.A.units + 65 < cLine) (hc : X.calm = true) (hN : X.N.Nodup) (hi : PI X tg iter wi) (ok : BlkOk X.N X.env.scope scope own) (hg : InBlk X scope fun Y => PG Y tg g) (ht : InBlk X scope fun Y => PTs Y ifs tt)
    (hk : InBlk X scope fun Y => PE Y kx tk) (he : InBlk X scope fun Y => PE Y vx tv) (hs : ∀ x, foldedSetIterable iter X.env x = pure x := by intro _; rfl) : PE X (.DictComp kx vx [⟨tg, iter, ifs, 0⟩] scope pos) (tDX X.K X.prog X.w wi g tt tk tv (own.map (·.2))) := ⟨fun pins s σ H Q I h => by
  rw [arm_eval_DictComp]
  refine dX_core hu hc hN I hi ok hg ht hk he hs h fun D C s' m H' J q hn f => ⟨m, hn, fun h2 sb => ?_⟩
  exact ⟨.ref D, H', J.turned (t' := s'.toks) (fun b o hb e => (sb.2 b hb).trans e) f.1 f.2.1 f.2.2.2.1 f.2.2.2.2.1 f.2.2.2.2.2, rfl, q⟩⟩
theorem ps_setDX {i : Nat} {y : Str} {py : Pos} {kx vx tg iter : Expr} {ifs : List Expr} {scope : Scope} {own : List (Str × Nat)} {pos spos : Pos} {wi : TI} {g : TG} {tt : TT} {tk tv : TE} (hu : X.A.units + 65 < cLine) (hc : X.calm = true) (hN : X.N.Nodup) (hy : X.N[i]? = some y) (hyl : X.env.scope.names.lookup y = some .local)
    (hsw : swapsWith (.DictComp kx vx [⟨tg, iter, ifs, 0⟩] scope pos) (some (.Name y py)) spos.line X.env = pure true) (hi : PI X tg iter wi) (ok : BlkOk X.N X.env.scope scope own) (hg : InBlk X scope fun Y => PG Y tg g) (ht : InBlk X scope fun Y => PTs Y ifs tt)
    (hk : InBlk X scope fun Y => PE Y kx tk) (he : InBlk X scope fun Y => PE Y vx tv) (hs : ∀ x, foldedSetIterable iter X.env x = pure x := by intro _; rfl) :
    PS X (.Assign [.Name y py] (.DictComp kx vx [⟨tg, iter, ifs, 0⟩] scope pos) spos) (tAsg (tDX X.K X.prog X.w wi g tt tk tv (own.map (·.2))) (gName i)) := ⟨fun pins s σ H D I h => by
  rw [exec_Assign_Name_used _ _ _ _ hsw]
  refine wpAny_bind (wpAny_standAt (wpAny_bind ?_))
  show wpAny _ X.A (do let _ ← comprehension (.DictComp kx vx [⟨tg, iter, ifs, 0⟩] scope pos) scope X.env (firstIterPos [⟨tg, iter, ifs, 0⟩] pos) newDict false (eval iter X.env) (some (assign (.Name y py) X.env))) _ _ s
  have h2 : tDX X.K X.prog X.w wi g tt tk tv (own.map (·.2)) σ H (fun x H1 => gName i x σ H1 D.nx) := h
  refine wpAny_bind (thn (dX_core (Qf := fun _ s' => SP X pins D .next s') hu hc hN I hi ok hg ht hk he hs h2 fun L C s' m H' J q hn f => ?_) fun _ s' hq => wpAny_pure (wpAny_pure hq))
  show wpAny _ _ (assign (.Name y py) X.env (.ref L)) _ _ _
  refine wpAny_assign_Name (store_ok2 (v := V.ref L) J hN hy (.inl hyl) rfl (fun s2 J2 ha => ?_) (.inr hyl))
  obtain ⟨a, sb, ha⟩ := ha
  have ne : C ≠ a := ha.elim (fun z => by rw [z]; exact f.2.1) fun z e => f.2.2.2.2.1 y a z e.symm
  exact ⟨m, hn.sameBut sb ne, fun h3 sb3 => ⟨_, H', J2.turned (t' := s2.toks) (fun b o hb e => (sb3.2 b hb).trans e) f.1 f.2.1 f.2.2.2.1 f.2.2.2.2.1 f.2.2.2.2.2, q⟩⟩⟩
end
end Sx

set_option linter.all false
set_option autoImplicit false
set_option maxRecDepth 100000
set_option maxHeartbeats 2000000
namespace Sx
open PySem L2
/-! ### dict comprehensions by plain loops -/
def dcPut (j : Nat) (k v : W) (h : Hx) : Option Hx := match h.get j with
  | some ob => match dPut ob k v with
    | some ob' => some (h.put j ob')
    | none => none
  | none => none
def dcLoop (g : Gx) (t : Tx) (ck cv : Ex) (es : Env) (j : Nat) : Nat → Cur → Hx → R W
  | 0, _, _ => .bad
  | m + 1, c, h => match c.step h with
    | none => .bad
    | some none => .ok (.ref j) h
    | some (some (w, c')) => (noexc (g w es h)).bind fun es2 h2 => (noexc (t es2 h2)).bind fun b h3 =>
      if b then (noexc (ck es2 h3)).bind fun kw h4 => (noexc (cv es2 h4)).bind fun vw h5 => match dcPut j kw vw h5 with
        | some h6 => dcLoop g t ck cv es j m c' h6
        | none => .bad
      else dcLoop g t ck cv es j m c' h3
def xDc (it : Ix) (g : Gx) (t : Tx) (ck cv : Ex) (vs : List Nat) : Ex := fun es h => (it es h).bind fun c h1 => dcLoop g t ck cv (wipeE es vs) h1.n (c.fuel h1 + 1) c (h1.new (.dic false []))
section
variable {X : Cx} {CT : CTx} {ρ1 : Nat → Addr} {Wd : WX} {h1 : Hx} {H1 : Hp} {σ : L2.St}
theorem dc_walk {J : It} {c0 : Cur} {g : Gx} {t : Tx} {ck cv : Ex} {es : Env} {vs us : List Nat} {Q : VK} {m0 : Nat} (hP : X.prog = CT.P) (hw : X.w = CT.w) (sub : ∀ i ∈ us, i ∈ vs) (S1 : Sim X.K CT ρ1 h1 H1) (E1 : REnv X.K CT ρ1 h1.n H1 es (wipe σ vs)) (I : ItS X.K CT ρ1 h1 H1 J c0)
    (p : Post X.K CT (RW X.K CT) Wd ρ1 h1 H1 σ (dcLoop g t ck cv es h1.n m0 c0 (h1.new (.dic false []))) Q) {D : Addr} (hD : H1 D = none) :
    ∃ W : Nat → Nat → Hp → Prop, (∃ m, W 0 m (upd H1 D (.dK []))) ∧ ∀ i m H, W i m H →
      (J.stop i H ∧ Q (.ref D) H) ∨ (J.go i H ∧ ∃ Nx : Hp → Prop, (∀ H', Nx H' → ∃ m', m' < m ∧ W (i + 1) m' H') ∧ ∀ x H', J.yld i H x H' → tG X.K CT W0 us g x (wipe σ vs) H' fun σ2 H2 => wipe σ2 vs = wipe σ vs ∧ tT X.K CT W0 t σ2 H2 fun b H3 =>
        if b = true then tE X.K CT W0 ck σ2 H3 fun y H4 => tE X.K CT W0 cv σ2 H4 fun z H5 => (rSetK D y z H5 Nx ∨ rSetT X.K X.prog X.w (.ref D) y z H5 Nx) else Nx H3) := by
  obtain ⟨P, P0, PS⟩ := I
  have N0 : Nxt X.K CT ρ1 h1 H1 (ρnew ρ1 h1.n D) (h1.new (.dic false [])) (upd H1 D (.dK [])) := Nxt.fresh S1 hD ⟨default, [], upd_same, .nil⟩
  have at0 : ρnew ρ1 h1.n D h1.n = D := if_pos rfl
  refine ⟨fun i m H => ∃ ρ h c, P i c ∧ Nxt X.K CT ρ1 h1 H1 ρ h H ∧ ρ h1.n = D ∧ h1.n < h.n ∧ Post X.K CT (RW X.K CT) Wd ρ1 h1 H1 σ (dcLoop g t ck cv es h1.n m c h) Q, ⟨m0, _, _, c0, P0, N0, at0, Nat.lt_succ_self _, p⟩, ?_⟩
  rintro i m H ⟨ρ, h, c, Pc, N, eD, lD, p⟩
  cases m with
  | zero => exact p.elim
  | succ m =>
    have st := PS i c Pc ρ h H N
    unfold dcLoop at p
    cases gs : c.step h with
    | none => rw [gs] at p; exact p.elim
    | some o =>
      rw [gs] at p st
      cases o with
      | none =>
        refine .inl ⟨st, ?_⟩
        have r : Rep X.K CT ρ h.n H (.ref h1.n) (.ref (ρ h1.n)) := .ref lD
        rw [eD] at r
        exact (show Post X.K CT (RW X.K CT) Wd ρ1 h1 H1 σ (.ok (.ref h1.n) h) Q from p) ρ H _ N r
      | some wc =>
        obtain ⟨w, c'⟩ := wc
        obtain ⟨P1, go, yl⟩ := st
        refine .inr ⟨go, fun H' => ∃ ρ h c, P (i + 1) c ∧ Nxt X.K CT ρ1 h1 H1 ρ h H' ∧ ρ h1.n = D ∧ h1.n < h.n ∧ Post X.K CT (RW X.K CT) Wd ρ1 h1 H1 σ (dcLoop g t ck cv es h1.n m c h) Q, fun H' q => ⟨m, Nat.lt_succ_self m, q⟩, fun x Hy hy => ?_⟩
        obtain ⟨Ny, rw_⟩ := yl x Hy hy
        have Nb := N.trans S1 Ny
        have p2 : Post X.K CT (RW X.K CT) Wd ρ1 h1 H1 σ ((noexc (g w es h)).bind fun es2 h2 => (noexc (t es2 h2)).bind fun b h3 =>
          if b then (noexc (ck es2 h3)).bind fun kw h4 => (noexc (cv es2 h4)).bind fun vw h5 => match dcPut h1.n kw vw h5 with
            | some h6 => dcLoop g t ck cv es h1.n m c' h6
            | none => .bad
          else dcLoop g t ck cv es h1.n m c' h3) Q := p
        refine ⟨ρ, h, es, w, Nb.sim, E1.keep S1 Nb.toFw, rw_, ?_⟩
        cases gg : g w es h with
        | bad => rw [gg] at p2; exact p2.elim
        | exc x h2 => rw [gg] at p2; exact p2.elim
        | ok es2 h2 =>
          rw [gg] at p2
          intro ρ2 H2 σ2 N2 E2 of2
          have Nb2 := Nb.trans S1 N2
          have e2 : ρ2 h1.n = D := (N2.ext _ lD).trans eD
          have l2 : h1.n < h2.n := Nat.lt_of_lt_of_le lD N2.le
          refine ⟨wipe_off sub of2, ρ2, h2, es2, N2.sim, E2, ?_⟩
          have p3 : Post X.K CT (RW X.K CT) Wd ρ1 h1 H1 σ ((noexc (t es2 h2)).bind fun b h3 =>
            if b then (noexc (ck es2 h3)).bind fun kw h4 => (noexc (cv es2 h4)).bind fun vw h5 => match dcPut h1.n kw vw h5 with
              | some h6 => dcLoop g t ck cv es h1.n m c' h6
              | none => .bad
            else dcLoop g t ck cv es h1.n m c' h3) Q := p2
          cases gt : t es2 h2 with
          | bad => rw [gt] at p3; exact p3.elim
          | exc x h3 => rw [gt] at p3; exact p3.elim
          | ok b h3 =>
            rw [gt] at p3
            intro ρ3 H3 b' N3 eb
            obtain rfl : b = b' := eb
            have Nb3 := Nb2.trans S1 N3
            have e3 : ρ3 h1.n = D := (N3.ext _ l2).trans e2
            have l3 : h1.n < h3.n := Nat.lt_of_lt_of_le l2 N3.le
            have E3 : REnv X.K CT ρ3 h3.n H3 es2 σ2 := E2.keep N2.sim N3.toFw
            cases b with
            | false =>
              rw [if_neg Bool.false_ne_true]
              exact ⟨ρ3, h3, c', P1, Nb3, e3, l3, p3⟩
            | true =>
              rw [if_pos rfl]
              refine ⟨ρ3, h3, es2, N3.sim, E3, ?_⟩
              have p4 : Post X.K CT (RW X.K CT) Wd ρ1 h1 H1 σ ((noexc (ck es2 h3)).bind fun kw h4 => (noexc (cv es2 h4)).bind fun vw h5 => match dcPut h1.n kw vw h5 with
                | some h6 => dcLoop g t ck cv es h1.n m c' h6
                | none => .bad) Q := p3
              cases ge : ck es2 h3 with
              | bad => rw [ge] at p4; exact p4.elim
              | exc x h4 => rw [ge] at p4; exact p4.elim
              | ok kw h4 =>
                rw [ge] at p4
                intro ρ4 H4 y N4 ry
                have Nb4 := Nb3.trans S1 N4
                have e4 : ρ4 h1.n = D := (N4.ext _ l3).trans e3
                have l4 : h1.n < h4.n := Nat.lt_of_lt_of_le l3 N4.le
                refine ⟨ρ4, h4, es2, N4.sim, E3.keep N3.sim N4.toFw, ?_⟩
                have p5 : Post X.K CT (RW X.K CT) Wd ρ1 h1 H1 σ ((noexc (cv es2 h4)).bind fun vw h5 => match dcPut h1.n kw vw h5 with
                  | some h6 => dcLoop g t ck cv es h1.n m c' h6
                  | none => .bad) Q := p4
                cases gv : cv es2 h4 with
                | bad => rw [gv] at p5; exact p5.elim
                | exc x h5 => rw [gv] at p5; exact p5.elim
                | ok vw h5 =>
                  rw [gv] at p5
                  intro ρ5 H5 z N5 rz
                  have Nb5 := Nb4.trans S1 N5
                  have e5 : ρ5 h1.n = D := (N5.ext _ l4).trans e4
                  have l5 : h1.n < h5.n := Nat.lt_of_lt_of_le l4 N5.le
                  have p6 : Post X.K CT (RW X.K CT) Wd ρ1 h1 H1 σ (match dcPut h1.n kw vw h5 with
                    | some h6 => dcLoop g t ck cv es h1.n m c' h6
                    | none => .bad) Q := p5
                  unfold dcPut at p6
                  cases go5 : h5.get h1.n with
                  | none => rw [go5] at p6; exact p6.elim
                  | some ob =>
                    rw [go5] at p6
                    cases gd : dPut ob kw vw with
                    | none => simp only [gd] at p6; exact p6.elim
                    | some ob' =>
                      simp only [gd] at p6
                      have z := dPut_ofK hP hw N5.sim go5 l5 (Rep.keep N4.sim N5.toFw _ _ ry) rz gd (Q := fun H' => ∃ ρ h c, P (i + 1) c ∧ Nxt X.K CT ρ1 h1 H1 ρ h H' ∧ ρ h1.n = D ∧ h1.n < h.n ∧ Post X.K CT (RW X.K CT) Wd ρ1 h1 H1 σ (dcLoop g t ck cv es h1.n m c h) Q) fun H' N6 => ⟨ρ5, _, c', P1, Nb5.trans S1 N6, e5, l5, p6⟩
                      rw [e5] at z
                      exact z
theorem dc_read {it : Ix} {g : Gx} {t : Tx} {ck cv : Ex} {own : List (Str × Nat)} {us : List Nat} (hP : X.prog = CT.P) (hw : X.w = CT.w) (sub : ∀ i ∈ us, i ∈ own.map (·.2)) {H : Hp} {Q : VK} (q : tE X.K CT Wd (xDc it g t ck cv (own.map (·.2))) σ H Q) : tDX X.K X.prog X.w (tI X.K CT Wd it) (tG X.K CT W0 us g) (tT X.K CT W0 t) (tE X.K CT W0 ck) (tE X.K CT W0 cv) (own.map (·.2)) σ H Q := by
  obtain ⟨ρ, h, es, S, E, p⟩ := q
  refine ⟨ρ, h, es, S, E, ?_⟩
  have p' : Post X.K CT (RW X.K CT) Wd ρ h H σ ((it es h).bind fun c h1 => dcLoop g t ck cv (wipeE es (own.map (·.2))) h1.n (c.fuel h1 + 1) c (h1.new (.dic false []))) Q := p
  cases gi : it es h with
  | bad => rw [gi] at p'; exact p'.elim
  | exc x h1 => rw [gi] at p'; exact p'
  | ok c h1 =>
    rw [gi] at p'
    intro ρ1 H1 J N I D hD _
    exact dc_walk hP hw sub N.sim (wipe_env (E.keep S N.toFw) _) I (Post.step S N p') hD
theorem se_dc {kx vx tg iter : Expr} {ifs : List Expr} {scope : Scope} {own : List (Str × Nat)} {pos : Pos} {it : Ix} {g : Gx} {t : Tx} {ck cv : Ex} {us : List Nat} (hP : X.prog = CT.P) (hw : X.w = CT.w) (hu : X.A.units + 65 < cLine) (hc : X.calm = true) (hN : X.N.Nodup) (hi : SI X CT Wd tg iter it) (ok : BlkOk X.N X.env.scope scope own)
    (hg : InBlk X scope fun Y => SG Y CT W0 us tg g) (ht : InBlk X scope fun Y => PTs0 Y CT ifs t) (hk : InBlk X scope fun Y => SE Y CT W0 kx ck) (he : InBlk X scope fun Y => SE Y CT W0 vx cv) (sub : ∀ i ∈ us, i ∈ own.map (·.2) := by decide) (hs : ∀ x, foldedSetIterable iter X.env x = pure x := by intro _; rfl) :
    SE X CT Wd (.DictComp kx vx [⟨tg, iter, ifs, 0⟩] scope pos) (xDc it g t ck cv (own.map (·.2))) := (pe_dX hu hc hN hi ok hg ht hk he hs).wk fun _ _ _ q => dc_read hP hw sub q
theorem sw_dc {kx vx : Expr} {gs : List Comprehension} {scope : Scope} {pos py : Pos} {y : Str} {l : Nat} {env : PySem.Env} (hk : env.scope.kind = .function) (hy : env.scope.names.lookup y = some .local) (hl : (py.line == pos.line) = true)
    (ha : (scope.names.any fun (n, k) => n == y && (k == .local || k == .cell)) = false) : swapsWith (.DictComp kx vx gs scope pos) (some (.Name y py)) l env = pure true := by
  have ky : env.kindOf y = some .local := hy
  have kb : env.blockKind = .function := by unfold Env.blockKind; rw [hk]; rfl
  unfold swapsWith
  show pure (env.blockKind == .function && env.kindOf y == some .local && py.line == (Expr.DictComp kx vx gs scope pos).pos.line && !(scope.names.any fun (n, k) => n == y && (k == .local || k == .cell))) = _
  rw [ha, ky, kb, show (py.line == (Expr.DictComp kx vx gs scope pos).pos.line) = true from hl]
  rfl
theorem s_setDc {i : Nat} {y : Str} {py : Pos} {kx vx tg iter : Expr} {ifs : List Expr} {scope : Scope} {own : List (Str × Nat)} {pos spos : Pos} {it : Ix} {g : Gx} {t : Tx} {ck cv : Ex} {us : List Nat} (hP : X.prog = CT.P) (hw : X.w = CT.w) (hu : X.A.units + 65 < cLine) (hc : X.calm = true) (hN : X.N.Nodup) (hy : X.N[i]? = some y) (hyl : X.env.scope.names.lookup y = some .local)
    (hsw : swapsWith (.DictComp kx vx [⟨tg, iter, ifs, 0⟩] scope pos) (some (.Name y py)) spos.line X.env = pure true) (hi : SI X CT Wd tg iter it) (ok : BlkOk X.N X.env.scope scope own)
    (hg : InBlk X scope fun Y => SG Y CT W0 us tg g) (ht : InBlk X scope fun Y => PTs0 Y CT ifs t) (hk : InBlk X scope fun Y => SE Y CT W0 kx ck) (he : InBlk X scope fun Y => SE Y CT W0 vx cv) (sub : ∀ i ∈ us, i ∈ own.map (·.2) := by decide) (hs : ∀ x, foldedSetIterable iter X.env x = pure x := by intro _; rfl) :
    SS X CT Wd (.Assign [.Name y py] (.DictComp kx vx [⟨tg, iter, ifs, 0⟩] scope pos) spos) (cAsg (xDc it g t ck cv (own.map (·.2))) (gxName i)) :=
  (ps_setDX (own := own) hu hc hN hy hyl hsw hi ok hg ht hk he hs).wk fun D σ H q => tAsg_of (vs := [i]) (fun _ _ _ z => dc_read hP hw sub z) (fun v σ H Q ⟨ρ, h, es, w, S, E, r, q⟩ => q ρ H _ (Nxt.refl S) (E.set r i) (off_set i σ _)) q
end
end Sx

set_option linter.all false
set_option autoImplicit false
set_option maxRecDepth 100000
set_option maxHeartbeats 2000000
namespace Sx
open PySem L2
/-! ### list comprehensions with two fors; D is ours from the beginning -/
def lcPut (j : Nat) (y : W) (h : Hx) : Option Hx := match h.get j with
  | some (.lst xs) => if xs.length < lim then some (h.put j (.lst (xs ++ [y]))) else none
  | _ => none
def lc2In (g : Gx) (t : Tx) (e : Ex) (es : Env) (j : Nat) : Nat → Cur → Hx → R Unit
  | 0, _, _ => .bad
  | m + 1, c, h => match c.step h with
    | none => .bad
    | some none => .ok () h
    | some (some (w, c')) => (noexc (g w es h)).bind fun es2 h2 => (noexc (t es2 h2)).bind fun b h3 =>
      if b then (noexc (e es2 h3)).bind fun y h4 => match lcPut j y h4 with
        | some h5 => lc2In g t e es j m c' h5
        | none => .bad
      else lc2In g t e es j m c' h3
def lc2Out (g : Gx) (t : Tx) (it1 : Ix) (g1 : Gx) (t1 : Tx) (e : Ex) (vs1 : List Nat) (es : Env) (j : Nat) : Nat → Cur → Hx → R W
  | 0, _, _ => .bad
  | m + 1, c, h => match c.step h with
    | none => .bad
    | some none => .ok (.ref j) h
    | some (some (w, c')) => (noexc (g w es h)).bind fun es2 h2 => (noexc (t es2 h2)).bind fun b h3 =>
      if b then (noexc (it1 es2 h3)).bind fun c1 h4 => (lc2In g1 t1 e (wipeE es2 vs1) j (c1.fuel h4 + 1) c1 h4).bind fun _ h5 => lc2Out g t it1 g1 t1 e vs1 es j m c' h5
      else lc2Out g t it1 g1 t1 e vs1 es j m c' h3
def xLc2 (it : Ix) (g : Gx) (t : Tx) (it1 : Ix) (g1 : Gx) (t1 : Tx) (e : Ex) (vs vs1 : List Nat) : Ex := fun es h => (it es h).bind fun c h1 => lc2Out g t it1 g1 t1 e vs1 (wipeE es vs) h1.n (c.fuel h1 + 1) c (h1.new (.lst []))
section
variable {K : PySem.W.Frag} {CT : CTx} {ρ1 : Nat → Addr} {Wd : WX} {h1 : Hx} {H1 : Hp} {σ : L2.St} {g g1 : Gx} {t t1 : Tx} {it1 : Ix} {e : Ex} {vs vs1 us us1 : List Nat} {D : Addr}
/-- a place of ours, ours still -/
structure At (K : PySem.W.Frag) (CT : CTx) (ρ1 : Nat → Addr) (h1 : Hx) (H1 : Hp) (D : Addr) (j : Nat) (ρ : Nat → Addr) (h : Hx) (H : Hp) : Prop where
  n : Nxt K CT ρ1 h1 H1 ρ h H
  e : ρ j = D
  l : j < h.n
theorem At.step {j : Nat} {ρ ρ' : Nat → Addr} {h h' : Hx} {H H' : Hp} (S1 : Sim K CT ρ1 h1 H1) (a : At K CT ρ1 h1 H1 D j ρ h H) (N : Nxt K CT ρ h H ρ' h' H') : At K CT ρ1 h1 H1 D j ρ' h' H' := ⟨a.n.trans S1 N, (N.ext _ a.l).trans a.e, Nat.lt_of_lt_of_le a.l N.le⟩
theorem lcPut_of {j : Nat} {y : W} {v : V} {ρ : Nat → Addr} {h h' : Hx} {H : Hp} (S : Sim K CT ρ h H) (hj : j < h.n) (r : Rep K CT ρ h.n H y v) (z : lcPut j y h = some h') : ∃ acc, H (ρ j) = some (.lst acc) ∧ acc.length < sizeLine ∧ Nxt K CT ρ h H ρ h' (upd H (ρ j) (.lst (acc ++ [v]))) := by
  unfold lcPut at z
  split at z
  · rename_i xs g
    split at z
    · rename_i c
      cases z
      obtain ⟨us, q, rs⟩ := lst_get S g
      refine ⟨us, q, by rw [← rs.length]; exact Nat.lt_of_lt_of_le c (by decide), Nxt.put S hj (by rw [q]; exact True.intro) ⟨_, upd_same, ?_⟩⟩
      exact Reps.keep S (Fw.put S hj (by rw [q]; exact True.intro)) _ _ (rs.append (.cons r .nil))
    · cases z
  · cases z
/-- the inner loop -/
theorem lc2_in {J : It} {c0 : Cur} {es : Env} {j m0 : Nat} {ρ0 : Nat → Addr} {h0 : Hx} {H0 : Hp} {σ2 : L2.St} {α : Type} {f : Unit → Hx → R W} {Q : VK} {Nx : Hp → Prop} (sub : ∀ i ∈ us1, i ∈ vs1) (S1 : Sim K CT ρ1 h1 H1) (A0 : At K CT ρ1 h1 H1 D j ρ0 h0 H0) (E1 : REnv K CT ρ0 h0.n H0 es (wipe σ2 vs1)) (I : ItS K CT ρ0 h0 H0 J c0)
    (p : Post K CT (RW K CT) Wd ρ1 h1 H1 σ ((lc2In g1 t1 e es j m0 c0 h0).bind f) Q) (hNx : ∀ ρ h H, At K CT ρ1 h1 H1 D j ρ h H → Post K CT (RW K CT) Wd ρ1 h1 H1 σ (f () h) Q → Nx H) :
    ∃ W1 : Nat → Nat → Hp → Prop, (∃ m, W1 0 m H0) ∧ ∀ i k H, W1 i k H → (J.stop i H ∧ Nx H) ∨ (J.go i H ∧ ∃ Nx1 : Hp → Prop, (∀ H', Nx1 H' → ∃ k', k' < k ∧ W1 (i + 1) k' H') ∧ ∀ x H', J.yld i H x H' → tG K CT W0 us1 g1 x (wipe σ2 vs1) H' fun σ3 H5 => wipe σ3 vs1 = wipe σ2 vs1 ∧ tT K CT W0 t1 σ3 H5 fun b H6 =>
      if b = true then tE K CT W0 e σ3 H6 fun y H7 => ∃ acc, H7 D = some (.lst acc) ∧ acc.length < sizeLine ∧ Nx1 (upd H7 D (.lst (acc ++ [y]))) else Nx1 H6) := by
  obtain ⟨P, P0, PS⟩ := I
  have S0 := A0.n.sim
  refine ⟨fun i m H => ∃ ρ h c, P i c ∧ At K CT ρ1 h1 H1 D j ρ h H ∧ Nxt K CT ρ0 h0 H0 ρ h H ∧ Post K CT (RW K CT) Wd ρ1 h1 H1 σ ((lc2In g1 t1 e es j m c h).bind f) Q, ⟨m0, _, _, c0, P0, A0, Nxt.refl S0, p⟩, ?_⟩
  rintro i m H ⟨ρ, h, c, Pc, A, N0, p⟩
  cases m with
  | zero => exact p.elim
  | succ m =>
    have st := PS i c Pc ρ h H N0
    unfold lc2In at p
    cases gs : c.step h with
    | none => rw [gs] at p; exact p.elim
    | some o =>
      rw [gs] at p st
      cases o with
      | none => exact .inl ⟨st, hNx ρ h H A p⟩
      | some wc =>
        obtain ⟨w, c'⟩ := wc
        obtain ⟨P1, go, yl⟩ := st
        refine .inr ⟨go, fun H' => ∃ ρ h c, P (i + 1) c ∧ At K CT ρ1 h1 H1 D j ρ h H' ∧ Nxt K CT ρ0 h0 H0 ρ h H' ∧ Post K CT (RW K CT) Wd ρ1 h1 H1 σ ((lc2In g1 t1 e es j m c h).bind f) Q, fun H' q => ⟨m, Nat.lt_succ_self m, q⟩, fun x Hy hy => ?_⟩
        obtain ⟨Ny, rw_⟩ := yl x Hy hy
        have Ay := A.step S1 Ny
        have N0y := N0.trans S0 Ny
        refine ⟨ρ, h, es, w, Ny.sim, E1.keep S0 N0y.toFw, rw_, ?_⟩
        have p2 : Post K CT (RW K CT) Wd ρ1 h1 H1 σ (((noexc (g1 w es h)).bind fun es2 h2 => (noexc (t1 es2 h2)).bind fun b h3 =>
          if b then (noexc (e es2 h3)).bind fun y h4 => match lcPut j y h4 with
            | some h5 => lc2In g1 t1 e es j m c' h5
            | none => .bad
          else lc2In g1 t1 e es j m c' h3).bind f) Q := p
        cases gg : g1 w es h with
        | bad => rw [gg] at p2; exact p2.elim
        | exc x h2 => rw [gg] at p2; exact p2.elim
        | ok es2 h2 =>
          rw [gg] at p2
          intro ρ2 H2 σ3 N2 E2 of2
          have A2 := Ay.step S1 N2
          have N02 := N0y.trans S0 N2
          refine ⟨wipe_off sub of2, ρ2, h2, es2, N2.sim, E2, ?_⟩
          have p3 : Post K CT (RW K CT) Wd ρ1 h1 H1 σ (((noexc (t1 es2 h2)).bind fun b h3 =>
            if b then (noexc (e es2 h3)).bind fun y h4 => match lcPut j y h4 with
              | some h5 => lc2In g1 t1 e es j m c' h5
              | none => .bad
            else lc2In g1 t1 e es j m c' h3).bind f) Q := p2
          cases gt : t1 es2 h2 with
          | bad => rw [gt] at p3; exact p3.elim
          | exc x h3 => rw [gt] at p3; exact p3.elim
          | ok b h3 =>
            rw [gt] at p3
            intro ρ3 H3 b' N3 eb
            obtain rfl : b = b' := eb
            have A3 := A2.step S1 N3
            have N03 := N02.trans S0 N3
            cases b with
            | false =>
              rw [if_neg Bool.false_ne_true]
              exact ⟨ρ3, h3, c', P1, A3, N03, p3⟩
            | true =>
              rw [if_pos rfl]
              refine ⟨ρ3, h3, es2, N3.sim, E2.keep N2.sim N3.toFw, ?_⟩
              have p4 : Post K CT (RW K CT) Wd ρ1 h1 H1 σ (((noexc (e es2 h3)).bind fun y h4 => match lcPut j y h4 with
                | some h5 => lc2In g1 t1 e es j m c' h5
                | none => .bad).bind f) Q := p3
              cases ge : e es2 h3 with
              | bad => rw [ge] at p4; exact p4.elim
              | exc x h4 => rw [ge] at p4; exact p4.elim
              | ok y h4 =>
                rw [ge] at p4
                intro ρ4 H4 vy N4 ry
                have A4 := A3.step S1 N4
                have p5 : Post K CT (RW K CT) Wd ρ1 h1 H1 σ ((match lcPut j y h4 with
                  | some h5 => lc2In g1 t1 e es j m c' h5
                  | none => .bad).bind f) Q := p4
                cases gp : lcPut j y h4 with
                | none => rw [gp] at p5; exact p5.elim
                | some h5 =>
                  rw [gp] at p5
                  obtain ⟨acc, z1, z2, N5⟩ := lcPut_of N4.sim A4.l ry gp
                  have A5 := A4.step S1 N5
                  rw [A4.e] at z1 N5 A5
                  exact ⟨acc, z1, z2, ρ4, h5, c', P1, A5, (N03.trans S0 N4).trans S0 N5, p5⟩
theorem lc2_walk {J : It} {c0 : Cur} {es : Env} {m0 : Nat} {Q : VK} (sub : ∀ i ∈ us, i ∈ vs) (sub1 : ∀ i ∈ us1, i ∈ vs1) (S1 : Sim K CT ρ1 h1 H1) (E1 : REnv K CT ρ1 h1.n H1 es (wipe σ vs)) (I : ItS K CT ρ1 h1 H1 J c0) (p : Post K CT (RW K CT) Wd ρ1 h1 H1 σ (lc2Out g t it1 g1 t1 e vs1 es h1.n m0 c0 (h1.new (.lst []))) Q) (hD : H1 D = none) :
    ∃ W : Nat → Nat → Hp → Prop, (∃ m, W 0 m (upd H1 D (.lst []))) ∧ ∀ i m H, W i m H →
      (J.stop i H ∧ Q (.ref D) H) ∨ (J.go i H ∧ ∃ Nx : Hp → Prop, (∀ H', Nx H' → ∃ m', m' < m ∧ W (i + 1) m' H') ∧ ∀ x H', J.yld i H x H' → tG K CT W0 us g x (wipe σ vs) H' fun σ2 H2 => wipe σ2 vs = wipe σ vs ∧ tT K CT W0 t σ2 H2 fun b H3 =>
        if b = true then tI K CT W0 it1 σ2 H3 fun J1 H4 => ∃ W1 : Nat → Nat → Hp → Prop, (∃ m, W1 0 m H4) ∧ ∀ i k H, W1 i k H → (J1.stop i H ∧ Nx H) ∨ (J1.go i H ∧ ∃ Nx1 : Hp → Prop, (∀ H', Nx1 H' → ∃ k', k' < k ∧ W1 (i + 1) k' H') ∧ ∀ x H', J1.yld i H x H' → tG K CT W0 us1 g1 x (wipe σ2 vs1) H' fun σ3 H5 => wipe σ3 vs1 = wipe σ2 vs1 ∧ tT K CT W0 t1 σ3 H5 fun b H6 =>
          if b = true then tE K CT W0 e σ3 H6 fun y H7 => ∃ acc, H7 D = some (.lst acc) ∧ acc.length < sizeLine ∧ Nx1 (upd H7 D (.lst (acc ++ [y]))) else Nx1 H6)
        else Nx H3) := by
  obtain ⟨P, P0, PS⟩ := I
  have N0 : Nxt K CT ρ1 h1 H1 (ρnew ρ1 h1.n D) (h1.new (.lst [])) (upd H1 D (.lst [])) := Nxt.fresh S1 hD ⟨[], upd_same, .nil⟩
  have A0 : At K CT ρ1 h1 H1 D h1.n (ρnew ρ1 h1.n D) (h1.new (.lst [])) (upd H1 D (.lst [])) := ⟨N0, if_pos rfl, Nat.lt_succ_self _⟩
  refine ⟨fun i m H => ∃ ρ h c, P i c ∧ At K CT ρ1 h1 H1 D h1.n ρ h H ∧ Post K CT (RW K CT) Wd ρ1 h1 H1 σ (lc2Out g t it1 g1 t1 e vs1 es h1.n m c h) Q, ⟨m0, _, _, c0, P0, A0, p⟩, ?_⟩
  rintro i m H ⟨ρ, h, c, Pc, A, p⟩
  cases m with
  | zero => exact p.elim
  | succ m =>
    have st := PS i c Pc ρ h H A.n
    unfold lc2Out at p
    cases gs : c.step h with
    | none => rw [gs] at p; exact p.elim
    | some o =>
      rw [gs] at p st
      cases o with
      | none =>
        have r : Rep K CT ρ h.n H (.ref h1.n) (.ref (ρ h1.n)) := .ref A.l
        rw [A.e] at r
        exact .inl ⟨st, (show Post K CT (RW K CT) Wd ρ1 h1 H1 σ (.ok (.ref h1.n) h) Q from p) ρ H _ A.n r⟩
      | some wc =>
        obtain ⟨w, c'⟩ := wc
        obtain ⟨P1, go, yl⟩ := st
        refine .inr ⟨go, fun H' => ∃ ρ h c, P (i + 1) c ∧ At K CT ρ1 h1 H1 D h1.n ρ h H' ∧ Post K CT (RW K CT) Wd ρ1 h1 H1 σ (lc2Out g t it1 g1 t1 e vs1 es h1.n m c h) Q, fun H' q => ⟨m, Nat.lt_succ_self m, q⟩, fun x Hy hy => ?_⟩
        obtain ⟨Ny, rw_⟩ := yl x Hy hy
        have Ay := A.step S1 Ny
        refine ⟨ρ, h, es, w, Ny.sim, E1.keep S1 Ay.n.toFw, rw_, ?_⟩
        have p2 : Post K CT (RW K CT) Wd ρ1 h1 H1 σ ((noexc (g w es h)).bind fun es2 h2 => (noexc (t es2 h2)).bind fun b h3 =>
          if b then (noexc (it1 es2 h3)).bind fun c1 h4 => (lc2In g1 t1 e (wipeE es2 vs1) h1.n (c1.fuel h4 + 1) c1 h4).bind fun _ h5 => lc2Out g t it1 g1 t1 e vs1 es h1.n m c' h5
          else lc2Out g t it1 g1 t1 e vs1 es h1.n m c' h3) Q := p
        cases gg : g w es h with
        | bad => rw [gg] at p2; exact p2.elim
        | exc x h2 => rw [gg] at p2; exact p2.elim
        | ok es2 h2 =>
          rw [gg] at p2
          intro ρ2 H2 σ2 N2 E2 of2
          have A2 := Ay.step S1 N2
          refine ⟨wipe_off sub of2, ρ2, h2, es2, N2.sim, E2, ?_⟩
          have p3 : Post K CT (RW K CT) Wd ρ1 h1 H1 σ ((noexc (t es2 h2)).bind fun b h3 =>
            if b then (noexc (it1 es2 h3)).bind fun c1 h4 => (lc2In g1 t1 e (wipeE es2 vs1) h1.n (c1.fuel h4 + 1) c1 h4).bind fun _ h5 => lc2Out g t it1 g1 t1 e vs1 es h1.n m c' h5
            else lc2Out g t it1 g1 t1 e vs1 es h1.n m c' h3) Q := p2
          cases gt : t es2 h2 with
          | bad => rw [gt] at p3; exact p3.elim
          | exc x h3 => rw [gt] at p3; exact p3.elim
          | ok b h3 =>
            rw [gt] at p3
            intro ρ3 H3 b' N3 eb
            obtain rfl : b = b' := eb
            have A3 := A2.step S1 N3
            have E3 : REnv K CT ρ3 h3.n H3 es2 σ2 := E2.keep N2.sim N3.toFw
            cases b with
            | false =>
              rw [if_neg Bool.false_ne_true]
              exact ⟨ρ3, h3, c', P1, A3, p3⟩
            | true =>
              rw [if_pos rfl]
              refine ⟨ρ3, h3, es2, N3.sim, E3, ?_⟩
              have p4 : Post K CT (RW K CT) Wd ρ1 h1 H1 σ ((noexc (it1 es2 h3)).bind fun c1 h4 => (lc2In g1 t1 e (wipeE es2 vs1) h1.n (c1.fuel h4 + 1) c1 h4).bind fun _ h5 => lc2Out g t it1 g1 t1 e vs1 es h1.n m c' h5) Q := p3
              cases gi : it1 es2 h3 with
              | bad => rw [gi] at p4; exact p4.elim
              | exc x h4 => rw [gi] at p4; exact p4.elim
              | ok c1 h4 =>
                rw [gi] at p4
                intro ρ4 H4 J1 N4 I4
                have A4 := A3.step S1 N4
                exact lc2_in (α := Unit) (f := fun _ h5 => lc2Out g t it1 g1 t1 e vs1 es h1.n m c' h5) sub1 S1 A4 (wipe_env (E3.keep N3.sim N4.toFw) _) I4 p4 fun ρ5 h5 H5 A5 p5 => ⟨ρ5, h5, c', P1, A5, p5⟩
end
section
variable {X : Cx} {CT : CTx} {Wd : WX} {elt tg iter tg1 iter1 : Expr} {ifs ifs1 : List Expr} {scope : Scope} {own : List (Str × Nat)} {pos : Pos} {it it1 : Ix} {g g1 : Gx} {t t1 : Tx} {ce : Ex} {us us1 vs1 : List Nat}
theorem lc2_read (sub : ∀ i ∈ us, i ∈ own.map (·.2)) (sub1 : ∀ i ∈ us1, i ∈ vs1) {σ : L2.St} {H : Hp} {Q : VK} (q : tE X.K CT Wd (xLc2 it g t it1 g1 t1 ce (own.map (·.2)) vs1) σ H Q) : tLc2 (tI X.K CT Wd it) (tG X.K CT W0 us g) (tT X.K CT W0 t) (tI X.K CT W0 it1) (tG X.K CT W0 us1 g1) (tT X.K CT W0 t1) (tE X.K CT W0 ce) (own.map (·.2)) vs1 σ H Q := by
  obtain ⟨ρ, h, es, S, E, p⟩ := q
  refine ⟨ρ, h, es, S, E, ?_⟩
  have p' : Post X.K CT (RW X.K CT) Wd ρ h H σ ((it es h).bind fun c h1 => lc2Out g t it1 g1 t1 ce vs1 (wipeE es (own.map (·.2))) h1.n (c.fuel h1 + 1) c (h1.new (.lst []))) Q := p
  cases gi : it es h with
  | bad => rw [gi] at p'; exact p'.elim
  | exc x h1 => rw [gi] at p'; exact p'
  | ok c h1 =>
    rw [gi] at p'
    intro ρ1 H1 J N I D hD
    exact lc2_walk sub sub1 N.sim (wipe_env (E.keep S N.toFw) _) I (Post.step S N p') hD
theorem se_lc2 (hc : X.calm = true) (hN : X.N.Nodup) (hi : SI X CT Wd tg iter it) (ok : BlkOk X.N X.env.scope scope own) (hv : ∀ i ∈ vs1, i ∈ own.map (·.2)) (hg : InBlk X scope fun Y => SG Y CT W0 us tg g) (ht : InBlk X scope fun Y => PTs0 Y CT ifs t) (hi1 : InBlk X scope fun Y => SI Y CT W0 tg1 iter1 it1)
    (hg1 : InBlk X scope fun Y => SG Y CT W0 us1 tg1 g1) (ht1 : InBlk X scope fun Y => PTs0 Y CT ifs1 t1) (he : InBlk X scope fun Y => SE Y CT W0 elt ce) (sub : ∀ i ∈ us, i ∈ own.map (·.2) := by decide) (sub1 : ∀ i ∈ us1, i ∈ vs1 := by decide)
    (hs : ∀ x, foldedSetIterable iter X.env x = pure x := by intro _; rfl) (hs1 : ∀ env x, foldedSetIterable iter1 env x = pure x := by intro _ _; rfl) : SE X CT Wd (.ListComp elt [⟨tg, iter, ifs, 0⟩, ⟨tg1, iter1, ifs1, 0⟩] scope pos) (xLc2 it g t it1 g1 t1 ce (own.map (·.2)) vs1) :=
  (pe_lc2 hc hN hi ok hv hg ht hi1 hg1 ht1 he hs hs1).wk fun _ _ _ q => lc2_read sub sub1 q
theorem s_setLc2 {i : Nat} {y : Str} {py : Pos} {spos : Pos} (hc : X.calm = true) (hN : X.N.Nodup) (hy : X.N[i]? = some y) (hyl : X.env.scope.names.lookup y = some .local) (hsw : swapsWith (.ListComp elt [⟨tg, iter, ifs, 0⟩, ⟨tg1, iter1, ifs1, 0⟩] scope pos) (some (.Name y py)) spos.line X.env = pure true)
    (hi : SI X CT Wd tg iter it) (ok : BlkOk X.N X.env.scope scope own) (hv : ∀ i ∈ vs1, i ∈ own.map (·.2)) (hg : InBlk X scope fun Y => SG Y CT W0 us tg g) (ht : InBlk X scope fun Y => PTs0 Y CT ifs t) (hi1 : InBlk X scope fun Y => SI Y CT W0 tg1 iter1 it1)
    (hg1 : InBlk X scope fun Y => SG Y CT W0 us1 tg1 g1) (ht1 : InBlk X scope fun Y => PTs0 Y CT ifs1 t1) (he : InBlk X scope fun Y => SE Y CT W0 elt ce) (sub : ∀ i ∈ us, i ∈ own.map (·.2) := by decide) (sub1 : ∀ i ∈ us1, i ∈ vs1 := by decide)
    (hs : ∀ x, foldedSetIterable iter X.env x = pure x := by intro _; rfl) (hs1 : ∀ env x, foldedSetIterable iter1 env x = pure x := by intro _ _; rfl) :
    SS X CT Wd (.Assign [.Name y py] (.ListComp elt [⟨tg, iter, ifs, 0⟩, ⟨tg1, iter1, ifs1, 0⟩] scope pos) spos) (cAsg (xLc2 it g t it1 g1 t1 ce (own.map (·.2)) vs1) (gxName i)) :=
  (ps_setLc2 (own := own) hc hN hy hyl hsw hi ok hv hg ht hi1 hg1 ht1 he hs hs1).wk fun D σ H q => tAsg_of (vs := [i]) (fun _ _ _ z => lc2_read sub sub1 z) (fun v σ H Q ⟨ρ, h, es, w, S, E, r, q⟩ => q ρ H _ (Nxt.refl S) (E.set r i) (off_set i σ _)) q
end
end Sx

set_option linter.all false
set_option autoImplicit false
set_option maxRecDepth 100000
set_option maxHeartbeats 2000000
namespace Sx
open PySem L2
/-! ### xs.extend(ys), xs.index(x) -/
def extendW (o : W) (ws : List W) (h : Hx) : R W := match o, ws with
  | .ref k, [.ref b] => match h.get k, h.get b with
    | some (.lst xs), some (.lst ys) => if xs.length + ys.length ≤ lim then .ok .non (h.put k (.lst (xs ++ ys))) else .bad
    | _, _ => .bad
  | _, _ => .bad
/-- where a flat value stands -/
def idxF (x : W) : List W → Nat → Option Nat
  | [], _ => none
  | y :: r, i => if eqFl y x = true then some i else idxF x r (i + 1)
def indexW (o : W) (ws : List W) (h : Hx) : R W := match ws with
  | [x] => match itemsOf h o with
    | some xs => if flatW x = true ∧ xs.all flatW = true then (match idxF x xs 0 with
      | some i => .ok (.int (i : Nat)) h
      | none => .bad) else .bad
    | none => .bad
  | _ => .bad
theorem idxF_of {x : W} : ∀ {xs : List W} {i j : Nat}, idxF x xs i = some j → ∃ k, j = i + k ∧ (∃ y, xs[k]? = some y ∧ eqFl y x = true) ∧ ∀ m y, m < k → xs[m]? = some y → eqFl y x = false
  | [], _, _, e => by cases e
  | y :: r, i, j, e => by
    unfold idxF at e
    by_cases c : eqFl y x = true
    · rw [if_pos c] at e
      cases e
      exact ⟨0, rfl, ⟨y, rfl, c⟩, fun m _ hm => absurd hm (Nat.not_lt_zero _)⟩
    · rw [if_neg c] at e
      obtain ⟨k, h1, ⟨z, h2, h3⟩, h4⟩ := idxF_of e
      refine ⟨k + 1, by omega, ⟨z, by simpa using h2, h3⟩, fun m z' hm hz => ?_⟩
      cases m with
      | zero =>
        cases hz
        exact Bool.eq_false_iff.mpr c
      | succ m => exact h4 m z' (by omega) (by simpa using hz)
section
variable {X : Cx} {CT : CTx} {Wd : WX}
theorem ms_extend {K : PySem.W.Frag} : MtS K CT Wd rExtend extendW := by
  intro ρ h H σ o ws v vs Q S ro rs p
  unfold extendW at p
  split at p
  · rename_i k b
    split at p
    · rename_i xs ys g1 g2
      obtain ⟨c, p2⟩ := post_if p
      cases rs with
      | cons r1 t =>
        cases t
        cases ro with
        | ref hk =>
          cases r1 with
          | ref hb =>
            obtain ⟨us, q, rs⟩ := lst_get S g1
            obtain ⟨zs, q2, rs2⟩ := lst_get S g2
            refine ⟨_, _, us, zs, rfl, rfl, q, q2, ?_, ?_⟩
            · rw [← rs.length, ← rs2.length]
              exact lim_line c
            · exact p2 ρ _ _ (Nxt.put S hk (by rw [q]; exact True.intro) ⟨_, upd_same, Reps.keep S (Fw.put S hk (by rw [q]; exact True.intro)) _ _ (rs.append rs2)⟩) .non
    · exact p.elim
  · exact p.elim
theorem ms_index {K : PySem.W.Frag} : MtS K CT Wd (rIndex K) indexW := by
  intro ρ h H σ o ws v vs Q S ro rs p
  unfold indexW at p
  split at p
  · rename_i x
    cases g : itemsOf h o with
    | none => simp only [g] at p; exact p.elim
    | some xs =>
      simp only [g] at p
      obtain ⟨⟨c1, c2⟩, p2⟩ := post_if p
      cases g2 : idxF x xs 0 with
      | none => simp only [g2] at p2; exact p2.elim
      | some j =>
        simp only [g2] at p2
        obtain ⟨k, e1, ⟨y, e2, e3⟩, e4⟩ := idxF_of g2
        rw [Nat.zero_add] at e1
        subst e1
        cases rs with
        | cons r1 t =>
          cases t
          obtain ⟨a, us, rfl, sq, rx⟩ := itemsOf_of S ro g
          obtain ⟨z, ez, rz⟩ := rx.get e2
          have fl : ∀ w ∈ xs, flatW w = true := List.all_eq_true.mp c2
          refine ⟨a, us, _, _, z, rfl, rfl, sq, flat_of r1 c1, ?_, ez, ?_, fun m z' hm hz => ?_, Post.here S p2 (.int _)⟩
          · rw [List.all_eq_true]
            intro u hu
            obtain ⟨i, hi⟩ := List.mem_iff_getElem?.mp hu
            have hl : i < xs.length := by rw [rx.length]; exact (List.getElem?_eq_some_iff.mp hi).1
            obtain ⟨u', e5, r5⟩ := rx.get (List.getElem?_eq_getElem hl)
            rw [hi] at e5
            cases e5
            exact flat_of r5 (fl _ (List.getElem_mem hl))
          · rw [← eqFl_of rz r1 (fl _ (List.mem_of_getElem? e2)) c1]
            exact e3
          · have hl : m < xs.length := by rw [rx.length]; exact (List.getElem?_eq_some_iff.mp hz).1
            obtain ⟨u', e5, r5⟩ := rx.get (List.getElem?_eq_getElem hl)
            rw [hz] at e5
            cases e5
            rw [← eqFl_of r5 r1 (fl _ (List.getElem_mem hl)) c1]
            exact e4 m _ hm (List.getElem?_eq_getElem hl)
  · exact p.elim
/-! ### *e among items -/
def xStar (c : Ex) (r : Ax) : Ax := fun es h => (c es h).bind fun w h1 => match seqOf h1 w with
  | some xs => (r es h1).bind fun ys h2 => .ok (xs ++ ys) h2
  | none => .bad
theorem sa_star {e : Expr} {es : List Expr} {p : Pos} {ce : Ex} {r : Ax} (he : SE X CT Wd e ce) (hr : SA X CT Wd es r) (hs : starEach (.Starred e p :: es) X.env = (true, eval e X.env) :: starEach es X.env := by rfl) : SA X CT Wd (.Starred e p :: es) (xStar ce r) := (StX.pa_star he hr hs).wk fun σ H Q ⟨ρ, h, en, S, E, q⟩ => by
  refine ⟨ρ, h, en, S, E, Post.bind (RR := RW X.K CT) S q fun w h1 ρ1 H1 v N1 r1 p1 => ?_⟩
  cases g : seqOf h1 w with
  | none => rw [g] at p1; exact p1.elim
  | some xs =>
    rw [g] at p1
    obtain ⟨a, vs, rfl, sq, rs⟩ := seqOf_of N1.sim r1 g
    refine ⟨a, vs, rfl, sq.symm, ρ1, h1, en, N1.sim, E.keep S N1.toFw, Post.bind (RR := RA X.K CT) N1.sim p1 fun ys h2 ρ2 H2 us N2 r2 p2 => ?_⟩
    exact Post.here N2.sim p2 ((Reps.keep N1.sim N2.toFw _ _ rs).append r2)
/-! ### *d.values() among items -/
def xStarV (c : Ex) (r : Ax) : Ax := fun es h => (c es h).bind fun w h1 => match w with
  | .ref i => match h1.get i with
    | some (.dic _ kvs) => if kvs.length ≤ lim then (r es h1).bind fun ys h2 => .ok (kvs.map (·.2) ++ ys) h2 else .bad
    | _ => .bad
  | _ => .bad
theorem repK_vals {K : PySem.W.Frag} {ρ : Nat → Addr} {n : Nat} {H : Hp} : ∀ {ws : List (W × W)} {vs : List (Key × V)}, RepK K CT ρ n H ws vs → Reps K CT ρ n H (ws.map (·.2)) (vs.map (·.2))
  | _, _, .nil => .nil
  | _, _, .cons _ c t => .cons c (repK_vals t)
theorem kv_vals : ∀ {kvs : List (Key × V)} {vs : List (Key × Value)}, KV kvs vs → Vals (kvs.map (·.2)) (vs.map (·.2))
  | _, _, .nil => .nil
  | _, _, .cons h t => .cons h.2 (kv_vals t)
theorem sa_starV {e : Expr} {es : List Expr} {p apos cpos : Pos} {ce : Ex} {r : Ax} (hA : X.A.handled = none) (he : SE X CT Wd e ce) (hr : SA X CT Wd es r) (hbase : attributeBase e "values" X.env (eval e X.env) = eval e X.env := by rfl) (hline : (apos.endLine == cpos.line) = true := by rfl)
    (hs : starEach (.Starred (.Call (.Attribute e "values" apos) [] [] cpos) p :: es) X.env = (true, eval (.Call (.Attribute e "values" apos) [] [] cpos) X.env) :: starEach es X.env := by rfl) : SA X CT Wd (.Starred (.Call (.Attribute e "values" apos) [] [] cpos) p :: es) (xStarV ce r) := ⟨fun pos pins s σ H Q I ⟨ρ, h, en, S, E, q⟩ => by
  refine PySem.W.items_star (wpAny_Call_method (T := "dict") (id := "dict.values") hbase rfl hline F.plainAttrs_dict F.slot_dict_values F.type_dict_values (thn (he.run pins s σ H (fun v H1 => ∃ d kvs, v = .ref d ∧ Rd H1 d (.dK kvs) ∧ tAx X.K CT Wd r σ H1 fun ys H2 => Q (kvs.map (·.2) ++ ys) H2) I ⟨ρ, h, en, S, E, Post.bind (RR := RW X.K CT) S q fun w h1 ρ1 H1 v N1 r1 p1 => ?_⟩) fun u s1 hx => ?_)) hs
  · cases r1 with
    | @ref i hi =>
      have p2 : Post X.K CT (RA X.K CT) Wd ρ1 h1 H1 σ (match h1.get i with
        | some (.dic _ kvs) => if kvs.length ≤ lim then (r en h1).bind fun ys h2 => .ok (kvs.map (·.2) ++ ys) h2 else .bad
        | _ => .bad) Q := p1
      split at p2
      · rename_i lk kvs g
        by_cases c : kvs.length ≤ lim
        · rw [if_pos c] at p2
          obtain ⟨od, vs, q1, rs⟩ := N1.sim.ob i _ g
          refine ⟨_, vs, rfl, rd_lkd q1, ρ1, h1, en, N1.sim, E.keep S N1.toFw, Post.bind (RR := RA X.K CT) N1.sim p2 fun ys h2 ρ2 H2 us N2 r2 p3 => ?_⟩
          exact Post.here N2.sim p3 ((Reps.keep N1.sim N2.toFw _ _ (repK_vals rs)).append r2)
        · rw [if_neg c] at p2
          exact p2.elim
      · exact p2.elim
    | _ => exact (show False from p1).elim
  · obtain ⟨v, H1, I1, rv, d, kvs, rfl, rd, t⟩ := hx
    obtain rfl : u = Value.ref d := rv
    obtain ⟨z, lo, vs, rel, dd⟩ := dk_rd I1.hok rd
    obtain ⟨ep, hat⟩ := dd.dictAt
    refine ⟨dd.typeIs, dd.mapOf.noDict, ?_⟩
    have view : ({ s1 with heap := s1.heap.push { cls := .type "dict_values", data := .fields #[.ref d] } } : Shared).heap.IsValuesView s1.heap.objs.size d := ⟨_, Heap.get?_push_size _ rfl, rfl, rfl⟩
    have I2 : Inv X pins σ H1 { s1 with heap := s1.heap.push { cls := .type "dict_values", data := .fields #[.ref d] } } := I1.kept (t' := s1.toks) fun b ob e => Heap.get?_push_of_some _ e
    have fin : PySem.W.StarOf (model X.prog X.w) X.A X.xe (.ref s1.heap.objs.size) (fun here s₂ => wpAny (model X.prog X.w) X.A (spliced (backTo pos (starEach es X.env))) (fun vs s₃ => AP X pins σ Q (here ++ vs) s₃) X.xe s₂) { s1 with heap := s1.heap.push { cls := .type "dict_values", data := .fields #[.ref d] } } := by
      have col : wpAny (model X.prog X.w) X.A (collect (.ref s1.heap.objs.size)) (fun here s₂ => wpAny (model X.prog X.w) X.A (spliced (backTo pos (starEach es X.env))) (fun vs s₃ => AP X pins σ Q (here ++ vs) s₃) X.xe s₂) X.xe { s1 with heap := s1.heap.push { cls := .type "dict_values", data := .fields #[.ref d] } } := by
        refine PySem.W.kdu_collect (PySem.W.kdl_values (knd := mixKind X.prog X.w) (kvs := vs) (ep := ep)) hA ⟨view, hat.push _⟩ (by rw [← Paired.length rel]; exact z) fun h3 tk acc hk hacc => ?_
        have I3 : Inv X pins σ H1 { s1 with heap := h3, toks := tk } := I2.kept hk
        refine thn (hr.run pos pins _ σ H1 _ I3 t) fun ws s4 hq => ?_
        obtain ⟨ys, H4, I4, ry, q4⟩ := hq
        have ev : acc.toList = vs.map (·.2) := by
          apply List.ext_getElem?
          intro j
          rw [List.getElem?_map]
          cases hj : acc.toList[j]? with
          | none =>
            have l1 := List.getElem?_eq_none_iff.mp hj
            rw [Array.length_toList, hacc.1] at l1
            rw [List.getElem?_eq_none l1]
            rfl
          | some x =>
            obtain ⟨k, e⟩ := hacc.2 j x (by rw [← Array.getElem?_toList]; exact hj)
            rw [e]
            rfl
        refine ⟨_, H4, I4, ?_, q4⟩
        rw [ev]
        exact (kv_vals rel).append ry
      unfold PySem.W.StarOf notIterableAtAll
      exact wpAny_bind (wpAny_specialOf view.typeIs PySem.F.slot_dict_values_iter.lookup (wpAny_pure ⟨rfl, col⟩))
    show wpAny _ _ (callWith cpos (.builtin "dict.values") [.ref d] [] []) _ X.xe s1
    exact method_meetsIn F.slot_dict_values F.entry_dict_values rfl (PySem.evalArgs_none ⟨rfl, dd.typeIs, F.args_dict_values_1 _, _, meets_dict_values (mixKind X.prog X.w) d lo, ⟨vs, dd⟩, fin⟩)⟩
end
end Sx

set_option linter.all false
set_option autoImplicit false
set_option maxRecDepth 100000
set_option maxHeartbeats 2000000
namespace Sx
open PySem L2
/-! ### a table of the module: texts as keys -/
def eqNs : List Nat → List Nat → Bool
  | [], [] => true
  | x :: r, y :: t => Nat.beq x y && eqNs r t
  | _, _ => false
theorem eqNs_iff : ∀ a b : List Nat, eqNs a b = true ↔ a = b
  | [], [] => by simp [eqNs]
  | [], _ :: _ => by simp [eqNs]
  | _ :: _, [] => by simp [eqNs]
  | x :: r, y :: t => by
    unfold eqNs
    rw [Bool.and_eq_true, eqNs_iff r t]
    constructor
    · rintro ⟨h1, h2⟩
      rw [Nat.eq_of_beq_eq_true h1, h2]
    · intro h
      injection h with h1 h2
      exact ⟨by rw [h1]; exact Nat.beq_refl y, h2⟩
def tblGet (z : List Nat) : List (List Nat × W) → Option W
  | [] => none
  | (k, w) :: r => if eqNs z k = true then some w else tblGet z r
def tblIn (t : List (List Nat × W)) (w : W) (h : Hx) : R W := match w with
  | .str z => .ok (.bl (tblGet z t).isSome) h
  | _ => .bad
def tblNo (t : List (List Nat × W)) (w : W) (h : Hx) : R W := match w with
  | .str z => .ok (.bl (!(tblGet z t).isSome)) h
  | _ => .bad
def tblIx (t : List (List Nat × W)) (w : W) (h : Hx) : R W := match w with
  | .str z => match tblGet z t with
    | some x => .ok x h
    | none => .bad
  | _ => .bad
/-- it stands at d -/
structure TblK (K : PySem.W.Frag) (w : World) (d : Addr) (t : List (List Nat × W)) : Prop where
  kd : ∃ es n, KDict K w d es n
  at_ : ∀ z : List Nat, ∃ r, PySem.W.nsIn K d ⟨z.toArray⟩ = some r ∧ match tblGet z t with
    | some x => ∃ u v, r = some u ∧ RelV v u ∧ ∀ (CT : CTx) (ρ : Nat → Addr) (n : Nat) (H : Hp), Rep K CT ρ n H x v
    | none => r = none
section
variable {X : Cx} {CT : CTx} {Wd : WX} {a : Expr} {ca : Ex} {x : Str} {d : Addr} {t : List (List Nat × W)} {p pos : Pos}
theorem tbl_is (T : TblK X.K X.w d t) (z : List Nat) : ∃ r, PySem.W.nsIn X.K d ⟨z.toArray⟩ = some r ∧ r.isSome = (tblGet z t).isSome := by
  obtain ⟨r, e, m⟩ := T.at_ z
  refine ⟨r, e, ?_⟩
  cases g : tblGet z t with
  | none =>
    rw [g] at m
    have m' : r = none := m
    subst m'
    rfl
  | some y =>
    rw [g] at m
    obtain ⟨u, v, rfl, _⟩ := m
    rfl
abbrev rTbl (K : PySem.W.Frag) (d : Addr) (f : Bool → Bool) : R2 := fun x y H Q => ∃ (z : Str) (r : Option Value), x = .str z ∧ y = .ref d ∧ PySem.W.nsIn K d z = some r ∧ Q (.bl (f r.isSome)) H
theorem tbl_read (T : TblK X.K X.w d t) (f : Bool → Bool) {σ : L2.St} {H : Hp} {Q : VK} (q : tE X.K CT Wd (xUn (fun w h => match w with
    | .str z => .ok (.bl (f (tblGet z t).isSome)) h
    | _ => .bad) ca) σ H Q) : tOp (rTbl X.K d f) (tE X.K CT Wd ca) (tC (.ref d)) σ H Q := by
  obtain ⟨ρ, h, en, S, E, q⟩ := q
  refine ⟨ρ, h, en, S, E, Post.bind (RR := RW X.K CT) S q fun w h1 ρ1 H1 v N1 r1 p1 => ?_⟩
  cases r1 with
  | @str z hz =>
    obtain ⟨r, e, er⟩ := tbl_is T z
    refine ⟨_, r, rfl, rfl, e, ?_⟩
    rw [er]
    exact Post.here N1.sim p1 (.bl _)
  | _ => exact (show False from p1).elim
theorem se_tblIn (T : TblK X.K X.w d t) (hg : Gl X x) (hm : X.mg x = some (.ref d)) (ha : SE X CT Wd a ca) (hb : behindInMarks .In (.Name x p) = false := by rfl) (hd : (x == ("__debug__" : Str)) = false := by decide) : SE X CT Wd (.Compare a [.In] [.Name x p] pos) (xUn (tblIn t) ca) := by
  obtain ⟨es, n, D⟩ := T.kd
  exact (pe_cmpR (op_in_kd D) ha (pe_glob (v := .ref d) hg hm rfl hd) hb).wk fun σ H Q q => tbl_read T id q
theorem st_tblIn (T : TblK X.K X.w d t) (hg : Gl X x) (hm : X.mg x = some (.ref d)) (ha : SE X CT Wd a ca) (hb : behindInMarks .In (.Name x p) = false := by rfl) (hd : (x == ("__debug__" : Str)) = false := by decide) : ST X CT Wd (.Compare a [.In] [.Name x p] pos) (xBl (xUn (tblIn t) ca)) := by
  obtain ⟨es, n, D⟩ := T.kd
  exact (pt_cmpR (op_in_kd D) ha (pe_glob (v := .ref d) hg hm rfl hd) hb).wk fun σ H Q q => tTest_of (fun _ _ _ z => tbl_read T id z) q
theorem se_tblNo (T : TblK X.K X.w d t) (hg : Gl X x) (hm : X.mg x = some (.ref d)) (ha : SE X CT Wd a ca) (hb : behindInMarks .NotIn (.Name x p) = false := by rfl) (hd : (x == ("__debug__" : Str)) = false := by decide) : SE X CT Wd (.Compare a [.NotIn] [.Name x p] pos) (xUn (tblNo t) ca) := by
  obtain ⟨es, n, D⟩ := T.kd
  exact (pe_cmpR (op_notIn_kd D) ha (pe_glob (v := .ref d) hg hm rfl hd) hb).wk fun σ H Q q => tbl_read T (!·) q
theorem st_tblNo (T : TblK X.K X.w d t) (hg : Gl X x) (hm : X.mg x = some (.ref d)) (ha : SE X CT Wd a ca) (hb : behindInMarks .NotIn (.Name x p) = false := by rfl) (hd : (x == ("__debug__" : Str)) = false := by decide) : ST X CT Wd (.Compare a [.NotIn] [.Name x p] pos) (xBl (xUn (tblNo t) ca)) := by
  obtain ⟨es, n, D⟩ := T.kd
  exact (pt_cmpR (op_notIn_kd D) ha (pe_glob (v := .ref d) hg hm rfl hd) hb).wk fun σ H Q q => tTest_of (fun _ _ _ z => tbl_read T (!·) z) q
theorem se_tblIx (T : TblK X.K X.w d t) (hg : Gl X x) (hm : X.mg x = some (.ref d)) (ha : SE X CT Wd a ca) (hs : PlainIx a) (hd : (x == ("__debug__" : Str)) = false := by decide) : SE X CT Wd (.Subscript (.Name x p) a pos) (xUn (tblIx t) ca) := by
  obtain ⟨es, n, D⟩ := T.kd
  refine (pe_ix ix_kdict (pe_glob (v := .ref d) hg hm rfl hd) ha hs).wk fun σ H Q ⟨ρ, h, en, S, E, q⟩ => ⟨ρ, h, en, S, E, Post.bind (RR := RW X.K CT) S q fun w h1 ρ1 H1 v N1 r1 p1 => ?_⟩
  cases r1 with
  | @str z hz =>
    obtain ⟨r, e, m⟩ := T.at_ z
    have p2 : Post X.K CT (RW X.K CT) Wd ρ1 h1 H1 σ (match tblGet z t with
      | some x => .ok x h1
      | none => .bad) Q := p1
    cases g : tblGet z t with
    | none => rw [g] at p2; exact p2.elim
    | some y =>
      rw [g] at p2 m
      obtain ⟨u, v, rfl, rv, rep⟩ := m
      exact ⟨d, _, v, rfl, rfl, ⟨es, n, u, D.at_, D.lit, e, rv⟩, Post.here N1.sim p2 (rep _ _ _ _)⟩
  | _ => exact (show False from p1).elim
end
end Sx

set_option linter.all false
set_option autoImplicit false
set_option maxRecDepth 100000
set_option maxHeartbeats 2000000
namespace Sx
open PySem PySem.Spec PyProof.Rows L2
/-! ### the law is called; the tables of code objects stand empty at first -/
abbrev emptyO : Obj := { cls := .none, data := .fields #[] }
/-- what is tracked at first: the tables, the script -/
def atFirst (cs : List (Addr × Addr)) (scr : Option (Addr × HO)) : Hp := fun b => match scr with
  | some (a, u) => if b = a then some u else if b ∈ cs.map (·.2) then some (.tbl #[]) else none
  | none => if b ∈ cs.map (·.2) then some (.tbl #[]) else none
section
variable {P : Program} {w : World} {K : PySem.W.Frag} {mg mb : Str → Option Value} {k : Nat} {fa a : Addr} {cs : List (Addr × Addr)} {fd : FuncData} {x : Str} {sp : Sp} {t : Shared} {vs : List Value} {ns : List Int}
theorem end_core {H : Hp} (KX : K.In t.heap) (gl : t.heap.Ns mainGlobals mg) (bl : t.heap.Ns builtinsNs mb) (bb : ∀ x : Str, x ≠ "__name__" → mb x = bootBuiltins x) (nl : t.heap.NoLimit) (gen0 : t.gens = #[]) (eT : ∀ p ∈ cs, t.heap.get? p.2 = some emptyO) (C : ∀ p ∈ cs, PySem.W.CodeHd t.heap p.1 p.2)
    (bm : ∃ (m : Addr) (ob : Obj), mg "__builtins__" = some (.ref m) ∧ m ≠ builtinsNs ∧ t.heap.get? m = some ob ∧ ob.cls = .type "module" ∧ ob.dict = some builtinsNs ∧ ob.data = .plain) (hr : Room k callerA)
    (F : ∀ base : Heap, K.In base → base.Ns mainGlobals mg → (∀ p ∈ cs, LamX.TabB base mg p.1 p.2) → FnG P w K mg base k fa fd [x] sp) (hbind : ∀ (s : Shared) (u : Value), BindsTo s fd ⟨[u], []⟩ [(x, u)])
    (tb : ∀ p ∈ cs, H p.2 = some (.tbl #[])) (only : ∀ b u, H b = some u → (b ∈ cs.map (·.2) ∧ u = .tbl #[]) ∨ ∃ o xs, u = .frz o (.lst xs) ∧ K.lookup b = none ∧ ∃ its n, o.data = .seq its n) (nT : ∀ p ∈ cs, K.lookup p.2 = none) (hok : HOk P w H t.heap) (q : sp [.ref a] H (fun v _ => v = .bl true) fun _ _ _ => False) :
    codeAny (model P w) callerA (.call (.ref fa) ⟨[.ref a], []⟩) (fun r s' => r = .ok (.ret (.bool true)) ∧ OldK t.heap s'.heap ∧ s'.os = t.os ∧ AllBare s'.gens) t := by
  have own : ∀ {b : Addr} {o : Obj} {u : HO}, t.heap.get? b = some o → H b = some u → o = emptyO ∨ ∃ its n, o.data = .seq its n := fun {b o u} e z => by
    rcases only b u z with ⟨hb, rfl⟩ | ⟨ob, xs, rfl, _, d⟩
    · obtain ⟨p, hp, rfl⟩ := List.mem_map.mp hb
      rw [eT p hp] at e
      exact .inl (Option.some.inj e).symm
    · obtain ⟨e2, _⟩ := hok b _ z
      rw [e] at e2
      cases e2
      exact .inr d
  have free : ∀ {b : Addr} {o : Obj}, t.heap.get? b = some o → o ≠ emptyO → (∀ its n, o.data ≠ .seq its n) → H b = none := fun {b o} e h1 h2 => by
    cases z : H b with
    | none => rfl
    | some u =>
      rcases own e z with h | ⟨its, n, h⟩
      · exact absurd h h1
      · exact absurd h (h2 its n)
  have ns_ : ∀ {b : Addr} {m : Str → Option Value}, t.heap.Ns b m → (hidT t.heap H).Ns b m := fun {b m} hn => by
    obtain ⟨o, es, ep, e, d, r⟩ := hn
    refine ⟨o, es, ep, hidT_get e (free e (fun z => ?_) fun its n z => ?_), d, r⟩
    · rw [z] at d; cases d
    · rw [d] at z; cases z
  have KB : K.In (hidT t.heap H) := fun b o e => hidT_get (KX b o e) (by
    cases z : H b with
    | none => rfl
    | some u =>
      exfalso
      rcases only b u z with ⟨hb, _⟩ | ⟨_, _, _, hk, _⟩
      · obtain ⟨p, hp, rfl⟩ := List.mem_map.mp hb
        rw [nT p hp] at e
        cases e
      · rw [hk] at e
        cases e)
  have TB : ∀ p ∈ cs, LamX.TabB (hidT t.heap H) mg p.1 p.2 := fun p hp => by
    have ep := eT p hp
    have neG : mainGlobals ≠ p.2 := fun z => by
      obtain ⟨o, es, n, e, d, _⟩ := gl
      rw [z, ep] at e
      cases e
      cases d
    refine ⟨?_, ?_, neG⟩
    · obtain ⟨o, us, file, tf, flags, tg, inF, text, tt, e1, r1, r2, r3, rest⟩ := C p hp
      refine ⟨o, us, file, tf, flags, tg, inF, text, tt, hidT_get e1 (free e1 (fun z => ?_) fun its n z => ?_), r1, r2, r3, rest⟩
      · rw [z] at r2
        cases r2
        simp at r3
      · rw [r2] at z
        cases z
    · obtain ⟨m, ob, b1, b2, b3, b4, b5, b6⟩ := bm
      have g1 : m ≠ mainGlobals := fun z => by
        obtain ⟨o, es, n, e, d, _⟩ := gl
        rw [z, e] at b3
        cases b3
        rw [d] at b6
        cases b6
      have g2 : m ≠ p.2 := fun z => by
        rw [z, ep] at b3
        cases b3
        cases b6
      refine ⟨m, ob, b1, b2, g1, g2, hidT_get b3 (free b3 (fun z => ?_) fun its n z => ?_), b4, b5, b6⟩
      · rw [z] at b6; cases b6
      · rw [b6] at z; cases z
  have e0 : Env0 P w K mg (hidT t.heap H) callerA [] t H :=
    ⟨rfl, ⟨KB, ns_ gl, ⟨mb, ns_ bl, bb⟩, let ⟨mc, h1, h2⟩ := nl; ⟨mc, ns_ h1, h2⟩⟩, fun b o e => of_hidT e, Nat.le_of_eq (hidT_size _ _), trivial, (fun b hb => nomatch (show b ∈ ([] : List Addr) from hb)), hok, .of_eq gen0⟩
  refine codeAny_mono ((F _ KB (ns_ gl) TB).run callerA [] t H ⟨[.ref a], []⟩ [.ref a] [.ref a] _ _ rfl hr e0 (hbind t (.ref a)) (.cons rfl .nil) q) fun r s' z => ?_
  rcases r with e | fl
  · obtain ⟨_, _, _, _, _, _, _, _, _, _, _, _, y⟩ := (show L2.CX P w [] H t (fun _ _ _ => False) e s' from z)
    exact y.elim
  cases fl with
  | next => exact False.elim z
  | brk => exact False.elim z
  | cont => exact False.elim z
  | ret u =>
    obtain ⟨v, H', os, bare, un, hok', rv, qv⟩ := z
    obtain rfl : v = .bl true := qv
    obtain rfl : u = Value.bool true := rv
    have kept : ∀ b o, t.heap.get? b = some o → b ∉ cs.map (·.2) → s'.heap.get? b = some o := fun b o e nb => by
      cases y : H b with
      | none => exact un.keep b o e y (fun z => nomatch (show b ∈ ([] : List Addr) from z)) (fun z => nomatch z)
      | some u =>
        rcases only b u y with ⟨hb, _⟩ | ⟨ob, xs, rfl, _, _⟩
        · exact absurd hb nb
        · obtain ⟨e1, _⟩ := hok b _ y
          obtain ⟨e2, _⟩ := hok' b _ (un.frzs b ob _ y)
          rw [e] at e1
          cases e1
          exact e2
    have grew : ∀ p ∈ cs, ∃ more : Array Value, s'.heap.get? p.2 = some { cls := .none, data := .fields more } := fun p hp =>
      let ⟨more, y⟩ := un.tbls p.2 #[] (tb p hp); ⟨_, hok' p.2 _ y⟩
    refine ⟨rfl, ⟨fun b o e => ?_, fun b o e => ?_⟩, os, bare⟩
    · by_cases hb : b ∈ cs.map (·.2)
      · obtain ⟨p, hp, rfl⟩ := List.mem_map.mp hb
        obtain ⟨more, hm⟩ := grew p hp
        have eo : o = emptyO := Option.some.inj (e.symm.trans (eT p hp))
        subst eo
        exact .inr (.inl ⟨((C p hp).tab (eT p hp)).isCodeTable, rfl, #[], more, rfl, by rw [Array.empty_append]; exact hm⟩)
      · exact .inl (kept b o e hb)
    · by_cases hb : b ∈ cs.map (·.2)
      · obtain ⟨p, hp, rfl⟩ := List.mem_map.mp hb
        obtain ⟨more, hm⟩ := grew p hp
        exact ⟨_, hm⟩
      · exact ⟨o, kept b o e hb⟩
theorem law_end (KX : K.In t.heap) (gl : t.heap.Ns mainGlobals mg) (bl : t.heap.Ns builtinsNs mb) (bb : ∀ x : Str, x ≠ "__name__" → mb x = bootBuiltins x) (nl : t.heap.NoLimit) (gen0 : t.gens = #[]) (eT : ∀ p ∈ cs, t.heap.get? p.2 = some emptyO) (nT : ∀ p ∈ cs, K.lookup p.2 = none) (C : ∀ p ∈ cs, PySem.W.CodeHd t.heap p.1 p.2)
    (bm : ∃ (m : Addr) (ob : Obj), mg "__builtins__" = some (.ref m) ∧ m ≠ builtinsNs ∧ t.heap.get? m = some ob ∧ ob.cls = .type "module" ∧ ob.dict = some builtinsNs ∧ ob.data = .plain) (ha : t.heap.get? a = some { cls := .type "list", data := .seq vs.toArray }) (hi : IntsAre vs ns) (hl : ns.length ≤ sizeLine) (hr : Room k callerA)
    (F : ∀ base : Heap, K.In base → base.Ns mainGlobals mg → (∀ p ∈ cs, LamX.TabB base mg p.1 p.2) → FnG P w K mg base k fa fd [x] sp) (hbind : ∀ (s : Shared) (u : Value), BindsTo s fd ⟨[u], []⟩ [(x, u)])
    (hsp : ∀ H : Hp, (∀ p ∈ cs, H p.2 = some (.tbl #[])) → SqF K H a (ns.map V.int) → sp [.ref a] H (fun v _ => v = .bl true) fun _ _ _ => False) :
    codeAny (model P w) callerA (.call (.ref fa) ⟨[.ref a], []⟩) (fun r s' => r = .ok (.ret (.bool true)) ∧ OldK t.heap s'.heap ∧ s'.os = t.os ∧ AllBare s'.gens) t := by
  have rv := vals_ints hi
  have aT : a ∉ cs.map (·.2) := fun z => by
    obtain ⟨p, hp, e⟩ := List.mem_map.mp z
    have y := eT p hp
    rw [e, ha] at y
    cases y
  have isT : ∀ {b : Addr}, b ∈ cs.map (·.2) → t.heap.get? b = some emptyO := fun {b} hb => by
    obtain ⟨p, hp, rfl⟩ := List.mem_map.mp hb
    exact eT p hp
  cases hk : K.lookup a with
  | some o =>
    have tb : ∀ p ∈ cs, atFirst cs none p.2 = some (.tbl #[]) := fun p hp => if_pos (List.mem_map.mpr ⟨p, hp, rfl⟩)
    have at_ : ∀ b u, atFirst cs none b = some u → b ∈ cs.map (·.2) ∧ u = .tbl #[] := fun b u z => by
      by_cases hb : b ∈ cs.map (·.2)
      · exact ⟨hb, (Option.some.inj ((if_pos hb).symm.trans z)).symm⟩
      · cases (if_neg hb).symm.trans z
    have e := KX a o hk
    rw [ha] at e
    cases e
    refine end_core KX gl bl bb nl gen0 eT C bm hr F hbind tb (fun b u z => .inl (at_ b u z)) nT (fun b u z => ?_) (hsp _ tb (.inr ⟨_, vs.toArray, _, hk, rfl, rfl, rfl, by rw [List.size_toArray, hi.length]; exact hl, by simpa using rv⟩))
    obtain ⟨hb, rfl⟩ := at_ b u z
    exact isT hb
  | none =>
    have scr : atFirst cs (some (a, .frz { cls := .type "list", data := .seq vs.toArray } (.lst (ns.map V.int)))) a = some (.frz { cls := .type "list", data := .seq vs.toArray } (.lst (ns.map V.int))) := if_pos rfl
    have tb : ∀ p ∈ cs, atFirst cs (some (a, .frz { cls := .type "list", data := .seq vs.toArray } (.lst (ns.map V.int)))) p.2 = some (.tbl #[]) := fun p hp =>
      (if_neg (show ¬ p.2 = a from fun z => aT (z ▸ List.mem_map.mpr ⟨p, hp, rfl⟩))).trans (if_pos (List.mem_map.mpr ⟨p, hp, rfl⟩))
    have at_ : ∀ b u, atFirst cs (some (a, .frz { cls := .type "list", data := .seq vs.toArray } (.lst (ns.map V.int)))) b = some u → (b ∈ cs.map (·.2) ∧ u = .tbl #[]) ∨ b = a ∧ u = .frz { cls := .type "list", data := .seq vs.toArray } (.lst (ns.map V.int)) := fun b u z => by
      by_cases c : b = a
      · exact .inr ⟨c, (Option.some.inj ((if_pos c).symm.trans z)).symm⟩
      · have z1 := (if_neg c).symm.trans z
        by_cases hb : b ∈ cs.map (·.2)
        · exact .inl ⟨hb, (Option.some.inj ((if_pos hb).symm.trans z1)).symm⟩
        · cases (if_neg hb).symm.trans z1
    refine end_core KX gl bl bb nl gen0 eT C bm hr F hbind tb (fun b u z => ?_) nT (fun b u z => ?_) (hsp _ tb (.inl ⟨_, scr⟩))
    · rcases at_ b u z with y | ⟨rfl, rfl⟩
      · exact .inl y
      · exact .inr ⟨_, _, rfl, hk, _, _, rfl⟩
    · rcases at_ b u z with ⟨hb, rfl⟩ | ⟨rfl, rfl⟩
      · exact isT hb
      · exact ⟨ha, by rw [List.length_map]; exact hl, vs, _, rv, ha⟩
end
/-- what is told of the law at the head's heap -/
structure LawG (l : PySem.W.OpenLaw) (w : World) (k n : Nat) (x : Str) (mg : Str → Option Value) (fa : Addr) (h : Heap) (K : PySem.W.Frag) (fd : FuncData) (cs : List (Addr × Addr)) (sp : Sp) : Prop where
  kin : K.In h
  tab : ∀ p ∈ cs, h.get? p.2 = some emptyO
  out : ∀ p ∈ cs, K.lookup p.2 = none
  code : ∀ p ∈ cs, PySem.W.CodeHd h p.1 p.2
  bind : ∀ (s : Shared) (u : Value), BindsTo s fd ⟨[u], []⟩ [(x, u)]
  say : ∀ (H : Hp) (a : Addr) (ns : List Int), ns.length ≤ n → (∀ p ∈ cs, H p.2 = some (.tbl #[])) → SqF K H a (ns.map V.int) → sp [.ref a] H (fun v _ => v = .bl true) fun _ _ _ => False
  fn : ∀ base : Heap, K.In base → base.Ns mainGlobals mg → (∀ p ∈ cs, LamX.TabB base mg p.1 p.2) → FnG l.prog w K mg base k fa fd [x] sp
theorem walk_end {l : PySem.W.OpenLaw} {n k : Nat} {q : Program} {loose : List Str} {XP : (Str → Option Value) → Heap → Prop} {YP : World → Heap → Prop} {d : DefRec} {x : Str} (hn : l.most = some n) (hn2 : n ≤ sizeLine) (hdf : d.params.defaults = []) (hr : Room k callerA)
    (F : ∀ (w : World) (mg : Str → Option Value) (fa : Addr) (h : Heap), YP w h → h.Ns mainGlobals mg → mg d.name = some (.ref fa) → ∃ K fd cs sp, LawG l w k n x mg fa h K fd cs sp) : PySem.W.WalkO q loose XP YP l.row.toRowW d [] (fun f vs => PySem.call f vs) :=
  Att.attach_callB hn hdf fun w s₀ t mg mb fa o pm cd doc a vs ns G Y ho hd hcd hmg hobj hints hlen hbits hg => by
    obtain ⟨K, fd, cs, sp, L⟩ := F w mg fa _ Y G.T.g hmg
    exact law_end L.kin G.T.g G.T.b G.T.builtins G.T.nolimit hg L.tab L.out L.code G.T.bmain hobj hints (Nat.le_trans hlen hn2) hr L.fn L.bind fun H hH hS => L.say H a ns hlen hH hS
end Sx

set_option linter.all false
set_option autoImplicit false
set_option maxRecDepth 100000
set_option maxHeartbeats 2000000
namespace Sx
open PySem PySem.Spec PyProof.Rows L2
/-! ### what the head tells us, by paths -/
/-- what an object names, as far as we follow it -/
def nextA (g : Addr → Option Obj) (a : Addr) : List Addr := match g a with
  | some o => (match o.data with
    | .func fd => He.refV fd.code ++ He.refV fd.defaults
    | .cls cd => [cd.ns]
    | .dict es _ => es.toList.flatMap fun e => He.refV e.val
    | .fields vs => (match o.cls with
      | .type c => if (decide (c = "property") || decide (c = "staticmethod")) = true then vs.toList.flatMap He.refV else []
      | _ => [])
    | _ => [])
  | none => []
def allA (g : Addr → Option Obj) : Nat → List Addr → List Addr
  | 0, l => l
  | n + 1, l => l ++ allA g n (l.flatMap (nextA g))
def fragP (g : Addr → Option Obj) : PySem.W.Frag := He.frT g (allA g 5 [mainGlobals])
/-- a def: where it stands -/
abbrev Pth := PySem.W.Frag → Addr
def pG (x : Str) : Pth := fun K => He.ga K x
def pM (C m : Str) : Pth := fun K => He.ma K (He.ga K C) m
/-- what a property, a static method wraps -/
def pW (C m : Str) : Pth := fun K => match K.lookup (He.ma K (He.ga K C) m) with
  | some ⟨_, _, .fields vs, _⟩ => (match vs.toList with
    | .ref g :: _ => g
    | _ => 0)
  | _ => 0
abbrev FnO : Type := Option (Str × Str × Arguments × FuncBody × Scope × Addr × List (Str × Addr) × Addr × Value)
def fnO (K : PySem.W.Frag) (a : Addr) : FnO := match K.lookup a with
  | some ⟨_, _, .func fd, _⟩ => some (fd.name, fd.qualname, fd.params, fd.body, fd.scope, fd.globals, fd.closure, fd.builtins, fd.kwdefaults)
  | _ => none
structure DefP where
  at_ : Pth
  name : Str
  qual : Str
  params : Arguments
  body : List Stmt
  scope : Scope
  dfl : List He.Dv := []
def DefP.val (d : DefP) : FnO := some (d.name, d.qual, d.params, .stmts d.body, d.scope, mainGlobals, [], builtinsNs, .none)
def DefP.dvs (K : PySem.W.Frag) (d : DefP) : List V := d.dfl.map (He.Dv.v K)
def DefP.ok (K : PySem.W.Frag) (d : DefP) : Bool := PySem.W.keepIn K (.ref (d.at_ K)) && (match K.lookup (d.at_ K) with
  | some ⟨_, _, .func fd, _⟩ => PySem.W.codeIn K fd.code d.qual && He.dflB K fd.defaults (d.dvs K)
  | _ => false)
theorem DefP.fun_ {K : PySem.W.Frag} {d : DefP} (e : fnO K (d.at_ K) = d.val) (c : d.ok K = true) : ∃ oc od dV doc pm an cdv ct osl, K.lookup (d.at_ K) = some ⟨oc, od, .func (PySem.W.fnOf d.name d.qual d.params d.body d.scope dV .none doc pm an cdv ct), osl⟩ ∧ PySem.W.codeIn K cdv d.qual = true ∧ DflV K dV (d.dvs K) ∧ PySem.W.keepIn K (.ref (d.at_ K)) = true := by
  obtain ⟨kp, c2⟩ := He.ba c
  unfold fnO at e
  cases q : K.lookup (d.at_ K) with
  | none => rw [q] at c2; cases c2
  | some o =>
    obtain ⟨oc, od, dt, osl⟩ := o
    rw [q] at c2 e
    cases dt with
    | func fd =>
      obtain ⟨m1, m2, m3, m4, m5, m6, m7, m8, m9, m10, m11, m12, m13, m14, m15⟩ := fd
      have e2 : (some (m1, m2, m3, m4, m5, m6, m7, m15, m9) : FnO) = some (d.name, d.qual, d.params, .stmts d.body, d.scope, mainGlobals, [], builtinsNs, .none) := e
      simp only [Option.some.injEq, Prod.mk.injEq] at e2
      obtain ⟨h1, h2, h3, h4, h5, h6, h7, h8, h9⟩ := e2
      subst h1 h2 h3 h4 h5 h6 h7 h8 h9
      obtain ⟨k1, k2⟩ := He.ba (show (PySem.W.codeIn K m13 d.qual && He.dflB K m8 (d.dvs K)) = true from c2)
      exact ⟨oc, od, m8, m10, m11, m12, m13, m14, osl, rfl, k1, He.dflB_ok k2, kp⟩
    | _ => cases c2
/-- as FunD -/
theorem DefP.funD {K : PySem.W.Frag} {d : DefP} (e : fnO K (d.at_ K) = d.val) (c : d.ok K = true) : ∃ fd, FunD K d.name d.qual d.params d.body d.scope (d.dvs K) [] (d.at_ K) fd := by
  obtain ⟨oc, od, dV, doc, pm, an, cdv, ct, osl, h1, h2, h3, h4⟩ := DefP.fun_ e c
  exact ⟨_, ⟨oc, od, dV, _, doc, pm, an, cdv, ct, osl, rfl, h1, h2, h3, .inl rfl⟩, h4⟩
/-! ### a dict of the top: texts as keys, texts and numbers as values -/
abbrev RowO : Type := Option (Str × Int × (Int ⊕ Str))
def rowO (e : DictEntry) : RowO := match e.key, e.val with
  | .str x _, .str y _ => some (x, e.hash, .inr y)
  | .str x _, .int i _ => some (x, e.hash, .inl i)
  | _, _ => none
def dicO (K : PySem.W.Frag) (a : Addr) : Option (List RowO) := match K.lookup a with
  | some ⟨.type c, none, .dict es _, sl⟩ => (match decide (c = "dict") && (sl.isEmpty && !(a == sysModules)) with
    | true => some (es.toList.map rowO)
    | false => none)
  | _ => none
structure TabP where
  at_ : Pth
  rows : List (Str × (Int ⊕ Str))
def TabP.val (w : World) (t : TabP) : Option (List RowO) := some (t.rows.map fun q => some (q.1, PyData.keyHash w.params q.1, q.2))
def wOf : Int ⊕ Str → W
  | .inl i => .int i
  | .inr z => .str z.cps.toList
def TabP.tbl (t : TabP) : List (List Nat × W) := t.rows.map fun q => (q.1.cps.toList, wOf q.2)
theorem rows_lit {P : Params} : ∀ {l : List DictEntry} {rs : List (Str × (Int ⊕ Str))}, l.map rowO = rs.map (fun q => some (q.1, PyData.keyHash P q.1, q.2)) → PySem.W.KeysLit P l
  | [], _, _ => trivial
  | e :: r, [], h => by cases h
  | e :: r, k :: ks, h => by
    have h1 : rowO e :: r.map rowO = some (k.1, PyData.keyHash P k.1, k.2) :: ks.map (fun q => some (q.1, PyData.keyHash P q.1, q.2)) := h
    injection h1 with h2 h3
    refine ⟨?_, rows_lit h3⟩
    unfold rowO at h2
    split at h2
    · rename_i x t y _ q _
      injection h2 with h4
      injection h4 with h5 h6
      injection h6 with h6 _
      exact ⟨x, t, q, by rw [h6, h5]⟩
    · rename_i x t y _ q _
      injection h2 with h4
      injection h4 with h5 h6
      injection h6 with h6 _
      exact ⟨x, t, q, by rw [h6, h5]⟩
    · cases h2
/-- a value of the table, in the model -/
def ValIs (u : Value) (x : W) : Prop := (∃ y t, u = .str y t ∧ x = .str y.cps.toList) ∨ ∃ i t, u = .int i t ∧ x = .int i
theorem isStr_ns {x : Str} {t : Tok} {z : List Nat} : Value.isStr (.str x t) ⟨z.toArray⟩ = eqNs z x.cps.toList := by
  show (x == (⟨z.toArray⟩ : Str)) = _
  rw [Bool.eq_iff_iff, eqNs_iff, beq_iff_eq]
  constructor
  · rintro rfl
    rfl
  · intro h
    subst h
    exact (str_list x).symm
theorem rows_find {P : Params} {z : List Nat} : ∀ {l : List DictEntry} {rs : List (Str × (Int ⊕ Str))}, l.map rowO = rs.map (fun q => some (q.1, PyData.keyHash P q.1, q.2)) →
    (l.any (·.refKey) = false) ∧ match tblGet z (rs.map fun q => (q.1.cps.toList, wOf q.2)) with
      | some x => ∃ e, l.find? (·.key.isStr ⟨z.toArray⟩) = some e ∧ ValIs e.val x
      | none => l.find? (·.key.isStr ⟨z.toArray⟩) = none
  | [], [], _ => ⟨rfl, rfl⟩
  | [], _ :: _, h => by cases h
  | e :: r, [], h => by cases h
  | e :: r, k :: ks, h => by
    have h1 : rowO e :: r.map rowO = some (k.1, PyData.keyHash P k.1, k.2) :: ks.map (fun q => some (q.1, PyData.keyHash P q.1, q.2)) := h
    injection h1 with h2 h3
    obtain ⟨i1, i2⟩ := rows_find (P := P) (z := z) h3
    have key : ∃ t, e.key = .str k.1 t ∧ ValIs e.val (wOf k.2) := by
      obtain ⟨k1, k2⟩ := k
      unfold rowO at h2
      split at h2
      · rename_i x t y ty q q2
        injection h2 with h4
        injection h4 with h5 h6
        injection h6 with h6 h7
        subst h5 h7
        exact ⟨t, q, .inl ⟨y, ty, q2, rfl⟩⟩
      · rename_i x t y ty q q2
        injection h2 with h4
        injection h4 with h5 h6
        injection h6 with h6 h7
        subst h5 h7
        exact ⟨t, q, .inr ⟨y, ty, q2, rfl⟩⟩
      · cases h2
    obtain ⟨t, ek, ev⟩ := key
    refine ⟨?_, ?_⟩
    · rw [List.any_cons, i1]
      show (e.refKey || false) = false
      unfold DictEntry.refKey
      rw [ek]
      rfl
    · rw [List.find?_cons, ek, isStr_ns]
      show match (if eqNs z k.1.cps.toList = true then some (wOf k.2) else tblGet z (ks.map fun q => (q.1.cps.toList, wOf q.2))) with
        | some x => _
        | none => _
      by_cases c : eqNs z k.1.cps.toList = true
      · rw [if_pos c, c]
        exact ⟨e, rfl, ev⟩
      · rw [if_neg c, Bool.eq_false_iff.mpr c]
        exact i2
theorem TabP.ok {K : PySem.W.Frag} {w : World} {t : TabP} (h : dicO K (t.at_ K) = t.val w) (hz : (t.rows.all fun q => match q.2 with
    | .inl _ => true
    | .inr z => z.cps.toList.all (· < 1114112)) = true) : TblK K w (t.at_ K) t.tbl := by
  unfold dicO at h
  cases q : K.lookup (t.at_ K) with
  | none => rw [q] at h; cases h
  | some o =>
    obtain ⟨oc, od, dt, osl⟩ := o
    rw [q] at h
    cases oc with
    | type c =>
      cases od with
      | none =>
        cases dt with
        | dict es n =>
          have h1 : (match decide (c = "dict") && (osl.isEmpty && !(t.at_ K == sysModules)) with
            | true => some (es.toList.map rowO)
            | false => none) = t.val w := h
          cases z : decide (c = "dict") && (osl.isEmpty && !(t.at_ K == sysModules)) with
          | false => rw [z] at h1; cases h1
          | true =>
            rw [z] at h1
            obtain ⟨z1, z2⟩ := He.ba z
            obtain ⟨z3, z4⟩ := He.ba z2
            have e1 : c = "dict" := of_decide_eq_true z1
            have e2 : osl = #[] := Array.isEmpty_iff.mp z3
            subst e1 e2
            have rows := Option.some.inj h1
            refine ⟨⟨es, n, q, rows_lit rows, by simpa using z4⟩, fun y => ?_⟩
            obtain ⟨f1, f2⟩ := rows_find (z := y) rows
            have f3 : match tblGet y t.tbl with
              | some x => ∃ e, es.toList.find? (·.key.isStr ⟨y.toArray⟩) = some e ∧ ValIs e.val x
              | none => es.toList.find? (·.key.isStr ⟨y.toArray⟩) = none := f2
            unfold PySem.W.nsIn
            rw [q]
            show ∃ r, (match es.toList.find? (·.key.isStr ⟨y.toArray⟩) with
              | some e => some (some e.val)
              | none => if es.toList.any (·.refKey) then none else some none) = some r ∧ _
            have mem : ∀ x, tblGet y t.tbl = some x → ∀ (u : Value), ValIs u x → ∃ v, RelV v u ∧ ∀ (CT : CTx) (ρ : Nat → Addr) (m : Nat) (H : Hp), Rep K CT ρ m H x v := fun x hx u hu => by
              rcases hu with ⟨b, tb, rfl, rfl⟩ | ⟨i, ti, rfl, rfl⟩
              · refine ⟨.str b, ⟨tb, rfl⟩, fun _ _ _ _ => rep_str b ?_⟩
                have go : ∀ (rs : List (Str × (Int ⊕ Str))), (rs.all fun q => match q.2 with
                    | .inl _ => true
                    | .inr z => z.cps.toList.all (· < 1114112)) = true → tblGet y (rs.map fun q => (q.1.cps.toList, wOf q.2)) = some (.str b.cps.toList) → b.cps.toList.all (· < 1114112) = true := fun rs => by
                  induction rs with
                  | nil => intro _ z; cases z
                  | cons p r ih =>
                    intro ha hz
                    rw [List.all_cons, Bool.and_eq_true] at ha
                    have hz' : (if eqNs y p.1.cps.toList = true then some (wOf p.2) else tblGet y (r.map fun q => (q.1.cps.toList, wOf q.2))) = some (.str b.cps.toList) := hz
                    by_cases c : eqNs y p.1.cps.toList = true
                    · rw [if_pos c] at hz'
                      obtain ⟨p1, p2⟩ := p
                      cases p2 with
                      | inl i => cases hz'
                      | inr s =>
                        have es : s.cps.toList = b.cps.toList := by
                          have := Option.some.inj hz'
                          exact W.str.inj this
                        rw [← es]
                        exact ha.1
                    · rw [if_neg c] at hz'
                      exact ih ha.2 hz'
                exact go t.rows hz hx
              · exact ⟨.int i, ⟨ti, rfl⟩, fun _ _ _ _ => .int i⟩
            cases g : tblGet y t.tbl with
            | none =>
              rw [g] at f3
              have f4 : es.toList.find? (·.key.isStr ⟨y.toArray⟩) = none := f3
              rw [f4]
              refine ⟨none, ?_, rfl⟩
              show (if es.toList.any (·.refKey) = true then none else some none) = some none
              rw [f1]
              rfl
            | some x =>
              rw [g] at f3
              obtain ⟨e, f4, f5⟩ := f3
              rw [f4]
              obtain ⟨v, r1, r2⟩ := mem x g e.val f5
              exact ⟨some e.val, rfl, e.val, v, rfl, r1, r2⟩
        | _ => cases h
      | some d => cases dt <;> cases h
    | _ => cases od <;> cases dt <;> cases h
/-! ### code objects and their tables -/
def codeA (K : PySem.W.Frag) (p : Pth) : Addr := match K.lookup (p K) with
  | some ⟨_, _, .func fd, _⟩ => (match fd.code with
    | .ref c => c
    | _ => 0)
  | _ => 0
def cTA (K : PySem.W.Frag) (p : Pth) : Addr × Addr := (codeA K p, He.tabOf K (codeA K p))
def tabsA (g : Addr → Option Obj) (tf : List Pth) (K : PySem.W.Frag) : Bool := decide ((tf.map fun p => (cTA K p).2).Nodup) && tf.all fun p => PySem.W.codeHdIn K (cTA K p).1 (cTA K p).2 && (match g (cTA K p).2 with
  | some o => He.emptyTab o
  | none => false)
/-! ### the Hook -/
structure Facts where
  fa : List (PySem.W.Frag → Bool)
  fn : List DefP
  ts : List TabP
  tf : List Pth
abbrev AlP : Type := Bool × List FnO × List (Option (List RowO))
def Facts.obsK (f : Facts) (g : Addr → Option Obj) (K : PySem.W.Frag) : AlP := ((f.fa.all fun b => b K) && ((f.fn.all fun d => d.ok K) && tabsA g f.tf K), f.fn.map fun d => fnO K (d.at_ K), f.ts.map fun t => dicO K (t.at_ K))
def Facts.obs (f : Facts) (g : Addr → Option Obj) : AlP := f.obsK g (fragP g)
def Facts.val (f : Facts) (w : World) : AlP := (true, f.fn.map DefP.val, f.ts.map (TabP.val w))
structure Says (f : Facts) (w : World) (h : Heap) (K : PySem.W.Frag) : Prop where
  fa : (f.fa.all fun b => b K) = true
  ok : (f.fn.all fun d => d.ok K) = true
  fn : f.fn.map (fun d => fnO K (d.at_ K)) = f.fn.map DefP.val
  ts : f.ts.map (fun t => dicO K (t.at_ K)) = f.ts.map (TabP.val w)
  nd : (f.tf.map fun p => (cTA K p).2).Nodup
  hd : ∀ p ∈ f.tf, PySem.W.codeHdIn K (cTA K p).1 (cTA K p).2 = true
  out : ∀ p ∈ f.tf, K.lookup (cTA K p).2 = none
  empty : ∀ p ∈ f.tf, h.get? (cTA K p).2 = some emptyO
theorem says_of {f : Facts} {w : World} {h : Heap} (e : f.obs h.get? = f.val w) : Says f w h (fragP h.get?) := by
  have e1 : ((f.fa.all fun b => b (fragP h.get?)) && ((f.fn.all fun d => d.ok (fragP h.get?)) && tabsA h.get? f.tf (fragP h.get?))) = true := congrArg (fun z : AlP => z.1) e
  obtain ⟨a1, a2⟩ := He.ba e1
  obtain ⟨a3, a4⟩ := He.ba a2
  obtain ⟨a5, a6⟩ := He.ba a4
  have key : ∀ p ∈ f.tf, PySem.W.codeHdIn (fragP h.get?) (cTA (fragP h.get?) p).1 (cTA (fragP h.get?) p).2 = true ∧ ∃ o, h.get? (cTA (fragP h.get?) p).2 = some o ∧ He.emptyTab o = true := fun p hp => by
    obtain ⟨b1, b2⟩ := He.ba (List.all_eq_true.mp a6 p hp)
    refine ⟨b1, ?_⟩
    cases q : h.get? (cTA (fragP h.get?) p).2 with
    | none => rw [q] at b2; cases b2
    | some o => rw [q] at b2; exact ⟨o, rfl, b2⟩
  refine ⟨a1, a3, congrArg (fun z : AlP => z.2.1) e, congrArg (fun z : AlP => z.2.2) e, of_decide_eq_true a5, fun p hp => (key p hp).1, fun p hp => ?_, fun p hp => ?_⟩
  · obtain ⟨_, o, q, z⟩ := key p hp
    exact He.frT_none q z
  · obtain ⟨_, o, q, z⟩ := key p hp
    rw [q, He.emptyTab_eq z]
def Facts.hook (f : Facts) : PySem.W.Hook where
  α := AlP
  obs := fun s => f.obs s.heap.get?
  val := fun w => f.val w
  says := fun w h => ∃ K : PySem.W.Frag, K.In h ∧ Says f w h K
  of := fun _ _ e => ⟨_, He.frT_in, says_of e⟩
  keeps := fun _ _ _ ⟨K, hK, c⟩ k => ⟨K, PySem.W.Frag.In.keeps hK k, ⟨c.fa, c.ok, c.fn, c.ts, c.nd, c.hd, c.out, fun p hp => k _ _ (c.empty p hp)⟩⟩
theorem Facts.obs_eq {f : Facts} {g : Addr → Option Obj} {s : Shared} (h : ∀ a, g a = s.heap.get? a) : f.obs g = f.hook.obs s := by
  have e : g = s.heap.get? := funext h
  rw [e] <;> rfl
section
variable {f : Facts} {w : World} {h : Heap} {K : PySem.W.Frag}
theorem Says.fact (c : Says f w h K) (i : Nat) {b : PySem.W.Frag → Bool} (e : f.fa[i]? = some b := by rfl) : b K = true := List.all_eq_true.mp c.fa b (List.mem_of_getElem? e)
theorem Says.def_ (c : Says f w h K) (i : Nat) {d : DefP} (e : f.fn[i]? = some d := by rfl) : fnO K (d.at_ K) = d.val ∧ d.ok K = true := by
  have e2 : (f.fn.map fun d => fnO K (d.at_ K))[i]? = (f.fn.map DefP.val)[i]? := by rw [c.fn]
  rw [List.getElem?_map, List.getElem?_map, e] at e2
  exact ⟨Option.some.inj e2, List.all_eq_true.mp c.ok d (List.mem_of_getElem? e)⟩
theorem Says.tab (c : Says f w h K) (i : Nat) {t : TabP} (e : f.ts[i]? = some t := by rfl) : dicO K (t.at_ K) = t.val w := by
  have e2 : (f.ts.map fun t => dicO K (t.at_ K))[i]? = (f.ts.map (TabP.val w))[i]? := by rw [c.ts]
  rw [List.getElem?_map, List.getElem?_map, e] at e2
  exact Option.some.inj e2
/-- the tables, for the end -/
def csOf (f : Facts) (K : PySem.W.Frag) : List (Addr × Addr) := f.tf.map (cTA K)
theorem Says.cs (c : Says f w h K) (KX : K.In h) : (∀ p ∈ csOf f K, h.get? p.2 = some emptyO) ∧ (∀ p ∈ csOf f K, K.lookup p.2 = none) ∧ ∀ p ∈ csOf f K, PySem.W.CodeHd h p.1 p.2 := by
  refine ⟨fun p hp => ?_, fun p hp => ?_, fun p hp => ?_⟩
  · obtain ⟨q, hq, rfl⟩ := List.mem_map.mp hp
    exact c.empty q hq
  · obtain ⟨q, hq, rfl⟩ := List.mem_map.mp hp
    exact c.out q hq
  · obtain ⟨q, hq, rfl⟩ := List.mem_map.mp hp
    exact PySem.W.codeHd_of_K KX (c.hd q hq)
end
/-! ### facts of classes, by looks -/
def iclsB (K : PySem.W.Frag) (C : Addr) : Bool := PySem.W.plainGet K C Str.empty && (PySem.W.hasDictIn K C && (PySem.W.plainOver K C && (He.eqO (PySem.W.findIn K (.ref C) "__setattr__") (some (some (.builtin "object.__setattr__"))) &&
  (He.eqO (PySem.W.findIn K (.ref C) "__class__") (some (some (.builtin "object.__class__"))) && (He.eqO (PySem.W.specialIn K (.builtin "object.__class__") "__get__") (some (some (.builtin "getset_descriptor.__get__"))) && (decide (PySem.W.takesIn K (.builtin "object.__class__") = some true) && decide (PySem.W.mroIn K C (.type "object") = some true)))))))
theorem icls_of {K : PySem.W.Frag} {C : Addr} (h : iclsB K C = true) : IClsX K C := by
  obtain ⟨a1, h⟩ := He.ba h
  obtain ⟨a2, h⟩ := He.ba h
  obtain ⟨a3, h⟩ := He.ba h
  obtain ⟨a4, h⟩ := He.ba h
  obtain ⟨a5, h⟩ := He.ba h
  obtain ⟨a6, h⟩ := He.ba h
  obtain ⟨a7, a8⟩ := He.ba h
  exact ⟨⟨a1, a2, a3, He.eqO_ok a4⟩, He.eqO_ok a5, He.eqO_ok a6, of_decide_eq_true a7, of_decide_eq_true a8⟩
def propB (C m : Str) (K : PySem.W.Frag) : Bool := He.eqO (PySem.W.findIn K (.ref (He.ga K C)) m) (some (some (.ref (He.ma K (He.ga K C) m)))) && (He.eqO (PySem.W.specialIn K (.ref (He.ma K (He.ga K C) m)) "__get__") (some (some (.builtin "property.__get__"))) &&
  (decide (PySem.W.takesIn K (.ref (He.ma K (He.ga K C) m)) = some true) && (match PySem.W.recIn K (He.ma K (He.ga K C) m) "property" with
    | some (.ref g :: _) => decide (g = pW C m K)
    | _ => false)))
theorem prop_of {C m : Str} {K : PySem.W.Frag} (h : propB C m K = true) : PropOf K (He.ga K C) m (He.ma K (He.ga K C) m) (pW C m K) := by
  obtain ⟨a1, h⟩ := He.ba h
  obtain ⟨a2, h⟩ := He.ba h
  obtain ⟨a3, a4⟩ := He.ba h
  refine ⟨He.eqO_ok a1, He.eqO_ok a2, of_decide_eq_true a3, ?_⟩
  split at a4
  · rename_i g rest e
    rw [e, of_decide_eq_true a4]
    exact ⟨rest, rfl⟩
  · cases a4
end Sx

set_option linter.all false
set_option autoImplicit false
set_option maxRecDepth 100000
set_option maxHeartbeats 2000000
namespace Sx
open PySem PySem.Spec PyProof.Rows L2
/-! ### what printed texts lean on -/
/-- the j-th statement of a class -/
def clsS (s : Stmt) (j : Nat) : Stmt := match s with
  | .ClassDef _ _ _ b _ _ _ _ _ _ _ => b.getD j (.Pass ⟨0, 0, 0, 0⟩)
  | _ => .Pass ⟨0, 0, 0, 0⟩
/-- a def of the text, called with every parameter written -/
structure DefX (K : PySem.W.Frag) (x qual : Str) (st : Stmt) (ps : List Str) (dvs : List V) where
  f : Addr
  fd : FuncData
  F : FunD K x qual (defArgs st) (defBody st) (defScope st) dvs [] f fd
  b : Binds K fd ps []
/-- the same with its last parameters left out -/
structure DflX (K : PySem.W.Frag) (fd : FuncData) (ps : List Str) (dvs : List V) where
  ds : List Value
  v : Vals dvs ds
  b : Binds K fd ps ds
/-- where a def's lambdas lie -/
structure LamAt (cs : List (Addr × Addr)) (tabs : List (Addr × Str)) (code : Value) (qual : Str) where
  c : Addr
  p : Addr
  hc : code = .ref c
  hm : (c, p) ∈ cs
  ht : (p, (qual ++ ".<locals>.") ++ "<lambda>") ∈ tabs
  hu : ∀ q ∈ tabs, q.1 = p → q.2 = (qual ++ ".<locals>.") ++ "<lambda>"
def tabsOf (f : Facts) (qs : List Str) (K : PySem.W.Frag) : List (Addr × Str) := (f.tf.map fun p => (cTA K p).2).zip (qs.map fun q => (q ++ ".<locals>.") ++ "<lambda>")
theorem mem_zip_at {α β : Type} {l : List α} {m : List β} {i : Nat} {a : α} {b : β} (h1 : l[i]? = some a) (h2 : m[i]? = some b) : (a, b) ∈ l.zip m := List.mem_of_getElem? (i := i) (List.getElem?_zip_eq_some.mpr ⟨h1, h2⟩)
theorem zip_uniq {α β : Type} {l : List α} {m : List β} {i : Nat} {a : α} {b : β} (nd : l.Nodup) (h1 : l[i]? = some a) (h2 : m[i]? = some b) {q : α × β} (hq : q ∈ l.zip m) (e : q.1 = a) : q.2 = b := by
  obtain ⟨j, hj⟩ := List.mem_iff_getElem?.mp hq
  obtain ⟨q1, q2⟩ := q
  obtain ⟨j1, j2⟩ := List.getElem?_zip_eq_some.mp hj
  have e' : q1 = a := e
  subst e'
  obtain ⟨l1, e1⟩ := List.getElem?_eq_some_iff.mp h1
  obtain ⟨l2, e2⟩ := List.getElem?_eq_some_iff.mp j1
  have ij : i = j := (List.getElem_inj nd).mp (e1.trans e2.symm)
  subst ij
  rw [h2] at j2
  exact (Option.some.inj j2).symm
theorem lamAt_of {f : Facts} {w : World} {h : Heap} {K : PySem.W.Frag} {qs : List Str} {x qual : Str} {st : Stmt} {ps : List Str} {dvs : List V} {p : Pth} (c : Says f w h K) (D : DefX K x qual st ps dvs) (e : D.f = p K) (i : Nat) (h1 : f.tf[i]? = some p) (h2 : qs[i]? = some qual) : Nonempty (LamAt (csOf f K) (tabsOf f qs K) D.fd.code qual) := by
  obtain ⟨oc, od, dV, kV, doc, pm, an, cdv, ct, osl, e1, lk, hcd, _, _⟩ := D.F.ex
  obtain ⟨cc, hcc⟩ := He.codeIn_ref hcd
  have ec : D.fd.code = .ref cc := by rw [e1]; exact hcc
  have ea : codeA K p = cc := by
    unfold codeA
    rw [← e, lk]
    show (match D.fd.code with | .ref c => c | _ => 0) = cc
    rw [ec]
  have t1 : (f.tf.map fun p => (cTA K p).2)[i]? = some (cTA K p).2 := by rw [List.getElem?_map, h1]; rfl
  have t2 : (qs.map fun q => (q ++ ".<locals>.") ++ ("<lambda>" : Str))[i]? = some ((qual ++ ".<locals>.") ++ "<lambda>") := by rw [List.getElem?_map, h2]; rfl
  refine ⟨⟨cc, (cTA K p).2, ec, ?_, mem_zip_at t1 t2, fun q hq z => zip_uniq c.nd t1 t2 hq z⟩⟩
  rw [← ea]
  exact List.mem_map.mpr ⟨p, List.mem_of_getElem? h1, rfl⟩
/-- the tables stand, empty -/
theorem tabs_first {f : Facts} {qs : List Str} {K : PySem.W.Frag} {H : Hp} (h : ∀ p ∈ csOf f K, H p.2 = some (.tbl #[])) : LamX.Tabs (tabsOf f qs K) H := fun q hq => by
  obtain ⟨q1, q2⟩ := q
  obtain ⟨p, hp, e⟩ := List.mem_map.mp (List.of_mem_zip hq).1
  have z := h (cTA K p) (List.mem_map.mpr ⟨p, hp, rfl⟩)
  have e' : (cTA K p).2 = q1 := e
  rw [e'] at z
  exact LamX.TabS.nil z
/-- the law's promise -/
theorem law_spF {K : PySem.W.Frag} {CT : CTx} {f : Fn} {H : Hp} {a : Addr} {ns : List Int} (q : SqF K H a (ns.map V.int)) (hT : LamX.Tabs CT.tabs H) (hf : ∃ h', f [.fls (ns.map W.int)] ⟨0, .nil⟩ = .ok (.bl true) h') : spOf K CT f [.ref a] H (fun v _ => v = .bl true) fun _ _ _ => False := by
  refine ⟨fun _ => 0, ⟨0, .nil⟩, [.fls (ns.map W.int)], ⟨fun i j hi => absurd hi (Nat.not_lt_zero _), fun i hi => absurd hi (Nat.not_lt_zero _), (fun i o e => by cases e), (fun i o e => by cases e), hT⟩, .cons (.fls q (reps_ints ns)) .nil, ?_⟩
  obtain ⟨h', e⟩ := hf
  rw [e]
  intro ρ' H' v N r
  cases r
  rfl
/-! ### blocks within blocks -/
def relS (scope sc : Scope) : Scope := relabel scope { scope := sc, locals := 0, globals := 0, cells := [], qual := "", func := none, code := .none, frame := none, builtins := 0 }
theorem relS_eq {scope : Scope} {env : PySem.Env} : relabel scope env = relS scope env.scope := rfl
theorem blkOk_in {N : List Str} {s1 s2 sc0 : Scope} {own : List (Str × Nat)} {cl : List (Str × Addr)} {C : Addr} {env : PySem.Env} (e : env.scope = sc0) (h : blkC N (relS s1 sc0) s2 own = true) : BlkOk N (compEnvC s1 cl C env).scope s2 own := by
  subst e
  exact blkOk_by h
/-! ### facts by number -/
theorem mg_glo {K : PySem.W.Frag} {h : Heap} {mg : Str → Option Value} {x : Str} (X : K.In h) (G : h.Ns mainGlobals mg) (c : (He.Fa.glo x).ok K = true) : mg x = some (.ref (pG x K)) := He.glo_ok X G c
theorem no_tbl {X : Cx} {CT : CTx} : ∀ k fn, (fun _ => none : CTbl) k = some fn → HasIn X CT (fun _ => none) k fn := fun _ _ e => by cases e
theorem no_get {X : Cx} {CT : CTx} : ∀ k fn, (fun _ => none : CTbl) k = some fn → HasGet X CT k fn := fun _ _ e => by cases e
abbrev tN : CTbl := fun _ => none
theorem noneR {K : PySem.W.Frag} {CT : CTx} : ∀ (ρ : Nat → Addr) (n : Nat) (H : Hp), Reps K CT ρ n H [] [] := fun _ _ _ => .nil
theorem bind_no {α : Type} {p : α → Prop} (h : p = p) : True := trivial
/-- exceptions of the text that have a field -/
theorem xini_def {K : PySem.W.Frag} {C : Addr} {f : Str} {d : DefP} {p1 p2 q1 q2 q3 q4 : Pos} (e : fnO K (d.at_ K) = d.val) (c : d.ok K = true) (no : PySem.W.findIn K (.ref C) f = some none) (a : PySem.W.findIn K (.ref C) "__init__" = some (some (.ref (d.at_ K)))) (t : PySem.W.typeIn K (.ref (d.at_ K)) = some (.type "function"))
    (hn : d.name = "__init__") (ha : d.params = initArgs f p1 p2) (hb : d.body = initBody f q1 q2 q3 q4) (hs : d.scope = initScope f) (hd : d.dfl = []) : XIni K C f := by
  obtain ⟨oc, od, dV, doc, pm, an, cdv, ct, osl, h1, h2, h3, h4⟩ := DefP.fun_ e c
  have hv : d.dvs K = [] := by unfold DefP.dvs; rw [hd]; rfl
  rw [hv] at h3
  rcases h3 with ⟨_, rfl⟩ | ⟨z, _⟩
  · rw [hn, ha, hb, hs] at h1
    exact xini_of no a t h1 h2
  · exact absurd rfl z
end Sx

set_option linter.all false
set_option autoImplicit false
set_option maxRecDepth 100000
set_option maxHeartbeats 2000000
namespace Sx
open PySem L2
section
variable {X : Cx} {CT : CTx} {Wd : WX} {k : Nat} {f : Addr} {fd : FuncData} {ps : List Str} {fn : Fn} {x : Str} {p pos : Pos} {e : Expr} {es : List Expr} {ar : Ax}
theorem xCallX_nil : xCallX fn [] ar = xCall fn ar := by
  funext en h
  unfold xCallX xCall
  congr 1
  funext ws h1
  rw [List.append_nil]
/-- f(e, ..), every parameter written -/
theorem se_callP (F : FnG X.prog X.w X.K X.mg X.base k f fd ps (spOf X.K CT fn)) (hG : X.A.guards = some []) (hr : Room k X.A) (tk : Takes X Wd) (hg : Gl X x) (hm : X.mg x = some (.ref f)) (hk : PySem.W.keepIn X.K (.ref f) = true) (hb : Binds X.K fd ps [])
    (ha : SA X CT Wd (e :: es) ar) (hdb : (x == ("__debug__" : Str)) = false := by decide) (he : starEach (e :: es) X.env = (false, eval e X.env) :: starEach es X.env := by rfl) (hpl : (backTo pos (starEach es X.env)).any (·.1) = false := by rfl) : SE X CT Wd (.Call (.Name x p) (e :: es) [] pos) (xCall fn ar) := by
  rw [← xCallX_nil]
  exact se_callX F hG hr tk hg hm hk hb .nil (fun _ _ _ => .nil) ha hdb he hpl
theorem se_callP0 (F : FnG X.prog X.w X.K X.mg X.base k f fd ps (spOf X.K CT fn)) (hG : X.A.guards = some []) (hr : Room k X.A) (tk : Takes X Wd) (hg : Gl X x) (hm : X.mg x = some (.ref f)) (hk : PySem.W.keepIn X.K (.ref f) = true) (hb : Binds X.K fd ps [])
    (hdb : (x == ("__debug__" : Str)) = false := by decide) : SE X CT Wd (.Call (.Name x p) [] [] pos) (xCall fn xNil) := by
  rw [← xCallX_nil]
  exact se_callX0 F hG hr tk hg hm hk hb .nil (fun _ _ _ => .nil) hdb
/-- what is never reached -/
def cBad : Sx := fun _ _ => .bad
theorem s_never {s : Stmt} : SS X CT Wd s cBad := ⟨fun pins s σ H D I ⟨ρ, h, es, S, E, p⟩ => (show False from p).elim⟩
end
/-- a promise that asks for less -/
theorem FnG.mono {P : Program} {w : World} {K : PySem.W.Frag} {mg : Str → Option Value} {base : Heap} {k : Nat} {f : Addr} {fd : FuncData} {ps : List Str} {sp sp' : Sp} (F : FnG P w K mg base k f fd ps sp) (h : ∀ vs H Q E, sp' vs H Q E → sp vs H Q E) : FnG P w K mg base k f fd ps sp' :=
  ⟨fun vs H Q E z => F.len vs H Q E (h vs H Q E z), fun A outer s H args us vs Q E hG hr e0 hb r z => F.run A outer s H args us vs Q E hG hr e0 hb r (h vs H Q E z)⟩
theorem fn_old {P : Program} {w : World} {K : PySem.W.Frag} {mg : Str → Option Value} {base : Heap} {CT : CTx} {k np nn : Nat} {c : Sx} {f : Addr} {fd : FuncData} {ps : List Str} (F : FnG P w K mg base k f fd ps (spOf K CT (mkFn np nn c))) : FnG P w K mg base k f fd ps (spOf K CT (mkFn0 np nn c)) :=
  F.mono fun vs H Q E ⟨ρ, h, ws, S, r, p⟩ => ⟨ρ, h, ws, S, r, by
    have p' : match noexc (mkFn np nn c ws h) with
      | .ok w h' => ∀ ρ' H' v, Nxt K CT ρ h H ρ' h' H' → Rep K CT ρ' h'.n H' w v → Q v H'
      | .exc x h' => ∀ ρ' H' od, Nxt K CT ρ h H ρ' h' H' → XcR K CT ρ' h'.n H' x od → E (.ref (CT x.k)) od H'
      | .bad => False := p
    cases g : mkFn np nn c ws h with
    | ok w h1 => rw [g] at p'; exact p'
    | exc x h1 => rw [g] at p'; exact p'.elim
    | bad => rw [g] at p'; exact p'.elim⟩
end Sx

set_option linter.all false
set_option autoImplicit false
set_option maxRecDepth 100000
set_option maxHeartbeats 2000000
/-! Sz8: a part that leans on no object is run from an empty plain heap. -/
namespace Sx
open PySem L2
mutual
def pureW : W → Bool
  | .ref _ => false
  | .tup xs => pureL xs
  | .fls xs => pureL xs
  | .exc _ _ ws => pureL ws
  | .non => true
  | .bl _ => true
  | .int _ => true
  | .str _ => true
  | .ty _ => true
  | .cl _ => true
def pureL : List W → Bool
  | [] => true
  | w :: r => pureW w && pureL r
end
def hx0 : Hx := ⟨0, .nil⟩
def maskW : Option W → Option W
  | some w => if pureW w = true then some w else none
  | none => none
def maskE : Env → Env
  | [] => []
  | a :: r => maskW a :: maskE r
section
variable {K : PySem.W.Frag} {CT : CTx} {Wd : WX} {ρ ρ' : Nat → Addr} {n n' : Nat} {h h' : Hx} {H H' : Hp} {σ : St} {es : Env}
mutual
theorem Rep.pure : ∀ (w : W) (v : V), pureW w = true → Rep K CT ρ n H w v → Rep K CT ρ' n' H w v
  | .non, _, _, r => by cases r; exact .non
  | .bl b, _, _, r => by cases r; exact .bl b
  | .int i, _, _, r => by cases r; exact .int i
  | .str z, _, _, r => by cases r; exact .str ‹_›
  | .tup xs, v, e, r => by
    cases r with
    | tup s q => exact .tup s (Reps.pure xs _ (by unfold pureW at e; exact e) q)
  | .fls xs, v, e, r => by
    cases r with
    | fls s q => exact .fls s (Reps.pure xs _ (by unfold pureW at e; exact e) q)
  | .ref i, v, e, r => by unfold pureW at e; cases e
  | .ty x, _, _, r => by cases r; exact .ty x
  | .cl k, _, _, r => by cases r; exact .cl k
  | .exc j ns ws, v, e, r => by
    cases r with
    | exc a b q => exact .exc a b (Reps.pure ws _ (by unfold pureW at e; exact e) q)
theorem Reps.pure : ∀ (ws : List W) (vs : List V), pureL ws = true → Reps K CT ρ n H ws vs → Reps K CT ρ' n' H ws vs
  | [], _, _, r => by cases r; exact .nil
  | w :: ws, _, e, r => by
    cases r with
    | cons a b =>
      unfold pureL at e
      rw [Bool.and_eq_true] at e
      exact .cons (Rep.pure w _ e.1 a) (Reps.pure ws _ e.2 b)
end
theorem maskE_len : ∀ (es : Env), (maskE es).length = es.length
  | [] => rfl
  | _ :: r => congrArg Nat.succ (maskE_len r)
theorem maskE_at : ∀ (es : Env) (i : Nat) (w : W), (maskE es)[i]? = some (some w) → es[i]? = some (some w) ∧ pureW w = true
  | [], i, w, e => by unfold maskE at e; cases e
  | a :: r, 0, w, e => by
    unfold maskE at e
    have e2 : maskW a = some w := Option.some.inj e
    cases a with
    | none => cases e2
    | some u =>
      replace e2 : (if pureW u = true then some u else none) = some w := e2
      by_cases c : pureW u = true
      · rw [if_pos c] at e2
        cases e2
        exact ⟨rfl, c⟩
      · rw [if_neg c] at e2
        cases e2
  | a :: r, i + 1, w, e => by
    unfold maskE at e
    exact maskE_at r i w e
theorem REnv.mask (E : REnv K CT ρ n H es σ) : REnv K CT ρ' n' H (maskE es) σ :=
  ⟨(maskE_len es).trans E.len, fun i w e => let ⟨e1, c⟩ := maskE_at es i w e; let ⟨v, ev, r⟩ := E.at_ i w e1; ⟨v, ev, Rep.pure w v c r⟩⟩
theorem Sim.zero (S : Sim K CT ρ h H) : Sim K CT ρ hx0 H :=
  ⟨fun _ _ a => absurd a (Nat.not_lt_zero _), fun _ a => absurd a (Nat.not_lt_zero _), fun _ _ e => (by cases e), fun _ _ e => (by cases e), S.tab⟩
/-- what leaned on nothing of ours has left ours alone -/
theorem Nxt.wide (S : Sim K CT ρ h H) (N : Nxt K CT ρ hx0 H ρ' h' H') : Nxt K CT ρ h H ρ h H' := by
  have F : Fw ρ h.n H ρ h.n H' := ⟨Nat.le_refl _, fun _ _ => rfl, fun a o e t _ => N.frm a o e t (fun _ hi => absurd hi (Nat.not_lt_zero _)), fun i a b => absurd b (Nat.not_lt.mpr a), N.tbl, N.frz⟩
  refine ⟨F, S.inj, S.dom, S.lt, fun i o e => (S.ob i o e).keep S F ?_, N.sim.tab⟩
  obtain ⟨u, eu, w⟩ := (S.ob i o e).some
  rw [eu]
  exact N.frm _ _ eu w.tb (fun _ hi => absurd hi (Nat.not_lt_zero _))
theorem XcR.pure {x : Xc} {od : Option Addr} (e : pureL x.ws = true) (r : XcR K CT ρ n H x od) : XcR K CT ρ' n' H x od :=
  let ⟨vs, a, b⟩ := r; ⟨vs, a, Reps.pure _ _ e b⟩
end
def isoR (h : Hx) : RS → RS
  | .fl (.nx es) _ => .fl (.nx (maskE es)) h
  | .fl (.rt w) _ => if pureW w = true then .fl (.rt w) h else .bad
  | .fl (.bk es) _ => .fl (.bk (maskE es)) h
  | .fl (.ct es) _ => .fl (.ct (maskE es)) h
  | .exc x es _ => if pureL x.ws = true then .exc x (maskE es) h else .bad
  | .bad => .bad
/-- a block that leans on no object -/
def cIso (c : Sx) : Sx := fun es h => isoR h (c (maskE es) hx0)
def isoE (h : Hx) : R W → R W
  | .ok w _ => if pureW w = true then .ok w h else .bad
  | .exc x _ => if pureL x.ws = true then .exc x h else .bad
  | .bad => .bad
def xIso (c : Ex) : Ex := fun es h => isoE h (c (maskE es) hx0)
section
variable {X : Cx} {CT : CTx} {Wd : WX}
theorem ss_iso {l : List Stmt} {c : Sx} (p : SSs X CT Wd l c) : SSs X CT Wd l (cIso c) := by
  refine p.wk fun D σ H ⟨ρ, h, es, S, E, q⟩ => ⟨ρ, hx0, maskE es, S.zero, E.mask, ?_⟩
  unfold cIso at q
  generalize c (maskE es) hx0 = r at q
  cases r with
  | fl f h1 =>
    cases f with
    | nx es1 => exact fun ρ1 H1 σ1 N E1 => q ρ H1 σ1 (Nxt.wide S N) E1.mask
    | bk es1 => exact fun ρ1 H1 σ1 N E1 => q ρ H1 σ1 (Nxt.wide S N) E1.mask
    | ct es1 => exact fun ρ1 H1 σ1 N E1 => q ρ H1 σ1 (Nxt.wide S N) E1.mask
    | rt w =>
      replace q : PostS X.K CT Wd ρ h H (if pureW w = true then .fl (.rt w) h else .bad) D := q
      by_cases e : pureW w = true
      · rw [if_pos e] at q
        exact fun ρ1 H1 v N r => q ρ H1 v (Nxt.wide S N) (Rep.pure _ _ e r)
      · rw [if_neg e] at q
        exact q.elim
  | exc x es1 h1 =>
    replace q : PostS X.K CT Wd ρ h H (if pureL x.ws = true then .exc x (maskE es1) h else .bad) D := q
    by_cases e : pureL x.ws = true
    · rw [if_pos e] at q
      exact fun ρ1 H1 σ1 od N E1 r => q ρ H1 σ1 od (Nxt.wide S N) E1.mask (XcR.pure e r)
    · rw [if_neg e] at q
      exact q.elim
  | bad => exact q
theorem se_iso {e : Expr} {c : Ex} (p : SE X CT Wd e c) : SE X CT Wd e (xIso c) := by
  refine p.wk fun σ H Q ⟨ρ, h, es, S, E, q⟩ => ⟨ρ, hx0, maskE es, S.zero, E.mask, ?_⟩
  unfold xIso at q
  generalize c (maskE es) hx0 = r at q
  cases r with
  | ok w h1 =>
    replace q : Post X.K CT (RW X.K CT) Wd ρ h H σ (if pureW w = true then .ok w h else .bad) Q := q
    by_cases e : pureW w = true
    · rw [if_pos e] at q
      exact fun ρ1 H1 v N r => q ρ H1 v (Nxt.wide S N) (Rep.pure _ _ e r)
    · rw [if_neg e] at q
      exact q.elim
  | exc x h1 =>
    replace q : Post X.K CT (RW X.K CT) Wd ρ h H σ (if pureL x.ws = true then .exc x h else .bad) Q := q
    by_cases e : pureL x.ws = true
    · rw [if_pos e] at q
      exact fun ρ1 H1 od N r => q ρ H1 od (Nxt.wide S N) (XcR.pure e r)
    · rw [if_neg e] at q
      exact q.elim
  | bad => exact q
def cApp : List Sx → Sx → Sx
  | [], k => k
  | a :: l, k => cSeq a (cApp l k)
def cBlk (l : List Sx) : Sx := cApp l cNil
theorem cSeq_assoc (a b c : Sx) : cSeq (cSeq a b) c = cSeq a (cSeq b c) := by
  funext es h
  unfold cSeq
  cases a es h with
  | fl f h1 => cases f <;> rfl
  | exc x e h1 => rfl
  | bad => rfl
theorem cSeq_nil (k : Sx) : cSeq cNil k = k := rfl
theorem cSeq_blk : ∀ (l : List Sx) (k : Sx), cSeq (cBlk l) k = cApp l k
  | [], k => rfl
  | a :: l, k => (cSeq_assoc a (cBlk l) k).trans (congrArg (cSeq a) (cSeq_blk l k))
theorem ss_app {l : List Stmt} {cs : List Sx} {k : Sx} (p : SSs X CT Wd l (cApp cs k)) : SSs X CT Wd l (cSeq (cBlk cs) k) := by
  rw [cSeq_blk]
  exact p
end
/-! ### running on -/
theorem pureW_ints (ns : List Int) : pureW (.fls (ns.map W.int)) = true := by
  unfold pureW
  induction ns with
  | nil => rfl
  | cons a r ih =>
    show pureL (W.int a :: r.map W.int) = true
    unfold pureL
    rw [ih]
    rfl
theorem maskW_pure {w : W} (h : pureW w = true) : maskW (some w) = some w := if_pos h
end Sx

set_option linter.all false
set_option autoImplicit false
set_option maxRecDepth 100000
set_option maxHeartbeats 2000000
/-! Sz9: a law's loop, part by part. -/
namespace Sx
open PySem L2
theorem ss_app1 {X : Cx} {CT : CTx} {Wd : WX} {l : List Stmt} {a0 k : Sx} (p : SSs X CT Wd l (cSeq a0 k)) : SSs X CT Wd l (cSeq (cBlk [a0]) k) := ss_app (cs := [a0]) p
theorem ss_app2 {X : Cx} {CT : CTx} {Wd : WX} {l : List Stmt} {a0 a1 k : Sx} (p : SSs X CT Wd l (cSeq a0 (cSeq a1 k))) : SSs X CT Wd l (cSeq (cBlk [a0, a1]) k) := ss_app (cs := [a0, a1]) p
theorem ss_app3 {X : Cx} {CT : CTx} {Wd : WX} {l : List Stmt} {a0 a1 a2 k : Sx} (p : SSs X CT Wd l (cSeq a0 (cSeq a1 (cSeq a2 k)))) : SSs X CT Wd l (cSeq (cBlk [a0, a1, a2]) k) := ss_app (cs := [a0, a1, a2]) p
theorem ss_app4 {X : Cx} {CT : CTx} {Wd : WX} {l : List Stmt} {a0 a1 a2 a3 k : Sx} (p : SSs X CT Wd l (cSeq a0 (cSeq a1 (cSeq a2 (cSeq a3 k))))) : SSs X CT Wd l (cSeq (cBlk [a0, a1, a2, a3]) k) := ss_app (cs := [a0, a1, a2, a3]) p
theorem ss_app5 {X : Cx} {CT : CTx} {Wd : WX} {l : List Stmt} {a0 a1 a2 a3 a4 k : Sx} (p : SSs X CT Wd l (cSeq a0 (cSeq a1 (cSeq a2 (cSeq a3 (cSeq a4 k)))))) : SSs X CT Wd l (cSeq (cBlk [a0, a1, a2, a3, a4]) k) := ss_app (cs := [a0, a1, a2, a3, a4]) p
theorem ss_app6 {X : Cx} {CT : CTx} {Wd : WX} {l : List Stmt} {a0 a1 a2 a3 a4 a5 k : Sx} (p : SSs X CT Wd l (cSeq a0 (cSeq a1 (cSeq a2 (cSeq a3 (cSeq a4 (cSeq a5 k))))))) : SSs X CT Wd l (cSeq (cBlk [a0, a1, a2, a3, a4, a5]) k) := ss_app (cs := [a0, a1, a2, a3, a4, a5]) p
theorem ss_app7 {X : Cx} {CT : CTx} {Wd : WX} {l : List Stmt} {a0 a1 a2 a3 a4 a5 a6 k : Sx} (p : SSs X CT Wd l (cSeq a0 (cSeq a1 (cSeq a2 (cSeq a3 (cSeq a4 (cSeq a5 (cSeq a6 k)))))))) : SSs X CT Wd l (cSeq (cBlk [a0, a1, a2, a3, a4, a5, a6]) k) := ss_app (cs := [a0, a1, a2, a3, a4, a5, a6]) p
theorem ss_app8 {X : Cx} {CT : CTx} {Wd : WX} {l : List Stmt} {a0 a1 a2 a3 a4 a5 a6 a7 k : Sx} (p : SSs X CT Wd l (cSeq a0 (cSeq a1 (cSeq a2 (cSeq a3 (cSeq a4 (cSeq a5 (cSeq a6 (cSeq a7 k))))))))) : SSs X CT Wd l (cSeq (cBlk [a0, a1, a2, a3, a4, a5, a6, a7]) k) := ss_app (cs := [a0, a1, a2, a3, a4, a5, a6, a7]) p
theorem ss_app9 {X : Cx} {CT : CTx} {Wd : WX} {l : List Stmt} {a0 a1 a2 a3 a4 a5 a6 a7 a8 k : Sx} (p : SSs X CT Wd l (cSeq a0 (cSeq a1 (cSeq a2 (cSeq a3 (cSeq a4 (cSeq a5 (cSeq a6 (cSeq a7 (cSeq a8 k)))))))))) : SSs X CT Wd l (cSeq (cBlk [a0, a1, a2, a3, a4, a5, a6, a7, a8]) k) := ss_app (cs := [a0, a1, a2, a3, a4, a5, a6, a7, a8]) p
theorem ss_app10 {X : Cx} {CT : CTx} {Wd : WX} {l : List Stmt} {a0 a1 a2 a3 a4 a5 a6 a7 a8 a9 k : Sx} (p : SSs X CT Wd l (cSeq a0 (cSeq a1 (cSeq a2 (cSeq a3 (cSeq a4 (cSeq a5 (cSeq a6 (cSeq a7 (cSeq a8 (cSeq a9 k))))))))))) : SSs X CT Wd l (cSeq (cBlk [a0, a1, a2, a3, a4, a5, a6, a7, a8, a9]) k) := ss_app (cs := [a0, a1, a2, a3, a4, a5, a6, a7, a8, a9]) p
theorem ss_app11 {X : Cx} {CT : CTx} {Wd : WX} {l : List Stmt} {a0 a1 a2 a3 a4 a5 a6 a7 a8 a9 a10 k : Sx} (p : SSs X CT Wd l (cSeq a0 (cSeq a1 (cSeq a2 (cSeq a3 (cSeq a4 (cSeq a5 (cSeq a6 (cSeq a7 (cSeq a8 (cSeq a9 (cSeq a10 k)))))))))))) : SSs X CT Wd l (cSeq (cBlk [a0, a1, a2, a3, a4, a5, a6, a7, a8, a9, a10]) k) := ss_app (cs := [a0, a1, a2, a3, a4, a5, a6, a7, a8, a9, a10]) p
theorem ss_app12 {X : Cx} {CT : CTx} {Wd : WX} {l : List Stmt} {a0 a1 a2 a3 a4 a5 a6 a7 a8 a9 a10 a11 k : Sx} (p : SSs X CT Wd l (cSeq a0 (cSeq a1 (cSeq a2 (cSeq a3 (cSeq a4 (cSeq a5 (cSeq a6 (cSeq a7 (cSeq a8 (cSeq a9 (cSeq a10 (cSeq a11 k))))))))))))) : SSs X CT Wd l (cSeq (cBlk [a0, a1, a2, a3, a4, a5, a6, a7, a8, a9, a10, a11]) k) := ss_app (cs := [a0, a1, a2, a3, a4, a5, a6, a7, a8, a9, a10, a11]) p
/-- what some places hold behind a part, and how many there are -/
def shp (is : List Nat) : RS → Option (List (Option (Option W)) × Nat)
  | .fl (.nx es) _ => some (is.map (fun i => es[i]?), es.length)
  | _ => none
theorem shp_nx {is : List Nat} {r : RS} {ws : List (Option (Option W))} {n : Nat} (e : shp is r = some (ws, n)) : ∃ es h, r = .fl (.nx es) h ∧ is.map (fun i => es[i]?) = ws ∧ es.length = n := by
  cases r with
  | fl f h =>
    cases f with
    | nx es =>
      have e2 := Option.some.inj e
      exact ⟨es, h, rfl, congrArg Prod.fst e2, congrArg Prod.snd e2⟩
    | _ => cases e
  | _ => cases e
theorem maskE_get : ∀ (es : Env) (i : Nat), (maskE es)[i]? = es[i]?.map maskW
  | [], i => rfl
  | a :: r, 0 => rfl
  | a :: r, i + 1 => maskE_get r i
theorem maskE_keep {es : Env} {i : Nat} {w : W} (e : es[i]? = some (some w)) (h : pureW w = true) : (maskE es)[i]? = some (some w) := by
  rw [maskE_get, e]
  exact congrArg some (maskW_pure h)
/-- a law's places: the script first -/
structure Plc (S : W) (n : Nat) (es : Env) : Prop where
  s : es[0]? = some (some S)
  len : es.length = n
theorem Plc.mask {S : W} {n : Nat} {es : Env} (hS : pureW S = true) (p : Plc S n es) : Plc S n (maskE es) := ⟨maskE_keep p.s hS, (maskE_len es).trans p.len⟩
/-- it runs to its end, the script still there -/
def Runs (S : W) (n : Nat) (c : Sx) (es : Env) (h : Hx) : Prop := ∃ es' h', c es h = .fl (.nx es') h' ∧ Plc S n es'
theorem Runs.of {S : W} {n : Nat} {c : Sx} {es : Env} {h : Hx} (e : shp [0] (c es h) = some ([some (some S)], n)) : Runs S n c es h := by
  obtain ⟨es', h', e1, e2, e3⟩ := shp_nx e
  exact ⟨es', h', e1, (List.cons.inj e2).1, e3⟩
theorem Runs.iso {S : W} {n : Nat} {c : Sx} {es : Env} {h : Hx} (hS : pureW S = true) (r : Runs S n c (maskE es) hx0) : ∃ es', cIso c es h = .fl (.nx es') h ∧ Plc S n es' := by
  obtain ⟨es', h', e, p⟩ := r
  exact ⟨maskE es', by unfold cIso; rw [e]; rfl, p.mask hS⟩
theorem Runs.seq {S : W} {n : Nat} {g r : Sx} {es es1 : Env} {h h1 : Hx} (hS : pureW S = true) (e : g es h = .fl (.nx es1) h1) (k : Runs S n r (maskE es1) hx0) : Runs S n (cSeq g (cIso r)) es h := by
  obtain ⟨es2, e2, p⟩ := Runs.iso (h := h1) hS k
  refine ⟨es2, h1, ?_, p⟩
  unfold cSeq
  rw [e]
  exact e2
/-- the places in a row -/
theorem row7 {α : Type} : ∀ {l : List α}, l.length = 7 → ∃ a b c d e f g, l = [a, b, c, d, e, f, g]
  | [a, b, c, d, e, f, g], _ => ⟨a, b, c, d, e, f, g, rfl⟩
theorem loop_true {r : Sx} {N M : Nat} (ns : List Int) (hM : 1 ≤ M ∧ M ≤ 100)
    (turn : ∀ (k : Nat) (t : Env), (ns ≠ [] → k < ns.length) → k ≤ 100 → t.length = N → Runs (.fls (ns.map W.int)) (N + 2) r (some (.fls (ns.map W.int)) :: some (.int k) :: t) hx0) :
    ∃ h', mkFn 1 (N + 2) (cSeq (cFor (xRng1 (xCons (xCallB max2W (xCons (xC (.int 1)) (xCons (xCallB min2W (xCons (xCallB lenX (xCons (xVar 0) xNil)) (xCons (xC (.int M)) xNil))) xNil))) xNil)) (gxName 1) (cIso r)) (cRet (xC (.bl true)))) [.fls (ns.map W.int)] ⟨0, .nil⟩ = .ok (.bl true) h' := by
  generalize hS : W.fls (ns.map W.int) = S at *
  have pS : pureW S = true := by rw [← hS]; exact pureW_ints ns
  generalize hh : (⟨0, .nil⟩ : Hx) = h
  generalize hm : (if (if (M : Int) < ((ns.map W.int).length : Int) then (M : Int) else ((ns.map W.int).length : Int)) > 1 then (if (M : Int) < ((ns.map W.int).length : Int) then (M : Int) else ((ns.map W.int).length : Int)) else 1) = m
  have m1 : 1 ≤ m ∧ m ≤ 100 ∧ (ns ≠ [] → m ≤ ns.length) := by
    rw [List.length_map] at hm
    refine ⟨?_, ?_, fun q => ?_⟩
    · rw [← hm]; split <;> omega
    · rw [← hm]; repeat (first | split | omega)
    · have : 0 < ns.length := List.length_pos_iff.mpr q
      rw [← hm]; repeat (first | split | omega)
  let es0 : Env := some S :: none :: List.replicate N none
  have p0 : Plc S (N + 2) es0 := ⟨rfl, by show (List.replicate N none).length + 1 + 1 = N + 2; rw [List.length_replicate]⟩
  obtain ⟨es', h', e', p'⟩ := for_rng (g := gxName 1) (b := cIso r) (fun _ es _ => Plc S (N + 2) es) 0 m.toNat 0 es0 h p0 (by
    intro i es h' _ hi p
    match es, p.s, p.len with
    | a :: b :: t, e0, e1 =>
      have ea : a = some S := Option.some.inj e0
      subst ea
      have et : t.length = N := Nat.succ.inj (Nat.succ.inj e1)
      refine ⟨some S :: some (.int (0 + i)) :: t, h', rfl, ?_⟩
      rw [show (0 + (i : Int)) = (i : Int) by omega]
      have q := turn i (maskE t) (fun q => by have := m1.2.2 q; omega) (by omega) ((maskE_len t).trans et)
      have em : maskE (some S :: some (.int (i : Int)) :: t) = some S :: some (.int (i : Int)) :: maskE t := by
        show maskW (some S) :: maskW (some (.int (i : Int))) :: maskE t = _
        rw [maskW_pure pS]
        rfl
      rw [← em] at q
      obtain ⟨es2, e2, p2⟩ := Runs.iso (h := h') pS q
      exact ⟨es2, h', e2, p2⟩)
  refine ⟨h', ?_⟩
  have t1 : ∀ c h, mkFn 1 (N + 2) c [S] h = endOf (c es0 h) := fun c h => by
    have a : N + 2 - 1 = N + 1 := by omega
    show endOf (c ([S].map some ++ List.replicate (N + 2 - 1) none) h) = _
    rw [a]
    rfl
  rw [t1]
  have rg : rng1W [.int m] h = .ok (.rng 0 m.toNat) h := if_pos (by omega)
  have ln : lenX [S] h = .ok (.int (ns.map W.int).length) h := by rw [← hS]; rfl
  have e2 : forLoop (gxName 1) (cIso r) (m.toNat + 1) (.rng 0 m.toNat) es0 h = .fl (.nx es') h' := e'
  have v0 : ∀ h, xVar 0 es0 h = .ok S h := fun _ => rfl
  simp only [ln, v0, max_int, min_int, hm, rg, e2, cSeq_eq, seqS_nx, bind_ok, bindS_ok, cFor_eq, cRet_eq, xRng1_eq, xC_eq, xCallB_eq, xCons_eq, xNil_eq, Cur.fuel, endOf_rt]
end Sx

set_option linter.all false
set_option maxRecDepth 100000
set_option maxHeartbeats 4000000
namespace Lw
open PySem L2 Sx
def topS (i : Nat) : Stmt := PySem.Challenge.pw_maskedlevels_k37_known_pairs.main.body.getD i (.Pass ⟨0, 0, 0, 0⟩)
abbrev s_is_integer : Stmt := (topS 19)
abbrev s_is_word : Stmt := (topS 21)
abbrev s_has_ring : Stmt := (topS 26)
abbrev s_Program_spots : Stmt := (clsS (topS 27) 1)
abbrev s_Program_levels : Stmt := (clsS (topS 27) 6)
abbrev s_Program_size : Stmt := (clsS (topS 27) 7)
abbrev s_Program_main : Stmt := (clsS (topS 27) 8)
abbrev s_Program_cells : Stmt := (clsS (topS 27) 9)
abbrev s_Program_first_store : Stmt := (clsS (topS 27) 14)
abbrev s_check_program : Stmt := (topS 28)
abbrev s_callee_at : Stmt := (topS 31)
abbrev s_at_cell : Stmt := (topS 32)
abbrev s_at_section : Stmt := (topS 33)
abbrev s_put_in : Stmt := (topS 34)
abbrev s_place_in : Stmt := (topS 41)
abbrev s_frames_in : Stmt := (topS 42)
abbrev s_begin_line : Stmt := (topS 44)
abbrev s_come_back : Stmt := (topS 45)
abbrev s_with_frames : Stmt := (topS 46)
abbrev s_Watch_noted : Stmt := (clsS (topS 53) 2)
abbrev s_Watch_script : Stmt := (clsS (topS 53) 7)
abbrev s__law_numbers : Stmt := (topS 58)
abbrev s__law_draw : Stmt := (topS 60)
abbrev s_is_within : Stmt := (topS 20)
abbrev s_are_words : Stmt := (topS 22)
abbrev s_Program___contains__ : Stmt := (clsS (topS 27) 15)
abbrev s_points_behind : Stmt := (topS 37)
abbrev s_is_resting : Stmt := (topS 43)
abbrev s_check_cells : Stmt := (topS 52)
abbrev s__law_pool : Stmt := (topS 59)
abbrev s_is_sign_part : Stmt := (topS 23)
abbrev s_Program_is_served : Stmt := (clsS (topS 27) 3)
abbrev s_Program_is_spot : Stmt := (clsS (topS 27) 4)
abbrev s_serving : Stmt := (topS 30)
abbrev s_changed_store : Stmt := (topS 35)
abbrev s_masked_by : Stmt := (topS 36)
abbrev s_first_state : Stmt := (topS 40)
abbrev s__law_opened : Stmt := (topS 62)
abbrev s_is_row : Stmt := (topS 24)
abbrev s_sections_of : Stmt := (topS 25)
abbrev s_Program_are_guards : Stmt := (clsS (topS 27) 5)
abbrev s_Program___getitem__ : Stmt := (clsS (topS 27) 16)
abbrev s_row_ways : Stmt := (topS 38)
abbrev s_in_order : Stmt := (topS 50)
abbrev s__law_sorted : Stmt := (topS 61)
abbrev s_Program_keep_rows : Stmt := (clsS (topS 27) 2)
abbrev s_rows_behind : Stmt := (topS 47)
abbrev s_Program___init__ : Stmt := (clsS (topS 27) 0)
abbrev s_all_moves : Stmt := (topS 48)
abbrev s_Watch_row_in : Stmt := (clsS (topS 53) 1)
abbrev s_Watch_looked : Stmt := (clsS (topS 53) 3)
abbrev s_Watch_sight_at : Stmt := (clsS (topS 53) 4)
abbrev s_Watch_behind : Stmt := (clsS (topS 53) 5)
abbrev s__law_reader : Stmt := (topS 63)
abbrev s__law_writer : Stmt := (topS 64)
abbrev s__law_back : Stmt := (topS 65)
abbrev s_Watch_find_all : Stmt := (clsS (topS 53) 6)
abbrev s_Watch___init__ : Stmt := (clsS (topS 53) 0)
abbrev s_pair_sights : Stmt := (topS 54)
abbrev s_torn_script : Stmt := (topS 56)
abbrev s_is_torn : Stmt := (topS 55)
abbrev s__law_told : Stmt := (topS 66)
abbrev s__law_seen : Stmt := (topS 67)
abbrev s_law : Stmt := (topS 68)
theorem sc_is_integer : FnScope ["value"] ["value"] (defScope s_is_integer) := ⟨rfl, rfl, rfl, by decide +kernel, rfl, by decide +kernel, by decide +kernel⟩
theorem sc_is_word : FnScope ["value", "sign"] ["value"] (defScope s_is_word) := ⟨rfl, rfl, rfl, by decide +kernel, rfl, by decide +kernel, by decide +kernel⟩
theorem sc_has_ring : FnScope ["lists", "left", "row", "word", "done", "called"] ["lists"] (defScope s_has_ring) := ⟨rfl, rfl, rfl, by decide +kernel, rfl, by decide +kernel, by decide +kernel⟩
theorem sc_Program_spots : FnScope ["self", "word", "point"] ["self"] (defScope s_Program_spots) := ⟨rfl, rfl, rfl, by decide +kernel, rfl, by decide +kernel, by decide +kernel⟩
theorem sc_Program_levels : FnScope ["self"] ["self"] (defScope s_Program_levels) := ⟨rfl, rfl, rfl, by decide +kernel, rfl, by decide +kernel, by decide +kernel⟩
theorem sc_Program_size : FnScope ["self"] ["self"] (defScope s_Program_size) := ⟨rfl, rfl, rfl, by decide +kernel, rfl, by decide +kernel, by decide +kernel⟩
theorem sc_Program_main : FnScope ["self"] ["self"] (defScope s_Program_main) := ⟨rfl, rfl, rfl, by decide +kernel, rfl, by decide +kernel, by decide +kernel⟩
theorem sc_Program_cells : FnScope ["self"] ["self"] (defScope s_Program_cells) := ⟨rfl, rfl, rfl, by decide +kernel, rfl, by decide +kernel, by decide +kernel⟩
theorem sc_Program_first_store : FnScope ["self", "section"] ["self"] (defScope s_Program_first_store) := ⟨rfl, rfl, rfl, by decide +kernel, rfl, by decide +kernel, by decide +kernel⟩
theorem sc_check_program : FnScope ["program"] ["program"] (defScope s_check_program) := ⟨rfl, rfl, rfl, by decide +kernel, rfl, by decide +kernel, by decide +kernel⟩
theorem sc_callee_at : FnScope ["program", "procedure", "point", "rows"] ["program", "procedure", "point"] (defScope s_callee_at) := ⟨rfl, rfl, rfl, by decide +kernel, rfl, by decide +kernel, by decide +kernel⟩
theorem sc_at_cell : FnScope ["program", "cell"] ["program", "cell"] (defScope s_at_cell) := ⟨rfl, rfl, rfl, by decide +kernel, rfl, by decide +kernel, by decide +kernel⟩
theorem sc_at_section : FnScope ["program", "section"] ["program", "section"] (defScope s_at_section) := ⟨rfl, rfl, rfl, by decide +kernel, rfl, by decide +kernel, by decide +kernel⟩
theorem sc_put_in : FnScope ["store", "place", "value"] ["store", "place", "value"] (defScope s_put_in) := ⟨rfl, rfl, rfl, by decide +kernel, rfl, by decide +kernel, by decide +kernel⟩
theorem sc_place_in : FnScope ["state", "store", "mask", "piles", "floor", "below", "frames"] ["state"] (defScope s_place_in) := ⟨rfl, rfl, rfl, by decide +kernel, rfl, by decide +kernel, by decide +kernel⟩
theorem sc_frames_in : FnScope ["state", "floor", "below", "frames", "frame"] ["state"] (defScope s_frames_in) := ⟨rfl, rfl, rfl, by decide +kernel, rfl, by decide +kernel, by decide +kernel⟩
theorem sc_begin_line : FnScope ["program", "state", "line", "store", "mask", "piles", "level", "procedure"] ["program", "state", "line"] (defScope s_begin_line) := ⟨rfl, rfl, rfl, by decide +kernel, rfl, by decide +kernel, by decide +kernel⟩
theorem sc_come_back : FnScope ["state", "store", "mask", "piles", "floor", "below", "frames"] ["state"] (defScope s_come_back) := ⟨rfl, rfl, rfl, by decide +kernel, rfl, by decide +kernel, by decide +kernel⟩
theorem sc_with_frames : FnScope ["state", "store", "mask", "frames", "piles", "floor", "below", "old"] ["state", "store", "mask", "frames"] (defScope s_with_frames) := ⟨rfl, rfl, rfl, by decide +kernel, rfl, by decide +kernel, by decide +kernel⟩
theorem sc_Watch_noted : FnScope ["self", "note", "store", "values", "value"] ["self", "note", "store"] (defScope s_Watch_noted) := ⟨rfl, rfl, rfl, by decide +kernel, rfl, by decide +kernel, by decide +kernel⟩
theorem sc_Watch_script : FnScope ["self", "found", "moves"] ["self", "found"] (defScope s_Watch_script) := ⟨rfl, rfl, rfl, by decide +kernel, rfl, by decide +kernel, by decide +kernel⟩
theorem sc__law_numbers : FnScope ["_law_cell", "_law_salt", "_law_sizes", "_law_whole", "_law_left", "_law_result", "_law_k", "_law_one"] ["_law_cell", "_law_salt", "_law_sizes"] (defScope s__law_numbers) := ⟨rfl, rfl, rfl, by decide +kernel, rfl, by decide +kernel, by decide +kernel⟩
theorem sc__law_draw : FnScope ["_law_pool_here", "_law_many", "_law_at"] ["_law_pool_here", "_law_many"] (defScope s__law_draw) := ⟨rfl, rfl, rfl, by decide +kernel, rfl, by decide +kernel, by decide +kernel⟩
theorem sc_is_within : FnScope ["value", "least", "most"] ["value", "least", "most"] (defScope s_is_within) := ⟨rfl, rfl, rfl, by decide +kernel, rfl, by decide +kernel, by decide +kernel⟩
theorem sc_are_words : FnScope ["value", "least", "most", "word"] ["value", "least", "most"] (defScope s_are_words) := ⟨rfl, rfl, rfl, by decide +kernel, rfl, by decide +kernel, by decide +kernel⟩
theorem sc_Program___contains__ : FnScope ["self", "procedure"] ["self", "procedure"] (defScope s_Program___contains__) := ⟨rfl, rfl, rfl, by decide +kernel, rfl, by decide +kernel, by decide +kernel⟩
theorem sc_points_behind : FnScope ["program", "row", "point", "store", "word"] ["program", "row", "point", "store"] (defScope s_points_behind) := ⟨rfl, rfl, rfl, by decide +kernel, rfl, by decide +kernel, by decide +kernel⟩
theorem sc_is_resting : FnScope ["program", "state", "procedure", "point", "kept"] ["program", "state"] (defScope s_is_resting) := ⟨rfl, rfl, rfl, by decide +kernel, rfl, by decide +kernel, by decide +kernel⟩
theorem sc_check_cells : FnScope ["program", "one", "other"] ["program", "one", "other"] (defScope s_check_cells) := ⟨rfl, rfl, rfl, by decide +kernel, rfl, by decide +kernel, by decide +kernel⟩
theorem sc__law_pool : FnScope ["_law_cell", "_law_salt", "_law_many"] ["_law_cell", "_law_salt", "_law_many"] (defScope s__law_pool) := ⟨rfl, rfl, rfl, by decide +kernel, rfl, by decide +kernel, by decide +kernel⟩
theorem sc_is_sign_part : FnScope ["program", "sign", "value", "many"] ["program", "sign", "value", "many"] (defScope s_is_sign_part) := ⟨rfl, rfl, rfl, by decide +kernel, rfl, by decide +kernel, by decide +kernel⟩
theorem sc_Program_is_served : FnScope ["self", "value"] ["self", "value"] (defScope s_Program_is_served) := ⟨rfl, rfl, rfl, by decide +kernel, rfl, by decide +kernel, by decide +kernel⟩
theorem sc_Program_is_spot : FnScope ["self", "value"] ["self", "value"] (defScope s_Program_is_spot) := ⟨rfl, rfl, rfl, by decide +kernel, rfl, by decide +kernel, by decide +kernel⟩
theorem sc_serving : FnScope ["program", "procedure", "point", "mask", "guard", "least", "found", "level", "line"] ["program", "procedure", "point", "mask"] (defScope s_serving) := ⟨rfl, rfl, rfl, by decide +kernel, rfl, by decide +kernel, by decide +kernel⟩
theorem sc_changed_store : FnScope ["program", "row", "store", "word", "place", "value"] ["program", "row", "store"] (defScope s_changed_store) := ⟨rfl, rfl, rfl, by decide +kernel, rfl, by decide +kernel, by decide +kernel⟩
theorem sc_masked_by : FnScope ["program", "row", "kept", "store", "mask", "floor", "word", "level"] ["program", "row", "kept", "store", "mask", "floor"] (defScope s_masked_by) := ⟨rfl, rfl, rfl, by decide +kernel, rfl, by decide +kernel, by decide +kernel⟩
theorem sc_first_state : FnScope ["program"] ["program"] (defScope s_first_state) := ⟨rfl, rfl, rfl, by decide +kernel, rfl, by decide +kernel, by decide +kernel⟩
theorem sc__law_opened : FnScope ["_law_script", "_law_k", "_law_many", "_law_cell"] ["_law_script", "_law_k", "_law_many"] (defScope s__law_opened) := ⟨rfl, rfl, rfl, by decide +kernel, rfl, by decide +kernel, by decide +kernel⟩
theorem sc_is_row : FnScope ["program", "value", "many", "form", "sign", "part"] ["program", "value", "many"] (defScope s_is_row) := ⟨rfl, rfl, rfl, by decide +kernel, rfl, by decide +kernel, by decide +kernel⟩
theorem sc_sections_of : FnScope ["lists", "found", "listed", "row"] ["lists"] (defScope s_sections_of) := ⟨rfl, rfl, rfl, by decide +kernel, rfl, by decide +kernel, by decide +kernel⟩
theorem sc_Program_are_guards : FnScope ["self", "value", "spot"] ["self", "value"] (defScope s_Program_are_guards) := ⟨rfl, rfl, rfl, by decide +kernel, rfl, by decide +kernel, by decide +kernel⟩
theorem sc_Program___getitem__ : FnScope ["self", "procedure"] ["self", "procedure"] (defScope s_Program___getitem__) := ⟨rfl, rfl, rfl, by decide +kernel, rfl, by decide +kernel, by decide +kernel⟩
theorem sc_row_ways : FnScope ["program", "procedure", "point", "kept", "store", "mask", "floor", "row", "now", "keeping", "other", "choice"] ["program", "procedure", "point", "kept", "store", "mask", "floor"] (defScope s_row_ways) := ⟨rfl, rfl, rfl, by decide +kernel, rfl, by decide +kernel, by decide +kernel⟩
theorem sc_in_order : FnScope ["items"] ["items"] (defScope s_in_order) := ⟨rfl, rfl, rfl, by decide +kernel, rfl, by decide +kernel, by decide +kernel⟩
theorem sc__law_sorted : FnScope ["_law_some"] ["_law_some"] (defScope s__law_sorted) := ⟨rfl, rfl, rfl, by decide +kernel, rfl, by decide +kernel, by decide +kernel⟩
theorem sc_Program_keep_rows : FnScope ["self", "procedures", "word", "many", "row"] ["self", "procedures"] (defScope s_Program_keep_rows) := ⟨rfl, rfl, rfl, by decide +kernel, rfl, by decide +kernel, by decide +kernel⟩
theorem sc_rows_behind : FnScope ["program", "state", "procedure", "point", "kept", "store", "mask", "floor", "frames", "called", "inner", "found", "later", "keeping", "left", "new", "choice"] ["program", "state"] (defScope s_rows_behind) := ⟨rfl, rfl, rfl, by decide +kernel, rfl, by decide +kernel, by decide +kernel⟩
theorem sc_Program___init__ : FnScope ["self", "levels", "size", "start", "procedures", "lines", "main", "guards", "cell", "stores", "section", "word", "given", "spot"] ["self", "levels", "size", "start", "procedures", "lines", "main", "guards"] (defScope s_Program___init__) := ⟨rfl, rfl, rfl, by decide +kernel, rfl, by decide +kernel, by decide +kernel⟩
theorem sc_all_moves : FnScope ["program", "state", "procedure", "point", "kept", "store", "mask", "floor", "found", "line", "choice", "later"] ["program", "state"] (defScope s_all_moves) := ⟨rfl, rfl, rfl, by decide +kernel, rfl, by decide +kernel, by decide +kernel⟩
theorem sc_Watch_row_in : FnScope ["self", "state", "place", "rows"] ["self", "state"] (defScope s_Watch_row_in) := ⟨rfl, rfl, rfl, by decide +kernel, rfl, by decide +kernel, by decide +kernel⟩
theorem sc_Watch_looked : FnScope ["self", "state", "notes", "row", "place", "value"] ["self", "state", "notes"] (defScope s_Watch_looked) := ⟨rfl, rfl, rfl, by decide +kernel, rfl, by decide +kernel, by decide +kernel⟩
theorem sc_Watch_sight_at : FnScope ["self", "state", "notes", "place", "value", "first"] ["self", "state", "notes"] (defScope s_Watch_sight_at) := ⟨rfl, rfl, rfl, by decide +kernel, rfl, by decide +kernel, by decide +kernel⟩
theorem sc_Watch_behind : FnScope ["self", "state", "notes", "move", "later", "note"] ["self", "state", "notes", "move", "later"] (defScope s_Watch_behind) := ⟨rfl, rfl, rfl, by decide +kernel, rfl, by decide +kernel, by decide +kernel⟩
theorem sc__law_reader : FnScope ["_law_guards", "_law_first", "_law_rows"] ["_law_guards", "_law_first"] (defScope s__law_reader) := ⟨rfl, rfl, rfl, by decide +kernel, rfl, by decide +kernel, by decide +kernel⟩
theorem sc__law_writer : FnScope ["_law_guards", "_law_rows"] ["_law_guards"] (defScope s__law_writer) := ⟨rfl, rfl, rfl, by decide +kernel, rfl, by decide +kernel, by decide +kernel⟩
theorem sc__law_back : FnScope ["_law_rows"] [] (defScope s__law_back) := ⟨rfl, rfl, rfl, by decide +kernel, rfl, by decide +kernel, by decide +kernel⟩
theorem sc_Watch_find_all : FnScope ["self", "queue", "at", "state", "notes", "sight", "move", "later", "found"] ["self", "queue"] (defScope s_Watch_find_all) := ⟨rfl, rfl, rfl, by decide +kernel, rfl, by decide +kernel, by decide +kernel⟩
theorem sc_Watch___init__ : FnScope ["self", "program", "one", "other", "start"] ["self", "program", "one", "other"] (defScope s_Watch___init__) := ⟨rfl, rfl, rfl, by decide +kernel, rfl, by decide +kernel, by decide +kernel⟩
theorem sc_pair_sights : FnScope ["program", "one", "other"] ["program", "one", "other"] (defScope s_pair_sights) := ⟨rfl, rfl, rfl, by decide +kernel, rfl, by decide +kernel, by decide +kernel⟩
theorem sc_torn_script : FnScope ["program", "one", "other", "watch", "sight"] ["program", "one", "other"] (defScope s_torn_script) := ⟨rfl, rfl, rfl, by decide +kernel, rfl, by decide +kernel, by decide +kernel⟩
theorem sc_is_torn : FnScope ["program", "one", "other", "sight"] ["program", "one", "other"] (defScope s_is_torn) := ⟨rfl, rfl, rfl, by decide +kernel, rfl, by decide +kernel, by decide +kernel⟩
theorem sc__law_told : FnScope ["_law_program", "_law_one", "_law_other", "e"] ["_law_program", "_law_one", "_law_other"] (defScope s__law_told) := ⟨rfl, rfl, rfl, by decide +kernel, rfl, by decide +kernel, by decide +kernel⟩
theorem sc__law_seen : FnScope ["_law_program", "_law_sight"] ["_law_program"] (defScope s__law_seen) := ⟨rfl, rfl, rfl, by decide +kernel, rfl, by decide +kernel, by decide +kernel⟩
theorem sc_law : FnScope ["_law_script", "_law_k", "_law_pool_here", "_law_first", "_law_seen_here", "_law_program", "_law_odd"] ["_law_script"] (defScope s_law) := ⟨rfl, rfl, rfl, by decide +kernel, rfl, by decide +kernel, by decide +kernel⟩
theorem n___contains__ : nm 29516393455720661124010696543 = ("__contains__" : Str) := by kernel_rfl
theorem n___getitem__ : nm 115298485004486023744151391 = ("__getitem__" : Str) := by kernel_rfl
theorem n_are_guards : nm 460179782333632936567923 = ("are_guards" : Str) := by kernel_rfl
theorem n_at_one : nm 107152445238885 = ("at_one" : Str) := by kernel_rfl
theorem n_at_other : nm 7022342651276453234 = ("at_other" : Str) := by kernel_rfl
theorem n_behind : nm 108187682958948 = ("behind" : Str) := by kernel_rfl
theorem n_cells : nm 426903366771 = ("cells" : Str) := by kernel_rfl
theorem n_find_all : nm 7379550841799273580 = ("find_all" : Str) := by kernel_rfl
theorem n_first_store : nm 123808393329597252595839589 = ("first_store" : Str) := by kernel_rfl
theorem n_firsts : nm 112603077768307 = ("firsts" : Str) := by kernel_rfl
theorem n_is_served : nm 1945221618056201397604 = ("is_served" : Str) := by kernel_rfl
theorem n_is_spot : nm 29681726350454644 = ("is_spot" : Str) := by kernel_rfl
theorem n_keep_rows : nm 1981107985412644632435 = ("keep_rows" : Str) := by kernel_rfl
theorem n_known : nm 461414299502 = ("known" : Str) := by kernel_rfl
theorem n_lists : nm 465625642099 = ("lists" : Str) := by kernel_rfl
theorem n_looked : nm 119225866478948 = ("looked" : Str) := by kernel_rfl
theorem n_noted : nm 474316301668 = ("noted" : Str) := by kernel_rfl
theorem n_one : nm 7302757 = ("one" : Str) := by kernel_rfl
theorem n_other : nm 478694368626 = ("other" : Str) := by kernel_rfl
theorem n_own_guards : nm 526385795332522858669171 = ("own_guards" : Str) := by kernel_rfl
theorem n_own_levels : nm 526385795337952048802931 = ("own_levels" : Str) := by kernel_rfl
theorem n_own_lines : nm 2056194513038941775219 = ("own_lines" : Str) := by kernel_rfl
theorem n_own_main : nm 8032009816574617966 = ("own_main" : Str) := by kernel_rfl
theorem n_own_sections : nm 34497219483772407802267397747 = ("own_sections" : Str) := by kernel_rfl
theorem n_own_size : nm 8032009816675809893 = ("own_size" : Str) := by kernel_rfl
theorem n_row_in : nm 125823069677934 = ("row_in" : Str) := by kernel_rfl
theorem n_script : nm 126870958469236 = ("script" : Str) := by kernel_rfl
theorem n_seen : nm 1936024942 = ("seen" : Str) := by kernel_rfl
theorem n_sight_at : nm 8316291885242999156 = ("sight_at" : Str) := by kernel_rfl
theorem n_source : nm 126922548994917 = ("source" : Str) := by kernel_rfl
theorem n_spots : nm 495807591539 = ("spots" : Str) := by kernel_rfl
/-! ### the plain functions -/
abbrev nCls : Nat := 7
abbrev mroL : List (List Nat) := [[0], [1, 0], [2, 0], [3, 0], [4, 0], [5], [6]]
abbrev exL : List Bool := [true, true, true, true, true, false, false]
abbrev mroT : Nat → List Nat := fun k => mroL.getD k []
abbrev exB : Nat → Bool := fun k => decide (k < nCls) && exL.getD k false
abbrev ckL : List (Option ClsK) := [some .x, some .x, some .x, some .x, some .x, some .i, some .i]
abbrev ckT : Nat → Option ClsK := fun k => ckL.getD k none
abbrev r_FORMS : TabP := ⟨pG "FORMS", [("set", .inr "cv"), ("copy", .inr "cc"), ("add", .inr "cv"), ("any", .inr "c"), ("look", .inr "c"), ("if", .inr "cvr"), ("go", .inr "r"), ("either", .inr "r"), ("call", .inr "p"), ("raise", .inr "l"), ("mask", .inr "l"), ("save", .inr "c"), ("load", .inr "c"), ("keep", .inr ""), ("give", .inr ""), ("open", .inr "s"), ("close", .inr "s")]⟩
abbrev t_FORMS : List (List Nat × W) := [([115, 101, 116], .str [99, 118]), ([99, 111, 112, 121], .str [99, 99]), ([97, 100, 100], .str [99, 118]), ([97, 110, 121], .str [99]), ([108, 111, 111, 107], .str [99]), ([105, 102], .str [99, 118, 114]), ([103, 111], .str [114]), ([101, 105, 116, 104, 101, 114], .str [114]), ([99, 97, 108, 108], .str [112]), ([114, 97, 105, 115, 101], .str [108]), ([109, 97, 115, 107], .str [108]), ([115, 97, 118, 101], .str [99]), ([108, 111, 97, 100], .str [99]), ([107, 101, 101, 112], .str []), ([103, 105, 118, 101], .str []), ([111, 112, 101, 110], .str [115]), ([99, 108, 111, 115, 101], .str [115])]
theorem te_FORMS : (r_FORMS).tbl = t_FORMS := by rfl
def c_is_integer : Sx :=
    (cRet (xAnd (xCallB (isX nCls mroT ckT) (xCons (xVar 0) (xCons (xC (.ty .int)) xNil))) (xNot (xCallB (isX nCls mroT ckT) (xCons (xVar 0) (xCons (xC (.ty .bool)) xNil))))))
def f_is_integer : Fn := mkFn 1 1 c_is_integer
def c_is_word : Sx :=
    (cSeq (cIf (xOrT (xNotT (xTru (xCallB (isX nCls mroT ckT) (xCons (xVar 0) (xCons (xC (.ty .str)) xNil))))) (xNotT (xBl (xChain leW leW (xC (.int 1)) (xCallB lenX (xCons (xVar 0) xNil)) (xC (.int 8)))))) (cRet (xC (.bl false))) cNil)
    (cRet (xCallB allW (xCons (xLock (xVar 0) (xLc (xItX (xVar 0)) (gxName 1) xYesT (xOp (inX tN false) (xVar 1) (xC (.str [97, 98, 99, 100, 101, 102, 103, 104, 105, 106, 107, 108, 109, 110, 111, 112, 113, 114, 115, 116, 117, 118, 119, 120, 121, 122]))) [1])) xNil))))
def f_is_word : Fn := mkFn 1 2 c_is_word
def b_has_ring_1 : Sx :=
    (cSeq (cAsg (xLock (xVar 1) (xLc (xItX (xVar 1)) (gxName 3) (xNotT (xTru (xCallB anyW (xCons (xLc (xItX (xOp (ixX tN) (xVar 1) (xVar 3))) (gxName 5) xYesT (xOp (inX tN false) (xVar 5) (xVar 1)) [5]) xNil)))) (xVar 3) [3])) (gxName 4))
    (cSeq (cIf (xBl (xOp eqW (xVar 4) (xLst xNil))) (cRet (xC (.bl true))) cNil)
    (cAsg (xLock (xVar 1) (xDc (xItX (xVar 1)) (gxName 3) (xBl (xOp (inX tN true) (xVar 3) (xVar 4))) (xVar 3) (xOp (ixX tN) (xVar 1) (xVar 3)) [3])) (gxName 1))))
def c_has_ring : Sx :=
    (cSeq (cAsg (xLock (xVar 0) (xDc (xItX (xVar 0)) (gxName 3) xYesT (xVar 3) (xLc (xItX (xOp (ixX tN) (xVar 0) (xVar 3))) (gxName 2) (xBl (xOp eqW (xOp (ixX tN) (xVar 2) (xC (.int 0))) (xC (.str [99, 97, 108, 108])))) (xOp (ixX tN) (xVar 2) (xC (.int 1))) [2]) [3])) (gxName 1))
    (cSeq (cWhile 100000 (xTru (xVar 1))
    b_has_ring_1)
    (cRet (xC (.bl false)))))
def f_has_ring : Fn := mkFn 1 6 c_has_ring
def c_Program_spots : Sx :=
    (cRet (xLock (xUn (insW (fun k => [5].contains k) 465625642099) (xVar 0)) (xLc2 (xItX (xUn (insW (fun k => [5].contains k) 465625642099) (xVar 0))) (gxName 1) xYesT (xRng1 (xCons (xOp addW (xCallB lenX (xCons (xOp (ixX tN) (xUn (insW (fun k => [5].contains k) 465625642099) (xVar 0)) (xVar 1)) xNil)) (xC (.int 1))) xNil)) (gxName 2) xYesT (xTup (xCons (xVar 1) (xCons (xVar 2) xNil))) [1, 2] [2])))
def f_Program_spots : Fn := mkFn 1 3 c_Program_spots
def c_Program_levels : Sx :=
    (cRet (xUn (insW (fun k => [5].contains k) 526385795337952048802931) (xVar 0)))
def f_Program_levels : Fn := mkFn 1 1 c_Program_levels
def c_Program_size : Sx :=
    (cRet (xUn (insW (fun k => [5].contains k) 8032009816675809893) (xVar 0)))
def f_Program_size : Fn := mkFn 1 1 c_Program_size
def c_Program_main : Sx :=
    (cRet (xUn (insW (fun k => [5].contains k) 8032009816574617966) (xVar 0)))
def f_Program_main : Fn := mkFn 1 1 c_Program_main
def c_Program_cells : Sx :=
    (cRet (xCallB listX (xCons (xUn (insW (fun k => [5].contains k) 112603077768307) (xVar 0)) xNil)))
def f_Program_cells : Fn := mkFn 1 1 c_Program_cells
def c_Program_first_store : Sx :=
    (cRet (xTup (xStarV (xUn (insW (fun k => [5].contains k) 112603077768307) (xVar 0)) (xStar (xLock (xUn (insW (fun k => [5].contains k) 34497219483772407802267397747) (xVar 0)) (xLc (xItX (xUn (insW (fun k => [5].contains k) 34497219483772407802267397747) (xVar 0))) (gxName 1) xYesT (xC (.int 0)) [1])) xNil))))
def f_Program_first_store : Fn := mkFn 1 2 c_Program_first_store
def c_check_program : Sx :=
    (cIf (xNotT (xTru (xCallB (isX nCls mroT ckT) (xCons (xVar 0) (xCons (xC (.cl 5)) xNil))))) (cRaise 1 "value" (xCons (xVar 0) xNil)) cNil)
def f_check_program : Fn := mkFn 1 1 c_check_program
def c_callee_at : Sx :=
    (cSeq (cAsg (xOp (ixX tN) (xUn (insW (fun k => [5].contains k) 465625642099) (xVar 0)) (xVar 1)) (gxName 3))
    (cRet (xIf (xAndT (xBl (xOp ltW (xVar 2) (xCallB lenX (xCons (xVar 3) xNil)))) (xBl (xOp eqW (xOp (ixX tN) (xOp (ixX tN) (xVar 3) (xVar 2)) (xC (.int 0))) (xC (.str [99, 97, 108, 108]))))) (xOp (ixX tN) (xOp (ixX tN) (xVar 3) (xVar 2)) (xC (.int 1))) (xC .non))))
def f_callee_at : Fn := mkFn 3 4 c_callee_at
def c_at_cell : Sx :=
    (cRet (xMeth .list indexW (xCallB listX (xCons (xUn (insW (fun k => [5].contains k) 112603077768307) (xVar 0)) xNil)) (xCons (xVar 1) xNil)))
def f_at_cell : Fn := mkFn 2 2 c_at_cell
def c_at_section : Sx :=
    (cRet (xOp addW (xCallB lenX (xCons (xUn (insW (fun k => [5].contains k) 112603077768307) (xVar 0)) xNil)) (xMeth .list indexW (xUn (insW (fun k => [5].contains k) 34497219483772407802267397747) (xVar 0)) (xCons (xVar 1) xNil))))
def f_at_section : Fn := mkFn 2 2 c_at_section
def c_put_in : Sx :=
    (cRet (xTup (xStar (xSl (xVar 0) xNo (xYes (xVar 1))) (xCons (xVar 2) (xStar (xSl (xVar 0) (xYes (xOp addW (xVar 1) (xC (.int 1)))) xNo) xNil)))))
def f_put_in : Fn := mkFn 3 3 c_put_in
def c_place_in : Sx :=
    (cSeq (cAsg (xVar 0) (gxTup [1, 2, 3]))
    (cSeq (cAsg (xOp (ixX tN) (xVar 3) (xUn negW (xC (.int 1)))) (gxTup [4, 5, 6]))
    (cRet (xTup (xStar (xOp (ixX tN) (xVar 6) (xUn negW (xC (.int 1)))) (xCons (xVar 1) (xCons (xVar 2) (xCons (xVar 4) xNil))))))))
def f_place_in : Fn := mkFn 1 7 c_place_in
def c_frames_in : Sx :=
    (cRet (xLc2 (xItX (xOp (ixX tN) (xVar 0) (xC (.int 2)))) (gxTup [1, 2, 3]) xYesT (xItX (xVar 3)) (gxName 4) xYesT (xVar 4) [1, 2, 3, 4] [4]))
def f_frames_in : Fn := mkFn 1 5 c_frames_in
def c_begin_line : Sx :=
    (cSeq (cAsg (xVar 1) (gxTup [3, 4, 5]))
    (cSeq (cAsg (xOp (ixX tN) (xUn (insW (fun k => [5].contains k) 2056194513038941775219) (xVar 0)) (xVar 2)) (gxTup [6, 7]))
    (cRet (xTup (xCons (xVar 3) (xCons (xVar 6) (xCons (xTup (xStar (xVar 5) (xCons (xTup (xCons (xVar 6) (xCons (xVar 4) (xCons (xTup (xCons (xTup (xCons (xVar 7) (xCons (xC (.int 0)) (xCons (xC (.int 0)) xNil)))) xNil)) xNil)))) xNil))) xNil)))))))
def f_begin_line : Fn := mkFn 3 8 c_begin_line
def c_come_back : Sx :=
    (cSeq (cAsg (xVar 0) (gxTup [1, 2, 3]))
    (cSeq (cAsg (xOp (ixX tN) (xVar 3) (xUn negW (xC (.int 1)))) (gxTup [4, 5, 6]))
    (cSeq (cIf (xBl (xOp gtW (xCallB lenX (xCons (xVar 6) xNil)) (xC (.int 1)))) (cRet (xTup (xCons (xVar 1) (xCons (xVar 2) (xCons (xTup (xStar (xSl (xVar 3) xNo (xYes (xUn negW (xC (.int 1))))) (xCons (xTup (xCons (xVar 4) (xCons (xVar 5) (xCons (xSl (xVar 6) xNo (xYes (xUn negW (xC (.int 1))))) xNil)))) xNil))) xNil))))) cNil)
    (cRet (xTup (xCons (xVar 1) (xCons (xVar 5) (xCons (xSl (xVar 3) xNo (xYes (xUn negW (xC (.int 1))))) xNil))))))))
def f_come_back : Fn := mkFn 1 7 c_come_back
def c_with_frames : Sx :=
    (cSeq (cAsg (xOp (ixX tN) (xVar 0) (xC (.int 2))) (gxName 4))
    (cSeq (cAsg (xOp (ixX tN) (xVar 4) (xUn negW (xC (.int 1)))) (gxTup [5, 6, 7]))
    (cRet (xTup (xCons (xVar 1) (xCons (xVar 2) (xCons (xTup (xStar (xSl (xVar 4) xNo (xYes (xUn negW (xC (.int 1))))) (xCons (xTup (xCons (xVar 5) (xCons (xVar 6) (xCons (xVar 3) xNil)))) xNil))) xNil)))))))
def f_with_frames : Fn := mkFn 4 8 c_with_frames
def c_Watch_noted : Sx :=
    (cSeq (cIf (xOrT (xBl (xOp isW (xVar 1) (xC .non))) (xOrT (xBl (xOp neW (xOp (ixX tN) (xVar 2) (xUn (insW (fun k => [6].contains k) 107152445238885) (xVar 0))) (xOp (ixX tN) (xVar 1) (xC (.int 2))))) (xBl (xOp (inX tN false) (xOp (ixX tN) (xVar 2) (xUn (insW (fun k => [6].contains k) 7022342651276453234) (xVar 0))) (xOp (ixX tN) (xVar 1) (xC (.int 3))))))) (cRet (xVar 1)) cNil)
    (cSeq (cAsg (xCallB sortX (xCons (xLc (xItX (xLst (xStar (xOp (ixX tN) (xVar 1) (xC (.int 3))) (xCons (xOp (ixX tN) (xVar 2) (xUn (insW (fun k => [6].contains k) 7022342651276453234) (xVar 0))) xNil)))) (gxName 4) xYesT (xCallB intW (xCons (xVar 4) xNil)) [4]) xNil)) (gxName 3))
    (cRet (xTup (xStar (xSl (xVar 1) xNo (xYes (xC (.int 3)))) (xCons (xCallB tupX (xCons (xVar 3) xNil)) xNil))))))
def f_Watch_noted : Fn := mkFn 3 5 c_Watch_noted
def b_Watch_script_1 : Sx :=
    (cSeq (cExpr (xMeth .list appendW (xVar 2) (xCons (xOp (ixX tN) (xOp (ixX tN) (xUn (insW (fun k => [6].contains k) 461414299502) (xVar 0)) (xVar 1)) (xC (.int 1))) xNil)))
    (cAsg (xOp (ixX tN) (xOp (ixX tN) (xUn (insW (fun k => [6].contains k) 461414299502) (xVar 0)) (xVar 1)) (xC (.int 0))) (gxName 1)))
def c_Watch_script : Sx :=
    (cSeq (cAsg (xLst (xCons (xTup (xCons (xC (.str [114, 111, 119])) (xCons (xC (.int 0)) xNil))) xNil)) (gxName 2))
    (cSeq (cWhile 100000 (xBl (xOp isntW (xOp (ixX tN) (xUn (insW (fun k => [6].contains k) 461414299502) (xVar 0)) (xVar 1)) (xC .non)))
    b_Watch_script_1)
    (cRet (xUn revW (xVar 2)))))
def f_Watch_script : Fn := mkFn 2 3 c_Watch_script
def c_is_within : Sx :=
    (cRet (xAnd (xCall f_is_integer (xCons (xVar 0) xNil)) (xChain leW leW (xVar 1) (xVar 0) (xVar 2))))
def f_is_within : Fn := mkFn 3 3 c_is_within
def c_are_words : Sx :=
    (cSeq (cIf (xOrT (xNotT (xTru (xCallB (isX nCls mroT ckT) (xCons (xVar 0) (xCons (xC (.ty .dict)) xNil))))) (xNotT (xBl (xChain leW leW (xVar 1) (xCallB lenX (xCons (xVar 0) xNil)) (xVar 2))))) (cRet (xC (.bl false))) cNil)
    (cRet (xCallB allW (xCons (xLock (xVar 0) (xLc (xItX (xVar 0)) (gxName 3) xYesT (xCall f_is_word (xCons (xVar 3) xNil)) [3])) xNil))))
def f_are_words : Fn := mkFn 3 4 c_are_words
def c_Program___contains__ : Sx :=
    (cRet (xAnd (xCall f_is_word (xCons (xVar 1) xNil)) (xOp (inX tN false) (xVar 1) (xUn (insW (fun k => [5].contains k) 465625642099) (xVar 0)))))
def f_Program___contains__ : Fn := mkFn 2 2 c_Program___contains__
def c_points_behind : Sx :=
    (cSeq (cAsg (xOp (ixX tN) (xVar 1) (xC (.int 0))) (gxName 4))
    (cSeq (cIf (xBl (xOp eqW (xVar 4) (xC (.str [103, 111])))) (cRet (xLst (xCons (xTup (xCons (xOp (ixX tN) (xVar 1) (xC (.int 1))) (xCons (xC (.int 0)) xNil))) xNil))) cNil)
    (cSeq (cIf (xBl (xOp eqW (xVar 4) (xC (.str [101, 105, 116, 104, 101, 114])))) (cRet (xLst (xCons (xTup (xCons (xOp addW (xVar 2) (xC (.int 1))) (xCons (xC (.int 0)) xNil))) (xCons (xTup (xCons (xOp (ixX tN) (xVar 1) (xC (.int 1))) (xCons (xC (.int 1)) xNil))) xNil)))) cNil)
    (cSeq (cIf (xAndT (xBl (xOp eqW (xVar 4) (xC (.str [105, 102])))) (xBl (xOp eqW (xOp (ixX tN) (xVar 3) (xCall f_at_cell (xCons (xVar 0) (xCons (xOp (ixX tN) (xVar 1) (xC (.int 1))) xNil)))) (xOp (ixX tN) (xVar 1) (xC (.int 2)))))) (cRet (xLst (xCons (xTup (xCons (xOp (ixX tN) (xVar 1) (xC (.int 3))) (xCons (xC (.int 0)) xNil))) xNil))) cNil)
    (cRet (xLst (xCons (xTup (xCons (xOp addW (xVar 2) (xC (.int 1))) (xCons (xC (.int 0)) xNil))) xNil)))))))
def f_points_behind : Fn := mkFn 4 5 c_points_behind
def c_is_resting : Sx :=
    (cSeq (cAsg (xOp (ixX tN) (xOp (ixX tN) (xOp (ixX tN) (xOp (ixX tN) (xVar 1) (xC (.int 2))) (xUn negW (xC (.int 1)))) (xC (.int 2))) (xUn negW (xC (.int 1)))) (gxTup [2, 3, 4]))
    (cRet (xAnd (xOp eqW (xCallB lenX (xCons (xCall f_frames_in (xCons (xVar 1) xNil)) xNil)) (xC (.int 1))) (xOp eqW (xVar 3) (xCallB lenX (xCons (xOp (ixX tN) (xUn (insW (fun k => [5].contains k) 465625642099) (xVar 0)) (xVar 2)) xNil))))))
def f_is_resting : Fn := mkFn 2 5 c_is_resting
def c_check_cells : Sx :=
    (cSeq (cExpr (xCall f_check_program (xCons (xVar 0) xNil)))
    (cSeq (cIf (xOrT (xNotT (xTru (xCall f_is_word (xCons (xVar 1) xNil)))) (xBl (xOp (inX tN true) (xVar 1) (xMethX 5 426903366771 f_Program_cells [] (xVar 0) xNil)))) (cRaise 4 "value" (xCons (xVar 1) xNil)) cNil)
    (cIf (xOrT (xNotT (xTru (xCall f_is_word (xCons (xVar 2) xNil)))) (xOrT (xBl (xOp (inX tN true) (xVar 2) (xMethX 5 426903366771 f_Program_cells [] (xVar 0) xNil))) (xBl (xOp eqW (xVar 2) (xVar 1))))) (cRaise 4 "value" (xCons (xVar 2) xNil)) cNil)))
def f_check_cells : Fn := mkFn 3 3 c_check_cells
def c_is_sign_part : Sx :=
    (cSeq (cIf (xBl (xOp eqW (xVar 1) (xC (.str [99])))) (cRet (xAnd (xCall f_is_word (xCons (xVar 2) xNil)) (xOp (inX tN false) (xVar 2) (xUn (insW (fun k => [5].contains k) 112603077768307) (xVar 0))))) cNil)
    (cSeq (cIf (xBl (xOp eqW (xVar 1) (xC (.str [118])))) (cRet (xCall f_is_within (xCons (xVar 2) (xCons (xC (.int 0)) (xCons (xOp subW (xPropX 5 f_Program_size (xVar 0)) (xC (.int 1))) xNil))))) cNil)
    (cSeq (cIf (xBl (xOp eqW (xVar 1) (xC (.str [114])))) (cRet (xCall f_is_within (xCons (xVar 2) (xCons (xC (.int 0)) (xCons (xVar 3) xNil))))) cNil)
    (cSeq (cIf (xBl (xOp eqW (xVar 1) (xC (.str [112])))) (cRet (xAnd (xCall f_is_word (xCons (xVar 2) xNil)) (xOp (inX tN false) (xVar 2) (xUn (insW (fun k => [5].contains k) 465625642099) (xVar 0))))) cNil)
    (cRet (xIf (xBl (xOp eqW (xVar 1) (xC (.str [108])))) (xCall f_is_within (xCons (xVar 2) (xCons (xC (.int 0)) (xCons (xPropX 5 f_Program_levels (xVar 0)) xNil)))) (xCall f_is_word (xCons (xVar 2) xNil))))))))
def f_is_sign_part : Fn := mkFn 4 4 c_is_sign_part
def c_Program_is_served : Sx :=
    (cSeq (cIf (xOrT (xNotT (xTru (xCallB (isX nCls mroT ckT) (xCons (xVar 1) (xCons (xC (.ty .tuple)) xNil))))) (xOrT (xBl (xOp neW (xCallB lenX (xCons (xVar 1) xNil)) (xC (.int 2)))) (xNotT (xTru (xCall f_is_within (xCons (xOp (ixX tN) (xVar 1) (xC (.int 0))) (xCons (xC (.int 1)) (xCons (xUn (insW (fun k => [5].contains k) 526385795337952048802931) (xVar 0)) xNil)))))))) (cRet (xC (.bl false))) cNil)
    (cRet (xAnd (xCall f_is_word (xCons (xOp (ixX tN) (xVar 1) (xC (.int 1))) xNil)) (xOp (inX tN false) (xOp (ixX tN) (xVar 1) (xC (.int 1))) (xUn (insW (fun k => [5].contains k) 465625642099) (xVar 0))))))
def f_Program_is_served : Fn := mkFn 2 2 c_Program_is_served
def c_Program_is_spot : Sx :=
    (cSeq (cIf (xOrT (xNotT (xTru (xCallB (isX nCls mroT ckT) (xCons (xVar 1) (xCons (xC (.ty .tuple)) xNil))))) (xOrT (xBl (xOp neW (xCallB lenX (xCons (xVar 1) xNil)) (xC (.int 2)))) (xOrT (xNotT (xTru (xCall f_is_word (xCons (xOp (ixX tN) (xVar 1) (xC (.int 0))) xNil)))) (xBl (xOp (inX tN true) (xOp (ixX tN) (xVar 1) (xC (.int 0))) (xUn (insW (fun k => [5].contains k) 465625642099) (xVar 0))))))) (cRet (xC (.bl false))) cNil)
    (cRet (xCall f_is_within (xCons (xOp (ixX tN) (xVar 1) (xC (.int 1))) (xCons (xC (.int 0)) (xCons (xCallB lenX (xCons (xOp (ixX tN) (xUn (insW (fun k => [5].contains k) 465625642099) (xVar 0)) (xOp (ixX tN) (xVar 1) (xC (.int 0)))) xNil)) xNil))))))
def f_Program_is_spot : Fn := mkFn 2 2 c_Program_is_spot
def b_serving_1 : Sx :=
    (cExpr (xMeth .list extendW (xVar 6) (xCons (xLock (xUn (insW (fun k => [5].contains k) 2056194513038941775219) (xVar 0)) (xLc (xItX (xUn (insW (fun k => [5].contains k) 2056194513038941775219) (xVar 0))) (gxName 8) (xBl (xOp eqW (xOp (ixX tN) (xOp (ixX tN) (xUn (insW (fun k => [5].contains k) 2056194513038941775219) (xVar 0)) (xVar 8)) (xC (.int 0))) (xVar 7))) (xVar 8) [8])) xNil)))
def c_serving : Sx :=
    (cSeq (cAsg (xGet2 (xUn (insW (fun k => [5].contains k) 526385795332522858669171) (xVar 0)) (xTup (xCons (xVar 1) (xCons (xVar 2) xNil))) (xC (.int 0))) (gxName 4))
    (cSeq (cAsg (xIf (xBl (xOp gtW (xVar 3) (xVar 4))) (xVar 3) (xVar 4)) (gxName 5))
    (cSeq (cAsg (xLst xNil) (gxName 6))
    (cSeq (cFor (xRng3 (xCons (xPropX 5 f_Program_levels (xVar 0)) (xCons (xVar 5) (xCons (xUn negW (xC (.int 1))) xNil)))) (gxName 7) b_serving_1)
    (cRet (xVar 6))))))
def f_serving : Fn := mkFn 4 9 c_serving
def c_changed_store : Sx :=
    (cSeq (cAsg (xOp (ixX tN) (xVar 1) (xC (.int 0))) (gxName 3))
    (cSeq (cIf (xBl (xOp (inX tN false) (xVar 3) (xTup (xCons (xC (.str [111, 112, 101, 110])) (xCons (xC (.str [99, 108, 111, 115, 101])) xNil))))) (cRet (xLst (xCons (xTup (xCons (xCall f_put_in (xCons (xVar 2) (xCons (xCall f_at_section (xCons (xVar 0) (xCons (xOp (ixX tN) (xVar 1) (xC (.int 1))) xNil))) (xCons (xCallB intW (xCons (xOp eqW (xVar 3) (xC (.str [111, 112, 101, 110]))) xNil)) xNil)))) (xCons (xC (.int 0)) xNil))) xNil))) cNil)
    (cSeq (cAsg (xCall f_at_cell (xCons (xVar 0) (xCons (xOp (ixX tN) (xVar 1) (xC (.int 1))) xNil))) (gxName 4))
    (cSeq (cIf (xBl (xOp eqW (xVar 3) (xC (.str [97, 110, 121])))) (cRet (xLc (xRng1 (xCons (xPropX 5 f_Program_size (xVar 0)) xNil)) (gxName 5) xYesT (xTup (xCons (xCall f_put_in (xCons (xVar 2) (xCons (xVar 4) (xCons (xVar 5) xNil)))) (xCons (xVar 5) xNil))) [5])) cNil)
    (cSeq (cAsg (xIf (xBl (xOp eqW (xVar 3) (xC (.str [115, 101, 116])))) (xOp (ixX tN) (xVar 1) (xC (.int 2))) (xC (.int 0))) (gxName 5))
    (cSeq (cIf (xBl (xOp eqW (xVar 3) (xC (.str [99, 111, 112, 121])))) (cAsg (xOp (ixX tN) (xVar 2) (xCall f_at_cell (xCons (xVar 0) (xCons (xOp (ixX tN) (xVar 1) (xC (.int 2))) xNil)))) (gxName 5)) (cIf (xBl (xOp eqW (xVar 3) (xC (.str [97, 100, 100])))) (cAsg (xOp modW (xOp addW (xOp (ixX tN) (xVar 2) (xVar 4)) (xOp (ixX tN) (xVar 1) (xC (.int 2)))) (xPropX 5 f_Program_size (xVar 0))) (gxName 5)) cNil))
    (cRet (xLst (xCons (xTup (xCons (xCall f_put_in (xCons (xVar 2) (xCons (xVar 4) (xCons (xVar 5) xNil)))) (xCons (xC (.int 0)) xNil))) xNil)))))))))
def f_changed_store : Fn := mkFn 3 6 c_changed_store
def c_masked_by : Sx :=
    (cSeq (cAsg (xOp (ixX tN) (xVar 1) (xC (.int 0))) (gxName 6))
    (cSeq (cIf (xBl (xOp eqW (xVar 6) (xC (.str [107, 101, 101, 112])))) (cRet (xTup (xCons (xVar 4) (xCons (xVar 4) xNil)))) cNil)
    (cSeq (cIf (xBl (xOp eqW (xVar 6) (xC (.str [114, 97, 105, 115, 101])))) (cRet (xTup (xCons (xIf (xBl (xOp gtW (xVar 4) (xOp (ixX tN) (xVar 1) (xC (.int 1))))) (xVar 4) (xOp (ixX tN) (xVar 1) (xC (.int 1)))) (xCons (xVar 2) xNil)))) cNil)
    (cSeq (cAsg (xVar 2) (gxName 7))
    (cSeq (cIf (xBl (xOp eqW (xVar 6) (xC (.str [109, 97, 115, 107])))) (cAsg (xOp (ixX tN) (xVar 1) (xC (.int 1))) (gxName 7)) (cIf (xBl (xOp eqW (xVar 6) (xC (.str [108, 111, 97, 100])))) (cSeq (cAsg (xOp (ixX tN) (xVar 3) (xCall f_at_cell (xCons (xVar 0) (xCons (xOp (ixX tN) (xVar 1) (xC (.int 1))) xNil)))) (gxName 7))
    (cAsg (xIf (xBl (xOp ltW (xVar 7) (xPropX 5 f_Program_levels (xVar 0)))) (xVar 7) (xPropX 5 f_Program_levels (xVar 0))) (gxName 7))) cNil))
    (cRet (xTup (xCons (xIf (xBl (xOp gtW (xVar 7) (xVar 5))) (xVar 7) (xVar 5)) (xCons (xVar 2) xNil)))))))))
def f_masked_by : Fn := mkFn 6 8 c_masked_by
def c_first_state : Sx :=
    (cRet (xTup (xCons (xMethX 5 123808393329597252595839589 f_Program_first_store [] (xVar 0) xNil) (xCons (xC (.int 0)) (xCons (xTup (xCons (xTup (xCons (xC (.int 0)) (xCons (xC (.int 0)) (xCons (xTup (xCons (xTup (xCons (xPropX 5 f_Program_main (xVar 0)) (xCons (xC (.int 0)) (xCons (xC (.int 0)) xNil)))) xNil)) xNil)))) xNil)) xNil)))))
def f_first_state : Fn := mkFn 1 1 c_first_state
def c_is_row : Sx :=
    (cSeq (cIf (xOrT (xNotT (xTru (xCallB (isX nCls mroT ckT) (xCons (xVar 1) (xCons (xC (.ty .tuple)) xNil))))) (xOrT (xBl (xOp eqW (xVar 1) (xTup xNil))) (xOrT (xNotT (xTru (xCallB (isX nCls mroT ckT) (xCons (xOp (ixX tN) (xVar 1) (xC (.int 0))) (xCons (xC (.ty .str)) xNil))))) (xBl (xUn (tblNo t_FORMS) (xOp (ixX tN) (xVar 1) (xC (.int 0)))))))) (cRet (xC (.bl false))) cNil)
    (cSeq (cAsg (xUn (tblIx t_FORMS) (xOp (ixX tN) (xVar 1) (xC (.int 0)))) (gxName 3))
    (cSeq (cIf (xOrT (xBl (xOp neW (xCallB lenX (xCons (xVar 1) xNil)) (xOp addW (xCallB lenX (xCons (xVar 3) xNil)) (xC (.int 1))))) (xAndT (xBl (xOp eqW (xOp (ixX tN) (xVar 1) (xC (.int 0))) (xC (.str [115, 97, 118, 101])))) (xBl (xOp geW (xPropX 5 f_Program_levels (xVar 0)) (xPropX 5 f_Program_size (xVar 0)))))) (cRet (xC (.bl false))) cNil)
    (cRet (xCallB allW (xCons (xLc (xZip (xCons (xVar 3) (xCons (xSl (xVar 1) (xYes (xC (.int 1))) xNo) xNil))) (gxTup [4, 5]) xYesT (xCall f_is_sign_part (xCons (xVar 0) (xCons (xVar 4) (xCons (xVar 5) (xCons (xVar 2) xNil))))) [4, 5]) xNil))))))
def f_is_row : Fn := mkFn 3 6 c_is_row
def b_sections_of_1 : Sx :=
    (cIf (xBl (xOp (inX tN false) (xOp (ixX tN) (xVar 3) (xC (.int 0))) (xTup (xCons (xC (.str [111, 112, 101, 110])) (xCons (xC (.str [99, 108, 111, 115, 101])) xNil))))) (cAsg (xC (.bl true)) (gxSubX (xVar 1) (xOp (ixX tN) (xVar 3) (xC (.int 1))))) cNil)
def b_sections_of_2 : Sx :=
    (cLock (xVar 2) (cFor (xItX (xVar 2)) (gxName 3) b_sections_of_1))
def c_sections_of : Sx :=
    (cSeq (cAsg xDic0 (gxName 1))
    (cSeq (cLock (xVar 0) (cFor (xVals (xVar 0)) (gxName 2) b_sections_of_2))
    (cRet (xUn sortKW (xVar 1)))))
def f_sections_of : Fn := mkFn 1 4 c_sections_of
def c_Program_are_guards : Sx :=
    (cSeq (cIf (xNotT (xTru (xCallB (isX nCls mroT ckT) (xCons (xVar 1) (xCons (xC (.ty .dict)) xNil))))) (cRet (xC (.bl false))) cNil)
    (cRet (xCallB allW (xCons (xLock (xVar 1) (xLc (xItX (xVar 1)) (gxName 2) xYesT (xAnd (xMethX 5 29681726350454644 f_Program_is_spot [] (xVar 0) (xCons (xVar 2) xNil)) (xCall f_is_within (xCons (xOp (ixX tN) (xVar 1) (xVar 2)) (xCons (xC (.int 1)) (xCons (xUn (insW (fun k => [5].contains k) 526385795337952048802931) (xVar 0)) xNil))))) [2])) xNil))))
def f_Program_are_guards : Fn := mkFn 2 3 c_Program_are_guards
def c_Program___getitem__ : Sx :=
    (cSeq (cIf (xBl (xOp (inX (fun k => if k = 5 then some f_Program___contains__ else none) true) (xVar 1) (xVar 0))) (cRaise 3 "value" (xCons (xVar 1) xNil)) cNil)
    (cRet (xCallB listX (xCons (xOp (ixX tN) (xUn (insW (fun k => [5].contains k) 465625642099) (xVar 0)) (xVar 1)) xNil))))
def f_Program___getitem__ : Fn := mkFn 2 2 c_Program___getitem__
def c_row_ways : Sx :=
    (cSeq (cAsg (xOp (ixX tN) (xOp (ixX tN) (xUn (insW (fun k => [5].contains k) 465625642099) (xVar 0)) (xVar 1)) (xVar 2)) (gxName 7))
    (cSeq (cIf (xBl (xOp (inX tN false) (xOp (ixX tN) (xVar 7) (xC (.int 0))) (xTup (xCons (xC (.str [107, 101, 101, 112])) (xCons (xC (.str [103, 105, 118, 101])) (xCons (xC (.str [114, 97, 105, 115, 101])) (xCons (xC (.str [109, 97, 115, 107])) (xCons (xC (.str [108, 111, 97, 100])) xNil)))))))) (cSeq (cAsg (xCall f_masked_by (xCons (xVar 0) (xCons (xVar 7) (xCons (xVar 3) (xCons (xVar 4) (xCons (xVar 5) (xCons (xVar 6) xNil))))))) (gxTup [8, 9]))
    (cRet (xLst (xCons (xTup (xCons (xOp addW (xVar 2) (xC (.int 1))) (xCons (xVar 9) (xCons (xVar 4) (xCons (xVar 8) (xCons (xC (.int 0)) xNil)))))) xNil)))) cNil)
    (cSeq (cIf (xBl (xOp eqW (xOp (ixX tN) (xVar 7) (xC (.int 0))) (xC (.str [115, 97, 118, 101])))) (cRet (xLst (xCons (xTup (xCons (xOp addW (xVar 2) (xC (.int 1))) (xCons (xVar 3) (xCons (xCall f_put_in (xCons (xVar 4) (xCons (xCall f_at_cell (xCons (xVar 0) (xCons (xOp (ixX tN) (xVar 7) (xC (.int 1))) xNil))) (xCons (xVar 5) xNil)))) (xCons (xVar 5) (xCons (xC (.int 0)) xNil)))))) xNil))) cNil)
    (cSeq (cIf (xBl (xOp (inX tN false) (xOp (ixX tN) (xVar 7) (xC (.int 0))) (xTup (xCons (xC (.str [115, 101, 116])) (xCons (xC (.str [99, 111, 112, 121])) (xCons (xC (.str [97, 100, 100])) (xCons (xC (.str [97, 110, 121])) (xCons (xC (.str [111, 112, 101, 110])) (xCons (xC (.str [99, 108, 111, 115, 101])) xNil))))))))) (cRet (xLc (xItX (xCall f_changed_store (xCons (xVar 0) (xCons (xVar 7) (xCons (xVar 4) xNil))))) (gxTup [10, 11]) xYesT (xTup (xCons (xOp addW (xVar 2) (xC (.int 1))) (xCons (xVar 3) (xCons (xVar 10) (xCons (xVar 5) (xCons (xVar 11) xNil)))))) [10, 11])) cNil)
    (cRet (xLc (xItX (xCall f_points_behind (xCons (xVar 0) (xCons (xVar 7) (xCons (xVar 2) (xCons (xVar 4) xNil)))))) (gxTup [10, 11]) xYesT (xTup (xCons (xVar 10) (xCons (xVar 3) (xCons (xVar 4) (xCons (xVar 5) (xCons (xVar 11) xNil)))))) [10, 11]))))))
def f_row_ways : Fn := mkFn 7 12 c_row_ways
def c_in_order : Sx :=
    (cRet (xUn sortKW (xVar 0)))
def f_in_order : Fn := mkFn 1 1 c_in_order
def c__law_sorted : Sx :=
    (cRet (xUn sortKW (xVar 0)))
def f__law_sorted : Fn := mkFn 1 1 c__law_sorted
def b_Program_keep_rows_1 : Sx :=
    (cSeq (cAsg (xCallB lenX (xCons (xOp (ixX tN) (xUn (insW (fun k => [5].contains k) 465625642099) (xVar 0)) (xVar 2)) xNil)) (gxName 3))
    (cIf (xNotT (xTru (xCallB allW (xCons (xLc (xItX (xOp (ixX tN) (xUn (insW (fun k => [5].contains k) 465625642099) (xVar 0)) (xVar 2))) (gxName 4) xYesT (xCall f_is_row (xCons (xVar 0) (xCons (xVar 4) (xCons (xVar 3) xNil)))) [4]) xNil)))) (cRet (xC (.bl false))) cNil))
def b_Program_keep_rows_2 : Sx :=
    (cSeq (cIf (xOrT (xNotT (xTru (xCallB (isX nCls mroT ckT) (xCons (xOp (ixX tN) (xVar 1) (xVar 2)) (xCons (xC (.ty .list)) xNil))))) (xBl (xOp gtW (xCallB lenX (xCons (xOp (ixX tN) (xVar 1) (xVar 2)) xNil)) (xC (.int 24))))) (cRet (xC (.bl false))) cNil)
    (cAsg (xCallB listX (xCons (xOp (ixX tN) (xVar 1) (xVar 2)) xNil)) (gxSubX (xUn (insW (fun k => [5].contains k) 465625642099) (xVar 0)) (xVar 2))))
def c_Program_keep_rows : Sx :=
    (cSeq (cFor (xItX (xUn sortKW (xVar 1))) (gxName 2) b_Program_keep_rows_2)
    (cSeq (cLock (xUn (insW (fun k => [5].contains k) 465625642099) (xVar 0)) (cFor (xItX (xUn (insW (fun k => [5].contains k) 465625642099) (xVar 0))) (gxName 2) b_Program_keep_rows_1))
    (cRet (xC (.bl true)))))
def f_Program_keep_rows : Fn := mkFn 2 5 c_Program_keep_rows
def b_rows_behind_1 : Sx :=
    (cExpr (xMeth .list appendW (xVar 11) (xCons (xTup (xCons (xVar 16) (xCons (xCall f_with_frames (xCons (xVar 1) (xCons (xVar 14) (xCons (xVar 15) (xCons (xTup (xStar (xSl (xVar 8) xNo (xYes (xUn negW (xC (.int 1))))) (xCons (xTup (xCons (xVar 2) (xCons (xVar 12) (xCons (xVar 13) xNil)))) xNil))) xNil))))) xNil))) xNil)))
def c_rows_behind : Sx :=
    (cSeq (cAsg (xCall f_place_in (xCons (xVar 1) xNil)) (gxTup [2, 3, 4, 5, 6, 7]))
    (cSeq (cAsg (xOp (ixX tN) (xOp (ixX tN) (xOp (ixX tN) (xVar 1) (xC (.int 2))) (xUn negW (xC (.int 1)))) (xC (.int 2))) (gxName 8))
    (cSeq (cIf (xBl (xOp eqW (xVar 3) (xCallB lenX (xCons (xOp (ixX tN) (xUn (insW (fun k => [5].contains k) 465625642099) (xVar 0)) (xVar 2)) xNil)))) (cRet (xLst (xCons (xTup (xCons (xC (.int 0)) (xCons (xCall f_come_back (xCons (xVar 1) xNil)) xNil))) xNil))) cNil)
    (cSeq (cAsg (xCall f_callee_at (xCons (xVar 0) (xCons (xVar 2) (xCons (xVar 3) xNil)))) (gxName 9))
    (cSeq (cIf (xBl (xOp isntW (xVar 9) (xC .non))) (cSeq (cAsg (xTup (xStar (xSl (xVar 8) xNo (xYes (xUn negW (xC (.int 1))))) (xCons (xTup (xCons (xVar 2) (xCons (xOp addW (xVar 3) (xC (.int 1))) (xCons (xVar 4) xNil)))) (xCons (xTup (xCons (xVar 9) (xCons (xC (.int 0)) (xCons (xC (.int 0)) xNil)))) xNil)))) (gxName 10))
    (cRet (xLst (xCons (xTup (xCons (xC (.int 0)) (xCons (xCall f_with_frames (xCons (xVar 1) (xCons (xVar 5) (xCons (xVar 6) (xCons (xVar 10) xNil))))) xNil))) xNil)))) cNil)
    (cSeq (cAsg (xLst xNil) (gxName 11))
    (cSeq (cFor (xItX (xCall f_row_ways (xCons (xVar 0) (xCons (xVar 2) (xCons (xVar 3) (xCons (xVar 4) (xCons (xVar 5) (xCons (xVar 6) (xCons (xVar 7) xNil))))))))) (gxTup [12, 13, 14, 15, 16]) b_rows_behind_1)
    (cRet (xVar 11)))))))))
def f_rows_behind : Fn := mkFn 2 17 c_rows_behind
def b_Program___init___1 : Sx :=
    (cAsg (xOp mulW (xVar 9) (xVar 2)) (gxName 9))
def c_Program___init__ : Sx :=
    (cSeq (cIf (xNotT (xTru (xCall f_is_within (xCons (xVar 1) (xCons (xC (.int 1)) (xCons (xC (.int 4)) xNil)))))) (cRaise 2 "part" (xCons (xC (.str [108, 101, 118, 101, 108, 115])) xNil)) cNil)
    (cSeq (cIf (xNotT (xTru (xCall f_is_within (xCons (xVar 2) (xCons (xC (.int 2)) (xCons (xC (.int 6)) xNil)))))) (cRaise 2 "part" (xCons (xC (.str [115, 105, 122, 101])) xNil)) cNil)
    (cSeq (cFld (fun k => [5].contains k) 526385795337952048802931 (xVar 0) (xVar 1))
    (cSeq (cFld (fun k => [5].contains k) 8032009816675809893 (xVar 0) (xVar 2))
    (cSeq (cIf (xOrT (xNotT (xTru (xCall f_are_words (xCons (xVar 3) (xCons (xC (.int 1)) (xCons (xC (.int 6)) xNil)))))) (xNotT (xTru (xCallB allW (xCons (xLock (xVar 3) (xLc (xItX (xVar 3)) (gxName 8) xYesT (xCall f_is_within (xCons (xOp (ixX tN) (xVar 3) (xVar 8)) (xCons (xC (.int 0)) (xCons (xOp subW (xVar 2) (xC (.int 1))) xNil)))) [8])) xNil))))) (cRaise 2 "part" (xCons (xC (.str [115, 116, 97, 114, 116])) xNil)) cNil)
    (cSeq (cAsg (xC (.int 1)) (gxName 9))
    (cSeq (cLock (xVar 3) (cFor (xItX (xVar 3)) (gxName 8) b_Program___init___1))
    (cSeq (cIf (xBl (xOp gtW (xVar 9) (xC (.int 256)))) (cRaise 2 "part" (xCons (xC (.str [115, 116, 97, 114, 116])) xNil)) cNil)
    (cSeq (cFld (fun k => [5].contains k) 112603077768307 (xVar 0) (xDc (xItX (xUn sortKW (xVar 3))) (gxName 8) xYesT (xVar 8) (xOp (ixX tN) (xVar 3) (xVar 8)) [8]))
    (cSeq (cFld (fun k => [5].contains k) 465625642099 (xVar 0) xDic0)
    (cSeq (cIf (xOrT (xNotT (xTru (xCall f_are_words (xCons (xVar 4) (xCons (xC (.int 1)) (xCons (xC (.int 12)) xNil)))))) (xNotT (xTru (xMethX 5 1981107985412644632435 f_Program_keep_rows [] (xVar 0) (xCons (xVar 4) xNil))))) (cRaise 2 "part" (xCons (xC (.str [112, 114, 111, 99, 101, 100, 117, 114, 101, 115])) xNil)) cNil)
    (cSeq (cFld (fun k => [5].contains k) 34497219483772407802267397747 (xVar 0) (xCall f_sections_of (xCons (xUn (insW (fun k => [5].contains k) 465625642099) (xVar 0)) xNil)))
    (cSeq (cIf (xOrT (xBl (xOp gtW (xCallB lenX (xCons (xUn (insW (fun k => [5].contains k) 34497219483772407802267397747) (xVar 0)) xNil)) (xC (.int 3)))) (xTru (xCall f_has_ring (xCons (xUn (insW (fun k => [5].contains k) 465625642099) (xVar 0)) xNil)))) (cRaise 2 "part" (xCons (xC (.str [112, 114, 111, 99, 101, 100, 117, 114, 101, 115])) xNil)) cNil)
    (cSeq (cIf (xTru (xCallB anyW (xCons (xLock (xUn (insW (fun k => [5].contains k) 34497219483772407802267397747) (xVar 0)) (xLc (xItX (xUn (insW (fun k => [5].contains k) 34497219483772407802267397747) (xVar 0))) (gxName 10) xYesT (xOp (inX tN false) (xVar 10) (xUn (insW (fun k => [5].contains k) 112603077768307) (xVar 0))) [10])) xNil))) (cRaise 2 "part" (xCons (xC (.str [112, 114, 111, 99, 101, 100, 117, 114, 101, 115])) xNil)) cNil)
    (cSeq (cIf (xOrT (xNotT (xTru (xCall f_are_words (xCons (xVar 5) (xCons (xC (.int 0)) (xCons (xC (.int 6)) xNil)))))) (xNotT (xTru (xCallB allW (xCons (xLock (xVar 5) (xLc (xItX (xVar 5)) (gxName 11) xYesT (xMethX 5 1945221618056201397604 f_Program_is_served [] (xVar 0) (xCons (xOp (ixX tN) (xVar 5) (xVar 11)) xNil)) [11])) xNil))))) (cRaise 2 "part" (xCons (xC (.str [108, 105, 110, 101, 115])) xNil)) cNil)
    (cSeq (cFld (fun k => [5].contains k) 2056194513038941775219 (xVar 0) (xDc (xItX (xUn sortKW (xVar 5))) (gxName 11) xYesT (xVar 11) (xOp (ixX tN) (xVar 5) (xVar 11)) [11]))
    (cSeq (cIf (xOrT (xNotT (xTru (xCall f_is_word (xCons (xVar 6) xNil)))) (xBl (xOp (inX tN true) (xVar 6) (xUn (insW (fun k => [5].contains k) 465625642099) (xVar 0))))) (cRaise 2 "part" (xCons (xC (.str [109, 97, 105, 110])) xNil)) cNil)
    (cSeq (cFld (fun k => [5].contains k) 8032009816574617966 (xVar 0) (xVar 6))
    (cSeq (cFld (fun k => [5].contains k) 526385795332522858669171 (xVar 0) xDic0)
    (cSeq (cIf (xNotT (xTru (xMethX 5 460179782333632936567923 f_Program_are_guards [] (xVar 0) (xCons (xIf (xBl (xOp isW (xVar 7) (xC .non))) xDic0 (xVar 7)) xNil)))) (cRaise 2 "part" (xCons (xC (.str [103, 117, 97, 114, 100, 115])) xNil)) cNil)
    (cSeq (cAsg (xIf (xBl (xOp isW (xVar 7) (xC .non))) xDic0 (xVar 7)) (gxName 12))
    (cFld (fun k => [5].contains k) 526385795332522858669171 (xVar 0) (xDc (xItX (xMethX 5 495807591539 f_Program_spots [] (xVar 0) xNil)) (gxName 13) (xBl (xOp (inX tN false) (xVar 13) (xVar 12))) (xVar 13) (xOp (ixX tN) (xVar 12) (xVar 13)) [13])))))))))))))))))))))))
def f_Program___init__ : Fn := mkFn 8 14 c_Program___init__
def c_all_moves : Sx :=
    (cSeq (cAsg (xCall f_place_in (xCons (xVar 1) xNil)) (gxTup [2, 3, 4, 5, 6, 7]))
    (cSeq (cAsg (xLc (xItX (xCall f_serving (xCons (xVar 0) (xCons (xVar 2) (xCons (xVar 3) (xCons (xVar 6) xNil)))))) (gxName 9) xYesT (xTup (xCons (xTup (xCons (xC (.str [115, 101, 114, 118, 101])) (xCons (xVar 9) xNil))) (xCons (xCall f_begin_line (xCons (xVar 0) (xCons (xVar 1) (xCons (xVar 9) xNil)))) xNil))) [9]) (gxName 8))
    (cSeq (cIf (xTru (xCall f_is_resting (xCons (xVar 0) (xCons (xVar 1) xNil)))) (cRet (xVar 8)) cNil)
    (cRet (xOp addW (xVar 8) (xLc (xItX (xCall f_rows_behind (xCons (xVar 0) (xCons (xVar 1) xNil)))) (gxTup [10, 11]) xYesT (xTup (xCons (xTup (xCons (xC (.str [114, 111, 119])) (xCons (xVar 10) xNil))) (xCons (xVar 11) xNil))) [10, 11]))))))
def f_all_moves : Fn := mkFn 2 12 c_all_moves
def c_Watch_row_in : Sx :=
    (cSeq (cAsg (xCall f_place_in (xCons (xVar 1) xNil)) (gxName 2))
    (cSeq (cAsg (xOp (ixX (fun k => if k = 5 then some f_Program___getitem__ else none)) (xUn (insW (fun k => [6].contains k) 126922548994917) (xVar 0)) (xOp (ixX tN) (xVar 2) (xC (.int 0)))) (gxName 3))
    (cRet (xIf (xBl (xOp ltW (xOp (ixX tN) (xVar 2) (xC (.int 1))) (xCallB lenX (xCons (xVar 3) xNil)))) (xOp (ixX tN) (xVar 3) (xOp (ixX tN) (xVar 2) (xC (.int 1)))) (xC .non)))))
def f_Watch_row_in : Fn := mkFn 2 4 c_Watch_row_in
def c_Watch_looked : Sx :=
    (cSeq (cAsg (xMethX 6 125823069677934 f_Watch_row_in [] (xVar 0) (xCons (xVar 1) xNil)) (gxName 3))
    (cSeq (cAsg (xCall f_place_in (xCons (xVar 1) xNil)) (gxName 4))
    (cSeq (cIf (xBl (xOp eqW (xVar 3) (xTup (xCons (xC (.str [108, 111, 111, 107])) (xCons (xUn (insW (fun k => [6].contains k) 7302757) (xVar 0)) xNil))))) (cSeq (cAsg (xOp (ixX tN) (xOp (ixX tN) (xVar 1) (xC (.int 0))) (xUn (insW (fun k => [6].contains k) 107152445238885) (xVar 0))) (gxName 5))
    (cRet (xTup (xStar (xSl (xVar 2) xNo (xYes (xUn negW (xC (.int 1))))) (xCons (xTup (xCons (xOp (ixX tN) (xVar 4) (xC (.int 0))) (xCons (xOp (ixX tN) (xVar 4) (xC (.int 1))) (xCons (xVar 5) (xCons (xTup (xCons (xOp (ixX tN) (xOp (ixX tN) (xVar 1) (xC (.int 0))) (xUn (insW (fun k => [6].contains k) 7022342651276453234) (xVar 0))) xNil)) xNil))))) xNil))))) cNil)
    (cSeq (cIf (xBl (xOp eqW (xVar 3) (xTup (xCons (xC (.str [108, 111, 111, 107])) (xCons (xUn (insW (fun k => [6].contains k) 478694368626) (xVar 0)) xNil))))) (cRet (xTup (xStar (xSl (xVar 2) xNo (xYes (xUn negW (xC (.int 1))))) (xCons (xC .non) xNil)))) cNil)
    (cRet (xVar 2))))))
def f_Watch_looked : Fn := mkFn 3 6 c_Watch_looked
def c_Watch_sight_at : Sx :=
    (cSeq (cIf (xOrT (xBl (xOp neW (xMethX 6 125823069677934 f_Watch_row_in [] (xVar 0) (xCons (xVar 1) xNil)) (xTup (xCons (xC (.str [108, 111, 111, 107])) (xCons (xUn (insW (fun k => [6].contains k) 478694368626) (xVar 0)) xNil))))) (xBl (xOp isW (xOp (ixX tN) (xVar 2) (xUn negW (xC (.int 1)))) (xC .non)))) (cRet (xC .non)) cNil)
    (cSeq (cAsg (xCall f_place_in (xCons (xVar 1) xNil)) (gxName 3))
    (cSeq (cAsg (xOp (ixX tN) (xOp (ixX tN) (xVar 1) (xC (.int 0))) (xUn (insW (fun k => [6].contains k) 7022342651276453234) (xVar 0))) (gxName 4))
    (cSeq (cAsg (xOp (ixX tN) (xVar 2) (xUn negW (xC (.int 1)))) (gxName 5))
    (cRet (xTup (xStar (xSl (xVar 5) xNo (xYes (xC (.int 3)))) (xCons (xOp (ixX tN) (xVar 3) (xC (.int 0))) (xCons (xOp (ixX tN) (xVar 3) (xC (.int 1))) (xCons (xVar 4) (xCons (xOp (inX tN true) (xVar 4) (xOp (ixX tN) (xVar 5) (xC (.int 3)))) xNil)))))))))))
def f_Watch_sight_at : Fn := mkFn 3 6 c_Watch_sight_at
def c_Watch_behind : Sx :=
    (cSeq (cIf (xBl (xOp eqW (xOp (ixX tN) (xVar 3) (xC (.int 0))) (xC (.str [115, 101, 114, 118, 101])))) (cAsg (xTup (xStar (xVar 2) (xCons (xC .non) xNil))) (gxName 2)) (cIf (xBl (xOp ltW (xCallB lenX (xCons (xOp (ixX tN) (xVar 4) (xC (.int 2))) xNil)) (xCallB lenX (xCons (xOp (ixX tN) (xVar 1) (xC (.int 2))) xNil)))) (cAsg (xSl (xVar 2) xNo (xYes (xUn negW (xC (.int 1))))) (gxName 2)) (cAsg (xMethX 6 119225866478948 f_Watch_looked [] (xVar 0) (xCons (xVar 1) (xCons (xVar 2) xNil))) (gxName 2))))
    (cRet (xCallB tupX (xCons (xLock (xVar 2) (xLc (xItX (xVar 2)) (gxName 5) xYesT (xMethX 6 474316301668 f_Watch_noted [] (xVar 0) (xCons (xVar 5) (xCons (xOp (ixX tN) (xVar 4) (xC (.int 0))) xNil))) [5])) xNil))))
def f_Watch_behind : Fn := mkFn 5 6 c_Watch_behind
def c__law_reader : Sx :=
    (cSeq (cAsg (xDic [((xC (.str [109, 97, 105, 110])), (xLst (xCons (xTup (xCons (xC (.str [108, 111, 111, 107])) (xCons (xC (.str [99])) xNil))) (xCons (xTup (xCons (xC (.str [108, 111, 111, 107])) (xCons (xC (.str [100])) xNil))) xNil)))), ((xC (.str [98, 111, 116, 104])), (xLst (xCons (xTup (xCons (xC (.str [115, 101, 116])) (xCons (xC (.str [99])) (xCons (xVar 1) xNil)))) (xCons (xTup (xCons (xC (.str [115, 101, 116])) (xCons (xC (.str [100])) (xCons (xVar 1) xNil)))) xNil))))]) (gxName 2))
    (cRet (xMakeX 5 f_Program___init__ [] (xCons (xC (.int 1)) (xCons (xC (.int 6)) (xCons (xDic [((xC (.str [99])), (xC (.int 0))), ((xC (.str [100])), (xC (.int 0)))]) (xCons (xVar 2) (xCons (xDic [((xC (.str [119])), (xTup (xCons (xC (.int 1)) (xCons (xC (.str [98, 111, 116, 104])) xNil))))]) (xCons (xC (.str [109, 97, 105, 110])) (xCons (xVar 0) xNil))))))))))
def f__law_reader : Fn := mkFn 2 3 c__law_reader
def c__law_writer : Sx :=
    (cSeq (cAsg (xDic [((xC (.str [109, 97, 105, 110])), (xLst (xCons (xTup (xCons (xC (.str [115, 101, 116])) (xCons (xC (.str [99])) (xCons (xC (.int 1)) xNil)))) (xCons (xTup (xCons (xC (.str [115, 101, 116])) (xCons (xC (.str [100])) (xCons (xC (.int 1)) xNil)))) xNil)))), ((xC (.str [114, 101, 97, 100])), (xLst (xCons (xTup (xCons (xC (.str [108, 111, 111, 107])) (xCons (xC (.str [99])) xNil))) (xCons (xTup (xCons (xC (.str [108, 111, 111, 107])) (xCons (xC (.str [100])) xNil))) xNil))))]) (gxName 1))
    (cRet (xMakeX 5 f_Program___init__ [] (xCons (xC (.int 1)) (xCons (xC (.int 2)) (xCons (xDic [((xC (.str [99])), (xC (.int 0))), ((xC (.str [100])), (xC (.int 0)))]) (xCons (xVar 1) (xCons (xDic [((xC (.str [114])), (xTup (xCons (xC (.int 1)) (xCons (xC (.str [114, 101, 97, 100])) xNil))))]) (xCons (xC (.str [109, 97, 105, 110])) (xCons (xVar 0) xNil))))))))))
def f__law_writer : Fn := mkFn 1 2 c__law_writer
def c__law_back : Sx :=
    (cSeq (cAsg (xDic [((xC (.str [109, 97, 105, 110])), (xLst (xCons (xTup (xCons (xC (.str [108, 111, 111, 107])) (xCons (xC (.str [99])) xNil))) (xCons (xTup (xCons (xC (.str [108, 111, 111, 107])) (xCons (xC (.str [100])) xNil))) xNil)))), ((xC (.str [102, 108, 105, 112])), (xLst (xCons (xTup (xCons (xC (.str [97, 100, 100])) (xCons (xC (.str [99])) (xCons (xC (.int 1)) xNil)))) (xCons (xTup (xCons (xC (.str [97, 100, 100])) (xCons (xC (.str [100])) (xCons (xC (.int 1)) xNil)))) (xCons (xTup (xCons (xC (.str [97, 100, 100])) (xCons (xC (.str [99])) (xCons (xC (.int 1)) xNil)))) xNil)))))]) (gxName 0))
    (cRet (xMakeX 5 f_Program___init__ [.str [109, 97, 105, 110], .non] (xCons (xC (.int 1)) (xCons (xC (.int 2)) (xCons (xDic [((xC (.str [99])), (xC (.int 0))), ((xC (.str [100])), (xC (.int 0)))]) (xCons (xVar 0) (xCons (xDic [((xC (.str [119])), (xTup (xCons (xC (.int 1)) (xCons (xC (.str [102, 108, 105, 112])) xNil))))]) xNil))))))))
def f__law_back : Fn := mkFn 0 1 c__law_back
def b_Watch_find_all_1 : Sx :=
    (cSeq (cAsg (xTup (xCons (xVar 7) (xCons (xMethX 6 108187682958948 f_Watch_behind [] (xVar 0) (xCons (xVar 3) (xCons (xVar 4) (xCons (xVar 6) (xCons (xVar 7) xNil))))) xNil))) (gxName 8))
    (cIf (xBl (xOp (inX tN true) (xVar 8) (xUn (insW (fun k => [6].contains k) 461414299502) (xVar 0)))) (cSeq (cAsg (xTup (xCons (xOp (ixX tN) (xVar 1) (xVar 2)) (xCons (xVar 6) xNil))) (gxSubX (xUn (insW (fun k => [6].contains k) 461414299502) (xVar 0)) (xVar 8)))
    (cExpr (xMeth .list appendW (xVar 1) (xCons (xVar 8) xNil)))) cNil))
def b_Watch_find_all_2 : Sx :=
    (cSeq (cAsg (xOp (ixX tN) (xVar 1) (xVar 2)) (gxTup [3, 4]))
    (cSeq (cAsg (xMethX 6 8316291885242999156 f_Watch_sight_at [] (xVar 0) (xCons (xVar 3) (xCons (xVar 4) xNil))) (gxName 5))
    (cSeq (cIf (xAndT (xBl (xOp isntW (xVar 5) (xC .non))) (xBl (xOp (inX tN true) (xVar 5) (xUn (insW (fun k => [6].contains k) 1936024942) (xVar 0))))) (cAsg (xOp (ixX tN) (xVar 1) (xVar 2)) (gxSubX (xUn (insW (fun k => [6].contains k) 1936024942) (xVar 0)) (xVar 5))) cNil)
    (cSeq (cFor (xItX (xCall f_all_moves (xCons (xUn (insW (fun k => [6].contains k) 126922548994917) (xVar 0)) (xCons (xVar 3) xNil)))) (gxTup [6, 7]) b_Watch_find_all_1)
    (cAsg (xOp addW (xVar 2) (xC (.int 1))) (gxName 2))))))
def c_Watch_find_all : Sx :=
    (cSeq (cAsg (xC (.int 0)) (gxName 2))
    (cWhile 100000 (xBl (xOp ltW (xVar 2) (xCallB lenX (xCons (xVar 1) xNil))))
    b_Watch_find_all_2))
def f_Watch_find_all : Fn := mkFn 2 9 c_Watch_find_all
def c_Watch___init__ : Sx :=
    (cSeq (cFld (fun k => [6].contains k) 126922548994917 (xVar 0) (xVar 1))
    (cSeq (cFld (fun k => [6].contains k) 7302757 (xVar 0) (xVar 2))
    (cSeq (cFld (fun k => [6].contains k) 478694368626 (xVar 0) (xVar 3))
    (cSeq (cFld (fun k => [6].contains k) 107152445238885 (xVar 0) (xCall f_at_cell (xCons (xVar 1) (xCons (xVar 2) xNil))))
    (cSeq (cFld (fun k => [6].contains k) 7022342651276453234 (xVar 0) (xCall f_at_cell (xCons (xVar 1) (xCons (xVar 3) xNil))))
    (cSeq (cAsg (xTup (xCons (xCall f_first_state (xCons (xVar 1) xNil)) (xCons (xTup (xCons (xC .non) xNil)) xNil))) (gxName 4))
    (cSeq (cFld (fun k => [6].contains k) 461414299502 (xVar 0) (xDic [((xVar 4), (xC .non))]))
    (cSeq (cFld (fun k => [6].contains k) 1936024942 (xVar 0) xDic0)
    (cExpr (xMethX 6 7379550841799273580 f_Watch_find_all [] (xVar 0) (xCons (xLst (xCons (xVar 4) xNil)) xNil)))))))))))
def f_Watch___init__ : Fn := mkFn 4 5 c_Watch___init__
def c_pair_sights : Sx :=
    (cSeq (cExpr (xCall f_check_cells (xCons (xVar 0) (xCons (xVar 1) (xCons (xVar 2) xNil)))))
    (cRet (xCall f_in_order (xCons (xCallB listX (xCons (xUn (insW (fun k => [6].contains k) 1936024942) (xMakeX 6 f_Watch___init__ [] (xCons (xVar 0) (xCons (xVar 1) (xCons (xVar 2) xNil))))) xNil)) xNil))))
def f_pair_sights : Fn := mkFn 3 3 c_pair_sights
def b_torn_script_1 : Sx :=
    (cIf (xTru (xOp (ixX tN) (xVar 4) (xC (.int 6)))) (cRet (xMethX 6 126870958469236 f_Watch_script [] (xVar 3) (xCons (xOp (ixX tN) (xUn (insW (fun k => [6].contains k) 1936024942) (xVar 3)) (xVar 4)) xNil))) cNil)
def c_torn_script : Sx :=
    (cSeq (cExpr (xCall f_check_cells (xCons (xVar 0) (xCons (xVar 1) (xCons (xVar 2) xNil)))))
    (cSeq (cAsg (xMakeX 6 f_Watch___init__ [] (xCons (xVar 0) (xCons (xVar 1) (xCons (xVar 2) xNil)))) (gxName 3))
    (cSeq (cLock (xUn (insW (fun k => [6].contains k) 1936024942) (xVar 3)) (cFor (xItX (xUn (insW (fun k => [6].contains k) 1936024942) (xVar 3))) (gxName 4) b_torn_script_1))
    (cRet (xC .non)))))
def f_torn_script : Fn := mkFn 3 5 c_torn_script
def c_is_torn : Sx :=
    (cRet (xCallB anyW (xCons (xLc (xItX (xCall f_pair_sights (xCons (xVar 0) (xCons (xVar 1) (xCons (xVar 2) xNil))))) (gxName 3) xYesT (xOp (ixX tN) (xVar 3) (xC (.int 6))) [3]) xNil)))
def f_is_torn : Fn := mkFn 3 4 c_is_torn
def h__law_told_1 : Sx :=
    (cRet (xLst (xCons (xC (.str [99, 101, 108, 108])) (xCons (xUn (fieldW (fun k => [1, 3, 4].contains k) "value") (xVar 3)) xNil))))
def h__law_told_2 : Sx :=
    (cRet (xLst (xCons (xC (.str [97, 114, 103, 117, 109, 101, 110, 116])) (xCons (xUn (fieldW (fun k => [1, 3, 4].contains k) "value") (xVar 3)) xNil))))
def t__law_told_3 : Sx :=
    (cExpr (xCall f_pair_sights (xCons (xVar 0) (xCons (xVar 1) (xCons (xVar 2) xNil)))))
def c__law_told : Sx :=
    (cSeq (cTry nCls mroT exB t__law_told_3 [⟨1, some 3, h__law_told_2⟩, ⟨4, some 3, h__law_told_1⟩])
    (cRet (xC (.str [111, 107]))))
def f__law_told : Fn := mkFn 3 4 c__law_told
def c__law_seen : Sx :=
    (cRet (xLc (xItX (xCall f_pair_sights (xCons (xVar 0) (xCons (xC (.str [99])) (xCons (xC (.str [100])) xNil))))) (gxName 1) xYesT (xTup (xCons (xOp (ixX tN) (xVar 1) (xC (.int 2))) (xCons (xOp (ixX tN) (xVar 1) (xC (.int 5))) (xCons (xOp (ixX tN) (xVar 1) (xC (.int 6))) xNil)))) [1]))
def f__law_seen : Fn := mkFn 1 2 c__law_seen
def b_law_1 : Sx :=
    (cSeq (cIf (xBl (xOp neW (xCall f__law_told (xCons (xVar 6) (xCons (xVar 6) (xCons (xVar 6) xNil)))) (xLst (xCons (xC (.str [97, 114, 103, 117, 109, 101, 110, 116])) (xCons (xVar 6) xNil))))) (cRet (xC (.bl false))) cNil)
    (cSeq (cIf (xBl (xOp neW (xCall f__law_told (xCons (xVar 5) (xCons (xVar 6) (xCons (xVar 6) xNil)))) (xLst (xCons (xC (.str [99, 101, 108, 108])) (xCons (xVar 6) xNil))))) (cRet (xC (.bl false))) cNil)
    (cSeq (cIf (xBl (xOp neW (xCall f__law_told (xCons (xVar 5) (xCons (xC (.str [99])) (xCons (xVar 6) xNil)))) (xLst (xCons (xC (.str [99, 101, 108, 108])) (xCons (xVar 6) xNil))))) (cRet (xC (.bl false))) cNil)
    (cIf (xBl (xOp neW (xCall f__law_told (xCons (xVar 5) (xCons (xC (.str [100])) (xCons (xC (.str [100])) xNil)))) (xLst (xCons (xC (.str [99, 101, 108, 108])) (xCons (xC (.str [100])) xNil))))) (cRet (xC (.bl false))) cNil))))
def r_law_2 : Sx :=
    (cSeq (cAsg (xCall f__law_writer (xCons (xC .non) xNil)) (gxName 5))
    (cFor (xItX (xLst (xCons (xC .non) (xCons (xC (.int 5)) (xCons (xC (.str [122, 122, 122])) (xCons (xLst (xCons (xC (.str [99])) xNil)) (xCons (xC (.str [])) xNil))))))) (gxName 6) b_law_1))
def g_law_3 : Sx :=
    cBlk [(cIf (xOrT (xTru (xCall f_is_torn (xCons (xCall f__law_back xNil) (xCons (xC (.str [99])) (xCons (xC (.str [100])) xNil))))) (xBl (xOp (inX tN true) (xTup (xCons (xC (.int 0)) (xCons (xC (.int 1)) (xCons (xC (.bl false)) xNil)))) (xCall f__law_seen (xCons (xCall f__law_back xNil) xNil))))) (cRet (xC (.bl false))) cNil)]
def r_law_4 : Sx :=
    (cSeq g_law_3 (cIso r_law_2))
def g_law_5 : Sx :=
    cBlk [(cIf (xBl (xOp (inX tN false) (xTup (xCons (xC (.int 1)) (xCons (xC (.int 0)) (xCons (xC (.bl false)) xNil)))) (xCall f__law_seen (xCons (xCall f__law_writer (xCons (xDic [((xTup (xCons (xC (.str [109, 97, 105, 110])) (xCons (xC (.int 1)) xNil))), (xC (.int 1)))]) xNil)) xNil)))) (cRet (xC (.bl false))) cNil)]
def r_law_6 : Sx :=
    (cSeq g_law_5 (cIso r_law_4))
def g_law_7 : Sx :=
    cBlk [(cIf (xTru (xCall f_is_torn (xCons (xCall f__law_writer (xCons (xC .non) xNil)) (xCons (xC (.str [99])) (xCons (xC (.str [100])) xNil))))) (cRet (xC (.bl false))) cNil)]
def r_law_8 : Sx :=
    (cSeq g_law_7 (cIso r_law_6))
def g_law_9 : Sx :=
    cBlk [(cAsg (xCall f__law_sorted (xCons (xLst (xCons (xTup (xCons (xC (.int 0)) (xCons (xC (.int 0)) (xCons (xC (.bl false)) xNil)))) (xCons (xTup (xCons (xC (.int 1)) (xCons (xC (.int 0)) (xCons (xC (.bl false)) xNil)))) (xCons (xTup (xCons (xC (.int 1)) (xCons (xC (.int 1)) (xCons (xC (.bl false)) xNil)))) xNil)))) xNil)) (gxName 4)),
    (cIf (xBl (xOp neW (xCall f__law_sorted (xCons (xCall f__law_seen (xCons (xCall f__law_writer (xCons (xC .non) xNil)) xNil)) xNil)) (xVar 4))) (cRet (xC (.bl false))) cNil)]
def r_law_10 : Sx :=
    (cSeq g_law_9 (cIso r_law_8))
def g_law_11 : Sx :=
    cBlk [(cIf (xTru (xCall f_is_torn (xCons (xCall f__law_reader (xCons (xDic [((xTup (xCons (xC (.str [109, 97, 105, 110])) (xCons (xC (.int 1)) xNil))), (xC (.int 1)))]) (xCons (xVar 3) xNil))) (xCons (xC (.str [99])) (xCons (xC (.str [100])) xNil))))) (cRet (xC (.bl false))) cNil)]
def r_law_12 : Sx :=
    (cSeq g_law_11 (cIso r_law_10))
def g_law_13 : Sx :=
    cBlk [(cIf (xBl (xOp neW (xCallB lenX (xCons (xCall f_torn_script (xCons (xCall f__law_reader (xCons (xC .non) (xCons (xVar 3) xNil))) (xCons (xC (.str [99])) (xCons (xC (.str [100])) xNil)))) xNil)) (xC (.int 6)))) (cRet (xC (.bl false))) cNil)]
def r_law_14 : Sx :=
    (cSeq g_law_13 (cIso r_law_12))
def g_law_15 : Sx :=
    cBlk [(cAsg (xCall f__law_sorted (xCons (xLst (xCons (xTup (xCons (xC (.int 0)) (xCons (xC (.int 0)) (xCons (xC (.bl false)) xNil)))) (xCons (xTup (xCons (xC (.int 0)) (xCons (xVar 3) (xCons (xC (.bl true)) xNil)))) (xCons (xTup (xCons (xVar 3) (xCons (xVar 3) (xCons (xC (.bl false)) xNil)))) xNil)))) xNil)) (gxName 4)),
    (cIf (xBl (xOp neW (xCall f__law_sorted (xCons (xCall f__law_seen (xCons (xCall f__law_reader (xCons (xC .non) (xCons (xVar 3) xNil))) xNil)) xNil)) (xVar 4))) (cRet (xC (.bl false))) cNil)]
def r_law_16 : Sx :=
    (cSeq g_law_15 (cIso r_law_14))
def g_law_17 : Sx :=
    cBlk [(cAsg (xCall f__law_opened (xCons (xVar 0) (xCons (xVar 1) (xCons (xC (.int 4)) xNil)))) (gxName 2)),
    (cAsg (xOp addW (xC (.int 1)) (xCall f__law_draw (xCons (xVar 2) (xCons (xC (.int 5)) xNil)))) (gxName 3))]
def r_law_18 : Sx :=
    (cSeq g_law_17 (cIso r_law_16))
def b_law_19 : Sx :=
    (cIso r_law_18)
def c_law : Sx :=
    (cSeq (cFor (xRng1 (xCons (xCallB max2W (xCons (xC (.int 1)) (xCons (xCallB min2W (xCons (xCallB lenX (xCons (xVar 0) xNil)) (xCons (xC (.int 4)) xNil))) xNil))) xNil)) (gxName 1) b_law_19)
    (cRet (xC (.bl true))))
def f_law : Fn := mkFn 1 7 c_law
/-! ### what the top has left -/
structure Txt (K : PySem.W.Frag) (mg : Str → Option Value) (w : World) where
  is_integer : DefX K "is_integer" "is_integer" s_is_integer ["value"] []
  g_is_integer : mg "is_integer" = some (.ref is_integer.f)
  is_word : DefX K "is_word" "is_word" s_is_word ["value"] []
  g_is_word : mg "is_word" = some (.ref is_word.f)
  has_ring : DefX K "has_ring" "has_ring" s_has_ring ["lists"] []
  g_has_ring : mg "has_ring" = some (.ref has_ring.f)
  Program_spots : DefX K "spots" "Program.spots" s_Program_spots ["self"] []
  Program_levels : DefX K "levels" "Program.levels" s_Program_levels ["self"] []
  Program_size : DefX K "size" "Program.size" s_Program_size ["self"] []
  Program_main : DefX K "main" "Program.main" s_Program_main ["self"] []
  Program_cells : DefX K "cells" "Program.cells" s_Program_cells ["self"] []
  Program_first_store : DefX K "first_store" "Program.first_store" s_Program_first_store ["self"] []
  check_program : DefX K "check_program" "check_program" s_check_program ["program"] []
  g_check_program : mg "check_program" = some (.ref check_program.f)
  callee_at : DefX K "callee_at" "callee_at" s_callee_at ["program", "procedure", "point"] []
  g_callee_at : mg "callee_at" = some (.ref callee_at.f)
  at_cell : DefX K "at_cell" "at_cell" s_at_cell ["program", "cell"] []
  g_at_cell : mg "at_cell" = some (.ref at_cell.f)
  at_section : DefX K "at_section" "at_section" s_at_section ["program", "section"] []
  g_at_section : mg "at_section" = some (.ref at_section.f)
  put_in : DefX K "put_in" "put_in" s_put_in ["store", "place", "value"] []
  g_put_in : mg "put_in" = some (.ref put_in.f)
  place_in : DefX K "place_in" "place_in" s_place_in ["state"] []
  g_place_in : mg "place_in" = some (.ref place_in.f)
  frames_in : DefX K "frames_in" "frames_in" s_frames_in ["state"] []
  g_frames_in : mg "frames_in" = some (.ref frames_in.f)
  begin_line : DefX K "begin_line" "begin_line" s_begin_line ["program", "state", "line"] []
  g_begin_line : mg "begin_line" = some (.ref begin_line.f)
  come_back : DefX K "come_back" "come_back" s_come_back ["state"] []
  g_come_back : mg "come_back" = some (.ref come_back.f)
  with_frames : DefX K "with_frames" "with_frames" s_with_frames ["state", "store", "mask", "frames"] []
  g_with_frames : mg "with_frames" = some (.ref with_frames.f)
  Watch_noted : DefX K "noted" "Watch.noted" s_Watch_noted ["self", "note", "store"] []
  Watch_script : DefX K "script" "Watch.script" s_Watch_script ["self", "found"] []
  _law_numbers : DefX K "_law_numbers" "_law_numbers" s__law_numbers ["_law_cell", "_law_salt", "_law_sizes"] []
  g__law_numbers : mg "_law_numbers" = some (.ref _law_numbers.f)
  _law_draw : DefX K "_law_draw" "_law_draw" s__law_draw ["_law_pool_here", "_law_many"] []
  g__law_draw : mg "_law_draw" = some (.ref _law_draw.f)
  is_within : DefX K "is_within" "is_within" s_is_within ["value", "least", "most"] []
  g_is_within : mg "is_within" = some (.ref is_within.f)
  are_words : DefX K "are_words" "are_words" s_are_words ["value", "least", "most"] []
  g_are_words : mg "are_words" = some (.ref are_words.f)
  Program___contains__ : DefX K "__contains__" "Program.__contains__" s_Program___contains__ ["self", "procedure"] []
  points_behind : DefX K "points_behind" "points_behind" s_points_behind ["program", "row", "point", "store"] []
  g_points_behind : mg "points_behind" = some (.ref points_behind.f)
  is_resting : DefX K "is_resting" "is_resting" s_is_resting ["program", "state"] []
  g_is_resting : mg "is_resting" = some (.ref is_resting.f)
  check_cells : DefX K "check_cells" "check_cells" s_check_cells ["program", "one", "other"] []
  g_check_cells : mg "check_cells" = some (.ref check_cells.f)
  _law_pool : DefX K "_law_pool" "_law_pool" s__law_pool ["_law_cell", "_law_salt", "_law_many"] []
  g__law_pool : mg "_law_pool" = some (.ref _law_pool.f)
  is_sign_part : DefX K "is_sign_part" "is_sign_part" s_is_sign_part ["program", "sign", "value", "many"] []
  g_is_sign_part : mg "is_sign_part" = some (.ref is_sign_part.f)
  Program_is_served : DefX K "is_served" "Program.is_served" s_Program_is_served ["self", "value"] []
  Program_is_spot : DefX K "is_spot" "Program.is_spot" s_Program_is_spot ["self", "value"] []
  serving : DefX K "serving" "serving" s_serving ["program", "procedure", "point", "mask"] []
  g_serving : mg "serving" = some (.ref serving.f)
  changed_store : DefX K "changed_store" "changed_store" s_changed_store ["program", "row", "store"] []
  g_changed_store : mg "changed_store" = some (.ref changed_store.f)
  masked_by : DefX K "masked_by" "masked_by" s_masked_by ["program", "row", "kept", "store", "mask", "floor"] []
  g_masked_by : mg "masked_by" = some (.ref masked_by.f)
  first_state : DefX K "first_state" "first_state" s_first_state ["program"] []
  g_first_state : mg "first_state" = some (.ref first_state.f)
  _law_opened : DefX K "_law_opened" "_law_opened" s__law_opened ["_law_script", "_law_k", "_law_many"] []
  g__law_opened : mg "_law_opened" = some (.ref _law_opened.f)
  is_row : DefX K "is_row" "is_row" s_is_row ["program", "value", "many"] []
  g_is_row : mg "is_row" = some (.ref is_row.f)
  sections_of : DefX K "sections_of" "sections_of" s_sections_of ["lists"] []
  g_sections_of : mg "sections_of" = some (.ref sections_of.f)
  Program_are_guards : DefX K "are_guards" "Program.are_guards" s_Program_are_guards ["self", "value"] []
  Program___getitem__ : DefX K "__getitem__" "Program.__getitem__" s_Program___getitem__ ["self", "procedure"] []
  row_ways : DefX K "row_ways" "row_ways" s_row_ways ["program", "procedure", "point", "kept", "store", "mask", "floor"] []
  g_row_ways : mg "row_ways" = some (.ref row_ways.f)
  in_order : DefX K "in_order" "in_order" s_in_order ["items"] []
  g_in_order : mg "in_order" = some (.ref in_order.f)
  _law_sorted : DefX K "_law_sorted" "_law_sorted" s__law_sorted ["_law_some"] []
  g__law_sorted : mg "_law_sorted" = some (.ref _law_sorted.f)
  Program_keep_rows : DefX K "keep_rows" "Program.keep_rows" s_Program_keep_rows ["self", "procedures"] []
  rows_behind : DefX K "rows_behind" "rows_behind" s_rows_behind ["program", "state"] []
  g_rows_behind : mg "rows_behind" = some (.ref rows_behind.f)
  Program___init__ : DefX K "__init__" "Program.__init__" s_Program___init__ ["self", "levels", "size", "start", "procedures", "lines", "main", "guards"] [.str "main", .non]
  z_Program___init___2 : DflX K Program___init__.fd ["self", "levels", "size", "start", "procedures", "lines", "main", "guards"] [.str "main", .non]
  all_moves : DefX K "all_moves" "all_moves" s_all_moves ["program", "state"] []
  g_all_moves : mg "all_moves" = some (.ref all_moves.f)
  Watch_row_in : DefX K "row_in" "Watch.row_in" s_Watch_row_in ["self", "state"] []
  Watch_looked : DefX K "looked" "Watch.looked" s_Watch_looked ["self", "state", "notes"] []
  Watch_sight_at : DefX K "sight_at" "Watch.sight_at" s_Watch_sight_at ["self", "state", "notes"] []
  Watch_behind : DefX K "behind" "Watch.behind" s_Watch_behind ["self", "state", "notes", "move", "later"] []
  _law_reader : DefX K "_law_reader" "_law_reader" s__law_reader ["_law_guards", "_law_first"] []
  g__law_reader : mg "_law_reader" = some (.ref _law_reader.f)
  _law_writer : DefX K "_law_writer" "_law_writer" s__law_writer ["_law_guards"] []
  g__law_writer : mg "_law_writer" = some (.ref _law_writer.f)
  _law_back : DefX K "_law_back" "_law_back" s__law_back [] []
  g__law_back : mg "_law_back" = some (.ref _law_back.f)
  Watch_find_all : DefX K "find_all" "Watch.find_all" s_Watch_find_all ["self", "queue"] []
  Watch___init__ : DefX K "__init__" "Watch.__init__" s_Watch___init__ ["self", "program", "one", "other"] []
  pair_sights : DefX K "pair_sights" "pair_sights" s_pair_sights ["program", "one", "other"] []
  g_pair_sights : mg "pair_sights" = some (.ref pair_sights.f)
  torn_script : DefX K "torn_script" "torn_script" s_torn_script ["program", "one", "other"] []
  g_torn_script : mg "torn_script" = some (.ref torn_script.f)
  is_torn : DefX K "is_torn" "is_torn" s_is_torn ["program", "one", "other"] []
  g_is_torn : mg "is_torn" = some (.ref is_torn.f)
  _law_told : DefX K "_law_told" "_law_told" s__law_told ["_law_program", "_law_one", "_law_other"] []
  g__law_told : mg "_law_told" = some (.ref _law_told.f)
  _law_seen : DefX K "_law_seen" "_law_seen" s__law_seen ["_law_program"] []
  g__law_seen : mg "_law_seen" = some (.ref _law_seen.f)
  law : DefX K "law" "law" s_law ["_law_script"] []
  g_law : mg "law" = some (.ref law.f)
  C : Nat → Addr
  c_LevelError : mg "LevelError" = some (.ref (C 0))
  c_BadArgument : mg "BadArgument" = some (.ref (C 1))
  c_BadProgram : mg "BadProgram" = some (.ref (C 2))
  c_BadProcedure : mg "BadProcedure" = some (.ref (C 3))
  c_BadCell : mg "BadCell" = some (.ref (C 4))
  c_Program : mg "Program" = some (.ref (C 5))
  c_Watch : mg "Watch" = some (.ref (C 6))
  tab : CTab K C nCls mroT (fun k => exL.getD k false)
  xA : ∀ k, exB k = true → XCls K (C k)
  ck : CkOk K C ckT
  i_1 : XIni K (C 1) "value"
  i_2 : XIni K (C 2) "part"
  i_3 : XIni K (C 3) "value"
  i_4 : XIni K (C 4) "value"
  x_value : ∀ k, [1, 3, 4].contains k = true → XCls K (C k) ∧ PySem.W.findIn K (.ref (C k)) "value" = some none
  i_Program : IClsX K (C 5)
  i_Watch : IClsX K (C 6)
  fl_at_one : ∀ k, [6].contains k = true → Cls K (C k) ∧ NoAttr K (C k) "at_one"
  fl_at_other : ∀ k, [6].contains k = true → Cls K (C k) ∧ NoAttr K (C k) "at_other"
  fl_firsts : ∀ k, [5].contains k = true → Cls K (C k) ∧ NoAttr K (C k) "firsts"
  fl_known : ∀ k, [6].contains k = true → Cls K (C k) ∧ NoAttr K (C k) "known"
  fl_lists : ∀ k, [5].contains k = true → Cls K (C k) ∧ NoAttr K (C k) "lists"
  fl_one : ∀ k, [6].contains k = true → Cls K (C k) ∧ NoAttr K (C k) "one"
  fl_other : ∀ k, [6].contains k = true → Cls K (C k) ∧ NoAttr K (C k) "other"
  fl_own_guards : ∀ k, [5].contains k = true → Cls K (C k) ∧ NoAttr K (C k) "own_guards"
  fl_own_levels : ∀ k, [5].contains k = true → Cls K (C k) ∧ NoAttr K (C k) "own_levels"
  fl_own_lines : ∀ k, [5].contains k = true → Cls K (C k) ∧ NoAttr K (C k) "own_lines"
  fl_own_main : ∀ k, [5].contains k = true → Cls K (C k) ∧ NoAttr K (C k) "own_main"
  fl_own_sections : ∀ k, [5].contains k = true → Cls K (C k) ∧ NoAttr K (C k) "own_sections"
  fl_own_size : ∀ k, [5].contains k = true → Cls K (C k) ∧ NoAttr K (C k) "own_size"
  fl_seen : ∀ k, [6].contains k = true → Cls K (C k) ∧ NoAttr K (C k) "seen"
  fl_source : ∀ k, [6].contains k = true → Cls K (C k) ∧ NoAttr K (C k) "source"
  mk_Program : Mk K (C 5) Program___init__.f
  mk_Watch : Mk K (C 6) Watch___init__.f
  m_Program___contains__ : Meth K (C 5) "__contains__" Program___contains__.f
  m_Program___getitem__ : Meth K (C 5) "__getitem__" Program___getitem__.f
  w_Program___getitem__ : PySem.W.fnIn K Program___getitem__.f = true
  m_Program_are_guards : Meth K (C 5) "are_guards" Program_are_guards.f
  m_Program_cells : Meth K (C 5) "cells" Program_cells.f
  m_Program_first_store : Meth K (C 5) "first_store" Program_first_store.f
  m_Program_is_served : Meth K (C 5) "is_served" Program_is_served.f
  m_Program_is_spot : Meth K (C 5) "is_spot" Program_is_spot.f
  m_Program_keep_rows : Meth K (C 5) "keep_rows" Program_keep_rows.f
  m_Program_spots : Meth K (C 5) "spots" Program_spots.f
  m_Watch_behind : Meth K (C 6) "behind" Watch_behind.f
  m_Watch_find_all : Meth K (C 6) "find_all" Watch_find_all.f
  m_Watch_looked : Meth K (C 6) "looked" Watch_looked.f
  m_Watch_noted : Meth K (C 6) "noted" Watch_noted.f
  m_Watch_row_in : Meth K (C 6) "row_in" Watch_row_in.f
  m_Watch_script : Meth K (C 6) "script" Watch_script.f
  m_Watch_sight_at : Meth K (C 6) "sight_at" Watch_sight_at.f
  pp_Program_levels : Addr
  p_Program_levels : PropOf K (C 5) "levels" pp_Program_levels Program_levels.f
  pp_Program_main : Addr
  p_Program_main : PropOf K (C 5) "main" pp_Program_main Program_main.f
  pp_Program_size : Addr
  p_Program_size : PropOf K (C 5) "size" pp_Program_size Program_size.f
  b_all : mg "all" = none
  b_any : mg "any" = none
  b_bool : mg "bool" = none
  b_dict : mg "dict" = none
  b_int : mg "int" = none
  b_isinstance : mg "isinstance" = none
  b_len : mg "len" = none
  b_list : mg "list" = none
  b_max : mg "max" = none
  b_min : mg "min" = none
  b_range : mg "range" = none
  b_sorted : mg "sorted" = none
  b_str : mg "str" = none
  b_tuple : mg "tuple" = none
  b_zip : mg "zip" = none
  g_LETTERS : ∃ t, mg "LETTERS" = some (.str "abcdefghijklmnopqrstuvwxyz" t)
  g_MOST_CELLS : ∃ t, mg "MOST_CELLS" = some (.int 6 t)
  g_MOST_LETTERS : ∃ t, mg "MOST_LETTERS" = some (.int 8 t)
  g_MOST_LEVELS : ∃ t, mg "MOST_LEVELS" = some (.int 4 t)
  g_MOST_LINES : ∃ t, mg "MOST_LINES" = some (.int 6 t)
  g_MOST_PROCEDURES : ∃ t, mg "MOST_PROCEDURES" = some (.int 12 t)
  g_MOST_ROWS : ∃ t, mg "MOST_ROWS" = some (.int 24 t)
  g_MOST_SECTIONS : ∃ t, mg "MOST_SECTIONS" = some (.int 3 t)
  g_MOST_STORES : ∃ t, mg "MOST_STORES" = some (.int 256 t)
  g_MOST_VALUES : ∃ t, mg "MOST_VALUES" = some (.int 6 t)
  d_FORMS : Addr
  g_FORMS : mg "FORMS" = some (.ref d_FORMS)
  k_FORMS : TblK K w d_FORMS t_FORMS
  cs : List (Addr × Addr)
  tabs : List (Addr × Str)
  l_Program___init__ : LamAt cs tabs Program___init__.fd.code "Program.__init__"
  l_Program_keep_rows : LamAt cs tabs Program_keep_rows.fd.code "Program.keep_rows"
  l_sections_of : LamAt cs tabs sections_of.fd.code "sections_of"
  l_in_order : LamAt cs tabs in_order.fd.code "in_order"
  l__law_sorted : LamAt cs tabs _law_sorted.fd.code "_law_sorted"
abbrev ctx {K : PySem.W.Frag} {mg : Str → Option Value} {w : World} (P : Program) (T : Txt K mg w) : CTx := ⟨T.C, P, w, T.tabs⟩
theorem zr_Program___init___2 {K : PySem.W.Frag} {CT : CTx} : ∀ (ρ : Nat → Addr) (n : Nat) (H : Hp), Reps K CT ρ n H [.str [109, 97, 105, 110], .non] [.str "main", .non] := fun _ _ _ => (.cons (rep_str "main" (by decide)) (.cons .non .nil))
section
variable {P : Program} {w : World} {K : PySem.W.Frag} {mg : Str → Option Value} {base : Heap} (T : Txt K mg w) (TB : ∀ p ∈ T.cs, LamX.TabB base mg p.1 p.2)
include TB
theorem G_is_integer : FnG P w K mg base 1 T.is_integer.f T.is_integer.fd ["value"] (spOf K (ctx P T) f_is_integer) :=
  fn_okG (k := 0) T.is_integer.F sc_is_integer fun A outer s H E X hX hG hr tk po =>
    (ss_one (s_ret (se_and (se_bX (cx_isX T.tab T.ck rfl rfl) (by rfl) T.b_isinstance (by decide +kernel) (sa_cons (se_var (pv 0)) (sa_cons (se_ty (t := .int) (by rfl) T.b_int (by decide +kernel)) sa_nil))) (se_one (se_not (se_bX (cx_isX T.tab T.ck rfl rfl) (by rfl) T.b_isinstance (by decide +kernel) (sa_cons (se_var (pv 0)) (sa_cons (se_ty (t := .bool) (by rfl) T.b_bool (by decide +kernel)) sa_nil))))))))
theorem G_is_word : FnG P w K mg base 1 T.is_word.f T.is_word.fd ["value"] (spOf K (ctx P T) f_is_word) :=
  fn_okG (k := 0) T.is_word.F sc_is_word fun A outer s H E X hX hG hr tk po =>
    (ss_cons (s_if (st_w (sw_or (st_not (st_tru (se_bX (cx_isX T.tab T.ck rfl rfl) (by rfl) T.b_isinstance (by decide +kernel) (sa_cons (se_var (pv 0)) (sa_cons (se_ty (t := .str) (by rfl) T.b_str (by decide +kernel)) sa_nil))))) (sw_or1 (st_not (st_chain op_le os_le op_le os_le se_int (se_bX (cx_len rfl rfl) (by rfl) T.b_len (by decide +kernel) (sa_cons (se_var (pv 0)) sa_nil)) (se_gint (by rfl) T.g_MOST_LETTERS)))))) (ss_one (s_ret se_bl)) ss_nil)
    (ss_one (s_ret (se_callB (cr_all rfl) cs_all (by rfl) T.b_all (by decide +kernel) (sa_cons (se_lock (c := (xVar 0)) (se_lc (own := [("sign", 1)]) rfl sc_is_word.nd (si_anyX rfl rfl (se_var (pv 0))) (blkOk_by (own := [("sign", 1)]) (N := ["value", "sign"]) (sc := defScope s_is_word) (by decide +kernel)) (fun _ _ _ _ _ => (sg_name (pg_name (i := 1) sc_is_word.nd rfl (.inl rfl)))) (fun _ _ _ _ _ => sts_nil) (fun _ _ _ _ _ => (se_cmp (or_inA (T := tN) hG (units65 hr)) (os_inA (T := tN) rfl rfl no_tbl) (se_var (pv 1)) (se_gstr (by rfl) T.g_LETTERS) (by rfl))))) sa_nil)))))
theorem G_has_ring : FnG P w K mg base 1 T.has_ring.f T.has_ring.fd ["lists"] (spOf K (ctx P T) f_has_ring) :=
  fn_okG (k := 0) T.has_ring.F sc_has_ring fun A outer s H E X hX hG hr tk po =>
    (ss_cons (s_set (i := 1) sc_has_ring.nd rfl (.inr rfl) (se_lock (c := (xVar 0)) (se_dc (own := [("word", 3)]) rfl rfl (units65 hr) rfl sc_has_ring.nd (si_anyX rfl rfl (se_var (pv 0))) (blkOk_by (own := [("word", 3)]) (N := ["lists", "left", "row", "word", "done", "called"]) (sc := defScope s_has_ring) (by decide +kernel)) (fun _ _ _ _ _ => (sg_name (pg_name (i := 3) sc_has_ring.nd rfl (.inl rfl)))) (fun _ _ _ _ _ => sts_nil) (fun _ _ _ _ _ => (se_var (pv 3))) (fun _ _ _ _ _ => (se_lc (own := [("row", 2)]) rfl sc_has_ring.nd (si_anyX rfl rfl (se_ixX (T := tN) rfl rfl no_get hG (units65 hr) takes_none5 (se_var (pv 0)) (se_var (pv 3)) (fun _ _ => rfl) (fun _ _ => rfl))) (blkOk_in (own := [("row", 2)]) (N := ["lists", "left", "row", "word", "done", "called"]) (sc0 := defScope s_has_ring) rfl (by decide +kernel)) (fun _ _ _ _ _ => (sg_name (pg_name (i := 2) sc_has_ring.nd rfl (.inl rfl)))) (fun _ _ _ _ _ => (sts_one (st_cmp (or_eq hr.units) os_eq (se_ixX (T := tN) rfl rfl no_get hG (units65 hr) takes_none5 (se_var (pv 2)) se_int (fun _ _ => rfl) (fun _ _ => rfl)) se_str (nomark _)))) (fun _ _ _ _ _ => (se_ixX (T := tN) rfl rfl no_get hG (units65 hr) takes_none5 (se_var (pv 2)) se_int (fun _ _ => rfl) (fun _ _ => rfl))))))))
    (ss_cons (s_while po (st_tru (se_var (pv 1)))
    (ss_cons (s_set (i := 4) sc_has_ring.nd rfl (.inr rfl) (se_lock (c := (xVar 1)) (se_lc (own := [("word", 3)]) rfl sc_has_ring.nd (si_anyX rfl rfl (se_var (pv 1))) (blkOk_by (own := [("word", 3)]) (N := ["lists", "left", "row", "word", "done", "called"]) (sc := defScope s_has_ring) (by decide +kernel)) (fun _ _ _ _ _ => (sg_name (pg_name (i := 3) sc_has_ring.nd rfl (.inl rfl)))) (fun _ _ _ _ _ => (sts_one (st_not (st_tru (se_callB (cr_any rfl) cs_any (by rfl) T.b_any (by decide +kernel) (sa_cons (se_lc (own := [("called", 5)]) rfl sc_has_ring.nd (si_anyX rfl rfl (se_ixX (T := tN) rfl rfl no_get hG (units65 hr) takes_none5 (se_var (pv 1)) (se_var (pv 3)) (fun _ _ => rfl) (fun _ _ => rfl))) (blkOk_in (own := [("called", 5)]) (N := ["lists", "left", "row", "word", "done", "called"]) (sc0 := defScope s_has_ring) rfl (by decide +kernel)) (fun _ _ _ _ _ => (sg_name (pg_name (i := 5) sc_has_ring.nd rfl (.inl rfl)))) (fun _ _ _ _ _ => sts_nil) (fun _ _ _ _ _ => (se_cmp (or_inA (T := tN) hG (units65 hr)) (os_inA (T := tN) rfl rfl no_tbl) (se_var (pv 5)) (se_var (pv 1)) (by rfl)))) sa_nil)))))) (fun _ _ _ _ _ => (se_var (pv 3))))))
    (ss_cons (s_if (st_cmp (or_eq hr.units) os_eq (se_var (pv 4)) (se_lst sa_nil) (nomark _)) (ss_one (s_ret se_bl)) ss_nil)
    (ss_one (s_set (i := 1) sc_has_ring.nd rfl (.inr rfl) (se_lock (c := (xVar 1)) (se_dc (own := [("word", 3)]) rfl rfl (units65 hr) rfl sc_has_ring.nd (si_anyX rfl rfl (se_var (pv 1))) (blkOk_by (own := [("word", 3)]) (N := ["lists", "left", "row", "word", "done", "called"]) (sc := defScope s_has_ring) (by decide +kernel)) (fun _ _ _ _ _ => (sg_name (pg_name (i := 3) sc_has_ring.nd rfl (.inl rfl)))) (fun _ _ _ _ _ => (sts_one (st_cmp (or_notInA (T := tN) hG (units65 hr)) (os_notInA (T := tN) rfl rfl no_tbl) (se_var (pv 3)) (se_var (pv 4)) (by rfl)))) (fun _ _ _ _ _ => (se_var (pv 3))) (fun _ _ _ _ _ => (se_ixX (T := tN) rfl rfl no_get hG (units65 hr) takes_none5 (se_var (pv 1)) (se_var (pv 3)) (fun _ _ => rfl) (fun _ _ => rfl))))))))))
    (ss_one (s_ret se_bl))))
theorem G_Program_spots : FnG P w K mg base 1 T.Program_spots.f T.Program_spots.fd ["self"] (spOf K (ctx P T) f_Program_spots) :=
  fn_okG (k := 0) T.Program_spots.F sc_Program_spots fun A outer s H E X hX hG hr tk po =>
    (ss_one (s_ret (se_lock (c := (xUn (insW (fun k => [5].contains k) 465625642099) (xVar 0))) (se_lc2 (own := [("word", 1), ("point", 2)]) (vs1 := [2]) rfl sc_Program_spots.nd (si_anyX rfl rfl (se_ifld n_lists T.fl_lists (se_var (pv 0)))) (blkOk_by (own := [("word", 1), ("point", 2)]) (N := ["self", "word", "point"]) (sc := defScope s_Program_spots) (by decide +kernel)) (by decide) (fun _ _ _ _ _ => (sg_name (pg_name (i := 1) sc_Program_spots.nd rfl (.inl rfl)))) (fun _ _ _ _ _ => sts_nil) (fun _ _ _ _ _ => (si_range1 (by rfl) T.b_range (sa_cons (se_op or_add os_add (se_bX (cx_len rfl rfl) (by rfl) T.b_len (by decide +kernel) (sa_cons (se_ixX (T := tN) rfl rfl no_get hG (units65 hr) takes_none5 (se_ifld n_lists T.fl_lists (se_var (pv 0))) (se_var (pv 1)) (fun _ _ => rfl) (fun _ _ => rfl)) sa_nil)) se_int) sa_nil))) (fun _ _ _ _ _ => (sg_name (pg_name (i := 2) sc_Program_spots.nd rfl (.inl rfl)))) (fun _ _ _ _ _ => sts_nil) (fun _ _ _ _ _ => (se_tup (sa_cons (se_var (pv 1)) (sa_cons (se_var (pv 2)) sa_nil))))))))
theorem G_Program_levels : FnG P w K mg base 1 T.Program_levels.f T.Program_levels.fd ["self"] (spOf K (ctx P T) f_Program_levels) :=
  fn_okG (k := 0) T.Program_levels.F sc_Program_levels fun A outer s H E X hX hG hr tk po =>
    (ss_one (s_ret (se_ifld n_own_levels T.fl_own_levels (se_var (pv 0)))))
theorem G_Program_size : FnG P w K mg base 1 T.Program_size.f T.Program_size.fd ["self"] (spOf K (ctx P T) f_Program_size) :=
  fn_okG (k := 0) T.Program_size.F sc_Program_size fun A outer s H E X hX hG hr tk po =>
    (ss_one (s_ret (se_ifld n_own_size T.fl_own_size (se_var (pv 0)))))
theorem G_Program_main : FnG P w K mg base 1 T.Program_main.f T.Program_main.fd ["self"] (spOf K (ctx P T) f_Program_main) :=
  fn_okG (k := 0) T.Program_main.F sc_Program_main fun A outer s H E X hX hG hr tk po =>
    (ss_one (s_ret (se_ifld n_own_main T.fl_own_main (se_var (pv 0)))))
theorem G_Program_cells : FnG P w K mg base 1 T.Program_cells.f T.Program_cells.fd ["self"] (spOf K (ctx P T) f_Program_cells) :=
  fn_okG (k := 0) T.Program_cells.F sc_Program_cells fun A outer s H E X hX hG hr tk po =>
    (ss_one (s_ret (se_tX (cx_list rfl rfl hr.hd) (by rfl) T.b_list (by decide +kernel) (sa_cons (se_ifld n_firsts T.fl_firsts (se_var (pv 0))) sa_nil))))
theorem G_Program_first_store : FnG P w K mg base 1 T.Program_first_store.f T.Program_first_store.fd ["self"] (spOf K (ctx P T) f_Program_first_store) :=
  fn_okG (k := 0) T.Program_first_store.F sc_Program_first_store fun A outer s H E X hX hG hr tk po =>
    (ss_one (s_ret (se_tup (sa_starV hr.hd (se_ifld n_firsts T.fl_firsts (se_var (pv 0))) (sa_star (se_lock (c := (xUn (insW (fun k => [5].contains k) 34497219483772407802267397747) (xVar 0))) (se_lc (own := [("section", 1)]) rfl sc_Program_first_store.nd (si_anyX rfl rfl (se_ifld n_own_sections T.fl_own_sections (se_var (pv 0)))) (blkOk_by (own := [("section", 1)]) (N := ["self", "section"]) (sc := defScope s_Program_first_store) (by decide +kernel)) (fun _ _ _ _ _ => (sg_name (pg_name (i := 1) sc_Program_first_store.nd rfl (.inl rfl)))) (fun _ _ _ _ _ => sts_nil) (fun _ _ _ _ _ => se_int))) sa_nil)))))
theorem G_check_program : FnG P w K mg base 1 T.check_program.f T.check_program.fd ["program"] (spOf K (ctx P T) f_check_program) :=
  fn_okG (k := 0) T.check_program.F sc_check_program fun A outer s H E X hX hG hr tk po =>
    (ss_one (s_if (st_not (st_tru (se_bX (cx_isX T.tab T.ck rfl rfl) (by rfl) T.b_isinstance (by decide +kernel) (sa_cons (se_var (pv 0)) (sa_cons (se_cl (k := 5) (by rfl) T.c_Program) sa_nil))))) (ss_one (s_raise (k := 1) rfl (T.xA 1 (by decide)) T.i_1 hr tk (by rfl) T.c_BadArgument (sa_cons (se_var (pv 0)) sa_nil))) ss_nil))
theorem G_callee_at : FnG P w K mg base 1 T.callee_at.f T.callee_at.fd ["program", "procedure", "point"] (spOf K (ctx P T) f_callee_at) :=
  fn_okG (k := 0) T.callee_at.F sc_callee_at fun A outer s H E X hX hG hr tk po =>
    (ss_cons (s_set (i := 3) sc_callee_at.nd rfl (.inl rfl) (se_ixX (T := tN) rfl rfl no_get hG (units65 hr) tk (se_ifld n_lists T.fl_lists (se_var (pv 0))) (se_var (pv 1)) (fun _ _ => rfl) (fun _ _ => rfl)))
    (ss_one (s_ret (se_if (st_w (sw_and (st_cmp op_lt os_lt (se_var (pv 2)) (se_bX (cx_len rfl rfl) (by rfl) T.b_len (by decide +kernel) (sa_cons (se_var (pv 3)) sa_nil)) (nomark _)) (sw_and1 (st_cmp (or_eq hr.units) os_eq (se_ixX (T := tN) rfl rfl no_get hG (units65 hr) tk (se_ixX (T := tN) rfl rfl no_get hG (units65 hr) tk (se_var (pv 3)) (se_var (pv 2)) (fun _ _ => rfl) (fun _ _ => rfl)) se_int (fun _ _ => rfl) (fun _ _ => rfl)) se_str (nomark _))))) (se_ixX (T := tN) rfl rfl no_get hG (units65 hr) tk (se_ixX (T := tN) rfl rfl no_get hG (units65 hr) tk (se_var (pv 3)) (se_var (pv 2)) (fun _ _ => rfl) (fun _ _ => rfl)) se_int (fun _ _ => rfl) (fun _ _ => rfl)) se_non))))
theorem G_at_cell : FnG P w K mg base 1 T.at_cell.f T.at_cell.fd ["program", "cell"] (spOf K (ctx P T) f_at_cell) :=
  fn_okG (k := 0) T.at_cell.F sc_at_cell fun A outer s H E X hX hG hr tk po =>
    (ss_one (s_ret (se_bm (T := .list) (se_tX (cx_list rfl rfl hr.hd) (by rfl) T.b_list (by decide +kernel) (sa_cons (se_ifld n_firsts T.fl_firsts (se_var (pv 0))) sa_nil)) (sa_cons (se_var (pv 1)) sa_nil) ms_index (fun a b => pe_bm PySem.F.plainAttrs_list PySem.F.slot_list_index PySem.F.type_list_index mt_index a b))))
theorem G_at_section : FnG P w K mg base 1 T.at_section.f T.at_section.fd ["program", "section"] (spOf K (ctx P T) f_at_section) :=
  fn_okG (k := 0) T.at_section.F sc_at_section fun A outer s H E X hX hG hr tk po =>
    (ss_one (s_ret (se_op or_add os_add (se_bX (cx_len rfl rfl) (by rfl) T.b_len (by decide +kernel) (sa_cons (se_ifld n_firsts T.fl_firsts (se_var (pv 0))) sa_nil)) (se_bm (T := .list) (se_ifld n_own_sections T.fl_own_sections (se_var (pv 0))) (sa_cons (se_var (pv 1)) sa_nil) ms_index (fun a b => pe_bm PySem.F.plainAttrs_list PySem.F.slot_list_index PySem.F.type_list_index mt_index a b)))))
theorem G_put_in : FnG P w K mg base 1 T.put_in.f T.put_in.fd ["store", "place", "value"] (spOf K (ctx P T) f_put_in) :=
  fn_okG (k := 0) T.put_in.F sc_put_in fun A outer s H E X hX hG hr tk po =>
    (ss_one (s_ret (se_tup (sa_star (se_slice (se_var (pv 0)) so_no (so_yes (se_var (pv 1)))) (sa_cons (se_var (pv 2)) (sa_star (se_slice (se_var (pv 0)) (so_yes (se_op or_add os_add (se_var (pv 1)) se_int)) so_no) sa_nil))))))
theorem G_place_in : FnG P w K mg base 1 T.place_in.f T.place_in.fd ["state"] (spOf K (ctx P T) f_place_in) :=
  fn_okG (k := 0) T.place_in.F sc_place_in fun A outer s H E X hX hG hr tk po =>
    (ss_cons (s_asg (se_var (pv 0)) (sg_tup rfl (.cons (pg_name (i := 1) sc_place_in.nd rfl (.inl rfl)) (.cons (pg_name (i := 2) sc_place_in.nd rfl (.inl rfl)) (.cons (pg_name (i := 3) sc_place_in.nd rfl (.inl rfl)) .nil)))) (fun a b => ps_asg a b))
    (ss_cons (s_asg (se_ixX (T := tN) rfl rfl no_get hG (units65 hr) tk (se_var (pv 3)) (se_un un_neg us_neg se_int) (fun _ _ => rfl) (fun _ _ => rfl)) (sg_tup rfl (.cons (pg_name (i := 4) sc_place_in.nd rfl (.inl rfl)) (.cons (pg_name (i := 5) sc_place_in.nd rfl (.inl rfl)) (.cons (pg_name (i := 6) sc_place_in.nd rfl (.inl rfl)) .nil)))) (fun a b => ps_asg a b))
    (ss_one (s_ret (se_tup (sa_star (se_ixX (T := tN) rfl rfl no_get hG (units65 hr) tk (se_var (pv 6)) (se_un un_neg us_neg se_int) (fun _ _ => rfl) (fun _ _ => rfl)) (sa_cons (se_var (pv 1)) (sa_cons (se_var (pv 2)) (sa_cons (se_var (pv 4)) sa_nil)))))))))
theorem G_frames_in : FnG P w K mg base 1 T.frames_in.f T.frames_in.fd ["state"] (spOf K (ctx P T) f_frames_in) :=
  fn_okG (k := 0) T.frames_in.F sc_frames_in fun A outer s H E X hX hG hr tk po =>
    (ss_one (s_ret (se_lc2 (own := [("floor", 1), ("below", 2), ("frames", 3), ("frame", 4)]) (vs1 := [4]) rfl sc_frames_in.nd (si_anyX rfl rfl (se_ixX (T := tN) rfl rfl no_get hG (units65 hr) tk (se_var (pv 0)) se_int (fun _ _ => rfl) (fun _ _ => rfl))) (blkOk_by (own := [("floor", 1), ("below", 2), ("frames", 3), ("frame", 4)]) (N := ["state", "floor", "below", "frames", "frame"]) (sc := defScope s_frames_in) (by decide +kernel)) (by decide) (fun _ _ _ _ _ => (sg_tup rfl (.cons (pg_name (i := 1) sc_frames_in.nd rfl (.inl rfl)) (.cons (pg_name (i := 2) sc_frames_in.nd rfl (.inl rfl)) (.cons (pg_name (i := 3) sc_frames_in.nd rfl (.inl rfl)) .nil))))) (fun _ _ _ _ _ => sts_nil) (fun _ _ _ _ _ => (si_anyX rfl rfl (se_var (pv 3)))) (fun _ _ _ _ _ => (sg_name (pg_name (i := 4) sc_frames_in.nd rfl (.inl rfl)))) (fun _ _ _ _ _ => sts_nil) (fun _ _ _ _ _ => (se_var (pv 4))))))
theorem G_begin_line : FnG P w K mg base 1 T.begin_line.f T.begin_line.fd ["program", "state", "line"] (spOf K (ctx P T) f_begin_line) :=
  fn_okG (k := 0) T.begin_line.F sc_begin_line fun A outer s H E X hX hG hr tk po =>
    (ss_cons (s_asg (se_var (pv 1)) (sg_tup rfl (.cons (pg_name (i := 3) sc_begin_line.nd rfl (.inl rfl)) (.cons (pg_name (i := 4) sc_begin_line.nd rfl (.inl rfl)) (.cons (pg_name (i := 5) sc_begin_line.nd rfl (.inl rfl)) .nil)))) (fun a b => ps_asg a b))
    (ss_cons (s_asg (se_ixX (T := tN) rfl rfl no_get hG (units65 hr) tk (se_ifld n_own_lines T.fl_own_lines (se_var (pv 0))) (se_var (pv 2)) (fun _ _ => rfl) (fun _ _ => rfl)) (sg_tup rfl (.cons (pg_name (i := 6) sc_begin_line.nd rfl (.inl rfl)) (.cons (pg_name (i := 7) sc_begin_line.nd rfl (.inl rfl)) .nil))) (fun a b => ps_asg a b))
    (ss_one (s_ret (se_tup (sa_cons (se_var (pv 3)) (sa_cons (se_var (pv 6)) (sa_cons (se_tup (sa_star (se_var (pv 5)) (sa_cons (se_tup (sa_cons (se_var (pv 6)) (sa_cons (se_var (pv 4)) (sa_cons (se_tup (sa_cons (se_tup (sa_cons (se_var (pv 7)) (sa_cons se_int (sa_cons se_int sa_nil)))) sa_nil)) sa_nil)))) sa_nil))) sa_nil))))))))
theorem G_come_back : FnG P w K mg base 1 T.come_back.f T.come_back.fd ["state"] (spOf K (ctx P T) f_come_back) :=
  fn_okG (k := 0) T.come_back.F sc_come_back fun A outer s H E X hX hG hr tk po =>
    (ss_cons (s_asg (se_var (pv 0)) (sg_tup rfl (.cons (pg_name (i := 1) sc_come_back.nd rfl (.inl rfl)) (.cons (pg_name (i := 2) sc_come_back.nd rfl (.inl rfl)) (.cons (pg_name (i := 3) sc_come_back.nd rfl (.inl rfl)) .nil)))) (fun a b => ps_asg a b))
    (ss_cons (s_asg (se_ixX (T := tN) rfl rfl no_get hG (units65 hr) tk (se_var (pv 3)) (se_un un_neg us_neg se_int) (fun _ _ => rfl) (fun _ _ => rfl)) (sg_tup rfl (.cons (pg_name (i := 4) sc_come_back.nd rfl (.inl rfl)) (.cons (pg_name (i := 5) sc_come_back.nd rfl (.inl rfl)) (.cons (pg_name (i := 6) sc_come_back.nd rfl (.inl rfl)) .nil)))) (fun a b => ps_asg a b))
    (ss_cons (s_if (st_cmp op_gt os_gt (se_bX (cx_len rfl rfl) (by rfl) T.b_len (by decide +kernel) (sa_cons (se_var (pv 6)) sa_nil)) se_int (nomark _)) (ss_one (s_ret (se_tup (sa_cons (se_var (pv 1)) (sa_cons (se_var (pv 2)) (sa_cons (se_tup (sa_star (se_slice (se_var (pv 3)) so_no (so_yes (se_un un_neg us_neg se_int))) (sa_cons (se_tup (sa_cons (se_var (pv 4)) (sa_cons (se_var (pv 5)) (sa_cons (se_slice (se_var (pv 6)) so_no (so_yes (se_un un_neg us_neg se_int))) sa_nil)))) sa_nil))) sa_nil)))))) ss_nil)
    (ss_one (s_ret (se_tup (sa_cons (se_var (pv 1)) (sa_cons (se_var (pv 5)) (sa_cons (se_slice (se_var (pv 3)) so_no (so_yes (se_un un_neg us_neg se_int))) sa_nil)))))))))
theorem G_with_frames : FnG P w K mg base 1 T.with_frames.f T.with_frames.fd ["state", "store", "mask", "frames"] (spOf K (ctx P T) f_with_frames) :=
  fn_okG (k := 0) T.with_frames.F sc_with_frames fun A outer s H E X hX hG hr tk po =>
    (ss_cons (s_set (i := 4) sc_with_frames.nd rfl (.inl rfl) (se_ixX (T := tN) rfl rfl no_get hG (units65 hr) tk (se_var (pv 0)) se_int (fun _ _ => rfl) (fun _ _ => rfl)))
    (ss_cons (s_asg (se_ixX (T := tN) rfl rfl no_get hG (units65 hr) tk (se_var (pv 4)) (se_un un_neg us_neg se_int) (fun _ _ => rfl) (fun _ _ => rfl)) (sg_tup rfl (.cons (pg_name (i := 5) sc_with_frames.nd rfl (.inl rfl)) (.cons (pg_name (i := 6) sc_with_frames.nd rfl (.inl rfl)) (.cons (pg_name (i := 7) sc_with_frames.nd rfl (.inl rfl)) .nil)))) (fun a b => ps_asg a b))
    (ss_one (s_ret (se_tup (sa_cons (se_var (pv 1)) (sa_cons (se_var (pv 2)) (sa_cons (se_tup (sa_star (se_slice (se_var (pv 4)) so_no (so_yes (se_un un_neg us_neg se_int))) (sa_cons (se_tup (sa_cons (se_var (pv 5)) (sa_cons (se_var (pv 6)) (sa_cons (se_var (pv 3)) sa_nil)))) sa_nil))) sa_nil))))))))
theorem G_Watch_noted : FnG P w K mg base 1 T.Watch_noted.f T.Watch_noted.fd ["self", "note", "store"] (spOf K (ctx P T) f_Watch_noted) :=
  fn_okG (k := 0) T.Watch_noted.F sc_Watch_noted fun A outer s H E X hX hG hr tk po =>
    (ss_cons (s_if (st_w (sw_or (st_cmp or_is os_is (se_var (pv 1)) se_non (nomark _)) (sw_or (st_cmp (or_ne hr.units) os_ne (se_ixX (T := tN) rfl rfl no_get hG (units65 hr) tk (se_var (pv 2)) (se_ifld n_at_one T.fl_at_one (se_var (pv 0))) (fun _ _ => rfl) (fun _ _ => rfl)) (se_ixX (T := tN) rfl rfl no_get hG (units65 hr) tk (se_var (pv 1)) se_int (fun _ _ => rfl) (fun _ _ => rfl)) (nomark _)) (sw_or1 (st_cmp (or_inA (T := tN) hG (units65 hr)) (os_inA (T := tN) rfl rfl no_tbl) (se_ixX (T := tN) rfl rfl no_get hG (units65 hr) tk (se_var (pv 2)) (se_ifld n_at_other T.fl_at_other (se_var (pv 0))) (fun _ _ => rfl) (fun _ _ => rfl)) (se_ixX (T := tN) rfl rfl no_get hG (units65 hr) tk (se_var (pv 1)) se_int (fun _ _ => rfl) (fun _ _ => rfl)) (by rfl)))))) (ss_one (s_ret (se_var (pv 1)))) ss_nil)
    (ss_cons (s_set (i := 3) sc_Watch_noted.nd rfl (.inl rfl) (se_callB cr_sortedI cs_sortI (by rfl) T.b_sorted (by decide +kernel) (sa_cons (se_lc (own := [("value", 4)]) rfl sc_Watch_noted.nd (si_anyX rfl rfl (se_lst (sa_star (se_ixX (T := tN) rfl rfl no_get hG (units65 hr) tk (se_var (pv 1)) se_int (fun _ _ => rfl) (fun _ _ => rfl)) (sa_cons (se_ixX (T := tN) rfl rfl no_get hG (units65 hr) tk (se_var (pv 2)) (se_ifld n_at_other T.fl_at_other (se_var (pv 0))) (fun _ _ => rfl) (fun _ _ => rfl)) sa_nil)))) (blkOk_by (own := [("value", 4)]) (N := ["self", "note", "store", "values", "value"]) (sc := defScope s_Watch_noted) (by decide +kernel)) (fun _ _ _ _ _ => (sg_name (pg_name (i := 4) sc_Watch_noted.nd rfl (.inl rfl)))) (fun _ _ _ _ _ => sts_nil) (fun _ _ _ _ _ => (se_callTy call_int1 cs_int (by rfl) T.b_int (by decide +kernel) (sa_cons (se_var (pv 4)) sa_nil)))) sa_nil)))
    (ss_one (s_ret (se_tup (sa_star (se_slice (se_var (pv 1)) so_no (so_yes se_int)) (sa_cons (se_callTy call_tuple_of cs_tup (by rfl) T.b_tuple (by decide +kernel) (sa_cons (se_var (pv 3)) sa_nil)) sa_nil)))))))
theorem G_Watch_script : FnG P w K mg base 1 T.Watch_script.f T.Watch_script.fd ["self", "found"] (spOf K (ctx P T) f_Watch_script) :=
  fn_okG (k := 0) T.Watch_script.F sc_Watch_script fun A outer s H E X hX hG hr tk po =>
    (ss_cons (s_set (i := 2) sc_Watch_script.nd rfl (.inl rfl) (se_lst (sa_cons (se_tup (sa_cons se_str (sa_cons se_int sa_nil))) sa_nil)))
    (ss_cons (s_while po (st_cmp or_isnt os_isnt (se_ixX (T := tN) rfl rfl no_get hG (units65 hr) tk (se_ifld n_known T.fl_known (se_var (pv 0))) (se_var (pv 1)) (fun _ _ => rfl) (fun _ _ => rfl)) se_non (nomark _))
    (ss_cons (s_expr (se_bm (T := .list) (se_var (pv 2)) (sa_cons (se_ixX (T := tN) rfl rfl no_get hG (units65 hr) tk (se_ixX (T := tN) rfl rfl no_get hG (units65 hr) tk (se_ifld n_known T.fl_known (se_var (pv 0))) (se_var (pv 1)) (fun _ _ => rfl) (fun _ _ => rfl)) se_int (fun _ _ => rfl) (fun _ _ => rfl)) sa_nil) ms_append (fun a b => pe_bm PySem.F.plainAttrs_list PySem.F.slot_list_append PySem.F.type_list_append mt_append a b)))
    (ss_one (s_set (i := 1) sc_Watch_script.nd rfl (.inl rfl) (se_ixX (T := tN) rfl rfl no_get hG (units65 hr) tk (se_ixX (T := tN) rfl rfl no_get hG (units65 hr) tk (se_ifld n_known T.fl_known (se_var (pv 0))) (se_var (pv 1)) (fun _ _ => rfl) (fun _ _ => rfl)) se_int (fun _ _ => rfl) (fun _ _ => rfl))))))
    (ss_one (s_ret (se_rev (se_var (pv 2)))))))
theorem G__law_numbers : FnG P w K mg base 1 T._law_numbers.f T._law_numbers.fd ["_law_cell", "_law_salt", "_law_sizes"] (spOf K (ctx P T) f__law_numbers) :=
  fn_old (fn_okG (k := 0) T._law_numbers.F sc__law_numbers fun A outer s H E X hX hG hr tk po =>
    (ss_cons (s_set (i := 3) sc__law_numbers.nd rfl (.inl rfl) (se_callB (call_max2 rfl) cs_max2 (by rfl) T.b_max (by decide +kernel) (sa_cons (se_callTy call_int1 cs_int (by rfl) T.b_int (by decide +kernel) (sa_cons (se_var (pv 0)) sa_nil)) (sa_cons (se_callTy call_int1 cs_int (by rfl) T.b_int (by decide +kernel) (sa_cons (se_op op_sub os_sub (se_un un_neg us_neg se_int) (se_var (pv 0))) sa_nil)) sa_nil))))
    (ss_cons (s_set (i := 4) sc__law_numbers.nd rfl (.inl rfl) (se_var (pv 3)))
    (ss_cons (s_set (i := 5) sc__law_numbers.nd rfl (.inl rfl) (se_lst sa_nil))
    (ss_cons (s_for po rfl (si_range1 (by rfl) T.b_range (sa_cons (se_callB (callR_or call_len call_lenD) cs_len (by rfl) T.b_len (by decide +kernel) (sa_cons (se_var (pv 2)) sa_nil)) sa_nil)) (sg_name (pg_name (i := 6) sc__law_numbers.nd rfl (.inl rfl)))
    (ss_one (s_if (st_w (sw_and (st_cmp op_ge os_ge (se_var (pv 3)) (se_op op_pow os_pow se_int se_int) (nomark _)) (sw_and1 (st_cmp op_gt os_gt (se_var (pv 4)) se_int (nomark _))))) (ss_cons (s_expr (se_bm (T := .list) (se_var (pv 5)) (sa_cons (se_op op_mod os_mod (se_callTy call_int1 cs_int (by rfl) T.b_int (by decide +kernel) (sa_cons (se_var (pv 4)) sa_nil)) (se_ix (se_var (pv 2)) (se_var (pv 6)) (fun _ _ => rfl))) sa_nil) ms_append (fun a b => pe_bm PySem.F.plainAttrs_list PySem.F.slot_list_append PySem.F.type_list_append mt_append a b)))
    (ss_one (s_set (i := 4) sc__law_numbers.nd rfl (.inl rfl) (se_op op_fdiv os_fdiv (se_var (pv 4)) (se_ix (se_var (pv 2)) (se_var (pv 6)) (fun _ _ => rfl)))))) (ss_cons (s_set (i := 7) sc__law_numbers.nd rfl (.inl rfl) (se_op op_pow os_pow (se_op or_add os_add (se_op or_add os_add (se_op op_mod os_mod (se_callTy call_int1 cs_int (by rfl) T.b_int (by decide +kernel) (sa_cons (se_var (pv 3)) sa_nil)) se_int) (se_op or_mul os_mul se_int (se_var (pv 1)))) se_int) se_int))
    (ss_cons (s_set (i := 7) sc__law_numbers.nd rfl (.inl rfl) (se_op or_mul os_mul (se_op or_add os_add (se_op op_mod os_mod (se_callTy call_int1 cs_int (by rfl) T.b_int (by decide +kernel) (sa_cons (se_var (pv 7)) sa_nil)) se_int) (se_op or_mul os_mul se_int (se_op or_add os_add (se_var (pv 6)) se_int))) (se_op or_add os_add (se_var (pv 6)) se_int)))
    (ss_cons (s_set (i := 7) sc__law_numbers.nd rfl (.inl rfl) (se_op op_mod os_mod (se_callTy call_int1 cs_int (by rfl) T.b_int (by decide +kernel) (sa_cons (se_var (pv 7)) sa_nil)) se_int))
    (ss_cons (s_set (i := 7) sc__law_numbers.nd rfl (.inl rfl) (se_op or_mul os_mul (se_op op_mod os_mod (se_callTy call_int1 cs_int (by rfl) T.b_int (by decide +kernel) (sa_cons (se_op op_pow os_pow (se_var (pv 7)) se_int) sa_nil)) se_int) se_int))
    (ss_cons (s_set (i := 7) sc__law_numbers.nd rfl (.inl rfl) (se_op op_mod os_mod (se_callTy call_int1 cs_int (by rfl) T.b_int (by decide +kernel) (sa_cons (se_var (pv 7)) sa_nil)) se_int))
    (ss_one (s_expr (se_bm (T := .list) (se_var (pv 5)) (sa_cons (se_op op_mod os_mod (se_callTy call_int1 cs_int (by rfl) T.b_int (by decide +kernel) (sa_cons (se_op op_fdiv os_fdiv (se_var (pv 7)) se_int) sa_nil)) (se_ix (se_var (pv 2)) (se_var (pv 6)) (fun _ _ => rfl))) sa_nil) ms_append (fun a b => pe_bm PySem.F.plainAttrs_list PySem.F.slot_list_append PySem.F.type_list_append mt_append a b))))))))))))
    (ss_one (s_ret (se_var (pv 5)))))))))
theorem G__law_draw : FnG P w K mg base 1 T._law_draw.f T._law_draw.fd ["_law_pool_here", "_law_many"] (spOf K (ctx P T) f__law_draw) :=
  fn_old (fn_okG (k := 0) T._law_draw.F sc__law_draw fun A outer s H E X hX hG hr tk po =>
    (ss_cons (s_set (i := 2) sc__law_draw.nd rfl (.inl rfl) (se_ix (se_var (pv 0)) se_int (fun _ _ => rfl)))
    (ss_cons (s_asg (se_op or_add os_add (se_var (pv 2)) se_int) (sg_sub (se_var (pv 0)) se_int (fun a b c => pg_sub a b c)) (fun a b => ps_asg a b))
    (ss_one (s_ret (se_if (st_cmp op_lt os_lt (se_var (pv 2)) (se_callB (callR_or call_len call_lenD) cs_len (by rfl) T.b_len (by decide +kernel) (sa_cons (se_ix (se_var (pv 0)) se_int (fun _ _ => rfl)) sa_nil)) (nomark _)) (se_op op_mod os_mod (se_callTy call_int1 cs_int (by rfl) T.b_int (by decide +kernel) (sa_cons (se_ix (se_ix (se_var (pv 0)) se_int (fun _ _ => rfl)) (se_var (pv 2)) (fun _ _ => rfl)) sa_nil)) (se_var (pv 1))) se_int))))))
theorem G_is_within : FnG P w K mg base 2 T.is_within.f T.is_within.fd ["value", "least", "most"] (spOf K (ctx P T) f_is_within) :=
  fn_okG (k := 1) T.is_within.F sc_is_within fun A outer s H E X hX hG hr tk po =>
    (ss_one (s_ret (se_and (se_callP (G_is_integer T TB) hG (hr.mono (by decide)) tk (by rfl) T.g_is_integer T.is_integer.F.kp T.is_integer.b (sa_cons (se_var (pv 0)) sa_nil)) (se_one (se_chain op_le os_le op_le os_le (se_var (pv 1)) (se_var (pv 0)) (se_var (pv 2)))))))
theorem G_are_words : FnG P w K mg base 2 T.are_words.f T.are_words.fd ["value", "least", "most"] (spOf K (ctx P T) f_are_words) :=
  fn_okG (k := 1) T.are_words.F sc_are_words fun A outer s H E X hX hG hr tk po =>
    (ss_cons (s_if (st_w (sw_or (st_not (st_tru (se_bX (cx_isX T.tab T.ck rfl rfl) (by rfl) T.b_isinstance (by decide +kernel) (sa_cons (se_var (pv 0)) (sa_cons (se_ty (t := .dict) (by rfl) T.b_dict (by decide +kernel)) sa_nil))))) (sw_or1 (st_not (st_chain op_le os_le op_le os_le (se_var (pv 1)) (se_bX (cx_len rfl rfl) (by rfl) T.b_len (by decide +kernel) (sa_cons (se_var (pv 0)) sa_nil)) (se_var (pv 2))))))) (ss_one (s_ret se_bl)) ss_nil)
    (ss_one (s_ret (se_callB (cr_all rfl) cs_all (by rfl) T.b_all (by decide +kernel) (sa_cons (se_lock (c := (xVar 0)) (se_lc (own := [("word", 3)]) rfl sc_are_words.nd (si_anyX rfl rfl (se_var (pv 0))) (blkOk_by (own := [("word", 3)]) (N := ["value", "least", "most", "word"]) (sc := defScope s_are_words) (by decide +kernel)) (fun _ _ _ _ _ => (sg_name (pg_name (i := 3) sc_are_words.nd rfl (.inl rfl)))) (fun _ _ _ _ _ => sts_nil) (fun _ _ _ _ _ => (se_callP (G_is_word T TB) hG (hr.mono (by decide)) takes_none5 (by rfl) T.g_is_word T.is_word.F.kp T.is_word.b (sa_cons (se_var (pv 3)) sa_nil))))) sa_nil)))))
theorem G_Program___contains__ : FnG P w K mg base 2 T.Program___contains__.f T.Program___contains__.fd ["self", "procedure"] (spOf K (ctx P T) f_Program___contains__) :=
  fn_okG (k := 1) T.Program___contains__.F sc_Program___contains__ fun A outer s H E X hX hG hr tk po =>
    (ss_one (s_ret (se_and (se_callP (G_is_word T TB) hG (hr.mono (by decide)) tk (by rfl) T.g_is_word T.is_word.F.kp T.is_word.b (sa_cons (se_var (pv 1)) sa_nil)) (se_one (se_cmp (or_inA (T := tN) hG (units65 hr)) (os_inA (T := tN) rfl rfl no_tbl) (se_var (pv 1)) (se_ifld n_lists T.fl_lists (se_var (pv 0))) (by rfl))))))
theorem G_points_behind : FnG P w K mg base 2 T.points_behind.f T.points_behind.fd ["program", "row", "point", "store"] (spOf K (ctx P T) f_points_behind) :=
  fn_okG (k := 1) T.points_behind.F sc_points_behind fun A outer s H E X hX hG hr tk po =>
    (ss_cons (s_set (i := 4) sc_points_behind.nd rfl (.inl rfl) (se_ixX (T := tN) rfl rfl no_get hG (units65 hr) tk (se_var (pv 1)) se_int (fun _ _ => rfl) (fun _ _ => rfl)))
    (ss_cons (s_if (st_cmp (or_eq hr.units) os_eq (se_var (pv 4)) se_str (nomark _)) (ss_one (s_ret (se_lst (sa_cons (se_tup (sa_cons (se_ixX (T := tN) rfl rfl no_get hG (units65 hr) tk (se_var (pv 1)) se_int (fun _ _ => rfl) (fun _ _ => rfl)) (sa_cons se_int sa_nil))) sa_nil)))) ss_nil)
    (ss_cons (s_if (st_cmp (or_eq hr.units) os_eq (se_var (pv 4)) se_str (nomark _)) (ss_one (s_ret (se_lst (sa_cons (se_tup (sa_cons (se_op or_add os_add (se_var (pv 2)) se_int) (sa_cons se_int sa_nil))) (sa_cons (se_tup (sa_cons (se_ixX (T := tN) rfl rfl no_get hG (units65 hr) tk (se_var (pv 1)) se_int (fun _ _ => rfl) (fun _ _ => rfl)) (sa_cons se_int sa_nil))) sa_nil))))) ss_nil)
    (ss_cons (s_if (st_w (sw_and (st_cmp (or_eq hr.units) os_eq (se_var (pv 4)) se_str (nomark _)) (sw_and1 (st_cmp (or_eq hr.units) os_eq (se_ixX (T := tN) rfl rfl no_get hG (units65 hr) tk (se_var (pv 3)) (se_callP (G_at_cell T TB) hG (hr.mono (by decide)) tk (by rfl) T.g_at_cell T.at_cell.F.kp T.at_cell.b (sa_cons (se_var (pv 0)) (sa_cons (se_ixX (T := tN) rfl rfl no_get hG (units65 hr) tk (se_var (pv 1)) se_int (fun _ _ => rfl) (fun _ _ => rfl)) sa_nil))) (fun _ _ => rfl) (fun _ _ => rfl)) (se_ixX (T := tN) rfl rfl no_get hG (units65 hr) tk (se_var (pv 1)) se_int (fun _ _ => rfl) (fun _ _ => rfl)) (nomark _))))) (ss_one (s_ret (se_lst (sa_cons (se_tup (sa_cons (se_ixX (T := tN) rfl rfl no_get hG (units65 hr) tk (se_var (pv 1)) se_int (fun _ _ => rfl) (fun _ _ => rfl)) (sa_cons se_int sa_nil))) sa_nil)))) ss_nil)
    (ss_one (s_ret (se_lst (sa_cons (se_tup (sa_cons (se_op or_add os_add (se_var (pv 2)) se_int) (sa_cons se_int sa_nil))) sa_nil))))))))
theorem G_is_resting : FnG P w K mg base 2 T.is_resting.f T.is_resting.fd ["program", "state"] (spOf K (ctx P T) f_is_resting) :=
  fn_okG (k := 1) T.is_resting.F sc_is_resting fun A outer s H E X hX hG hr tk po =>
    (ss_cons (s_asg (se_ixX (T := tN) rfl rfl no_get hG (units65 hr) tk (se_ixX (T := tN) rfl rfl no_get hG (units65 hr) tk (se_ixX (T := tN) rfl rfl no_get hG (units65 hr) tk (se_ixX (T := tN) rfl rfl no_get hG (units65 hr) tk (se_var (pv 1)) se_int (fun _ _ => rfl) (fun _ _ => rfl)) (se_un un_neg us_neg se_int) (fun _ _ => rfl) (fun _ _ => rfl)) se_int (fun _ _ => rfl) (fun _ _ => rfl)) (se_un un_neg us_neg se_int) (fun _ _ => rfl) (fun _ _ => rfl)) (sg_tup rfl (.cons (pg_name (i := 2) sc_is_resting.nd rfl (.inl rfl)) (.cons (pg_name (i := 3) sc_is_resting.nd rfl (.inl rfl)) (.cons (pg_name (i := 4) sc_is_resting.nd rfl (.inl rfl)) .nil)))) (fun a b => ps_asg a b))
    (ss_one (s_ret (se_and (se_cmp (or_eq hr.units) os_eq (se_bX (cx_len rfl rfl) (by rfl) T.b_len (by decide +kernel) (sa_cons (se_callP (G_frames_in T TB) hG (hr.mono (by decide)) tk (by rfl) T.g_frames_in T.frames_in.F.kp T.frames_in.b (sa_cons (se_var (pv 1)) sa_nil)) sa_nil)) se_int (nomark _)) (se_one (se_cmp (or_eq hr.units) os_eq (se_var (pv 3)) (se_bX (cx_len rfl rfl) (by rfl) T.b_len (by decide +kernel) (sa_cons (se_ixX (T := tN) rfl rfl no_get hG (units65 hr) tk (se_ifld n_lists T.fl_lists (se_var (pv 0))) (se_var (pv 2)) (fun _ _ => rfl) (fun _ _ => rfl)) sa_nil)) (nomark _)))))))
theorem G_check_cells : FnG P w K mg base 2 T.check_cells.f T.check_cells.fd ["program", "one", "other"] (spOf K (ctx P T) f_check_cells) :=
  fn_okG (k := 1) T.check_cells.F sc_check_cells fun A outer s H E X hX hG hr tk po =>
    (ss_cons (s_expr (se_callP (G_check_program T TB) hG (hr.mono (by decide)) tk (by rfl) T.g_check_program T.check_program.F.kp T.check_program.b (sa_cons (se_var (pv 0)) sa_nil)))
    (ss_cons (s_if (st_w (sw_or (st_not (st_tru (se_callP (G_is_word T TB) hG (hr.mono (by decide)) tk (by rfl) T.g_is_word T.is_word.F.kp T.is_word.b (sa_cons (se_var (pv 1)) sa_nil)))) (sw_or1 (st_cmp (or_notInA (T := tN) hG (units65 hr)) (os_notInA (T := tN) rfl rfl no_tbl) (se_var (pv 1)) (se_methX0 n_cells T.i_Program.cl T.m_Program_cells (G_Program_cells T TB) hG (hr.mono (by decide)) tk T.Program_cells.b .nil noneR (se_var (pv 0))) (by rfl))))) (ss_one (s_raise (k := 4) rfl (T.xA 4 (by decide)) T.i_4 hr tk (by rfl) T.c_BadCell (sa_cons (se_var (pv 1)) sa_nil))) ss_nil)
    (ss_one (s_if (st_w (sw_or (st_not (st_tru (se_callP (G_is_word T TB) hG (hr.mono (by decide)) tk (by rfl) T.g_is_word T.is_word.F.kp T.is_word.b (sa_cons (se_var (pv 2)) sa_nil)))) (sw_or (st_cmp (or_notInA (T := tN) hG (units65 hr)) (os_notInA (T := tN) rfl rfl no_tbl) (se_var (pv 2)) (se_methX0 n_cells T.i_Program.cl T.m_Program_cells (G_Program_cells T TB) hG (hr.mono (by decide)) tk T.Program_cells.b .nil noneR (se_var (pv 0))) (by rfl)) (sw_or1 (st_cmp (or_eq hr.units) os_eq (se_var (pv 2)) (se_var (pv 1)) (nomark _)))))) (ss_one (s_raise (k := 4) rfl (T.xA 4 (by decide)) T.i_4 hr tk (by rfl) T.c_BadCell (sa_cons (se_var (pv 2)) sa_nil))) ss_nil))))
theorem G__law_pool : FnG P w K mg base 2 T._law_pool.f T._law_pool.fd ["_law_cell", "_law_salt", "_law_many"] (spOf K (ctx P T) f__law_pool) :=
  fn_old (fn_okG (k := 1) T._law_pool.F sc__law_pool fun A outer s H E X hX hG hr tk po =>
    (ss_one (s_ret (se_lst (sa_cons (se_callP (G__law_numbers T TB) hG (hr.mono (by decide)) tk (by rfl) T.g__law_numbers T._law_numbers.F.kp T._law_numbers.b (sa_cons (se_var (pv 0)) (sa_cons (se_var (pv 1)) (sa_cons (se_op or_mul os_mul (se_lst (sa_cons se_int sa_nil)) (se_var (pv 2))) sa_nil)))) (sa_cons se_int sa_nil))))))
theorem G_is_sign_part : FnG P w K mg base 3 T.is_sign_part.f T.is_sign_part.fd ["program", "sign", "value", "many"] (spOf K (ctx P T) f_is_sign_part) :=
  fn_okG (k := 2) T.is_sign_part.F sc_is_sign_part fun A outer s H E X hX hG hr tk po =>
    (ss_cons (s_if (st_cmp (or_eq hr.units) os_eq (se_var (pv 1)) se_str (nomark _)) (ss_one (s_ret (se_and (se_callP (G_is_word T TB) hG (hr.mono (by decide)) tk (by rfl) T.g_is_word T.is_word.F.kp T.is_word.b (sa_cons (se_var (pv 2)) sa_nil)) (se_one (se_cmp (or_inA (T := tN) hG (units65 hr)) (os_inA (T := tN) rfl rfl no_tbl) (se_var (pv 2)) (se_ifld n_firsts T.fl_firsts (se_var (pv 0))) (by rfl)))))) ss_nil)
    (ss_cons (s_if (st_cmp (or_eq hr.units) os_eq (se_var (pv 1)) se_str (nomark _)) (ss_one (s_ret (se_callP (G_is_within T TB) hG (hr.mono (by decide)) tk (by rfl) T.g_is_within T.is_within.F.kp T.is_within.b (sa_cons (se_var (pv 2)) (sa_cons se_int (sa_cons (se_op op_sub os_sub (se_propX T.i_Program.cl T.p_Program_size (G_Program_size T TB) hG (hr.mono (by decide)) T.Program_size.b (se_var (pv 0))) se_int) sa_nil)))))) ss_nil)
    (ss_cons (s_if (st_cmp (or_eq hr.units) os_eq (se_var (pv 1)) se_str (nomark _)) (ss_one (s_ret (se_callP (G_is_within T TB) hG (hr.mono (by decide)) tk (by rfl) T.g_is_within T.is_within.F.kp T.is_within.b (sa_cons (se_var (pv 2)) (sa_cons se_int (sa_cons (se_var (pv 3)) sa_nil)))))) ss_nil)
    (ss_cons (s_if (st_cmp (or_eq hr.units) os_eq (se_var (pv 1)) se_str (nomark _)) (ss_one (s_ret (se_and (se_callP (G_is_word T TB) hG (hr.mono (by decide)) tk (by rfl) T.g_is_word T.is_word.F.kp T.is_word.b (sa_cons (se_var (pv 2)) sa_nil)) (se_one (se_cmp (or_inA (T := tN) hG (units65 hr)) (os_inA (T := tN) rfl rfl no_tbl) (se_var (pv 2)) (se_ifld n_lists T.fl_lists (se_var (pv 0))) (by rfl)))))) ss_nil)
    (ss_one (s_ret (se_if (st_cmp (or_eq hr.units) os_eq (se_var (pv 1)) se_str (nomark _)) (se_callP (G_is_within T TB) hG (hr.mono (by decide)) tk (by rfl) T.g_is_within T.is_within.F.kp T.is_within.b (sa_cons (se_var (pv 2)) (sa_cons se_int (sa_cons (se_propX T.i_Program.cl T.p_Program_levels (G_Program_levels T TB) hG (hr.mono (by decide)) T.Program_levels.b (se_var (pv 0))) sa_nil)))) (se_callP (G_is_word T TB) hG (hr.mono (by decide)) tk (by rfl) T.g_is_word T.is_word.F.kp T.is_word.b (sa_cons (se_var (pv 2)) sa_nil)))))))))
theorem G_Program_is_served : FnG P w K mg base 3 T.Program_is_served.f T.Program_is_served.fd ["self", "value"] (spOf K (ctx P T) f_Program_is_served) :=
  fn_okG (k := 2) T.Program_is_served.F sc_Program_is_served fun A outer s H E X hX hG hr tk po =>
    (ss_cons (s_if (st_w (sw_or (st_not (st_tru (se_bX (cx_isX T.tab T.ck rfl rfl) (by rfl) T.b_isinstance (by decide +kernel) (sa_cons (se_var (pv 1)) (sa_cons (se_ty (t := .tuple) (by rfl) T.b_tuple (by decide +kernel)) sa_nil))))) (sw_or (st_cmp (or_ne hr.units) os_ne (se_bX (cx_len rfl rfl) (by rfl) T.b_len (by decide +kernel) (sa_cons (se_var (pv 1)) sa_nil)) se_int (nomark _)) (sw_or1 (st_not (st_tru (se_callP (G_is_within T TB) hG (hr.mono (by decide)) tk (by rfl) T.g_is_within T.is_within.F.kp T.is_within.b (sa_cons (se_ixX (T := tN) rfl rfl no_get hG (units65 hr) tk (se_var (pv 1)) se_int (fun _ _ => rfl) (fun _ _ => rfl)) (sa_cons se_int (sa_cons (se_ifld n_own_levels T.fl_own_levels (se_var (pv 0))) sa_nil)))))))))) (ss_one (s_ret se_bl)) ss_nil)
    (ss_one (s_ret (se_and (se_callP (G_is_word T TB) hG (hr.mono (by decide)) tk (by rfl) T.g_is_word T.is_word.F.kp T.is_word.b (sa_cons (se_ixX (T := tN) rfl rfl no_get hG (units65 hr) tk (se_var (pv 1)) se_int (fun _ _ => rfl) (fun _ _ => rfl)) sa_nil)) (se_one (se_cmp (or_inA (T := tN) hG (units65 hr)) (os_inA (T := tN) rfl rfl no_tbl) (se_ixX (T := tN) rfl rfl no_get hG (units65 hr) tk (se_var (pv 1)) se_int (fun _ _ => rfl) (fun _ _ => rfl)) (se_ifld n_lists T.fl_lists (se_var (pv 0))) (by rfl)))))))
theorem G_Program_is_spot : FnG P w K mg base 3 T.Program_is_spot.f T.Program_is_spot.fd ["self", "value"] (spOf K (ctx P T) f_Program_is_spot) :=
  fn_okG (k := 2) T.Program_is_spot.F sc_Program_is_spot fun A outer s H E X hX hG hr tk po =>
    (ss_cons (s_if (st_w (sw_or (st_not (st_tru (se_bX (cx_isX T.tab T.ck rfl rfl) (by rfl) T.b_isinstance (by decide +kernel) (sa_cons (se_var (pv 1)) (sa_cons (se_ty (t := .tuple) (by rfl) T.b_tuple (by decide +kernel)) sa_nil))))) (sw_or (st_cmp (or_ne hr.units) os_ne (se_bX (cx_len rfl rfl) (by rfl) T.b_len (by decide +kernel) (sa_cons (se_var (pv 1)) sa_nil)) se_int (nomark _)) (sw_or (st_not (st_tru (se_callP (G_is_word T TB) hG (hr.mono (by decide)) tk (by rfl) T.g_is_word T.is_word.F.kp T.is_word.b (sa_cons (se_ixX (T := tN) rfl rfl no_get hG (units65 hr) tk (se_var (pv 1)) se_int (fun _ _ => rfl) (fun _ _ => rfl)) sa_nil)))) (sw_or1 (st_cmp (or_notInA (T := tN) hG (units65 hr)) (os_notInA (T := tN) rfl rfl no_tbl) (se_ixX (T := tN) rfl rfl no_get hG (units65 hr) tk (se_var (pv 1)) se_int (fun _ _ => rfl) (fun _ _ => rfl)) (se_ifld n_lists T.fl_lists (se_var (pv 0))) (by rfl))))))) (ss_one (s_ret se_bl)) ss_nil)
    (ss_one (s_ret (se_callP (G_is_within T TB) hG (hr.mono (by decide)) tk (by rfl) T.g_is_within T.is_within.F.kp T.is_within.b (sa_cons (se_ixX (T := tN) rfl rfl no_get hG (units65 hr) tk (se_var (pv 1)) se_int (fun _ _ => rfl) (fun _ _ => rfl)) (sa_cons se_int (sa_cons (se_bX (cx_len rfl rfl) (by rfl) T.b_len (by decide +kernel) (sa_cons (se_ixX (T := tN) rfl rfl no_get hG (units65 hr) tk (se_ifld n_lists T.fl_lists (se_var (pv 0))) (se_ixX (T := tN) rfl rfl no_get hG (units65 hr) tk (se_var (pv 1)) se_int (fun _ _ => rfl) (fun _ _ => rfl)) (fun _ _ => rfl) (fun _ _ => rfl)) sa_nil)) sa_nil)))))))
theorem G_serving : FnG P w K mg base 3 T.serving.f T.serving.fd ["program", "procedure", "point", "mask"] (spOf K (ctx P T) f_serving) :=
  fn_okG (k := 2) T.serving.F sc_serving fun A outer s H E X hX hG hr tk po =>
    (ss_cons (s_set (i := 4) sc_serving.nd rfl (.inl rfl) (se_get2 rfl rfl (units65 hr) (se_ifld n_own_guards T.fl_own_guards (se_var (pv 0))) (se_tup (sa_cons (se_var (pv 1)) (sa_cons (se_var (pv 2)) sa_nil))) se_int ⟨rfl, rfl, rfl, rfl⟩))
    (ss_cons (s_set (i := 5) sc_serving.nd rfl (.inl rfl) (se_if (st_cmp op_gt os_gt (se_var (pv 3)) (se_var (pv 4)) (nomark _)) (se_var (pv 3)) (se_var (pv 4))))
    (ss_cons (s_set (i := 6) sc_serving.nd rfl (.inl rfl) (se_lst sa_nil))
    (ss_cons (s_for po rfl (si_range3 (by rfl) T.b_range (sa_cons (se_propX T.i_Program.cl T.p_Program_levels (G_Program_levels T TB) hG (hr.mono (by decide)) T.Program_levels.b (se_var (pv 0))) (sa_cons (se_var (pv 5)) (sa_cons (se_un un_neg us_neg se_int) sa_nil)))) (sg_name (pg_name (i := 7) sc_serving.nd rfl (.inr rfl)))
    (ss_one (s_expr (se_bm (T := .list) (se_var (pv 6)) (sa_cons (se_lock (c := (xUn (insW (fun k => [5].contains k) 2056194513038941775219) (xVar 0))) (se_lc (own := [("line", 8)]) rfl sc_serving.nd (si_anyX rfl rfl (se_ifld n_own_lines T.fl_own_lines (se_var (pv 0)))) (blkOk_by (own := [("line", 8)]) (N := ["program", "procedure", "point", "mask", "guard", "least", "found", "level", "line"]) (sc := defScope s_serving) (by decide +kernel)) (fun _ _ _ _ _ => (sg_name (pg_name (i := 8) sc_serving.nd rfl (.inl rfl)))) (fun _ _ _ _ _ => (sts_one (st_cmp (or_eq hr.units) os_eq (se_ixX (T := tN) rfl rfl no_get hG (units65 hr) takes_none5 (se_ixX (T := tN) rfl rfl no_get hG (units65 hr) takes_none5 (se_ifld n_own_lines T.fl_own_lines (se_var (pv 0))) (se_var (pv 8)) (fun _ _ => rfl) (fun _ _ => rfl)) se_int (fun _ _ => rfl) (fun _ _ => rfl)) (se_var (pv 7)) (nomark _)))) (fun _ _ _ _ _ => (se_var (pv 8))))) sa_nil) ms_extend (fun a b => pe_bm PySem.F.plainAttrs_list PySem.F.slot_list_extend PySem.F.type_list_extend mt_extend a b)))))
    (ss_one (s_ret (se_var (pv 6))))))))
theorem G_changed_store : FnG P w K mg base 3 T.changed_store.f T.changed_store.fd ["program", "row", "store"] (spOf K (ctx P T) f_changed_store) :=
  fn_okG (k := 2) T.changed_store.F sc_changed_store fun A outer s H E X hX hG hr tk po =>
    (ss_cons (s_set (i := 3) sc_changed_store.nd rfl (.inl rfl) (se_ixX (T := tN) rfl rfl no_get hG (units65 hr) tk (se_var (pv 1)) se_int (fun _ _ => rfl) (fun _ _ => rfl)))
    (ss_cons (s_if (st_cmp (or_inA (T := tN) hG (units65 hr)) (os_inA (T := tN) rfl rfl no_tbl) (se_var (pv 3)) (se_tup (sa_cons se_str (sa_cons se_str sa_nil))) (by rfl)) (ss_one (s_ret (se_lst (sa_cons (se_tup (sa_cons (se_callP (G_put_in T TB) hG (hr.mono (by decide)) tk (by rfl) T.g_put_in T.put_in.F.kp T.put_in.b (sa_cons (se_var (pv 2)) (sa_cons (se_callP (G_at_section T TB) hG (hr.mono (by decide)) tk (by rfl) T.g_at_section T.at_section.F.kp T.at_section.b (sa_cons (se_var (pv 0)) (sa_cons (se_ixX (T := tN) rfl rfl no_get hG (units65 hr) tk (se_var (pv 1)) se_int (fun _ _ => rfl) (fun _ _ => rfl)) sa_nil))) (sa_cons (se_callTy call_int1 cs_int (by rfl) T.b_int (by decide +kernel) (sa_cons (se_cmp (or_eq hr.units) os_eq (se_var (pv 3)) se_str (nomark _)) sa_nil)) sa_nil)))) (sa_cons se_int sa_nil))) sa_nil)))) ss_nil)
    (ss_cons (s_set (i := 4) sc_changed_store.nd rfl (.inr rfl) (se_callP (G_at_cell T TB) hG (hr.mono (by decide)) tk (by rfl) T.g_at_cell T.at_cell.F.kp T.at_cell.b (sa_cons (se_var (pv 0)) (sa_cons (se_ixX (T := tN) rfl rfl no_get hG (units65 hr) tk (se_var (pv 1)) se_int (fun _ _ => rfl) (fun _ _ => rfl)) sa_nil))))
    (ss_cons (s_if (st_cmp (or_eq hr.units) os_eq (se_var (pv 3)) se_str (nomark _)) (ss_one (s_ret (se_lc (own := [("value", 5)]) rfl sc_changed_store.nd (si_range1 (by rfl) T.b_range (sa_cons (se_propX T.i_Program.cl T.p_Program_size (G_Program_size T TB) hG (hr.mono (by decide)) T.Program_size.b (se_var (pv 0))) sa_nil)) (blkOk_by (own := [("value", 5)]) (N := ["program", "row", "store", "word", "place", "value"]) (sc := defScope s_changed_store) (by decide +kernel)) (fun _ _ _ _ _ => (sg_name (pg_name (i := 5) sc_changed_store.nd rfl (.inl rfl)))) (fun _ _ _ _ _ => sts_nil) (fun _ _ _ _ _ => (se_tup (sa_cons (se_callP (G_put_in T TB) hG (hr.mono (by decide)) takes_none5 (by rfl) T.g_put_in T.put_in.F.kp T.put_in.b (sa_cons (se_var (pv 2)) (sa_cons (se_var (pv 4)) (sa_cons (se_var (pv 5)) sa_nil)))) (sa_cons (se_var (pv 5)) sa_nil))))))) ss_nil)
    (ss_cons (s_set (i := 5) sc_changed_store.nd rfl (.inl rfl) (se_if (st_cmp (or_eq hr.units) os_eq (se_var (pv 3)) se_str (nomark _)) (se_ixX (T := tN) rfl rfl no_get hG (units65 hr) tk (se_var (pv 1)) se_int (fun _ _ => rfl) (fun _ _ => rfl)) se_int))
    (ss_cons (s_if (st_cmp (or_eq hr.units) os_eq (se_var (pv 3)) se_str (nomark _)) (ss_one (s_set (i := 5) sc_changed_store.nd rfl (.inl rfl) (se_ixX (T := tN) rfl rfl no_get hG (units65 hr) tk (se_var (pv 2)) (se_callP (G_at_cell T TB) hG (hr.mono (by decide)) tk (by rfl) T.g_at_cell T.at_cell.F.kp T.at_cell.b (sa_cons (se_var (pv 0)) (sa_cons (se_ixX (T := tN) rfl rfl no_get hG (units65 hr) tk (se_var (pv 1)) se_int (fun _ _ => rfl) (fun _ _ => rfl)) sa_nil))) (fun _ _ => rfl) (fun _ _ => rfl)))) (ss_one (s_if (st_cmp (or_eq hr.units) os_eq (se_var (pv 3)) se_str (nomark _)) (ss_one (s_set (i := 5) sc_changed_store.nd rfl (.inl rfl) (se_op op_mod os_mod (se_op or_add os_add (se_ixX (T := tN) rfl rfl no_get hG (units65 hr) tk (se_var (pv 2)) (se_var (pv 4)) (fun _ _ => rfl) (fun _ _ => rfl)) (se_ixX (T := tN) rfl rfl no_get hG (units65 hr) tk (se_var (pv 1)) se_int (fun _ _ => rfl) (fun _ _ => rfl))) (se_propX T.i_Program.cl T.p_Program_size (G_Program_size T TB) hG (hr.mono (by decide)) T.Program_size.b (se_var (pv 0)))))) ss_nil)))
    (ss_one (s_ret (se_lst (sa_cons (se_tup (sa_cons (se_callP (G_put_in T TB) hG (hr.mono (by decide)) tk (by rfl) T.g_put_in T.put_in.F.kp T.put_in.b (sa_cons (se_var (pv 2)) (sa_cons (se_var (pv 4)) (sa_cons (se_var (pv 5)) sa_nil)))) (sa_cons se_int sa_nil))) sa_nil))))))))))
theorem G_masked_by : FnG P w K mg base 3 T.masked_by.f T.masked_by.fd ["program", "row", "kept", "store", "mask", "floor"] (spOf K (ctx P T) f_masked_by) :=
  fn_okG (k := 2) T.masked_by.F sc_masked_by fun A outer s H E X hX hG hr tk po =>
    (ss_cons (s_set (i := 6) sc_masked_by.nd rfl (.inl rfl) (se_ixX (T := tN) rfl rfl no_get hG (units65 hr) tk (se_var (pv 1)) se_int (fun _ _ => rfl) (fun _ _ => rfl)))
    (ss_cons (s_if (st_cmp (or_eq hr.units) os_eq (se_var (pv 6)) se_str (nomark _)) (ss_one (s_ret (se_tup (sa_cons (se_var (pv 4)) (sa_cons (se_var (pv 4)) sa_nil))))) ss_nil)
    (ss_cons (s_if (st_cmp (or_eq hr.units) os_eq (se_var (pv 6)) se_str (nomark _)) (ss_one (s_ret (se_tup (sa_cons (se_if (st_cmp op_gt os_gt (se_var (pv 4)) (se_ixX (T := tN) rfl rfl no_get hG (units65 hr) tk (se_var (pv 1)) se_int (fun _ _ => rfl) (fun _ _ => rfl)) (nomark _)) (se_var (pv 4)) (se_ixX (T := tN) rfl rfl no_get hG (units65 hr) tk (se_var (pv 1)) se_int (fun _ _ => rfl) (fun _ _ => rfl))) (sa_cons (se_var (pv 2)) sa_nil))))) ss_nil)
    (ss_cons (s_set (i := 7) sc_masked_by.nd rfl (.inl rfl) (se_var (pv 2)))
    (ss_cons (s_if (st_cmp (or_eq hr.units) os_eq (se_var (pv 6)) se_str (nomark _)) (ss_one (s_set (i := 7) sc_masked_by.nd rfl (.inl rfl) (se_ixX (T := tN) rfl rfl no_get hG (units65 hr) tk (se_var (pv 1)) se_int (fun _ _ => rfl) (fun _ _ => rfl)))) (ss_one (s_if (st_cmp (or_eq hr.units) os_eq (se_var (pv 6)) se_str (nomark _)) (ss_cons (s_set (i := 7) sc_masked_by.nd rfl (.inl rfl) (se_ixX (T := tN) rfl rfl no_get hG (units65 hr) tk (se_var (pv 3)) (se_callP (G_at_cell T TB) hG (hr.mono (by decide)) tk (by rfl) T.g_at_cell T.at_cell.F.kp T.at_cell.b (sa_cons (se_var (pv 0)) (sa_cons (se_ixX (T := tN) rfl rfl no_get hG (units65 hr) tk (se_var (pv 1)) se_int (fun _ _ => rfl) (fun _ _ => rfl)) sa_nil))) (fun _ _ => rfl) (fun _ _ => rfl)))
    (ss_one (s_set (i := 7) sc_masked_by.nd rfl (.inl rfl) (se_if (st_cmp op_lt os_lt (se_var (pv 7)) (se_propX T.i_Program.cl T.p_Program_levels (G_Program_levels T TB) hG (hr.mono (by decide)) T.Program_levels.b (se_var (pv 0))) (nomark _)) (se_var (pv 7)) (se_propX T.i_Program.cl T.p_Program_levels (G_Program_levels T TB) hG (hr.mono (by decide)) T.Program_levels.b (se_var (pv 0))))))) ss_nil)))
    (ss_one (s_ret (se_tup (sa_cons (se_if (st_cmp op_gt os_gt (se_var (pv 7)) (se_var (pv 5)) (nomark _)) (se_var (pv 7)) (se_var (pv 5))) (sa_cons (se_var (pv 2)) sa_nil))))))))))
theorem G_first_state : FnG P w K mg base 3 T.first_state.f T.first_state.fd ["program"] (spOf K (ctx P T) f_first_state) :=
  fn_okG (k := 2) T.first_state.F sc_first_state fun A outer s H E X hX hG hr tk po =>
    (ss_one (s_ret (se_tup (sa_cons (se_methX0 n_first_store T.i_Program.cl T.m_Program_first_store (G_Program_first_store T TB) hG (hr.mono (by decide)) tk T.Program_first_store.b .nil noneR (se_var (pv 0))) (sa_cons se_int (sa_cons (se_tup (sa_cons (se_tup (sa_cons se_int (sa_cons se_int (sa_cons (se_tup (sa_cons (se_tup (sa_cons (se_propX T.i_Program.cl T.p_Program_main (G_Program_main T TB) hG (hr.mono (by decide)) T.Program_main.b (se_var (pv 0))) (sa_cons se_int (sa_cons se_int sa_nil)))) sa_nil)) sa_nil)))) sa_nil)) sa_nil))))))
theorem G__law_opened : FnG P w K mg base 3 T._law_opened.f T._law_opened.fd ["_law_script", "_law_k", "_law_many"] (spOf K (ctx P T) f__law_opened) :=
  fn_old (fn_okG (k := 2) T._law_opened.F sc__law_opened fun A outer s H E X hX hG hr tk po =>
    (ss_cons (s_set (i := 3) sc__law_opened.nd rfl (.inl rfl) (se_if (st_cmp (or_ne hr.units) os_ne (se_var (pv 0)) (se_lst sa_nil) (nomark _)) (se_ix (se_var (pv 0)) (se_var (pv 1)) (fun _ _ => rfl)) se_int))
    (ss_one (s_ret (se_callP (G__law_pool T TB) hG (hr.mono (by decide)) tk (by rfl) T.g__law_pool T._law_pool.F.kp T._law_pool.b (sa_cons (se_var (pv 3)) (sa_cons (se_var (pv 1)) (sa_cons (se_var (pv 2)) sa_nil))))))))
theorem G_is_row : FnG P w K mg base 4 T.is_row.f T.is_row.fd ["program", "value", "many"] (spOf K (ctx P T) f_is_row) :=
  fn_okG (k := 3) T.is_row.F sc_is_row fun A outer s H E X hX hG hr tk po =>
    (ss_cons (s_if (st_w (sw_or (st_not (st_tru (se_bX (cx_isX T.tab T.ck rfl rfl) (by rfl) T.b_isinstance (by decide +kernel) (sa_cons (se_var (pv 1)) (sa_cons (se_ty (t := .tuple) (by rfl) T.b_tuple (by decide +kernel)) sa_nil))))) (sw_or (st_cmp (or_eq hr.units) os_eq (se_var (pv 1)) (se_tup sa_nil) (nomark _)) (sw_or (st_not (st_tru (se_bX (cx_isX T.tab T.ck rfl rfl) (by rfl) T.b_isinstance (by decide +kernel) (sa_cons (se_ixX (T := tN) rfl rfl no_get hG (units65 hr) tk (se_var (pv 1)) se_int (fun _ _ => rfl) (fun _ _ => rfl)) (sa_cons (se_ty (t := .str) (by rfl) T.b_str (by decide +kernel)) sa_nil))))) (sw_or1 (st_tblNo T.k_FORMS (by rfl) T.g_FORMS (se_ixX (T := tN) rfl rfl no_get hG (units65 hr) tk (se_var (pv 1)) se_int (fun _ _ => rfl) (fun _ _ => rfl)))))))) (ss_one (s_ret se_bl)) ss_nil)
    (ss_cons (s_set (i := 3) sc_is_row.nd rfl (.inl rfl) (se_tblIx T.k_FORMS (by rfl) T.g_FORMS (se_ixX (T := tN) rfl rfl no_get hG (units65 hr) tk (se_var (pv 1)) se_int (fun _ _ => rfl) (fun _ _ => rfl)) (fun _ _ => rfl)))
    (ss_cons (s_if (st_w (sw_or (st_cmp (or_ne hr.units) os_ne (se_bX (cx_len rfl rfl) (by rfl) T.b_len (by decide +kernel) (sa_cons (se_var (pv 1)) sa_nil)) (se_op or_add os_add (se_bX (cx_len rfl rfl) (by rfl) T.b_len (by decide +kernel) (sa_cons (se_var (pv 3)) sa_nil)) se_int) (nomark _)) (sw_or1 (st_w (sw_and (st_cmp (or_eq hr.units) os_eq (se_ixX (T := tN) rfl rfl no_get hG (units65 hr) tk (se_var (pv 1)) se_int (fun _ _ => rfl) (fun _ _ => rfl)) se_str (nomark _)) (sw_and1 (st_cmp op_ge os_ge (se_propX T.i_Program.cl T.p_Program_levels (G_Program_levels T TB) hG (hr.mono (by decide)) T.Program_levels.b (se_var (pv 0))) (se_propX T.i_Program.cl T.p_Program_size (G_Program_size T TB) hG (hr.mono (by decide)) T.Program_size.b (se_var (pv 0))) (nomark _)))))))) (ss_one (s_ret se_bl)) ss_nil)
    (ss_one (s_ret (se_callB (cr_all rfl) cs_all (by rfl) T.b_all (by decide +kernel) (sa_cons (se_lc (own := [("sign", 4), ("part", 5)]) rfl sc_is_row.nd (si_zip (by rfl) T.b_zip (sa_cons (se_var (pv 3)) (sa_cons (se_slice (se_var (pv 1)) (so_yes se_int) so_no) sa_nil))) (blkOk_by (own := [("sign", 4), ("part", 5)]) (N := ["program", "value", "many", "form", "sign", "part"]) (sc := defScope s_is_row) (by decide +kernel)) (fun _ _ _ _ _ => (sg_tup rfl (.cons (pg_name (i := 4) sc_is_row.nd rfl (.inl rfl)) (.cons (pg_name (i := 5) sc_is_row.nd rfl (.inl rfl)) .nil)))) (fun _ _ _ _ _ => sts_nil) (fun _ _ _ _ _ => (se_callP (G_is_sign_part T TB) hG (hr.mono (by decide)) takes_none5 (by rfl) T.g_is_sign_part T.is_sign_part.F.kp T.is_sign_part.b (sa_cons (se_var (pv 0)) (sa_cons (se_var (pv 4)) (sa_cons (se_var (pv 5)) (sa_cons (se_var (pv 2)) sa_nil))))))) sa_nil)))))))
theorem G_sections_of : FnG P w K mg base 4 T.sections_of.f T.sections_of.fd ["lists"] (spOf K (ctx P T) f_sections_of) :=
  fn_okG (k := 3) T.sections_of.F sc_sections_of fun A outer s H E X hX hG hr tk po =>
    (ss_cons (s_set (i := 1) sc_sections_of.nd rfl (.inl rfl) se_dic0)
    (ss_cons (s_lock (c := (xVar 0)) (s_for po rfl (si_vals (se_var (pv 0))) (sg_name (pg_name (i := 2) sc_sections_of.nd rfl (.inl rfl)))
    (ss_one (s_lock (c := (xVar 2)) (s_for po rfl (si_anyX rfl rfl (se_var (pv 2))) (sg_name (pg_name (i := 3) sc_sections_of.nd rfl (.inl rfl)))
    (ss_one (s_if (st_cmp (or_inA (T := tN) hG (units65 hr)) (os_inA (T := tN) rfl rfl no_tbl) (se_ixX (T := tN) rfl rfl no_get hG (units65 hr) tk (se_var (pv 3)) se_int (fun _ _ => rfl) (fun _ _ => rfl)) (se_tup (sa_cons se_str (sa_cons se_str sa_nil))) (by rfl)) (ss_one (s_asg se_bl (sg_subX rfl rfl (units65 hr) (se_var (pv 1)) (se_ixX (T := tN) rfl rfl no_get hG (units65 hr) tk (se_var (pv 3)) se_int (fun _ _ => rfl) (fun _ _ => rfl)) (fun a b c => pg_sub a b c)) (fun a b => ps_asg a b))) ss_nil)))))))
    (ss_one (s_ret (se_sortK (k := 0) rfl rfl hG (hr.mono (by decide)) (TB _ T.l_sections_of.hm) T.l_sections_of.hc T.l_sections_of.ht T.l_sections_of.hu (by rfl) T.b_sorted T.b_str (fun _ _ _ _ _ _ => .of_eq rfl) (se_var (pv 1)))))))
theorem G_Program_are_guards : FnG P w K mg base 4 T.Program_are_guards.f T.Program_are_guards.fd ["self", "value"] (spOf K (ctx P T) f_Program_are_guards) :=
  fn_okG (k := 3) T.Program_are_guards.F sc_Program_are_guards fun A outer s H E X hX hG hr tk po =>
    (ss_cons (s_if (st_not (st_tru (se_bX (cx_isX T.tab T.ck rfl rfl) (by rfl) T.b_isinstance (by decide +kernel) (sa_cons (se_var (pv 1)) (sa_cons (se_ty (t := .dict) (by rfl) T.b_dict (by decide +kernel)) sa_nil))))) (ss_one (s_ret se_bl)) ss_nil)
    (ss_one (s_ret (se_callB (cr_all rfl) cs_all (by rfl) T.b_all (by decide +kernel) (sa_cons (se_lock (c := (xVar 1)) (se_lc (own := [("spot", 2)]) rfl sc_Program_are_guards.nd (si_anyX rfl rfl (se_var (pv 1))) (blkOk_by (own := [("spot", 2)]) (N := ["self", "value", "spot"]) (sc := defScope s_Program_are_guards) (by decide +kernel)) (fun _ _ _ _ _ => (sg_name (pg_name (i := 2) sc_Program_are_guards.nd rfl (.inl rfl)))) (fun _ _ _ _ _ => sts_nil) (fun _ _ _ _ _ => (se_and (se_methX n_is_spot T.i_Program.cl T.m_Program_is_spot (G_Program_is_spot T TB) hG (hr.mono (by decide)) takes_none5 T.Program_is_spot.b .nil noneR (se_var (pv 0)) (sa_cons (se_var (pv 2)) sa_nil)) (se_one (se_callP (G_is_within T TB) hG (hr.mono (by decide)) takes_none5 (by rfl) T.g_is_within T.is_within.F.kp T.is_within.b (sa_cons (se_ixX (T := tN) rfl rfl no_get hG (units65 hr) takes_none5 (se_var (pv 1)) (se_var (pv 2)) (fun _ _ => rfl) (fun _ _ => rfl)) (sa_cons se_int (sa_cons (se_ifld n_own_levels T.fl_own_levels (se_var (pv 0))) sa_nil))))))))) sa_nil)))))
theorem G_Program___getitem__ : FnG P w K mg base 4 T.Program___getitem__.f T.Program___getitem__.fd ["self", "procedure"] (spOf K (ctx P T) f_Program___getitem__) :=
  fn_okG (k := 3) T.Program___getitem__.F sc_Program___getitem__ fun A outer s H E X hX hG hr tk po =>
    (ss_cons (s_if (st_cmp (or_notInA (T := (fun k => if k = 5 then some f_Program___contains__ else none)) hG (units65 hr)) (os_notInA (T := (fun k => if k = 5 then some f_Program___contains__ else none)) rfl rfl (fun k fn e => by
      by_cases c : k = 5
      · subst c
        cases e
        exact ⟨⟨_, _, _, _, T.m_Program___contains__, (G_Program___contains__ T TB), (hr.mono (by decide)), T.Program___contains__.b⟩⟩
      · rw [if_neg c] at e
        cases e)) (se_var (pv 1)) (se_var (pv 0)) (by rfl)) (ss_one (s_raise (k := 3) rfl (T.xA 3 (by decide)) T.i_3 hr tk (by rfl) T.c_BadProcedure (sa_cons (se_var (pv 1)) sa_nil))) ss_nil)
    (ss_one (s_ret (se_tX (cx_list rfl rfl hr.hd) (by rfl) T.b_list (by decide +kernel) (sa_cons (se_ixX (T := tN) rfl rfl no_get hG (units65 hr) tk (se_ifld n_lists T.fl_lists (se_var (pv 0))) (se_var (pv 1)) (fun _ _ => rfl) (fun _ _ => rfl)) sa_nil)))))
theorem G_row_ways : FnG P w K mg base 4 T.row_ways.f T.row_ways.fd ["program", "procedure", "point", "kept", "store", "mask", "floor"] (spOf K (ctx P T) f_row_ways) :=
  fn_okG (k := 3) T.row_ways.F sc_row_ways fun A outer s H E X hX hG hr tk po =>
    (ss_cons (s_set (i := 7) sc_row_ways.nd rfl (.inl rfl) (se_ixX (T := tN) rfl rfl no_get hG (units65 hr) tk (se_ixX (T := tN) rfl rfl no_get hG (units65 hr) tk (se_ifld n_lists T.fl_lists (se_var (pv 0))) (se_var (pv 1)) (fun _ _ => rfl) (fun _ _ => rfl)) (se_var (pv 2)) (fun _ _ => rfl) (fun _ _ => rfl)))
    (ss_cons (s_if (st_cmp (or_inA (T := tN) hG (units65 hr)) (os_inA (T := tN) rfl rfl no_tbl) (se_ixX (T := tN) rfl rfl no_get hG (units65 hr) tk (se_var (pv 7)) se_int (fun _ _ => rfl) (fun _ _ => rfl)) (se_tup (sa_cons se_str (sa_cons se_str (sa_cons se_str (sa_cons se_str (sa_cons se_str sa_nil)))))) (by rfl)) (ss_cons (s_asg (se_callP (G_masked_by T TB) hG (hr.mono (by decide)) tk (by rfl) T.g_masked_by T.masked_by.F.kp T.masked_by.b (sa_cons (se_var (pv 0)) (sa_cons (se_var (pv 7)) (sa_cons (se_var (pv 3)) (sa_cons (se_var (pv 4)) (sa_cons (se_var (pv 5)) (sa_cons (se_var (pv 6)) sa_nil))))))) (sg_tup rfl (.cons (pg_name (i := 8) sc_row_ways.nd rfl (.inl rfl)) (.cons (pg_name (i := 9) sc_row_ways.nd rfl (.inl rfl)) .nil))) (fun a b => ps_asg a b))
    (ss_one (s_ret (se_lst (sa_cons (se_tup (sa_cons (se_op or_add os_add (se_var (pv 2)) se_int) (sa_cons (se_var (pv 9)) (sa_cons (se_var (pv 4)) (sa_cons (se_var (pv 8)) (sa_cons se_int sa_nil)))))) sa_nil))))) ss_nil)
    (ss_cons (s_if (st_cmp (or_eq hr.units) os_eq (se_ixX (T := tN) rfl rfl no_get hG (units65 hr) tk (se_var (pv 7)) se_int (fun _ _ => rfl) (fun _ _ => rfl)) se_str (nomark _)) (ss_one (s_ret (se_lst (sa_cons (se_tup (sa_cons (se_op or_add os_add (se_var (pv 2)) se_int) (sa_cons (se_var (pv 3)) (sa_cons (se_callP (G_put_in T TB) hG (hr.mono (by decide)) tk (by rfl) T.g_put_in T.put_in.F.kp T.put_in.b (sa_cons (se_var (pv 4)) (sa_cons (se_callP (G_at_cell T TB) hG (hr.mono (by decide)) tk (by rfl) T.g_at_cell T.at_cell.F.kp T.at_cell.b (sa_cons (se_var (pv 0)) (sa_cons (se_ixX (T := tN) rfl rfl no_get hG (units65 hr) tk (se_var (pv 7)) se_int (fun _ _ => rfl) (fun _ _ => rfl)) sa_nil))) (sa_cons (se_var (pv 5)) sa_nil)))) (sa_cons (se_var (pv 5)) (sa_cons se_int sa_nil)))))) sa_nil)))) ss_nil)
    (ss_cons (s_if (st_cmp (or_inA (T := tN) hG (units65 hr)) (os_inA (T := tN) rfl rfl no_tbl) (se_ixX (T := tN) rfl rfl no_get hG (units65 hr) tk (se_var (pv 7)) se_int (fun _ _ => rfl) (fun _ _ => rfl)) (se_tup (sa_cons se_str (sa_cons se_str (sa_cons se_str (sa_cons se_str (sa_cons se_str (sa_cons se_str sa_nil))))))) (by rfl)) (ss_one (s_ret (se_lc (own := [("other", 10), ("choice", 11)]) rfl sc_row_ways.nd (si_anyX rfl rfl (se_callP (G_changed_store T TB) hG (hr.mono (by decide)) tk (by rfl) T.g_changed_store T.changed_store.F.kp T.changed_store.b (sa_cons (se_var (pv 0)) (sa_cons (se_var (pv 7)) (sa_cons (se_var (pv 4)) sa_nil))))) (blkOk_by (own := [("other", 10), ("choice", 11)]) (N := ["program", "procedure", "point", "kept", "store", "mask", "floor", "row", "now", "keeping", "other", "choice"]) (sc := defScope s_row_ways) (by decide +kernel)) (fun _ _ _ _ _ => (sg_tup rfl (.cons (pg_name (i := 10) sc_row_ways.nd rfl (.inl rfl)) (.cons (pg_name (i := 11) sc_row_ways.nd rfl (.inl rfl)) .nil)))) (fun _ _ _ _ _ => sts_nil) (fun _ _ _ _ _ => (se_tup (sa_cons (se_op or_add os_add (se_var (pv 2)) se_int) (sa_cons (se_var (pv 3)) (sa_cons (se_var (pv 10)) (sa_cons (se_var (pv 5)) (sa_cons (se_var (pv 11)) sa_nil)))))))))) ss_nil)
    (ss_one (s_ret (se_lc (own := [("other", 10), ("choice", 11)]) rfl sc_row_ways.nd (si_anyX rfl rfl (se_callP (G_points_behind T TB) hG (hr.mono (by decide)) tk (by rfl) T.g_points_behind T.points_behind.F.kp T.points_behind.b (sa_cons (se_var (pv 0)) (sa_cons (se_var (pv 7)) (sa_cons (se_var (pv 2)) (sa_cons (se_var (pv 4)) sa_nil)))))) (blkOk_by (own := [("other", 10), ("choice", 11)]) (N := ["program", "procedure", "point", "kept", "store", "mask", "floor", "row", "now", "keeping", "other", "choice"]) (sc := defScope s_row_ways) (by decide +kernel)) (fun _ _ _ _ _ => (sg_tup rfl (.cons (pg_name (i := 10) sc_row_ways.nd rfl (.inl rfl)) (.cons (pg_name (i := 11) sc_row_ways.nd rfl (.inl rfl)) .nil)))) (fun _ _ _ _ _ => sts_nil) (fun _ _ _ _ _ => (se_tup (sa_cons (se_var (pv 10)) (sa_cons (se_var (pv 3)) (sa_cons (se_var (pv 4)) (sa_cons (se_var (pv 5)) (sa_cons (se_var (pv 11)) sa_nil))))))))))))))
theorem G_in_order : FnG P w K mg base 4 T.in_order.f T.in_order.fd ["items"] (spOf K (ctx P T) f_in_order) :=
  fn_okG (k := 3) T.in_order.F sc_in_order fun A outer s H E X hX hG hr tk po =>
    (ss_one (s_ret (se_sortK (k := 0) rfl rfl hG (hr.mono (by decide)) (TB _ T.l_in_order.hm) T.l_in_order.hc T.l_in_order.ht T.l_in_order.hu (by rfl) T.b_sorted T.b_str (fun _ _ _ _ _ _ => .of_eq rfl) (se_var (pv 0)))))
theorem G__law_sorted : FnG P w K mg base 4 T._law_sorted.f T._law_sorted.fd ["_law_some"] (spOf K (ctx P T) f__law_sorted) :=
  fn_okG (k := 3) T._law_sorted.F sc__law_sorted fun A outer s H E X hX hG hr tk po =>
    (ss_one (s_ret (se_sortK (k := 0) rfl rfl hG (hr.mono (by decide)) (TB _ T.l__law_sorted.hm) T.l__law_sorted.hc T.l__law_sorted.ht T.l__law_sorted.hu (by rfl) T.b_sorted T.b_str (fun _ _ _ _ _ _ => .of_eq rfl) (se_var (pv 0)))))
theorem G_Program_keep_rows : FnG P w K mg base 5 T.Program_keep_rows.f T.Program_keep_rows.fd ["self", "procedures"] (spOf K (ctx P T) f_Program_keep_rows) :=
  fn_okG (k := 4) T.Program_keep_rows.F sc_Program_keep_rows fun A outer s H E X hX hG hr tk po =>
    (ss_cons (s_for po rfl (si_anyX rfl rfl (se_sortK (k := 0) rfl rfl hG (hr.mono (by decide)) (TB _ T.l_Program_keep_rows.hm) T.l_Program_keep_rows.hc T.l_Program_keep_rows.ht T.l_Program_keep_rows.hu (by rfl) T.b_sorted T.b_str (fun _ _ _ _ _ _ => .of_eq rfl) (se_var (pv 1)))) (sg_name (pg_name (i := 2) sc_Program_keep_rows.nd rfl (.inl rfl)))
    (ss_cons (s_if (st_w (sw_or (st_not (st_tru (se_bX (cx_isX T.tab T.ck rfl rfl) (by rfl) T.b_isinstance (by decide +kernel) (sa_cons (se_ixX (T := tN) rfl rfl no_get hG (units65 hr) tk (se_var (pv 1)) (se_var (pv 2)) (fun _ _ => rfl) (fun _ _ => rfl)) (sa_cons (se_ty (t := .list) (by rfl) T.b_list (by decide +kernel)) sa_nil))))) (sw_or1 (st_cmp op_gt os_gt (se_bX (cx_len rfl rfl) (by rfl) T.b_len (by decide +kernel) (sa_cons (se_ixX (T := tN) rfl rfl no_get hG (units65 hr) tk (se_var (pv 1)) (se_var (pv 2)) (fun _ _ => rfl) (fun _ _ => rfl)) sa_nil)) (se_gint (by rfl) T.g_MOST_ROWS) (nomark _))))) (ss_one (s_ret se_bl)) ss_nil)
    (ss_one (s_asg (se_tX (cx_list rfl rfl hr.hd) (by rfl) T.b_list (by decide +kernel) (sa_cons (se_ixX (T := tN) rfl rfl no_get hG (units65 hr) tk (se_var (pv 1)) (se_var (pv 2)) (fun _ _ => rfl) (fun _ _ => rfl)) sa_nil)) (sg_subX rfl rfl (units65 hr) (se_ifld n_lists T.fl_lists (se_var (pv 0))) (se_var (pv 2)) (fun a b c => pg_sub a b c)) (fun a b => ps_asg a b)))))
    (ss_cons (s_lock (c := (xUn (insW (fun k => [5].contains k) 465625642099) (xVar 0))) (s_for po rfl (si_anyX rfl rfl (se_ifld n_lists T.fl_lists (se_var (pv 0)))) (sg_name (pg_name (i := 2) sc_Program_keep_rows.nd rfl (.inl rfl)))
    (ss_cons (s_set (i := 3) sc_Program_keep_rows.nd rfl (.inr rfl) (se_bX (cx_len rfl rfl) (by rfl) T.b_len (by decide +kernel) (sa_cons (se_ixX (T := tN) rfl rfl no_get hG (units65 hr) tk (se_ifld n_lists T.fl_lists (se_var (pv 0))) (se_var (pv 2)) (fun _ _ => rfl) (fun _ _ => rfl)) sa_nil)))
    (ss_one (s_if (st_not (st_tru (se_callB (cr_all rfl) cs_all (by rfl) T.b_all (by decide +kernel) (sa_cons (se_lc (own := [("row", 4)]) rfl sc_Program_keep_rows.nd (si_anyX rfl rfl (se_ixX (T := tN) rfl rfl no_get hG (units65 hr) tk (se_ifld n_lists T.fl_lists (se_var (pv 0))) (se_var (pv 2)) (fun _ _ => rfl) (fun _ _ => rfl))) (blkOk_by (own := [("row", 4)]) (N := ["self", "procedures", "word", "many", "row"]) (sc := defScope s_Program_keep_rows) (by decide +kernel)) (fun _ _ _ _ _ => (sg_name (pg_name (i := 4) sc_Program_keep_rows.nd rfl (.inl rfl)))) (fun _ _ _ _ _ => sts_nil) (fun _ _ _ _ _ => (se_callP (G_is_row T TB) hG (hr.mono (by decide)) takes_none5 (by rfl) T.g_is_row T.is_row.F.kp T.is_row.b (sa_cons (se_var (pv 0)) (sa_cons (se_var (pv 4)) (sa_cons (se_var (pv 3)) sa_nil)))))) sa_nil)))) (ss_one (s_ret se_bl)) ss_nil)))))
    (ss_one (s_ret se_bl))))
theorem G_rows_behind : FnG P w K mg base 5 T.rows_behind.f T.rows_behind.fd ["program", "state"] (spOf K (ctx P T) f_rows_behind) :=
  fn_okG (k := 4) T.rows_behind.F sc_rows_behind fun A outer s H E X hX hG hr tk po =>
    (ss_cons (s_asg (se_callP (G_place_in T TB) hG (hr.mono (by decide)) tk (by rfl) T.g_place_in T.place_in.F.kp T.place_in.b (sa_cons (se_var (pv 1)) sa_nil)) (sg_tup rfl (.cons (pg_name (i := 2) sc_rows_behind.nd rfl (.inl rfl)) (.cons (pg_name (i := 3) sc_rows_behind.nd rfl (.inl rfl)) (.cons (pg_name (i := 4) sc_rows_behind.nd rfl (.inl rfl)) (.cons (pg_name (i := 5) sc_rows_behind.nd rfl (.inl rfl)) (.cons (pg_name (i := 6) sc_rows_behind.nd rfl (.inl rfl)) (.cons (pg_name (i := 7) sc_rows_behind.nd rfl (.inl rfl)) .nil))))))) (fun a b => ps_asg a b))
    (ss_cons (s_set (i := 8) sc_rows_behind.nd rfl (.inl rfl) (se_ixX (T := tN) rfl rfl no_get hG (units65 hr) tk (se_ixX (T := tN) rfl rfl no_get hG (units65 hr) tk (se_ixX (T := tN) rfl rfl no_get hG (units65 hr) tk (se_var (pv 1)) se_int (fun _ _ => rfl) (fun _ _ => rfl)) (se_un un_neg us_neg se_int) (fun _ _ => rfl) (fun _ _ => rfl)) se_int (fun _ _ => rfl) (fun _ _ => rfl)))
    (ss_cons (s_if (st_cmp (or_eq hr.units) os_eq (se_var (pv 3)) (se_bX (cx_len rfl rfl) (by rfl) T.b_len (by decide +kernel) (sa_cons (se_ixX (T := tN) rfl rfl no_get hG (units65 hr) tk (se_ifld n_lists T.fl_lists (se_var (pv 0))) (se_var (pv 2)) (fun _ _ => rfl) (fun _ _ => rfl)) sa_nil)) (nomark _)) (ss_one (s_ret (se_lst (sa_cons (se_tup (sa_cons se_int (sa_cons (se_callP (G_come_back T TB) hG (hr.mono (by decide)) tk (by rfl) T.g_come_back T.come_back.F.kp T.come_back.b (sa_cons (se_var (pv 1)) sa_nil)) sa_nil))) sa_nil)))) ss_nil)
    (ss_cons (s_set (i := 9) sc_rows_behind.nd rfl (.inl rfl) (se_callP (G_callee_at T TB) hG (hr.mono (by decide)) tk (by rfl) T.g_callee_at T.callee_at.F.kp T.callee_at.b (sa_cons (se_var (pv 0)) (sa_cons (se_var (pv 2)) (sa_cons (se_var (pv 3)) sa_nil)))))
    (ss_cons (s_if (st_cmp or_isnt os_isnt (se_var (pv 9)) se_non (nomark _)) (ss_cons (s_set (i := 10) sc_rows_behind.nd rfl (.inl rfl) (se_tup (sa_star (se_slice (se_var (pv 8)) so_no (so_yes (se_un un_neg us_neg se_int))) (sa_cons (se_tup (sa_cons (se_var (pv 2)) (sa_cons (se_op or_add os_add (se_var (pv 3)) se_int) (sa_cons (se_var (pv 4)) sa_nil)))) (sa_cons (se_tup (sa_cons (se_var (pv 9)) (sa_cons se_int (sa_cons se_int sa_nil)))) sa_nil)))))
    (ss_one (s_ret (se_lst (sa_cons (se_tup (sa_cons se_int (sa_cons (se_callP (G_with_frames T TB) hG (hr.mono (by decide)) tk (by rfl) T.g_with_frames T.with_frames.F.kp T.with_frames.b (sa_cons (se_var (pv 1)) (sa_cons (se_var (pv 5)) (sa_cons (se_var (pv 6)) (sa_cons (se_var (pv 10)) sa_nil))))) sa_nil))) sa_nil))))) ss_nil)
    (ss_cons (s_set (i := 11) sc_rows_behind.nd rfl (.inl rfl) (se_lst sa_nil))
    (ss_cons (s_for po rfl (si_anyX rfl rfl (se_callP (G_row_ways T TB) hG (hr.mono (by decide)) tk (by rfl) T.g_row_ways T.row_ways.F.kp T.row_ways.b (sa_cons (se_var (pv 0)) (sa_cons (se_var (pv 2)) (sa_cons (se_var (pv 3)) (sa_cons (se_var (pv 4)) (sa_cons (se_var (pv 5)) (sa_cons (se_var (pv 6)) (sa_cons (se_var (pv 7)) sa_nil))))))))) (sg_tup rfl (.cons (pg_name (i := 12) sc_rows_behind.nd rfl (.inl rfl)) (.cons (pg_name (i := 13) sc_rows_behind.nd rfl (.inl rfl)) (.cons (pg_name (i := 14) sc_rows_behind.nd rfl (.inl rfl)) (.cons (pg_name (i := 15) sc_rows_behind.nd rfl (.inl rfl)) (.cons (pg_name (i := 16) sc_rows_behind.nd rfl (.inl rfl)) .nil))))))
    (ss_one (s_expr (se_bm (T := .list) (se_var (pv 11)) (sa_cons (se_tup (sa_cons (se_var (pv 16)) (sa_cons (se_callP (G_with_frames T TB) hG (hr.mono (by decide)) tk (by rfl) T.g_with_frames T.with_frames.F.kp T.with_frames.b (sa_cons (se_var (pv 1)) (sa_cons (se_var (pv 14)) (sa_cons (se_var (pv 15)) (sa_cons (se_tup (sa_star (se_slice (se_var (pv 8)) so_no (so_yes (se_un un_neg us_neg se_int))) (sa_cons (se_tup (sa_cons (se_var (pv 2)) (sa_cons (se_var (pv 12)) (sa_cons (se_var (pv 13)) sa_nil)))) sa_nil))) sa_nil))))) sa_nil))) sa_nil) ms_append (fun a b => pe_bm PySem.F.plainAttrs_list PySem.F.slot_list_append PySem.F.type_list_append mt_append a b)))))
    (ss_one (s_ret (se_var (pv 11)))))))))))
theorem G_Program___init__ : FnG P w K mg base 6 T.Program___init__.f T.Program___init__.fd ["self", "levels", "size", "start", "procedures", "lines", "main", "guards"] (spOf K (ctx P T) f_Program___init__) :=
  fn_okG (k := 5) T.Program___init__.F sc_Program___init__ fun A outer s H E X hX hG hr tk po =>
    (ss_cons (s_if (st_not (st_tru (se_callP (G_is_within T TB) hG (hr.mono (by decide)) tk (by rfl) T.g_is_within T.is_within.F.kp T.is_within.b (sa_cons (se_var (pv 1)) (sa_cons se_int (sa_cons (se_gint (by rfl) T.g_MOST_LEVELS) sa_nil)))))) (ss_one (s_raise (k := 2) rfl (T.xA 2 (by decide)) T.i_2 hr tk (by rfl) T.c_BadProgram (sa_cons se_str sa_nil))) ss_nil)
    (ss_cons (s_if (st_not (st_tru (se_callP (G_is_within T TB) hG (hr.mono (by decide)) tk (by rfl) T.g_is_within T.is_within.F.kp T.is_within.b (sa_cons (se_var (pv 2)) (sa_cons se_int (sa_cons (se_gint (by rfl) T.g_MOST_VALUES) sa_nil)))))) (ss_one (s_raise (k := 2) rfl (T.xA 2 (by decide)) T.i_2 hr tk (by rfl) T.c_BadProgram (sa_cons se_str sa_nil))) ss_nil)
    (ss_cons (s_ifld n_own_levels T.fl_own_levels (se_var (pv 0)) (se_var (pv 1)))
    (ss_cons (s_ifld n_own_size T.fl_own_size (se_var (pv 0)) (se_var (pv 2)))
    (ss_cons (s_if (st_w (sw_or (st_not (st_tru (se_callP (G_are_words T TB) hG (hr.mono (by decide)) tk (by rfl) T.g_are_words T.are_words.F.kp T.are_words.b (sa_cons (se_var (pv 3)) (sa_cons se_int (sa_cons (se_gint (by rfl) T.g_MOST_CELLS) sa_nil)))))) (sw_or1 (st_not (st_tru (se_callB (cr_all rfl) cs_all (by rfl) T.b_all (by decide +kernel) (sa_cons (se_lock (c := (xVar 3)) (se_lc (own := [("cell", 8)]) rfl sc_Program___init__.nd (si_anyX rfl rfl (se_var (pv 3))) (blkOk_by (own := [("cell", 8)]) (N := ["self", "levels", "size", "start", "procedures", "lines", "main", "guards", "cell", "stores", "section", "word", "given", "spot"]) (sc := defScope s_Program___init__) (by decide +kernel)) (fun _ _ _ _ _ => (sg_name (pg_name (i := 8) sc_Program___init__.nd rfl (.inl rfl)))) (fun _ _ _ _ _ => sts_nil) (fun _ _ _ _ _ => (se_callP (G_is_within T TB) hG (hr.mono (by decide)) takes_none5 (by rfl) T.g_is_within T.is_within.F.kp T.is_within.b (sa_cons (se_ixX (T := tN) rfl rfl no_get hG (units65 hr) takes_none5 (se_var (pv 3)) (se_var (pv 8)) (fun _ _ => rfl) (fun _ _ => rfl)) (sa_cons se_int (sa_cons (se_op op_sub os_sub (se_var (pv 2)) se_int) sa_nil))))))) sa_nil))))))) (ss_one (s_raise (k := 2) rfl (T.xA 2 (by decide)) T.i_2 hr tk (by rfl) T.c_BadProgram (sa_cons se_str sa_nil))) ss_nil)
    (ss_cons (s_set (i := 9) sc_Program___init__.nd rfl (.inl rfl) se_int)
    (ss_cons (s_lock (c := (xVar 3)) (s_for po rfl (si_anyX rfl rfl (se_var (pv 3))) (sg_name (pg_name (i := 8) sc_Program___init__.nd rfl (.inl rfl)))
    (ss_one (s_set (i := 9) sc_Program___init__.nd rfl (.inl rfl) (se_op or_mul os_mul (se_var (pv 9)) (se_var (pv 2)))))))
    (ss_cons (s_if (st_cmp op_gt os_gt (se_var (pv 9)) (se_gint (by rfl) T.g_MOST_STORES) (nomark _)) (ss_one (s_raise (k := 2) rfl (T.xA 2 (by decide)) T.i_2 hr tk (by rfl) T.c_BadProgram (sa_cons se_str sa_nil))) ss_nil)
    (ss_cons (s_ifld n_firsts T.fl_firsts (se_var (pv 0)) (se_dc (own := [("cell", 8)]) rfl rfl (units65 hr) rfl sc_Program___init__.nd (si_anyX rfl rfl (se_sortK (k := 0) rfl rfl hG (hr.mono (by decide)) (TB _ T.l_Program___init__.hm) T.l_Program___init__.hc T.l_Program___init__.ht T.l_Program___init__.hu (by rfl) T.b_sorted T.b_str (fun _ _ _ _ _ _ => .of_eq rfl) (se_var (pv 3)))) (blkOk_by (own := [("cell", 8)]) (N := ["self", "levels", "size", "start", "procedures", "lines", "main", "guards", "cell", "stores", "section", "word", "given", "spot"]) (sc := defScope s_Program___init__) (by decide +kernel)) (fun _ _ _ _ _ => (sg_name (pg_name (i := 8) sc_Program___init__.nd rfl (.inl rfl)))) (fun _ _ _ _ _ => sts_nil) (fun _ _ _ _ _ => (se_var (pv 8))) (fun _ _ _ _ _ => (se_ixX (T := tN) rfl rfl no_get hG (units65 hr) takes_none5 (se_var (pv 3)) (se_var (pv 8)) (fun _ _ => rfl) (fun _ _ => rfl)))))
    (ss_cons (s_ifld n_lists T.fl_lists (se_var (pv 0)) se_dic0)
    (ss_cons (s_if (st_w (sw_or (st_not (st_tru (se_callP (G_are_words T TB) hG (hr.mono (by decide)) tk (by rfl) T.g_are_words T.are_words.F.kp T.are_words.b (sa_cons (se_var (pv 4)) (sa_cons se_int (sa_cons (se_gint (by rfl) T.g_MOST_PROCEDURES) sa_nil)))))) (sw_or1 (st_not (st_tru (se_methX n_keep_rows T.i_Program.cl T.m_Program_keep_rows (G_Program_keep_rows T TB) hG (hr.mono (by decide)) tk T.Program_keep_rows.b .nil noneR (se_var (pv 0)) (sa_cons (se_var (pv 4)) sa_nil))))))) (ss_one (s_raise (k := 2) rfl (T.xA 2 (by decide)) T.i_2 hr tk (by rfl) T.c_BadProgram (sa_cons se_str sa_nil))) ss_nil)
    (ss_cons (s_ifld n_own_sections T.fl_own_sections (se_var (pv 0)) (se_callP (G_sections_of T TB) hG (hr.mono (by decide)) tk (by rfl) T.g_sections_of T.sections_of.F.kp T.sections_of.b (sa_cons (se_ifld n_lists T.fl_lists (se_var (pv 0))) sa_nil)))
    (ss_cons (s_if (st_w (sw_or (st_cmp op_gt os_gt (se_bX (cx_len rfl rfl) (by rfl) T.b_len (by decide +kernel) (sa_cons (se_ifld n_own_sections T.fl_own_sections (se_var (pv 0))) sa_nil)) (se_gint (by rfl) T.g_MOST_SECTIONS) (nomark _)) (sw_or1 (st_tru (se_callP (G_has_ring T TB) hG (hr.mono (by decide)) tk (by rfl) T.g_has_ring T.has_ring.F.kp T.has_ring.b (sa_cons (se_ifld n_lists T.fl_lists (se_var (pv 0))) sa_nil)))))) (ss_one (s_raise (k := 2) rfl (T.xA 2 (by decide)) T.i_2 hr tk (by rfl) T.c_BadProgram (sa_cons se_str sa_nil))) ss_nil)
    (ss_cons (s_if (st_tru (se_callB (cr_any rfl) cs_any (by rfl) T.b_any (by decide +kernel) (sa_cons (se_lock (c := (xUn (insW (fun k => [5].contains k) 34497219483772407802267397747) (xVar 0))) (se_lc (own := [("section", 10)]) rfl sc_Program___init__.nd (si_anyX rfl rfl (se_ifld n_own_sections T.fl_own_sections (se_var (pv 0)))) (blkOk_by (own := [("section", 10)]) (N := ["self", "levels", "size", "start", "procedures", "lines", "main", "guards", "cell", "stores", "section", "word", "given", "spot"]) (sc := defScope s_Program___init__) (by decide +kernel)) (fun _ _ _ _ _ => (sg_name (pg_name (i := 10) sc_Program___init__.nd rfl (.inl rfl)))) (fun _ _ _ _ _ => sts_nil) (fun _ _ _ _ _ => (se_cmp (or_inA (T := tN) hG (units65 hr)) (os_inA (T := tN) rfl rfl no_tbl) (se_var (pv 10)) (se_ifld n_firsts T.fl_firsts (se_var (pv 0))) (by rfl))))) sa_nil))) (ss_one (s_raise (k := 2) rfl (T.xA 2 (by decide)) T.i_2 hr tk (by rfl) T.c_BadProgram (sa_cons se_str sa_nil))) ss_nil)
    (ss_cons (s_if (st_w (sw_or (st_not (st_tru (se_callP (G_are_words T TB) hG (hr.mono (by decide)) tk (by rfl) T.g_are_words T.are_words.F.kp T.are_words.b (sa_cons (se_var (pv 5)) (sa_cons se_int (sa_cons (se_gint (by rfl) T.g_MOST_LINES) sa_nil)))))) (sw_or1 (st_not (st_tru (se_callB (cr_all rfl) cs_all (by rfl) T.b_all (by decide +kernel) (sa_cons (se_lock (c := (xVar 5)) (se_lc (own := [("word", 11)]) rfl sc_Program___init__.nd (si_anyX rfl rfl (se_var (pv 5))) (blkOk_by (own := [("word", 11)]) (N := ["self", "levels", "size", "start", "procedures", "lines", "main", "guards", "cell", "stores", "section", "word", "given", "spot"]) (sc := defScope s_Program___init__) (by decide +kernel)) (fun _ _ _ _ _ => (sg_name (pg_name (i := 11) sc_Program___init__.nd rfl (.inl rfl)))) (fun _ _ _ _ _ => sts_nil) (fun _ _ _ _ _ => (se_methX n_is_served T.i_Program.cl T.m_Program_is_served (G_Program_is_served T TB) hG (hr.mono (by decide)) takes_none5 T.Program_is_served.b .nil noneR (se_var (pv 0)) (sa_cons (se_ixX (T := tN) rfl rfl no_get hG (units65 hr) takes_none5 (se_var (pv 5)) (se_var (pv 11)) (fun _ _ => rfl) (fun _ _ => rfl)) sa_nil))))) sa_nil))))))) (ss_one (s_raise (k := 2) rfl (T.xA 2 (by decide)) T.i_2 hr tk (by rfl) T.c_BadProgram (sa_cons se_str sa_nil))) ss_nil)
    (ss_cons (s_ifld n_own_lines T.fl_own_lines (se_var (pv 0)) (se_dc (own := [("word", 11)]) rfl rfl (units65 hr) rfl sc_Program___init__.nd (si_anyX rfl rfl (se_sortK (k := 0) rfl rfl hG (hr.mono (by decide)) (TB _ T.l_Program___init__.hm) T.l_Program___init__.hc T.l_Program___init__.ht T.l_Program___init__.hu (by rfl) T.b_sorted T.b_str (fun _ _ _ _ _ _ => .of_eq rfl) (se_var (pv 5)))) (blkOk_by (own := [("word", 11)]) (N := ["self", "levels", "size", "start", "procedures", "lines", "main", "guards", "cell", "stores", "section", "word", "given", "spot"]) (sc := defScope s_Program___init__) (by decide +kernel)) (fun _ _ _ _ _ => (sg_name (pg_name (i := 11) sc_Program___init__.nd rfl (.inl rfl)))) (fun _ _ _ _ _ => sts_nil) (fun _ _ _ _ _ => (se_var (pv 11))) (fun _ _ _ _ _ => (se_ixX (T := tN) rfl rfl no_get hG (units65 hr) takes_none5 (se_var (pv 5)) (se_var (pv 11)) (fun _ _ => rfl) (fun _ _ => rfl)))))
    (ss_cons (s_if (st_w (sw_or (st_not (st_tru (se_callP (G_is_word T TB) hG (hr.mono (by decide)) tk (by rfl) T.g_is_word T.is_word.F.kp T.is_word.b (sa_cons (se_var (pv 6)) sa_nil)))) (sw_or1 (st_cmp (or_notInA (T := tN) hG (units65 hr)) (os_notInA (T := tN) rfl rfl no_tbl) (se_var (pv 6)) (se_ifld n_lists T.fl_lists (se_var (pv 0))) (by rfl))))) (ss_one (s_raise (k := 2) rfl (T.xA 2 (by decide)) T.i_2 hr tk (by rfl) T.c_BadProgram (sa_cons se_str sa_nil))) ss_nil)
    (ss_cons (s_ifld n_own_main T.fl_own_main (se_var (pv 0)) (se_var (pv 6)))
    (ss_cons (s_ifld n_own_guards T.fl_own_guards (se_var (pv 0)) se_dic0)
    (ss_cons (s_if (st_not (st_tru (se_methX n_are_guards T.i_Program.cl T.m_Program_are_guards (G_Program_are_guards T TB) hG (hr.mono (by decide)) tk T.Program_are_guards.b .nil noneR (se_var (pv 0)) (sa_cons (se_if (st_cmp or_is os_is (se_var (pv 7)) se_non (nomark _)) se_dic0 (se_var (pv 7))) sa_nil)))) (ss_one (s_raise (k := 2) rfl (T.xA 2 (by decide)) T.i_2 hr tk (by rfl) T.c_BadProgram (sa_cons se_str sa_nil))) ss_nil)
    (ss_cons (s_set (i := 12) sc_Program___init__.nd rfl (.inr rfl) (se_if (st_cmp or_is os_is (se_var (pv 7)) se_non (nomark _)) se_dic0 (se_var (pv 7))))
    (ss_one (s_ifld n_own_guards T.fl_own_guards (se_var (pv 0)) (se_dc (own := [("spot", 13)]) rfl rfl (units65 hr) rfl sc_Program___init__.nd (si_anyX rfl rfl (se_methX0 n_spots T.i_Program.cl T.m_Program_spots (G_Program_spots T TB) hG (hr.mono (by decide)) tk T.Program_spots.b .nil noneR (se_var (pv 0)))) (blkOk_by (own := [("spot", 13)]) (N := ["self", "levels", "size", "start", "procedures", "lines", "main", "guards", "cell", "stores", "section", "word", "given", "spot"]) (sc := defScope s_Program___init__) (by decide +kernel)) (fun _ _ _ _ _ => (sg_name (pg_name (i := 13) sc_Program___init__.nd rfl (.inl rfl)))) (fun _ _ _ _ _ => (sts_one (st_cmp (or_inA (T := tN) hG (units65 hr)) (os_inA (T := tN) rfl rfl no_tbl) (se_var (pv 13)) (se_var (pv 12)) (by rfl)))) (fun _ _ _ _ _ => (se_var (pv 13))) (fun _ _ _ _ _ => (se_ixX (T := tN) rfl rfl no_get hG (units65 hr) takes_none5 (se_var (pv 12)) (se_var (pv 13)) (fun _ _ => rfl) (fun _ _ => rfl)))))))))))))))))))))))))))
theorem G_all_moves : FnG P w K mg base 6 T.all_moves.f T.all_moves.fd ["program", "state"] (spOf K (ctx P T) f_all_moves) :=
  fn_okG (k := 5) T.all_moves.F sc_all_moves fun A outer s H E X hX hG hr tk po =>
    (ss_cons (s_asg (se_callP (G_place_in T TB) hG (hr.mono (by decide)) tk (by rfl) T.g_place_in T.place_in.F.kp T.place_in.b (sa_cons (se_var (pv 1)) sa_nil)) (sg_tup rfl (.cons (pg_name (i := 2) sc_all_moves.nd rfl (.inl rfl)) (.cons (pg_name (i := 3) sc_all_moves.nd rfl (.inl rfl)) (.cons (pg_name (i := 4) sc_all_moves.nd rfl (.inl rfl)) (.cons (pg_name (i := 5) sc_all_moves.nd rfl (.inl rfl)) (.cons (pg_name (i := 6) sc_all_moves.nd rfl (.inl rfl)) (.cons (pg_name (i := 7) sc_all_moves.nd rfl (.inl rfl)) .nil))))))) (fun a b => ps_asg a b))
    (ss_cons (s_setLc (i := 8) (own := [("line", 9)]) rfl sc_all_moves.nd rfl rfl (sw_true rfl rfl rfl (by decide +kernel)) (si_anyX rfl rfl (se_callP (G_serving T TB) hG (hr.mono (by decide)) tk (by rfl) T.g_serving T.serving.F.kp T.serving.b (sa_cons (se_var (pv 0)) (sa_cons (se_var (pv 2)) (sa_cons (se_var (pv 3)) (sa_cons (se_var (pv 6)) sa_nil)))))) (blkOk_by (own := [("line", 9)]) (N := ["program", "state", "procedure", "point", "kept", "store", "mask", "floor", "found", "line", "choice", "later"]) (sc := defScope s_all_moves) (by decide +kernel)) (fun _ _ _ _ _ => (sg_name (pg_name (i := 9) sc_all_moves.nd rfl (.inl rfl)))) (fun _ _ _ _ _ => sts_nil) (fun _ _ _ _ _ => (se_tup (sa_cons (se_tup (sa_cons se_str (sa_cons (se_var (pv 9)) sa_nil))) (sa_cons (se_callP (G_begin_line T TB) hG (hr.mono (by decide)) takes_none5 (by rfl) T.g_begin_line T.begin_line.F.kp T.begin_line.b (sa_cons (se_var (pv 0)) (sa_cons (se_var (pv 1)) (sa_cons (se_var (pv 9)) sa_nil)))) sa_nil)))))
    (ss_cons (s_if (st_tru (se_callP (G_is_resting T TB) hG (hr.mono (by decide)) tk (by rfl) T.g_is_resting T.is_resting.F.kp T.is_resting.b (sa_cons (se_var (pv 0)) (sa_cons (se_var (pv 1)) sa_nil)))) (ss_one (s_ret (se_var (pv 8)))) ss_nil)
    (ss_one (s_ret (se_op or_add os_add (se_var (pv 8)) (se_lc (own := [("choice", 10), ("later", 11)]) rfl sc_all_moves.nd (si_anyX rfl rfl (se_callP (G_rows_behind T TB) hG (hr.mono (by decide)) tk (by rfl) T.g_rows_behind T.rows_behind.F.kp T.rows_behind.b (sa_cons (se_var (pv 0)) (sa_cons (se_var (pv 1)) sa_nil)))) (blkOk_by (own := [("choice", 10), ("later", 11)]) (N := ["program", "state", "procedure", "point", "kept", "store", "mask", "floor", "found", "line", "choice", "later"]) (sc := defScope s_all_moves) (by decide +kernel)) (fun _ _ _ _ _ => (sg_tup rfl (.cons (pg_name (i := 10) sc_all_moves.nd rfl (.inl rfl)) (.cons (pg_name (i := 11) sc_all_moves.nd rfl (.inl rfl)) .nil)))) (fun _ _ _ _ _ => sts_nil) (fun _ _ _ _ _ => (se_tup (sa_cons (se_tup (sa_cons se_str (sa_cons (se_var (pv 10)) sa_nil))) (sa_cons (se_var (pv 11)) sa_nil)))))))))))
theorem G_Watch_row_in : FnG P w K mg base 6 T.Watch_row_in.f T.Watch_row_in.fd ["self", "state"] (spOf K (ctx P T) f_Watch_row_in) :=
  fn_okG (k := 5) T.Watch_row_in.F sc_Watch_row_in fun A outer s H E X hX hG hr tk po =>
    (ss_cons (s_set (i := 2) sc_Watch_row_in.nd rfl (.inl rfl) (se_callP (G_place_in T TB) hG (hr.mono (by decide)) tk (by rfl) T.g_place_in T.place_in.F.kp T.place_in.b (sa_cons (se_var (pv 1)) sa_nil)))
    (ss_cons (s_set (i := 3) sc_Watch_row_in.nd rfl (.inl rfl) (se_ixX (T := (fun k => if k = 5 then some f_Program___getitem__ else none)) rfl rfl (fun k fn e => by
      by_cases c : k = 5
      · subst c
        cases e
        exact ⟨⟨_, _, _, _, T.m_Program___getitem__, T.w_Program___getitem__, (G_Program___getitem__ T TB), (hr.mono (by decide)), T.Program___getitem__.b⟩⟩
      · rw [if_neg c] at e
        cases e) hG (units65 hr) tk (se_ifld n_source T.fl_source (se_var (pv 0))) (se_ixX (T := tN) rfl rfl no_get hG (units65 hr) tk (se_var (pv 2)) se_int (fun _ _ => rfl) (fun _ _ => rfl)) (fun _ _ => rfl) (fun _ _ => rfl)))
    (ss_one (s_ret (se_if (st_cmp op_lt os_lt (se_ixX (T := tN) rfl rfl no_get hG (units65 hr) tk (se_var (pv 2)) se_int (fun _ _ => rfl) (fun _ _ => rfl)) (se_bX (cx_len rfl rfl) (by rfl) T.b_len (by decide +kernel) (sa_cons (se_var (pv 3)) sa_nil)) (nomark _)) (se_ixX (T := tN) rfl rfl no_get hG (units65 hr) tk (se_var (pv 3)) (se_ixX (T := tN) rfl rfl no_get hG (units65 hr) tk (se_var (pv 2)) se_int (fun _ _ => rfl) (fun _ _ => rfl)) (fun _ _ => rfl) (fun _ _ => rfl)) se_non)))))
theorem G_Watch_looked : FnG P w K mg base 7 T.Watch_looked.f T.Watch_looked.fd ["self", "state", "notes"] (spOf K (ctx P T) f_Watch_looked) :=
  fn_okG (k := 6) T.Watch_looked.F sc_Watch_looked fun A outer s H E X hX hG hr tk po =>
    (ss_cons (s_set (i := 3) sc_Watch_looked.nd rfl (.inl rfl) (se_methX n_row_in T.i_Watch.cl T.m_Watch_row_in (G_Watch_row_in T TB) hG (hr.mono (by decide)) tk T.Watch_row_in.b .nil noneR (se_var (pv 0)) (sa_cons (se_var (pv 1)) sa_nil)))
    (ss_cons (s_set (i := 4) sc_Watch_looked.nd rfl (.inl rfl) (se_callP (G_place_in T TB) hG (hr.mono (by decide)) tk (by rfl) T.g_place_in T.place_in.F.kp T.place_in.b (sa_cons (se_var (pv 1)) sa_nil)))
    (ss_cons (s_if (st_cmp (or_eq hr.units) os_eq (se_var (pv 3)) (se_tup (sa_cons se_str (sa_cons (se_ifld n_one T.fl_one (se_var (pv 0))) sa_nil))) (nomark _)) (ss_cons (s_set (i := 5) sc_Watch_looked.nd rfl (.inl rfl) (se_ixX (T := tN) rfl rfl no_get hG (units65 hr) tk (se_ixX (T := tN) rfl rfl no_get hG (units65 hr) tk (se_var (pv 1)) se_int (fun _ _ => rfl) (fun _ _ => rfl)) (se_ifld n_at_one T.fl_at_one (se_var (pv 0))) (fun _ _ => rfl) (fun _ _ => rfl)))
    (ss_one (s_ret (se_tup (sa_star (se_slice (se_var (pv 2)) so_no (so_yes (se_un un_neg us_neg se_int))) (sa_cons (se_tup (sa_cons (se_ixX (T := tN) rfl rfl no_get hG (units65 hr) tk (se_var (pv 4)) se_int (fun _ _ => rfl) (fun _ _ => rfl)) (sa_cons (se_ixX (T := tN) rfl rfl no_get hG (units65 hr) tk (se_var (pv 4)) se_int (fun _ _ => rfl) (fun _ _ => rfl)) (sa_cons (se_var (pv 5)) (sa_cons (se_tup (sa_cons (se_ixX (T := tN) rfl rfl no_get hG (units65 hr) tk (se_ixX (T := tN) rfl rfl no_get hG (units65 hr) tk (se_var (pv 1)) se_int (fun _ _ => rfl) (fun _ _ => rfl)) (se_ifld n_at_other T.fl_at_other (se_var (pv 0))) (fun _ _ => rfl) (fun _ _ => rfl)) sa_nil)) sa_nil))))) sa_nil)))))) ss_nil)
    (ss_cons (s_if (st_cmp (or_eq hr.units) os_eq (se_var (pv 3)) (se_tup (sa_cons se_str (sa_cons (se_ifld n_other T.fl_other (se_var (pv 0))) sa_nil))) (nomark _)) (ss_one (s_ret (se_tup (sa_star (se_slice (se_var (pv 2)) so_no (so_yes (se_un un_neg us_neg se_int))) (sa_cons se_non sa_nil))))) ss_nil)
    (ss_one (s_ret (se_var (pv 2))))))))
theorem G_Watch_sight_at : FnG P w K mg base 7 T.Watch_sight_at.f T.Watch_sight_at.fd ["self", "state", "notes"] (spOf K (ctx P T) f_Watch_sight_at) :=
  fn_okG (k := 6) T.Watch_sight_at.F sc_Watch_sight_at fun A outer s H E X hX hG hr tk po =>
    (ss_cons (s_if (st_w (sw_or (st_cmp (or_ne hr.units) os_ne (se_methX n_row_in T.i_Watch.cl T.m_Watch_row_in (G_Watch_row_in T TB) hG (hr.mono (by decide)) tk T.Watch_row_in.b .nil noneR (se_var (pv 0)) (sa_cons (se_var (pv 1)) sa_nil)) (se_tup (sa_cons se_str (sa_cons (se_ifld n_other T.fl_other (se_var (pv 0))) sa_nil))) (nomark _)) (sw_or1 (st_cmp or_is os_is (se_ixX (T := tN) rfl rfl no_get hG (units65 hr) tk (se_var (pv 2)) (se_un un_neg us_neg se_int) (fun _ _ => rfl) (fun _ _ => rfl)) se_non (nomark _))))) (ss_one (s_ret se_non)) ss_nil)
    (ss_cons (s_set (i := 3) sc_Watch_sight_at.nd rfl (.inl rfl) (se_callP (G_place_in T TB) hG (hr.mono (by decide)) tk (by rfl) T.g_place_in T.place_in.F.kp T.place_in.b (sa_cons (se_var (pv 1)) sa_nil)))
    (ss_cons (s_set (i := 4) sc_Watch_sight_at.nd rfl (.inl rfl) (se_ixX (T := tN) rfl rfl no_get hG (units65 hr) tk (se_ixX (T := tN) rfl rfl no_get hG (units65 hr) tk (se_var (pv 1)) se_int (fun _ _ => rfl) (fun _ _ => rfl)) (se_ifld n_at_other T.fl_at_other (se_var (pv 0))) (fun _ _ => rfl) (fun _ _ => rfl)))
    (ss_cons (s_set (i := 5) sc_Watch_sight_at.nd rfl (.inl rfl) (se_ixX (T := tN) rfl rfl no_get hG (units65 hr) tk (se_var (pv 2)) (se_un un_neg us_neg se_int) (fun _ _ => rfl) (fun _ _ => rfl)))
    (ss_one (s_ret (se_tup (sa_star (se_slice (se_var (pv 5)) so_no (so_yes se_int)) (sa_cons (se_ixX (T := tN) rfl rfl no_get hG (units65 hr) tk (se_var (pv 3)) se_int (fun _ _ => rfl) (fun _ _ => rfl)) (sa_cons (se_ixX (T := tN) rfl rfl no_get hG (units65 hr) tk (se_var (pv 3)) se_int (fun _ _ => rfl) (fun _ _ => rfl)) (sa_cons (se_var (pv 4)) (sa_cons (se_cmp (or_notInA (T := tN) hG (units65 hr)) (os_notInA (T := tN) rfl rfl no_tbl) (se_var (pv 4)) (se_ixX (T := tN) rfl rfl no_get hG (units65 hr) tk (se_var (pv 5)) se_int (fun _ _ => rfl) (fun _ _ => rfl)) (by rfl)) sa_nil))))))))))))
theorem G_Watch_behind : FnG P w K mg base 8 T.Watch_behind.f T.Watch_behind.fd ["self", "state", "notes", "move", "later"] (spOf K (ctx P T) f_Watch_behind) :=
  fn_okG (k := 7) T.Watch_behind.F sc_Watch_behind fun A outer s H E X hX hG hr tk po =>
    (ss_cons (s_if (st_cmp (or_eq hr.units) os_eq (se_ixX (T := tN) rfl rfl no_get hG (units65 hr) tk (se_var (pv 3)) se_int (fun _ _ => rfl) (fun _ _ => rfl)) se_str (nomark _)) (ss_one (s_set (i := 2) sc_Watch_behind.nd rfl (.inl rfl) (se_tup (sa_star (se_var (pv 2)) (sa_cons se_non sa_nil))))) (ss_one (s_if (st_cmp op_lt os_lt (se_bX (cx_len rfl rfl) (by rfl) T.b_len (by decide +kernel) (sa_cons (se_ixX (T := tN) rfl rfl no_get hG (units65 hr) tk (se_var (pv 4)) se_int (fun _ _ => rfl) (fun _ _ => rfl)) sa_nil)) (se_bX (cx_len rfl rfl) (by rfl) T.b_len (by decide +kernel) (sa_cons (se_ixX (T := tN) rfl rfl no_get hG (units65 hr) tk (se_var (pv 1)) se_int (fun _ _ => rfl) (fun _ _ => rfl)) sa_nil)) (nomark _)) (ss_one (s_set (i := 2) sc_Watch_behind.nd rfl (.inl rfl) (se_slice (se_var (pv 2)) so_no (so_yes (se_un un_neg us_neg se_int))))) (ss_one (s_set (i := 2) sc_Watch_behind.nd rfl (.inl rfl) (se_methX n_looked T.i_Watch.cl T.m_Watch_looked (G_Watch_looked T TB) hG (hr.mono (by decide)) tk T.Watch_looked.b .nil noneR (se_var (pv 0)) (sa_cons (se_var (pv 1)) (sa_cons (se_var (pv 2)) sa_nil))))))))
    (ss_one (s_ret (se_callTy call_tuple_of cs_tup (by rfl) T.b_tuple (by decide +kernel) (sa_cons (se_lock (c := (xVar 2)) (se_lc (own := [("note", 5)]) rfl sc_Watch_behind.nd (si_anyX rfl rfl (se_var (pv 2))) (blkOk_by (own := [("note", 5)]) (N := ["self", "state", "notes", "move", "later", "note"]) (sc := defScope s_Watch_behind) (by decide +kernel)) (fun _ _ _ _ _ => (sg_name (pg_name (i := 5) sc_Watch_behind.nd rfl (.inl rfl)))) (fun _ _ _ _ _ => sts_nil) (fun _ _ _ _ _ => (se_methX n_noted T.i_Watch.cl T.m_Watch_noted (G_Watch_noted T TB) hG (hr.mono (by decide)) takes_none5 T.Watch_noted.b .nil noneR (se_var (pv 0)) (sa_cons (se_var (pv 5)) (sa_cons (se_ixX (T := tN) rfl rfl no_get hG (units65 hr) takes_none5 (se_var (pv 4)) se_int (fun _ _ => rfl) (fun _ _ => rfl)) sa_nil)))))) sa_nil)))))
theorem G__law_reader : FnG P w K mg base 8 T._law_reader.f T._law_reader.fd ["_law_guards", "_law_first"] (spOf K (ctx P T) f__law_reader) :=
  fn_okG (k := 7) T._law_reader.F sc__law_reader fun A outer s H E X hX hG hr tk po =>
    (ss_cons (s_set (i := 2) sc__law_reader.nd rfl (.inl rfl) (se_dic rfl rfl (units65 hr) (.cons se_str (se_lst (sa_cons (se_tup (sa_cons se_str (sa_cons se_str sa_nil))) (sa_cons (se_tup (sa_cons se_str (sa_cons se_str sa_nil))) sa_nil))) (.cons se_str (se_lst (sa_cons (se_tup (sa_cons se_str (sa_cons se_str (sa_cons (se_var (pv 1)) sa_nil)))) (sa_cons (se_tup (sa_cons se_str (sa_cons se_str (sa_cons (se_var (pv 1)) sa_nil)))) sa_nil))) .nil)) (by decide) (by decide)))
    (ss_one (s_ret (se_makeX (j := 5) T.mk_Program (G_Program___init__ T TB) hG (hr.mono (by decide)) tk (by rfl) T.c_Program T.Program___init__.b .nil noneR (sa_cons se_int (sa_cons se_int (sa_cons (se_dic rfl rfl (units65 hr) (.cons se_str se_int (.cons se_str se_int .nil)) (by decide) (by decide)) (sa_cons (se_var (pv 2)) (sa_cons (se_dic rfl rfl (units65 hr) (.cons se_str (se_tup (sa_cons se_int (sa_cons se_str sa_nil))) .nil) (by decide) (by decide)) (sa_cons se_str (sa_cons (se_var (pv 0)) sa_nil)))))))))))
theorem G__law_writer : FnG P w K mg base 8 T._law_writer.f T._law_writer.fd ["_law_guards"] (spOf K (ctx P T) f__law_writer) :=
  fn_okG (k := 7) T._law_writer.F sc__law_writer fun A outer s H E X hX hG hr tk po =>
    (ss_cons (s_set (i := 1) sc__law_writer.nd rfl (.inl rfl) (se_dic rfl rfl (units65 hr) (.cons se_str (se_lst (sa_cons (se_tup (sa_cons se_str (sa_cons se_str (sa_cons se_int sa_nil)))) (sa_cons (se_tup (sa_cons se_str (sa_cons se_str (sa_cons se_int sa_nil)))) sa_nil))) (.cons se_str (se_lst (sa_cons (se_tup (sa_cons se_str (sa_cons se_str sa_nil))) (sa_cons (se_tup (sa_cons se_str (sa_cons se_str sa_nil))) sa_nil))) .nil)) (by decide) (by decide)))
    (ss_one (s_ret (se_makeX (j := 5) T.mk_Program (G_Program___init__ T TB) hG (hr.mono (by decide)) tk (by rfl) T.c_Program T.Program___init__.b .nil noneR (sa_cons se_int (sa_cons se_int (sa_cons (se_dic rfl rfl (units65 hr) (.cons se_str se_int (.cons se_str se_int .nil)) (by decide) (by decide)) (sa_cons (se_var (pv 1)) (sa_cons (se_dic rfl rfl (units65 hr) (.cons se_str (se_tup (sa_cons se_int (sa_cons se_str sa_nil))) .nil) (by decide) (by decide)) (sa_cons se_str (sa_cons (se_var (pv 0)) sa_nil)))))))))))
theorem G__law_back : FnG P w K mg base 8 T._law_back.f T._law_back.fd [] (spOf K (ctx P T) f__law_back) :=
  fn_okG (k := 7) T._law_back.F sc__law_back fun A outer s H E X hX hG hr tk po =>
    (ss_cons (s_set (i := 0) sc__law_back.nd rfl (.inl rfl) (se_dic rfl rfl (units65 hr) (.cons se_str (se_lst (sa_cons (se_tup (sa_cons se_str (sa_cons se_str sa_nil))) (sa_cons (se_tup (sa_cons se_str (sa_cons se_str sa_nil))) sa_nil))) (.cons se_str (se_lst (sa_cons (se_tup (sa_cons se_str (sa_cons se_str (sa_cons se_int sa_nil)))) (sa_cons (se_tup (sa_cons se_str (sa_cons se_str (sa_cons se_int sa_nil)))) (sa_cons (se_tup (sa_cons se_str (sa_cons se_str (sa_cons se_int sa_nil)))) sa_nil)))) .nil)) (by decide) (by decide)))
    (ss_one (s_ret (se_makeX (j := 5) T.mk_Program (G_Program___init__ T TB) hG (hr.mono (by decide)) tk (by rfl) T.c_Program T.z_Program___init___2.b T.z_Program___init___2.v zr_Program___init___2 (sa_cons se_int (sa_cons se_int (sa_cons (se_dic rfl rfl (units65 hr) (.cons se_str se_int (.cons se_str se_int .nil)) (by decide) (by decide)) (sa_cons (se_var (pv 0)) (sa_cons (se_dic rfl rfl (units65 hr) (.cons se_str (se_tup (sa_cons se_int (sa_cons se_str sa_nil))) .nil) (by decide) (by decide)) sa_nil)))))))))
theorem G_Watch_find_all : FnG P w K mg base 9 T.Watch_find_all.f T.Watch_find_all.fd ["self", "queue"] (spOf K (ctx P T) f_Watch_find_all) :=
  fn_okG (k := 8) T.Watch_find_all.F sc_Watch_find_all fun A outer s H E X hX hG hr tk po =>
    (ss_cons (s_set (i := 2) sc_Watch_find_all.nd rfl (.inl rfl) se_int)
    (ss_one (s_while po (st_cmp op_lt os_lt (se_var (pv 2)) (se_bX (cx_len rfl rfl) (by rfl) T.b_len (by decide +kernel) (sa_cons (se_var (pv 1)) sa_nil)) (nomark _))
    (ss_cons (s_asg (se_ixX (T := tN) rfl rfl no_get hG (units65 hr) tk (se_var (pv 1)) (se_var (pv 2)) (fun _ _ => rfl) (fun _ _ => rfl)) (sg_tup rfl (.cons (pg_name (i := 3) sc_Watch_find_all.nd rfl (.inl rfl)) (.cons (pg_name (i := 4) sc_Watch_find_all.nd rfl (.inl rfl)) .nil))) (fun a b => ps_asg a b))
    (ss_cons (s_set (i := 5) sc_Watch_find_all.nd rfl (.inl rfl) (se_methX n_sight_at T.i_Watch.cl T.m_Watch_sight_at (G_Watch_sight_at T TB) hG (hr.mono (by decide)) tk T.Watch_sight_at.b .nil noneR (se_var (pv 0)) (sa_cons (se_var (pv 3)) (sa_cons (se_var (pv 4)) sa_nil))))
    (ss_cons (s_if (st_w (sw_and (st_cmp or_isnt os_isnt (se_var (pv 5)) se_non (nomark _)) (sw_and1 (st_cmp (or_notInA (T := tN) hG (units65 hr)) (os_notInA (T := tN) rfl rfl no_tbl) (se_var (pv 5)) (se_ifld n_seen T.fl_seen (se_var (pv 0))) (by rfl))))) (ss_one (s_asg (se_ixX (T := tN) rfl rfl no_get hG (units65 hr) tk (se_var (pv 1)) (se_var (pv 2)) (fun _ _ => rfl) (fun _ _ => rfl)) (sg_subX rfl rfl (units65 hr) (se_ifld n_seen T.fl_seen (se_var (pv 0))) (se_var (pv 5)) (fun a b c => pg_sub a b c)) (fun a b => ps_asg a b))) ss_nil)
    (ss_cons (s_for po rfl (si_anyX rfl rfl (se_callP (G_all_moves T TB) hG (hr.mono (by decide)) tk (by rfl) T.g_all_moves T.all_moves.F.kp T.all_moves.b (sa_cons (se_ifld n_source T.fl_source (se_var (pv 0))) (sa_cons (se_var (pv 3)) sa_nil)))) (sg_tup rfl (.cons (pg_name (i := 6) sc_Watch_find_all.nd rfl (.inl rfl)) (.cons (pg_name (i := 7) sc_Watch_find_all.nd rfl (.inl rfl)) .nil)))
    (ss_cons (s_set (i := 8) sc_Watch_find_all.nd rfl (.inl rfl) (se_tup (sa_cons (se_var (pv 7)) (sa_cons (se_methX n_behind T.i_Watch.cl T.m_Watch_behind (G_Watch_behind T TB) hG (hr.mono (by decide)) tk T.Watch_behind.b .nil noneR (se_var (pv 0)) (sa_cons (se_var (pv 3)) (sa_cons (se_var (pv 4)) (sa_cons (se_var (pv 6)) (sa_cons (se_var (pv 7)) sa_nil))))) sa_nil))))
    (ss_one (s_if (st_cmp (or_notInA (T := tN) hG (units65 hr)) (os_notInA (T := tN) rfl rfl no_tbl) (se_var (pv 8)) (se_ifld n_known T.fl_known (se_var (pv 0))) (by rfl)) (ss_cons (s_asg (se_tup (sa_cons (se_ixX (T := tN) rfl rfl no_get hG (units65 hr) tk (se_var (pv 1)) (se_var (pv 2)) (fun _ _ => rfl) (fun _ _ => rfl)) (sa_cons (se_var (pv 6)) sa_nil))) (sg_subX rfl rfl (units65 hr) (se_ifld n_known T.fl_known (se_var (pv 0))) (se_var (pv 8)) (fun a b c => pg_sub a b c)) (fun a b => ps_asg a b))
    (ss_one (s_expr (se_bm (T := .list) (se_var (pv 1)) (sa_cons (se_var (pv 8)) sa_nil) ms_append (fun a b => pe_bm PySem.F.plainAttrs_list PySem.F.slot_list_append PySem.F.type_list_append mt_append a b))))) ss_nil))))
    (ss_one (s_set (i := 2) sc_Watch_find_all.nd rfl (.inl rfl) (se_op or_add os_add (se_var (pv 2)) se_int))))))))))
theorem G_Watch___init__ : FnG P w K mg base 10 T.Watch___init__.f T.Watch___init__.fd ["self", "program", "one", "other"] (spOf K (ctx P T) f_Watch___init__) :=
  fn_okG (k := 9) T.Watch___init__.F sc_Watch___init__ fun A outer s H E X hX hG hr tk po =>
    (ss_cons (s_ifld n_source T.fl_source (se_var (pv 0)) (se_var (pv 1)))
    (ss_cons (s_ifld n_one T.fl_one (se_var (pv 0)) (se_var (pv 2)))
    (ss_cons (s_ifld n_other T.fl_other (se_var (pv 0)) (se_var (pv 3)))
    (ss_cons (s_ifld n_at_one T.fl_at_one (se_var (pv 0)) (se_callP (G_at_cell T TB) hG (hr.mono (by decide)) tk (by rfl) T.g_at_cell T.at_cell.F.kp T.at_cell.b (sa_cons (se_var (pv 1)) (sa_cons (se_var (pv 2)) sa_nil))))
    (ss_cons (s_ifld n_at_other T.fl_at_other (se_var (pv 0)) (se_callP (G_at_cell T TB) hG (hr.mono (by decide)) tk (by rfl) T.g_at_cell T.at_cell.F.kp T.at_cell.b (sa_cons (se_var (pv 1)) (sa_cons (se_var (pv 3)) sa_nil))))
    (ss_cons (s_set (i := 4) sc_Watch___init__.nd rfl (.inl rfl) (se_tup (sa_cons (se_callP (G_first_state T TB) hG (hr.mono (by decide)) tk (by rfl) T.g_first_state T.first_state.F.kp T.first_state.b (sa_cons (se_var (pv 1)) sa_nil)) (sa_cons (se_tup (sa_cons se_non sa_nil)) sa_nil))))
    (ss_cons (s_ifld n_known T.fl_known (se_var (pv 0)) (se_dic rfl rfl (units65 hr) (.cons (se_var (pv 4)) se_non .nil) (by decide) (by decide)))
    (ss_cons (s_ifld n_seen T.fl_seen (se_var (pv 0)) se_dic0)
    (ss_one (s_expr (se_methX n_find_all T.i_Watch.cl T.m_Watch_find_all (G_Watch_find_all T TB) hG (hr.mono (by decide)) tk T.Watch_find_all.b .nil noneR (se_var (pv 0)) (sa_cons (se_lst (sa_cons (se_var (pv 4)) sa_nil)) sa_nil))))))))))))
theorem G_pair_sights : FnG P w K mg base 12 T.pair_sights.f T.pair_sights.fd ["program", "one", "other"] (spOf K (ctx P T) f_pair_sights) :=
  fn_okG (k := 11) T.pair_sights.F sc_pair_sights fun A outer s H E X hX hG hr tk po =>
    (ss_cons (s_expr (se_callP (G_check_cells T TB) hG (hr.mono (by decide)) tk (by rfl) T.g_check_cells T.check_cells.F.kp T.check_cells.b (sa_cons (se_var (pv 0)) (sa_cons (se_var (pv 1)) (sa_cons (se_var (pv 2)) sa_nil)))))
    (ss_one (s_ret (se_callP (G_in_order T TB) hG (hr.mono (by decide)) tk (by rfl) T.g_in_order T.in_order.F.kp T.in_order.b (sa_cons (se_tX (cx_list rfl rfl hr.hd) (by rfl) T.b_list (by decide +kernel) (sa_cons (se_ifld n_seen T.fl_seen (se_makeX (j := 6) T.mk_Watch (G_Watch___init__ T TB) hG (hr.mono (by decide)) tk (by rfl) T.c_Watch T.Watch___init__.b .nil noneR (sa_cons (se_var (pv 0)) (sa_cons (se_var (pv 1)) (sa_cons (se_var (pv 2)) sa_nil))))) sa_nil)) sa_nil)))))
theorem G_torn_script : FnG P w K mg base 12 T.torn_script.f T.torn_script.fd ["program", "one", "other"] (spOf K (ctx P T) f_torn_script) :=
  fn_okG (k := 11) T.torn_script.F sc_torn_script fun A outer s H E X hX hG hr tk po =>
    (ss_cons (s_expr (se_callP (G_check_cells T TB) hG (hr.mono (by decide)) tk (by rfl) T.g_check_cells T.check_cells.F.kp T.check_cells.b (sa_cons (se_var (pv 0)) (sa_cons (se_var (pv 1)) (sa_cons (se_var (pv 2)) sa_nil)))))
    (ss_cons (s_set (i := 3) sc_torn_script.nd rfl (.inl rfl) (se_makeX (j := 6) T.mk_Watch (G_Watch___init__ T TB) hG (hr.mono (by decide)) tk (by rfl) T.c_Watch T.Watch___init__.b .nil noneR (sa_cons (se_var (pv 0)) (sa_cons (se_var (pv 1)) (sa_cons (se_var (pv 2)) sa_nil)))))
    (ss_cons (s_lock (c := (xUn (insW (fun k => [6].contains k) 1936024942) (xVar 3))) (s_for po rfl (si_anyX rfl rfl (se_ifld n_seen T.fl_seen (se_var (pv 3)))) (sg_name (pg_name (i := 4) sc_torn_script.nd rfl (.inl rfl)))
    (ss_one (s_if (st_tru (se_ixX (T := tN) rfl rfl no_get hG (units65 hr) tk (se_var (pv 4)) se_int (fun _ _ => rfl) (fun _ _ => rfl))) (ss_one (s_ret (se_methX n_script T.i_Watch.cl T.m_Watch_script (G_Watch_script T TB) hG (hr.mono (by decide)) tk T.Watch_script.b .nil noneR (se_var (pv 3)) (sa_cons (se_ixX (T := tN) rfl rfl no_get hG (units65 hr) tk (se_ifld n_seen T.fl_seen (se_var (pv 3))) (se_var (pv 4)) (fun _ _ => rfl) (fun _ _ => rfl)) sa_nil)))) ss_nil))))
    (ss_one (s_ret se_non)))))
theorem G_is_torn : FnG P w K mg base 13 T.is_torn.f T.is_torn.fd ["program", "one", "other"] (spOf K (ctx P T) f_is_torn) :=
  fn_okG (k := 12) T.is_torn.F sc_is_torn fun A outer s H E X hX hG hr tk po =>
    (ss_one (s_ret (se_callB (cr_any rfl) cs_any (by rfl) T.b_any (by decide +kernel) (sa_cons (se_lc (own := [("sight", 3)]) rfl sc_is_torn.nd (si_anyX rfl rfl (se_callP (G_pair_sights T TB) hG (hr.mono (by decide)) tk (by rfl) T.g_pair_sights T.pair_sights.F.kp T.pair_sights.b (sa_cons (se_var (pv 0)) (sa_cons (se_var (pv 1)) (sa_cons (se_var (pv 2)) sa_nil))))) (blkOk_by (own := [("sight", 3)]) (N := ["program", "one", "other", "sight"]) (sc := defScope s_is_torn) (by decide +kernel)) (fun _ _ _ _ _ => (sg_name (pg_name (i := 3) sc_is_torn.nd rfl (.inl rfl)))) (fun _ _ _ _ _ => sts_nil) (fun _ _ _ _ _ => (se_ixX (T := tN) rfl rfl no_get hG (units65 hr) takes_none5 (se_var (pv 3)) se_int (fun _ _ => rfl) (fun _ _ => rfl)))) sa_nil))))
theorem G__law_told : FnG P w K mg base 13 T._law_told.f T._law_told.fd ["_law_program", "_law_one", "_law_other"] (spOf K (ctx P T) f__law_told) :=
  fn_okG (k := 12) T._law_told.F sc__law_told fun A outer s H E X hX hG hr tk po =>
    (ss_cons (s_try T.tab T.xA (by decide) rfl rfl sc__law_told.nd rfl tk (fun W pn xe tk' po' => (ss_one (s_expr (se_callP (G_pair_sights T TB) hG (hr.mono (by decide)) tk' (by rfl) T.g_pair_sights T.pair_sights.F.kp T.pair_sights.b (sa_cons (se_var (pv 0)) (sa_cons (se_var (pv 1)) (sa_cons (se_var (pv 2)) sa_nil))))))) (.named (i := 3) ⟨by rfl, by decide, T.c_BadArgument⟩ rfl rfl (fun a pn => (ss_one (s_ret (se_lst (sa_cons se_str (sa_cons (se_xfield T.x_value (se_var (pv 3))) sa_nil)))))) (.named (i := 3) ⟨by rfl, by decide, T.c_BadCell⟩ rfl rfl (fun a pn => (ss_one (s_ret (se_lst (sa_cons se_str (sa_cons (se_xfield T.x_value (se_var (pv 3))) sa_nil)))))) .nil)))
    (ss_one (s_ret se_str)))
theorem G__law_seen : FnG P w K mg base 13 T._law_seen.f T._law_seen.fd ["_law_program"] (spOf K (ctx P T) f__law_seen) :=
  fn_okG (k := 12) T._law_seen.F sc__law_seen fun A outer s H E X hX hG hr tk po =>
    (ss_one (s_ret (se_lc (own := [("_law_sight", 1)]) rfl sc__law_seen.nd (si_anyX rfl rfl (se_callP (G_pair_sights T TB) hG (hr.mono (by decide)) tk (by rfl) T.g_pair_sights T.pair_sights.F.kp T.pair_sights.b (sa_cons (se_var (pv 0)) (sa_cons se_str (sa_cons se_str sa_nil))))) (blkOk_by (own := [("_law_sight", 1)]) (N := ["_law_program", "_law_sight"]) (sc := defScope s__law_seen) (by decide +kernel)) (fun _ _ _ _ _ => (sg_name (pg_name (i := 1) sc__law_seen.nd rfl (.inl rfl)))) (fun _ _ _ _ _ => sts_nil) (fun _ _ _ _ _ => (se_tup (sa_cons (se_ixX (T := tN) rfl rfl no_get hG (units65 hr) takes_none5 (se_var (pv 1)) se_int (fun _ _ => rfl) (fun _ _ => rfl)) (sa_cons (se_ixX (T := tN) rfl rfl no_get hG (units65 hr) takes_none5 (se_var (pv 1)) se_int (fun _ _ => rfl) (fun _ _ => rfl)) (sa_cons (se_ixX (T := tN) rfl rfl no_get hG (units65 hr) takes_none5 (se_var (pv 1)) se_int (fun _ _ => rfl) (fun _ _ => rfl)) sa_nil))))))))
theorem G_law : FnG P w K mg base 14 T.law.f T.law.fd ["_law_script"] (spOf K (ctx P T) f_law) :=
  fn_okG (k := 13) T.law.F sc_law fun A outer s H E X hX hG hr tk po =>
    (ss_cons (s_for po rfl (si_range1 (by rfl) T.b_range (sa_cons (se_callB (call_max2 rfl) cs_max2 (by rfl) T.b_max (by decide +kernel) (sa_cons se_int (sa_cons (se_callB (call_min2 rfl) cs_min2 (by rfl) T.b_min (by decide +kernel) (sa_cons (se_bX (cx_len rfl rfl) (by rfl) T.b_len (by decide +kernel) (sa_cons (se_var (pv 0)) sa_nil)) (sa_cons se_int sa_nil))) sa_nil))) sa_nil)) (sg_name (pg_name (i := 1) sc_law.nd rfl (.inl rfl)))
    (ss_iso (ss_app2 (ss_cons (s_set (i := 2) sc_law.nd rfl (.inl rfl) (se_callP (G__law_opened T TB) hG (hr.mono (by decide)) tk (by rfl) T.g__law_opened T._law_opened.F.kp T._law_opened.b (sa_cons (se_var (pv 0)) (sa_cons (se_var (pv 1)) (sa_cons se_int sa_nil)))))
    (ss_cons (s_set (i := 3) sc_law.nd rfl (.inl rfl) (se_op or_add os_add se_int (se_callP (G__law_draw T TB) hG (hr.mono (by decide)) tk (by rfl) T.g__law_draw T._law_draw.F.kp T._law_draw.b (sa_cons (se_var (pv 2)) (sa_cons se_int sa_nil)))))
    (ss_iso (ss_app2 (ss_cons (s_set (i := 4) sc_law.nd rfl (.inl rfl) (se_callP (G__law_sorted T TB) hG (hr.mono (by decide)) tk (by rfl) T.g__law_sorted T._law_sorted.F.kp T._law_sorted.b (sa_cons (se_lst (sa_cons (se_tup (sa_cons se_int (sa_cons se_int (sa_cons se_bl sa_nil)))) (sa_cons (se_tup (sa_cons se_int (sa_cons (se_var (pv 3)) (sa_cons se_bl sa_nil)))) (sa_cons (se_tup (sa_cons (se_var (pv 3)) (sa_cons (se_var (pv 3)) (sa_cons se_bl sa_nil)))) sa_nil)))) sa_nil)))
    (ss_cons (s_if (st_cmp (or_ne hr.units) os_ne (se_callP (G__law_sorted T TB) hG (hr.mono (by decide)) tk (by rfl) T.g__law_sorted T._law_sorted.F.kp T._law_sorted.b (sa_cons (se_callP (G__law_seen T TB) hG (hr.mono (by decide)) tk (by rfl) T.g__law_seen T._law_seen.F.kp T._law_seen.b (sa_cons (se_callP (G__law_reader T TB) hG (hr.mono (by decide)) tk (by rfl) T.g__law_reader T._law_reader.F.kp T._law_reader.b (sa_cons se_non (sa_cons (se_var (pv 3)) sa_nil))) sa_nil)) sa_nil)) (se_var (pv 4)) (nomark _)) (ss_one (s_ret se_bl)) ss_nil)
    (ss_iso (ss_app1 (ss_cons (s_if (st_cmp (or_ne hr.units) os_ne (se_bX (cx_len rfl rfl) (by rfl) T.b_len (by decide +kernel) (sa_cons (se_callP (G_torn_script T TB) hG (hr.mono (by decide)) tk (by rfl) T.g_torn_script T.torn_script.F.kp T.torn_script.b (sa_cons (se_callP (G__law_reader T TB) hG (hr.mono (by decide)) tk (by rfl) T.g__law_reader T._law_reader.F.kp T._law_reader.b (sa_cons se_non (sa_cons (se_var (pv 3)) sa_nil))) (sa_cons se_str (sa_cons se_str sa_nil)))) sa_nil)) se_int (nomark _)) (ss_one (s_ret se_bl)) ss_nil)
    (ss_iso (ss_app1 (ss_cons (s_if (st_tru (se_callP (G_is_torn T TB) hG (hr.mono (by decide)) tk (by rfl) T.g_is_torn T.is_torn.F.kp T.is_torn.b (sa_cons (se_callP (G__law_reader T TB) hG (hr.mono (by decide)) tk (by rfl) T.g__law_reader T._law_reader.F.kp T._law_reader.b (sa_cons (se_dic rfl rfl (units65 hr) (.cons (se_tup (sa_cons se_str (sa_cons se_int sa_nil))) se_int .nil) (by decide) (by decide)) (sa_cons (se_var (pv 3)) sa_nil))) (sa_cons se_str (sa_cons se_str sa_nil))))) (ss_one (s_ret se_bl)) ss_nil)
    (ss_iso (ss_app2 (ss_cons (s_set (i := 4) sc_law.nd rfl (.inl rfl) (se_callP (G__law_sorted T TB) hG (hr.mono (by decide)) tk (by rfl) T.g__law_sorted T._law_sorted.F.kp T._law_sorted.b (sa_cons (se_lst (sa_cons (se_tup (sa_cons se_int (sa_cons se_int (sa_cons se_bl sa_nil)))) (sa_cons (se_tup (sa_cons se_int (sa_cons se_int (sa_cons se_bl sa_nil)))) (sa_cons (se_tup (sa_cons se_int (sa_cons se_int (sa_cons se_bl sa_nil)))) sa_nil)))) sa_nil)))
    (ss_cons (s_if (st_cmp (or_ne hr.units) os_ne (se_callP (G__law_sorted T TB) hG (hr.mono (by decide)) tk (by rfl) T.g__law_sorted T._law_sorted.F.kp T._law_sorted.b (sa_cons (se_callP (G__law_seen T TB) hG (hr.mono (by decide)) tk (by rfl) T.g__law_seen T._law_seen.F.kp T._law_seen.b (sa_cons (se_callP (G__law_writer T TB) hG (hr.mono (by decide)) tk (by rfl) T.g__law_writer T._law_writer.F.kp T._law_writer.b (sa_cons se_non sa_nil)) sa_nil)) sa_nil)) (se_var (pv 4)) (nomark _)) (ss_one (s_ret se_bl)) ss_nil)
    (ss_iso (ss_app1 (ss_cons (s_if (st_tru (se_callP (G_is_torn T TB) hG (hr.mono (by decide)) tk (by rfl) T.g_is_torn T.is_torn.F.kp T.is_torn.b (sa_cons (se_callP (G__law_writer T TB) hG (hr.mono (by decide)) tk (by rfl) T.g__law_writer T._law_writer.F.kp T._law_writer.b (sa_cons se_non sa_nil)) (sa_cons se_str (sa_cons se_str sa_nil))))) (ss_one (s_ret se_bl)) ss_nil)
    (ss_iso (ss_app1 (ss_cons (s_if (st_cmp (or_inA (T := tN) hG (units65 hr)) (os_inA (T := tN) rfl rfl no_tbl) (se_tup (sa_cons se_int (sa_cons se_int (sa_cons se_bl sa_nil)))) (se_callP (G__law_seen T TB) hG (hr.mono (by decide)) tk (by rfl) T.g__law_seen T._law_seen.F.kp T._law_seen.b (sa_cons (se_callP (G__law_writer T TB) hG (hr.mono (by decide)) tk (by rfl) T.g__law_writer T._law_writer.F.kp T._law_writer.b (sa_cons (se_dic rfl rfl (units65 hr) (.cons (se_tup (sa_cons se_str (sa_cons se_int sa_nil))) se_int .nil) (by decide) (by decide)) sa_nil)) sa_nil)) (by rfl)) (ss_one (s_ret se_bl)) ss_nil)
    (ss_iso (ss_app1 (ss_cons (s_if (st_w (sw_or (st_tru (se_callP (G_is_torn T TB) hG (hr.mono (by decide)) tk (by rfl) T.g_is_torn T.is_torn.F.kp T.is_torn.b (sa_cons (se_callP0 (G__law_back T TB) hG (hr.mono (by decide)) tk (by rfl) T.g__law_back T._law_back.F.kp T._law_back.b) (sa_cons se_str (sa_cons se_str sa_nil))))) (sw_or1 (st_cmp (or_notInA (T := tN) hG (units65 hr)) (os_notInA (T := tN) rfl rfl no_tbl) (se_tup (sa_cons se_int (sa_cons se_int (sa_cons se_bl sa_nil)))) (se_callP (G__law_seen T TB) hG (hr.mono (by decide)) tk (by rfl) T.g__law_seen T._law_seen.F.kp T._law_seen.b (sa_cons (se_callP0 (G__law_back T TB) hG (hr.mono (by decide)) tk (by rfl) T.g__law_back T._law_back.F.kp T._law_back.b) sa_nil)) (by rfl))))) (ss_one (s_ret se_bl)) ss_nil)
    (ss_iso (ss_cons (s_set (i := 5) sc_law.nd rfl (.inl rfl) (se_callP (G__law_writer T TB) hG (hr.mono (by decide)) tk (by rfl) T.g__law_writer T._law_writer.F.kp T._law_writer.b (sa_cons se_non sa_nil)))
    (ss_one (s_for po rfl (si_anyX rfl rfl (se_lst (sa_cons se_non (sa_cons se_int (sa_cons se_str (sa_cons (se_lst (sa_cons se_str sa_nil)) (sa_cons se_str sa_nil))))))) (sg_name (pg_name (i := 6) sc_law.nd rfl (.inl rfl)))
    (ss_cons (s_if (st_cmp (or_ne hr.units) os_ne (se_callP (G__law_told T TB) hG (hr.mono (by decide)) tk (by rfl) T.g__law_told T._law_told.F.kp T._law_told.b (sa_cons (se_var (pv 6)) (sa_cons (se_var (pv 6)) (sa_cons (se_var (pv 6)) sa_nil)))) (se_lst (sa_cons se_str (sa_cons (se_var (pv 6)) sa_nil))) (nomark _)) (ss_one (s_ret se_bl)) ss_nil)
    (ss_cons (s_if (st_cmp (or_ne hr.units) os_ne (se_callP (G__law_told T TB) hG (hr.mono (by decide)) tk (by rfl) T.g__law_told T._law_told.F.kp T._law_told.b (sa_cons (se_var (pv 5)) (sa_cons (se_var (pv 6)) (sa_cons (se_var (pv 6)) sa_nil)))) (se_lst (sa_cons se_str (sa_cons (se_var (pv 6)) sa_nil))) (nomark _)) (ss_one (s_ret se_bl)) ss_nil)
    (ss_cons (s_if (st_cmp (or_ne hr.units) os_ne (se_callP (G__law_told T TB) hG (hr.mono (by decide)) tk (by rfl) T.g__law_told T._law_told.F.kp T._law_told.b (sa_cons (se_var (pv 5)) (sa_cons se_str (sa_cons (se_var (pv 6)) sa_nil)))) (se_lst (sa_cons se_str (sa_cons (se_var (pv 6)) sa_nil))) (nomark _)) (ss_one (s_ret se_bl)) ss_nil)
    (ss_one (s_if (st_cmp (or_ne hr.units) os_ne (se_callP (G__law_told T TB) hG (hr.mono (by decide)) tk (by rfl) T.g__law_told T._law_told.F.kp T._law_told.b (sa_cons (se_var (pv 5)) (sa_cons se_str (sa_cons se_str sa_nil)))) (se_lst (sa_cons se_str (sa_cons se_str sa_nil))) (nomark _)) (ss_one (s_ret se_bl)) ss_nil)))))))))))))))))))))))))))))))))))))
    (ss_one (s_ret se_bl)))
end
/-! ### the head -/
end Lw

set_option linter.all false
set_option maxRecDepth 100000
set_option maxHeartbeats 4000000
namespace Lw
open PySem L2 Sx
def fa0 : List (PySem.W.Frag → Bool) := [(He.Fa.glo "is_integer").ok,
  (He.Fa.glo "is_word").ok,
  (He.Fa.glo "has_ring").ok,
  (He.Fa.glo "check_program").ok,
  (He.Fa.glo "callee_at").ok,
  (He.Fa.glo "at_cell").ok,
  (He.Fa.glo "at_section").ok,
  (He.Fa.glo "put_in").ok,
  (He.Fa.glo "place_in").ok,
  (He.Fa.glo "frames_in").ok,
  (He.Fa.glo "begin_line").ok,
  (He.Fa.glo "come_back").ok,
  (He.Fa.glo "with_frames").ok,
  (He.Fa.glo "_law_numbers").ok,
  (He.Fa.glo "_law_draw").ok,
  (He.Fa.glo "is_within").ok,
  (He.Fa.glo "are_words").ok,
  (He.Fa.glo "points_behind").ok,
  (He.Fa.glo "is_resting").ok,
  (He.Fa.glo "check_cells").ok,
  (He.Fa.glo "_law_pool").ok,
  (He.Fa.glo "is_sign_part").ok,
  (He.Fa.glo "serving").ok,
  (He.Fa.glo "changed_store").ok,
  (He.Fa.glo "masked_by").ok,
  (He.Fa.glo "first_state").ok,
  (He.Fa.glo "_law_opened").ok,
  (He.Fa.glo "is_row").ok,
  (He.Fa.glo "sections_of").ok,
  (He.Fa.glo "row_ways").ok]
def fa1 : List (PySem.W.Frag → Bool) := [(He.Fa.glo "in_order").ok,
  (He.Fa.glo "_law_sorted").ok,
  (He.Fa.glo "rows_behind").ok,
  (He.Fa.glo "all_moves").ok,
  (He.Fa.glo "_law_reader").ok,
  (He.Fa.glo "_law_writer").ok,
  (He.Fa.glo "_law_back").ok,
  (He.Fa.glo "pair_sights").ok,
  (He.Fa.glo "torn_script").ok,
  (He.Fa.glo "is_torn").ok,
  (He.Fa.glo "_law_told").ok,
  (He.Fa.glo "_law_seen").ok,
  (He.Fa.glo "law").ok,
  (He.Fa.glo "LevelError").ok,
  (He.Fa.glo "BadArgument").ok,
  (He.Fa.glo "BadProgram").ok,
  (He.Fa.glo "BadProcedure").ok,
  (He.Fa.glo "BadCell").ok,
  (He.Fa.glo "Program").ok,
  (He.Fa.glo "Watch").ok,
  (He.Fa.glo "FORMS").ok,
  (He.Fa.free "all").ok,
  (He.Fa.free "any").ok,
  (He.Fa.free "bool").ok,
  (He.Fa.free "dict").ok,
  (He.Fa.free "int").ok,
  (He.Fa.free "isinstance").ok,
  (He.Fa.free "len").ok,
  (He.Fa.free "list").ok,
  (He.Fa.free "max").ok]
def fa2 : List (PySem.W.Frag → Bool) := [(He.Fa.free "min").ok,
  (He.Fa.free "range").ok,
  (He.Fa.free "sorted").ok,
  (He.Fa.free "str").ok,
  (He.Fa.free "tuple").ok,
  (He.Fa.free "zip").ok,
  (He.Fa.str "LETTERS" "abcdefghijklmnopqrstuvwxyz").ok,
  (He.Fa.int "MOST_CELLS" 6).ok,
  (He.Fa.int "MOST_LETTERS" 8).ok,
  (He.Fa.int "MOST_LEVELS" 4).ok,
  (He.Fa.int "MOST_LINES" 6).ok,
  (He.Fa.int "MOST_PROCEDURES" 12).ok,
  (He.Fa.int "MOST_ROWS" 24).ok,
  (He.Fa.int "MOST_SECTIONS" 3).ok,
  (He.Fa.int "MOST_STORES" 256).ok,
  (He.Fa.int "MOST_VALUES" 6).ok,
  fun K => ctabB K [He.ga K "LevelError", He.ga K "BadArgument", He.ga K "BadProgram", He.ga K "BadProcedure", He.ga K "BadCell", He.ga K "Program", He.ga K "Watch"] mroL exL,
  fun K => iclsB K (He.ga K "Program"),
  fun K => iclsB K (He.ga K "Watch"),
  (He.Fa.mkr "Program").ok,
  (He.Fa.mkr "Watch").ok,
  (He.Fa.meth "Program" "__contains__").ok,
  (He.Fa.meth "Program" "__getitem__").ok,
  (He.Fa.meth "Program" "are_guards").ok,
  (He.Fa.meth "Program" "cells").ok,
  (He.Fa.meth "Program" "first_store").ok,
  (He.Fa.meth "Program" "is_served").ok,
  (He.Fa.meth "Program" "is_spot").ok,
  (He.Fa.meth "Program" "keep_rows").ok,
  (He.Fa.meth "Program" "spots").ok]
def fa3 : List (PySem.W.Frag → Bool) := [(He.Fa.meth "Watch" "behind").ok,
  (He.Fa.meth "Watch" "find_all").ok,
  (He.Fa.meth "Watch" "looked").ok,
  (He.Fa.meth "Watch" "noted").ok,
  (He.Fa.meth "Watch" "row_in").ok,
  (He.Fa.meth "Watch" "script").ok,
  (He.Fa.meth "Watch" "sight_at").ok,
  fun K => PySem.W.fnIn K (He.ma K (He.ga K "Program") "__getitem__"),
  propB "Program" "levels",
  propB "Program" "main",
  propB "Program" "size",
  (He.Fa.noat "Watch" "at_one").ok,
  (He.Fa.noat "Watch" "at_other").ok,
  (He.Fa.noat "Program" "firsts").ok,
  (He.Fa.noat "Watch" "known").ok,
  (He.Fa.noat "Program" "lists").ok,
  (He.Fa.noat "Watch" "one").ok,
  (He.Fa.noat "Watch" "other").ok,
  (He.Fa.noat "Program" "own_guards").ok,
  (He.Fa.noat "Program" "own_levels").ok,
  (He.Fa.noat "Program" "own_lines").ok,
  (He.Fa.noat "Program" "own_main").ok,
  (He.Fa.noat "Program" "own_sections").ok,
  (He.Fa.noat "Program" "own_size").ok,
  (He.Fa.noat "Watch" "seen").ok,
  (He.Fa.noat "Watch" "source").ok,
  fun K => He.eqO (PySem.W.findIn K (.ref (He.ga K "BadArgument")) "value") (some none) && (He.eqO (PySem.W.findIn K (.ref (He.ga K "BadArgument")) "__init__") (some (some (.ref (pM "BadArgument" "__init__" K)))) && decide (PySem.W.typeIn K (.ref (pM "BadArgument" "__init__" K)) = some (.type "function"))),
  fun K => He.eqO (PySem.W.findIn K (.ref (He.ga K "BadProgram")) "part") (some none) && (He.eqO (PySem.W.findIn K (.ref (He.ga K "BadProgram")) "__init__") (some (some (.ref (pM "BadProgram" "__init__" K)))) && decide (PySem.W.typeIn K (.ref (pM "BadProgram" "__init__" K)) = some (.type "function"))),
  fun K => He.eqO (PySem.W.findIn K (.ref (He.ga K "BadProcedure")) "value") (some none) && (He.eqO (PySem.W.findIn K (.ref (He.ga K "BadProcedure")) "__init__") (some (some (.ref (pM "BadProcedure" "__init__" K)))) && decide (PySem.W.typeIn K (.ref (pM "BadProcedure" "__init__" K)) = some (.type "function"))),
  fun K => He.eqO (PySem.W.findIn K (.ref (He.ga K "BadCell")) "value") (some none) && (He.eqO (PySem.W.findIn K (.ref (He.ga K "BadCell")) "__init__") (some (some (.ref (pM "BadCell" "__init__" K)))) && decide (PySem.W.typeIn K (.ref (pM "BadCell" "__init__" K)) = some (.type "function")))]
def fn0 : List DefP := [⟨pG "is_integer", "is_integer", "is_integer", defArgs s_is_integer, defBody s_is_integer, defScope s_is_integer, []⟩,
  ⟨pG "is_word", "is_word", "is_word", defArgs s_is_word, defBody s_is_word, defScope s_is_word, []⟩,
  ⟨pG "has_ring", "has_ring", "has_ring", defArgs s_has_ring, defBody s_has_ring, defScope s_has_ring, []⟩,
  ⟨pM "Program" "spots", "spots", "Program.spots", defArgs s_Program_spots, defBody s_Program_spots, defScope s_Program_spots, []⟩,
  ⟨pW "Program" "levels", "levels", "Program.levels", defArgs s_Program_levels, defBody s_Program_levels, defScope s_Program_levels, []⟩,
  ⟨pW "Program" "size", "size", "Program.size", defArgs s_Program_size, defBody s_Program_size, defScope s_Program_size, []⟩,
  ⟨pW "Program" "main", "main", "Program.main", defArgs s_Program_main, defBody s_Program_main, defScope s_Program_main, []⟩,
  ⟨pM "Program" "cells", "cells", "Program.cells", defArgs s_Program_cells, defBody s_Program_cells, defScope s_Program_cells, []⟩,
  ⟨pM "Program" "first_store", "first_store", "Program.first_store", defArgs s_Program_first_store, defBody s_Program_first_store, defScope s_Program_first_store, []⟩,
  ⟨pG "check_program", "check_program", "check_program", defArgs s_check_program, defBody s_check_program, defScope s_check_program, []⟩,
  ⟨pG "callee_at", "callee_at", "callee_at", defArgs s_callee_at, defBody s_callee_at, defScope s_callee_at, []⟩,
  ⟨pG "at_cell", "at_cell", "at_cell", defArgs s_at_cell, defBody s_at_cell, defScope s_at_cell, []⟩,
  ⟨pG "at_section", "at_section", "at_section", defArgs s_at_section, defBody s_at_section, defScope s_at_section, []⟩,
  ⟨pG "put_in", "put_in", "put_in", defArgs s_put_in, defBody s_put_in, defScope s_put_in, []⟩,
  ⟨pG "place_in", "place_in", "place_in", defArgs s_place_in, defBody s_place_in, defScope s_place_in, []⟩,
  ⟨pG "frames_in", "frames_in", "frames_in", defArgs s_frames_in, defBody s_frames_in, defScope s_frames_in, []⟩,
  ⟨pG "begin_line", "begin_line", "begin_line", defArgs s_begin_line, defBody s_begin_line, defScope s_begin_line, []⟩,
  ⟨pG "come_back", "come_back", "come_back", defArgs s_come_back, defBody s_come_back, defScope s_come_back, []⟩,
  ⟨pG "with_frames", "with_frames", "with_frames", defArgs s_with_frames, defBody s_with_frames, defScope s_with_frames, []⟩,
  ⟨pM "Watch" "noted", "noted", "Watch.noted", defArgs s_Watch_noted, defBody s_Watch_noted, defScope s_Watch_noted, []⟩]
def fn1 : List DefP := [⟨pM "Watch" "script", "script", "Watch.script", defArgs s_Watch_script, defBody s_Watch_script, defScope s_Watch_script, []⟩,
  ⟨pG "_law_numbers", "_law_numbers", "_law_numbers", defArgs s__law_numbers, defBody s__law_numbers, defScope s__law_numbers, []⟩,
  ⟨pG "_law_draw", "_law_draw", "_law_draw", defArgs s__law_draw, defBody s__law_draw, defScope s__law_draw, []⟩,
  ⟨pG "is_within", "is_within", "is_within", defArgs s_is_within, defBody s_is_within, defScope s_is_within, []⟩,
  ⟨pG "are_words", "are_words", "are_words", defArgs s_are_words, defBody s_are_words, defScope s_are_words, []⟩,
  ⟨pM "Program" "__contains__", "__contains__", "Program.__contains__", defArgs s_Program___contains__, defBody s_Program___contains__, defScope s_Program___contains__, []⟩,
  ⟨pG "points_behind", "points_behind", "points_behind", defArgs s_points_behind, defBody s_points_behind, defScope s_points_behind, []⟩,
  ⟨pG "is_resting", "is_resting", "is_resting", defArgs s_is_resting, defBody s_is_resting, defScope s_is_resting, []⟩,
  ⟨pG "check_cells", "check_cells", "check_cells", defArgs s_check_cells, defBody s_check_cells, defScope s_check_cells, []⟩,
  ⟨pG "_law_pool", "_law_pool", "_law_pool", defArgs s__law_pool, defBody s__law_pool, defScope s__law_pool, []⟩,
  ⟨pG "is_sign_part", "is_sign_part", "is_sign_part", defArgs s_is_sign_part, defBody s_is_sign_part, defScope s_is_sign_part, []⟩,
  ⟨pM "Program" "is_served", "is_served", "Program.is_served", defArgs s_Program_is_served, defBody s_Program_is_served, defScope s_Program_is_served, []⟩,
  ⟨pM "Program" "is_spot", "is_spot", "Program.is_spot", defArgs s_Program_is_spot, defBody s_Program_is_spot, defScope s_Program_is_spot, []⟩,
  ⟨pG "serving", "serving", "serving", defArgs s_serving, defBody s_serving, defScope s_serving, []⟩,
  ⟨pG "changed_store", "changed_store", "changed_store", defArgs s_changed_store, defBody s_changed_store, defScope s_changed_store, []⟩,
  ⟨pG "masked_by", "masked_by", "masked_by", defArgs s_masked_by, defBody s_masked_by, defScope s_masked_by, []⟩,
  ⟨pG "first_state", "first_state", "first_state", defArgs s_first_state, defBody s_first_state, defScope s_first_state, []⟩,
  ⟨pG "_law_opened", "_law_opened", "_law_opened", defArgs s__law_opened, defBody s__law_opened, defScope s__law_opened, []⟩,
  ⟨pG "is_row", "is_row", "is_row", defArgs s_is_row, defBody s_is_row, defScope s_is_row, []⟩,
  ⟨pG "sections_of", "sections_of", "sections_of", defArgs s_sections_of, defBody s_sections_of, defScope s_sections_of, []⟩]
def fn2 : List DefP := [⟨pM "Program" "are_guards", "are_guards", "Program.are_guards", defArgs s_Program_are_guards, defBody s_Program_are_guards, defScope s_Program_are_guards, []⟩,
  ⟨pM "Program" "__getitem__", "__getitem__", "Program.__getitem__", defArgs s_Program___getitem__, defBody s_Program___getitem__, defScope s_Program___getitem__, []⟩,
  ⟨pG "row_ways", "row_ways", "row_ways", defArgs s_row_ways, defBody s_row_ways, defScope s_row_ways, []⟩,
  ⟨pG "in_order", "in_order", "in_order", defArgs s_in_order, defBody s_in_order, defScope s_in_order, []⟩,
  ⟨pG "_law_sorted", "_law_sorted", "_law_sorted", defArgs s__law_sorted, defBody s__law_sorted, defScope s__law_sorted, []⟩,
  ⟨pM "Program" "keep_rows", "keep_rows", "Program.keep_rows", defArgs s_Program_keep_rows, defBody s_Program_keep_rows, defScope s_Program_keep_rows, []⟩,
  ⟨pG "rows_behind", "rows_behind", "rows_behind", defArgs s_rows_behind, defBody s_rows_behind, defScope s_rows_behind, []⟩,
  ⟨pM "Program" "__init__", "__init__", "Program.__init__", defArgs s_Program___init__, defBody s_Program___init__, defScope s_Program___init__, [.str "main", .non]⟩,
  ⟨pG "all_moves", "all_moves", "all_moves", defArgs s_all_moves, defBody s_all_moves, defScope s_all_moves, []⟩,
  ⟨pM "Watch" "row_in", "row_in", "Watch.row_in", defArgs s_Watch_row_in, defBody s_Watch_row_in, defScope s_Watch_row_in, []⟩,
  ⟨pM "Watch" "looked", "looked", "Watch.looked", defArgs s_Watch_looked, defBody s_Watch_looked, defScope s_Watch_looked, []⟩,
  ⟨pM "Watch" "sight_at", "sight_at", "Watch.sight_at", defArgs s_Watch_sight_at, defBody s_Watch_sight_at, defScope s_Watch_sight_at, []⟩,
  ⟨pM "Watch" "behind", "behind", "Watch.behind", defArgs s_Watch_behind, defBody s_Watch_behind, defScope s_Watch_behind, []⟩,
  ⟨pG "_law_reader", "_law_reader", "_law_reader", defArgs s__law_reader, defBody s__law_reader, defScope s__law_reader, []⟩,
  ⟨pG "_law_writer", "_law_writer", "_law_writer", defArgs s__law_writer, defBody s__law_writer, defScope s__law_writer, []⟩,
  ⟨pG "_law_back", "_law_back", "_law_back", defArgs s__law_back, defBody s__law_back, defScope s__law_back, []⟩,
  ⟨pM "Watch" "find_all", "find_all", "Watch.find_all", defArgs s_Watch_find_all, defBody s_Watch_find_all, defScope s_Watch_find_all, []⟩,
  ⟨pM "Watch" "__init__", "__init__", "Watch.__init__", defArgs s_Watch___init__, defBody s_Watch___init__, defScope s_Watch___init__, []⟩,
  ⟨pG "pair_sights", "pair_sights", "pair_sights", defArgs s_pair_sights, defBody s_pair_sights, defScope s_pair_sights, []⟩,
  ⟨pG "torn_script", "torn_script", "torn_script", defArgs s_torn_script, defBody s_torn_script, defScope s_torn_script, []⟩]
def fn3 : List DefP := [⟨pG "is_torn", "is_torn", "is_torn", defArgs s_is_torn, defBody s_is_torn, defScope s_is_torn, []⟩,
  ⟨pG "_law_told", "_law_told", "_law_told", defArgs s__law_told, defBody s__law_told, defScope s__law_told, []⟩,
  ⟨pG "_law_seen", "_law_seen", "_law_seen", defArgs s__law_seen, defBody s__law_seen, defScope s__law_seen, []⟩,
  ⟨pG "law", "law", "law", defArgs s_law, defBody s_law, defScope s_law, []⟩,
  ⟨pM "BadArgument" "__init__", "__init__", "BadArgument.__init__", defArgs (clsS (topS 3) 0), defBody (clsS (topS 3) 0), defScope (clsS (topS 3) 0), []⟩,
  ⟨pM "BadProgram" "__init__", "__init__", "BadProgram.__init__", defArgs (clsS (topS 4) 0), defBody (clsS (topS 4) 0), defScope (clsS (topS 4) 0), []⟩,
  ⟨pM "BadProcedure" "__init__", "__init__", "BadProcedure.__init__", defArgs (clsS (topS 5) 0), defBody (clsS (topS 5) 0), defScope (clsS (topS 5) 0), []⟩,
  ⟨pM "BadCell" "__init__", "__init__", "BadCell.__init__", defArgs (clsS (topS 6) 0), defBody (clsS (topS 6) 0), defScope (clsS (topS 6) 0), []⟩]
def qs : List Str := ["Program.__init__", "Program.keep_rows", "sections_of", "in_order", "_law_sorted"]
def fcts : Facts := ⟨fa0 ++ fa1 ++ fa2 ++ fa3, fn0 ++ fn1 ++ fn2 ++ fn3, [r_FORMS], [pM "Program" "__init__", pM "Program" "keep_rows", pG "sections_of", pG "in_order", pG "_law_sorted"]⟩
def nm0 : List PySem.Str := ["_wall", "LevelError", "BadArgument", "BadProgram", "BadProcedure", "BadCell", "LETTERS", "MOST_LETTERS", "MOST_LEVELS", "MOST_VALUES", "MOST_CELLS", "MOST_STORES", "MOST_PROCEDURES", "MOST_ROWS", "MOST_LINES", "MOST_SECTIONS", "FORMS", "is_integer", "is_within", "is_word", "are_words", "is_sign_part", "is_row", "sections_of", "has_ring", "Program", "check_program", "serving", "callee_at", "at_cell"]
def nm1 : List PySem.Str := ["at_section", "put_in", "changed_store", "masked_by", "points_behind", "row_ways", "first_state", "place_in", "frames_in", "is_resting", "begin_line", "come_back", "with_frames", "rows_behind", "all_moves", "in_order", "check_cells", "Watch", "pair_sights", "is_torn", "torn_script", "_law_numbers", "_law_pool", "_law_draw", "_law_sorted", "_law_opened", "_law_reader", "_law_writer", "_law_back", "_law_told"]
def nm2 : List PySem.Str := ["_law_seen"]
def loose : List PySem.Str := nm0 ++ nm1 ++ nm2
abbrev RR : PySem.W.OpenRow := PySem.W.OpenLaw.row PySem.Challenge.rw_maskedlevels_k37_known_pairs
def ob (s : PySem.W.SharedT) : AlP := fcts.obs (HandSHeadRun.getT s)
theorem ob_eq (s : PySem.W.SharedT) : ob s = fcts.hook.obs s.abs := Facts.obs_eq (HandSHeadRun.getT_eq s)
set_option maxHeartbeats 0 in
theorem run (w : World) : HandSHeadRun.RunEq RR (PySem.W.view RR.prog [68]) fcts.hook ob 8000 loose w :=
  PySem.W.byRow2 "special-get-raises" (P := fun w => HandSHeadRun.RunEq RR (PySem.W.view RR.prog [68]) fcts.hook ob 8000 loose w) (fun w os => by kernel_rfl) (fun w os => by kernel_rfl) w
end Lw

set_option linter.all false
set_option maxRecDepth 100000
set_option maxHeartbeats 4000000
namespace Lw
open PySem L2 Sx
theorem facts {w : World} {K : PySem.W.Frag} {h : Heap} {mg : Str → Option Value} {fa : Addr} (X : K.In h) (Gl : h.Ns mainGlobals mg) (hfa : mg ("law" : Str) = some (.ref fa)) (c : Says fcts w h K) : ∃ T : Txt K mg w, T.law.f = fa ∧ T.cs = csOf fcts K ∧ T.tabs = tabsOf fcts qs K ∧ ∀ (s : Shared) (v : Value), BindsTo s T.law.fd ⟨[v], []⟩ [("_law_script", v)] := by
  have e0 := c.def_ 0
  obtain ⟨fd0, F0⟩ := DefP.funD e0.1 e0.2
  have B0 : Binds K fd0 ["value"] [] := FunD.bindsN (ps := ["value"]) F0 (fun _ _ _ _ _ _ us hl => match us, hl with | [_], _ => rfl)
  have e1 := c.def_ 1
  obtain ⟨fd1, F1⟩ := DefP.funD e1.1 e1.2
  have B1 : Binds K fd1 ["value"] [] := FunD.bindsN (ps := ["value"]) F1 (fun _ _ _ _ _ _ us hl => match us, hl with | [_], _ => rfl)
  have e2 := c.def_ 2
  obtain ⟨fd2, F2⟩ := DefP.funD e2.1 e2.2
  have B2 : Binds K fd2 ["lists"] [] := FunD.bindsN (ps := ["lists"]) F2 (fun _ _ _ _ _ _ us hl => match us, hl with | [_], _ => rfl)
  have e3 := c.def_ 3
  obtain ⟨fd3, F3⟩ := DefP.funD e3.1 e3.2
  have B3 : Binds K fd3 ["self"] [] := FunD.bindsN (ps := ["self"]) F3 (fun _ _ _ _ _ _ us hl => match us, hl with | [_], _ => rfl)
  have e4 := c.def_ 4
  obtain ⟨fd4, F4⟩ := DefP.funD e4.1 e4.2
  have B4 : Binds K fd4 ["self"] [] := FunD.bindsN (ps := ["self"]) F4 (fun _ _ _ _ _ _ us hl => match us, hl with | [_], _ => rfl)
  have e5 := c.def_ 5
  obtain ⟨fd5, F5⟩ := DefP.funD e5.1 e5.2
  have B5 : Binds K fd5 ["self"] [] := FunD.bindsN (ps := ["self"]) F5 (fun _ _ _ _ _ _ us hl => match us, hl with | [_], _ => rfl)
  have e6 := c.def_ 6
  obtain ⟨fd6, F6⟩ := DefP.funD e6.1 e6.2
  have B6 : Binds K fd6 ["self"] [] := FunD.bindsN (ps := ["self"]) F6 (fun _ _ _ _ _ _ us hl => match us, hl with | [_], _ => rfl)
  have e7 := c.def_ 7
  obtain ⟨fd7, F7⟩ := DefP.funD e7.1 e7.2
  have B7 : Binds K fd7 ["self"] [] := FunD.bindsN (ps := ["self"]) F7 (fun _ _ _ _ _ _ us hl => match us, hl with | [_], _ => rfl)
  have e8 := c.def_ 8
  obtain ⟨fd8, F8⟩ := DefP.funD e8.1 e8.2
  have B8 : Binds K fd8 ["self"] [] := FunD.bindsN (ps := ["self"]) F8 (fun _ _ _ _ _ _ us hl => match us, hl with | [_], _ => rfl)
  have e9 := c.def_ 9
  obtain ⟨fd9, F9⟩ := DefP.funD e9.1 e9.2
  have B9 : Binds K fd9 ["program"] [] := FunD.bindsN (ps := ["program"]) F9 (fun _ _ _ _ _ _ us hl => match us, hl with | [_], _ => rfl)
  have e10 := c.def_ 10
  obtain ⟨fd10, F10⟩ := DefP.funD e10.1 e10.2
  have B10 : Binds K fd10 ["program", "procedure", "point"] [] := FunD.bindsN (ps := ["program", "procedure", "point"]) F10 (fun _ _ _ _ _ _ us hl => match us, hl with | [_, _, _], _ => rfl)
  have e11 := c.def_ 11
  obtain ⟨fd11, F11⟩ := DefP.funD e11.1 e11.2
  have B11 : Binds K fd11 ["program", "cell"] [] := FunD.bindsN (ps := ["program", "cell"]) F11 (fun _ _ _ _ _ _ us hl => match us, hl with | [_, _], _ => rfl)
  have e12 := c.def_ 12
  obtain ⟨fd12, F12⟩ := DefP.funD e12.1 e12.2
  have B12 : Binds K fd12 ["program", "section"] [] := FunD.bindsN (ps := ["program", "section"]) F12 (fun _ _ _ _ _ _ us hl => match us, hl with | [_, _], _ => rfl)
  have e13 := c.def_ 13
  obtain ⟨fd13, F13⟩ := DefP.funD e13.1 e13.2
  have B13 : Binds K fd13 ["store", "place", "value"] [] := FunD.bindsN (ps := ["store", "place", "value"]) F13 (fun _ _ _ _ _ _ us hl => match us, hl with | [_, _, _], _ => rfl)
  have e14 := c.def_ 14
  obtain ⟨fd14, F14⟩ := DefP.funD e14.1 e14.2
  have B14 : Binds K fd14 ["state"] [] := FunD.bindsN (ps := ["state"]) F14 (fun _ _ _ _ _ _ us hl => match us, hl with | [_], _ => rfl)
  have e15 := c.def_ 15
  obtain ⟨fd15, F15⟩ := DefP.funD e15.1 e15.2
  have B15 : Binds K fd15 ["state"] [] := FunD.bindsN (ps := ["state"]) F15 (fun _ _ _ _ _ _ us hl => match us, hl with | [_], _ => rfl)
  have e16 := c.def_ 16
  obtain ⟨fd16, F16⟩ := DefP.funD e16.1 e16.2
  have B16 : Binds K fd16 ["program", "state", "line"] [] := FunD.bindsN (ps := ["program", "state", "line"]) F16 (fun _ _ _ _ _ _ us hl => match us, hl with | [_, _, _], _ => rfl)
  have e17 := c.def_ 17
  obtain ⟨fd17, F17⟩ := DefP.funD e17.1 e17.2
  have B17 : Binds K fd17 ["state"] [] := FunD.bindsN (ps := ["state"]) F17 (fun _ _ _ _ _ _ us hl => match us, hl with | [_], _ => rfl)
  have e18 := c.def_ 18
  obtain ⟨fd18, F18⟩ := DefP.funD e18.1 e18.2
  have B18 : Binds K fd18 ["state", "store", "mask", "frames"] [] := FunD.bindsN (ps := ["state", "store", "mask", "frames"]) F18 (fun _ _ _ _ _ _ us hl => match us, hl with | [_, _, _, _], _ => rfl)
  have e19 := c.def_ 19
  obtain ⟨fd19, F19⟩ := DefP.funD e19.1 e19.2
  have B19 : Binds K fd19 ["self", "note", "store"] [] := FunD.bindsN (ps := ["self", "note", "store"]) F19 (fun _ _ _ _ _ _ us hl => match us, hl with | [_, _, _], _ => rfl)
  have e20 := c.def_ 20
  obtain ⟨fd20, F20⟩ := DefP.funD e20.1 e20.2
  have B20 : Binds K fd20 ["self", "found"] [] := FunD.bindsN (ps := ["self", "found"]) F20 (fun _ _ _ _ _ _ us hl => match us, hl with | [_, _], _ => rfl)
  have e21 := c.def_ 21
  obtain ⟨fd21, F21⟩ := DefP.funD e21.1 e21.2
  have B21 : Binds K fd21 ["_law_cell", "_law_salt", "_law_sizes"] [] := FunD.bindsN (ps := ["_law_cell", "_law_salt", "_law_sizes"]) F21 (fun _ _ _ _ _ _ us hl => match us, hl with | [_, _, _], _ => rfl)
  have e22 := c.def_ 22
  obtain ⟨fd22, F22⟩ := DefP.funD e22.1 e22.2
  have B22 : Binds K fd22 ["_law_pool_here", "_law_many"] [] := FunD.bindsN (ps := ["_law_pool_here", "_law_many"]) F22 (fun _ _ _ _ _ _ us hl => match us, hl with | [_, _], _ => rfl)
  have e23 := c.def_ 23
  obtain ⟨fd23, F23⟩ := DefP.funD e23.1 e23.2
  have B23 : Binds K fd23 ["value", "least", "most"] [] := FunD.bindsN (ps := ["value", "least", "most"]) F23 (fun _ _ _ _ _ _ us hl => match us, hl with | [_, _, _], _ => rfl)
  have e24 := c.def_ 24
  obtain ⟨fd24, F24⟩ := DefP.funD e24.1 e24.2
  have B24 : Binds K fd24 ["value", "least", "most"] [] := FunD.bindsN (ps := ["value", "least", "most"]) F24 (fun _ _ _ _ _ _ us hl => match us, hl with | [_, _, _], _ => rfl)
  have e25 := c.def_ 25
  obtain ⟨fd25, F25⟩ := DefP.funD e25.1 e25.2
  have B25 : Binds K fd25 ["self", "procedure"] [] := FunD.bindsN (ps := ["self", "procedure"]) F25 (fun _ _ _ _ _ _ us hl => match us, hl with | [_, _], _ => rfl)
  have e26 := c.def_ 26
  obtain ⟨fd26, F26⟩ := DefP.funD e26.1 e26.2
  have B26 : Binds K fd26 ["program", "row", "point", "store"] [] := FunD.bindsN (ps := ["program", "row", "point", "store"]) F26 (fun _ _ _ _ _ _ us hl => match us, hl with | [_, _, _, _], _ => rfl)
  have e27 := c.def_ 27
  obtain ⟨fd27, F27⟩ := DefP.funD e27.1 e27.2
  have B27 : Binds K fd27 ["program", "state"] [] := FunD.bindsN (ps := ["program", "state"]) F27 (fun _ _ _ _ _ _ us hl => match us, hl with | [_, _], _ => rfl)
  have e28 := c.def_ 28
  obtain ⟨fd28, F28⟩ := DefP.funD e28.1 e28.2
  have B28 : Binds K fd28 ["program", "one", "other"] [] := FunD.bindsN (ps := ["program", "one", "other"]) F28 (fun _ _ _ _ _ _ us hl => match us, hl with | [_, _, _], _ => rfl)
  have e29 := c.def_ 29
  obtain ⟨fd29, F29⟩ := DefP.funD e29.1 e29.2
  have B29 : Binds K fd29 ["_law_cell", "_law_salt", "_law_many"] [] := FunD.bindsN (ps := ["_law_cell", "_law_salt", "_law_many"]) F29 (fun _ _ _ _ _ _ us hl => match us, hl with | [_, _, _], _ => rfl)
  have e30 := c.def_ 30
  obtain ⟨fd30, F30⟩ := DefP.funD e30.1 e30.2
  have B30 : Binds K fd30 ["program", "sign", "value", "many"] [] := FunD.bindsN (ps := ["program", "sign", "value", "many"]) F30 (fun _ _ _ _ _ _ us hl => match us, hl with | [_, _, _, _], _ => rfl)
  have e31 := c.def_ 31
  obtain ⟨fd31, F31⟩ := DefP.funD e31.1 e31.2
  have B31 : Binds K fd31 ["self", "value"] [] := FunD.bindsN (ps := ["self", "value"]) F31 (fun _ _ _ _ _ _ us hl => match us, hl with | [_, _], _ => rfl)
  have e32 := c.def_ 32
  obtain ⟨fd32, F32⟩ := DefP.funD e32.1 e32.2
  have B32 : Binds K fd32 ["self", "value"] [] := FunD.bindsN (ps := ["self", "value"]) F32 (fun _ _ _ _ _ _ us hl => match us, hl with | [_, _], _ => rfl)
  have e33 := c.def_ 33
  obtain ⟨fd33, F33⟩ := DefP.funD e33.1 e33.2
  have B33 : Binds K fd33 ["program", "procedure", "point", "mask"] [] := FunD.bindsN (ps := ["program", "procedure", "point", "mask"]) F33 (fun _ _ _ _ _ _ us hl => match us, hl with | [_, _, _, _], _ => rfl)
  have e34 := c.def_ 34
  obtain ⟨fd34, F34⟩ := DefP.funD e34.1 e34.2
  have B34 : Binds K fd34 ["program", "row", "store"] [] := FunD.bindsN (ps := ["program", "row", "store"]) F34 (fun _ _ _ _ _ _ us hl => match us, hl with | [_, _, _], _ => rfl)
  have e35 := c.def_ 35
  obtain ⟨fd35, F35⟩ := DefP.funD e35.1 e35.2
  have B35 : Binds K fd35 ["program", "row", "kept", "store", "mask", "floor"] [] := FunD.bindsN (ps := ["program", "row", "kept", "store", "mask", "floor"]) F35 (fun _ _ _ _ _ _ us hl => match us, hl with | [_, _, _, _, _, _], _ => rfl)
  have e36 := c.def_ 36
  obtain ⟨fd36, F36⟩ := DefP.funD e36.1 e36.2
  have B36 : Binds K fd36 ["program"] [] := FunD.bindsN (ps := ["program"]) F36 (fun _ _ _ _ _ _ us hl => match us, hl with | [_], _ => rfl)
  have e37 := c.def_ 37
  obtain ⟨fd37, F37⟩ := DefP.funD e37.1 e37.2
  have B37 : Binds K fd37 ["_law_script", "_law_k", "_law_many"] [] := FunD.bindsN (ps := ["_law_script", "_law_k", "_law_many"]) F37 (fun _ _ _ _ _ _ us hl => match us, hl with | [_, _, _], _ => rfl)
  have e38 := c.def_ 38
  obtain ⟨fd38, F38⟩ := DefP.funD e38.1 e38.2
  have B38 : Binds K fd38 ["program", "value", "many"] [] := FunD.bindsN (ps := ["program", "value", "many"]) F38 (fun _ _ _ _ _ _ us hl => match us, hl with | [_, _, _], _ => rfl)
  have e39 := c.def_ 39
  obtain ⟨fd39, F39⟩ := DefP.funD e39.1 e39.2
  have B39 : Binds K fd39 ["lists"] [] := FunD.bindsN (ps := ["lists"]) F39 (fun _ _ _ _ _ _ us hl => match us, hl with | [_], _ => rfl)
  have e40 := c.def_ 40
  obtain ⟨fd40, F40⟩ := DefP.funD e40.1 e40.2
  have B40 : Binds K fd40 ["self", "value"] [] := FunD.bindsN (ps := ["self", "value"]) F40 (fun _ _ _ _ _ _ us hl => match us, hl with | [_, _], _ => rfl)
  have e41 := c.def_ 41
  obtain ⟨fd41, F41⟩ := DefP.funD e41.1 e41.2
  have B41 : Binds K fd41 ["self", "procedure"] [] := FunD.bindsN (ps := ["self", "procedure"]) F41 (fun _ _ _ _ _ _ us hl => match us, hl with | [_, _], _ => rfl)
  have e42 := c.def_ 42
  obtain ⟨fd42, F42⟩ := DefP.funD e42.1 e42.2
  have B42 : Binds K fd42 ["program", "procedure", "point", "kept", "store", "mask", "floor"] [] := FunD.bindsN (ps := ["program", "procedure", "point", "kept", "store", "mask", "floor"]) F42 (fun _ _ _ _ _ _ us hl => match us, hl with | [_, _, _, _, _, _, _], _ => rfl)
  have e43 := c.def_ 43
  obtain ⟨fd43, F43⟩ := DefP.funD e43.1 e43.2
  have B43 : Binds K fd43 ["items"] [] := FunD.bindsN (ps := ["items"]) F43 (fun _ _ _ _ _ _ us hl => match us, hl with | [_], _ => rfl)
  have e44 := c.def_ 44
  obtain ⟨fd44, F44⟩ := DefP.funD e44.1 e44.2
  have B44 : Binds K fd44 ["_law_some"] [] := FunD.bindsN (ps := ["_law_some"]) F44 (fun _ _ _ _ _ _ us hl => match us, hl with | [_], _ => rfl)
  have e45 := c.def_ 45
  obtain ⟨fd45, F45⟩ := DefP.funD e45.1 e45.2
  have B45 : Binds K fd45 ["self", "procedures"] [] := FunD.bindsN (ps := ["self", "procedures"]) F45 (fun _ _ _ _ _ _ us hl => match us, hl with | [_, _], _ => rfl)
  have e46 := c.def_ 46
  obtain ⟨fd46, F46⟩ := DefP.funD e46.1 e46.2
  have B46 : Binds K fd46 ["program", "state"] [] := FunD.bindsN (ps := ["program", "state"]) F46 (fun _ _ _ _ _ _ us hl => match us, hl with | [_, _], _ => rfl)
  have e47 := c.def_ 47
  obtain ⟨fd47, F47⟩ := DefP.funD e47.1 e47.2
  obtain ⟨zs47, zv47, zb47⟩ := FunD.binds1 (ps := ["self", "levels", "size", "start", "procedures", "lines", "main", "guards"]) F47 8 2 (List.cons_ne_nil _ _) rfl (fun _ _ _ _ _ _ _ us its hl hi => match us, its, hl, hi with | [_, _, _, _, _, _, _, _], [_, _], _, _ => ⟨_, rfl, rfl⟩)
  have B47 : Binds K fd47 ["self", "levels", "size", "start", "procedures", "lines", "main", "guards"] [] := by cases zv47; exact zb47
  obtain ⟨ys47_2, yv47_2, yb47_2⟩ := FunD.binds1 (ps := ["self", "levels", "size", "start", "procedures", "lines", "main", "guards"]) F47 6 0 (List.cons_ne_nil _ _) rfl (fun _ _ _ _ _ _ _ us its hl hi => match us, its, hl, hi with | [_, _, _, _, _, _], [_, _], _, _ => ⟨_, rfl, rfl⟩)
  have e48 := c.def_ 48
  obtain ⟨fd48, F48⟩ := DefP.funD e48.1 e48.2
  have B48 : Binds K fd48 ["program", "state"] [] := FunD.bindsN (ps := ["program", "state"]) F48 (fun _ _ _ _ _ _ us hl => match us, hl with | [_, _], _ => rfl)
  have e49 := c.def_ 49
  obtain ⟨fd49, F49⟩ := DefP.funD e49.1 e49.2
  have B49 : Binds K fd49 ["self", "state"] [] := FunD.bindsN (ps := ["self", "state"]) F49 (fun _ _ _ _ _ _ us hl => match us, hl with | [_, _], _ => rfl)
  have e50 := c.def_ 50
  obtain ⟨fd50, F50⟩ := DefP.funD e50.1 e50.2
  have B50 : Binds K fd50 ["self", "state", "notes"] [] := FunD.bindsN (ps := ["self", "state", "notes"]) F50 (fun _ _ _ _ _ _ us hl => match us, hl with | [_, _, _], _ => rfl)
  have e51 := c.def_ 51
  obtain ⟨fd51, F51⟩ := DefP.funD e51.1 e51.2
  have B51 : Binds K fd51 ["self", "state", "notes"] [] := FunD.bindsN (ps := ["self", "state", "notes"]) F51 (fun _ _ _ _ _ _ us hl => match us, hl with | [_, _, _], _ => rfl)
  have e52 := c.def_ 52
  obtain ⟨fd52, F52⟩ := DefP.funD e52.1 e52.2
  have B52 : Binds K fd52 ["self", "state", "notes", "move", "later"] [] := FunD.bindsN (ps := ["self", "state", "notes", "move", "later"]) F52 (fun _ _ _ _ _ _ us hl => match us, hl with | [_, _, _, _, _], _ => rfl)
  have e53 := c.def_ 53
  obtain ⟨fd53, F53⟩ := DefP.funD e53.1 e53.2
  have B53 : Binds K fd53 ["_law_guards", "_law_first"] [] := FunD.bindsN (ps := ["_law_guards", "_law_first"]) F53 (fun _ _ _ _ _ _ us hl => match us, hl with | [_, _], _ => rfl)
  have e54 := c.def_ 54
  obtain ⟨fd54, F54⟩ := DefP.funD e54.1 e54.2
  have B54 : Binds K fd54 ["_law_guards"] [] := FunD.bindsN (ps := ["_law_guards"]) F54 (fun _ _ _ _ _ _ us hl => match us, hl with | [_], _ => rfl)
  have e55 := c.def_ 55
  obtain ⟨fd55, F55⟩ := DefP.funD e55.1 e55.2
  have B55 : Binds K fd55 [] [] := FunD.bindsN (ps := []) F55 (fun _ _ _ _ _ _ us hl => match us, hl with | [], _ => rfl)
  have e56 := c.def_ 56
  obtain ⟨fd56, F56⟩ := DefP.funD e56.1 e56.2
  have B56 : Binds K fd56 ["self", "queue"] [] := FunD.bindsN (ps := ["self", "queue"]) F56 (fun _ _ _ _ _ _ us hl => match us, hl with | [_, _], _ => rfl)
  have e57 := c.def_ 57
  obtain ⟨fd57, F57⟩ := DefP.funD e57.1 e57.2
  have B57 : Binds K fd57 ["self", "program", "one", "other"] [] := FunD.bindsN (ps := ["self", "program", "one", "other"]) F57 (fun _ _ _ _ _ _ us hl => match us, hl with | [_, _, _, _], _ => rfl)
  have e58 := c.def_ 58
  obtain ⟨fd58, F58⟩ := DefP.funD e58.1 e58.2
  have B58 : Binds K fd58 ["program", "one", "other"] [] := FunD.bindsN (ps := ["program", "one", "other"]) F58 (fun _ _ _ _ _ _ us hl => match us, hl with | [_, _, _], _ => rfl)
  have e59 := c.def_ 59
  obtain ⟨fd59, F59⟩ := DefP.funD e59.1 e59.2
  have B59 : Binds K fd59 ["program", "one", "other"] [] := FunD.bindsN (ps := ["program", "one", "other"]) F59 (fun _ _ _ _ _ _ us hl => match us, hl with | [_, _, _], _ => rfl)
  have e60 := c.def_ 60
  obtain ⟨fd60, F60⟩ := DefP.funD e60.1 e60.2
  have B60 : Binds K fd60 ["program", "one", "other"] [] := FunD.bindsN (ps := ["program", "one", "other"]) F60 (fun _ _ _ _ _ _ us hl => match us, hl with | [_, _, _], _ => rfl)
  have e61 := c.def_ 61
  obtain ⟨fd61, F61⟩ := DefP.funD e61.1 e61.2
  have B61 : Binds K fd61 ["_law_program", "_law_one", "_law_other"] [] := FunD.bindsN (ps := ["_law_program", "_law_one", "_law_other"]) F61 (fun _ _ _ _ _ _ us hl => match us, hl with | [_, _, _], _ => rfl)
  have e62 := c.def_ 62
  obtain ⟨fd62, F62⟩ := DefP.funD e62.1 e62.2
  have B62 : Binds K fd62 ["_law_program"] [] := FunD.bindsN (ps := ["_law_program"]) F62 (fun _ _ _ _ _ _ us hl => match us, hl with | [_], _ => rfl)
  have e63 := c.def_ 63
  obtain ⟨fd63, F63⟩ := DefP.funD e63.1 e63.2
  have B63 : Binds K fd63 ["_law_script"] [] := FunD.bindsN (ps := ["_law_script"]) F63 (fun _ _ _ _ _ _ us hl => match us, hl with | [_], _ => rfl)
  have el := hfa.symm.trans (He.glo_ok X Gl (c.fact 42))
  cases el
  obtain ⟨l0⟩ := lamAt_of (qs := qs) c (⟨_, fd47, F47, B47⟩ : DefX K "__init__" "Program.__init__" s_Program___init__ ["self", "levels", "size", "start", "procedures", "lines", "main", "guards"] _) rfl 0 rfl rfl
  obtain ⟨l1⟩ := lamAt_of (qs := qs) c (⟨_, fd45, F45, B45⟩ : DefX K "keep_rows" "Program.keep_rows" s_Program_keep_rows ["self", "procedures"] _) rfl 1 rfl rfl
  obtain ⟨l2⟩ := lamAt_of (qs := qs) c (⟨_, fd39, F39, B39⟩ : DefX K "sections_of" "sections_of" s_sections_of ["lists"] _) rfl 2 rfl rfl
  obtain ⟨l3⟩ := lamAt_of (qs := qs) c (⟨_, fd43, F43, B43⟩ : DefX K "in_order" "in_order" s_in_order ["items"] _) rfl 3 rfl rfl
  obtain ⟨l4⟩ := lamAt_of (qs := qs) c (⟨_, fd44, F44, B44⟩ : DefX K "_law_sorted" "_law_sorted" s__law_sorted ["_law_some"] _) rfl 4 rfl rfl
  have qt : ctabB K [He.ga K "LevelError", He.ga K "BadArgument", He.ga K "BadProgram", He.ga K "BadProcedure", He.ga K "BadCell", He.ga K "Program", He.ga K "Watch"] mroL exL = true := (c.fact 76)
  refine ⟨{
    is_integer := ⟨_, fd0, F0, B0⟩
    g_is_integer := He.glo_ok X Gl (c.fact 0)
    is_word := ⟨_, fd1, F1, B1⟩
    g_is_word := He.glo_ok X Gl (c.fact 1)
    has_ring := ⟨_, fd2, F2, B2⟩
    g_has_ring := He.glo_ok X Gl (c.fact 2)
    Program_spots := ⟨_, fd3, F3, B3⟩
    Program_levels := ⟨_, fd4, F4, B4⟩
    Program_size := ⟨_, fd5, F5, B5⟩
    Program_main := ⟨_, fd6, F6, B6⟩
    Program_cells := ⟨_, fd7, F7, B7⟩
    Program_first_store := ⟨_, fd8, F8, B8⟩
    check_program := ⟨_, fd9, F9, B9⟩
    g_check_program := He.glo_ok X Gl (c.fact 3)
    callee_at := ⟨_, fd10, F10, B10⟩
    g_callee_at := He.glo_ok X Gl (c.fact 4)
    at_cell := ⟨_, fd11, F11, B11⟩
    g_at_cell := He.glo_ok X Gl (c.fact 5)
    at_section := ⟨_, fd12, F12, B12⟩
    g_at_section := He.glo_ok X Gl (c.fact 6)
    put_in := ⟨_, fd13, F13, B13⟩
    g_put_in := He.glo_ok X Gl (c.fact 7)
    place_in := ⟨_, fd14, F14, B14⟩
    g_place_in := He.glo_ok X Gl (c.fact 8)
    frames_in := ⟨_, fd15, F15, B15⟩
    g_frames_in := He.glo_ok X Gl (c.fact 9)
    begin_line := ⟨_, fd16, F16, B16⟩
    g_begin_line := He.glo_ok X Gl (c.fact 10)
    come_back := ⟨_, fd17, F17, B17⟩
    g_come_back := He.glo_ok X Gl (c.fact 11)
    with_frames := ⟨_, fd18, F18, B18⟩
    g_with_frames := He.glo_ok X Gl (c.fact 12)
    Watch_noted := ⟨_, fd19, F19, B19⟩
    Watch_script := ⟨_, fd20, F20, B20⟩
    _law_numbers := ⟨_, fd21, F21, B21⟩
    g__law_numbers := He.glo_ok X Gl (c.fact 13)
    _law_draw := ⟨_, fd22, F22, B22⟩
    g__law_draw := He.glo_ok X Gl (c.fact 14)
    is_within := ⟨_, fd23, F23, B23⟩
    g_is_within := He.glo_ok X Gl (c.fact 15)
    are_words := ⟨_, fd24, F24, B24⟩
    g_are_words := He.glo_ok X Gl (c.fact 16)
    Program___contains__ := ⟨_, fd25, F25, B25⟩
    points_behind := ⟨_, fd26, F26, B26⟩
    g_points_behind := He.glo_ok X Gl (c.fact 17)
    is_resting := ⟨_, fd27, F27, B27⟩
    g_is_resting := He.glo_ok X Gl (c.fact 18)
    check_cells := ⟨_, fd28, F28, B28⟩
    g_check_cells := He.glo_ok X Gl (c.fact 19)
    _law_pool := ⟨_, fd29, F29, B29⟩
    g__law_pool := He.glo_ok X Gl (c.fact 20)
    is_sign_part := ⟨_, fd30, F30, B30⟩
    g_is_sign_part := He.glo_ok X Gl (c.fact 21)
    Program_is_served := ⟨_, fd31, F31, B31⟩
    Program_is_spot := ⟨_, fd32, F32, B32⟩
    serving := ⟨_, fd33, F33, B33⟩
    g_serving := He.glo_ok X Gl (c.fact 22)
    changed_store := ⟨_, fd34, F34, B34⟩
    g_changed_store := He.glo_ok X Gl (c.fact 23)
    masked_by := ⟨_, fd35, F35, B35⟩
    g_masked_by := He.glo_ok X Gl (c.fact 24)
    first_state := ⟨_, fd36, F36, B36⟩
    g_first_state := He.glo_ok X Gl (c.fact 25)
    _law_opened := ⟨_, fd37, F37, B37⟩
    g__law_opened := He.glo_ok X Gl (c.fact 26)
    is_row := ⟨_, fd38, F38, B38⟩
    g_is_row := He.glo_ok X Gl (c.fact 27)
    sections_of := ⟨_, fd39, F39, B39⟩
    g_sections_of := He.glo_ok X Gl (c.fact 28)
    Program_are_guards := ⟨_, fd40, F40, B40⟩
    Program___getitem__ := ⟨_, fd41, F41, B41⟩
    row_ways := ⟨_, fd42, F42, B42⟩
    g_row_ways := He.glo_ok X Gl (c.fact 29)
    in_order := ⟨_, fd43, F43, B43⟩
    g_in_order := He.glo_ok X Gl (c.fact 30)
    _law_sorted := ⟨_, fd44, F44, B44⟩
    g__law_sorted := He.glo_ok X Gl (c.fact 31)
    Program_keep_rows := ⟨_, fd45, F45, B45⟩
    rows_behind := ⟨_, fd46, F46, B46⟩
    g_rows_behind := He.glo_ok X Gl (c.fact 32)
    Program___init__ := ⟨_, fd47, F47, B47⟩
    z_Program___init___2 := ⟨ys47_2, yv47_2, yb47_2⟩
    all_moves := ⟨_, fd48, F48, B48⟩
    g_all_moves := He.glo_ok X Gl (c.fact 33)
    Watch_row_in := ⟨_, fd49, F49, B49⟩
    Watch_looked := ⟨_, fd50, F50, B50⟩
    Watch_sight_at := ⟨_, fd51, F51, B51⟩
    Watch_behind := ⟨_, fd52, F52, B52⟩
    _law_reader := ⟨_, fd53, F53, B53⟩
    g__law_reader := He.glo_ok X Gl (c.fact 34)
    _law_writer := ⟨_, fd54, F54, B54⟩
    g__law_writer := He.glo_ok X Gl (c.fact 35)
    _law_back := ⟨_, fd55, F55, B55⟩
    g__law_back := He.glo_ok X Gl (c.fact 36)
    Watch_find_all := ⟨_, fd56, F56, B56⟩
    Watch___init__ := ⟨_, fd57, F57, B57⟩
    pair_sights := ⟨_, fd58, F58, B58⟩
    g_pair_sights := He.glo_ok X Gl (c.fact 37)
    torn_script := ⟨_, fd59, F59, B59⟩
    g_torn_script := He.glo_ok X Gl (c.fact 38)
    is_torn := ⟨_, fd60, F60, B60⟩
    g_is_torn := He.glo_ok X Gl (c.fact 39)
    _law_told := ⟨_, fd61, F61, B61⟩
    g__law_told := He.glo_ok X Gl (c.fact 40)
    _law_seen := ⟨_, fd62, F62, B62⟩
    g__law_seen := He.glo_ok X Gl (c.fact 41)
    law := ⟨_, fd63, F63, B63⟩
    g_law := He.glo_ok X Gl (c.fact 42)
    C := ctOf [He.ga K "LevelError", He.ga K "BadArgument", He.ga K "BadProgram", He.ga K "BadProcedure", He.ga K "BadCell", He.ga K "Program", He.ga K "Watch"]
    c_LevelError := He.glo_ok X Gl (c.fact 43)
    c_BadArgument := He.glo_ok X Gl (c.fact 44)
    c_BadProgram := He.glo_ok X Gl (c.fact 45)
    c_BadProcedure := He.glo_ok X Gl (c.fact 46)
    c_BadCell := He.glo_ok X Gl (c.fact 47)
    c_Program := He.glo_ok X Gl (c.fact 48)
    c_Watch := He.glo_ok X Gl (c.fact 49)
    tab := (ctab_of qt).1
    xA := (ctab_of qt).2
    ck := ⟨fun k hk => (ctab_of qt).2 k (by
        match k, hk with
        | 0, hk => exact rfl
        | 1, hk => exact rfl
        | 2, hk => exact rfl
        | 3, hk => exact rfl
        | 4, hk => exact rfl
        | 5, hk => exact (nomatch hk)
        | 6, hk => exact (nomatch hk)
        | _ + 7, hk => exact (nomatch hk)), fun k hk => by
        match k, hk with
        | 0, hk => exact (nomatch hk)
        | 1, hk => exact (nomatch hk)
        | 2, hk => exact (nomatch hk)
        | 3, hk => exact (nomatch hk)
        | 4, hk => exact (nomatch hk)
        | 5, hk => exact icls_of (c.fact 77)
        | 6, hk => exact icls_of (c.fact 78)
        | _ + 7, hk => exact (nomatch hk)⟩
    i_1 := by
      obtain ⟨a1, a2⟩ := He.ba (c.fact 116)
      obtain ⟨a3, a4⟩ := He.ba a2
      have e := c.def_ 64
      exact xini_def e.1 e.2 (He.eqO_ok a1) (He.eqO_ok a3) (of_decide_eq_true a4) rfl rfl rfl rfl rfl
    i_2 := by
      obtain ⟨a1, a2⟩ := He.ba (c.fact 117)
      obtain ⟨a3, a4⟩ := He.ba a2
      have e := c.def_ 65
      exact xini_def e.1 e.2 (He.eqO_ok a1) (He.eqO_ok a3) (of_decide_eq_true a4) rfl rfl rfl rfl rfl
    i_3 := by
      obtain ⟨a1, a2⟩ := He.ba (c.fact 118)
      obtain ⟨a3, a4⟩ := He.ba a2
      have e := c.def_ 66
      exact xini_def e.1 e.2 (He.eqO_ok a1) (He.eqO_ok a3) (of_decide_eq_true a4) rfl rfl rfl rfl rfl
    i_4 := by
      obtain ⟨a1, a2⟩ := He.ba (c.fact 119)
      obtain ⟨a3, a4⟩ := He.ba a2
      have e := c.def_ 67
      exact xini_def e.1 e.2 (He.eqO_ok a1) (He.eqO_ok a3) (of_decide_eq_true a4) rfl rfl rfl rfl rfl
    x_value := fun k hk => by
      have hk' : k ∈ [1, 3, 4] := List.contains_iff_mem.mp hk
      simp only [List.mem_cons, List.not_mem_nil, or_false] at hk'
      rcases hk' with rfl | rfl | rfl
      · exact ⟨(ctab_of qt).2 1 rfl, He.eqO_ok (He.ba (c.fact 116)).1⟩
      · exact ⟨(ctab_of qt).2 3 rfl, He.eqO_ok (He.ba (c.fact 118)).1⟩
      · exact ⟨(ctab_of qt).2 4 rfl, He.eqO_ok (He.ba (c.fact 119)).1⟩
    i_Program := icls_of (c.fact 77)
    i_Watch := icls_of (c.fact 78)
    fl_at_one := fun k hk => by
      have hk' : k ∈ [6] := List.contains_iff_mem.mp hk
      simp only [List.mem_cons, List.not_mem_nil, or_false] at hk'
      subst hk'
      exact ⟨(icls_of (c.fact 78)).cl, He.noat_ok (c.fact 101)⟩
    fl_at_other := fun k hk => by
      have hk' : k ∈ [6] := List.contains_iff_mem.mp hk
      simp only [List.mem_cons, List.not_mem_nil, or_false] at hk'
      subst hk'
      exact ⟨(icls_of (c.fact 78)).cl, He.noat_ok (c.fact 102)⟩
    fl_firsts := fun k hk => by
      have hk' : k ∈ [5] := List.contains_iff_mem.mp hk
      simp only [List.mem_cons, List.not_mem_nil, or_false] at hk'
      subst hk'
      exact ⟨(icls_of (c.fact 77)).cl, He.noat_ok (c.fact 103)⟩
    fl_known := fun k hk => by
      have hk' : k ∈ [6] := List.contains_iff_mem.mp hk
      simp only [List.mem_cons, List.not_mem_nil, or_false] at hk'
      subst hk'
      exact ⟨(icls_of (c.fact 78)).cl, He.noat_ok (c.fact 104)⟩
    fl_lists := fun k hk => by
      have hk' : k ∈ [5] := List.contains_iff_mem.mp hk
      simp only [List.mem_cons, List.not_mem_nil, or_false] at hk'
      subst hk'
      exact ⟨(icls_of (c.fact 77)).cl, He.noat_ok (c.fact 105)⟩
    fl_one := fun k hk => by
      have hk' : k ∈ [6] := List.contains_iff_mem.mp hk
      simp only [List.mem_cons, List.not_mem_nil, or_false] at hk'
      subst hk'
      exact ⟨(icls_of (c.fact 78)).cl, He.noat_ok (c.fact 106)⟩
    fl_other := fun k hk => by
      have hk' : k ∈ [6] := List.contains_iff_mem.mp hk
      simp only [List.mem_cons, List.not_mem_nil, or_false] at hk'
      subst hk'
      exact ⟨(icls_of (c.fact 78)).cl, He.noat_ok (c.fact 107)⟩
    fl_own_guards := fun k hk => by
      have hk' : k ∈ [5] := List.contains_iff_mem.mp hk
      simp only [List.mem_cons, List.not_mem_nil, or_false] at hk'
      subst hk'
      exact ⟨(icls_of (c.fact 77)).cl, He.noat_ok (c.fact 108)⟩
    fl_own_levels := fun k hk => by
      have hk' : k ∈ [5] := List.contains_iff_mem.mp hk
      simp only [List.mem_cons, List.not_mem_nil, or_false] at hk'
      subst hk'
      exact ⟨(icls_of (c.fact 77)).cl, He.noat_ok (c.fact 109)⟩
    fl_own_lines := fun k hk => by
      have hk' : k ∈ [5] := List.contains_iff_mem.mp hk
      simp only [List.mem_cons, List.not_mem_nil, or_false] at hk'
      subst hk'
      exact ⟨(icls_of (c.fact 77)).cl, He.noat_ok (c.fact 110)⟩
    fl_own_main := fun k hk => by
      have hk' : k ∈ [5] := List.contains_iff_mem.mp hk
      simp only [List.mem_cons, List.not_mem_nil, or_false] at hk'
      subst hk'
      exact ⟨(icls_of (c.fact 77)).cl, He.noat_ok (c.fact 111)⟩
    fl_own_sections := fun k hk => by
      have hk' : k ∈ [5] := List.contains_iff_mem.mp hk
      simp only [List.mem_cons, List.not_mem_nil, or_false] at hk'
      subst hk'
      exact ⟨(icls_of (c.fact 77)).cl, He.noat_ok (c.fact 112)⟩
    fl_own_size := fun k hk => by
      have hk' : k ∈ [5] := List.contains_iff_mem.mp hk
      simp only [List.mem_cons, List.not_mem_nil, or_false] at hk'
      subst hk'
      exact ⟨(icls_of (c.fact 77)).cl, He.noat_ok (c.fact 113)⟩
    fl_seen := fun k hk => by
      have hk' : k ∈ [6] := List.contains_iff_mem.mp hk
      simp only [List.mem_cons, List.not_mem_nil, or_false] at hk'
      subst hk'
      exact ⟨(icls_of (c.fact 78)).cl, He.noat_ok (c.fact 114)⟩
    fl_source := fun k hk => by
      have hk' : k ∈ [6] := List.contains_iff_mem.mp hk
      simp only [List.mem_cons, List.not_mem_nil, or_false] at hk'
      subst hk'
      exact ⟨(icls_of (c.fact 78)).cl, He.noat_ok (c.fact 115)⟩
    mk_Program := He.mkr_ok (c.fact 79)
    mk_Watch := He.mkr_ok (c.fact 80)
    m_Program___contains__ := He.meth_ok (c.fact 81)
    m_Program___getitem__ := He.meth_ok (c.fact 82)
    w_Program___getitem__ := (c.fact 97)
    m_Program_are_guards := He.meth_ok (c.fact 83)
    m_Program_cells := He.meth_ok (c.fact 84)
    m_Program_first_store := He.meth_ok (c.fact 85)
    m_Program_is_served := He.meth_ok (c.fact 86)
    m_Program_is_spot := He.meth_ok (c.fact 87)
    m_Program_keep_rows := He.meth_ok (c.fact 88)
    m_Program_spots := He.meth_ok (c.fact 89)
    m_Watch_behind := He.meth_ok (c.fact 90)
    m_Watch_find_all := He.meth_ok (c.fact 91)
    m_Watch_looked := He.meth_ok (c.fact 92)
    m_Watch_noted := He.meth_ok (c.fact 93)
    m_Watch_row_in := He.meth_ok (c.fact 94)
    m_Watch_script := He.meth_ok (c.fact 95)
    m_Watch_sight_at := He.meth_ok (c.fact 96)
    pp_Program_levels := _
    p_Program_levels := prop_of (c.fact 98)
    pp_Program_main := _
    p_Program_main := prop_of (c.fact 99)
    pp_Program_size := _
    p_Program_size := prop_of (c.fact 100)
    b_all := He.free_ok X Gl (c.fact 51)
    b_any := He.free_ok X Gl (c.fact 52)
    b_bool := He.free_ok X Gl (c.fact 53)
    b_dict := He.free_ok X Gl (c.fact 54)
    b_int := He.free_ok X Gl (c.fact 55)
    b_isinstance := He.free_ok X Gl (c.fact 56)
    b_len := He.free_ok X Gl (c.fact 57)
    b_list := He.free_ok X Gl (c.fact 58)
    b_max := He.free_ok X Gl (c.fact 59)
    b_min := He.free_ok X Gl (c.fact 60)
    b_range := He.free_ok X Gl (c.fact 61)
    b_sorted := He.free_ok X Gl (c.fact 62)
    b_str := He.free_ok X Gl (c.fact 63)
    b_tuple := He.free_ok X Gl (c.fact 64)
    b_zip := He.free_ok X Gl (c.fact 65)
    g_LETTERS := He.str_ok X Gl (c.fact 66)
    g_MOST_CELLS := He.int_ok X Gl (c.fact 67)
    g_MOST_LETTERS := He.int_ok X Gl (c.fact 68)
    g_MOST_LEVELS := He.int_ok X Gl (c.fact 69)
    g_MOST_LINES := He.int_ok X Gl (c.fact 70)
    g_MOST_PROCEDURES := He.int_ok X Gl (c.fact 71)
    g_MOST_ROWS := He.int_ok X Gl (c.fact 72)
    g_MOST_SECTIONS := He.int_ok X Gl (c.fact 73)
    g_MOST_STORES := He.int_ok X Gl (c.fact 74)
    g_MOST_VALUES := He.int_ok X Gl (c.fact 75)
    d_FORMS := _
    g_FORMS := He.glo_ok X Gl (c.fact 50)
    k_FORMS := te_FORMS ▸ TabP.ok (t := r_FORMS) (c.tab 0) (by decide +kernel)
    cs := csOf fcts K
    tabs := tabsOf fcts qs K
    l_Program___init__ := l0
    l_Program_keep_rows := l1
    l_sections_of := l2
    l_in_order := l3
    l__law_sorted := l4 }, rfl, rfl, rfl, fun s v => ?_⟩
  exact FunD.bindsA (ps := ["_law_script"]) F63 (fun _ _ _ _ _ _ us hl => match us, hl with | [_], _ => rfl) s [v] rfl
end Lw

set_option linter.all false
set_option maxRecDepth 100000
set_option maxHeartbeats 0
namespace Lw
open PySem L2 Sx
section
variable (S : W) (a b c d e f : Option W)
theorem sh_r_law_2 : shp [0] (r_law_2 [some S, a, b, c, d, e, f] hx0) = some ([some (some S)], 7) := by kernel_rfl
theorem sh_g_law_3 : shp [0] (g_law_3 [some S, a, b, c, d, e, f] hx0) = some ([some (some S)], 7) := by kernel_rfl
theorem sh_g_law_5 : shp [0] (g_law_5 [some S, a, b, c, d, e, f] hx0) = some ([some (some S)], 7) := by kernel_rfl
theorem sh_g_law_7 : shp [0] (g_law_7 [some S, a, b, c, d, e, f] hx0) = some ([some (some S)], 7) := by kernel_rfl
theorem sh_g_law_9 : shp [0] (g_law_9 [some S, a, b, c, d, e, f] hx0) = some ([some (some S)], 7) := by kernel_rfl
theorem sh_g_law_11_1 : shp [0, 3] (g_law_11 [some S, a, b, some (.int 1), d, e, f] hx0) = some ([some (some S), some (some (.int 1))], 7) := by kernel_rfl
theorem sh_g_law_11_2 : shp [0, 3] (g_law_11 [some S, a, b, some (.int 2), d, e, f] hx0) = some ([some (some S), some (some (.int 2))], 7) := by kernel_rfl
theorem sh_g_law_11_3 : shp [0, 3] (g_law_11 [some S, a, b, some (.int 3), d, e, f] hx0) = some ([some (some S), some (some (.int 3))], 7) := by kernel_rfl
theorem sh_g_law_11_4 : shp [0, 3] (g_law_11 [some S, a, b, some (.int 4), d, e, f] hx0) = some ([some (some S), some (some (.int 4))], 7) := by kernel_rfl
theorem sh_g_law_11_5 : shp [0, 3] (g_law_11 [some S, a, b, some (.int 5), d, e, f] hx0) = some ([some (some S), some (some (.int 5))], 7) := by kernel_rfl
theorem sh_g_law_13_1 : shp [0, 3] (g_law_13 [some S, a, b, some (.int 1), d, e, f] hx0) = some ([some (some S), some (some (.int 1))], 7) := by kernel_rfl
theorem sh_g_law_13_2 : shp [0, 3] (g_law_13 [some S, a, b, some (.int 2), d, e, f] hx0) = some ([some (some S), some (some (.int 2))], 7) := by kernel_rfl
theorem sh_g_law_13_3 : shp [0, 3] (g_law_13 [some S, a, b, some (.int 3), d, e, f] hx0) = some ([some (some S), some (some (.int 3))], 7) := by kernel_rfl
theorem sh_g_law_13_4 : shp [0, 3] (g_law_13 [some S, a, b, some (.int 4), d, e, f] hx0) = some ([some (some S), some (some (.int 4))], 7) := by kernel_rfl
theorem sh_g_law_13_5 : shp [0, 3] (g_law_13 [some S, a, b, some (.int 5), d, e, f] hx0) = some ([some (some S), some (some (.int 5))], 7) := by kernel_rfl
theorem sh_g_law_15_1 : shp [0, 3] (g_law_15 [some S, a, b, some (.int 1), d, e, f] hx0) = some ([some (some S), some (some (.int 1))], 7) := by kernel_rfl
theorem sh_g_law_15_2 : shp [0, 3] (g_law_15 [some S, a, b, some (.int 2), d, e, f] hx0) = some ([some (some S), some (some (.int 2))], 7) := by kernel_rfl
theorem sh_g_law_15_3 : shp [0, 3] (g_law_15 [some S, a, b, some (.int 3), d, e, f] hx0) = some ([some (some S), some (some (.int 3))], 7) := by kernel_rfl
theorem sh_g_law_15_4 : shp [0, 3] (g_law_15 [some S, a, b, some (.int 4), d, e, f] hx0) = some ([some (some S), some (some (.int 4))], 7) := by kernel_rfl
theorem sh_g_law_15_5 : shp [0, 3] (g_law_15 [some S, a, b, some (.int 5), d, e, f] hx0) = some ([some (some S), some (some (.int 5))], 7) := by kernel_rfl
end
theorem run_2 {S : W} (hS : pureW S = true) {es : Sx.Env} (p : Plc S 7 es) : Runs S 7 r_law_2 es hx0 := by
  obtain ⟨x, a, b, c, d, e, f, rfl⟩ := row7 p.len
  have q := p.s
  cases q
  exact Runs.of (sh_r_law_2 S a b c d e f)
theorem run_4 {S : W} (hS : pureW S = true) {es : Sx.Env} (p : Plc S 7 es) : Runs S 7 r_law_4 es hx0 := by
  obtain ⟨x, a, b, c, d, e, f, rfl⟩ := row7 p.len
  have q := p.s
  cases q
  obtain ⟨es1, h1, e1, e2, e3⟩ := shp_nx (sh_g_law_3 S a b c d e f)
  exact Runs.seq hS e1 (run_2 hS (Plc.mask hS ⟨(List.cons.inj e2).1, e3⟩))
theorem run_6 {S : W} (hS : pureW S = true) {es : Sx.Env} (p : Plc S 7 es) : Runs S 7 r_law_6 es hx0 := by
  obtain ⟨x, a, b, c, d, e, f, rfl⟩ := row7 p.len
  have q := p.s
  cases q
  obtain ⟨es1, h1, e1, e2, e3⟩ := shp_nx (sh_g_law_5 S a b c d e f)
  exact Runs.seq hS e1 (run_4 hS (Plc.mask hS ⟨(List.cons.inj e2).1, e3⟩))
theorem run_8 {S : W} (hS : pureW S = true) {es : Sx.Env} (p : Plc S 7 es) : Runs S 7 r_law_8 es hx0 := by
  obtain ⟨x, a, b, c, d, e, f, rfl⟩ := row7 p.len
  have q := p.s
  cases q
  obtain ⟨es1, h1, e1, e2, e3⟩ := shp_nx (sh_g_law_7 S a b c d e f)
  exact Runs.seq hS e1 (run_6 hS (Plc.mask hS ⟨(List.cons.inj e2).1, e3⟩))
theorem run_10 {S : W} (hS : pureW S = true) {es : Sx.Env} (p : Plc S 7 es) : Runs S 7 r_law_10 es hx0 := by
  obtain ⟨x, a, b, c, d, e, f, rfl⟩ := row7 p.len
  have q := p.s
  cases q
  obtain ⟨es1, h1, e1, e2, e3⟩ := shp_nx (sh_g_law_9 S a b c d e f)
  exact Runs.seq hS e1 (run_8 hS (Plc.mask hS ⟨(List.cons.inj e2).1, e3⟩))
def In5 (r : Int) : Prop := r = 1 ∨ r = 2 ∨ r = 3 ∨ r = 4 ∨ r = 5
theorem run_12 {S : W} (hS : pureW S = true) {r : Int} (hr : In5 r) {es : Sx.Env} (p : Plc S 7 es) (g : es[3]? = some (some (.int r))) : Runs S 7 r_law_12 es hx0 := by
  obtain ⟨x, a, b, c, d, e, f, rfl⟩ := row7 p.len
  have q := p.s
  cases q
  cases g
  have sh : shp [0, 3] (g_law_11 [some S, a, b, some (.int r), d, e, f] hx0) = some ([some (some S), some (some (.int r))], 7) := by
    rcases hr with rfl | rfl | rfl | rfl | rfl
    · exact sh_g_law_11_1 S a b d e f
    · exact sh_g_law_11_2 S a b d e f
    · exact sh_g_law_11_3 S a b d e f
    · exact sh_g_law_11_4 S a b d e f
    · exact sh_g_law_11_5 S a b d e f
  obtain ⟨es1, h1, e1, e2, e3⟩ := shp_nx sh
  have p1 : Plc S 7 es1 := ⟨(List.cons.inj e2).1, e3⟩
  have g1 : es1[3]? = some (some (.int r)) := (List.cons.inj (List.cons.inj e2).2).1
  exact Runs.seq hS e1 (run_10 hS (Plc.mask hS p1))
theorem run_14 {S : W} (hS : pureW S = true) {r : Int} (hr : In5 r) {es : Sx.Env} (p : Plc S 7 es) (g : es[3]? = some (some (.int r))) : Runs S 7 r_law_14 es hx0 := by
  obtain ⟨x, a, b, c, d, e, f, rfl⟩ := row7 p.len
  have q := p.s
  cases q
  cases g
  have sh : shp [0, 3] (g_law_13 [some S, a, b, some (.int r), d, e, f] hx0) = some ([some (some S), some (some (.int r))], 7) := by
    rcases hr with rfl | rfl | rfl | rfl | rfl
    · exact sh_g_law_13_1 S a b d e f
    · exact sh_g_law_13_2 S a b d e f
    · exact sh_g_law_13_3 S a b d e f
    · exact sh_g_law_13_4 S a b d e f
    · exact sh_g_law_13_5 S a b d e f
  obtain ⟨es1, h1, e1, e2, e3⟩ := shp_nx sh
  have p1 : Plc S 7 es1 := ⟨(List.cons.inj e2).1, e3⟩
  have g1 : es1[3]? = some (some (.int r)) := (List.cons.inj (List.cons.inj e2).2).1
  exact Runs.seq hS e1 (run_12 hS hr (Plc.mask hS p1) (maskE_keep g1 rfl))
theorem run_16 {S : W} (hS : pureW S = true) {r : Int} (hr : In5 r) {es : Sx.Env} (p : Plc S 7 es) (g : es[3]? = some (some (.int r))) : Runs S 7 r_law_16 es hx0 := by
  obtain ⟨x, a, b, c, d, e, f, rfl⟩ := row7 p.len
  have q := p.s
  cases q
  cases g
  have sh : shp [0, 3] (g_law_15 [some S, a, b, some (.int r), d, e, f] hx0) = some ([some (some S), some (some (.int r))], 7) := by
    rcases hr with rfl | rfl | rfl | rfl | rfl
    · exact sh_g_law_15_1 S a b d e f
    · exact sh_g_law_15_2 S a b d e f
    · exact sh_g_law_15_3 S a b d e f
    · exact sh_g_law_15_4 S a b d e f
    · exact sh_g_law_15_5 S a b d e f
  obtain ⟨es1, h1, e1, e2, e3⟩ := shp_nx sh
  have p1 : Plc S 7 es1 := ⟨(List.cons.inj e2).1, e3⟩
  have g1 : es1[3]? = some (some (.int r)) := (List.cons.inj (List.cons.inj e2).2).1
  exact Runs.seq hS e1 (run_14 hS hr (Plc.mask hS p1) (maskE_keep g1 rfl))
theorem law_true (ns : List Int) (hl : ns.length ≤ 63) : ∃ h', f_law [.fls (ns.map W.int)] ⟨0, .nil⟩ = .ok (.bl true) h' := by
  refine loop_true (r := r_law_18) (N := 5) (M := 4) ns (by decide) fun k t hk hk2 ht => ?_
  match t, ht with
  | [x2, x3, x4, x5, x6], _ =>
    obtain ⟨p, h1, e1, P1, y1, l1⟩ := ev_opened ns k 4 hx0 hk hk2 (by decide)
    obtain ⟨r, h2, e2, r0, r1, P2, n2, o2⟩ := ev_draw p 5 h1 P1 (by decide)
    have c1 : xCall f__law_opened (xCons (xVar 0) (xCons (xVar 1) (xCons (xC (.int 4)) xNil))) [some (.fls (ns.map W.int)), some (.int k), x2, x3, x4, x5, x6] hx0 = .ok (.ref p) h1 := e1
    have c2 : xCall f__law_draw (xCons (xVar 2) (xCons (xC (.int 5)) xNil)) [some (.fls (ns.map W.int)), some (.int k), some (.ref p), x3, x4, x5, x6] h1 = .ok (.int r) h2 := e2
    have eg : g_law_17 [some (.fls (ns.map W.int)), some (.int k), x2, x3, x4, x5, x6] hx0 = .fl (.nx [some (.fls (ns.map W.int)), some (.int k), some (.ref p), some (.int (1 + r)), x4, x5, x6]) h2 := by
      show cSeq _ (cSeq _ cNil) _ _ = _
      rw [cSeq_eq, cAsg_eq, c1, bindS_ok]
      show seqS (RS.fl (.nx [some (.fls (ns.map W.int)), some (.int k), some (.ref p), x3, x4, x5, x6]) h1) _ = _
      rw [seqS_nx, cSeq_eq, cAsg_eq, xOp_eq, xC_eq, bind_ok, c2, bind_ok, add_int, bindS_ok]
      rfl
    have hS := pureW_ints ns
    exact Runs.seq hS eg (run_16 hS (r := 1 + r) (by unfold In5; omega) (Plc.mask hS ⟨rfl, rfl⟩) rfl)
end Lw

namespace Lw
open PySem L2 Sx
end Lw
open PySem PySem.W PySem.Calls PyProof.Rows
set_option maxHeartbeats 0 in
theorem PySem.Challenge.cw_maskedlevels_k37_known_pairs_holds : PySem.Challenge.rw_maskedlevels_k37_known_pairs.Holds := by
  w_on; o_law
  refine HandSHeadRun.head_any (r := Lw.RR) (q := view Lw.RR.prog [68]) (H := Lw.fcts.hook) (ob := Lw.ob) (M := 8000) (loose := Lw.loose) (d := HandSHeadRun.topDef Lw.RR.prog 68) (kwd := []) Lw.ob_eq
    (by kernel_rfl) (fun s => by kernel_rfl) Lw.run (by kernel_rfl) (by kernel_rfl) (by kernel_rfl) (by rfl) (by first | assumption | decide +kernel) (by decide +kernel) ⟨rfl, rfl, rfl, rfl, rfl, by decide +kernel⟩ ?hw ?hc
  case hw => w_witness2
  case hc =>
    refine Sx.walk_end (l := PySem.Challenge.rw_maskedlevels_k37_known_pairs) (n := 63) (k := 14) (x := "_law_script") rfl (by decide) (by kernel_rfl) ⟨rfl, by decide, by decide⟩ ?F
    intro w mg fa h Y G hmg0
    obtain ⟨K, KX, c⟩ := Y
    have hmg : mg ("law" : PySem.Str) = some (.ref fa) := by
      have e : (HandSHeadRun.topDef Lw.RR.prog 68).name = ("law" : PySem.Str) := by kernel_rfl
      rw [← e]
      exact hmg0
    obtain ⟨T, e1, e2, e3, hb⟩ := Lw.facts KX G hmg c
    subst e1
    obtain ⟨t1, t2, t3⟩ := c.cs KX
    refine ⟨K, T.law.fd, Sx.csOf Lw.fcts K, Sx.spOf K (Lw.ctx (PySem.Challenge.rw_maskedlevels_k37_known_pairs).prog T) Lw.f_law, KX, t1, t2, t3, hb, fun H a ns hl hH hS => ?_, fun base _ _ TB => ?_⟩
    · exact Sx.law_spF hS (by show LamX.Tabs T.tabs H; rw [e3]; exact Sx.tabs_first hH) (Lw.law_true ns hl)
    · exact Lw.G_law T (by rw [e2]; exact TB)
