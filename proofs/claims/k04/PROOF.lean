import PyProof.Rows.All
import Wide.All
import OpenK.AllK
import Wide.FinOn
import HandS.ForExc
import HandS.Comp
import HandS.Dict
import HandS.Iter
import HandS.Text
import HandS.Wide
import HandS.TupAny
import HandS.Deep
import HandS.IsInst
import HandS.Flow
import HandS.ExcOwn
import HandS.CallSlots
import HandS.Star
import HandS.Walk
import HandS.HeadHook1
import HandS.TryOnly
import HandS.Defaults
import HandS.HeadHook2
import HandS.Head0
import HandS.Head1
import HandS.Head2
import HandS.HeadEnd
import PySem.Challenge.RW_eitherpromised_k04_whole_tick_and_latest
set_option Elab.async false
set_option linter.all false
set_option maxRecDepth 100000
set_option maxHeartbeats 2000000
/-! G1: data, worlds, what a datum stands for -/
namespace Rf
open PySem L2

/-- data: what Python values are, without addresses. cell: a live object that may change -/
inductive D where
  | non | bl (b : Bool) | int (i : Int) | str (x : Str)
  | tup (xs : List D) | lst (xs : List D)
  | dk (kvs : List (Key × D)) | dt (kvs : List (List Key × D))
  | ins (c : Nat) (fs : List (Nat × D))
  | cell (i : Nat)
  deriving Inhabited
/-- an object that may change -/
inductive Ob where
  | lst (xs : List D) | dk (kvs : List (Key × D)) | dt (kvs : List (List Key × D)) | ins (c : Nat) (fs : List (Nat × D))
  deriving Inhabited
abbrev Cells := List (Option Ob)
/-- a world: the frozen addresses, the cells' addresses, the cells, the abstract heap -/
structure W where
  Z : Addr → Prop
  ι : Nat → Addr
  h : Cells
  H : Hp
def W.live (w : W) (a : Addr) : Prop := ∃ i o, w.h[i]? = some (some o) ∧ w.ι i = a

/-- a frozen list at a -/
def FzL (K : PySem.W.Frag) (w : W) (a : Addr) (vs : List V) : Prop :=
  (w.Z a ∧ w.H a = some (.lst vs)) ∨ (∃ o, w.H a = some (.frz o (.lst vs))) ∨
    ∃ (o : Obj) (its : Array Value) (n : Nat), K.lookup a = some o ∧ o.cls = .type "list" ∧ o.dict = none ∧ o.data = .seq its n ∧ its.size ≤ sizeLine ∧ Vals vs its.toList
theorem FzL.sq {K : PySem.W.Frag} {w : W} {a : Addr} {vs : List V} (h : FzL K w a vs) : SqL K w.H a vs := by
  rcases h with h | h | h
  · exact .inl (.inl h.2)
  · exact .inl (.inr h)
  · exact .inr h

/-- the written part, the symbols' texts, the classes' addresses -/
structure Gm where
  K : PySem.W.Frag
  sy : Nat → Str
  ca : Nat → Addr
  nc : Nat

mutual
inductive Rep (G : Gm) (w : W) : D → V → Prop
  | non : Rep G w .non .non
  | bl (b : Bool) : Rep G w (.bl b) (.bl b)
  | int (i : Int) : Rep G w (.int i) (.int i)
  | str (x : Str) : x.length ≤ sizeLine → Rep G w (.str x) (.str x)
  | tup {a : Addr} {vs : List V} {ds : List D} : SqT G.K w.H a vs → Reps G w ds vs → Rep G w (.tup ds) (.ref a)
  | lst {a : Addr} {vs : List V} {ds : List D} : FzL G.K w a vs → Reps G w ds vs → Rep G w (.lst ds) (.ref a)
  | dk {a : Addr} {kvs : List (Key × V)} {kds : List (Key × D)} : w.Z a → w.H a = some (.dK kvs) → RepK G w kds kvs → Rep G w (.dk kds) (.ref a)
  | dt {a : Addr} {kvs : List (List Key × V)} {kds : List (List Key × D)} : w.Z a → w.H a = some (.dT kvs) → RepT G w kds kvs → Rep G w (.dt kds) (.ref a)
  | ins {a dx : Addr} {c : Nat} {fvs : List (Str × V)} {fs : List (Nat × D)} : c < G.nc → w.Z a → w.H a = some (.ins (G.ca c) dx fvs) → RepF G w fs fvs → Rep G w (.ins c fs) (.ref a)
  | cell (i : Nat) : i < w.h.length → Rep G w (.cell i) (.ref (w.ι i))
inductive Reps (G : Gm) (w : W) : List D → List V → Prop
  | nil : Reps G w [] []
  | cons {d : D} {ds : List D} {v : V} {vs : List V} : Rep G w d v → Reps G w ds vs → Reps G w (d :: ds) (v :: vs)
inductive RepK (G : Gm) (w : W) : List (Key × D) → List (Key × V) → Prop
  | nil : RepK G w [] []
  | cons {k : Key} {d : D} {ds : List (Key × D)} {v : V} {vs : List (Key × V)} : Rep G w d v → RepK G w ds vs → RepK G w ((k, d) :: ds) ((k, v) :: vs)
inductive RepT (G : Gm) (w : W) : List (List Key × D) → List (List Key × V) → Prop
  | nil : RepT G w [] []
  | cons {k : List Key} {d : D} {ds : List (List Key × D)} {v : V} {vs : List (List Key × V)} : Rep G w d v → RepT G w ds vs → RepT G w ((k, d) :: ds) ((k, v) :: vs)
inductive RepF (G : Gm) (w : W) : List (Nat × D) → List (Str × V) → Prop
  | nil : RepF G w [] []
  | cons {k : Nat} {d : D} {ds : List (Nat × D)} {v : V} {vs : List (Str × V)} : Rep G w d v → RepF G w ds vs → RepF G w ((k, d) :: ds) ((G.sy k, v) :: vs)
end

/-- what stands at an address for an object -/
inductive ObAt (G : Gm) (w : W) (a : Addr) : Ob → Prop
  | lst {vs : List V} {ds : List D} : w.H a = some (.lst vs) → Reps G w ds vs → ObAt G w a (.lst ds)
  | dk {kvs : List (Key × V)} {kds : List (Key × D)} : w.H a = some (.dK kvs) → RepK G w kds kvs → ObAt G w a (.dk kds)
  | dt {kvs : List (List Key × V)} {kds : List (List Key × D)} : w.H a = some (.dT kvs) → RepT G w kds kvs → ObAt G w a (.dt kds)
  | ins {dx : Addr} {c : Nat} {fvs : List (Str × V)} {fs : List (Nat × D)} : c < G.nc → w.H a = some (.ins (G.ca c) dx fvs) → RepF G w fs fvs → ObAt G w a (.ins c fs)
/-- what may change is no tuple and nothing locked -/
def Soft (o : HO) : Prop := match o with
  | .lst _ | .dK _ | .dT _ | .ins _ _ _ => True
  | _ => False
theorem ObAt.soft {G : Gm} {w : W} {a : Addr} {o : Ob} (h : ObAt G w a o) : ∃ u, w.H a = some u ∧ Soft u := by
  cases h with
  | lst h _ => exact ⟨_, h, trivial⟩
  | dk h _ => exact ⟨_, h, trivial⟩
  | dt h _ => exact ⟨_, h, trivial⟩
  | ins _ h _ => exact ⟨_, h, trivial⟩

structure WOk (G : Gm) (w : W) : Prop where
  cell : ∀ i o, w.h[i]? = some (some o) → ObAt G w (w.ι i) o ∧ ¬ w.Z (w.ι i)
  inj : ∀ i j o u, w.h[i]? = some (some o) → w.h[j]? = some (some u) → w.ι i = w.ι j → i = j
  zin : ∀ a, w.Z a → ∃ o, w.H a = some o
theorem WOk.soft {G : Gm} {w : W} (ok : WOk G w) {a : Addr} (l : w.live a) : (∃ u, w.H a = some u ∧ Soft u) ∧ ¬ w.Z a := by
  obtain ⟨i, o, e, rfl⟩ := l
  exact ⟨(ok.cell i o e).1.soft, (ok.cell i o e).2⟩

/-- a later world -/
structure Ext (w w' : W) : Prop where
  z : ∀ a, w.Z a → w'.Z a
  zn : ∀ a, w'.Z a → w.Z a ∨ w.H a = none ∨ w.live a
  ι : ∀ i, i < w.h.length → w'.ι i = w.ι i
  len : w.h.length ≤ w'.h.length
  lv : ∀ i o, i < w.h.length → w'.h[i]? = some (some o) → ∃ u, w.h[i]? = some (some u)
  fresh : ∀ i o, w.h.length ≤ i → w'.h[i]? = some (some o) → w.H (w'.ι i) = none
  keep : ∀ a o, w.H a = some o → ¬ w.live a → w'.H a = some o
  dom : ∀ a, w'.H a = none → w.H a = none
theorem Ext.refl (w : W) : Ext w w where
  z := fun _ h => h
  zn := fun _ h => .inl h
  ι := fun _ _ => rfl
  len := Nat.le_refl _
  lv := fun _ o _ h => ⟨o, h⟩
  fresh := fun i o hi h => by
    rw [List.getElem?_eq_none hi] at h
    cases h
  keep := fun _ _ h _ => h
  dom := fun _ h => h
theorem Ext.live_back {w w' : W} (e : Ext w w') {a : Addr} (l : w'.live a) : w.live a ∨ w.H a = none := by
  obtain ⟨i, o, h, rfl⟩ := l
  by_cases hi : i < w.h.length
  · obtain ⟨u, hu⟩ := e.lv i o hi h
    exact .inl ⟨i, u, hu, (e.ι i hi).symm⟩
  · exact .inr (e.fresh i o (Nat.le_of_not_lt hi) h)
theorem Ext.trans {w w1 w2 : W} (a : Ext w w1) (b : Ext w1 w2) : Ext w w2 where
  z := fun x h => b.z x (a.z x h)
  zn := fun x h => by
    rcases b.zn x h with h | h | h
    · exact a.zn x h
    · exact .inr (.inl (a.dom x h))
    · rcases a.live_back h with h | h
      · exact .inr (.inr h)
      · exact .inr (.inl h)
  ι := fun i hi => (b.ι i (Nat.lt_of_lt_of_le hi a.len)).trans (a.ι i hi)
  len := Nat.le_trans a.len b.len
  lv := fun i o hi h => by
    obtain ⟨u, hu⟩ := b.lv i o (Nat.lt_of_lt_of_le hi a.len) h
    exact a.lv i u hi hu
  fresh := fun i o hi h => by
    by_cases hj : i < w1.h.length
    · obtain ⟨u, hu⟩ := b.lv i o hj h
      rw [b.ι i hj]
      exact a.fresh i u hi hu
    · exact a.dom _ (b.fresh i o (Nat.le_of_not_lt hj) h)
  keep := fun x o h nl => b.keep x o (a.keep x o h nl) fun l => by
    rcases a.live_back l with l | l
    · exact nl l
    · rw [l] at h; cases h
  dom := fun x h => a.dom x (b.dom x h)

section
variable {G : Gm} {w w' : W}
theorem Ext.frz (ok : WOk G w) (e : Ext w w') {a : Addr} {u : HO} (h : w.H a = some u) (ns : ¬ Soft u) : w'.H a = some u := e.keep a u h fun l => by
  obtain ⟨⟨u', h', s⟩, _⟩ := ok.soft l
  rw [h] at h'
  cases h'
  exact ns s
theorem Ext.zkeep (ok : WOk G w) (e : Ext w w') {a : Addr} {u : HO} (z : w.Z a) (h : w.H a = some u) : w'.H a = some u := e.keep a u h fun l => (ok.soft l).2 z
theorem Ext.tup (ok : WOk G w) (e : Ext w w') {a : Addr} {vs : List V} (h : SqT G.K w.H a vs) : SqT G.K w'.H a vs := by
  rcases h with (h | ⟨o, h⟩) | h
  · exact .inl (.inl (e.frz ok h fun z => z))
  · exact .inl (.inr ⟨o, e.frz ok h fun z => z⟩)
  · exact .inr h
theorem Ext.fzl (ok : WOk G w) (e : Ext w w') {a : Addr} {vs : List V} (h : FzL G.K w a vs) : FzL G.K w' a vs := by
  rcases h with ⟨z, h⟩ | ⟨o, h⟩ | h
  · exact .inl ⟨e.z a z, e.zkeep ok z h⟩
  · exact .inr (.inl ⟨o, e.frz ok h fun z => z⟩)
  · exact .inr (.inr h)
mutual
theorem Rep.ext (ok : WOk G w) (e : Ext w w') : ∀ {d : D} {v : V}, Rep G w d v → Rep G w' d v
  | _, _, .non => .non
  | _, _, .bl b => .bl b
  | _, _, .int i => .int i
  | _, _, .str x hx => .str x hx
  | _, _, .tup h r => .tup (e.tup ok h) (Reps.ext ok e r)
  | _, _, .lst h r => .lst (e.fzl ok h) (Reps.ext ok e r)
  | _, _, .dk z h r => .dk (e.z _ z) (e.zkeep ok z h) (RepK.ext ok e r)
  | _, _, .dt z h r => .dt (e.z _ z) (e.zkeep ok z h) (RepT.ext ok e r)
  | _, _, .ins hc z h r => .ins hc (e.z _ z) (e.zkeep ok z h) (RepF.ext ok e r)
  | _, _, .cell i hi => by
    have h := Rep.cell (G := G) (w := w') i (Nat.lt_of_lt_of_le hi e.len)
    rw [e.ι i hi] at h
    exact h
theorem Reps.ext (ok : WOk G w) (e : Ext w w') : ∀ {ds : List D} {vs : List V}, Reps G w ds vs → Reps G w' ds vs
  | _, _, .nil => .nil
  | _, _, .cons h r => .cons (Rep.ext ok e h) (Reps.ext ok e r)
theorem RepK.ext (ok : WOk G w) (e : Ext w w') : ∀ {ds : List (Key × D)} {vs : List (Key × V)}, RepK G w ds vs → RepK G w' ds vs
  | _, _, .nil => .nil
  | _, _, .cons h r => .cons (Rep.ext ok e h) (RepK.ext ok e r)
theorem RepT.ext (ok : WOk G w) (e : Ext w w') : ∀ {ds : List (List Key × D)} {vs : List (List Key × V)}, RepT G w ds vs → RepT G w' ds vs
  | _, _, .nil => .nil
  | _, _, .cons h r => .cons (Rep.ext ok e h) (RepT.ext ok e r)
theorem RepF.ext (ok : WOk G w) (e : Ext w w') : ∀ {ds : List (Nat × D)} {vs : List (Str × V)}, RepF G w ds vs → RepF G w' ds vs
  | _, _, .nil => .nil
  | _, _, .cons h r => .cons (Rep.ext ok e h) (RepF.ext ok e r)
end
end
end Rf
set_option Elab.async false
set_option linter.all false
set_option maxRecDepth 100000
set_option maxHeartbeats 2000000
/-! G2: the core language and its evaluator -/
namespace Rf
open PySem L2

inductive BOp where | add | sub | mul | fdiv | mod | pow | bor | band | bxor
  deriving DecidableEq, Inhabited
inductive COp where | eq | ne | lt | le | gt | ge | is | isnot | isin | notin
  deriving DecidableEq, Inhabited
inductive Cst where | non | bl (b : Bool) | int (i : Int) | str (x : Str)
  deriving DecidableEq, Inhabited
inductive Blt where | len | int | bool | str | list | tuple | abs | max | min | sum | sorted | all | any
  deriving DecidableEq, Inhabited
inductive Ty where | int | bool | str | list | tuple | dict | own (c : Nat)
  deriving DecidableEq, Inhabited
inductive Tg where | name (i : Nat) | tup (is : List Nat)
  deriving DecidableEq, Inhabited

inductive BM where | upper | lower | strip | startswith | find | split | words | join | partition
  deriving DecidableEq, Inhabited
/-- own operators -/
inductive Dn where | cmp (o : COp) | bin (o : BOp) | has | len | iter | bool | item | put | pos | neg | inv | ibin (o : BOp)
  deriving DecidableEq, Inhabited
def Dn.nm : Dn → Str
  | .cmp .eq => "__eq__" | .cmp .ne => "__ne__" | .cmp .lt => "__lt__" | .cmp .le => "__le__" | .cmp .gt => "__gt__" | .cmp .ge => "__ge__"
  | .bin .add => "__add__" | .bin .sub => "__sub__" | .bin .mul => "__mul__" | .bin .fdiv => "__floordiv__" | .bin .mod => "__mod__" | .bin .pow => "__pow__" | .bin .bor => "__or__" | .bin .band => "__and__" | .bin .bxor => "__xor__"
  | .ibin .add => "__iadd__" | .ibin .sub => "__isub__" | .ibin .bor => "__ior__" | .ibin .band => "__iand__" | .ibin .bxor => "__ixor__"
  | .has => "__contains__" | .len => "__len__" | .iter => "__iter__" | .bool => "__bool__" | .item => "__getitem__" | .put => "__setitem__" | .pos => "__pos__" | .neg => "__neg__" | .inv => "__invert__"
  | _ => ""
mutual
inductive CE where
  | cst (k : Cst) | var (i : Nat) | glob (g : Nat)
  | bin (op : BOp) (a b : CE) | neg (a : CE)
  | cmp (op : COp) (a b : CE) | chain (op op' : COp) (a b c : CE)
  | and (as : CEs) | or (as : CEs) | not (a : CE) | ife (t a b : CE)
  | tup (as : CEs) | lst (as : CEs)
  | sub (a i : CE) | slice (a : CE) (lo hi : CO)
  | call (f : Nat) (as : CEs) | blt (b : Blt) (as : CEs) | meth (o : CE) (m : Nat) (as : CEs) | attr (o : CE) (f : Nat) | make (c : Nat) (as : CEs)
  | isi (a : CE) (t : Ty)
  | lc (elt : CE) (own : List Nat) (t : Tg) (src : CI) (cond : CO)
  | newc (as : CEs)
  | bm (m : BM) (o : CE) (as : CEs)
inductive CEs where | nil | cons (a : CE) (as : CEs) | star (a : CE) (as : CEs)
inductive CO where | none | some (a : CE)
inductive CI where | of (a : CE) | rng1 (a : CE) | rng2 (a b : CE)
end
instance : Inhabited CE := ⟨.cst .non⟩

mutual
inductive CS where
  | set (i : Nat) (e : CE) | setN (i : Nat) (e : CE) | setT (is : List Nat) (e : CE)
  | setSub (a i e : CE) | setAttr (a : CE) (f : Nat) (e : CE)
  | app (i : Nat) (e : CE) | ex (e : CE) | ret (e : CE) | retN | ite (t : CE) (a b : CSs)
  | for_ (t : Tg) (src : CI) (b : CSs) | while_ (fuel : Nat) (t : CE) (b : CSs)
  | pass | brk | cont | dead | frz (i : Nat) | raise_ (c : Nat) | try_ (b : CSs) (c : Nat) (hd : CSs)
inductive CSs where | nil | cons (s : CS) (ss : CSs)
end

/-! ### answers -/
structure Exn where
  c : Nat
  fs : List (Nat × D)
inductive Res (α : Type) where
  | ok (a : α) (h : Cells) | exc (x : Exn) (h : Cells) | bad
def Res.bind {α β : Type} (r : Res α) (k : α → Cells → Res β) : Res β := match r with
  | .ok a h => k a h
  | .exc x h => .exc x h
  | .bad => .bad
/-- an equation that no step takes as plain -/
theorem nd {α : Sort _} {a b : α} (h : a = b) : a = b := h
@[simp] theorem Res.bind_ok {α β : Type} (a : α) (h : Cells) (k : α → Cells → Res β) : (Res.ok a h).bind k = k a h := nd rfl
@[simp] theorem Res.bind_exc {α β : Type} (x : Exn) (h : Cells) (k : α → Cells → Res β) : (Res.exc x h : Res α).bind k = .exc x h := nd rfl
@[simp] theorem Res.bind_bad {α β : Type} (k : α → Cells → Res β) : (Res.bad : Res α).bind k = .bad := nd rfl
/-- an option, as an answer that leaves the cells -/
def lift {α : Type} (o : Option α) (h : Cells) : Res α := match o with
  | some a => .ok a h
  | none => .bad
@[simp] theorem lift_some {α : Type} (a : α) (h : Cells) : lift (some a) h = .ok a h := nd rfl
@[simp] theorem lift_none {α : Type} (h : Cells) : lift (none : Option α) h = .bad := nd rfl

/-- tables of the classes: a field that no class bears; a method's def; a class's __init__ -/
structure Tb where
  ft : Nat → Nat → Bool := fun _ _ => false
  mt : Nat → Nat → Option Nat := fun _ _ => none
  it : Nat → Option Nat := fun _ => none
  sb : Nat → Nat → Option Bool := fun _ _ => none
  ot : Nat → Dn → Option Nat := fun _ _ => none
/-- what the defs do: ini c the fields of a new instance -/
structure FTab where
  call : Nat → List D → Cells → Res D
  ini : Nat → List D → Cells → Res (List (Nat × D))
  tb : Tb
inductive Sl where | no | val (d : D) | own (o : Ob)
  deriving Inhabited
abbrev En := List Sl

abbrev LIM : Nat := 16777216
/-- a datum, seen: what a live object holds now -/
def see (h : Cells) : D → D
  | .cell i => match h[i]? with
    | some (some (.lst ds)) => .lst ds
    | some (some (.dk kvs)) => .dk kvs
    | some (some (.dt kvs)) => .dt kvs
    | some (some (.ins c fs)) => .ins c fs
    | _ => .cell i
  | d => d
def obD : Ob → D
  | .lst ds => .lst ds
  | .dk kvs => .dk kvs
  | .dt kvs => .dt kvs
  | .ins c fs => .ins c fs
def truth : D → Option Bool
  | .non => some false
  | .bl b => some b
  | .int i => some (i != 0)
  | .str x => some (x.length != 0)
  | .tup ds => some (!ds.isEmpty)
  | .lst ds => some (!ds.isEmpty)
  | _ => none
mutual
/-- data as the library's own -/
def py : D → Option PyData
  | .non => some .none
  | .bl b => some (.bool b)
  | .int i => some (.int i)
  | .str x => some (.str x)
  | .tup ds => (pys ds).map .tuple
  | .lst ds => (pys ds).map .list
  | _ => none
def pys : List D → Option (List PyData)
  | [] => some []
  | d :: ds => match py d, pys ds with
    | some x, some xs => some (x :: xs)
    | _, _ => none
end
def eqD (a b : D) : Option Bool := match py a, py b with
  | some x, some y => if SeqAt.shaped x && SeqAt.shaped y then some (PyData.eqv x y) else none
  | _, _ => none
def opB : BOp → D → D → Option D
  | .add, .int a, .int b => some (.int (a + b))
  | .add, .str a, .str b => if a.length + b.length ≤ LIM then some (.str (a ++ b)) else none
  | .add, .lst a, .lst b => if a.length + b.length ≤ LIM then some (.lst (a ++ b)) else none
  | .add, .tup a, .tup b => if a.length + b.length ≤ LIM then some (.tup (a ++ b)) else none
  | .sub, .int a, .int b => some (.int (a - b))
  | .mul, .int a, .int b => if a.natAbs < 2 ^ 63 || b.natAbs < 2 ^ 63 then some (.int (a * b)) else none
  | .fdiv, .int a, .int b => if 0 < b && b.natAbs < 2 ^ 63 then some (.int (a / b)) else none
  | .mod, .int a, .int b => if 0 < b then some (.int (a % b)) else none
  | .pow, .int a, .int b => if 0 ≤ b && b ≤ 1000 && a.natAbs < 2 ^ 63 then some (.int (a ^ b.toNat)) else none
  | _, _, _ => none
def lexLt : List Int → List Int → Bool := HT.lexLt
def intsD : List D → Option (List Int)
  | [] => some []
  | .int i :: ds => (intsD ds).map (i :: ·)
  | _ => none
def isNon : D → Bool
  | .non => true
  | _ => false
def flatD : D → Bool
  | .non | .bl _ | .int _ | .str _ => true
  | _ => false
def eqI (i : Int) : D → Bool
  | .int j => i == j
  | .bl b => i == (if b then 1 else 0)
  | _ => false
def eqS (x : Str) : D → Bool
  | .str y => x == y
  | _ => false
def isIn (d : D) : D → Option Bool
  | .lst ds => match py d, pys ds with
    | some x, some xs => if SeqAt.shaped x && SeqAt.shaped (.list xs) then some (xs.any fun z => PyData.eqv z x) else none
    | _, _ => none
  | .tup ds => match d, ds.all flatD with
    | .int i, true => some (ds.any (eqI i))
    | .str x, true => some (ds.any (eqS x))
    | _, _ => none
  | .str y => match d with
    | .str x => some (!(Builtin.Str.occurrences y x 0 y.length 1).isEmpty)
    | _ => none
  | _ => none
def opC : COp → D → D → Option Bool
  | .eq, a, b => eqD a b
  | .ne, a, b => (eqD a b).map (!·)
  | .lt, .int a, .int b => some (decide (a < b))
  | .le, .int a, .int b => some (decide (a ≤ b))
  | .gt, .int a, .int b => some (decide (b < a))
  | .ge, .int a, .int b => some (decide (b ≤ a))
  | .lt, .tup a, .tup b => match intsD a, intsD b with
    | some x, some y => some (HT.lexLt x y)
    | _, _ => none
  | .is, a, .non => some (isNon a)
  | .isnot, a, .non => some (!isNon a)
  | .isin, a, b => isIn a b
  | .notin, a, b => (isIn a b).map (!·)
  | _, _, _ => none
def atD {α : Type} (xs : List α) (i : Int) : Option α := L2.atI xs i
def subD : D → D → Option D
  | .lst ds, .int i => atD ds i
  | .tup ds, .int i => atD ds i
  | .str x, .int i => (atD x.cps.toList i).map fun c => .str ⟨#[c]⟩
  | _, _ => none
def cutD (xs : List D) (lo hi : Option Int) : List D := (xs.drop (HT.sIx xs.length 0 lo)).take (HT.sIx xs.length xs.length hi - HT.sIx xs.length 0 lo)
def sliceD : D → Option Int → Option Int → Option D
  | .lst ds, lo, hi => some (.lst (cutD ds lo hi))
  | .tup ds, lo, hi => some (.tup (cutD ds lo hi))
  | .str x, lo, hi => some (.str (L2.cutS x lo hi))
  | _, _, _ => none
def tyN : Ty → String
  | .int => "int" | .bool => "bool" | .str => "str" | .list => "list" | .tuple => "tuple" | .dict => "dict" | .own _ => ""
def tyD : D → Ty → Option Bool
  | .non, _ => some false
  | .bl _, t => some (match t with | .bool | .int => true | _ => false)
  | .int _, t => some (match t with | .int => true | _ => false)
  | .str _, t => some (match t with | .str => true | _ => false)
  | .lst _, t => some (match t with | .list => true | _ => false)
  | .tup _, t => some (match t with | .tuple => true | _ => false)
  | .dk _, t => some (match t with | .dict => true | _ => false)
  | .dt _, t => some (match t with | .dict => true | _ => false)
  | .ins c _, t => some (match t with | .own c' => c == c' | _ => false)
  | _, _ => none
def bltD : Blt → List D → Option D
  | .len, [.lst ds] => some (.int ds.length)
  | .len, [.tup ds] => some (.int ds.length)
  | .len, [.str x] => some (.int x.length)
  | .int, [.int i] => some (.int i)
  | .list, [.lst ds] => some (.lst ds)
  | .list, [.tup ds] => some (.lst ds)
  | .list, [.str x] => some (.lst (x.cps.toList.map fun c => .str ⟨#[c]⟩))
  | .tuple, [.lst ds] => some (.tup ds)
  | .tuple, [.tup ds] => some (.tup ds)
  | .max, [.int i, .int j] => some (.int (if j > i then j else i))
  | .min, [.int i, .int j] => some (.int (if j < i then j else i))
  | .abs, [.int i] => some (.int (if i < 0 then -i else i))
  | .bool, [.bl b] => some (.bl b)
  | _, _ => none
def isStrD : D → Bool
  | .str _ => true
  | _ => false
def strsD : List D → Option (List Str)
  | [] => some []
  | .str x :: ds => (strsD ds).map (x :: ·)
  | _ => none
/-- a text's method -/
def bmD : BM → D → List D → Option D
  | .upper, .str a, [] => if a.length ≤ 5592405 then some (.str (Txt.upper a)) else none
  | .lower, .str a, [] => if a.length ≤ 5592405 then some (.str (Txt.lower a)) else none
  | .strip, .str a, [] => if (Txt.strip a).length ≤ LIM then some (.str (Txt.strip a)) else none
  | .startswith, .str a, [.str b] => some (.bl (Txt.startswith a b))
  | .find, .str a, [.str b] => some (.int (Txt.find a b))
  | .split, .str a, [.str b] => if b.length != 0 && decide (a.length + 2 ≤ LIM) && (Txt.split a b).all (fun x => decide (x.length ≤ LIM)) then some (.lst ((Txt.split a b).map .str)) else none
  | .words, .str a, [] => if decide (a.length + 2 ≤ LIM) && (Txt.words a).all (fun x => decide (x.length ≤ LIM)) then some (.lst ((Txt.words a).map .str)) else none
  | .partition, .str a, [.str b] => if b.length != 0 && [(Txt.partition a b).1, (Txt.partition a b).2.1, (Txt.partition a b).2.2].all (fun x => decide (x.length ≤ LIM)) then some (.tup [.str (Txt.partition a b).1, .str (Txt.partition a b).2.1, .str (Txt.partition a b).2.2]) else none
  | .join, .str a, [.lst ds] => match strsD ds with
    | some ys => if (ys.map (·.length)).sum + ys.length * a.length ≤ 16777216 && decide ((Txt.join a ys).length ≤ LIM) then some (.str (Txt.join a ys)) else none
    | none => none
  | .join, .str a, [.tup ds] => match strsD ds with
    | some ys => if (ys.map (·.length)).sum + ys.length * a.length ≤ 16777216 && decide ((Txt.join a ys).length ≤ LIM) then some (.str (Txt.join a ys)) else none
    | none => none
  | _, _, _ => none
def itemsD : D → Option (List D)
  | .lst ds => some ds
  | .tup ds => some ds
  | _ => none
def rngD (lo hi : Int) : Option (List D) := if -(2 ^ 40) ≤ lo && lo < 2 ^ 40 && -(2 ^ 40) ≤ hi && hi < 2 ^ 40 then some ((List.range (hi - lo).toNat).map fun (k : Nat) => .int (lo + k)) else none
def bindT (t : Tg) (d : D) (env : En) : Option En := match t with
  | .name i => some (env.set i (.val d))
  | .tup is => match d with
    | .tup ds => if ds.length == is.length then some ((is.zip ds).foldl (fun e p => e.set p.1 (.val p.2)) env) else none
    | _ => none
def wipeE (env : En) : List Nat → En
  | [] => env
  | i :: is => (wipeE env is).set i .no

/-- a comprehension's turns: f the item's test and element -/
def lcGo (f : D → Cells → Res (Option D)) : List D → Cells → Res (List D)
  | [], h => .ok [] h
  | d :: ds, h => match f d h with
    | .ok o h1 => (match lcGo f ds h1 with
      | .ok r h2 => .ok (match o with | some x => x :: r | none => r) h2
      | _ => .bad)
    | _ => .bad

/-- a field -/
def attrD (t : Tb) : D → Nat → Option D
  | .ins c fs, f => if t.ft c f then fs.lookup f else none
  | _, _ => none
/-- a method, hidden by no field -/
def methD (t : Tb) : D → Nat → Option Nat
  | .ins c fs, m => if (fs.lookup m).isNone then t.mt c m else none
  | _, _ => none
/-- a test's answer -/
def Res.test (r : Res D) : Res Bool := r.bind fun x h1 => lift (truth (see h1 x)) h1
/-- is its type told? -/
def hasTy (d : D) : Bool := (tyD d .int).isSome
/-- an own operator's def -/
def ownF (t : Tb) (k : Dn) : D → Option Nat
  | .ins c _ => t.ot c k
  | _ => none
/-- x op y, x's own method -/
def binR (F : FTab) (op : BOp) (h : Cells) (x y : D) : Res D := match opB op (see h x) (see h y) with
  | some d => .ok d h
  | none => match ownF F.tb (.bin op) (see h x), see h x, see h y with
    | some f, .ins c _, .ins c' _ => if c = c' then F.call f [x, y] h else .bad
    | _, _, _ => .bad
/-- is e a name that holds an object of our own? -/
def isOwn (env : En) (e : CE) : Bool := match e with
  | .var i => match env[i]? with
    | some (.own _) => true
    | _ => false
  | _ => false
def boolR (neg : Bool) : D → Cells → Res D
  | .bl b, h => .ok (.bl (if neg then !b else b)) h
  | _, _ => .bad
def inR (F : FTab) (neg own : Bool) (h : Cells) (x y : D) : Res D := if own then .bad else match ownF F.tb .has (see h y) with
  | some f => (F.call f [y, x] h).bind (boolR neg)
  | none => .bad
/-- a comparison by the left one's own method (in: by the right one's) -/
def cmpOwn (F : FTab) (op : COp) (own : Bool) (h : Cells) (x y : D) : Res D := match op with
  | .isin => inR F false own h x y
  | .notin => inR F true own h x y
  | .is | .isnot => .bad
  | op => if own || !hasTy (see h y) then .bad else match ownF F.tb (.cmp op) (see h x) with
    | some f => F.call f [x, y] h
    | none => .bad
def cmpR (F : FTab) (op : COp) (own : Bool) (h : Cells) (x y : D) : Res D := match opC op (see h x) (see h y) with
  | some b => .ok (.bl b) h
  | none => cmpOwn F op own h x y
/-- a base: an object of our own may be read where it stands -/
def based (env : En) (e : CE) (h : Cells) (r : Res D) : Res D := match e with
  | .var i => match env[i]? with
    | some (.own o) => .ok (obD o) h
    | _ => r
  | _ => r
mutual
def evE (F : FTab) (gl : Nat → Option D) (env : En) : CE → Cells → Res D
  | .cst .non, h => .ok .non h
  | .cst (.bl b), h => .ok (.bl b) h
  | .cst (.int i), h => .ok (.int i) h
  | .cst (.str x), h => .ok (.str x) h
  | .var i, h => match env[i]? with
    | some (.val d) => .ok d h
    | _ => .bad
  | .glob g, h => lift (gl g) h
  | .bin op a b, h => (evE F gl env a h).bind fun x h1 => (evE F gl env b h1).bind fun y h2 => binR F op h2 x y
  | .neg a, h => (evE F gl env a h).bind fun x h1 => match x with
    | .int i => .ok (.int (-i)) h1
    | _ => .bad
  | .cmp op a b, h => (evE F gl env a h).bind fun x h1 => (based env b h1 (evE F gl env b h1)).bind fun y h2 => cmpR F op (isOwn env b) h2 x y
  | .chain op op' a b c, h => (evE F gl env a h).bind fun x h1 => (evE F gl env b h1).bind fun y h2 => (lift (opC op (see h2 x) (see h2 y)) h2).bind fun r h3 =>
      if r then (evE F gl env c h3).bind fun z h4 => lift ((opC op' (see h4 y) (see h4 z)).map .bl) h4 else .ok (.bl false) h3
  | .and as, h => evAnd F gl env as h
  | .or as, h => evOr F gl env as h
  | .not a, h => ((evE F gl env a h).test).bind fun b h1 => .ok (.bl (!b)) h1
  | .ife t a b, h => ((evE F gl env t h).test).bind fun r h1 => if r then evE F gl env a h1 else evE F gl env b h1
  | .tup as, h => (evEs F gl env as h).bind fun ds h1 => if ds.length ≤ LIM then .ok (.tup ds) h1 else .bad
  | .lst as, h => (evEs F gl env as h).bind fun ds h1 => if ds.length ≤ LIM then .ok (.lst ds) h1 else .bad
  | .sub a i, h => (based env a h (evE F gl env a h)).bind fun x h1 => (evE F gl env i h1).bind fun y h2 => lift (subD (see h2 x) y) h2
  | .slice a lo hi, h => (based env a h (evE F gl env a h)).bind fun x h1 => (evO F gl env lo h1).bind fun l h2 => (evO F gl env hi h2).bind fun u h3 => lift (sliceD (see h3 x) l u) h3
  | .call f as, h => (evEs F gl env as h).bind fun ds h1 => F.call f ds h1
  | .blt b as, h => (evBs F gl env as h).bind fun ds h1 => lift (bltD b (ds.map (see h1))) h1
  | .bm m o as, h => (based env o h (evE F gl env o h)).bind fun x h1 => if isStrD x then (evBs F gl env as h1).bind fun ys h2 => lift (bmD m x (ys.map (see h2))) h2 else .bad
  | .meth o m as, h => (evE F gl env o h).bind fun x h1 => match methD F.tb (see h1 x) m with
    | some f => (evEs F gl env as h1).bind fun ds h2 => F.call f (x :: ds) h2
    | none => .bad
  | .attr o f, h => (based env o h (evE F gl env o h)).bind fun x h1 => lift (attrD F.tb (see h1 x) f) h1
  | .make c as, h => (evEs F gl env as h).bind fun ds h1 => (F.ini c ds h1).bind fun fs h2 => .ok (.ins c fs) h2
  | .isi a t, h => (evE F gl env a h).bind fun x h1 => lift ((tyD (see h1 x) t).map .bl) h1
  | .lc elt own t src cond, h => (evI F gl env src h).bind fun ds h1 => if ds.length ≤ LIM then
      (lcGo (fun d h => match bindT t d (wipeE env own) with
        | some env' => (evC F gl env' cond h).bind fun b h => if b then (evE F gl env' elt h).bind fun x h => .ok (some x) h else .ok none h
        | none => .bad) ds h1).bind fun r h2 => .ok (.lst r) h2 else .bad
  | .newc as, h => (evEs F gl env as h).bind fun ds h1 => if ds.length ≤ LIM then .ok (.cell h1.length) (h1 ++ [some (.lst ds)]) else .bad
def evEs (F : FTab) (gl : Nat → Option D) (env : En) : CEs → Cells → Res (List D)
  | .nil, h => .ok [] h
  | .cons a as, h => (evE F gl env a h).bind fun x h1 => (evEs F gl env as h1).bind fun xs h2 => .ok (x :: xs) h2
  | .star a as, h => (evE F gl env a h).bind fun x h1 => (lift (itemsD (see h1 x)) h1).bind fun ys h1 => (evEs F gl env as h1).bind fun xs h2 => .ok (ys ++ xs) h2
def evBs (F : FTab) (gl : Nat → Option D) (env : En) : CEs → Cells → Res (List D)
  | .nil, h => .ok [] h
  | .cons a as, h => (based env a h (evE F gl env a h)).bind fun x h1 => (evBs F gl env as h1).bind fun xs h2 => .ok (x :: xs) h2
  | .star _ _, _ => .bad
def evO (F : FTab) (gl : Nat → Option D) (env : En) : CO → Cells → Res (Option Int)
  | .none, h => .ok none h
  | .some a, h => (evE F gl env a h).bind fun x h1 => match x with
    | .int i => .ok (some i) h1
    | _ => .bad
/-- a comprehension's condition -/
def evC (F : FTab) (gl : Nat → Option D) (env : En) : CO → Cells → Res Bool
  | .none, h => .ok true h
  | .some a, h => (evE F gl env a h).test
def evI (F : FTab) (gl : Nat → Option D) (env : En) : CI → Cells → Res (List D)
  | .of a, h => (evE F gl env a h).bind fun x h1 => lift (itemsD x) h1
  | .rng1 a, h => (evE F gl env a h).bind fun x h1 => match x with
    | .int j => lift (rngD 0 j) h1
    | _ => .bad
  | .rng2 a b, h => (evE F gl env a h).bind fun x h1 => (evE F gl env b h1).bind fun y h2 => match x, y with
    | .int i, .int j => lift (rngD i j) h2
    | _, _ => .bad
def evAnd (F : FTab) (gl : Nat → Option D) (env : En) : CEs → Cells → Res D
  | .nil, _ => .bad
  | .star _ _, _ => .bad
  | .cons a .nil, h => evE F gl env a h
  | .cons _ (.star _ _), _ => .bad
  | .cons a (.cons b bs), h => (evE F gl env a h).bind fun x h1 => (lift (truth (see h1 x)) h1).bind fun k h1 => if k then evAnd F gl env (.cons b bs) h1 else .ok x h1
def evOr (F : FTab) (gl : Nat → Option D) (env : En) : CEs → Cells → Res D
  | .nil, _ => .bad
  | .star _ _, _ => .bad
  | .cons a .nil, h => evE F gl env a h
  | .cons _ (.star _ _), _ => .bad
  | .cons a (.cons b bs), h => (evE F gl env a h).bind fun x h1 => (lift (truth (see h1 x)) h1).bind fun k h1 => if k then .ok x h1 else evOr F gl env (.cons b bs) h1
end
end Rf
set_option Elab.async false
set_option linter.all false
set_option maxRecDepth 100000
set_option maxHeartbeats 2000000
/-! G3: statements, functions -/
namespace Rf
open PySem L2
inductive Out where
  | next (env : En) (h : Cells) | ret (d : D) (h : Cells) | brk (env : En) (h : Cells) | cont (env : En) (h : Cells) | exc (x : Exn) (env : En) (h : Cells) | bad
def Out.bind (o : Out) (k : En → Cells → Out) : Out := match o with
  | .next env h => k env h
  | o => o
def Res.out {α : Type} (r : Res α) (env : En) (k : α → Cells → Out) : Out := match r with
  | .ok a h => k a h
  | .exc x h => .exc x env h
  | .bad => .bad
@[simp] theorem Res.out_ok {α : Type} (a : α) (h : Cells) (env : En) (k : α → Cells → Out) : (Res.ok a h).out env k = k a h := nd rfl
@[simp] theorem Res.out_bad {α : Type} (env : En) (k : α → Cells → Out) : (Res.bad : Res α).out env k = .bad := nd rfl
@[simp] theorem Res.out_exc {α : Type} (x : Exn) (h : Cells) (env : En) (k : α → Cells → Out) : (Res.exc x h : Res α).out env k = .exc x env h := nd rfl
@[simp] theorem Out.bind_next (env : En) (h : Cells) (k : En → Cells → Out) : (Out.next env h).bind k = k env h := nd rfl
@[simp] theorem Out.bind_ret (d : D) (h : Cells) (k : En → Cells → Out) : (Out.ret d h).bind k = .ret d h := nd rfl
@[simp] theorem Out.bind_brk (env : En) (h : Cells) (k : En → Cells → Out) : (Out.brk env h).bind k = .brk env h := nd rfl
@[simp] theorem Out.bind_cont (env : En) (h : Cells) (k : En → Cells → Out) : (Out.cont env h).bind k = .cont env h := nd rfl
@[simp] theorem Out.bind_exc (x : Exn) (env : En) (h : Cells) (k : En → Cells → Out) : (Out.exc x env h).bind k = .exc x env h := nd rfl
@[simp] theorem Out.bind_bad (k : En → Cells → Out) : Out.bad.bind k = .bad := nd rfl

/-- a loop's turns -/
def forGo (t : Tg) (f : En → Cells → Out) : List D → En → Cells → Out
  | [], env, h => .next env h
  | d :: ds, env, h => match bindT t d env with
    | none => .bad
    | some env' => match f env' h with
      | .next e1 h1 => forGo t f ds e1 h1
      | .cont e1 h1 => forGo t f ds e1 h1
      | .brk e1 h1 => .next e1 h1
      | o => o
def whileGo (c : En → Cells → Res Bool) (f : En → Cells → Out) : Nat → En → Cells → Out
  | 0, _, _ => .bad
  | n + 1, env, h => (c env h).out env fun b h1 => if b then match f env h1 with
      | .next e1 h2 => whileGo c f n e1 h2
      | .cont e1 h2 => whileGo c f n e1 h2
      | .brk e1 h2 => .next e1 h2
      | o => o
    else .next env h1
/-- a new object as our own -/
def newOb : D → Option Ob
  | .lst ds => some (.lst ds)
  | _ => none
/-- which expressions make a new list -/
def fresh : CE → Bool
  | .lst _ => true
  | .lc _ _ _ _ _ => true
  | .blt .list (.cons _ .nil) => true
  | .slice _ _ _ => false
  | _ => false
/-- a field is set -/
def putD (f : Nat) (d : D) : List (Nat × D) → List (Nat × D)
  | [] => [(f, d)]
  | (g, x) :: r => if g = f then (g, d) :: r else (g, x) :: putD f d r
/-- while an exception is handled: no calls -/
def FTab.hot (F : FTab) : FTab := ⟨fun _ _ _ => .bad, fun _ _ _ => .bad, { F.tb with ot := fun _ _ => none }⟩
mutual
def evS (F : FTab) (gl : Nat → Option D) : CS → En → Cells → Out
  | .set i e, env, h => (evE F gl env e h).out env fun d h1 => .next (env.set i (.val d)) h1
  | .setN i e, env, h => (evE F gl env e h).out env fun d h1 => if fresh e then (match newOb d with
      | some o => .next (env.set i (.own o)) h1
      | none => .bad) else .bad
  | .setT is e, env, h => (evE F gl env e h).out env fun d h1 => match bindT (.tup is) d env with
      | some env' => .next env' h1
      | none => .bad
  | .setSub a i e, env, h => (evE F gl env e h).out env fun d h1 => match a with
      | .var q => (match env[q]? with
        | some (.own (.lst ds)) => (evE F gl env i h1).out env fun y h3 => (match y with
          | .int j => (match L2.ixN ds.length j with
            | some n => .next (env.set q (.own (.lst (ds.set n d)))) h3
            | none => .bad)
          | _ => .bad)
        | some (.val (.cell k)) => (evE F gl env i h1).out env fun y h3 => (match y, h3[k]? with
          | .int j, some (some (.lst ds)) => (match L2.ixN ds.length j with
            | some n => .next env (h3.set k (some (.lst (ds.set n d))))
            | none => .bad)
          | _, _ => .bad)
        | _ => .bad)
      | _ => .bad
  | .setAttr a f e, env, h => (evE F gl env e h).out env fun d h1 => match a with
      | .var q => (match env[q]? with
        | some (.own (.ins c fs)) => if F.tb.ft c f && decide (fs.length < 900) then .next (env.set q (.own (.ins c (putD f d fs)))) h1 else .bad
        | some (.val (.cell k)) => (match h1[k]? with
          | some (some (.ins c fs)) => if F.tb.ft c f && decide (fs.length < 900) then .next env (h1.set k (some (.ins c (putD f d fs)))) else .bad
          | _ => .bad)
        | _ => .bad)
      | _ => .bad
  | .app i e, env, h => match env[i]? with
      | some (.own (.lst ds)) => (evE F gl env e h).out env fun d h1 => if ds.length < LIM then .next (env.set i (.own (.lst (ds ++ [d])))) h1 else .bad
      | some (.val (.cell k)) => (match h[k]? with
        | some (some (.lst _)) => (evE F gl env e h).out env fun d h1 => (match h1[k]? with
          | some (some (.lst ds)) => if ds.length < LIM then .next env (h1.set k (some (.lst (ds ++ [d])))) else .bad
          | _ => .bad)
        | _ => .bad)
      | _ => .bad
  | .ex e, env, h => (evE F gl env e h).out env fun _ h1 => .next env h1
  | .ret e, env, h => (evE F gl env e h).out env fun d h1 => .ret d h1
  | .retN, _, h => .ret .non h
  | .ite t a b, env, h => (evE F gl env t h).test.out env fun r h1 => if r then evSs F gl a env h1 else evSs F gl b env h1
  | .for_ t src b, env, h => (evI F gl env src h).out env fun ds h1 => forGo t (evSs F gl b) ds env h1
  | .while_ n t b, env, h => whileGo (fun env h => (evE F gl env t h).test) (evSs F gl b) n env h
  | .pass, env, h => .next env h
  | .dead, _, _ => .bad
  | .brk, env, h => .brk env h
  | .cont, env, h => .cont env h
  | .raise_ c, env, h => .exc ⟨c, []⟩ env h
  | .try_ b c hd, env, h => match evSs F gl b env h with
    | .exc x env' h' => (match F.tb.sb x.c c with
      | some true => (match evSs F.hot gl hd env' h' with
        | .exc _ _ _ => .bad
        | o => o)
      | some false => .exc x env' h'
      | none => .bad)
    | o => o
  | .frz i, env, h => match env[i]? with
      | some (.own o) => .next (env.set i (.val (obD o))) h
      | _ => .bad
def evSs (F : FTab) (gl : Nat → Option D) : CSs → En → Cells → Out
  | .nil, env, h => .next env h
  | .cons s ss, env, h => (evS F gl s env h).bind fun env h => evSs F gl ss env h
end
/-! ### functions -/
/-- a def: its parameters' number, its names, its body -/
structure Fn where
  np : Nat
  nn : Nat
  body : CSs
  va : Bool := false
def start (n : Nat) (ds : List D) : En := ds.map .val ++ List.replicate (n - ds.length) .no
def Out.fin : Out → Res D
  | .ret d h => .ok d h
  | .next _ h => .ok .non h
  | .exc x _ h => .exc x h
  | _ => .bad
/-- what is bound: what is left over as a tuple -/
def packV (f : Fn) (ds : List D) : Option (List D) := if f.va then (if f.np ≤ ds.length + 1 ∧ ds.length ≤ LIM then some (ds.take (f.np - 1) ++ [.tup (ds.drop (f.np - 1))]) else none) else if ds.length = f.np then some ds else none
def runFn (F : FTab) (gl : Nat → Option D) (f : Fn) (ds : List D) (h : Cells) : Res D := match packV f ds with
  | some ds => (evSs F gl f.body (start f.nn ds) h).fin
  | none => .bad
/-- what a new instance has, behind its __init__ -/
def Out.fini (c : Nat) : Out → Res (List (Nat × D))
  | .next (.own (.ins k fs) :: _) h => if k = c then .ok fs h else .bad
  | .exc x _ h => .exc x h
  | _ => .bad
def runIni (F : FTab) (gl : Nat → Option D) (f : Fn) (c : Nat) (ds : List D) (h : Cells) : Res (List (Nat × D)) := if ds.length + 1 = f.np then (evSs F gl f.body (.own (.ins c []) :: start (f.nn - 1) ds) h).fini c else .bad
/-- the defs, so deep -/
def calls (gl : Nat → Option D) (fs : Nat → Option Fn) (tb : Tb) : Nat → FTab
  | 0 => ⟨fun _ _ _ => .bad, fun _ _ _ => .bad, tb⟩
  | n + 1 => ⟨fun f ds h => match fs f with
    | some fn => runFn (calls gl fs tb n) gl fn ds h
    | none => .bad, fun c ds h => match tb.it c with
    | some f => (match fs f with
      | some fn => runIni (calls gl fs tb n) gl fn c ds h
      | none => .bad)
    | none => .bad, tb⟩

example (F : FTab) (gl) : evE F gl [.val (.int 3)] (.bin .add (.var 0) (.cst (.int 4))) [] = .ok (.int 7) [] := rfl
example (F : FTab) (gl) (x : Int) : evSs F gl (.cons (.for_ (.name 1) (.rng1 (.cst (.int 3))) (.cons (.app 0 (.var 1)) .nil)) .nil) [.own (.lst []), .no] [] = .next [.own (.lst [.int 0, .int 1, .int 2]), .val (.int 2)] [] := rfl
end Rf
set_option Elab.async false
set_option linter.all false
set_option maxRecDepth 100000
set_option maxHeartbeats 2000000
/-! G4: what an answer promises -/
namespace Rf
open PySem L2

/-- an exception's class and own dict -/
def ExR (G : Gm) (w : W) (x : Exn) (cls : Value) (dd : Option Addr) : Prop :=
  cls = .ref (G.ca x.c) ∧ (x.fs = [] ∨ ∃ d fvs, dd = some d ∧ w.H d = some (.xd fvs) ∧ RepF G w x.fs fvs)
/-- behind the world w, by the answer r -/
def Post {α : Type} (G : Gm) (w : W) (r : Res α) (P : α → W → Prop) (E : Exn → W → Prop) : Prop := match r with
  | .ok a h' => ∀ w', w'.h = h' → WOk G w' → Ext w w' → P a w'
  | .exc x h' => ∀ w', w'.h = h' → WOk G w' → Ext w w' → E x w'
  | .bad => False
section
variable {α β : Type} {G : Gm} {w w1 : W} {r : Res α} {P P' : α → W → Prop} {E E' : Exn → W → Prop}
theorem Post.later (h : Post G w r P E) (e : Ext w w1) : Post G w1 r P E := by
  cases r with
  | ok a h' => exact fun w' eh ok e' => h w' eh ok (e.trans e')
  | exc x h' => exact fun w' eh ok e' => h w' eh ok (e.trans e')
  | bad => exact h
theorem Post.mono (h : Post G w r P E) (hp : ∀ a w', WOk G w' → Ext w w' → P a w' → P' a w') (he : ∀ x w', WOk G w' → Ext w w' → E x w' → E' x w') : Post G w r P' E' := by
  cases r with
  | ok a h' => exact fun w' eh ok e' => hp a w' ok e' (h w' eh ok e')
  | exc x h' => exact fun w' eh ok e' => he x w' ok e' (h w' eh ok e')
  | bad => exact h
theorem Post.bind {k : α → Cells → Res β} {P : β → W → Prop} (h : Post G w (r.bind k) P E) : Post G w r (fun a w1 => Post G w1 (k a w1.h) P E) E := by
  cases r with
  | ok a h' =>
    intro w1 eh ok e1
    subst eh
    exact Post.later (show Post G w (k a w1.h) P E from h) e1
  | exc x h' => exact h
  | bad => exact h
/-- the answer is one for sure -/
theorem Post.now {a : α} (h : Post G w (.ok a w.h) P E) (ok : WOk G w) : P a w := h w rfl ok (Ext.refl w)
theorem Post.at {a : α} (h : Post G w r P E) (e : r = .ok a w.h) (ok : WOk G w) : P a w := by
  subst e
  exact h w rfl ok (Ext.refl w)
theorem Post.lifted {o : Option α} (h : Post G w (lift o w.h) P E) : ∃ a, o = some a ∧ ∀ w', w'.h = w.h → WOk G w' → Ext w w' → P a w' := by
  cases o with
  | none => exact False.elim h
  | some a => exact ⟨a, rfl, h⟩
end

/-- the entry's world, and the object that is being made there -/
structure Bs extends W where
  me : Addr
/-- the slots: B the entry's world -/
structure EnvOk (G : Gm) (B : Bs) (w : W) (env : En) (σ : List (Option V)) (ω : Nat → Addr) : Prop where
  len : env.length = σ.length
  vals : ∀ (i : Nat) (d : D), env[i]? = some (Sl.val d) → ∃ v, σ[i]? = some (some v) ∧ Rep G w d v
  own : ∀ (i : Nat) (o : Ob), env[i]? = some (Sl.own o) → σ[i]? = some (some (.ref (ω i))) ∧ ObAt G w (ω i) o ∧ ¬ w.Z (ω i) ∧ ¬ w.live (ω i) ∧ B.H (ω i) = none
  inj : ∀ (i j : Nat) (o u : Ob), env[i]? = some (Sl.own o) → env[j]? = some (Sl.own u) → ω i = ω j → i = j
  mine : ∀ (i c : Nat) (fs : List (Nat × D)), env[i]? = some (Sl.own (.ins c fs)) → ω i = B.me
section
variable {G : Gm} {B : Bs} {w w' : W} {env : En} {σ : List (Option V)} {ω : Nat → Addr}
theorem ObAt.ext {a : Addr} {o : Ob} (h : ObAt G w a o) (ok : WOk G w) (nl : ¬ w.live a) (e : Ext w w') : ObAt G w' a o := by
  cases h with
  | lst h r => exact .lst (e.keep a _ h nl) (r.ext ok e)
  | dk h r => exact .dk (e.keep a _ h nl) (r.ext ok e)
  | dt h r => exact .dt (e.keep a _ h nl) (r.ext ok e)
  | ins hc h r => exact .ins hc (e.keep a _ h nl) (r.ext ok e)
theorem EnvOk.ext (x : EnvOk G B w env σ ω) (ok : WOk G w) (e : Ext w w') : EnvOk G B w' env σ ω where
  len := x.len
  vals := fun i d h => by
    obtain ⟨v, hv, r⟩ := x.vals i d h
    exact ⟨v, hv, r.ext ok e⟩
  own := fun i o h => by
    obtain ⟨h1, h2, h3, h4, h5⟩ := x.own i o h
    obtain ⟨u, hu, _⟩ := h2.soft
    refine ⟨h1, h2.ext ok h4 e, fun z => ?_, fun l => ?_, h5⟩
    · rcases e.zn _ z with z | z | z
      · exact h3 z
      · rw [hu] at z; cases z
      · exact h4 z
    · rcases e.live_back l with l | l
      · exact h4 l
      · rw [hu] at l; cases l
  inj := x.inj
  mine := x.mine
end

/-- what is seen -/
inductive Vw (G : Gm) (w : W) : D → V → Prop
  | non : Vw G w .non .non
  | bl (b : Bool) : Vw G w (.bl b) (.bl b)
  | int (i : Int) : Vw G w (.int i) (.int i)
  | str (x : Str) : x.length ≤ sizeLine → Vw G w (.str x) (.str x)
  | tup {a : Addr} {vs : List V} {ds : List D} : SqT G.K w.H a vs → Reps G w ds vs → Vw G w (.tup ds) (.ref a)
  | lst {a : Addr} {vs : List V} {ds : List D} : SqL G.K w.H a vs → Reps G w ds vs → Vw G w (.lst ds) (.ref a)
  | dk {a : Addr} {kvs : List (Key × V)} {kds : List (Key × D)} : w.H a = some (.dK kvs) → RepK G w kds kvs → Vw G w (.dk kds) (.ref a)
  | dt {a : Addr} {kvs : List (List Key × V)} {kds : List (List Key × D)} : w.H a = some (.dT kvs) → RepT G w kds kvs → Vw G w (.dt kds) (.ref a)
  | ins {a dx : Addr} {c : Nat} {fvs : List (Str × V)} {fs : List (Nat × D)} : c < G.nc → w.H a = some (.ins (G.ca c) dx fvs) → RepF G w fs fvs → Vw G w (.ins c fs) (.ref a)
  | cell (i : Nat) (a : Addr) : Vw G w (.cell i) (.ref a)
section
variable {G : Gm} {w w' : W}
theorem ObAt.vw {a : Addr} {o : Ob} (h : ObAt G w a o) : Vw G w (obD o) (.ref a) := by
  cases h with
  | lst h r => exact .lst (.inl (.inl h)) r
  | dk h r => exact .dk h r
  | dt h r => exact .dt h r
  | ins hc h r => exact .ins hc h r
theorem Rep.see (ok : WOk G w) : ∀ {d : D} {v : V}, Rep G w d v → Vw G w (see w.h d) v
  | _, _, .non => .non
  | _, _, .bl b => .bl b
  | _, _, .int i => .int i
  | _, _, .str x hx => .str x hx
  | _, _, .tup h r => .tup h r
  | _, _, .lst h r => .lst h.sq r
  | _, _, .dk z h r => .dk h r
  | _, _, .dt z h r => .dt h r
  | _, _, .ins hc z h r => .ins hc h r
  | _, _, .cell i hi => by
    cases e : w.h[i]? with
    | none =>
      have q : Rf.see w.h (.cell i) = .cell i := by simp only [Rf.see, e]
      rw [q]
      exact .cell i _
    | some o => cases o with
      | none =>
        have q : Rf.see w.h (.cell i) = .cell i := by simp only [Rf.see, e]
        rw [q]
        exact .cell i _
      | some ob =>
        have q : Rf.see w.h (.cell i) = obD ob := by
          cases ob <;> simp only [Rf.see, e, obD]
        rw [q]
        exact (ok.cell i ob e).1.vw
/-- a base: a datum, or an object of our own -/
def BRep (G : Gm) (w : W) (d : D) (v : V) : Prop := Rep G w d v ∨ ∃ a o, v = .ref a ∧ d = obD o ∧ ObAt G w a o ∧ ¬ w.live a
theorem BRep.ext {d : D} {v : V} (h : BRep G w d v) (ok : WOk G w) (e : Ext w w') : BRep G w' d v := by
  rcases h with h | ⟨a, o, rfl, rfl, h, nl⟩
  · exact .inl (h.ext ok e)
  · refine .inr ⟨a, o, rfl, rfl, h.ext ok nl e, fun l => ?_⟩
    obtain ⟨u, hu, _⟩ := h.soft
    rcases e.live_back l with l | l
    · exact nl l
    · rw [hu] at l; cases l
theorem see_ob (h : Cells) (o : Ob) : see h (obD o) = obD o := by cases o <;> rfl
theorem BRep.see {d : D} {v : V} (h : BRep G w d v) (ok : WOk G w) : Vw G w (see w.h d) v := by
  rcases h with h | ⟨a, o, rfl, rfl, h, nl⟩
  · exact h.see ok
  · rw [see_ob]; exact h.vw
theorem Reps.length {ds : List D} {vs : List V} : Reps G w ds vs → ds.length = vs.length
  | .nil => rfl
  | .cons _ r => by rw [List.length_cons, List.length_cons, r.length]
theorem Reps.get {ds : List D} {vs : List V} : ∀ {i : Nat} {d : D}, Reps G w ds vs → ds[i]? = some d → ∃ v, vs[i]? = some v ∧ Rep G w d v
  | _, _, .nil, h => by simp at h
  | 0, _, .cons r _, h => by
    simp at h
    subst h
    exact ⟨_, rfl, r⟩
  | i + 1, _, .cons _ r, h => by
    obtain ⟨v, h1, h2⟩ := r.get (i := i) (by simpa using h)
    exact ⟨v, by simpa using h1, h2⟩
theorem Reps.append {ds es : List D} {vs us : List V} : Reps G w ds vs → Reps G w es us → Reps G w (ds ++ es) (vs ++ us)
  | .nil, s => s
  | .cons r t, s => .cons r (t.append s)
theorem Reps.take {ds : List D} {vs : List V} : ∀ (n : Nat), Reps G w ds vs → Reps G w (ds.take n) (vs.take n)
  | 0, _ => by simp; exact .nil
  | _ + 1, .nil => .nil
  | n + 1, .cons r t => by
    rw [List.take_succ_cons, List.take_succ_cons]
    exact .cons r (t.take n)
theorem Reps.drop {ds : List D} {vs : List V} : ∀ (n : Nat), Reps G w ds vs → Reps G w (ds.drop n) (vs.drop n)
  | 0, r => r
  | _ + 1, .nil => .nil
  | n + 1, .cons _ t => t.drop n
theorem Reps.set {d : D} {v : V} (r : Rep G w d v) : ∀ {ds : List D} {vs : List V} (i : Nat), Reps G w ds vs → Reps G w (ds.set i d) (vs.set i v)
  | _, _, _, .nil => .nil
  | _, _, 0, .cons _ t => .cons r t
  | _, _, i + 1, .cons q t => .cons q (Reps.set r i t)
/-- a new frozen object -/
def W.put (w : W) (p : Addr) (o : HO) : W := ⟨fun a => w.Z a ∨ a = p, w.ι, w.h, upd w.H p o⟩
theorem new_frozen (ok : WOk G w) {p : Addr} {o : HO} (hp : w.H p = none) : WOk G (w.put p o) ∧ Ext w (w.put p o) := by
  have nl : ¬ w.live p := fun l => by
    obtain ⟨⟨u, hu, _⟩, _⟩ := ok.soft l
    rw [hp] at hu; cases hu
  have e : Ext w (w.put p o) := {
    z := fun _ z => .inl z
    zn := fun a z => by
      rcases z with z | rfl
      · exact .inl z
      · exact .inr (.inl hp)
    ι := fun _ _ => rfl
    len := Nat.le_refl _
    lv := fun i o _ h => ⟨o, h⟩
    fresh := fun i o hi h => by
      have h' : w.h[i]? = some (some o) := h
      rw [List.getElem?_eq_none hi] at h'
      cases h'
    keep := fun a u h _ => by
      show upd w.H p o a = some u
      rw [upd_ne (ne_of_none h hp)]
      exact h
    dom := fun a h => by
      have h' : upd w.H p o a = none := h
      by_cases q : a = p
      · rw [q]; exact hp
      · rw [upd_ne q] at h'; exact h' }
  refine ⟨⟨fun i ob h => ?_, fun i j a b h1 h2 h3 => ok.inj i j a b h1 h2 h3, fun a z => ?_⟩, e⟩
  · obtain ⟨h1, h2⟩ := ok.cell i ob h
    have hne : w.ι i ≠ p := fun q => nl ⟨i, ob, h, q⟩
    refine ⟨?_, fun z => ?_⟩
    · cases h1 with
      | lst hh r => exact .lst (by show upd w.H p o (w.ι i) = _; rw [upd_ne hne]; exact hh) (r.ext ok e)
      | dk hh r => exact .dk (by show upd w.H p o (w.ι i) = _; rw [upd_ne hne]; exact hh) (r.ext ok e)
      | dt hh r => exact .dt (by show upd w.H p o (w.ι i) = _; rw [upd_ne hne]; exact hh) (r.ext ok e)
      | ins hc hh r => exact .ins hc (by show upd w.H p o (w.ι i) = _; rw [upd_ne hne]; exact hh) (r.ext ok e)
    · rcases z with z | z
      · exact h2 z
      · exact hne z
  · by_cases q : a = p
    · exact ⟨o, by show upd w.H p o a = _; rw [q]; exact upd_same⟩
    · rcases z with z | z
      · obtain ⟨u, hu⟩ := ok.zin a z
        exact ⟨u, by show upd w.H p o a = _; rw [upd_ne q]; exact hu⟩
      · exact absurd z q
end
end Rf
set_option Elab.async false
set_option linter.all false
set_option maxRecDepth 100000
set_option maxHeartbeats 2000000
/-! G5: operators -/
namespace Rf
open PySem L2 PySem.Spec PyProof.Rows

def bop : BOp → Operator
  | .add => .Add | .sub => .Sub | .mul => .Mult | .fdiv => .FloorDiv | .mod => .Mod | .pow => .Pow | .bor => .BitOr | .band => .BitAnd | .bxor => .BitXor
def cop : COp → CmpOp
  | .eq => .Eq | .ne => .NotEq | .lt => .Lt | .le => .LtE | .gt => .Gt | .ge => .GtE | .is => .Is | .isnot => .IsNot | .isin => .In | .notin => .NotIn

/-- what the answer d wants -/
def Ends1 (G : Gm) (w : W) (d : D) (Q : VK) : Prop := ∀ w' v, w'.h = w.h → WOk G w' → Ext w w' → Rep G w' d v → Q v w'.H
section
variable {G : Gm} {w : W} {Q : VK} {X : Cx}
theorem Ends1.here {d : D} {v : V} (h : Ends1 G w d Q) (ok : WOk G w) (r : Rep G w d v) : Q v w.H := h w v rfl ok (Ext.refl w) r
theorem Ends1.lst {ds : List D} {vs : List V} (h : Ends1 G w (.lst ds) Q) (ok : WOk G w) (r : Reps G w ds vs) : ∀ p, w.H p = none → Q (.ref p) (upd w.H p (.lst vs)) := fun p hp => by
  obtain ⟨ok', e⟩ := new_frozen (o := .lst vs) ok hp
  exact h (w.put p (.lst vs)) (.ref p) rfl ok' e (.lst (.inl ⟨.inr rfl, upd_same⟩) (r.ext ok e))
theorem Ends1.tup {ds : List D} {vs : List V} (h : Ends1 G w (.tup ds) Q) (ok : WOk G w) (r : Reps G w ds vs) : ∀ p, w.H p = none → Q (.ref p) (upd w.H p (.tup vs)) := fun p hp => by
  obtain ⟨ok', e⟩ := new_frozen (o := .tup vs) ok hp
  exact h (w.put p (.tup vs)) (.ref p) rfl ok' e (.tup (.inl (.inl upd_same)) (r.ext ok e))

theorem list_cat {pins : List (Addr × Obj)} {σ : L2.St} {H : Hp} {s : Shared} {l b : Addr} {xs zs : List V} {Q : VK} (I : Inv X pins σ H s) (h1 : SqL X.K H l xs) (h2 : SqL X.K H b zs) (hz : xs.length + zs.length ≤ sizeLine)
    (q : ∀ p, H p = none → Q (.ref p) (upd H p (.lst (xs ++ zs)))) : wpAny (model X.prog X.w) X.A (binaryOp .Add (.ref l) (.ref b)) (EP X pins σ Q) X.xe s := by
  obtain ⟨its, r, ⟨⟨cls, dd, data, sl⟩, n, ho, hc, hd0, hd⟩, _⟩ := I.list h1
  obtain ⟨its2, r2, ⟨⟨cls2, dd2, data2, sl2⟩, n2, ho2, hc2, hd02, hd2⟩, _⟩ := I.list h2
  simp only at hc hd0 hd hc2 hd02 hd2
  subst hc hd0 hd hc2 hd02 hd2
  have e : its.toArray ++ its2.toArray = (its ++ its2).toArray := by simp
  have l1 := r.length
  have l2 := r2.length
  refine concat_meets ⟨_, ho, rfl⟩ ⟨_, ho2, rfl⟩ noFill_list_add seq_list_add PySem.F.slot_list_add PySem.F.entry_list_add (PySem.F.args_list_add_2 _ _) (list_addW l b its.toArray its2.toArray n n2 none none sl sl2 (by simp; omega)) ⟨ho, ho2, ?_⟩
  rw [e]
  exact ⟨.ref _, _, I.lnew (t' := s.toks) (r.append r2) (by rw [List.length_append]; omega), rfl, q _ I.fresh⟩

/-- a two-place operation on data -/
def rB (G : Gm) (op : BOp) : R2 := fun x y H Q => ∃ w d1 d2 d3, w.H = H ∧ WOk G w ∧ Vw G w d1 x ∧ Vw G w d2 y ∧ opB op d1 d2 = some d3 ∧ Ends1 G w d3 Q
theorem lim_size : LIM = sizeLine := by decide
theorem opB_ok (hK : X.K = G.K) (op : BOp) : OpR X (binaryOp (bop op)) (rB G op) := by
  intro pins s σ H x y v u Q I rx ry h
  obtain ⟨w, d1, d2, d3, rfl, ok, v1, v2, e, k⟩ := h
  unfold opB at e
  split at e
  · cases e; cases v1; cases v2
    exact op_add pins s σ _ _ _ v u Q I rx ry ⟨_, _, rfl, rfl, k.here ok (.int _)⟩
  · split at e
    · rename_i hz
      cases e; cases v1; cases v2
      refine op_add_str pins s σ _ _ _ v u Q I rx ry ⟨_, _, rfl, rfl, hz, k.here ok (.str _ ?_)⟩
      exact Nat.le_trans (Nat.le_of_eq (PySem.Str.length_append _ _)) hz
    · cases e
  · split at e
    · rename_i hz
      cases e
      cases v1 with | lst h1 r1 =>
      cases v2 with | lst h2 r2 =>
      cases rx; cases ry
      rw [← hK] at h1 h2
      exact list_cat I h1 h2 (by rw [← r1.length, ← r2.length]; exact hz) (k.lst ok (r1.append r2))
    · cases e
  · split at e
    · rename_i hz
      cases e
      cases v1 with | tup h1 r1 =>
      cases v2 with | tup h2 r2 =>
      have hz' := hz
      rw [r1.length, r2.length] at hz'
      have h1' := h1
      have h2' := h2
      rw [← hK] at h1' h2'
      refine op_catA pins s σ _ _ _ v u Q I rx ry ⟨_, _, _, _, rfl, rfl, h1', h2', hz', fun e0 => ?_, fun _ e0 => ?_, fun _ _ => k.tup ok (r1.append r2)⟩
      · subst e0
        cases r1
        exact k.here ok (.tup h2 r2)
      · subst e0
        cases r2
        refine k.here ok ?_
        rw [List.append_nil]
        exact .tup h1 r1
    · cases e
  · cases e; cases v1; cases v2
    exact op_sub pins s σ _ _ _ v u Q I rx ry ⟨_, _, rfl, rfl, k.here ok (.int _)⟩
  · split at e
    · rename_i hz
      cases e; cases v1; cases v2
      refine op_mul pins s σ _ _ _ v u Q I rx ry ⟨_, _, rfl, rfl, ?_, k.here ok (.int _)⟩
      rw [Bool.or_eq_true, decide_eq_true_eq, decide_eq_true_eq] at hz
      unfold CMul
      omega
    · cases e
  · split at e
    · rename_i hz
      cases e; cases v1; cases v2
      rw [Bool.and_eq_true, decide_eq_true_eq, decide_eq_true_eq] at hz
      exact op_fdivW pins s σ _ _ _ v u Q I rx ry ⟨_, _, rfl, rfl, wide_div hz.1 hz.2 (by decide) (by decide), k.here ok (.int _)⟩
    · cases e
  · split at e
    · rename_i hz
      cases e; cases v1; cases v2
      exact op_mod pins s σ _ _ _ v u Q I rx ry ⟨_, _, rfl, rfl, hz, k.here ok (.int _)⟩
    · cases e
  · split at e
    · rename_i hz
      cases e; cases v1; cases v2
      refine op_pow pins s σ _ _ _ v u Q I rx ry ⟨_, _, rfl, rfl, ?_, k.here ok (.int _)⟩
      simp only [Bool.and_eq_true, decide_eq_true_eq] at hz
      unfold CPow
      omega
    · cases e
  · cases e

/-! ### comparisons -/
mutual
theorem Rep.dp : ∀ {d : D} {v : V} {p : PyData}, Rep G w d v → py d = some p → Dp G.K w.H v p
  | .non, _, _, .non, e => by simp only [py] at e; cases e; exact .non
  | .bl b, _, _, .bl _, e => by simp only [py] at e; cases e; exact .bl b
  | .int i, _, _, .int _, e => by simp only [py] at e; cases e; exact .int i
  | .str x, _, _, .str _ _, e => by simp only [py] at e; cases e; exact .str x
  | .tup ds, _, _, .tup h r, e => by
    simp only [py] at e
    obtain ⟨ps, h1, h2⟩ := Option.map_eq_some_iff.mp e
    subst h2
    exact .tup h (Reps.dp r h1)
  | .lst ds, _, _, .lst h r, e => by
    simp only [py] at e
    obtain ⟨ps, h1, h2⟩ := Option.map_eq_some_iff.mp e
    subst h2
    exact .lst h.sq (Reps.dp r h1)
  | .dk _, _, _, _, e => by simp only [py] at e; cases e
  | .dt _, _, _, _, e => by simp only [py] at e; cases e
  | .ins _ _, _, _, _, e => by simp only [py] at e; cases e
  | .cell _, _, _, _, e => by simp only [py] at e; cases e
theorem Reps.dp : ∀ {ds : List D} {vs : List V} {ps : List PyData}, Reps G w ds vs → pys ds = some ps → DpAll G.K w.H vs ps
  | [], _, _, .nil, e => by simp only [pys] at e; cases e; exact .nil
  | d :: ds, _, _, .cons h r, e => by
    simp only [pys] at e
    cases h1 : py d with
    | none => rw [h1] at e; cases e
    | some x => cases h2 : pys ds with
      | none => rw [h1, h2] at e; cases e
      | some xs =>
        rw [h1, h2] at e
        cases e
        exact .cons (Rep.dp h h1) (Reps.dp r h2)
end
theorem Vw.dp {d : D} {v : V} {p : PyData} (h : Vw G w d v) (e : py d = some p) : Dp G.K w.H v p := by
  cases h with
  | non => simp only [py] at e; cases e; exact .non
  | bl b => simp only [py] at e; cases e; exact .bl b
  | int i => simp only [py] at e; cases e; exact .int i
  | str x _ => simp only [py] at e; cases e; exact .str x
  | tup h r =>
    simp only [py] at e
    obtain ⟨ps, h1, h2⟩ := Option.map_eq_some_iff.mp e
    subst h2
    exact .tup h (Reps.dp r h1)
  | lst h r =>
    simp only [py] at e
    obtain ⟨ps, h1, h2⟩ := Option.map_eq_some_iff.mp e
    subst h2
    exact .lst h (Reps.dp r h1)
  | dk _ _ => simp only [py] at e; cases e
  | dt _ _ => simp only [py] at e; cases e
  | ins _ _ _ => simp only [py] at e; cases e
  | cell _ _ => simp only [py] at e; cases e
theorem eqD_some {a b : D} {r : Bool} (h : eqD a b = some r) : ∃ x y, py a = some x ∧ py b = some y ∧ SeqAt.shaped x = true ∧ SeqAt.shaped y = true ∧ r = PyData.eqv x y := by
  unfold eqD at h
  split at h
  · rename_i x y h1 h2
    split at h
    · rename_i hs
      rw [Bool.and_eq_true] at hs
      cases h
      exact ⟨x, y, h1, h2, hs.1, hs.2, rfl⟩
    · cases h
  · cases h
theorem ints_reps : ∀ {ds : List D} {vs : List V} {ns : List Int}, Reps G w ds vs → intsD ds = some ns → vs = ns.map V.int
  | [], _, _, .nil, e => by simp only [intsD] at e; cases e; rfl
  | .int i :: ds, _, _, .cons h r, e => by
    simp only [intsD] at e
    obtain ⟨ps, h1, h2⟩ := Option.map_eq_some_iff.mp e
    subst h2
    cases h
    rw [List.map_cons, ints_reps r h1]
  | .non :: _, _, _, _, e => by simp only [intsD] at e; cases e
  | .bl _ :: _, _, _, _, e => by simp only [intsD] at e; cases e
  | .str _ :: _, _, _, _, e => by simp only [intsD] at e; cases e
  | .tup _ :: _, _, _, _, e => by simp only [intsD] at e; cases e
  | .lst _ :: _, _, _, _, e => by simp only [intsD] at e; cases e
  | .dk _ :: _, _, _, _, e => by simp only [intsD] at e; cases e
  | .dt _ :: _, _, _, _, e => by simp only [intsD] at e; cases e
  | .ins _ _ :: _, _, _, _, e => by simp only [intsD] at e; cases e
  | .cell _ :: _, _, _, _, e => by simp only [intsD] at e; cases e
/-- flat data -/
theorem flat_reps : ∀ {ds : List D} {vs : List V}, Reps G w ds vs → ds.all flatD = true → vs.all flatV = true
  | [], _, .nil, _ => rfl
  | d :: ds, _, .cons h r, e => by
    rw [List.all_cons, Bool.and_eq_true] at e
    rw [List.all_cons, Bool.and_eq_true]
    refine ⟨?_, flat_reps r e.2⟩
    cases h <;> first | rfl | exact absurd e.1 (by simp [flatD])
theorem any_int {i : Int} : ∀ {ds : List D} {vs : List V}, Reps G w ds vs → ds.all flatD = true →
    (vs.any fun y => eqV y (.int i)) = ds.any (eqI i)
  | [], _, .nil, _ => rfl
  | d :: ds, _, .cons h r, e => by
    rw [List.all_cons, Bool.and_eq_true] at e
    rw [List.any_cons, List.any_cons, any_int r e.2]
    congr 1
    cases h <;> first | rfl | (simp only [eqV, eqI]; exact Bool.eq_iff_iff.mpr (by rw [beq_iff_eq, beq_iff_eq]; exact ⟨Eq.symm, Eq.symm⟩)) | exact absurd e.1 (by simp [flatD])
theorem any_str {x : Str} : ∀ {ds : List D} {vs : List V}, Reps G w ds vs → ds.all flatD = true →
    (vs.any fun y => eqV y (.str x)) = ds.any (eqS x)
  | [], _, .nil, _ => rfl
  | d :: ds, _, .cons h r, e => by
    rw [List.all_cons, Bool.and_eq_true] at e
    rw [List.any_cons, List.any_cons, any_str r e.2]
    congr 1
    cases h <;> first | rfl | (simp only [eqV, eqS]; exact Bool.eq_iff_iff.mpr (by rw [beq_iff_eq, beq_iff_eq]; exact ⟨Eq.symm, Eq.symm⟩)) | exact absurd e.1 (by simp [flatD])
/-- in -/
def rInB (G : Gm) (neg : Bool) : R2 := fun x y H Q => ∃ w d1 d2 b, w.H = H ∧ WOk G w ∧ Vw G w d1 x ∧ Vw G w d2 y ∧ isIn d1 d2 = some b ∧ Q (.bl (if neg then !b else b)) H
theorem isIn_ok (hK : X.K = G.K) (hu : X.A.units + 65 < cLine) (neg : Bool) : OpR X (compareOp (if neg then .NotIn else .In)) (rInB G neg) := by
  intro pins s σ H x y v u Q I rx ry h
  obtain ⟨w, d1, d2, b, rfl, ok, v1, v2, e, k⟩ := h
  unfold isIn at e
  split at e
  · rename_i ds
    split at e
    · rename_i p ps h1 h2
      split at e
      · rename_i hs
        rw [Bool.and_eq_true] at hs
        cases e
        have q1 := v1.dp h1
        have q2 := v2.dp (p := .list ps) (by simp only [py, h2]; rfl)
        rw [← hK] at q1 q2
        cases neg with
        | true => exact op_notInD hu pins s σ _ _ _ v u Q I rx ry ⟨_, _, q1, q2, hs.1, hs.2, k⟩
        | false => exact op_inD hu pins s σ _ _ _ v u Q I rx ry ⟨_, _, q1, q2, hs.1, hs.2, k⟩
      · cases e
    · cases e
  · rename_i ds
    split at e
    · rename_i i hf
      cases e
      cases v1
      cases v2 with | tup h2 r2 =>
      rw [← hK] at h2
      have hn : inV (.int i) _ = _ := any_int (i := i) r2 hf
      rw [← hn] at k
      cases neg with
      | true => exact op_notIn_seq pins s σ _ _ _ v u Q I rx ry ⟨_, _, rfl, .inr h2, rfl, flat_reps r2 hf, k⟩
      | false => exact op_in_seq pins s σ _ _ _ v u Q I rx ry ⟨_, _, rfl, .inr h2, rfl, flat_reps r2 hf, k⟩
    · rename_i z hf
      cases e
      cases v1
      cases v2 with | tup h2 r2 =>
      rw [← hK] at h2
      have hn : inV (.str z) _ = _ := any_str (x := z) r2 hf
      rw [← hn] at k
      cases neg with
      | true => exact op_notIn_seq pins s σ _ _ _ v u Q I rx ry ⟨_, _, rfl, .inr h2, rfl, flat_reps r2 hf, k⟩
      | false => exact op_in_seq pins s σ _ _ _ v u Q I rx ry ⟨_, _, rfl, .inr h2, rfl, flat_reps r2 hf, k⟩
    · cases e
  · split at e
    · cases e
      cases v1; cases v2
      cases neg with
      | true => exact op_notIn_str pins s σ _ _ _ v u Q I rx ry ⟨_, _, rfl, rfl, k⟩
      | false => exact op_in_str pins s σ _ _ _ v u Q I rx ry ⟨_, _, rfl, rfl, k⟩
    · cases e
  · cases e
def rC (G : Gm) (op : COp) : R2 := fun x y H Q => ∃ w d1 d2 b, w.H = H ∧ WOk G w ∧ Vw G w d1 x ∧ Vw G w d2 y ∧ opC op d1 d2 = some b ∧ Q (.bl b) H
theorem opC_ok (hK : X.K = G.K) (hu : X.A.units + 65 < cLine) (op : COp) : OpR X (compareOp (cop op)) (rC G op) := by
  intro pins s σ H x y v u Q I rx ry h
  obtain ⟨w, d1, d2, b, rfl, ok, v1, v2, e, k⟩ := h
  unfold opC at e
  split at e
  · obtain ⟨p, q, h1, h2, s1, s2, rfl⟩ := eqD_some e
    have q1 := v1.dp h1
    have q2 := v2.dp h2
    rw [← hK] at q1 q2
    exact op_eqD (by omega) pins s σ _ _ _ v u Q I rx ry ⟨_, _, q1, q2, s1, s2, k⟩
  · obtain ⟨r, hr, rfl⟩ := Option.map_eq_some_iff.mp e
    obtain ⟨p, q, h1, h2, s1, s2, rfl⟩ := eqD_some hr
    have q1 := v1.dp h1
    have q2 := v2.dp h2
    rw [← hK] at q1 q2
    exact op_neD (by omega) pins s σ _ _ _ v u Q I rx ry ⟨_, _, q1, q2, s1, s2, k⟩
  · cases e; cases v1; cases v2
    exact op_lt pins s σ _ _ _ v u Q I rx ry ⟨_, _, rfl, rfl, k⟩
  · cases e; cases v1; cases v2
    exact op_le pins s σ _ _ _ v u Q I rx ry ⟨_, _, rfl, rfl, k⟩
  · cases e; cases v1; cases v2
    exact op_gt pins s σ _ _ _ v u Q I rx ry ⟨_, _, rfl, rfl, k⟩
  · cases e; cases v1; cases v2
    exact op_ge pins s σ _ _ _ v u Q I rx ry ⟨_, _, rfl, rfl, k⟩
  · split at e
    · rename_i n1 n2 h1 h2
      cases e
      cases v1 with | tup q1 r1 =>
      cases v2 with | tup q2 r2 =>
      rw [ints_reps r1 h1, ← hK] at q1
      rw [ints_reps r2 h2, ← hK] at q2
      exact op_ltT (by omega) pins s σ _ _ _ v u Q I rx ry ⟨_, _, _, _, rfl, rfl, q1, q2, k⟩
    · cases e
  · cases e
    cases v2
    refine op_isN pins s σ _ _ _ v u Q I rx ry ⟨rfl, ?_⟩
    have e : decide (x = V.non) = isNon d1 := by
      cases v1 <;> rfl
    rw [e]
    exact k
  · cases e
    cases v2
    refine op_notN pins s σ _ _ _ v u Q I rx ry ⟨rfl, ?_⟩
    have e : (!decide (x = V.non)) = !isNon d1 := by
      cases v1 <;> rfl
    rw [e]
    exact k
  · exact isIn_ok hK hu false pins s σ _ _ _ v u Q I rx ry ⟨w, _, _, b, rfl, ok, v1, v2, e, k⟩
  · obtain ⟨r, hr, rfl⟩ := Option.map_eq_some_iff.mp e
    exact isIn_ok hK hu true pins s σ _ _ _ v u Q I rx ry ⟨w, _, _, r, rfl, ok, v1, v2, hr, k⟩
  · cases e
end
end Rf
set_option Elab.async false
set_option linter.all false
set_option maxRecDepth 100000
set_option maxHeartbeats 2000000
/-! G6: subscripts, built-in functions, truth, isinstance -/
namespace Rf
open PySem L2 PySem.Spec PyProof.Rows
section
variable {G : Gm} {w : W} {Q : VK} {X : Cx}
theorem atD_rep {ds : List D} {vs : List V} {i : Int} {d : D} (r : Reps G w ds vs) (h : atD ds i = some d) : ∃ v, atI vs i = some v ∧ Rep G w d v := by
  unfold atD L2.atI at h
  unfold L2.atI
  rw [← r.length]
  cases e : ixN ds.length i with
  | none => rw [e] at h; cases h
  | some j =>
    rw [e] at h
    have h' : ds[j]? = some d := h
    obtain ⟨v, h1, h2⟩ := r.get h'
    exact ⟨v, h1, h2⟩
def rSub (G : Gm) : R2 := fun x y H Q => ∃ w d1 d2 d3, w.H = H ∧ WOk G w ∧ Vw G w d1 x ∧ Vw G w d2 y ∧ subD d1 d2 = some d3 ∧ Ends1 G w d3 Q
theorem sub_ok (hK : X.K = G.K) : IxR X (rSub G) := by
  intro value slice pins s σ H x y v u Q I rx ry h hs
  obtain ⟨w, d1, d2, d3, rfl, ok, v1, v2, e, k⟩ := h
  unfold subD at e
  split at e
  · cases v2
    cases v1 with | lst h1 r1 =>
    rw [← hK] at h1
    obtain ⟨z, hz, rz⟩ := atD_rep r1 e
    exact ix_list value slice pins s σ _ _ _ v u Q I rx ry ⟨_, _, _, _, rfl, rfl, h1, hz, k.here ok rz⟩ hs
  · cases v2
    cases v1 with | tup h1 r1 =>
    rw [← hK] at h1
    obtain ⟨z, hz, rz⟩ := atD_rep r1 e
    exact ix_tup value slice pins s σ _ _ _ v u Q I rx ry ⟨_, _, _, _, rfl, rfl, h1, hz, k.here ok rz⟩ hs
  · cases v2
    cases v1 with | str z hz =>
    obtain ⟨c, hc, rfl⟩ := Option.map_eq_some_iff.mp e
    exact ix_str value slice pins s σ _ _ _ v u Q I rx ry ⟨_, _, _, rfl, rfl, hz, hc, k.here ok (.str _ (by show (1 : Nat) ≤ sizeLine; decide))⟩ hs
  · cases e

theorem cut_rep {ds : List D} {vs : List V} (r : Reps G w ds vs) (lo hi : Option Int) : Reps G w (cutD ds lo hi) (cutV vs lo hi) := by
  unfold cutD cutV
  rw [r.length]
  exact (r.drop _).take _
def rSl (G : Gm) : V → Option Int → Option Int → Hp → VK → Prop := fun x lo hi H Q => ∃ w d1 d3, w.H = H ∧ WOk G w ∧ Vw G w d1 x ∧ sliceD d1 lo hi = some d3 ∧ Ends1 G w d3 Q
theorem slice_ok (hK : X.K = G.K) : SlR X (rSl G) := by
  intro pins s σ H x v vl vu lo hi sl Q I rx hs pl pu h
  obtain ⟨w, d1, d3, rfl, ok, v1, e, k⟩ := h
  unfold sliceD at e
  split at e
  · cases e
    cases v1 with | lst h1 r1 =>
    rw [← hK] at h1
    exact sl_list pins s σ _ _ v vl vu lo hi sl Q I rx hs pl pu ⟨_, _, rfl, h1, k.lst ok (cut_rep r1 lo hi)⟩
  · cases e
    cases v1 with | tup h1 r1 =>
    rename_i ds a vs
    have h1' := h1
    rw [← hK] at h1'
    refine sl_tupA pins s σ _ _ v vl vu lo hi sl Q I rx hs pl pu ⟨_, _, rfl, h1', fun hw => ?_, fun _ => k.tup ok (cut_rep r1 lo hi)⟩
    have e1 : cutD ds lo hi = ds := by
      unfold cutD
      rw [r1.length, hw.1, hw.2, List.drop_zero, ← r1.length, Nat.sub_zero, List.take_length]
    rw [e1] at k
    exact k.here ok (.tup h1 r1)
  · cases e
    cases v1 with | str z hz =>
    exact sl_str pins s σ _ _ v vl vu lo hi sl Q I rx hs pl pu ⟨_, rfl, hz, k.here ok (.str _ (Nat.le_trans (cutS_length _ _ _) hz))⟩
  · cases e

/-! ### truth -/
theorem truth_v {d : D} {v : V} {b : Bool} (h : Vw G w d v) (e : truth d = some b) : TruV G.K v w.H b := by
  cases h with
  | non => cases e; rfl
  | bl b => cases e; rfl
  | int i => cases e; rfl
  | str x hx =>
    cases e
    refine ⟨hx, ?_⟩
    cases q : x.length <;> rfl
  | tup h r =>
    cases e
    refine .inr (.inl ⟨_, h, ?_⟩)
    cases r <;> rfl
  | lst h r =>
    cases e
    refine .inl ⟨_, h, ?_⟩
    cases r <;> rfl
  | dk _ _ => cases e
  | dt _ _ => cases e
  | ins _ _ _ => cases e
  | cell _ _ => cases e

/-! ### built-in functions -/
inductive VwA (G : Gm) (w : W) : List D → List V → Prop
  | nil : VwA G w [] []
  | cons {d : D} {ds : List D} {v : V} {vs : List V} : Vw G w d v → VwA G w ds vs → VwA G w (d :: ds) (v :: vs)
/-- list(text) -/
theorem signs_rep {G : Gm} {w : W} (l : List Nat) : Reps G w (l.map fun c => .str ⟨#[c]⟩) (l.map fun c => V.str ⟨#[c]⟩) := by
  induction l with
  | nil => exact .nil
  | cons c l ih => exact .cons (.str _ (by show 1 ≤ sizeLine; decide)) ih
theorem signs_vals : ∀ (l : List Nat) (us : List Value), us.length = l.length → (∀ (j : Nat) (v : Value), us[j]? = some v → ∃ c t, l[j]? = some c ∧ v = .str ⟨#[c]⟩ t) → Vals (l.map fun c => V.str ⟨#[c]⟩) us
  | [], [], _, _ => .nil
  | [], _ :: _, e, _ => by cases e
  | _ :: _, [], e, _ => by cases e
  | c :: l, u :: us, e, h => by
    obtain ⟨c', t, h1, h2⟩ := h 0 u rfl
    cases h1
    exact .cons ⟨t, h2⟩ (signs_vals l us (by simpa using e) fun j v hj => h (j + 1) v hj)
theorem call_listS {X : Cx} (hc : X.calm = true) : CallR X (.type "list") (fun xs H Q => ∃ x : Str, xs = [.str x] ∧ x.length ≤ sizeLine ∧ ∀ p, H p = none → Q (.ref p) (upd H p (.lst (x.cps.toList.map fun c => .str ⟨#[c]⟩)))) := by
  intro pins s σ H xs us Q I r q
  obtain ⟨x, rfl, hz, q⟩ := q
  obtain ⟨u, rfl, t, rfl⟩ := vals1 r
  refine call_list_str (I.ok.hd hc) x t (fun h' tk acc c' hk hD hacc => ?_) hz
  have hv : Vals (x.cps.toList.map fun c => V.str ⟨#[c]⟩) acc.toList := signs_vals _ _ (by rw [Array.length_toList, hacc.1, Array.length_toList]) fun j v e => by
    rw [Array.getElem?_toList] at e
    obtain ⟨c, k, h1, h2⟩ := hacc.2 j v e
    exact ⟨c, k, by rw [Array.getElem?_toList]; exact h1, h2⟩
  exact ⟨.ref s.heap.objs.size, upd H s.heap.objs.size (.lst (x.cps.toList.map fun c => .str ⟨#[c]⟩)), I.laid (t' := tk) hk (Nat.le_refl _)
    (show ObjOk X.prog X.w _ _ _ (.lst _) from ⟨by rw [List.length_map, Array.length_toList]; exact hz, acc.toList, c', hv, by rw [Array.toArray_toList]; exact hD⟩), rfl, q _ (I.hok.fresh (Nat.le_refl _))⟩
def bnm : Blt → Str
  | .len => "len" | .int => "int" | .bool => "bool" | .str => "str" | .list => "list" | .tuple => "tuple" | .abs => "abs" | .max => "max" | .min => "min" | .sum => "sum" | .sorted => "sorted" | .all => "all" | .any => "any"
def bval : Blt → Value
  | .len => .builtin "len" | .int => .type "int" | .bool => .type "bool" | .str => .type "str" | .list => .type "list" | .tuple => .type "tuple" | .abs => .builtin "abs" | .max => .builtin "max" | .min => .builtin "min" | .sum => .builtin "sum" | .sorted => .builtin "sorted" | .all => .builtin "all" | .any => .builtin "any"
def rBlt (G : Gm) (b : Blt) : List V → Hp → VK → Prop := fun vs H Q => ∃ w ds d3, w.H = H ∧ WOk G w ∧ VwA G w ds vs ∧ bltD b ds = some d3 ∧ Ends1 G w d3 Q
theorem blt_ok (hK : X.K = G.K) (hc : X.calm = true) (b : Blt) : CallR X (bval b) (rBlt G b) := by
  intro pins s σ H xs us Q I r h
  obtain ⟨w, ds, d3, rfl, ok, va, e, k⟩ := h
  unfold bltD at e
  split at e
  · cases e
    cases va with | cons v1 va =>
    cases va
    cases v1 with | lst h1 r1 =>
    rw [← hK] at h1
    rw [r1.length] at k
    exact call_len_seq pins s σ _ _ us Q I r ⟨_, _, rfl, .inl h1, k.here ok (.int _)⟩
  · cases e
    cases va with | cons v1 va =>
    cases va
    cases v1 with | tup h1 r1 =>
    rw [← hK] at h1
    rw [r1.length] at k
    exact call_len_seq pins s σ _ _ us Q I r ⟨_, _, rfl, .inr h1, k.here ok (.int _)⟩
  · cases e
    cases va with | cons v1 va =>
    cases va
    cases v1 with | str z hz =>
    exact call_len_str pins s σ _ _ us Q I r ⟨_, rfl, hz, k.here ok (.int _)⟩
  · cases e
    cases va with | cons v1 va =>
    cases va
    cases v1
    exact call_int1 pins s σ _ _ us Q I r (.inl ⟨_, rfl, k.here ok (.int _)⟩)
  · cases e
    cases va with | cons v1 va =>
    cases va
    cases v1 with | lst h1 r1 =>
    rw [← hK] at h1
    exact call_list_of pins s σ _ _ us Q I r ⟨_, _, rfl, .inl h1, k.lst ok r1⟩
  · cases e
    cases va with | cons v1 va =>
    cases va
    cases v1 with | tup h1 r1 =>
    rw [← hK] at h1
    exact call_list_of pins s σ _ _ us Q I r ⟨_, _, rfl, .inr h1, k.lst ok r1⟩
  · cases e
    cases va with | cons v1 va =>
    cases va
    cases v1 with | str z hz =>
    exact call_listS hc pins s σ _ _ us Q I r ⟨_, rfl, hz, k.lst ok (signs_rep _)⟩
  · cases e
    cases va with | cons v1 va =>
    cases va
    cases v1 with | lst h1 r1 =>
    rw [← hK] at h1
    exact call_tuple_of pins s σ _ _ us Q I r ⟨_, _, rfl, .inl ⟨h1, k.tup ok r1⟩⟩
  · cases e
    cases va with | cons v1 va =>
    cases va
    cases v1 with | tup h1 r1 =>
    have h1' := h1
    rw [← hK] at h1'
    exact call_tuple_of pins s σ _ _ us Q I r ⟨_, _, rfl, .inr ⟨h1', k.here ok (.tup h1 r1)⟩⟩
  · cases e
    cases va with | cons v1 va =>
    cases va with | cons v2 va =>
    cases va
    cases v1; cases v2
    exact call_max2 hc pins s σ _ _ us Q I r ⟨_, _, rfl, k.here ok (.int _)⟩
  · cases e
    cases va with | cons v1 va =>
    cases va with | cons v2 va =>
    cases va
    cases v1; cases v2
    exact call_min2 hc pins s σ _ _ us Q I r ⟨_, _, rfl, k.here ok (.int _)⟩
  · cases e
    cases va with | cons v1 va =>
    cases va
    cases v1
    exact call_abs pins s σ _ _ us Q I r ⟨_, rfl, k.here ok (.int _)⟩
  · cases e
    cases va with | cons v1 va =>
    cases va
    cases v1
    exact call_bool1 pins s σ _ _ us Q I r (.inr ⟨_, rfl, k.here ok (.bl _)⟩)
  · cases e

/-! ### a text's methods -/
def bmNm : BM → Str
  | .upper => "upper" | .lower => "lower" | .strip => "strip" | .startswith => "startswith" | .find => "find" | .split => "split" | .words => "split" | .join => "join" | .partition => "partition"
def bmId : BM → String
  | .upper => "str.upper" | .lower => "str.lower" | .strip => "str.strip" | .startswith => "str.startswith" | .find => "str.find" | .split => "str.split" | .words => "str.split" | .join => "str.join" | .partition => "str.partition"
theorem bm_slot (m : BM) : Slot "str" (bmNm m) (bmId m) := by
  cases m
  · exact PySem.F.slot_str_upper
  · exact PySem.F.slot_str_lower
  · exact PySem.F.slot_str_strip
  · exact PySem.F.slot_str_startswith
  · exact PySem.F.slot_str_find
  · exact PySem.F.slot_str_split
  · exact PySem.F.slot_str_split
  · exact PySem.F.slot_str_join
  · exact PySem.F.slot_str_partition
theorem bm_ty (m : BM) : typeOf (.builtin (bmId m)) = pure (.type "method_descriptor") := by
  cases m
  · exact PySem.F.type_str_upper
  · exact PySem.F.type_str_lower
  · exact PySem.F.type_str_strip
  · exact PySem.F.type_str_startswith
  · exact PySem.F.type_str_find
  · exact PySem.F.type_str_split
  · exact PySem.F.type_str_split
  · exact PySem.F.type_str_join
  · exact PySem.F.type_str_partition
theorem lim_le {n : Nat} (h : n ≤ LIM) : n ≤ sizeLine := by rw [← lim_size]; exact h
theorem up_le {a b : Nat} (h : b ≤ 3 * a) (h2 : a ≤ 5592405) : b ≤ sizeLine := lim_le (by show b ≤ 16777216; omega)
theorem strs_rep {G : Gm} {w : W} : ∀ {ys : List Str}, ys.all (fun x => decide (x.length ≤ LIM)) = true → Reps G w (ys.map .str) (ys.map V.str)
  | [], _ => .nil
  | y :: ys, h => by
    rw [List.all_cons, Bool.and_eq_true, decide_eq_true_eq] at h
    exact .cons (.str y (lim_le h.1)) (strs_rep h.2)
theorem strsD_v {G : Gm} {w : W} : ∀ {ds : List D} {ys : List Str} {vs : List V}, strsD ds = some ys → Reps G w ds vs → vs = ys.map V.str
  | [], ys, vs, h, r => by
    cases h; cases r; rfl
  | d :: ds, ys, vs, h, r => by
    cases r with | cons r1 rs =>
    cases d with
    | str x =>
      unfold strsD at h
      cases q : strsD ds with
      | none => rw [q] at h; cases h
      | some zs =>
        rw [q] at h
        cases h
        cases r1
        rw [strsD_v q rs]
        rfl
    | _ => cases h
def rBm (G : Gm) (m : BM) : V → List V → Hp → VK → Prop := fun x vs H Q => ∃ w dx ds d3, w.H = H ∧ WOk G w ∧ Vw G w dx x ∧ VwA G w ds vs ∧ bmD m dx ds = some d3 ∧ Ends1 G w d3 Q
theorem bm_str {m : BM} {dx d3 : D} {ds : List D} {x : V} (v : Vw G w dx x) (h : bmD m dx ds = some d3) : ∃ z, x = .str z := by
  cases dx with
  | str z => cases v; exact ⟨z, rfl⟩
  | _ => cases m <;> cases h
theorem bm_ok (hK : X.K = G.K) (m : BM) : MtR X (bmId m) (rBm G m) := by
  intro pins s σ H x xs v us Q I rx rs h
  obtain ⟨w, dx, ds, d3, rfl, ok, vx, va, e, k⟩ := h
  unfold bmD at e
  split at e
  · split at e
    · rename_i hz
      cases e
      cases va
      cases vx with | str z hz' =>
      exact mt_upper pins s σ _ _ _ v us Q I rx rs ⟨_, rfl, rfl, hz, k.here ok (.str _ (up_le (PyProof.Rows.len_upper _) hz))⟩
    · cases e
  · split at e
    · rename_i hz
      cases e
      cases va
      cases vx with | str z hz' =>
      exact mt_lower pins s σ _ _ _ v us Q I rx rs ⟨_, rfl, rfl, hz, k.here ok (.str _ (up_le (PyProof.Rows.len_lower _) hz))⟩
    · cases e
  · split at e
    · rename_i hz
      cases e
      cases va
      cases vx with | str z hz' =>
      exact mt_strip pins s σ _ _ _ v us Q I rx rs ⟨_, rfl, rfl, hz', k.here ok (.str _ (lim_le hz))⟩
    · cases e
  · cases e
    cases va with | cons v1 va =>
    cases va
    cases v1
    cases vx
    exact mt_startswith pins s σ _ _ _ v us Q I rx rs ⟨_, _, rfl, rfl, k.here ok (.bl _)⟩
  · cases e
    cases va with | cons v1 va =>
    cases va
    cases v1
    cases vx
    exact mt_find pins s σ _ _ _ v us Q I rx rs ⟨_, _, rfl, rfl, k.here ok (.int _)⟩
  · split at e
    · rename_i hz
      simp only [Bool.and_eq_true, decide_eq_true_eq, bne_iff_ne, ne_eq] at hz
      cases e
      cases va with | cons v1 va =>
      cases va
      cases v1
      cases vx
      exact mt_split pins s σ _ _ _ v us Q I rx rs ⟨_, _, rfl, rfl, by simpa using hz.1.1, lim_le hz.1.2, k.lst ok (strs_rep hz.2)⟩
    · cases e
  · split at e
    · rename_i hz
      simp only [Bool.and_eq_true, decide_eq_true_eq] at hz
      cases e
      cases va
      cases vx
      exact mt_words pins s σ _ _ _ v us Q I rx rs ⟨_, rfl, rfl, lim_le hz.1, k.lst ok (strs_rep hz.2)⟩
    · cases e
  · split at e
    · rename_i hz
      simp only [Bool.and_eq_true, bne_iff_ne, ne_eq] at hz
      cases e
      cases va with | cons v1 va =>
      cases va
      cases v1
      cases vx with | str z hz' =>
      exact mt_partition pins s σ _ _ _ v us Q I rx rs ⟨_, _, rfl, rfl, by simpa using hz.1, hz', k.tup ok (strs_rep hz.2)⟩
    · cases e
  · split at e
    · rename_i ys hys
      split at e
      · rename_i hz
        rw [Bool.and_eq_true, decide_eq_true_eq, decide_eq_true_eq] at hz
        cases e
        cases va with | cons v1 va =>
        cases va
        cases v1 with | lst h1 r1 =>
        cases vx
        have ev := strsD_v hys r1
        rw [← hK, ev] at h1
        exact mt_join pins s σ _ _ _ v us Q I rx rs ⟨_, _, ys, rfl, rfl, .inl h1, hz.1, k.here ok (.str _ (lim_le hz.2))⟩
      · cases e
    · cases e
  · split at e
    · rename_i ys hys
      split at e
      · rename_i hz
        rw [Bool.and_eq_true, decide_eq_true_eq, decide_eq_true_eq] at hz
        cases e
        cases va with | cons v1 va =>
        cases va
        cases v1 with | tup h1 r1 =>
        cases vx
        have ev := strsD_v hys r1
        rw [← hK, ev] at h1
        exact mt_join pins s σ _ _ _ v us Q I rx rs ⟨_, _, ys, rfl, rfl, .inr h1, hz.1, k.here ok (.str _ (lim_le hz.2))⟩
      · cases e
    · cases e
  · cases e

/-! ### isinstance -/
/-- what the classes are: facts of the written part -/
structure Gm.Ok (G : Gm) : Prop where
  cls : ∀ c, c < G.nc → Cls G.K (G.ca c)
  kc : ∀ c, c < G.nc → PySem.W.findIn G.K (.ref (G.ca c)) "__class__" = some (some (.builtin "object.__class__"))
  kg : PySem.W.specialIn G.K (.builtin "object.__class__") "__get__" = some (some (.builtin "getset_descriptor.__get__"))
  kt : PySem.W.takesIn G.K (.builtin "object.__class__") = some true
  ko : ∀ c, c < G.nc → PySem.W.mroIn G.K (G.ca c) (.type "object") = some true
  isa : ∀ c c', c < G.nc → c' < G.nc → PySem.W.kitOne G.K (.ref (G.ca c)) (.ref (G.ca c')) = some (c == c')
  isb : ∀ c, c < G.nc → ∀ n ∈ ["NoneType", "bool", "int", "str", "list", "tuple", "dict"], PySem.W.kitOne G.K (.type n) (.ref (G.ca c)) = some false
  isc : ∀ c, c < G.nc → ∀ n ∈ ["bool", "int", "str", "list", "tuple", "dict"], PySem.W.kitOne G.K (.ref (G.ca c)) (.type n) = some false
  nf : ∀ c c', c < G.nc → c' < G.nc → PySem.W.notFirst G.K (G.ca c) (.ref (G.ca c')) = true
  nfb : ∀ c, c < G.nc → ∀ n ∈ ["NoneType", "bool", "int", "str", "list", "tuple", "dict"], PySem.W.notFirst G.K (G.ca c) (.type n) = true
  sf : ∀ c, c < G.nc → PySem.W.selfFirst G.K (G.ca c) = true
  sy : ∀ i j, i < j → G.sy i = G.sy j → False
def tyV (G : Gm) : Ty → Value
  | .own c => .ref (G.ca c)
  | t => .type (tyN t)
def tyW (G : Gm) : Ty → V
  | .own c => .ref (G.ca c)
  | t => .ty (tyN t)
def tyOk (G : Gm) : Ty → Prop
  | .own c => c < G.nc
  | _ => True
theorem sq_ty {a : Addr} {vs : List V} (h : SqL G.K w.H a vs) : TyX G.K w.H (.ref a) (.type "list") := by
  rcases h with (h | ⟨o, h⟩) | ⟨o, its, n, h1, h2, _⟩
  · exact .base (.lst h)
  · exact .base (.frz h)
  · exact .kList h1 h2
theorem st_ty {a : Addr} {vs : List V} (h : SqT G.K w.H a vs) : TyX G.K w.H (.ref a) (.type "tuple") := by
  rcases h with (h | ⟨o, h⟩) | ⟨o, its, n, h1, h2, _⟩
  · exact .base (.tup h)
  · exact .fTuple h
  · exact .kTuple h1 h2
theorem kit_b {a b : String} {r : Bool} (h : kitB a b = some r) : PySem.W.kitOne G.K (.type a) (.type b) = some r := kit_ty h
theorem ty_kit (go : G.Ok) {d : D} {v : V} {t : Ty} {b : Bool} (h : Vw G w d v) (ht : tyOk G t) (e : tyD d t = some b) : ∃ u, TyX G.K w.H v u ∧ PySem.W.kitOne G.K u (tyV G t) = some b := by
  cases h with
  | non =>
    cases e
    refine ⟨_, .base .non, ?_⟩
    cases t with
    | own c => exact go.isb c ht _ (by simp)
    | _ => exact kit_b (by decide +kernel)
  | bl x =>
    cases e
    refine ⟨_, .base (.bl x), ?_⟩
    cases t with
    | own c => exact go.isb c ht _ (by simp)
    | _ => exact kit_b (by decide +kernel)
  | int x =>
    cases e
    refine ⟨_, .base (.int x), ?_⟩
    cases t with
    | own c => exact go.isb c ht _ (by simp)
    | _ => exact kit_b (by decide +kernel)
  | str x _ =>
    cases e
    refine ⟨_, .base (.str x), ?_⟩
    cases t with
    | own c => exact go.isb c ht _ (by simp)
    | _ => exact kit_b (by decide +kernel)
  | tup h r =>
    cases e
    refine ⟨_, st_ty h, ?_⟩
    cases t with
    | own c => exact go.isb c ht _ (by simp)
    | _ => exact kit_b (by decide +kernel)
  | lst h r =>
    cases e
    refine ⟨_, sq_ty h, ?_⟩
    cases t with
    | own c => exact go.isb c ht _ (by simp)
    | _ => exact kit_b (by decide +kernel)
  | dk h r =>
    cases e
    refine ⟨_, .base (.dK h), ?_⟩
    cases t with
    | own c => exact go.isb c ht _ (by simp)
    | _ => exact kit_b (by decide +kernel)
  | dt h r =>
    cases e
    refine ⟨_, .base (.dT h), ?_⟩
    cases t with
    | own c => exact go.isb c ht _ (by simp)
    | _ => exact kit_b (by decide +kernel)
  | ins hc h r =>
    cases e
    refine ⟨_, .base (.ins h (go.cls _ hc) (go.kc _ hc) go.kg go.kt (go.ko _ hc)), ?_⟩
    cases t with
    | own c => exact go.isa _ c hc ht
    | _ => exact go.isc _ hc _ (by simp [tyN])
  | cell _ _ => cases e
theorem vw_ty (go : G.Ok) {d : D} {v : V} (h : Vw G w d v) (e : hasTy d = true) : ∃ u, TyX G.K w.H v u ∧ ∀ c, c < G.nc → PySem.W.notFirst G.K (G.ca c) u = true := by
  cases h with
  | non => exact ⟨_, .base .non, fun c hc => go.nfb c hc _ (by simp)⟩
  | bl x => exact ⟨_, .base (.bl x), fun c hc => go.nfb c hc _ (by simp)⟩
  | int x => exact ⟨_, .base (.int x), fun c hc => go.nfb c hc _ (by simp)⟩
  | str x _ => exact ⟨_, .base (.str x), fun c hc => go.nfb c hc _ (by simp)⟩
  | tup h r => exact ⟨_, st_ty h, fun c hc => go.nfb c hc _ (by simp)⟩
  | lst h r => exact ⟨_, sq_ty h, fun c hc => go.nfb c hc _ (by simp)⟩
  | dk h r => exact ⟨_, .base (.dK h), fun c hc => go.nfb c hc _ (by simp)⟩
  | dt h r => exact ⟨_, .base (.dT h), fun c hc => go.nfb c hc _ (by simp)⟩
  | ins hc h r => exact ⟨_, .base (.ins h (go.cls _ hc) (go.kc _ hc) go.kg go.kt (go.ko _ hc)), fun c hc' => go.nf c _ hc' hc⟩
  | cell _ _ => cases e
end
end Rf
set_option Elab.async false
set_option linter.all false
set_option maxRecDepth 100000
set_option maxHeartbeats 4000000
/-! G6b: methods and new instances, the class known when the object is -/
namespace Rf
open PySem L2 PySem.Spec PyProof.Rows
theorem nosup_base {o : Expr} {m : Str} {env : Env} {whole : Sem Value} (h : (match o with | .Call (.Name x _) [] [] _ => x != "super" | _ => true) = true) : attributeBase o m env whole = whole := by
  unfold attributeBase
  split
  · rename_i x q pos
    have hx : (x != "super") = true := h
    rw [hx]
    rfl
  · rfl
def plainObj (o : Expr) (env : Env) : Sem Bool := do return (← importBound o env).getD true
/-- a method call on one row, without stars and keywords -/
theorem mcall_row {o : Expr} {m : Str} {apos pos : Pos} {env : Env} {es : List Expr} (hb : attributeBase o m env (eval o env) = eval o env)
    (hs : (backTo pos (starEach es env)).any (·.1) = false) (hn : es.length < 30) (hl : (apos.endLine == pos.line) = true) :
    eval (.Call (.Attribute o m apos) es [] pos) env = (do
      let ov ← eval o env
      standAt apos.atName
      let (f, first) ← holding [ov] (getMethod ov m (plainObj o env))
      callWith pos f first (backTo pos (starEach es env)) (backToKw pos (keywordEach [] env))) := by
  have hf : methodCallForm (es.length + ([] : List Keyword).length) (backTo pos (starEach es env)) (backToKw pos (keywordEach [] env)) = true := by
    have h1 : (backTo pos (starEach es env)).all (!·.1) = true := by
      rw [List.all_eq_true]
      intro x hx
      rw [List.any_eq_false] at hs
      have := hs x hx
      simpa using this
    unfold methodCallForm
    rw [h1]
    show (true && true && decide (es.length + 0 + 0 < 30)) = true
    simpa using hn
  rw [arm_eval_Call, hb]
  have e : ∀ ov, methodCall o m apos pos env ov (es.length + ([] : List Keyword).length) (backTo pos (starEach es env)) (backToKw pos (keywordEach [] env)) = (do
      let (f, first) ← holding [ov] (getMethod ov m (plainObj o env))
      callWith pos f first (backTo pos (starEach es env)) (backToKw pos (keywordEach [] env))) := fun ov => by
    have e1 : calleeOf true o env ov m = getMethod ov m (plainObj o env) := rfl
    have e2 : methodCallPos true o env apos pos = pure pos := if_pos (by rw [hl, Bool.or_true])
    unfold methodCall
    rw [hf, e1, e2]
    first | rfl | simp only [pure_bind]
  congr 1
  funext ov
  congr 1
  funext _
  exact e ov
section
variable {X : Cx} {CX : CXT} {k : Nat} {f : Addr} {sp : Sp} {E : L2.St → XK} {x : Str} {p pos : Pos} {e : Expr} {es : List Expr} {t : TA}
theorem run_fnRS {pins : List (Addr × Obj)} {σ : L2.St} {H : Hp} {s : Shared} {Q : VK} {us : List Value} {vs : List V} (F : FnR X.prog X.w X.K X.mg X.base CX k f sp) (hr : Room k X.A) (hx : PassesAt CX X σ (E σ))
    (I : Inv X pins σ H s) (r : Vals vs us) (h : sp vs H Q (E σ)) : wpAny (model X.prog X.w) X.A (call (.ref f) us) (EP X pins σ Q) X.xe s := by
  refine wpAny_call (codeAny_mono (F X.A X.stack s H us vs Q (E σ) hr I.env0 r h) fun r s' hq => ?_)
  cases r with
  | error e => exact hx pins H s e s' I hq
  | ok fl =>
    cases fl with
    | ret u => exact I.after hq
    | next => exact False.elim hq
    | brk => exact False.elim hq
    | cont => exact False.elim hq
theorem pe_callRS (F : FnR X.prog X.w X.K X.mg X.base CX k f sp) (hr : Room k X.A) (hg : Gl X x) (hm : X.mg x = some (.ref f)) (hk : PySem.W.keepIn X.K (.ref f) = true) (hx : ∀ σ, PassesAt CX X σ (E σ))
    (ha : PA X (e :: es) t) (hdb : (x == ("__debug__" : Str)) = false) (he : starEach (e :: es) X.env = (false, eval e X.env) :: starEach es X.env) (hpl : (backTo pos (starEach es X.env)).any (·.1) = false) :
    PE X (.Call (.Name x p) (e :: es) [] pos) (tCallS sp E t) := by
  refine ⟨fun pins s σ H Q I h => ?_⟩
  refine wpAny_Call_Name_kw (ld_glob I hg hm ?_ hdb)
  refine PySem.W.callWith_K (h₀ := X.base) I.ok.mod.kin hk (thn (ha.run pos pins s σ H _ I h) fun us s1 ⟨vs, H1, I1, r, q⟩ => ⟨I1.kIn, ?_⟩) he hpl
  exact run_fnRS F hr (hx σ) I1 r q
theorem pe_callRS0 (F : FnR X.prog X.w X.K X.mg X.base CX k f sp) (hr : Room k X.A) (hg : Gl X x) (hm : X.mg x = some (.ref f)) (hk : PySem.W.keepIn X.K (.ref f) = true) (hx : ∀ σ, PassesAt CX X σ (E σ))
    (hdb : (x == ("__debug__" : Str)) = false) : PE X (.Call (.Name x p) [] [] pos) (tCallS sp E tNil) := by
  refine ⟨fun pins s σ H Q I h => ?_⟩
  refine wpAny_Call_Name_kw (ld_glob I hg hm ?_ hdb)
  exact PySem.W.callWith_K0 I.kIn hk (run_fnRS (us := []) F hr (hx σ) I .nil h)
end
section
variable {X : Cx} {CX : CXT} {k : Nat} {o : Expr} {m : Str} {apos pos p : Pos} {e : Expr} {es : List Expr} {ta : TE} {t : TA} {E : L2.St → XK} {x : Str}
/-- o.m(..): the class at the object -/
def tMethD (X : Cx) (CX : CXT) (k : Nat) (m : Str) (E : L2.St → XK) (ta : TE) (t : TA) : TE := fun σ H Q => ta σ H fun x H1 => ∃ a C dx fs f sp, x = .ref a ∧ H1 a = some (.ins C dx fs) ∧ fs.lookup m = none ∧ Cls X.K C ∧ Meth X.K C m f ∧
  FnR X.prog X.w X.K X.mg X.base CX k f sp ∧ t σ H1 fun vs H2 => sp (x :: vs) H2 Q (E σ)
theorem pe_methD0 (he : PE X o ta) (hb : attributeBase o m X.env (eval o X.env) = eval o X.env) (hl : (apos.endLine == pos.line) = true) (hr : Room k X.A) (hx : ∀ σ, PassesAt CX X σ (E σ)) :
    PE X (.Call (.Attribute o m apos) [] [] pos) (tMethD X CX k m E ta tNil) := by
  refine ⟨fun pins s σ H Q I h => ?_⟩
  refine PySem.W.methodCall_KW (pl := plainObj o X.env) (thn (he.run pins s σ H _ I h) fun u s1 ⟨x, H1, I1, rx, a, C, dx, fs, f, sp, ex, ea, l, c, hm, F, q⟩ => ?_) (mcall_row hb rfl (by decide) hl)
  subst ex
  cases (show u = Value.ref a from rx)
  refine getmeth_ok I1 ea c hm l (PySem.W.callWith_K0 (first := [.ref a]) I1.kIn hm.kp ?_)
  exact run_fnRS (us := [.ref a]) (vs := [.ref a]) F hr (hx σ) I1 (.cons rfl .nil) q
theorem pe_methD (he : PE X o ta) (hb : attributeBase o m X.env (eval o X.env) = eval o X.env) (hl : (apos.endLine == pos.line) = true) (hr : Room k X.A) (hx : ∀ σ, PassesAt CX X σ (E σ)) (ha : PA X (e :: es) t) (hn : (e :: es).length < 30)
    (hst : starEach (e :: es) X.env = (false, eval e X.env) :: starEach es X.env) (hpl : (backTo pos (starEach es X.env)).any (·.1) = false) :
    PE X (.Call (.Attribute o m apos) (e :: es) [] pos) (tMethD X CX k m E ta t) := by
  have hall : (backTo pos (starEach (e :: es) X.env)).any (·.1) = false := by
    rw [hst]
    show (false || (backTo pos (starEach es X.env)).any (·.1)) = false
    rw [hpl]
    rfl
  refine ⟨fun pins s σ H Q I h => ?_⟩
  refine PySem.W.methodCall_KW (pl := plainObj o X.env) (thn (he.run pins s σ H _ I h) fun u s1 ⟨x, H1, I1, rx, a, C, dx, fs, f, sp, ex, ea, l, c, hm, F, q⟩ => ?_) (mcall_row hb hall hn hl)
  subst ex
  cases (show u = Value.ref a from rx)
  refine getmeth_ok I1 ea c hm l (PySem.W.callWith_K (first := [.ref a]) (h₀ := X.base) I.ok.mod.kin hm.kp (thn (ha.run pos pins s1 σ H1 _ I1 q) fun us s2 ⟨vs, H2, I2, r, q2⟩ => ⟨I2.kIn, ?_⟩) hst hpl)
  exact run_fnRS (us := .ref a :: us) (vs := .ref a :: vs) F hr (hx σ) I2 (.cons rfl r) q2
/-- C(..), what is raised wished for at the slots -/
def tMakeS (C : Addr) (sp : Sp) (E : L2.St → XK) (t : TA) : TE := fun σ H Q => t σ H fun vs H1 => ∀ x dx, H1 x = none → H1 dx = none → dx ≠ x →
  sp (.ref x :: vs) (upd (upd H1 dx (.own x)) x (.ins C dx [])) (fun v H2 => v = .non ∧ Q (.ref x) H2) (E σ)
theorem run_makeS {pins : List (Addr × Obj)} {σ : L2.St} {H : Hp} {s : Shared} {Q : VK} {us : List Value} {vs : List V} {C f : Addr} {sp : Sp} (M : Mk X.K C f) (F : FnR X.prog X.w X.K X.mg X.base CX k f sp) (hr : Room (k + 1) X.A)
    (hx : PassesAt CX X σ (E σ)) (I : Inv X pins σ H s) (r : Vals vs us)
    (h : ∀ x dx, H x = none → H dx = none → dx ≠ x → sp (.ref x :: vs) (upd (upd H dx (.own x)) x (.ins C dx [])) (fun v H2 => v = .non ∧ Q (.ref x) H2) (E σ)) :
    wpAny (model X.prog X.w) X.A (call (.ref C) us) (EP X pins σ Q) X.xe s := by
  have hq := h (s.heap.objs.size + 1) s.heap.objs.size (I.hok.fresh (Nat.le_succ _)) (I.hok.fresh (Nat.le_refl _)) (Nat.ne_of_lt (Nat.lt_succ_self _))
  have I2 := Inv.made (C := C) I
  have r2 : Vals (V.ref (s.heap.objs.size + 1) :: vs) (Value.ref (s.heap.objs.size + 1) :: us) := .cons rfl r
  refine wpAny_call (make_map (f := f) I.kIn M.makes M.init (beq_iff_eq.mp M.fn) (codeAny_mono (F _ X.stack _ _ (Value.ref (s.heap.objs.size + 1) :: us) _ _ (E σ) (hr.make C us [])
    (I2.env0.make C us []) r2 hq) fun r s' hq' => ?_))
  cases r with
  | error e => exact hx pins _ _ e s' I2 hq'
  | ok fl =>
    cases fl with
    | ret u =>
      obtain ⟨v, H', I3, rv, ev, q3⟩ := I2.after hq'
      subst ev
      exact ⟨rv, ⟨V.ref (s.heap.objs.size + 1), H', I3, rfl, q3⟩⟩
    | next => exact hq'.elim
    | brk => exact hq'.elim
    | cont => exact hq'.elim
theorem pe_makeS {C f : Addr} {sp : Sp} (M : Mk X.K C f) (F : FnR X.prog X.w X.K X.mg X.base CX k f sp) (hr : Room (k + 1) X.A) (hg : Gl X x) (hm : X.mg x = some (.ref C)) (hx : ∀ σ, PassesAt CX X σ (E σ))
    (ha : PA X (e :: es) t) (hdb : (x == ("__debug__" : Str)) = false) (he : starEach (e :: es) X.env = (false, eval e X.env) :: starEach es X.env) (hpl : (backTo pos (starEach es X.env)).any (·.1) = false) :
    PE X (.Call (.Name x p) (e :: es) [] pos) (tMakeS C sp E t) := by
  refine ⟨fun pins s σ H Q I h => ?_⟩
  refine wpAny_Call_Name_kw (ld_glob I hg hm ?_ hdb)
  refine PySem.W.callWith_K (h₀ := X.base) I.ok.mod.kin M.kp (thn (ha.run pos pins s σ H _ I h) fun us s1 ⟨vs, H1, I1, r, q⟩ => ⟨I1.kIn, ?_⟩) he hpl
  exact run_makeS M F hr (hx σ) I1 r q
theorem pe_makeS0 {C f : Addr} {sp : Sp} (M : Mk X.K C f) (F : FnR X.prog X.w X.K X.mg X.base CX k f sp) (hr : Room (k + 1) X.A) (hg : Gl X x) (hm : X.mg x = some (.ref C)) (hx : ∀ σ, PassesAt CX X σ (E σ))
    (hdb : (x == ("__debug__" : Str)) = false) : PE X (.Call (.Name x p) [] [] pos) (tMakeS C sp E tNil) := by
  refine ⟨fun pins s σ H Q I h => ?_⟩
  refine wpAny_Call_Name_kw (ld_glob I hg hm ?_ hdb)
  exact PySem.W.callWith_K0 I.kIn M.kp (run_makeS (us := []) M F hr (hx σ) I .nil h)
end
end Rf
set_option Elab.async false
set_option linter.all false
set_option maxRecDepth 100000
set_option maxHeartbeats 4000000
/-! G6c: operators by own methods (layer lemmas) -/
namespace Rf
open PySem L2 PySem.Spec PyProof.Rows
/-- an operation whose exceptions are wished for at the slots -/
def OpSl (X : Cx) (f : Value → Value → Sem Value) (r : L2.St → V → V → Hp → VK → Prop) : Prop :=
  ∀ (pins : List (Addr × Obj)) (s : Shared) (σ : L2.St) (H : Hp) (x y : V) (v u : Value) (Q : VK), Inv X pins σ H s → RelV x v → RelV y u → r σ x y H Q → wpAny (model X.prog X.w) X.A (f v u) (EP X pins σ Q) X.xe s
section
variable {X : Cx} {a b : Expr} {ta tb : TE} {r r' : L2.St → V → V → Hp → VK → Prop} {pos : Pos} {f : Value → Value → Sem Value}
theorem OpR.sl {r0 : R2} (h : OpR X f r0) : OpSl X f (fun _ => r0) := fun pins s σ H x y v u Q I rx ry q => h pins s σ H x y v u Q I rx ry q
theorem OpSl.or (h : OpSl X f r) (h' : OpSl X f r') : OpSl X f (fun σ x y H Q => r σ x y H Q ∨ r' σ x y H Q) := fun pins s σ H x y v u Q I rx ry q => by
  rcases q with q | q
  · exact h pins s σ H x y v u Q I rx ry q
  · exact h' pins s σ H x y v u Q I rx ry q
theorem OpSl.ex {α : Type} {g : α → L2.St → V → V → Hp → VK → Prop} (h : ∀ a, OpSl X f (g a)) : OpSl X f (fun σ x y H Q => ∃ a, g a σ x y H Q) := fun pins s σ H x y v u Q I rx ry ⟨a, q⟩ => h a pins s σ H x y v u Q I rx ry q
/-- what an own operator wants: a method of the left one's class -/
structure OwnOp (X : Cx) (CX : CXT) (k : Nat) (C : Addr) (m : Str) (sp : Sp) : Prop where
  ex : ∃ f, PySem.W.findIn X.K (.ref C) m = some (some (.ref f)) ∧ PySem.W.isFn X.K (.ref f) = true ∧ FnR X.prog X.w X.K X.mg X.base CX k f sp
/-- what stands for a value is not NotImplemented -/
theorem cmp_back {pins : List (Addr × Obj)} {σ : L2.St} {Q : VK} {r : Value} {s' : Shared} (h : EP X pins σ Q r s') : PySem.W.CmpBack (EP X pins σ Q) r s' := by
  obtain ⟨v, H', I', rv, q⟩ := id h
  cases r <;> first | exact h | (cases v <;> first | (obtain ⟨_, e⟩ := rv; cases e; done) | (cases rv; done))
/-- x == y, x < y .. by an own method that does not answer NotImplemented -/
theorem cmp_own {op : CmpOp} {CX : CXT} {k : Nat} {E : L2.St → XK} (hr : Room k X.A) (hx : ∀ σ, PassesAt CX X σ (E σ)) :
    OpSl X (richCompare op) (fun σ x y H Q => ∃ a C dx fs sp, x = .ref a ∧ H a = some (.ins C dx fs) ∧ OwnOp X CX k C (cmpInfo op).2.1 sp ∧ (∀ (s : Shared) (pins : List (Addr × Obj)) (v u : Value), Inv X pins σ H s → RelV y u → ∃ tb, PySem.W.Looks (model X.prog X.w) s.heap (typeOf u) tb ∧ PySem.W.notFirst X.K C tb = true) ∧
      sp [x, y] H Q (E σ)) := by
  intro pins s σ H x y v u Q I rx ry q
  obtain ⟨ad, C, dx, fs, sp, rfl, ha, ⟨f, hs, hf, F⟩, ht, hsp⟩ := q
  cases (show v = Value.ref ad from rx)
  obtain ⟨mA, J, _⟩ := ins_get I.hok ha
  obtain ⟨od, J, _⟩ := J.look
  obtain ⟨m, hF⟩ := I.fr
  obtain ⟨tb, hl, hn⟩ := ht s pins (.ref ad) u I ry
  refine PySem.W.cmp_K (tb := tb) hr.units0 hF I.ok.mod.kin J hl hn hs hf ?_
  refine wpAny_mono (run_fnRS (us := [.ref ad, u]) (vs := [.ref ad, y]) F hr (hx σ) I (.cons rfl (.cons ry .nil)) hsp) (fun r s' z => ?_) fun _ _ z => z
  exact cmp_back z
/-- x op y, both of one class, by its own method -/
theorem bin_own {op : Operator} {CX : CXT} {k : Nat} {E : L2.St → XK} (hr : Room k X.A) (hx : ∀ σ, PassesAt CX X σ (E σ)) :
    OpSl X (binaryOp op) (fun σ x y H Q => ∃ a C dx fs sp b dy gs, x = .ref a ∧ H a = some (.ins C dx fs) ∧ y = .ref b ∧ H b = some (.ins C dy gs) ∧ PySem.W.selfFirst X.K C = true ∧ OwnOp X CX k C (PySem.dunder op.info.2) sp ∧ sp [x, y] H Q (E σ)) := by
  intro pins s σ H x y v u Q I rx ry q
  obtain ⟨ad, C, dx, fs, sp, bd, dy, gs, rfl, ha, rfl, hb', hc, ⟨f, hs, hf, F⟩, hsp⟩ := q
  cases (show v = Value.ref ad from rx)
  cases (show u = Value.ref bd from ry)
  obtain ⟨mA, J, _⟩ := ins_get I.hok ha
  obtain ⟨mB, J', _⟩ := ins_get I.hok hb'
  obtain ⟨od, J, _⟩ := J.look
  obtain ⟨od', J', _⟩ := J'.look
  obtain ⟨m, hF⟩ := I.fr
  refine PySem.W.binop_K hF I.ok.mod.kin J J'.type hc hs hf ?_
  refine wpAny_mono (run_fnRS (us := [.ref ad, .ref bd]) (vs := [.ref ad, .ref bd]) F hr (hx σ) I (.cons rfl (.cons rfl .nil)) hsp) (fun r s' z => ?_) fun _ _ z => z
  exact cmp_back z
/-- x in o, by o's own __contains__ that answers a truth value -/
theorem in_own {CX : CXT} {k : Nat} {E : L2.St → XK} (hr : Room k X.A) (hx : ∀ σ, PassesAt CX X σ (E σ)) :
    OpSl X (compareOp .In) (fun σ x y H Q => ∃ a C dx fs sp, y = .ref a ∧ H a = some (.ins C dx fs) ∧ OwnOp X CX k C "__contains__" sp ∧ sp [y, x] H (fun v H' => ∃ b, v = .bl b ∧ Q (.bl b) H') (E σ)) := by
  intro pins s σ H x y v u Q I rx ry q
  obtain ⟨ad, C, dx, fs, sp, rfl, ha, ⟨f, hs, hf, F⟩, hsp⟩ := q
  cases (show u = Value.ref ad from ry)
  obtain ⟨mA, J, _⟩ := ins_get I.hok ha
  obtain ⟨od, J, _⟩ := J.look
  obtain ⟨m, hF⟩ := I.fr
  refine PySem.W.in_K hF I.ok.mod.kin J hs hf ?_
  refine wpAny_mono (run_fnRS (us := [.ref ad, v]) (vs := [.ref ad, x]) F hr (hx σ) I (.cons rfl (.cons rx .nil)) hsp) (fun r s' z => ?_) fun _ _ z => z
  obtain ⟨z1, H', I', rz, b, rfl, qb⟩ := z
  cases (show r = Value.bool b from rz)
  exact wpAny_truthy_bool ⟨.bl b, H', I', rfl, qb⟩
/-- x not in o -/
theorem notin_own {CX : CXT} {k : Nat} {E : L2.St → XK} (hr : Room k X.A) (hx : ∀ σ, PassesAt CX X σ (E σ)) :
    OpSl X (compareOp .NotIn) (fun σ x y H Q => ∃ a C dx fs sp, y = .ref a ∧ H a = some (.ins C dx fs) ∧ OwnOp X CX k C "__contains__" sp ∧ sp [y, x] H (fun v H' => ∃ b, v = .bl b ∧ Q (.bl (!b)) H') (E σ)) := by
  intro pins s σ H x y v u Q I rx ry q
  obtain ⟨ad, C, dx, fs, sp, rfl, ha, ⟨f, hs, hf, F⟩, hsp⟩ := q
  cases (show u = Value.ref ad from ry)
  obtain ⟨mA, J, _⟩ := ins_get I.hok ha
  obtain ⟨od, J, _⟩ := J.look
  obtain ⟨m, hF⟩ := I.fr
  refine PySem.W.notIn_K hF I.ok.mod.kin J hs hf ?_
  refine wpAny_mono (run_fnRS (us := [.ref ad, v]) (vs := [.ref ad, x]) F hr (hx σ) I (.cons rfl (.cons rx .nil)) hsp) (fun r s' z => ?_) fun _ _ z => z
  obtain ⟨z1, H', I', rz, b, rfl, qb⟩ := z
  cases (show r = Value.bool b from rz)
  exact wpAny_truthy_bool ⟨.bl (!b), H', I', rfl, qb⟩
theorem pe_opS {op : Operator} (ho : OpSl X (binaryOp op) r) (ha : PE X a ta) (hb : PE X b tb) : PE X (.BinOp a op b pos) (fun σ H Q => ta σ H fun x H1 => tb σ H1 fun y H2 => r σ x y H2 Q) := by
  refine ⟨fun pins s σ H Q I h => ?_⟩
  exact wpAny_BinOp (binT ha hb I h fun v u s2 x y H2 I2 rx ry q => ho pins s2 σ H2 x y v u Q I2 rx ry q)
theorem pe_cmpS {op : CmpOp} (ho : OpSl X (compareOp op) r) (ha : PE X a ta) (hb : PE X b tb) (hm : behindInMarks op b = false) : PE X (.Compare a [op] [b] pos) (fun σ H Q => ta σ H fun x H1 => tb σ H1 fun y H2 => r σ x y H2 Q) := by
  refine ⟨fun pins s σ H Q I h => ?_⟩
  exact wpAny_Compare1 (binT ha hb I h fun v u s2 x y H2 I2 rx ry q => ho pins s2 σ H2 x y v u Q I2 rx ry q) hm
theorem pt_cmpS {op : CmpOp} (ho : OpSl X (compareOp op) r) (ha : PE X a ta) (hb : PE X b tb) (hm : behindInMarks op b = false) : PT X (.Compare a [op] [b] pos) (fun σ H Q => ta σ H fun x H1 => tb σ H1 fun y H2 => r σ x y H2 fun z H3 => ∃ k, TruV X.K z H3 k ∧ Q k H3) := by
  refine ⟨fun pins s σ H Q I h => ?_⟩
  refine wpAny_isTrue_Compare1 (thn (ha.run pins s σ H _ I h) fun v s1 ⟨x, H1, I1, r1, q1⟩ => thn (hb.run pins s1 σ H1 _ I1 q1) fun u s2 ⟨y, H2, I2, r2, q2⟩ =>
    thn (ho pins s2 σ H2 x y v u _ I2 r1 r2 q2) fun c s3 ⟨z, H3, I3, r3, k, e, q3⟩ => ?_) hm
  exact tru_ok pins s3 σ H3 z c Q I3 r3 ⟨k, e, q3⟩
end
end Rf
set_option Elab.async false
set_option linter.all false
set_option maxRecDepth 100000
set_option maxHeartbeats 4000000
/-! G7: the check of a text, what its expressions read as -/
namespace Rf
open PySem L2 PySem.Spec PyProof.Rows

/-! ### weaker: what is frozen stays -/
structure Le (w w' : W) : Prop where
  z : ∀ a, w.Z a → w'.Z a
  ι : ∀ i, i < w.h.length → w'.ι i = w.ι i
  len : w.h.length ≤ w'.h.length
  kz : ∀ a o, w.Z a → w.H a = some o → w'.H a = some o
  kn : ∀ a o, ¬ Soft o → w.H a = some o → w'.H a = some o
theorem Le.refl (w : W) : Le w w := ⟨fun _ h => h, fun _ _ => rfl, Nat.le_refl _, fun _ _ _ h => h, fun _ _ _ h => h⟩
theorem Le.trans {w w1 w2 : W} (a : Le w w1) (b : Le w1 w2) : Le w w2 :=
  ⟨fun x h => b.z x (a.z x h), fun i hi => (b.ι i (Nat.lt_of_lt_of_le hi a.len)).trans (a.ι i hi), Nat.le_trans a.len b.len, fun x o z h => b.kz x o (a.z x z) (a.kz x o z h), fun x o n h => b.kn x o n (a.kn x o n h)⟩
theorem Ext.le {G : Gm} {w w' : W} (ok : WOk G w) (e : Ext w w') : Le w w' :=
  ⟨e.z, e.ι, e.len, fun _ _ z h => e.zkeep ok z h, fun _ _ n h => e.frz ok h n⟩
section
variable {G : Gm} {w w' : W}
theorem Le.tup (e : Le w w') {a : Addr} {vs : List V} (h : SqT G.K w.H a vs) : SqT G.K w'.H a vs := by
  rcases h with (h | ⟨o, h⟩) | h
  · exact .inl (.inl (e.kn _ _ (fun z => z) h))
  · exact .inl (.inr ⟨o, e.kn _ _ (fun z => z) h⟩)
  · exact .inr h
theorem Le.fzl (e : Le w w') {a : Addr} {vs : List V} (h : FzL G.K w a vs) : FzL G.K w' a vs := by
  rcases h with ⟨z, h⟩ | ⟨o, h⟩ | h
  · exact .inl ⟨e.z a z, e.kz _ _ z h⟩
  · exact .inr (.inl ⟨o, e.kn _ _ (fun z => z) h⟩)
  · exact .inr (.inr h)
mutual
theorem Rep.le (e : Le w w') : ∀ {d : D} {v : V}, Rep G w d v → Rep G w' d v
  | _, _, .non => .non
  | _, _, .bl b => .bl b
  | _, _, .int i => .int i
  | _, _, .str x hx => .str x hx
  | _, _, .tup h r => .tup (e.tup h) (Reps.le e r)
  | _, _, .lst h r => .lst (e.fzl h) (Reps.le e r)
  | _, _, .dk z h r => .dk (e.z _ z) (e.kz _ _ z h) (RepK.le e r)
  | _, _, .dt z h r => .dt (e.z _ z) (e.kz _ _ z h) (RepT.le e r)
  | _, _, .ins hc z h r => .ins hc (e.z _ z) (e.kz _ _ z h) (RepF.le e r)
  | _, _, .cell i hi => by
    have h := Rep.cell (G := G) (w := w') i (Nat.lt_of_lt_of_le hi e.len)
    rw [e.ι i hi] at h
    exact h
theorem Reps.le (e : Le w w') : ∀ {ds : List D} {vs : List V}, Reps G w ds vs → Reps G w' ds vs
  | _, _, .nil => .nil
  | _, _, .cons h r => .cons (Rep.le e h) (Reps.le e r)
theorem RepK.le (e : Le w w') : ∀ {ds : List (Key × D)} {vs : List (Key × V)}, RepK G w ds vs → RepK G w' ds vs
  | _, _, .nil => .nil
  | _, _, .cons h r => .cons (Rep.le e h) (RepK.le e r)
theorem RepT.le (e : Le w w') : ∀ {ds : List (List Key × D)} {vs : List (List Key × V)}, RepT G w ds vs → RepT G w' ds vs
  | _, _, .nil => .nil
  | _, _, .cons h r => .cons (Rep.le e h) (RepT.le e r)
theorem RepF.le (e : Le w w') : ∀ {ds : List (Nat × D)} {vs : List (Str × V)}, RepF G w ds vs → RepF G w' ds vs
  | _, _, .nil => .nil
  | _, _, .cons h r => .cons (Rep.le e h) (RepF.le e r)
end
end

/-! ### the check -/
structure Tab where
  fns : List (Str × Option Str)
  cls : List Str
  exc : List Str
  gn : List Str
  fld : List Str
  mks : List Nat
structure Ck where
  T : Tab
  N : List Str
  calm : Bool
def names0 : List Str := ["len", "int", "bool", "str", "list", "tuple", "abs", "max", "min", "sum", "sorted", "all", "any", "range", "isinstance", "dict", "enumerate"]
def isGl (sc : Scope) (x : Str) : Bool := sc.names.lookup x == some .globalImplicit && !(x == ("__debug__" : Str))
def isVis (sc : Scope) (x : Str) : Bool := (match sc.names.lookup x with | some .local => true | some .cell => true | some .free => true | _ => false) && !(x == ("__debug__" : Str)) && !(x == ("__classdict__" : Str))
def isLoc (sc : Scope) (x : Str) : Bool := match sc.names.lookup x with | some .local => true | some .cell => true | _ => false
def plainB : Expr → Bool
  | .Starred .. => false
  | .Slice .. => false
  | .Set .. => false
  | _ => true
/-- a test that is plain truth -/
def tstB : Expr → Bool
  | .UnaryOp .Not _ _ => false
  | .BoolOp .. => false
  | .IfExp .. => false
  | .Compare .. => false
  | _ => true
def ckBop : BOp → Operator → Bool
  | .add, .Add | .sub, .Sub | .mul, .Mult | .fdiv, .FloorDiv | .mod, .Mod | .pow, .Pow => true
  | _, _ => false
def ckCop : COp → CmpOp → Bool
  | .eq, .Eq | .ne, .NotEq | .lt, .Lt | .le, .LtE | .gt, .Gt | .ge, .GtE | .is, .Is | .isnot, .IsNot | .isin, .In | .notin, .NotIn => true
  | _, _ => false
def ckTy (T : Tab) : Ty → Str → Bool
  | .own c, x => T.cls[c]? == some x
  | .int, x => x == "int" | .bool, x => x == "bool" | .str, x => x == "str" | .list, x => x == "list" | .tuple, x => x == "tuple" | .dict, x => x == "dict"
def ckNm (C : Ck) (sc : Scope) (i : Nat) : Expr → Bool
  | .Name x _ => C.N[i]? == some x && isLoc sc x
  | _ => false
def ckNms (C : Ck) (sc : Scope) : List Nat → List Expr → Bool
  | [], [] => true
  | i :: is, e :: es => ckNm C sc i e && ckNms C sc is es
  | _, _ => false
def ckTg (C : Ck) (sc : Scope) : Tg → Expr → Bool
  | .name i, e => ckNm C sc i e
  | .tup is, e => match e with
    | .Tuple es _ _ => C.calm && ckNms C sc is es
    | _ => false
/-- a target's slots are the comprehension's own -/
def tgIn : Tg → List Nat → Bool
  | .name i, own => own.contains i
  | .tup is, own => is.all own.contains
def ownOf (N : List Str) (own : List Nat) : List (Str × Nat) := own.map fun i => (N.getD i "", i)
def blkB (N : List Str) (sc scope : Scope) (own : List Nat) : Bool :=
  scope.kind == .function && (scope.names.all fun y => scope.names.lookup y.1 == some y.2) && (own.all fun i => decide (i < N.length)) &&
  (scope.names.all fun y => if y.2 == .free then (match sc.names.lookup y.1 with | some .cell => true | some .free => true | _ => false) else true) &&
  (scope.names.all fun y => if y.2 == .local || y.2 == .cell then ((own.map fun i => N.getD i "").contains y.1 || !(N.contains y.1)) else true)
def noSup : Expr → Bool
  | .Call (.Name x _) [] [] _ => x != "super"
  | _ => true
mutual
def ckE (C : Ck) (sc : Scope) : CE → Expr → Bool
  | .cst k, e => match e with
    | .Constant c _ _ => (match k, c with
      | .non, .none => true
      | .bl b, .bool c => b == c
      | .int i, .int j => i == j
      | .str x, .str y => x == y && decide (x.length ≤ LIM)
      | _, _ => false)
    | _ => false
  | .var i, e => match e with
    | .Name x _ => C.N[i]? == some x && isVis sc x
    | _ => false
  | .glob g, e => match e with
    | .Name x _ => C.T.gn[g]? == some x && isGl sc x
    | _ => false
  | .bin op a b, e => match e with
    | .BinOp l o r _ => ckBop op o && ckE C sc a l && ckE C sc b r
    | _ => false
  | .neg a, e => match e with
    | .UnaryOp .USub l _ => ckE C sc a l
    | _ => false
  | .cmp op a b, e => match e with
    | .Compare l [o] [r] _ => ckCop op o && ckE C sc a l && ckE C sc b r && plainB r
    | _ => false
  | .chain op op' a b c, e => match e with
    | .Compare l [o, o'] [m, r] _ => ckCop op o && ckCop op' o' && ckE C sc a l && ckE C sc b m && ckE C sc c r && plainB m && plainB r
    | _ => false
  | .and as, e => match e with
    | .BoolOp .And vs _ => ckL C sc as vs
    | _ => false
  | .or as, e => match e with
    | .BoolOp .Or vs _ => ckL C sc as vs
    | _ => false
  | .not a, e => match e with
    | .UnaryOp .Not l _ => ckE C sc a l
    | _ => false
  | .ife t a b, e => match e with
    | .IfExp x y z _ => ckE C sc t x && ckE C sc a y && ckE C sc b z && ckT C sc t
    | _ => false
  | .tup as, e => match e with
    | .Tuple es _ _ => ckEs C sc as es
    | _ => false
  | .lst as, e => match e with
    | .List es _ => ckEs C sc as es
    | _ => false
  | .sub a i, e => match e with
    | .Subscript l s _ => ckE C sc a l && ckE C sc i s && plainB s
    | _ => false
  | .slice a lo hi, e => match e with
    | .Subscript l (.Slice u v none _) _ => ckE C sc a l && ckO C sc lo u && ckO C sc hi v
    | _ => false
  | .call f as, e => match e with
    | .Call (.Name x _) es [] _ => C.calm && C.T.fns[f]? == some (x, none) && isGl sc x && ckEs C sc as es && !(es.any fun e => !plainB e)
    | _ => false
  | .blt b as, e => match e with
    | .Call (.Name x _) es [] _ => C.calm && x == bnm b && isGl sc x && ckEs C sc as es && !(es.any fun e => !plainB e) && !es.isEmpty
    | _ => false
  | .bm m o as, e => match e with
    | .Call (.Attribute l x p2) es [] p => x == bmNm m && noSup l && p2.endLine == p.line && ckE C sc o l && ckEs C sc as es && (match es with
      | [] => true
      | [e] => plainB e
      | _ => false)
    | _ => false
  | .meth o m as, e => match e with
    | .Call (.Attribute l x p2) es [] p => C.calm && C.T.fld[m]? == some x && noSup l && p2.endLine == p.line && ckE C sc o l && ckEs C sc as es && !(es.any fun e => !plainB e) && decide (es.length < 30)
    | _ => false
  | .attr o f, e => match e with
    | .Attribute l x _ => C.T.fld[f]? == some x && noSup l && ckE C sc o l
    | _ => false
  | .make c as, e => match e with
    | .Call (.Name x _) es [] _ => C.calm && C.T.mks.contains c && C.T.cls[c]? == some x && isGl sc x && ckEs C sc as es && !(es.any fun e => !plainB e)
    | _ => false
  | .isi a t, e => match e with
    | .Call (.Name x _) [l, .Name y _] [] _ => x == "isinstance" && isGl sc x && ckE C sc a l && plainB l && ckTy C.T t y && isGl sc y
    | _ => false
  | .lc elt own t src cond, e => match e with
    | .ListComp el [⟨tg, it, ifs, 0⟩] scope _ => C.calm && ckI C sc src it && plainB it && blkB C.N sc scope own && tgIn t own && ckTg C scope t tg && ckE C (relS scope sc) elt el && ckC C (relS scope sc) cond ifs
    | _ => false
  | .newc as, e => match e with
    | .List es _ => ckEs C sc as es
    | _ => false
/-- tests: nothing that the machine tests otherwise -/
def ckT (C : Ck) (sc : Scope) : CE → Bool
  | .ife _ _ _ => false
  | .and as => ckTs C sc as
  | .or as => ckTs C sc as
  | .not a => ckT C sc a
  | _ => true
def ckTs (C : Ck) (sc : Scope) : CEs → Bool
  | .nil => true
  | .cons a as => ckT C sc a && ckTs C sc as
  | .star _ _ => false
def ckEs (C : Ck) (sc : Scope) : CEs → List Expr → Bool
  | .nil, es => es.isEmpty
  | .cons a as, es => match es with
    | e :: es => plainB e && ckE C sc a e && ckEs C sc as es
    | [] => false
  | .star a as, es => match es with
    | .Starred e _ :: es => ckE C sc a e && ckEs C sc as es
    | _ => false
/-- operands of and, or -/
def ckL (C : Ck) (sc : Scope) : CEs → List Expr → Bool
  | .nil, _ => false
  | .star _ _, _ => false
  | .cons a .nil, es => match es with
    | [e] => ckE C sc a e
    | _ => false
  | .cons _ (.star _ _), _ => false
  | .cons a (.cons b bs), es => match es with
    | e :: e' :: es => ckE C sc a e && ckL C sc (.cons b bs) (e' :: es)
    | _ => false
def ckO (C : Ck) (sc : Scope) : CO → Option Expr → Bool
  | .none, e => e.isNone
  | .some a, e => match e with
    | some e => ckE C sc a e
    | none => false
def ckC (C : Ck) (sc : Scope) : CO → List Expr → Bool
  | .none, es => es.isEmpty
  | .some a, es => match es with
    | [e] => ckE C sc a e && ckT C sc a
    | _ => false
def ckI (C : Ck) (sc : Scope) : CI → Expr → Bool
  | .of a, e => ckE C sc a e
  | .rng1 a, e => match e with
    | .Call (.Name x _) [l] [] _ => x == "range" && isGl sc x && ckE C sc a l && plainB l
    | _ => false
  | .rng2 a b, e => match e with
    | .Call (.Name x _) [l, r] [] _ => x == "range" && isGl sc x && ckE C sc a l && ckE C sc b r && plainB l && plainB r
    | _ => false
end
end Rf
set_option Elab.async false
set_option linter.all false
set_option maxRecDepth 100000
set_option maxHeartbeats 4000000
/-! G8: expressions: what the check says is what the machine does -/
namespace Rf
open PySem L2 PySem.Spec PyProof.Rows

theorem PE.imp {X : Cx} {e : Expr} {t t' : TE} (h : PE X e t) (i : ∀ σ H Q, t' σ H Q → t σ H Q) : PE X e t' := ⟨fun pins s σ H Q I q => h.run pins s σ H Q I (i σ H Q q)⟩
theorem PT.imp {X : Cx} {e : Expr} {t t' : TT} (h : PT X e t) (i : ∀ σ H Q, t' σ H Q → t σ H Q) : PT X e t' := ⟨fun pins s σ H Q I q => h.run pins s σ H Q I (i σ H Q q)⟩
theorem PW.imp {X : Cx} {e : Expr} {t t' : TT} (h : PW X e t) (i : ∀ σ H Q, t' σ H Q → t σ H Q) : PW X e t' := ⟨fun wh pins s σ H Q I q => h.run wh pins s σ H Q I (i σ H Q q)⟩
theorem PA.imp {X : Cx} {es : List Expr} {t t' : TA} (h : PA X es t) (i : ∀ σ H Q, t' σ H Q → t σ H Q) : PA X es t' := ⟨fun p pins s σ H Q I q => h.run p pins s σ H Q I (i σ H Q q)⟩
theorem PO.imp {X : Cx} {e : Option Expr} {t t' : TO} (h : PO X e t) (i : ∀ σ H Q, t' σ H Q → t σ H Q) : PO X e t' := ⟨fun pins s σ H Q I q => h.run pins s σ H Q I (i σ H Q q)⟩
theorem PI.imp {X : Cx} {tg e : Expr} {t t' : TI} (h : PI X tg e t) (i : ∀ σ H Q, t' σ H Q → t σ H Q) : PI X tg e t' := ⟨fun pins s σ H Q I q => h.run pins s σ H Q I (i σ H Q q)⟩
theorem PG.imp {X : Cx} {e : Expr} {t t' : TG} (h : PG X e t) (i : ∀ v σ H Q, t' v σ H Q → t v σ H Q) : PG X e t' := ⟨fun pins s σ H v u Q I r q => h.run pins s σ H v u Q I r (i v σ H Q q)⟩
theorem PTs.imp {X : Cx} {es : List Expr} {t t' : TT} (h : PTs X es t) (i : ∀ σ H Q, t' σ H Q → t σ H Q) : PTs X es t' := ⟨fun pins s σ H Q I q => h.run pins s σ H Q I (i σ H Q q)⟩

/-! ### where one stands -/
abbrev PostF (G : Gm) (w : W) (r : Res D) (Q : VK) (E : XK) : Prop := Post G w r (fun d w' => ∀ v, Rep G w' d v → Q v w'.H) (fun x w' => ∀ cls dd, ExR G w' x cls dd → E cls dd w'.H)
/-- a def's promise: the table's answer -/
def spF (G : Gm) (F : FTab) (f : Nat) : Sp := fun vs H Q E => ∃ w ds, w.H = H ∧ WOk G w ∧ Reps G w ds vs ∧ PostF G w (F.call f ds w.h) Q E
/-- an __init__'s promise: the object stands empty, then with its fields -/
def spI (G : Gm) (F : FTab) (c : Nat) : Sp := fun vs H Q E => ∃ (w0 w : W) (ds : List D) (a dx : Addr) (vs' : List V), vs = .ref a :: vs' ∧ w.H = H ∧ WOk G w ∧ Ext w0 w ∧ w.h = w0.h ∧ c < G.nc ∧
  w.H a = some (.ins (G.ca c) dx []) ∧ ¬ w.Z a ∧ ¬ w.live a ∧ w0.H a = none ∧ Reps G w ds vs' ∧
  Post G w0 (F.ini c ds w0.h) (fun fs w' => ∀ dx' fvs, w'.H a = some (.ins (G.ca c) dx' fvs) → RepF G w' fs fvs → ¬ w'.Z a → ¬ w'.live a → Q .non w'.H) (fun x w' => ∀ cls dd, ExR G w' x cls dd → E cls dd w'.H)
structure XOk (G : Gm) (C : Ck) (gl : Nat → Option D) (F : FTab) (n : Nat) (sc lsc : Scope) (X : Cx) : Prop where
  K : X.K = G.K
  N : X.N = C.N
  nd : C.N.Nodup
  hsc : X.env.scope = sc
  calm : C.calm = true → X.calm = true
  hu : X.A.units + 65 < cLine
  room : C.calm = true → Room (2 * n + 1) X.A
  fnl : ∀ x, isLoc lsc x = true → L2.Loc X.env.scope x ∧ (X.fn x = true ∨ X.env.scope.names.lookup x = some .local)
  glob : ∀ (g : Nat) (x : Str) (d : D), C.T.gn[g]? = some x → gl g = some d → ∃ v u, X.mg x = some u ∧ RelV v u ∧ ∀ w, Rep G w d v
  blt : ∀ x ∈ names0, X.mg x = none
  po : PassesOwn (model X.prog X.w) X.A X.env X.xe
  cls : ∀ (c : Nat) (x : Str), C.T.cls[c]? = some x → c < G.nc ∧ X.mg x = some (.ref (G.ca c))
  fn : ∀ (f : Nat) (x : Str), C.T.fns[f]? = some (x, none) → ∃ a, X.mg x = some (.ref a) ∧ PySem.W.keepIn X.K (.ref a) = true ∧ FnR X.prog X.w X.K X.mg X.base (L2.CX X.prog X.w) (2 * n) a (spF G F f)
  exc : ∀ (c : Nat) (x : Str), C.T.cls.length ≤ c → (C.T.cls ++ C.T.exc)[c]? = some x → X.mg x = some (.ref (G.ca c)) ∧ PySem.W.excIn G.K (G.ca c) He.veBase "ValueError.__new__" = true ∧ PySem.W.keepIn G.K (.ref (G.ca c)) = true ∧ PySem.W.subIn G.K (.ref (G.ca c)) (.type "BaseException") = some true ∧ PySem.W.typeIn G.K (.ref (G.ca c)) = some (.type "type")
  exm : ∀ c c' b, F.tb.sb c c' = some b → PySem.W.exmOne G.K (.ref (G.ca c)) (.ref (G.ca c')) = some b
  sy : ∀ (f : Nat) (x : Str), C.T.fld[f]? = some x → G.sy f = x
  ft : ∀ c f, F.tb.ft c f = true → c < G.nc ∧ NoAttr G.K (G.ca c) (G.sy f)
  mt : ∀ c m f, F.tb.mt c m = some f → c < G.nc ∧ ∃ a, Meth G.K (G.ca c) (G.sy m) a ∧ FnR X.prog X.w X.K X.mg X.base (L2.CX X.prog X.w) (2 * n) a (spF G F f)
  ot : ∀ c k f, F.tb.ot c k = some f → C.calm = true ∧ c < G.nc ∧ ∃ a, PySem.W.findIn G.K (.ref (G.ca c)) k.nm = some (some (.ref a)) ∧ PySem.W.isFn G.K (.ref a) = true ∧ PySem.W.fnIn G.K a = true ∧ FnR X.prog X.w X.K X.mg X.base (L2.CX X.prog X.w) (2 * n) a (spF G F f)
  mkr : ∀ (c : Nat), C.T.mks.contains c = true → ∃ a, Mk G.K (G.ca c) a ∧ FnR X.prog X.w X.K X.mg X.base (L2.CX X.prog X.w) (2 * n) a (spI G F c)
/-- the state: the slots stand for env -/
structure Stt (G : Gm) (B : Bs) (w : W) (env : En) (σ : List (Option V)) (ω : Nat → Addr) : Prop where
  ok : WOk G w
  be : Ext B.toW w
  eo : EnvOk G B w env σ ω
theorem Stt.ext {G : Gm} {B : Bs} {w w' : W} {env : En} {σ : List (Option V)} {ω : Nat → Addr} (s : Stt G B w env σ ω) (ok : WOk G w') (e : Ext w w') : Stt G B w' env σ ω := ⟨ok, s.be.trans e, s.eo.ext s.ok e⟩

def XP (G : Gm) (Wx : WX) (σ : L2.St) : Exn → W → Prop := fun x w' => ∀ cls dd, ExR G w' x cls dd → Wx cls dd σ w'.H
section
variable (G : Gm) (B : Bs) (Wx : WX) (F : FTab) (gl : Nat → Option D)
def tE (c : CE) : TE := fun σ H Q => ∃ w env ω, w.H = H ∧ Stt G B w env σ ω ∧ Post G w (evE F gl env c w.h) (fun d w' => ∀ v, Rep G w' d v → Q v w'.H) (XP G Wx σ)
def tBa (c : CE) : TE := fun σ H Q => ∃ w env ω, w.H = H ∧ Stt G B w env σ ω ∧ Post G w (based env c w.h (evE F gl env c w.h)) (fun d w' => ∀ v, BRep G w' d v → Q v w'.H) (XP G Wx σ)
/-- the same, and it is a datum where it is no object of our own -/
def tBo (c : CE) : TE := fun σ H Q => ∃ w env ω, w.H = H ∧ Stt G B w env σ ω ∧ Post G w (based env c w.h (evE F gl env c w.h)) (fun d w' => ∀ v, BRep G w' d v → (isOwn env c = false → Rep G w' d v) → Q v w'.H) (XP G Wx σ)
def tEs (cs : CEs) : TA := fun σ H Q => ∃ w env ω, w.H = H ∧ Stt G B w env σ ω ∧ Post G w (evEs F gl env cs w.h) (fun ds w' => ∀ vs, Reps G w' ds vs → Q vs w'.H) (XP G Wx σ)
inductive BReps (G : Gm) (w : W) : List D → List V → Prop
  | nil : BReps G w [] []
  | cons {d : D} {ds : List D} {v : V} {vs : List V} : BRep G w d v → BReps G w ds vs → BReps G w (d :: ds) (v :: vs)
def tBs (cs : CEs) : TA := fun σ H Q => ∃ w env ω, w.H = H ∧ Stt G B w env σ ω ∧ Post G w (evBs F gl env cs w.h) (fun ds w' => ∀ vs, BReps G w' ds vs → Q vs w'.H) (XP G Wx σ)
def tO (c : CO) : TO := fun σ H Q => ∃ w env ω, w.H = H ∧ Stt G B w env σ ω ∧ Post G w (evO F gl env c w.h) (fun o w' => Q o w'.H) (XP G Wx σ)
def tT (c : CE) : TT := fun σ H Q => ∃ w env ω, w.H = H ∧ Stt G B w env σ ω ∧ Post G w (evE F gl env c w.h).test (fun b w' => Q b w'.H) (XP G Wx σ)
def tCn (c : CO) : TT := fun σ H Q => ∃ w env ω, w.H = H ∧ Stt G B w env σ ω ∧ Post G w (evC F gl env c w.h) (fun b w' => Q b w'.H) (XP G Wx σ)
def tL (r : CEs → En → Cells → Res D) (cs : CEs) : TE := fun σ H Q => ∃ w env ω, w.H = H ∧ Stt G B w env σ ω ∧ Post G w (r cs env w.h) (fun d w' => ∀ v, Rep G w' d v → Q v w'.H) (XP G Wx σ)
def tLT (r : CEs → En → Cells → Res D) (cs : CEs) : TT := fun σ H Q => ∃ w env ω, w.H = H ∧ Stt G B w env σ ω ∧ Post G w (r cs env w.h).test (fun b w' => Q b w'.H) (XP G Wx σ)
/-- an iterator over ds -/
def ItOk (G : Gm) (w : W) (ds : List D) (J : It) : Prop := ∃ vs Gd, Reps G w ds vs ∧ Walk J vs.length Gd (YAt vs) ∧ ∀ w', Le w w' → Gd w'.H
def tI (c : CI) : TI := fun σ H R => ∃ w env ω, w.H = H ∧ Stt G B w env σ ω ∧ Post G w (evI F gl env c w.h) (fun ds w' => ∀ J, ItOk G w' ds J → R J w'.H) (XP G Wx σ)
/-- a target takes a datum -/
def tTg (t : Tg) : TG := fun v σ H Q => ∃ w env ω d env', w.H = H ∧ Stt G B w env σ ω ∧ Rep G w d v ∧ bindT t d env = some env' ∧ ∀ σ', Stt G B w env' σ' ω → Q σ' w.H
end

section
variable {G : Gm} {B : Bs} {w w' : W} {Wx : WX} {F : FTab} {gl : Nat → Option D} {C : Ck} {n : Nat} {sc lsc : Scope} {X : Cx} {env : En} {σ : List (Option V)} {ω : Nat → Addr}
theorem BReps.ext {ds : List D} {vs : List V} (ok : WOk G w) (e : Ext w w') : BReps G w ds vs → BReps G w' ds vs
  | .nil => .nil
  | .cons h r => .cons (h.ext ok e) (r.ext ok e)
theorem BReps.vw {ds : List D} {vs : List V} (ok : WOk G w) : BReps G w ds vs → VwA G w (ds.map (see w.h)) vs
  | .nil => .nil
  | .cons h r => .cons (h.see ok) (r.vw ok)
/-- a slot stored -/
theorem EnvOk.set (x : EnvOk G B w env σ ω) {i : Nat} {d : D} {v : V} (r : Rep G w d v) : EnvOk G B w (env.set i (.val d)) (σ.set i (some v)) ω where
  len := by rw [List.length_set, List.length_set]; exact x.len
  vals := fun j d' h => by
    by_cases q : i = j
    · subst q
      by_cases hi : i < env.length
      · rw [List.getElem?_set_self hi] at h
        cases h
        exact ⟨v, by rw [List.getElem?_set_self (by rw [← x.len]; exact hi)], r⟩
      · rw [List.getElem?_eq_none (by rw [List.length_set]; omega)] at h
        cases h
    · rw [List.getElem?_set_ne q] at h
      rw [List.getElem?_set_ne q]
      exact x.vals j d' h
  own := fun j o h => by
    by_cases q : i = j
    · subst q
      by_cases hi : i < env.length
      · rw [List.getElem?_set_self hi] at h
        cases h
      · rw [List.getElem?_eq_none (by rw [List.length_set]; omega)] at h
        cases h
    · rw [List.getElem?_set_ne q] at h
      rw [List.getElem?_set_ne q]
      exact x.own j o h
  inj := fun j k o u h1 h2 => by
    by_cases q : i = j
    · subst q
      by_cases hi : i < env.length
      · rw [List.getElem?_set_self hi] at h1
        cases h1
      · rw [List.getElem?_eq_none (by rw [List.length_set]; omega)] at h1
        cases h1
    · by_cases q2 : i = k
      · subst q2
        by_cases hi : i < env.length
        · rw [List.getElem?_set_self hi] at h2
          cases h2
        · rw [List.getElem?_eq_none (by rw [List.length_set]; omega)] at h2
          cases h2
      · rw [List.getElem?_set_ne q] at h1
        rw [List.getElem?_set_ne q2] at h2
        exact x.inj j k o u h1 h2
  mine := fun j c fs h => by
    by_cases q : i = j
    · subst q
      by_cases hi : i < env.length
      · rw [List.getElem?_set_self hi] at h
        cases h
      · rw [List.getElem?_eq_none (by rw [List.length_set]; omega)] at h
        cases h
    · rw [List.getElem?_set_ne q] at h
      exact x.mine j c fs h
theorem EnvOk.drop1 (x : EnvOk G B w env σ ω) (i : Nat) : EnvOk G B w (env.set i .no) (σ.set i none) ω where
  len := by rw [List.length_set, List.length_set]; exact x.len
  vals := fun j d' h => by
    by_cases q : i = j
    · subst q
      by_cases hi : i < env.length
      · rw [List.getElem?_set_self hi] at h
        cases h
      · rw [List.getElem?_eq_none (by rw [List.length_set]; omega)] at h
        cases h
    · rw [List.getElem?_set_ne q] at h
      rw [List.getElem?_set_ne q]
      exact x.vals j d' h
  own := fun j o h => by
    by_cases q : i = j
    · subst q
      by_cases hi : i < env.length
      · rw [List.getElem?_set_self hi] at h
        cases h
      · rw [List.getElem?_eq_none (by rw [List.length_set]; omega)] at h
        cases h
    · rw [List.getElem?_set_ne q] at h
      rw [List.getElem?_set_ne q]
      exact x.own j o h
  inj := fun j k o u h1 h2 => by
    by_cases q : i = j
    · subst q
      by_cases hi : i < env.length
      · rw [List.getElem?_set_self hi] at h1
        cases h1
      · rw [List.getElem?_eq_none (by rw [List.length_set]; omega)] at h1
        cases h1
    · by_cases q2 : i = k
      · subst q2
        by_cases hi : i < env.length
        · rw [List.getElem?_set_self hi] at h2
          cases h2
        · rw [List.getElem?_eq_none (by rw [List.length_set]; omega)] at h2
          cases h2
      · rw [List.getElem?_set_ne q] at h1
        rw [List.getElem?_set_ne q2] at h2
        exact x.inj j k o u h1 h2
  mine := fun j c fs h => by
    by_cases q : i = j
    · subst q
      by_cases hi : i < env.length
      · rw [List.getElem?_set_self hi] at h
        cases h
      · rw [List.getElem?_eq_none (by rw [List.length_set]; omega)] at h
        cases h
    · rw [List.getElem?_set_ne q] at h
      exact x.mine j c fs h
theorem wipe_ok (x : EnvOk G B w env σ ω) : ∀ (own : List Nat), EnvOk G B w (wipeE env own) (L2.wipe σ own) ω
  | [] => x
  | i :: is => (wipe_ok x is).drop1 i
end
end Rf
set_option Elab.async false
set_option linter.all false
set_option maxRecDepth 100000
set_option maxHeartbeats 4000000
/-! G9: the constructs one by one -/
namespace Rf
open PySem L2 PySem.Spec PyProof.Rows

theorem star_one {e : Expr} (h : plainB e = true) (es : List Expr) (env : Env) : starEach (e :: es) env = (false, eval e env) :: starEach es env := by
  cases e <;> first | rfl | cases h
theorem star_none : ∀ {es : List Expr}, (es.any fun e => !plainB e) = false → ∀ (pos : Pos) (env : Env), (backTo pos (starEach es env)).any (·.1) = false
  | [], _, _, _ => rfl
  | e :: es, h, pos, env => by
    rw [List.any_cons, Bool.or_eq_false_iff] at h
    have he : plainB e = true := by simpa using h.1
    rw [star_one he]
    have ih := star_none h.2 pos env
    unfold backTo at ih ⊢
    rw [List.map_cons, List.any_cons, ih]
    rfl
theorem plain_ix {e : Expr} (h : plainB e = true) : PlainIx e := by
  cases e <;> first | (intro o i; rfl) | cases h
theorem plain_mark {e : Expr} (h : plainB e = true) (op : CmpOp) : behindInMarks op e = false := by
  cases e <;> first | rfl | cases h
theorem tst_plain {e : Expr} (h : tstB e = true) (env : Env) : ∀ whole, isTrue e env whole = (do let v ← whole; standAt e.pos; holding [v] (truthy v)) := by
  intro whole
  cases e <;> first | rfl | (rename_i o _ _; cases o <;> first | rfl | cases h) | cases h

section
variable {G : Gm} {B : Bs} {w w' : W} {Wx : WX} {F : FTab} {gl : Nat → Option D} {C : Ck} {n : Nat} {sc lsc : Scope} {X : Cx} {env : En} {σ : List (Option V)} {ω : Nat → Addr}
  {l m r e : Expr} {es : List Expr} {a b c : CE} {as : CEs} {pos p : Pos} {x : Str}
abbrev T1 (G : Gm) (B : Bs) (Wx : WX) (F : FTab) (gl : Nat → Option D) := tE G B Wx F gl

theorem gl_of (h : isGl sc x = true) (hs : X.env.scope = sc) : Gl X x ∧ (x == ("__debug__" : Str)) = false := by
  unfold isGl at h
  rw [Bool.and_eq_true, Bool.not_eq_true', beq_iff_eq] at h
  refine ⟨?_, h.2⟩
  unfold Gl Env.kindOf
  rw [hs]
  exact h.1
theorem vis_of (h : isVis sc x = true) (hs : X.env.scope = sc) : Vis X.env.scope x ∧ (x == ("__debug__" : Str)) = false ∧ (x == ("__classdict__" : Str)) = false := by
  unfold isVis at h
  rw [Bool.and_eq_true, Bool.and_eq_true, Bool.not_eq_true', Bool.not_eq_true'] at h
  refine ⟨?_, h.1.2, h.2⟩
  rw [hs]
  unfold Vis
  have q := h.1.1
  split at q
  · rename_i e; exact .inl e
  · rename_i e; exact .inr (.inl e)
  · rename_i e; exact .inr (.inr e)
  · cases q
theorem loc_of (h : isLoc sc x = true) (hs : X.env.scope = sc) : L2.Loc X.env.scope x := by
  unfold isLoc at h
  rw [hs]
  unfold L2.Loc
  split at h
  · rename_i e; exact .inl e
  · rename_i e; exact .inr e
  · cases h

theorem e_none {j} : PE X (.Constant .none j pos) (tE G B Wx F gl (.cst .non)) := PE.imp pe_non fun σ H Q ⟨w, env, ω, e, s, p⟩ => by
  subst e
  rw [evE] at p
  exact Post.now p s.ok _ .non
theorem e_bl {j b} : PE X (.Constant (.bool b) j pos) (tE G B Wx F gl (.cst (.bl b))) := PE.imp pe_bl fun σ H Q ⟨w, env, ω, e, s, p⟩ => by
  subst e
  rw [evE] at p
  exact Post.now p s.ok _ (.bl b)
theorem e_int {j i} : PE X (.Constant (.int i) j pos) (tE G B Wx F gl (.cst (.int i))) := PE.imp pe_int fun σ H Q ⟨w, env, ω, e, s, p⟩ => by
  subst e
  rw [evE] at p
  exact Post.now p s.ok _ (.int i)
theorem e_str {j z} (hz : z.length ≤ LIM) : PE X (.Constant (.str z) j pos) (tE G B Wx F gl (.cst (.str z))) := PE.imp pe_str fun σ H Q ⟨w, env, ω, e, s, p⟩ => by
  subst e
  rw [evE] at p
  exact Post.now p s.ok _ (.str z hz)
theorem e_var {i : Nat} (ok : XOk G C gl F n sc lsc X) (hi : C.N[i]? = some x) (hv : isVis sc x = true) : PE X (.Name x p) (tE G B Wx F gl (.var i)) := by
  obtain ⟨h1, h2, h3⟩ := vis_of hv ok.hsc
  refine PE.imp (pe_var (by rw [ok.N]; exact hi) h1 h2 h3) fun σ H Q ⟨w, env, ω, e, s, p⟩ => ?_
  subst e
  rw [evE] at p
  cases q : env[i]? with
  | none => rw [q] at p; exact p.elim
  | some sl => cases sl with
    | no => rw [q] at p; exact p.elim
    | own o => rw [q] at p; exact p.elim
    | val d =>
      rw [q] at p
      obtain ⟨v, hv, rv⟩ := s.eo.vals i d q
      exact ⟨v, hv, Post.now p s.ok v rv⟩
theorem b_var {i : Nat} (ok : XOk G C gl F n sc lsc X) (hi : C.N[i]? = some x) (hv : isVis sc x = true) : PE X (.Name x p) (tBa G B Wx F gl (.var i)) := by
  obtain ⟨h1, h2, h3⟩ := vis_of hv ok.hsc
  refine PE.imp (pe_var (by rw [ok.N]; exact hi) h1 h2 h3) fun σ H Q ⟨w, env, ω, e, s, p⟩ => ?_
  subst e
  unfold based at p
  rw [evE] at p
  cases q : env[i]? with
  | none => simp only [q] at p; exact p.elim
  | some sl => cases sl with
    | no => simp only [q] at p; exact p.elim
    | own o =>
      simp only [q] at p
      obtain ⟨h1, h2, h3, h4, h5⟩ := s.eo.own i o q
      exact ⟨_, h1, Post.now p s.ok _ (.inr ⟨_, o, rfl, rfl, h2, h4⟩)⟩
    | val d =>
      simp only [q] at p
      obtain ⟨v, hv, rv⟩ := s.eo.vals i d q
      exact ⟨v, hv, Post.now p s.ok v (.inl rv)⟩
theorem o_var {i : Nat} (ok : XOk G C gl F n sc lsc X) (hi : C.N[i]? = some x) (hv : isVis sc x = true) : PE X (.Name x p) (tBo G B Wx F gl (.var i)) := by
  obtain ⟨h1, h2, h3⟩ := vis_of hv ok.hsc
  refine PE.imp (pe_var (by rw [ok.N]; exact hi) h1 h2 h3) fun σ H Q ⟨w, env, ω, e, s, p⟩ => ?_
  subst e
  unfold based at p
  rw [evE] at p
  cases q : env[i]? with
  | none => simp only [q] at p; exact p.elim
  | some sl => cases sl with
    | no => simp only [q] at p; exact p.elim
    | own o =>
      simp only [q] at p
      obtain ⟨h1, h2, h3, h4, h5⟩ := s.eo.own i o q
      have hio : isOwn env (.var i) = true := by simp only [isOwn, q]
      exact ⟨_, h1, Post.now p s.ok _ (.inr ⟨_, o, rfl, rfl, h2, h4⟩) (fun z => by rw [hio] at z; cases z)⟩
    | val d =>
      simp only [q] at p
      obtain ⟨v, hv, rv⟩ := s.eo.vals i d q
      exact ⟨v, hv, Post.now p s.ok v (.inl rv) (fun _ => rv)⟩
theorem o_other (hn : ∀ i, c ≠ .var i) (h : PE X e (tE G B Wx F gl c)) : PE X e (tBo G B Wx F gl c) := PE.imp h fun σ H Q ⟨w, env, ω, e, s, p⟩ => by
  have q : based env c w.h (evE F gl env c w.h) = evE F gl env c w.h := by
    unfold based
    split
    · exact absurd rfl (hn _)
    · rfl
  rw [q] at p
  exact ⟨w, env, ω, e, s, p.mono (fun d w' _ _ h v r => h v (.inl r) (fun _ => r)) fun _ _ _ _ h => h⟩
/-- a base that is no name of ours -/
theorem b_other (hn : ∀ i, c ≠ .var i) (h : PE X e (tE G B Wx F gl c)) : PE X e (tBa G B Wx F gl c) := PE.imp h fun σ H Q ⟨w, env, ω, e, s, p⟩ => by
  have q : based env c w.h (evE F gl env c w.h) = evE F gl env c w.h := by
    unfold based
    split
    · exact absurd rfl (hn _)
    · rfl
  rw [q] at p
  exact ⟨w, env, ω, e, s, p.mono (fun d w' _ _ h v r => h v (.inl r)) fun _ _ _ _ h => h⟩
theorem e_glob {g : Nat} (ok : XOk G C gl F n sc lsc X) (hi : C.T.gn[g]? = some x) (hg : isGl sc x = true) : PE X (.Name x p) (tE G B Wx F gl (.glob g)) := by
  obtain ⟨h1, h2⟩ := gl_of hg ok.hsc
  cases q : gl g with
  | none => exact ⟨fun pins s σ H Q I ⟨w, env, ω, e, st, p⟩ => by
      rw [evE, q] at p
      exact p.elim⟩
  | some d =>
    obtain ⟨v, u, hm, rv, rep⟩ := ok.glob g x d hi q
    refine PE.imp (pe_glob h1 hm rv h2) fun σ H Q ⟨w, env, ω, e, s, p⟩ => ?_
    subst e
    rw [evE, q] at p
    exact Post.now p s.ok v (rep w)
/-! ### operators, own ones too -/
theorem XOk.own {k : Nat} {c : Nat} {d : Dn} {f : Nat} (ok : XOk G C gl F n sc lsc X) (h : F.tb.ot c d = some f) : Room (2 * n) X.A ∧ c < G.nc ∧ OwnOp X (L2.CX X.prog X.w) (2 * n) (G.ca c) d.nm (spF G F f) := by
  obtain ⟨hc, h1, a, h2, h3, _, h4⟩ := ok.ot c d f h
  rw [← ok.K] at h2 h3
  exact ⟨(ok.room hc).mono (Nat.le_succ _), h1, ⟨a, h2, h3, h4⟩⟩
/-- a call's promise as an answer's -/
theorem spF_of {f : Nat} {ds : List D} {vs : List V} {Q : VK} {E : XK} (ok : WOk G w) (r : Reps G w ds vs) (h : PostF G w (F.call f ds w.h) Q E) : spF G F f vs w.H Q E := ⟨w, ds, rfl, ok, r, h⟩
def rBinS (G : Gm) (F : FTab) (Wx : WX) (op : BOp) : L2.St → V → V → Hp → VK → Prop := fun σ x y H Q => ∃ w d1 d2, w.H = H ∧ WOk G w ∧ Rep G w d1 x ∧ Rep G w d2 y ∧ Post G w (binR F op w.h d1 d2) (fun d w' => ∀ v, Rep G w' d v → Q v w'.H) (XP G Wx σ)
theorem binS_ok (ok : XOk G C gl F n sc lsc X) (go : G.Ok) (tk : Takes X Wx) (op : BOp) : OpSl X (binaryOp (bop op)) (rBinS G F Wx op) := by
  intro pins s σ H x y v u Q I rx ry q
  obtain ⟨w, d1, d2, rfl, okw, r1, r2, p⟩ := q
  unfold binR at p
  cases ho : opB op (see w.h d1) (see w.h d2) with
  | some d3 =>
    rw [ho] at p
    exact opB_ok ok.K op pins s σ _ _ _ v u Q I rx ry ⟨w, _, _, d3, rfl, okw, r1.see okw, r2.see okw, ho, fun w' v eh ok e r => p w' eh ok e v r⟩
  | none =>
    rw [ho] at p
    simp only at p
    have v1 := r1.see okw
    have v2 := r2.see okw
    split at p
    rotate_left
    · exact p.elim
    rename_i f c fs c' fs' hf e1 e2
    rw [e1] at v1 hf
    rw [e2] at v2
    split at p
    rotate_left
    · exact p.elim
    rename_i ecc
    subst ecc
    obtain ⟨hr, hc, ho'⟩ := ok.own (k := 0) (show F.tb.ot c (.bin op) = some f from hf)
    have hnm : (Dn.bin op).nm = PySem.dunder (bop op).info.2 := by cases op <;> rfl
    rw [hnm] at ho'
    cases v1 with | ins _ ha _ =>
    cases v2 with | ins _ hb _ =>
    refine bin_own (k := 2 * n) (E := WE Wx) hr (fun σ => passAt tk σ) pins s σ _ _ _ v u Q I rx ry ⟨_, _, _, _, _, _, _, _, rfl, ha, rfl, hb, ?_, ho', spF_of okw (.cons r1 (.cons r2 .nil)) p⟩
    rw [ok.K]
    exact go.sf c hc
theorem e_bin {op : BOp} (ok : XOk G C gl F n sc lsc X) (go : G.Ok) (tk : Takes X Wx) (ha : PE X l (tE G B Wx F gl a)) (hb : PE X r (tE G B Wx F gl b)) : PE X (.BinOp l (bop op) r pos) (tE G B Wx F gl (.bin op a b)) := by
  refine PE.imp (pe_opS (binS_ok ok go tk op) ha hb) fun σ H Q ⟨w, env, ω, e, s, p⟩ => ?_
  subst e
  rw [evE] at p
  refine ⟨w, env, ω, rfl, s, p.bind.mono (fun d1 w1 ok1 e1 p2 v1 r1 => ?_) fun _ _ _ _ h => h⟩
  have s1 := s.ext ok1 e1
  refine ⟨w1, env, ω, rfl, s1, p2.bind.mono (fun d2 w2 ok2 e2 p3 v2 r2 => ?_) fun _ _ _ _ h => h⟩
  exact ⟨w2, _, _, rfl, ok2, r1.ext ok1 e2, r2, p3⟩
def rCmpS (G : Gm) (F : FTab) (Wx : WX) (op : COp) (own : Bool) : L2.St → V → V → Hp → VK → Prop := fun σ x y H Q => ∃ w d1 d2, w.H = H ∧ WOk G w ∧ Rep G w d1 x ∧ BRep G w d2 y ∧ (own = false → Rep G w d2 y) ∧ Post G w (cmpR F op own w.h d1 d2) (fun d w' => ∀ v, Rep G w' d v → Q v w'.H) (XP G Wx σ)
theorem boolR_ok {neg : Bool} {d : D} {v : V} {K : V → Hp → Prop} (r : Rep G w d v) (p : Post G w (boolR neg d w.h) (fun d w' => ∀ v, Rep G w' d v → K v w'.H) (XP G Wx σ)) (ok : WOk G w) : ∃ b, v = .bl b ∧ K (.bl (if neg then !b else b)) w.H := by
  cases r with
  | bl b => exact ⟨b, rfl, Post.now p ok _ (.bl _)⟩
  | _ => exact p.elim
theorem cmpS_ok (ok : XOk G C gl F n sc lsc X) (go : G.Ok) (tk : Takes X Wx) (op : COp) (own : Bool) : OpSl X (compareOp (cop op)) (rCmpS G F Wx op own) := by
  intro pins s σ H x y v u Q I rx ry q
  obtain ⟨w, d1, d2, rfl, okw, r1, r2, r2', p⟩ := q
  unfold cmpR at p
  cases ho : opC op (see w.h d1) (see w.h d2) with
  | some d3 =>
    rw [ho] at p
    exact opC_ok ok.K ok.hu op pins s σ _ _ _ v u Q I rx ry ⟨w, _, _, d3, rfl, okw, r1.see okw, r2.see okw, ho, Post.now p okw _ (.bl _)⟩
  | none =>
    rw [ho] at p
    simp only at p
    have hin : ∀ (neg : Bool), inR F neg own w.h d1 d2 = cmpOwn F op own w.h d1 d2 → ∃ f a C dx fs, own = false ∧ y = .ref a ∧ w.H a = some (.ins C dx fs) ∧ Room (2 * n) X.A ∧ OwnOp X (L2.CX X.prog X.w) (2 * n) C "__contains__" (spF G F f) ∧ Post G w ((F.call f [d2, d1] w.h).bind (boolR neg)) (fun d w' => ∀ v, Rep G w' d v → Q v w'.H) (XP G Wx σ) := fun neg e => by
      rw [← e] at p
      unfold inR at p
      cases own with
      | true => exact p.elim
      | false =>
        simp only [Bool.false_eq_true, if_false] at p
        split at p
        rotate_left
        · exact p.elim
        rename_i f hf
        have v2 := (r2' rfl).see okw
        revert hf v2
        generalize see w.h d2 = z
        intro hf v2
        cases v2 with
        | ins hc ha hrf =>
          rename_i a dx c fvs fs
          obtain ⟨hr, hc, ho'⟩ := ok.own (k := 0) (show F.tb.ot c .has = some f from hf)
          exact ⟨f, _, _, _, _, rfl, rfl, ha, hr, ho', p⟩
        | _ => cases hf
    have hcm : ∀ (op' : CmpOp), compareOp (cop op) = richCompare op' → (Dn.cmp op).nm = (cmpInfo op').2.1 → cmpOwn F op own w.h d1 d2 = (if own || !hasTy (see w.h d2) then .bad else match ownF F.tb (.cmp op) (see w.h d1) with
        | some f => F.call f [d1, d2] w.h
        | none => .bad) → wpAny (model X.prog X.w) X.A (compareOp (cop op) v u) (EP X pins σ Q) X.xe s := fun op' e1 e2 e3 => by
      rw [e3] at p
      split at p
      · exact p.elim
      rename_i hno
      rw [Bool.or_eq_true, not_or, Bool.not_eq_true, Bool.not_eq_true', Bool.not_eq_false] at hno
      split at p
      rotate_left
      · exact p.elim
      rename_i f hf
      have v1 := r1.see okw
      revert hf v1
      generalize see w.h d1 = z
      intro hf v1
      cases v1 with
      | ins hc ha hrf =>
        rename_i a dx c fvs fs
        obtain ⟨hr, hc, ho'⟩ := ok.own (k := 0) (show F.tb.ot c (.cmp op) = some f from hf)
        rw [e2] at ho'
        rw [e1]
        refine cmp_own (k := 2 * n) (E := WE Wx) hr (fun σ => passAt tk σ) pins s σ _ _ _ v u Q I rx ry ⟨_, _, _, _, _, rfl, ha, ho', fun s' pins' v' u' I' ry' => ?_, spF_of okw (.cons r1 (.cons (r2' hno.1) .nil)) p⟩
        obtain ⟨ty, hty, hnf⟩ := vw_ty go ((r2' hno.1).see okw) hno.2
        rw [← ok.K] at hty
        obtain ⟨P, k1, k2, _⟩ := kit_of I' ry' hty
        refine ⟨ty, k1.ty _ _ I'.kIn k2, ?_⟩
        rw [ok.K]
        exact hnf c hc
      | _ => cases hf
    cases op with
    | eq => exact hcm .Eq rfl rfl rfl
    | ne => exact hcm .NotEq rfl rfl rfl
    | lt => exact hcm .Lt rfl rfl rfl
    | le => exact hcm .LtE rfl rfl rfl
    | gt => exact hcm .Gt rfl rfl rfl
    | ge => exact hcm .GtE rfl rfl rfl
    | is => exact p.elim
    | isnot => exact p.elim
    | isin =>
      obtain ⟨f, a, C', dx, fs, e1, rfl, ha, hr, ho', p'⟩ := hin false rfl
      refine in_own (k := 2 * n) (E := WE Wx) hr (fun σ => passAt tk σ) pins s σ _ _ _ v u Q I rx ry ⟨_, _, _, _, _, rfl, ha, ho', spF_of okw (.cons (r2' e1) (.cons r1 .nil)) (p'.bind.mono (fun d w1 ok1 e1 p2 v rv => ?_) fun _ _ _ _ h => h)⟩
      exact boolR_ok (neg := false) rv p2 ok1
    | notin =>
      obtain ⟨f, a, C', dx, fs, e1, rfl, ha, hr, ho', p'⟩ := hin true rfl
      refine notin_own (k := 2 * n) (E := WE Wx) hr (fun σ => passAt tk σ) pins s σ _ _ _ v u Q I rx ry ⟨_, _, _, _, _, rfl, ha, ho', spF_of okw (.cons (r2' e1) (.cons r1 .nil)) (p'.bind.mono (fun d w1 ok1 e1 p2 v rv => ?_) fun _ _ _ _ h => h)⟩
      exact boolR_ok (neg := true) rv p2 ok1
theorem e_neg (ha : PE X l (tE G B Wx F gl a)) : PE X (.UnaryOp .USub l pos) (tE G B Wx F gl (.neg a)) := by
  refine PE.imp (pe_un un_neg ha) fun σ H Q ⟨w, env, ω, e, s, p⟩ => ?_
  subst e
  rw [evE] at p
  refine ⟨w, env, ω, rfl, s, p.bind.mono (fun d1 w1 ok1 e1 p2 v1 r1 => ?_) fun _ _ _ _ h => h⟩
  cases r1 with
  | int i => exact ⟨i, rfl, (p2.at (a := D.int (-i)) rfl ok1) _ (.int _)⟩
  | _ => exact p2.elim
theorem e_cmp {op : COp} (ok : XOk G C gl F n sc lsc X) (go : G.Ok) (tk : Takes X Wx) (ha : PE X l (tE G B Wx F gl a)) (hb : PE X r (tBo G B Wx F gl b)) (hr : plainB r = true) : PE X (.Compare l [cop op] [r] pos) (tE G B Wx F gl (.cmp op a b)) := by
  refine PE.imp (pe_cmpS (OpSl.ex fun own => cmpS_ok ok go tk op own) ha hb (plain_mark hr _)) fun σ H Q ⟨w, env, ω, e, s, p⟩ => ?_
  subst e
  rw [evE] at p
  refine ⟨w, env, ω, rfl, s, p.bind.mono (fun d1 w1 ok1 e1 p2 v1 r1 => ?_) fun _ _ _ _ h => h⟩
  have s1 := s.ext ok1 e1
  refine ⟨w1, env, ω, rfl, s1, p2.bind.mono (fun d2 w2 ok2 e2 p3 v2 r2 r2' => ?_) fun _ _ _ _ h => h⟩
  exact ⟨_, w2, _, _, rfl, ok2, r1.ext ok1 e2, r2, r2', p3⟩
theorem t_cmp {op : COp} (ok : XOk G C gl F n sc lsc X) (go : G.Ok) (tk : Takes X Wx) (ha : PE X l (tE G B Wx F gl a)) (hb : PE X r (tBo G B Wx F gl b)) (hr : plainB r = true) : PT X (.Compare l [cop op] [r] pos) (tT G B Wx F gl (.cmp op a b)) := by
  refine PT.imp (pt_cmpS (OpSl.ex fun own => cmpS_ok ok go tk op own) ha hb (plain_mark hr _)) fun σ H Q ⟨w, env, ω, e, s, p⟩ => ?_
  subst e
  have p := p.bind
  rw [evE] at p
  refine ⟨w, env, ω, rfl, s, p.bind.mono (fun d1 w1 ok1 e1 p2 v1 r1 => ?_) fun _ _ _ _ h => h⟩
  have s1 := s.ext ok1 e1
  refine ⟨w1, env, ω, rfl, s1, p2.bind.mono (fun d2 w2 ok2 e2 p3 v2 r2 r2' => ?_) fun _ _ _ _ h => h⟩
  refine ⟨_, w2, _, _, rfl, ok2, r1.ext ok1 e2, r2, r2', p3.mono (fun d3 w3 ok3 e3 p4 v3 r3 => ?_) fun _ _ _ _ h => h⟩
  obtain ⟨b, hb, k⟩ := p4.lifted
  refine ⟨b, ?_, k w3 rfl ok3 (Ext.refl _)⟩
  rw [ok.K]
  exact truth_v (r3.see ok3) hb
theorem e_chain {op op' : COp} (hK : X.K = G.K) (hu : X.A.units + 65 < cLine) (ha : PE X l (tE G B Wx F gl a)) (hb : PE X m (tE G B Wx F gl b)) (hc : PE X r (tE G B Wx F gl c)) (hr : plainB r = true) :
    PE X (.Compare l [cop op, cop op'] [m, r] pos) (tE G B Wx F gl (.chain op op' a b c)) := by
  refine PE.imp (pe_chain (opC_ok hK hu op) (opC_ok hK hu op') ha hb hc (plain_mark hr _)) fun σ H Q ⟨w, env, ω, e, s, p⟩ => ?_
  subst e
  rw [evE] at p
  refine ⟨w, env, ω, rfl, s, p.bind.mono (fun d1 w1 ok1 e1 p2 v1 r1 => ?_) fun _ _ _ _ h => h⟩
  have s1 := s.ext ok1 e1
  refine ⟨w1, env, ω, rfl, s1, p2.bind.mono (fun d2 w2 ok2 e2 p3 v2 r2 => ?_) fun _ _ _ _ h => h⟩
  obtain ⟨k, hk, p4⟩ := p3.bind.lifted
  have p5 := p4 w2 rfl ok2 (Ext.refl _)
  refine ⟨w2, _, _, k, rfl, ok2, (r1.ext ok1 e2).see ok2, r2.see ok2, hk, k, rfl, ?_⟩
  cases k with
  | false => exact iteF ((Post.at (a := D.bl false) p5 rfl ok2) _ (.bl _))
  | true =>
    refine iteT ?_
    have s2 := s1.ext ok2 e2
    refine ⟨w2, env, ω, rfl, s2, (Post.bind (r := evE F gl env c w2.h) p5).mono (fun d3 w3 ok3 e3 p6 v3 r3 => ?_) fun _ _ _ _ h => h⟩
    obtain ⟨d4, h4, k4⟩ := p6.lifted
    obtain ⟨b, hb, rfl⟩ := Option.map_eq_some_iff.mp h4
    exact ⟨w3, _, _, b, rfl, ok3, (r2.ext ok2 e3).see ok3, r3.see ok3, hb, k4 w3 rfl ok3 (Ext.refl _) _ (.bl b)⟩
theorem t_chain {op op' : COp} (hK : X.K = G.K) (hu : X.A.units + 65 < cLine) (ha : PE X l (tE G B Wx F gl a)) (hb : PE X m (tE G B Wx F gl b)) (hc : PE X r (tE G B Wx F gl c)) (hr : plainB r = true) :
    PT X (.Compare l [cop op, cop op'] [m, r] pos) (tT G B Wx F gl (.chain op op' a b c)) := by
  refine PT.imp (pt_chain (opC_ok hK hu op) (opC_ok hK hu op') ha hb hc (plain_mark hr _)) fun σ H Q ⟨w, env, ω, e, s, p⟩ => ?_
  subst e
  have p := p.bind
  rw [evE] at p
  refine ⟨w, env, ω, rfl, s, p.bind.mono (fun d1 w1 ok1 e1 p2 v1 r1 => ?_) fun _ _ _ _ h => h⟩
  have s1 := s.ext ok1 e1
  refine ⟨w1, env, ω, rfl, s1, p2.bind.mono (fun d2 w2 ok2 e2 p3 v2 r2 => ?_) fun _ _ _ _ h => h⟩
  obtain ⟨k, hk, p4⟩ := p3.bind.lifted
  have p5 := p4 w2 rfl ok2 (Ext.refl _)
  refine ⟨w2, _, _, k, rfl, ok2, (r1.ext ok1 e2).see ok2, r2.see ok2, hk, k, rfl, ?_⟩
  cases k with
  | false => exact iteF ⟨false, rfl, Post.at (a := false) (Post.at (a := D.bl false) p5 rfl ok2) rfl ok2⟩
  | true =>
    refine iteT ?_
    have s2 := s1.ext ok2 e2
    refine ⟨w2, env, ω, rfl, s2, (Post.bind (r := evE F gl env c w2.h) p5).mono (fun d3 w3 ok3 e3 p6 v3 r3 => ?_) fun _ _ _ _ h => h⟩
    obtain ⟨d4, h4, k4⟩ := p6.lifted
    obtain ⟨b, hb, rfl⟩ := Option.map_eq_some_iff.mp h4
    exact ⟨w3, _, _, b, rfl, ok3, (r2.ext ok2 e3).see ok3, r3.see ok3, hb, b, rfl, Post.at (a := b) (k4 w3 rfl ok3 (Ext.refl _)) rfl ok3⟩
/-- plain truth -/
theorem t_truth (hK : X.K = G.K) (ht : tstB e = true) (h : PE X e (tE G B Wx F gl a)) : PT X e (tT G B Wx F gl a) := by
  refine PT.imp (pt_truth h (tst_plain ht _)) fun σ H Q ⟨w, env, ω, e, s, p⟩ => ?_
  subst e
  refine ⟨w, env, ω, rfl, s, p.bind.mono (fun d1 w1 ok1 e1 p2 v1 r1 => ?_) fun _ _ _ _ h => h⟩
  obtain ⟨b, hb, k⟩ := p2.lifted
  refine ⟨b, ?_, k w1 rfl ok1 (Ext.refl _)⟩
  rw [hK]
  exact truth_v (r1.see ok1) hb
theorem e_not (hK : X.K = G.K) (h : PE X l (tE G B Wx F gl a)) : PE X (.UnaryOp .Not l pos) (tE G B Wx F gl (.not a)) := by
  refine PE.imp (pe_notT h) fun σ H Q ⟨w, env, ω, e, s, p⟩ => ?_
  subst e
  rw [evE] at p
  refine ⟨w, env, ω, rfl, s, p.bind.bind.mono (fun d1 w1 ok1 e1 p2 v1 r1 => ?_) fun _ _ _ _ h => h⟩
  obtain ⟨b, hb, k⟩ := p2.lifted
  refine ⟨b, ?_, (Post.at (a := D.bl (!b)) (k w1 rfl ok1 (Ext.refl _)) rfl ok1) _ (.bl _)⟩
  rw [hK]
  exact truth_v (r1.see ok1) hb
theorem t_not (h : PT X l (tT G B Wx F gl a)) : PT X (.UnaryOp .Not l pos) (tT G B Wx F gl (.not a)) := by
  refine PT.imp (pt_not h) fun σ H Q ⟨w, env, ω, e, s, p⟩ => ?_
  subst e
  have p := p.bind
  rw [evE] at p
  refine ⟨w, env, ω, rfl, s, p.bind.mono (fun b w1 ok1 e1 p2 => ?_) fun _ _ _ _ h => h⟩
  exact Post.at (a := !b) (Post.at (a := D.bl (!b)) p2 rfl ok1) rfl ok1
theorem e_ife (ht : PT X l (tT G B Wx F gl a)) (h1 : PE X m (tE G B Wx F gl b)) (h2 : PE X r (tE G B Wx F gl c)) : PE X (.IfExp l m r pos) (tE G B Wx F gl (.ife a b c)) := by
  refine PE.imp (pe_ifExp ht h1 h2) fun σ H Q ⟨w, env, ω, e, s, p⟩ => ?_
  subst e
  rw [evE] at p
  refine ⟨w, env, ω, rfl, s, p.bind.mono (fun k w1 ok1 e1 p2 => ?_) fun _ _ _ _ h => h⟩
  cases k with
  | true => exact iteT ⟨w1, env, ω, rfl, s.ext ok1 e1, p2⟩
  | false => exact iteF ⟨w1, env, ω, rfl, s.ext ok1 e1, p2⟩
theorem e_tup {j} (h : PA X es (tEs G B Wx F gl as)) : PE X (.Tuple es j pos) (tE G B Wx F gl (.tup as)) := by
  refine PE.imp (pe_tup h) fun σ H Q ⟨w, env, ω, e, s, p⟩ => ?_
  subst e
  rw [evE] at p
  refine ⟨w, env, ω, rfl, s, p.bind.mono (fun ds w1 ok1 e1 p2 vs rs => ?_) fun _ _ _ _ h => h⟩
  by_cases hz : ds.length ≤ LIM
  · simp only [hz, if_true] at p2
    exact ⟨by rw [← rs.length]; exact hz, Ends1.tup (fun w' v eh ok e r => p2 w' eh ok e v r) ok1 rs⟩
  · simp only [hz, if_false] at p2
    exact p2.elim
theorem e_lst (h : PA X es (tEs G B Wx F gl as)) : PE X (.List es pos) (tE G B Wx F gl (.lst as)) := by
  refine PE.imp (pe_lst h) fun σ H Q ⟨w, env, ω, e, s, p⟩ => ?_
  subst e
  rw [evE] at p
  refine ⟨w, env, ω, rfl, s, p.bind.mono (fun ds w1 ok1 e1 p2 vs rs => ?_) fun _ _ _ _ h => h⟩
  by_cases hz : ds.length ≤ LIM
  · simp only [hz, if_true] at p2
    exact ⟨by rw [← rs.length]; exact hz, Ends1.lst (fun w' v eh ok e r => p2 w' eh ok e v r) ok1 rs⟩
  · simp only [hz, if_false] at p2
    exact p2.elim
theorem e_sub (hK : X.K = G.K) (ha : PE X l (tBa G B Wx F gl a)) (hb : PE X r (tE G B Wx F gl b)) (hr : plainB r = true) : PE X (.Subscript l r pos) (tE G B Wx F gl (.sub a b)) := by
  refine PE.imp (pe_ix (sub_ok hK) ha hb (plain_ix hr)) fun σ H Q ⟨w, env, ω, e, s, p⟩ => ?_
  subst e
  rw [evE] at p
  refine ⟨w, env, ω, rfl, s, p.bind.mono (fun d1 w1 ok1 e1 p2 v1 r1 => ?_) fun _ _ _ _ h => h⟩
  have s1 := s.ext ok1 e1
  refine ⟨w1, env, ω, rfl, s1, p2.bind.mono (fun d2 w2 ok2 e2 p3 v2 r2 => ?_) fun _ _ _ _ h => h⟩
  obtain ⟨d3, h3, k⟩ := p3.lifted
  have r2' := r2.see ok2
  refine ⟨w2, _, d2, d3, rfl, ok2, (r1.ext ok1 e2).see ok2, ?_, h3, fun w' v eh ok e r => k w' eh ok e v r⟩
  cases r2 with
  | int i => exact .int i
  | _ => exfalso; revert h3; unfold subD; split <;> simp_all
theorem e_slice (hK : X.K = G.K) {lo hi : CO} {u v : Option Expr} {p2 : Pos} (ha : PE X l (tBa G B Wx F gl a)) (h1 : PO X u (tO G B Wx F gl lo)) (h2 : PO X v (tO G B Wx F gl hi)) :
    PE X (.Subscript l (.Slice u v none p2) pos) (tE G B Wx F gl (.slice a lo hi)) := by
  refine PE.imp (pe_slice (slice_ok hK) ha h1 h2) fun σ H Q ⟨w, env, ω, e, s, p⟩ => ?_
  subst e
  rw [evE] at p
  refine ⟨w, env, ω, rfl, s, p.bind.mono (fun d1 w1 ok1 e1 p2 v1 r1 => ?_) fun _ _ _ _ h => h⟩
  have s1 := s.ext ok1 e1
  refine ⟨w1, env, ω, rfl, s1, p2.bind.mono (fun l w2 ok2 e2 p3 => ?_) fun _ _ _ _ h => h⟩
  have s2 := s1.ext ok2 e2
  refine ⟨w2, env, ω, rfl, s2, p3.bind.mono (fun u w3 ok3 e3 p4 => ?_) fun _ _ _ _ h => h⟩
  obtain ⟨d3, h3, k⟩ := p4.lifted
  exact ⟨w3, _, d3, rfl, ok3, ((r1.ext ok1 e2).ext ok2 e3).see ok3, h3, fun w' v eh ok e r => k w' eh ok e v r⟩
theorem o_none : PO X none (tO G B Wx F gl .none) := PO.imp po_none fun σ H Q ⟨w, env, ω, e, s, p⟩ => by
  subst e
  rw [evO] at p
  exact Post.now p s.ok
theorem o_some (h : PE X e (tE G B Wx F gl a)) : PO X (some e) (tO G B Wx F gl (.some a)) := PO.imp (po_some h) fun σ H Q ⟨w, env, ω, e, s, p⟩ => by
  subst e
  rw [evO] at p
  refine ⟨w, env, ω, rfl, s, p.bind.mono (fun d1 w1 ok1 e1 p2 v1 r1 => ?_) fun _ _ _ _ h => h⟩
  cases r1 with
  | int i => exact ⟨i, rfl, Post.at (a := some i) p2 rfl ok1⟩
  | _ => exact p2.elim
theorem a_nil : PA X [] (tEs G B Wx F gl .nil) := PA.imp pa_nil fun σ H Q ⟨w, env, ω, e, s, p⟩ => by
  subst e
  rw [evEs] at p
  exact Post.now p s.ok _ .nil
theorem a_cons (hp : plainB e = true) (h : PE X e (tE G B Wx F gl a)) (hs : PA X es (tEs G B Wx F gl as)) : PA X (e :: es) (tEs G B Wx F gl (.cons a as)) := PA.imp (pa_cons h hs (star_one hp _ _)) fun σ H Q ⟨w, env, ω, e, s, p⟩ => by
  subst e
  rw [evEs] at p
  refine ⟨w, env, ω, rfl, s, p.bind.mono (fun d1 w1 ok1 e1 p2 v1 r1 => ?_) fun _ _ _ _ h => h⟩
  have s1 := s.ext ok1 e1
  refine ⟨w1, env, ω, rfl, s1, p2.bind.mono (fun ds w2 ok2 e2 p3 vs rs => ?_) fun _ _ _ _ h => h⟩
  exact (Post.at (a := d1 :: ds) p3 rfl ok2) _ (.cons (r1.ext ok1 e2) rs)
theorem a_star (hK : X.K = G.K) (h : PE X e (tE G B Wx F gl a)) (hs : PA X es (tEs G B Wx F gl as)) : PA X (.Starred e p :: es) (tEs G B Wx F gl (.star a as)) := PA.imp (StX.pa_star h hs) fun σ H Q ⟨w, env, ω, e, s, p⟩ => by
  subst e
  rw [evEs] at p
  refine ⟨w, env, ω, rfl, s, p.bind.mono (fun d1 w1 ok1 e1 p2 v1 r1 => ?_) fun _ _ _ _ h => h⟩
  have s1 := s.ext ok1 e1
  obtain ⟨ds, hd, p3⟩ := p2.bind.lifted
  have p3 := p3 w1 rfl ok1 (Ext.refl _)
  have q := r1.see ok1
  revert hd q
  generalize see w1.h d1 = z
  intro hd q
  have fin : ∀ (a : Addr) (vs : List V), v1 = .ref a → (SqT X.K w1.H a vs ∨ SqL X.K w1.H a vs) → Reps G w1 ds vs → ∃ p xs, v1 = V.ref p ∧ (SqT X.K w1.H p xs ∨ SqL X.K w1.H p xs) ∧ tEs G B Wx F gl as σ w1.H fun ys H2 => Q (xs ++ ys) H2 := by
    intro a vs e1 hs rs
    refine ⟨a, vs, e1, hs, w1, env, ω, rfl, s1, (Post.bind p3).mono (fun ds2 w2 ok2 e2 p4 vs2 rs2 => ?_) fun _ _ _ _ h => h⟩
    exact (Post.at (a := ds ++ ds2) p4 rfl ok2) _ ((rs.ext ok1 e2).append rs2)
  cases q with
  | lst h r => cases hd; rw [← hK] at h; exact fin _ _ rfl (.inr h) r
  | tup h r => cases hd; rw [← hK] at h; exact fin _ _ rfl (.inl h) r
  | _ => cases hd
theorem bs_nil : PA X [] (tBs G B Wx F gl .nil) := PA.imp pa_nil fun σ H Q ⟨w, env, ω, e, s, p⟩ => by
  subst e
  rw [evBs] at p
  exact Post.now p s.ok _ .nil
theorem bs_cons (hp : plainB e = true) (h : PE X e (tBa G B Wx F gl a)) (hs : PA X es (tBs G B Wx F gl as)) : PA X (e :: es) (tBs G B Wx F gl (.cons a as)) := PA.imp (pa_cons h hs (star_one hp _ _)) fun σ H Q ⟨w, env, ω, e, s, p⟩ => by
  subst e
  rw [evBs] at p
  refine ⟨w, env, ω, rfl, s, p.bind.mono (fun d1 w1 ok1 e1 p2 v1 r1 => ?_) fun _ _ _ _ h => h⟩
  have s1 := s.ext ok1 e1
  refine ⟨w1, env, ω, rfl, s1, p2.bind.mono (fun ds w2 ok2 e2 p3 vs rs => ?_) fun _ _ _ _ h => h⟩
  exact (Post.at (a := d1 :: ds) p3 rfl ok2) _ (.cons (r1.ext ok1 e2) rs)
end
end Rf
set_option Elab.async false
set_option linter.all false
set_option maxRecDepth 100000
set_option maxHeartbeats 4000000
/-! G10: calls, comprehensions -/
namespace Rf
open PySem L2 PySem.Spec PyProof.Rows
section
variable {G : Gm} {B : Bs} {w w1 w' : W} {a : Addr} {o u : HO}
/-- an object that is ours alone is changed -/
def W.mut (w : W) (a : Addr) (o : HO) : W := ⟨w.Z, w.ι, w.h, upd w.H a o⟩
theorem W.mut_le (nz : ¬ w.Z a) (h : w.H a = some u) (su : Soft u) : Le w (w.mut a o) where
  z := fun _ z => z
  ι := fun _ _ => rfl
  len := Nat.le_refl _
  kz := fun b x z hb => by
    show upd w.H a o b = some x
    rw [upd_ne (fun q : b = a => nz (by rw [← q]; exact z))]
    exact hb
  kn := fun b x ns hb => by
    show upd w.H a o b = some x
    rw [upd_ne (fun q => by rw [q, h] at hb; cases hb; exact ns su)]
    exact hb
theorem ObAt.le_ne {b : Addr} {ob : Ob} (h : ObAt G w b ob) (le : Le w w') (e : w'.H b = w.H b) : ObAt G w' b ob := by
  cases h with
  | lst h r => exact .lst (e.trans h) (r.le le)
  | dk h r => exact .dk (e.trans h) (r.le le)
  | dt h r => exact .dt (e.trans h) (r.le le)
  | ins hc h r => exact .ins hc (e.trans h) (r.le le)
theorem W.mut_ok (ok : WOk G w) (nz : ¬ w.Z a) (nl : ¬ w.live a) (h : w.H a = some u) (su : Soft u) : WOk G (w.mut a o) := by
  refine ⟨fun i ob hi => ?_, ok.inj, fun b z => ?_⟩
  · obtain ⟨h1, h2⟩ := ok.cell i ob hi
    have ne : w.ι i ≠ a := fun q => nl ⟨i, ob, hi, q⟩
    exact ⟨h1.le_ne (W.mut_le nz h su) (by show upd w.H a o (w.ι i) = _; rw [upd_ne ne] <;> rfl), h2⟩
  · obtain ⟨x, hx⟩ := ok.zin b z
    exact ⟨x, by show upd w.H a o b = some x; rw [upd_ne (fun q : b = a => nz (by rw [← q]; exact z))]; exact hx⟩
theorem W.mut_ext {B : W} (be : Ext B w) (hb : B.H a = none) : Ext B (w.mut a o) where
  z := be.z
  zn := be.zn
  ι := be.ι
  len := be.len
  lv := be.lv
  fresh := be.fresh
  keep := fun b x h nl => by
    show upd w.H a o b = some x
    rw [upd_ne (ne_of_none h hb)]
    exact be.keep b x h nl
  dom := fun b h => by
    have h' : upd w.H a o b = none := h
    by_cases q : b = a
    · rw [q]; exact hb
    · rw [upd_ne q] at h'; exact be.dom b h'
/-- an object of ours is frozen -/
def W.fz (w : W) (a : Addr) : W := ⟨fun b => w.Z b ∨ b = a, w.ι, w.h, w.H⟩
theorem W.fz_le : Le w (w.fz a) := ⟨fun _ z => .inl z, fun _ _ => rfl, Nat.le_refl _, fun _ _ _ h => h, fun _ _ _ h => h⟩
theorem W.fz_ok (ok : WOk G w) (nl : ¬ w.live a) (h : w.H a = some u) : WOk G (w.fz a) := by
  refine ⟨fun i ob hi => ?_, ok.inj, fun b z => ?_⟩
  · obtain ⟨h1, h2⟩ := ok.cell i ob hi
    refine ⟨h1.le_ne W.fz_le rfl, fun z => ?_⟩
    rcases z with z | z
    · exact h2 z
    · exact nl ⟨i, ob, hi, z⟩
  · rcases z with z | rfl
    · exact ok.zin b z
    · exact ⟨u, h⟩
theorem W.fz_ext {B : W} (be : Ext B w) (hb : B.H a = none) : Ext B (w.fz a) where
  z := fun b z => .inl (be.z b z)
  zn := fun b z => by
    rcases z with z | rfl
    · exact be.zn b z
    · exact .inr (.inl hb)
  ι := be.ι
  len := be.len
  lv := be.lv
  fresh := be.fresh
  keep := be.keep
  dom := be.dom
/-- a new tracked object that is ours -/
theorem W.new_ok (ok : WOk G w) (h : w.H a = none) : WOk G (w.mut a o) ∧ Ext w (w.mut a o) ∧ ¬ w.Z a ∧ ¬ w.live a := by
  have nz : ¬ w.Z a := fun z => by
    obtain ⟨x, hx⟩ := ok.zin a z
    rw [h] at hx; cases hx
  have nl : ¬ w.live a := fun l => by
    obtain ⟨⟨u, hu, _⟩, _⟩ := ok.soft l
    rw [h] at hu; cases hu
  have ex : Ext w (w.mut a o) := W.mut_ext (Ext.refl w) h
  refine ⟨⟨fun i ob hi => ?_, ok.inj, fun b z => ?_⟩, ex, nz, nl⟩
  · obtain ⟨h1, h2⟩ := ok.cell i ob hi
    exact ⟨h1.le_ne (ex.le ok) (by show upd w.H a o (w.ι i) = _; rw [upd_ne (fun q => nl ⟨i, ob, hi, q⟩)] <;> rfl), h2⟩
  · obtain ⟨x, hx⟩ := ok.zin b z
    exact ⟨x, by show upd w.H a o b = some x; rw [upd_ne (fun q : b = a => nz (by rw [← q]; exact z))]; exact hx⟩
theorem EnvOk.le {env : En} {σ : List (Option V)} {ω : Nat → Addr} (x : EnvOk G B w env σ ω) (le : Le w w') (hk : ∀ (i : Nat) (ob : Ob), env[i]? = some (Sl.own ob) → w'.H (ω i) = w.H (ω i) ∧ ¬ w'.Z (ω i) ∧ ¬ w'.live (ω i)) : EnvOk G B w' env σ ω where
  len := x.len
  vals := fun i d h => by
    obtain ⟨v, hv, r⟩ := x.vals i d h
    exact ⟨v, hv, r.le le⟩
  own := fun i ob h => by
    obtain ⟨h1, h2, h3, h4, h5⟩ := x.own i ob h
    obtain ⟨k1, k2, k3⟩ := hk i ob h
    exact ⟨h1, h2.le_ne le k1, k2, k3, h5⟩
  inj := x.inj
  mine := x.mine
/-- slots beside an object of ours -/
theorem Stt.mut {env : En} {σ : List (Option V)} {ω : Nat → Addr} (s : Stt G B w env σ ω) (nz : ¬ w.Z a) (nl : ¬ w.live a) (h : w.H a = some u) (su : Soft u) (hb : B.H a = none) (hn : ∀ (i : Nat) (ob : Ob), env[i]? = some (Sl.own ob) → ω i ≠ a) : Stt G B (w.mut a o) env σ ω :=
  ⟨W.mut_ok s.ok nz nl h su, W.mut_ext s.be hb, s.eo.le (W.mut_le nz h su) fun i ob hi => by
    obtain ⟨h1, h2, h3, h4, h5⟩ := s.eo.own i ob hi
    exact ⟨by show upd w.H a o (ω i) = _; rw [upd_ne (hn i ob hi)], h3, h4⟩⟩
end

/-! ### targets -/
def setsV (σ : List (Option V)) : List Nat → List V → List (Option V)
  | i :: is, v :: vs => setsV (σ.set i (some v)) is vs
  | _, _ => σ
def gTg (K : PySem.W.Frag) : Tg → TG
  | .name i => gName i
  | .tup is => fun v σ H Q => ∃ a vs, v = .ref a ∧ SqT K H a vs ∧ vs.length = is.length ∧ Q (setsV σ is vs) H
section
variable {G : Gm} {B : Bs} {w w' : W} {Wx : WX} {F : FTab} {gl : Nat → Option D} {C : Ck} {n : Nat} {sc lsc : Scope} {X : Cx} {env env' : En} {σ : List (Option V)} {ω : Nat → Addr}
  {l m r e : Expr} {es : List Expr} {a b c : CE} {as : CEs} {pos p : Pos} {x : Str}
theorem g_name {i : Nat} (ok : XOk G C gl F n sc lsc X) (h : ckNm C lsc i e = true) : PG X e (gName i) ∧ (∀ env, assignEach (e :: es) env = (false, assign e env) :: assignEach es env) := by
  cases e <;> first | cases h | skip
  rename_i x p
  have h' : (C.N[i]? == some x && isLoc lsc x) = true := h
  rw [Bool.and_eq_true, beq_iff_eq] at h'
  refine ⟨pg_name (by rw [ok.N]; exact ok.nd) (by rw [ok.N]; exact h'.1) (ok.fnl x h'.2).1 (ok.fnl x h'.2).2, fun _ => rfl⟩
theorem g_names (ok : XOk G C gl F n sc lsc X) : ∀ {is : List Nat} {es : List Expr}, ckNms C lsc is es = true → PGs X es (fun vs σ H Q => vs.length = is.length ∧ Q (setsV σ is vs) H) ∧
    (assignEach es X.env).length = is.length ∧ (assignEach es X.env).findIdx? (·.1) = none
  | [], [], _ => ⟨⟨fun pins s σ H vs us Q I r h => pgs_nil.run pins s σ H vs us Q I r ⟨List.length_eq_zero_iff.mp h.1, by
      have e := List.length_eq_zero_iff.mp h.1
      subst e
      exact h.2⟩⟩, rfl, rfl⟩
  | [], _ :: _, h => by cases h
  | _ :: _, [], h => by cases h
  | i :: is, e :: es, h => by
    have h' : (ckNm C lsc i e && ckNms C lsc is es) = true := h
    rw [Bool.and_eq_true] at h'
    obtain ⟨h1, h2⟩ := g_name (es := es) ok h'.1
    obtain ⟨k1, k2, k3⟩ := g_names ok h'.2
    refine ⟨⟨fun pins s σ H vs us Q I r q => (pgs_cons h1 k1 (by rw [h2]; rfl)).run pins s σ H vs us Q I r ?_⟩, by rw [h2, List.length_cons, k2, List.length_cons], by
      rw [h2, List.findIdx?_cons, k3]
      rfl⟩
    obtain ⟨q1, q2⟩ := q
    cases vs with
    | nil => cases q1
    | cons v vs => exact ⟨v, vs, rfl, by simpa using q1, q2⟩
theorem g_tg {t : Tg} (ok : XOk G C gl F n sc lsc X) (h : ckTg C lsc t e = true) : PG X e (gTg G.K t) := by
  cases t with
  | name i => exact (g_name (es := []) ok h).1
  | tup is =>
    cases e <;> first | cases h | skip
    rename_i es j pos
    have h' : (C.calm && ckNms C lsc is es) = true := h
    rw [Bool.and_eq_true] at h'
    obtain ⟨k1, k2, k3⟩ := g_names ok h'.2
    refine PG.imp (pg_tup (ok.calm h'.1) k1 k2 k3) fun v σ H Q q => ?_
    obtain ⟨a, vs, e1, e2, e3, e4⟩ := q
    rw [ok.K]
    exact ⟨a, vs, e1, e2, e3, e3, e4⟩
/-- the target's data -/
theorem sets_ok : ∀ {is : List Nat} {ds : List D} {vs : List V} {env : En} {σ : List (Option V)}, Reps G w ds vs → EnvOk G B w env σ ω → EnvOk G B w ((is.zip ds).foldl (fun e p => e.set p.1 (.val p.2)) env) (setsV σ is vs) ω
  | [], _, _, _, _, _, x => by
    rw [List.zip_nil_left]
    unfold setsV
    exact x
  | i :: is, [], _, _, _, .nil, x => x
  | i :: is, d :: ds, v :: vs, env, σ, .cons r rs, x => by
    rw [List.zip_cons_cons, List.foldl_cons]
    exact sets_ok rs (x.set r)
theorem bind_ok {t : Tg} {d : D} {v : V} (x : EnvOk G B w env σ ω) (r : Rep G w d v) (h : bindT t d env = some env') {Q : List (Option V) → Hp → Prop} (q : ∀ σ', EnvOk G B w env' σ' ω → (match t with | .name i => σ' = σ.set i (some v) | .tup is => ∃ vs, σ' = setsV σ is vs) → Q σ' w.H) : gTg G.K t v σ w.H Q := by
  cases t with
  | name i =>
    cases h
    exact q _ (x.set r) rfl
  | tup is =>
    unfold bindT at h
    cases r with
    | tup hs rs =>
      rename_i a vs ds
      simp only at h
      split at h
      · rename_i hl
        cases h
        rw [beq_iff_eq] at hl
        exact ⟨a, vs, rfl, hs, by rw [← rs.length]; exact hl, q _ (sets_ok rs x) ⟨vs, rfl⟩⟩
      · cases h
    | _ => cases h
theorem wipe_get (σ : List (Option V)) : ∀ (own : List Nat) (j : Nat), (L2.wipe σ own)[j]? = if j ∈ own then σ[j]?.map (fun _ => none) else σ[j]?
  | [], j => by simp [L2.wipe]
  | i :: is, j => by
    unfold L2.wipe
    rw [List.getElem?_set, wipe_get σ is j]
    by_cases q : i = j
    · subst q
      have hl : (L2.wipe σ is).length = σ.length := L2.wipe_length σ is
      simp only [if_true, List.mem_cons, true_or]
      by_cases hi : i < σ.length
      · rw [if_pos (by rw [hl]; exact hi)]
        simp [List.getElem?_eq_getElem hi]
      · rw [if_neg (by rw [hl]; exact hi)]
        simp [List.getElem?_eq_none (Nat.le_of_not_lt hi)]
    · rw [if_neg q]
      by_cases h : j ∈ is
      · simp [h]
      · simp [h, Ne.symm q]
theorem wipe_set {own : List Nat} {i : Nat} {v : Option V} (σ : List (Option V)) (h : i ∈ own) : L2.wipe (σ.set i v) own = L2.wipe σ own := by
  apply List.ext_getElem?
  intro j
  rw [wipe_get, wipe_get]
  by_cases hj : j ∈ own
  · rw [if_pos hj, if_pos hj, List.getElem?_set]
    by_cases q : i = j
    · subst q
      rw [if_pos rfl]
      by_cases hi : i < σ.length
      · simp [hi]
      · simp [hi]
    · rw [if_neg q]
  · rw [if_neg hj, if_neg hj, List.getElem?_set_ne (fun q : i = j => hj (by rw [← q]; exact h))]
theorem wipe_idem (σ : List (Option V)) (own : List Nat) : L2.wipe (L2.wipe σ own) own = L2.wipe σ own := by
  apply List.ext_getElem?
  intro j
  rw [wipe_get, wipe_get]
  by_cases hj : j ∈ own
  · simp [hj, Function.comp_def]
  · simp [hj]
theorem wipe_sets {own : List Nat} : ∀ {is : List Nat} {vs : List V} {σ : List (Option V)}, (∀ i ∈ is, i ∈ own) → L2.wipe (setsV σ is vs) own = L2.wipe σ own
  | [], vs, σ, _ => by unfold setsV; rfl
  | i :: is, [], σ, _ => by unfold setsV; rfl
  | i :: is, v :: vs, σ, h => by
    unfold setsV
    rw [wipe_sets fun j hj => h j (List.mem_cons_of_mem _ hj), wipe_set _ (h i List.mem_cons_self)]
end
end Rf
set_option Elab.async false
set_option linter.all false
set_option maxRecDepth 100000
set_option maxHeartbeats 4000000
/-! G11: iterators, comprehensions, calls, and/or -/
namespace Rf
open PySem L2 PySem.Spec PyProof.Rows
section
variable {G : Gm} {B : Bs} {w w1 w' : W} {Wx : WX} {F : FTab} {gl : Nat → Option D} {C : Ck} {n : Nat} {sc lsc : Scope} {X : Cx} {env env' : En} {σ : List (Option V)} {ω : Nat → Addr}
  {l m r e tg : Expr} {es : List Expr} {a b c : CE} {as : CEs} {pos p : Pos} {x : Str}
/-! ### iterators -/
def iSeq (K : PySem.W.Frag) (tl : TE) : TI := fun σ H R => tl σ H fun x H1 => ∃ a, x = .ref a ∧ (((∃ xs, SqL K H1 a xs) ∧ R (Itl K a) H1) ∨ ((∃ xs, SqT K H1 a xs) ∧ R (Itt K a) H1))
theorem pi_seq {l : Expr} {tl : TE} (hl : PE X l tl) : PI X tg l (iSeq X.K tl) := by
  refine ⟨fun pins s σ H R I h => ?_⟩
  refine thn (hl.run pins s σ H _ I h) fun v s1 ⟨x, H1, I1, r1, q1⟩ => ?_
  obtain ⟨a, e, ⟨⟨xs, hq⟩, q⟩ | ⟨⟨xs, hq⟩, q⟩⟩ := q1
  · subst e
    cases r1
    obtain ⟨its, rv, p, hz⟩ := I1.list hq
    refine wpAny_pyIter_list p.isList ?_
    refine ⟨s1.heap.objs.size, [s1.heap.objs.size], _, _, H1, rfl, I1.kept (t' := s1.toks) fun b o e => Heap.get?_push_of_some _ e, turn_list a _, ⟨_, Heap.get?_push_size _ rfl, rfl, rfl⟩, fun b hb => ?_, q⟩
    have e : b = s1.heap.objs.size := by simpa using hb
    subst e
    exact I1.fpOk (Nat.le_refl _) (I1.hok.fresh (Nat.le_refl _))
  · subst e
    cases r1
    obtain ⟨its, rv, p, hz⟩ := I1.tuple hq
    refine wpAny_pyIter_tuple (show s1.heap.IsTuple a its.toArray from p) ?_
    refine ⟨s1.heap.objs.size, [s1.heap.objs.size], _, _, H1, rfl, I1.kept (t' := s1.toks) fun b o e => Heap.get?_push_of_some _ e, turn_tuple a _, ⟨_, Heap.get?_push_size _ rfl, rfl, rfl⟩, fun b hb => ?_, q⟩
    have e : b = s1.heap.objs.size := by simpa using hb
    subst e
    exact I1.fpOk (Nat.le_refl _) (I1.hok.fresh (Nat.le_refl _))
theorem i_of (hK : X.K = G.K) (h : PE X l (tE G B Wx F gl a)) : PI X tg l (tI G B Wx F gl (.of a)) := PI.imp (pi_seq h) fun σ H R ⟨w, env, ω, e, s, p⟩ => by
  subst e
  rw [evI] at p
  refine ⟨w, env, ω, rfl, s, p.bind.mono (fun d1 w1 ok1 e1 p2 v1 r1 => ?_) fun _ _ _ _ h => h⟩
  obtain ⟨ds, hd, k⟩ := p2.lifted
  have k := k w1 rfl ok1 (Ext.refl _)
  cases r1 with
  | lst h r =>
    cases hd
    rename_i ad vs
    refine ⟨_, rfl, .inl ⟨⟨_, by rw [hK]; exact h.sq⟩, k _ ⟨vs, _, r, walk_list, fun w' le => by rw [hK]; exact (le.fzl h).sq⟩⟩⟩
  | tup h r =>
    cases hd
    rename_i ad vs
    refine ⟨_, rfl, .inr ⟨⟨_, by rw [hK]; exact h⟩, k _ ⟨vs, _, r, walk_tup, fun w' le => by rw [hK]; exact le.tup h⟩⟩⟩
  | _ => cases hd
theorem reps_ints (f : Nat → Int) : ∀ l : List Nat, Reps G w (l.map fun k => D.int (f k)) (l.map fun k => V.int (f k))
  | [] => .nil
  | k :: l => .cons (.int _) (reps_ints f l)
theorem rng_it {lo hi : Int} {ds : List D} (h : rngD lo hi = some ds) : (-(2 ^ 62) ≤ lo ∧ lo < 2 ^ 62 ∧ -(2 ^ 62) ≤ hi ∧ hi < 2 ^ 62) ∧ ItOk G w ds (Itr lo (hi - lo).toNat) := by
  unfold rngD at h
  split at h
  · rename_i hb
    cases h
    simp only [Bool.and_eq_true, decide_eq_true_eq] at hb
    refine ⟨by omega, (List.range (hi - lo).toNat).map (fun (k : Nat) => V.int (lo + k)), fun _ => True, reps_ints (fun k => lo + k) _, ?_, fun _ _ => trivial⟩
    have wk := walk_range (lo := lo) (n := (hi - lo).toNat)
    rw [show ((List.range (hi - lo).toNat).map (fun (k : Nat) => V.int (lo + k))).length = (hi - lo).toNat by simp]
    exact wk.mono (fun _ h => h) fun i H x H' hi _ y => ⟨y.1, by rw [y.2]; simp [hi]⟩
  · cases h
theorem i_rng1 (ok : XOk G C gl F n sc lsc X) (hg : isGl sc "range" = true) (hp : plainB l = true) (h : PE X l (tE G B Wx F gl a)) : PI X tg (.Call (.Name "range" p) [l] [] pos) (tI G B Wx F gl (.rng1 a)) := by
  obtain ⟨g1, g2⟩ := gl_of hg ok.hsc
  refine PI.imp (pi_range1 g1 (ok.blt _ (by simp [names0])) (pa_cons h pa_nil (star_one hp _ _)) (star_one hp _ _)) fun σ H R ⟨w, env, ω, e, s, p⟩ => ?_
  subst e
  rw [evI] at p
  refine ⟨w, env, ω, rfl, s, p.bind.mono (fun d1 w1 ok1 e1 p2 v1 r1 => ?_) fun _ _ _ _ h => h⟩
  cases r1 with
  | int j =>
    obtain ⟨ds, hd, k⟩ := p2.lifted
    obtain ⟨hb, it⟩ := rng_it (G := G) (w := w1) hd
    refine ⟨j, rfl, hb.2.2.1, hb.2.2.2, ?_⟩
    have q := k w1 rfl ok1 (Ext.refl _) _ it
    rw [Int.sub_zero] at q
    exact q
  | _ => exact p2.elim
theorem i_rng2 (ok : XOk G C gl F n sc lsc X) (hg : isGl sc "range" = true) (hp : plainB l = true) (hp2 : plainB r = true) (h : PE X l (tE G B Wx F gl a)) (h2 : PE X r (tE G B Wx F gl b)) : PI X tg (.Call (.Name "range" p) [l, r] [] pos) (tI G B Wx F gl (.rng2 a b)) := by
  obtain ⟨g1, g2⟩ := gl_of hg ok.hsc
  refine PI.imp (pi_range2 g1 (ok.blt _ (by simp [names0])) (pa_cons h (pa_cons h2 pa_nil (star_one hp2 _ _)) (star_one hp _ _)) (by rw [star_one hp, star_one hp2]; rfl) (star_one hp2 _ _)) fun σ H R ⟨w, env, ω, e, s, p⟩ => ?_
  subst e
  rw [evI] at p
  refine ⟨w, env, ω, rfl, s, p.bind.mono (fun d1 w1 ok1 e1 p2 v1 r1 => ?_) fun _ _ _ _ h => h⟩
  refine ⟨w1, env, ω, rfl, s.ext ok1 e1, p2.bind.mono (fun d2 w2 ok2 e2 p3 v2 r2 => ?_) fun _ _ _ _ h => h⟩
  cases r1 with
  | int i =>
    cases r2 with
    | int j =>
      obtain ⟨ds, hd, k⟩ := p3.lifted
      obtain ⟨hb, it⟩ := rng_it (G := G) (w := w2) hd
      exact ⟨i, j, rfl, hb, k w2 rfl ok2 (Ext.refl _) _ it⟩
    | _ => exact p3.elim
  | _ => cases r2 <;> exact p3.elim

/-! ### a list comprehension -/
def lcF (F : FTab) (gl : Nat → Option D) (env : En) (own : List Nat) (t : Tg) (elt : CE) (cond : CO) : D → Cells → Res (Option D) := fun d h => match bindT t d (wipeE env own) with
  | some env' => (evC F gl env' cond h).bind fun b h => if b then (evE F gl env' elt h).bind fun x h => .ok (some x) h else .ok none h
  | none => .bad
def lcPut (o : Option D) (r : List D) : List D := match o with
  | some x => x :: r
  | none => r
theorem lcGo_cons {f : D → Cells → Res (Option D)} {d : D} {ds r : List D} {h h' : Cells} (q : lcGo f (d :: ds) h = .ok r h') : ∃ o h3 r4, f d h = .ok o h3 ∧ lcGo f ds h3 = .ok r4 h' ∧ r = lcPut o r4 := by
  unfold lcGo at q
  cases hfd : f d h with
  | bad => rw [hfd] at q; cases q
  | exc x h => rw [hfd] at q; cases q
  | ok o h3 =>
    rw [hfd] at q
    cases h4 : lcGo f ds h3 with
    | bad => simp only [h4] at q; cases q
    | exc x h => simp only [h4] at q; cases q
    | ok r4 hh =>
      simp only [h4] at q
      cases q
      exact ⟨o, h3, r4, rfl, h4, rfl⟩
theorem lcGo_exc {f : D → Cells → Res (Option D)} {x : Exn} {h' : Cells} : ∀ {ds : List D} {h : Cells}, lcGo f ds h ≠ .exc x h'
  | [], h, q => by cases q
  | d :: ds, h, q => by
    unfold lcGo at q
    cases hfd : f d h with
    | bad => rw [hfd] at q; cases q
    | exc x h => rw [hfd] at q; cases q
    | ok o h3 =>
      rw [hfd] at q
      cases h4 : lcGo f ds h3 with
      | bad => simp only [h4] at q; cases q
      | exc x h => simp only [h4] at q; cases q
      | ok r4 hh => simp only [h4] at q; cases q
/-- a new list that is ours -/
def PostN (G : Gm) (w : W) (r : Res D) (Q : VK) (E : Exn → W → Prop) : Prop := match r with
  | .ok (.lst rr) h' => ∀ w2 D0 acc, w2.h = h' → WOk G w2 → Ext w w2 → w.H D0 = none → w2.H D0 = some (.lst acc) → Reps G w2 rr acc → ¬ w2.Z D0 → ¬ w2.live D0 → Q (.ref D0) w2.H
  | .ok _ _ => False
  | .exc x h' => ∀ w', w'.h = h' → WOk G w' → Ext w w' → E x w'
  | .bad => False
/-- .. frozen at once -/
theorem PostN.of {r : Res D} {Q : VK} {E : Exn → W → Prop} (p : Post G w r (fun d w' => ∀ v, Rep G w' d v → Q v w'.H) E) (hr : ∀ d h, r = .ok d h → ∃ rr, d = .lst rr) : PostN G w r Q E := by
  cases r with
  | bad => exact p
  | exc x h => exact p
  | ok d h =>
    obtain ⟨rr, rfl⟩ := hr d h rfl
    intro w2 D0 acc eh ok2 e2 hD hacc racc nz nl
    exact p (w2.fz D0) eh (W.fz_ok ok2 nl hacc) (W.fz_ext e2 hD) _ (.lst (.inl ⟨.inr rfl, hacc⟩) (racc.le W.fz_le))
theorem lc_read {elt : CE} {own : List Nat} {t : Tg} {src : CI} {cond : CO} {Q : VK} (hin : tgIn t own = true) (s : Stt G B w env σ ω)
    (p : PostN G w (evE F gl env (.lc elt own t src cond) w.h) Q (XP G Wx σ)) :
    tLc (tI G B Wx F gl src) (gTg G.K t) (tCn G B (fun _ _ _ _ => False) F gl cond) (tE G B (fun _ _ _ _ => False) F gl elt) own σ w.H Q := by
  rw [evE] at p
  refine ⟨w, env, ω, rfl, s, ?_⟩
  cases hI : evI F gl env src w.h with
  | bad => rw [hI] at p; exact p.elim
  | exc x h => rw [hI] at p; exact p
  | ok ds h1 =>
    rw [hI] at p
    intro w1 eh1 ok1 e1 J hJ D0 hD
    subst eh1
    have p2 : PostN G w (if ds.length ≤ LIM then (lcGo (lcF F gl env own t elt cond) ds w1.h).bind fun r h2 => .ok (D.lst r) h2 else .bad) Q (XP G Wx σ) := p
    have s1 := s.ext ok1 e1
    by_cases hlim : ds.length ≤ LIM
    rotate_left
    · rw [if_neg hlim] at p2
      exact p2.elim
    rw [if_pos hlim] at p2
    obtain ⟨vs, Gd, rs, wk, hgd⟩ := hJ
    cases hgo : lcGo (lcF F gl env own t elt cond) ds w1.h with
    | bad => rw [hgo] at p2; exact p2.elim
    | exc x h => exact (lcGo_exc hgo).elim
    | ok rr hh =>
      rw [hgo] at p2
      have fin : ∀ w2 D0 acc, w2.h = hh → WOk G w2 → Ext w w2 → w.H D0 = none → w2.H D0 = some (.lst acc) → Reps G w2 rr acc → ¬ w2.Z D0 → ¬ w2.live D0 → Q (.ref D0) w2.H := p2
      -- the invariant
      refine lc_it wk (fun i H => ∃ (w2 : W) (acc : List V) (dacc rest : List D), w2.H = H ∧ Stt G B w2 env σ ω ∧ Ext w1 w2 ∧ H D0 = some (.lst acc) ∧ Reps G w2 dacc acc ∧ ¬ w2.Z D0 ∧ ¬ w2.live D0 ∧
        lcGo (lcF F gl env own t elt cond) (ds.drop i) w2.h = .ok rest hh ∧ dacc ++ rest = rr ∧ acc.length ≤ i) ?_ ?_ ?_ ?_
      · obtain ⟨k1, k2, k3, k4⟩ := W.new_ok (o := .lst []) ok1 hD
        refine ⟨w1.mut D0 (.lst []), [], [], rr, rfl, s1.ext k1 k2, k2, upd_same, .nil, k3, k4, by rw [List.drop_zero]; exact hgo, List.nil_append _, Nat.zero_le _⟩
      · rintro i H _ ⟨w2, acc, dacc, rest, rfl, s2, e2, _⟩
        exact hgd w2 (e2.le ok1)
      · rintro i x H H' hi ⟨w2, acc, dacc, rest, rfl, s2, e2, hacc, racc, nz, nl, hgo2, happ, hlen⟩ ⟨rfl, hx⟩
        have hids : i < ds.length := by rw [rs.length]; exact hi
        have hdrop : ds.drop i = ds[i] :: ds.drop (i + 1) := List.drop_eq_getElem_cons hids
        rw [hdrop] at hgo2
        obtain ⟨v', hv', rv⟩ := rs.get (List.getElem?_eq_getElem hids)
        rw [hx] at hv'
        cases hv'
        have rv2 := rv.le (e2.le ok1)
        obtain ⟨o, h3, r4, hfd, hgo4, hrest⟩ := lcGo_cons hgo2
        subst hrest
        -- the turn
        unfold lcF at hfd
        cases hbind : bindT t ds[i] (wipeE env own) with
        | none => rw [hbind] at hfd; cases hfd
        | some env' =>
        rw [hbind] at hfd
        have hfd : ((evC F gl env' cond w2.h).bind fun b h => if b then (evE F gl env' elt h).bind fun x h => .ok (some x) h else .ok none h) = .ok o h3 := hfd
        have hD2 : w2.H D0 = some (.lst acc) := hacc
        have nown : ∀ (j : Nat) (ob : Ob), env[j]? = some (Sl.own ob) → ω j ≠ D0 := fun j ob hj q => by
          obtain ⟨_, h2, _⟩ := s1.eo.own j ob hj
          obtain ⟨u, hu, _⟩ := h2.soft
          rw [q, hD] at hu
          cases hu
        refine bind_ok (wipe_ok s2.eo own) rv2 hbind fun σ2 eo2 hσ2 => ⟨?_, ?_⟩
        · cases t with
          | name i =>
            rw [hσ2, wipe_set _ (by simpa [tgIn] using hin), wipe_idem]
          | tup is =>
            obtain ⟨vs2, rfl⟩ := hσ2
            rw [wipe_sets (fun j hj => by simpa using List.all_eq_true.mp (show is.all own.contains = true from hin) j hj), wipe_idem]
        · cases hcn : evC F gl env' cond w2.h with
          | bad => rw [hcn] at hfd; cases hfd
          | exc x h => rw [hcn] at hfd; cases hfd
          | ok bb hb2 =>
            rw [hcn] at hfd
            refine ⟨w2, env', ω, rfl, ⟨s2.ok, s2.be, eo2⟩, ?_⟩
            rw [hcn]
            intro w3 eh3 ok3 e3
            have hD3 : w3.H D0 = some (.lst acc) := e3.keep _ _ hD2 nl
            have nl3 : ¬ w3.live D0 := fun q => by
              rcases e3.live_back q with q | q
              · exact nl q
              · rw [hD2] at q; cases q
            have nz3 : ¬ w3.Z D0 := fun q => by
              rcases e3.zn _ q with q | q | q
              · exact nz q
              · rw [hD2] at q; cases q
              · exact nl q
            have s3 := s2.ext ok3 e3
            cases bb with
            | false =>
              have hfd' : Res.ok (none : Option D) hb2 = .ok o h3 := hfd
              cases hfd'
              have happ : dacc ++ r4 = rr := happ
              refine iteF ⟨w3, acc, dacc, r4, rfl, s3, e2.trans e3, hD3, racc.ext s2.ok e3, nz3, nl3, by rw [eh3]; exact hgo4, happ, Nat.le_succ_of_le hlen⟩
            | true =>
              refine iteT ?_
              have hfd' : (evE F gl env' elt hb2).bind (fun x h => Res.ok (some x) h) = .ok o h3 := hfd
              cases hev : evE F gl env' elt hb2 with
              | bad => rw [hev] at hfd'; cases hfd'
              | exc x h => rw [hev] at hfd'; cases hfd'
              | ok dv h5 =>
                rw [hev] at hfd'
                cases hfd'
                refine ⟨w3, env', ω, rfl, ⟨ok3, s3.be, eo2.ext s2.ok e3⟩, ?_⟩
                rw [eh3, hev]
                intro w4 eh4 ok4 e4 v4 r4'
                have hD4 : w4.H D0 = some (.lst acc) := e4.keep _ _ hD3 nl3
                have nl4 : ¬ w4.live D0 := fun q => by
                  rcases e4.live_back q with q | q
                  · exact nl3 q
                  · rw [hD3] at q; cases q
                have nz4 : ¬ w4.Z D0 := fun q => by
                  rcases e4.zn _ q with q | q | q
                  · exact nz3 q
                  · rw [hD3] at q; cases q
                  · exact nl3 q
                have s4 := s3.ext ok4 e4
                have lm : LIM = sizeLine := lim_size
                refine ⟨acc, hD4, by rw [← lm]; omega, w4.mut D0 (.lst (acc ++ [v4])), acc ++ [v4], dacc ++ [dv], r4, rfl, s4.mut nz4 nl4 hD4 trivial (s1.be.dom _ hD) nown, W.mut_ext ((e2.trans e3).trans e4) hD, upd_same, ?_, nz4, nl4, by rw [show (w4.mut D0 (.lst (acc ++ [v4]))).h = w4.h from rfl, eh4]; exact hgo4, ?_, ?_⟩
                · exact ((racc.ext s2.ok e3).ext ok3 e4 |>.le (W.mut_le nz4 hD4 trivial)).append (.cons (r4'.le (W.mut_le nz4 hD4 trivial)) .nil)
                · rw [List.append_assoc]; exact happ
                · rw [List.length_append, List.length_singleton]; omega
      · rintro H ⟨w2, acc, dacc, rest, rfl, s2, e2, hacc, racc, nz, nl, hgo2, happ, hlen⟩
        rw [← rs.length, List.drop_length] at hgo2
        cases hgo2
        rw [List.append_nil] at happ
        subst happ
        exact fin w2 D0 acc rfl s2.ok (e1.trans e2) (e1.dom _ hD) hacc racc nz nl
theorem lc_lst {elt : CE} {own : List Nat} {t : Tg} {src : CI} {cond : CO} {h h' : Cells} {d : D} (e : evE F gl env (.lc elt own t src cond) h = .ok d h') : ∃ rr, d = .lst rr := by
  rw [evE] at e
  cases hI : evI F gl env src h with
  | bad => rw [hI] at e; cases e
  | exc x h => rw [hI] at e; cases e
  | ok ds h1 =>
    rw [hI] at e
    have e : (if ds.length ≤ LIM then (lcGo (lcF F gl env own t elt cond) ds h1).bind fun r h2 => .ok (D.lst r) h2 else .bad) = .ok d h' := e
    split at e
    · cases hgo : lcGo (lcF F gl env own t elt cond) ds h1 with
      | bad => rw [hgo] at e; cases e
      | exc x h => rw [hgo] at e; cases e
      | ok r h => rw [hgo] at e; cases e; exact ⟨_, rfl⟩
    · cases e
theorem own_map (N : List Str) (own : List Nat) : (ownOf N own).map (·.2) = own := by
  unfold ownOf
  rw [List.map_map]
  simp [Function.comp_def]
theorem fold_plain {it : Expr} (hs : plainB it = true) (env : Env) : ∀ x, foldedSetIterable it env x = pure x := by
  intro x
  cases it <;> first | rfl | cases hs
theorem e_lc {el it : Expr} {ifs : List Expr} {scope : Scope} {elt : CE} {own : List Nat} {t : Tg} {src : CI} {cond : CO} (ok : XOk G C gl F n sc lsc X) (hc : C.calm = true)
    (hi : PI X tg it (tI G B Wx F gl src)) (hb : BlkOk X.N X.env.scope scope (ownOf C.N own)) (hin : tgIn t own = true)
    (hg : ∀ (s : Shared) (H : Hp) (Ca : Addr) (cl : List (Str × Addr)) (fp : List Addr), PG (X.blk s H scope (compEnvC scope cl Ca X.env) fp) tg (gTg G.K t))
    (ht : ∀ (s : Shared) (H : Hp) (Ca : Addr) (cl : List (Str × Addr)) (fp : List Addr), PTs (X.blk s H scope (compEnvC scope cl Ca X.env) fp) ifs (tCn G B (fun _ _ _ _ => False) F gl cond))
    (he : ∀ (s : Shared) (H : Hp) (Ca : Addr) (cl : List (Str × Addr)) (fp : List Addr), PE (X.blk s H scope (compEnvC scope cl Ca X.env) fp) el (tE G B (fun _ _ _ _ => False) F gl elt))
    (hs : plainB it = true) : PE X (.ListComp el [⟨tg, it, ifs, 0⟩] scope pos) (tE G B Wx F gl (.lc elt own t src cond)) := by
  refine PE.imp (pe_lc (ok.calm hc) (by rw [ok.N]; exact ok.nd) hi hb hg ht he (fold_plain hs _)) fun σ H Q ⟨w, env, ω, e, s, p⟩ => ?_
  subst e
  rw [own_map]
  exact lc_read hin s (PostN.of p fun _ _ e => lc_lst e)
end
end Rf
set_option Elab.async false
set_option linter.all false
set_option maxRecDepth 100000
set_option maxHeartbeats 4000000
/-! G12: calls, and/or; all expressions -/
namespace Rf
open PySem L2 PySem.Spec PyProof.Rows
section
variable {G : Gm} {B : Bs} {w w1 w' : W} {Wx : WX} {F : FTab} {gl : Nat → Option D} {C : Ck} {n : Nat} {sc lsc : Scope} {X : Cx} {env env' : En} {σ : List (Option V)} {ω : Nat → Addr}
  {l m r e e' tg : Expr} {es : List Expr} {a b c : CE} {as bs : CEs} {pos p : Pos} {x y : Str}
theorem e_call0 {f : Nat} (ok : XOk G C gl F n sc lsc X) (tk : Takes X Wx) (hc : C.calm = true) (hf : C.T.fns[f]? = some (x, none)) (hg : isGl sc x = true) :
    PE X (.Call (.Name x p) [] [] pos) (tE G B Wx F gl (.call f .nil)) := by
  obtain ⟨g1, g2⟩ := gl_of hg ok.hsc
  obtain ⟨fa, hm, hk, hok⟩ := ok.fn f x hf
  refine PE.imp (pe_callRS0 hok ((ok.room hc).mono (Nat.le_succ _)) g1 hm hk (fun σ => passAt tk σ) g2) fun σ H Q ⟨w, env, ω, e, s, p⟩ => ?_
  subst e
  rw [evE] at p
  have z := p.bind
  rw [evEs] at z
  exact ⟨w, [], rfl, s.ok, .nil, Post.now z s.ok⟩
theorem e_call {f : Nat} (ok : XOk G C gl F n sc lsc X) (tk : Takes X Wx) (hc : C.calm = true) (hf : C.T.fns[f]? = some (x, none)) (hg : isGl sc x = true) (hp : ((e :: es).any fun e => !plainB e) = false) (h : PA X (e :: es) (tEs G B Wx F gl as)) :
    PE X (.Call (.Name x p) (e :: es) [] pos) (tE G B Wx F gl (.call f as)) := by
  obtain ⟨g1, g2⟩ := gl_of hg ok.hsc
  obtain ⟨fa, hm, hk, hok⟩ := ok.fn f x hf
  rw [List.any_cons, Bool.or_eq_false_iff] at hp
  have he : plainB e = true := by simpa using hp.1
  refine PE.imp (pe_callRS hok ((ok.room hc).mono (Nat.le_succ _)) g1 hm hk (fun σ => passAt tk σ) h g2 (star_one he _ _) (star_none hp.2 _ _)) fun σ H Q ⟨w, env, ω, e, s, p⟩ => ?_
  subst e
  rw [evE] at p
  exact ⟨w, env, ω, rfl, s, p.bind.mono (fun ds w1 ok1 e1 p2 vs rs => ⟨w1, ds, rfl, ok1, rs, p2⟩) fun _ _ _ _ h => h⟩
theorem bnm_in (b : Blt) : bnm b ∈ names0 := by cases b <;> decide
theorem boot_b (b : Blt) : bootBuiltins (bnm b) = some (bval b) := by cases b <;> decide +kernel
theorem bnm_ne (b : Blt) : bnm b ≠ "__name__" := by cases b <;> decide
theorem e_blt {bt : Blt} (ok : XOk G C gl F n sc lsc X) (hc : C.calm = true) (hg : isGl sc (bnm bt) = true) (hp : ((e :: es).any fun e => !plainB e) = false) (h : PA X (e :: es) (tBs G B Wx F gl as)) :
    PE X (.Call (.Name (bnm bt) p) (e :: es) [] pos) (tE G B Wx F gl (.blt bt as)) := by
  obtain ⟨g1, g2⟩ := gl_of hg ok.hsc
  have hm := ok.blt _ (bnm_in bt)
  rw [List.any_cons, Bool.or_eq_false_iff] at hp
  have he : plainB e = true := by simpa using hp.1
  have key : ∀ σ H Q, tE G B Wx F gl (.blt bt as) σ H Q → tCB (rBlt G bt) (tBs G B Wx F gl as) σ H Q := fun σ H Q ⟨w, env, ω, e, s, p⟩ => by
    subst e
    rw [evE] at p
    refine ⟨w, env, ω, rfl, s, p.bind.mono (fun ds w1 ok1 e1 p2 vs rs => ?_) fun _ _ _ _ h => h⟩
    obtain ⟨d, hd, k⟩ := p2.lifted
    exact ⟨w1, _, d, rfl, ok1, rs.vw ok1, hd, fun w' v eh ok e r => k w' eh ok e v r⟩
  have hcr := blt_ok (X := X) (G := G) ok.K (ok.calm hc) bt
  have hbt := boot_b bt
  cases hv : bval bt with
  | builtin id =>
    rw [hv] at hcr hbt
    exact PE.imp (pe_callB hcr g1 hm hbt h (bnm_ne bt) g2 (star_one he _ _) (star_none hp.2 _ _)) key
  | type T =>
    rw [hv] at hcr hbt
    exact PE.imp (pe_callTy hcr g1 hm hbt h (bnm_ne bt) g2 (star_one he _ _) (star_none hp.2 _ _)) key
  | _ => cases bt <;> cases hv
theorem base_of {l : Expr} {m : Str} {env : Env} {whole : Sem Value} (h : noSup l = true) : attributeBase l m env whole = whole := by
  unfold attributeBase
  split
  · rename_i x q pos
    have hx : (x != "super") = true := h
    rw [hx]
    rfl
  · rfl
/-- a text's method -/
theorem e_bm {m : BM} {p2 : Pos} (ok : XOk G C gl F n sc lsc X) (hn : noSup l = true) (hl : (p2.endLine == p.line) = true) (ho : PE X l (tBa G B Wx F gl a)) (he : (es = [] ∧ as = .nil) ∨ ∃ e, es = [e] ∧ plainB e = true) (h : PA X es (tBs G B Wx F gl as)) :
    PE X (.Call (.Attribute l (bmNm m) p2) es [] p) (tE G B Wx F gl (.bm m a as)) := by
  have key : ∀ {w1 : W} {d : D} {v : V}, isStrD d = true → BRep G w1 d v → ∃ z, d = .str z ∧ v = .str z ∧ Vw G w1 d v := fun hd bv => by
    rename_i w1 d v
    cases d with
    | str z =>
      rcases bv with h | ⟨a, o, _, h, _⟩
      · cases h with | str _ hz => exact ⟨z, rfl, rfl, .str z hz⟩
      · cases o <;> cases h
    | _ => cases hd
  rcases he with ⟨rfl, rfl⟩ | ⟨e, rfl, he⟩
  · refine PE.imp (pe_bm0 PySem.F.plainAttrs_str (bm_slot m) (bm_ty m) (bm_ok (X := X) (G := G) ok.K m) ho (base_of hn) hl) fun σ H Q ⟨w, env, ω, e, s, q⟩ => ?_
    subst e
    rw [evE] at q
    refine ⟨w, env, ω, rfl, s, q.bind.mono (fun d w1 ok1 e1 q2 v bv => ?_) fun _ _ _ _ h => h⟩
    by_cases hd : isStrD d = true
    · rw [if_pos hd] at q2
      obtain ⟨z, rfl, rfl, vw⟩ := key hd bv
      rw [evBs] at q2
      obtain ⟨d3, h3, k⟩ := Post.lifted (show Post G w1 (lift (bmD m (.str z) ([] : List D)) w1.h) _ _ from q2)
      exact ⟨rfl, w1, _, [], d3, rfl, ok1, vw, .nil, h3, fun w' v eh ok e r => k w' eh ok e v r⟩
    · rw [if_neg hd] at q2; exact q2.elim
  · refine PE.imp (pe_bm PySem.F.plainAttrs_str (bm_slot m) (bm_ty m) (bm_ok (X := X) (G := G) ok.K m) ho h (base_of hn) (by rw [star_one he]; rfl) hl (star_one he _ _) rfl) fun σ H Q ⟨w, env, ω, e, s, q⟩ => ?_
    subst e
    rw [evE] at q
    refine ⟨w, env, ω, rfl, s, q.bind.mono (fun d w1 ok1 e1 q2 v bv => ?_) fun _ _ _ _ h => h⟩
    have s1 := s.ext ok1 e1
    by_cases hd : isStrD d = true
    · rw [if_pos hd] at q2
      obtain ⟨z, rfl, rfl, vw⟩ := key hd bv
      refine ⟨rfl, w1, env, ω, rfl, s1, q2.bind.mono (fun ds w2 ok2 e2 q3 vs bvs => ?_) fun _ _ _ _ h => h⟩
      obtain ⟨d3, hd, k⟩ := q3.lifted
      have vw2 : Vw G w2 (.str z) (.str z) := by
        cases vw with | str _ hz => exact .str z hz
      exact ⟨w2, _, _, d3, rfl, ok2, vw2, bvs.vw ok2, hd, fun w' v eh ok e r => k w' eh ok e v r⟩
    · rw [if_neg hd] at q2; exact q2.elim
/-- fields by their places and by their names -/
theorem RepF.look (go : G.Ok) {f : Nat} : ∀ {fs : List (Nat × D)} {fvs : List (Str × V)}, RepF G w fs fvs → (∀ d, fs.lookup f = some d → ∃ v, fvs.lookup (G.sy f) = some v ∧ Rep G w d v) ∧ (fs.lookup f = none → fvs.lookup (G.sy f) = none)
  | _, _, .nil => ⟨fun d h => (by cases h), fun _ => rfl⟩
  | _, _, .cons (k := k) (d := d0) (ds := ds) (v := v0) (vs := vs) r rs => by
    obtain ⟨h1, h2⟩ := RepF.look go (f := f) rs
    by_cases q : f = k
    · subst q
      refine ⟨fun d h => ?_, fun h => ?_⟩
      · rw [List.lookup_cons, beq_self_eq_true] at h
        cases h
        exact ⟨v0, by rw [List.lookup_cons, beq_self_eq_true], r⟩
      · rw [List.lookup_cons, beq_self_eq_true] at h
        cases h
    · have nb : (f == k) = false := by rw [beq_eq_false_iff_ne]; exact q
      have ns : (G.sy f == G.sy k) = false := by
        rw [beq_eq_false_iff_ne]
        intro e
        rcases Nat.lt_or_gt_of_ne q with l | l
        · exact go.sy f k l e
        · exact go.sy k f l e.symm
      refine ⟨fun d h => ?_, fun h => ?_⟩
      · rw [List.lookup_cons, nb] at h
        rw [List.lookup_cons, ns]
        exact h1 d h
      · rw [List.lookup_cons, nb] at h
        rw [List.lookup_cons, ns]
        exact h2 h
/-- a field -/
theorem e_attr {f : Nat} {p2 : Pos} (ok : XOk G C gl F n sc lsc X) (go : G.Ok) (hf : C.T.fld[f]? = some x) (hn : noSup l = true) (h : PE X l (tBa G B Wx F gl a)) : PE X (.Attribute l x p2) (tE G B Wx F gl (.attr a f)) := by
  refine PE.imp (pe_fld h (base_of hn)) fun σ H Q ⟨w, env, ω, e, s, q⟩ => ?_
  subst e
  rw [evE] at q
  refine ⟨w, env, ω, rfl, s, q.bind.mono (fun d w1 ok1 e1 q2 v bv => ?_) fun _ _ _ _ h => h⟩
  obtain ⟨d3, hd, k⟩ := q2.lifted
  have vw := bv.see ok1
  revert vw hd
  generalize see w1.h d = y
  intro hd vw
  cases vw with
  | ins hc hH rf =>
    rename_i ad dx c fvs fs
    have hd' : (if F.tb.ft c f then fs.lookup f else none) = some d3 := hd
    by_cases hft : F.tb.ft c f = true
    · rw [if_pos hft] at hd'
      obtain ⟨hc', hna⟩ := ok.ft c f hft
      obtain ⟨v3, hv3, r3⟩ := (RepF.look go rf).1 d3 hd'
      rw [ok.sy f x hf] at hv3 hna
      rw [ok.K]
      exact ⟨ad, G.ca c, dx, fvs, v3, rfl, hH, go.cls c hc, hna, hv3, k w1 rfl ok1 (Ext.refl _) v3 r3⟩
    · rw [if_neg hft] at hd'; cases hd'
  | _ => cases hd
theorem e_meth {m : Nat} {p2 : Pos} (ok : XOk G C gl F n sc lsc X) (go : G.Ok) (tk : Takes X Wx) (hc : C.calm = true) (hf : C.T.fld[m]? = some x) (hn : noSup l = true) (hl : (p2.endLine == p.line) = true) (ho : PE X l (tE G B Wx F gl a))
    (hp : (es.any fun e => !plainB e) = false) (h30 : es.length < 30) (h : PA X es (tEs G B Wx F gl as)) (hnil : es = [] → as = .nil) : PE X (.Call (.Attribute l x p2) es [] p) (tE G B Wx F gl (.meth a m as)) := by
  have key : ∀ (t : TA), (∀ (w1 : W) (env : En) (ω : Nat → Addr) (σ : L2.St) (K : List V → Hp → Prop), Stt G B w1 env σ ω → Post G w1 (evEs F gl env as w1.h) (fun ds w2 => ∀ vs, Reps G w2 ds vs → K vs w2.H) (XP G Wx σ) → t σ w1.H K) →
      ∀ σ H Q, tE G B Wx F gl (.meth a m as) σ H Q → tMethD X (L2.CX X.prog X.w) (2 * n) x (WE Wx) (tE G B Wx F gl a) t σ H Q := fun t ht σ H Q ⟨w, env, ω, e, s, q⟩ => by
    subst e
    rw [evE] at q
    refine ⟨w, env, ω, rfl, s, q.bind.mono (fun d w1 ok1 e1 q2 v rv => ?_) fun _ _ _ _ h => h⟩
    have s1 := s.ext ok1 e1
    have vw := rv.see ok1
    cases hmd : methD F.tb (see w1.h d) m with
    | none => simp only [hmd] at q2; exact q2.elim
    | some f =>
      simp only [hmd] at q2
      revert vw hmd
      generalize see w1.h d = y
      intro vw hmd
      cases vw with
      | ins hc' hH rf =>
        rename_i ad dx c fvs fs
        have hmd' : (if (fs.lookup m).isNone then F.tb.mt c m else none) = some f := hmd
        by_cases hno : (fs.lookup m).isNone = true
        · rw [if_pos hno] at hmd'
          obtain ⟨_, af, hM, hF⟩ := ok.mt c m f hmd'
          have hlk := (RepF.look go rf).2 (by simpa using hno)
          rw [ok.sy m x hf] at hM hlk
          refine ⟨ad, G.ca c, dx, fvs, af, _, rfl, hH, hlk, by rw [ok.K]; exact go.cls c hc', by rw [ok.K]; exact hM, hF, ht w1 env ω σ _ s1 (q2.bind.mono (fun ds w2 ok2 e2 q3 vs rs => ?_) fun _ _ _ _ h => h)⟩
          exact ⟨w2, d :: ds, rfl, ok2, .cons (rv.ext ok1 e2) rs, q3⟩
        · rw [if_neg hno] at hmd'; cases hmd'
      | _ => cases hmd
  cases es with
  | nil =>
    have e := hnil rfl
    subst e
    refine PE.imp (pe_methD0 ho (base_of hn) hl ((ok.room hc).mono (Nat.le_succ _)) (fun σ => passAt tk σ)) (key _ fun w1 env ω σ K s1 q => ?_)
    rw [evEs] at q
    exact Post.now q s1.ok [] .nil
  | cons e es =>
    rw [List.any_cons, Bool.or_eq_false_iff] at hp
    have he : plainB e = true := by simpa using hp.1
    exact PE.imp (pe_methD ho (base_of hn) hl ((ok.room hc).mono (Nat.le_succ _)) (fun σ => passAt tk σ) h h30 (star_one he _ _) (star_none hp.2 _ _)) (key _ fun w1 env ω σ K s1 q => ⟨w1, env, ω, rfl, s1, q⟩)
/-- a new instance -/
theorem e_make {c : Nat} (ok : XOk G C gl F n sc lsc X) (tk : Takes X Wx) (hc : C.calm = true) (hmk : C.T.mks.contains c = true) (hcl : C.T.cls[c]? = some x) (hg : isGl sc x = true) (hp : (es.any fun e => !plainB e) = false) (h : PA X es (tEs G B Wx F gl as)) (hnil : es = [] → as = .nil) :
    PE X (.Call (.Name x p) es [] pos) (tE G B Wx F gl (.make c as)) := by
  obtain ⟨g1, g2⟩ := gl_of hg ok.hsc
  obtain ⟨hlt, hm⟩ := ok.cls c x hcl
  obtain ⟨af, M, hF⟩ := ok.mkr c hmk
  rw [← ok.K] at M
  have key : ∀ (t : TA), (∀ (w1 : W) (env : En) (ω : Nat → Addr) (σ : L2.St) (K : List V → Hp → Prop), Stt G B w1 env σ ω → Post G w1 (evEs F gl env as w1.h) (fun ds w2 => ∀ vs, Reps G w2 ds vs → K vs w2.H) (XP G Wx σ) → t σ w1.H K) →
      ∀ σ H Q, tE G B Wx F gl (.make c as) σ H Q → tMakeS (G.ca c) (spI G F c) (WE Wx) t σ H Q := fun t ht σ H Q ⟨w, env, ω, e, s, q⟩ => by
    subst e
    rw [evE] at q
    refine ht w env ω σ _ s (q.bind.mono (fun ds w1 ok1 e1 q2 vs rs => fun xa dx hxa hdx hne => ?_) fun _ _ _ _ h => h)
    obtain ⟨k1, k2, k3, k4⟩ := W.new_ok (o := .own xa) ok1 hdx
    have hxa' : (w1.mut dx (.own xa)).H xa = none := by
      show upd w1.H dx (.own xa) xa = none
      rw [upd_ne (Ne.symm hne)]
      exact hxa
    obtain ⟨m1, m2, m3, m4⟩ := W.new_ok (o := .ins (G.ca c) dx []) k1 hxa'
    refine ⟨w1, (w1.mut dx (.own xa)).mut xa (.ins (G.ca c) dx []), ds, xa, dx, vs, rfl, rfl, m1, k2.trans m2, rfl, hlt, upd_same, m3, m4, hxa, rs.ext ok1 (k2.trans m2), ?_⟩
    cases hI : F.ini c ds w1.h with
    | bad => rw [hI] at q2; exact q2.elim
    | exc z h2 => rw [hI] at q2; exact q2
    | ok fs h2 =>
      rw [hI] at q2
      intro w' eh ok' e' dx' fvs hH' rf nz nl
      exact ⟨rfl, q2 (w'.fz xa) eh (W.fz_ok ok' nl hH') (W.fz_ext e' hxa) (.ref xa) (.ins hlt (.inr rfl) hH' (rf.le W.fz_le))⟩
  cases es with
  | nil =>
    have e := hnil rfl
    subst e
    refine PE.imp (pe_makeS0 M hF (ok.room hc) g1 hm (fun σ => passAt tk σ) g2) (key _ fun w1 env ω σ K s1 q => ?_)
    rw [evEs] at q
    exact Post.now q s1.ok [] .nil
  | cons e es =>
    rw [List.any_cons, Bool.or_eq_false_iff] at hp
    have he : plainB e = true := by simpa using hp.1
    exact PE.imp (pe_makeS M hF (ok.room hc) g1 hm (fun σ => passAt tk σ) h g2 (star_one he _ _) (star_none hp.2 _ _)) (key _ fun w1 env ω σ K s1 q => ⟨w1, env, ω, rfl, s1, q⟩)
/-- isinstance -/
theorem e_isi {t : Ty} {p3 : Pos} (ok : XOk G C gl F n sc lsc X) (go : G.Ok) (hg : isGl sc "isinstance" = true) (hgy : isGl sc y = true) (hp : plainB l = true) (ht : ckTy C.T t y = true) (h : PE X l (tE G B Wx F gl a)) :
    PE X (.Call (.Name "isinstance" p) [l, .Name y p3] [] pos) (tE G B Wx F gl (.isi a t)) := by
  obtain ⟨g1, g2⟩ := gl_of hg ok.hsc
  obtain ⟨k1, k2⟩ := gl_of hgy ok.hsc
  have hm := ok.blt "isinstance" (by decide)
  -- the class as a value
  have hcls : tyOk G t ∧ ∃ cv, (ClsV cv (tyV G t)) ∧ PE X (.Name y p3) (tC cv) := by
    cases t with
    | own c =>
      have h' : (C.T.cls[c]? == some y) = true := ht
      rw [beq_iff_eq] at h'
      obtain ⟨h1, h2⟩ := ok.cls c y h'
      exact ⟨h1, _, ClsV.own (G.ca c), pe_glob k1 h2 rfl k2⟩
    | int => 
      have e : y = "int" := beq_iff_eq.mp ht
      subst e
      exact ⟨trivial, _, ClsV.ty "int", pe_bltn k1 (ok.blt _ (by decide)) (by decide +kernel) rfl⟩
    | bool => 
      have e : y = "bool" := beq_iff_eq.mp ht
      subst e
      exact ⟨trivial, _, ClsV.ty "bool", pe_bltn k1 (ok.blt _ (by decide)) (by decide +kernel) rfl⟩
    | str => 
      have e : y = "str" := beq_iff_eq.mp ht
      subst e
      exact ⟨trivial, _, ClsV.ty "str", pe_bltn k1 (ok.blt _ (by decide)) (by decide +kernel) rfl⟩
    | list => 
      have e : y = "list" := beq_iff_eq.mp ht
      subst e
      exact ⟨trivial, _, ClsV.ty "list", pe_bltn k1 (ok.blt _ (by decide)) (by decide +kernel) rfl⟩
    | tuple => 
      have e : y = "tuple" := beq_iff_eq.mp ht
      subst e
      exact ⟨trivial, _, ClsV.ty "tuple", pe_bltn k1 (ok.blt _ (by decide)) (by decide +kernel) rfl⟩
    | dict => 
      have e : y = "dict" := beq_iff_eq.mp ht
      subst e
      exact ⟨trivial, _, ClsV.ty "dict", pe_bltn k1 (ok.blt _ (by decide)) (by decide +kernel) rfl⟩
  obtain ⟨hto, cv, hcv, hpe⟩ := hcls
  have hK := ok.K
  refine PE.imp (pe_callB call_isi g1 hm (by decide +kernel) (pa_cons h (pa_cons hpe pa_nil (star_one rfl _ _)) (star_one hp _ _)) (by decide) g2 (star_one hp _ _) (star_none (es := [.Name y p3]) rfl _ _)) fun σ H Q ⟨w, env, ω, e, s, p⟩ => ?_
  subst e
  rw [evE] at p
  refine ⟨w, env, ω, rfl, s, p.bind.mono (fun d1 w1 ok1 e1 p2 v1 r1 => ?_) fun _ _ _ _ h => h⟩
  obtain ⟨d, hd, k⟩ := p2.lifted
  obtain ⟨bb, hb, rfl⟩ := Option.map_eq_some_iff.mp hd
  obtain ⟨u, hu, hk⟩ := ty_kit go (r1.see ok1) hto hb
  rw [← hK] at hu hk
  exact ⟨v1, cv, u, tyV G t, bb, rfl, hcv, hu, hk, k w1 rfl ok1 (Ext.refl _) _ (.bl bb)⟩
/-- a new live list -/
def W.newc (w : W) (p : Addr) (ob : Ob) (o : HO) : W := ⟨w.Z, fun i => if i = w.h.length then p else w.ι i, w.h ++ [some ob], upd w.H p o⟩
theorem newc_ok (ok : WOk G w) {p : Addr} {ds : List D} {vs : List V} (r : Reps G w ds vs) (hp : w.H p = none) : WOk G (w.newc p (.lst ds) (.lst vs)) ∧ Ext w (w.newc p (.lst ds) (.lst vs)) := by
  obtain ⟨k1, k2, nz, nl⟩ := W.new_ok (o := .lst vs) ok hp
  have ex : Ext w (w.newc p (.lst ds) (.lst vs)) := {
    z := fun _ z => z
    zn := fun _ z => .inl z
    ι := fun i hi => by
      show (if i = w.h.length then p else w.ι i) = w.ι i
      rw [if_neg (Nat.ne_of_lt hi)]
    len := by show w.h.length ≤ (w.h ++ [_]).length; simp
    lv := fun i o hi h => by
      have h' : (w.h ++ [some (Ob.lst ds)])[i]? = some (some o) := h
      rw [List.getElem?_append_left hi] at h'
      exact ⟨o, h'⟩
    fresh := fun i o hi h => by
      have h' : (w.h ++ [some (Ob.lst ds)])[i]? = some (some o) := h
      rw [List.getElem?_append_right hi] at h'
      have e : i = w.h.length := by
        cases q : i - w.h.length with
        | zero => omega
        | succ k => rw [q] at h'; simp at h'
      show w.H (if i = w.h.length then p else w.ι i) = none
      rw [if_pos e]
      exact hp
    keep := k2.keep
    dom := k2.dom }
  refine ⟨⟨fun i o h => ?_, fun i j o u h1 h2 he => ?_, k1.zin⟩, ex⟩
  · have h' : (w.h ++ [some (Ob.lst ds)])[i]? = some (some o) := h
    by_cases hi : i < w.h.length
    · rw [List.getElem?_append_left hi] at h'
      obtain ⟨q1, q2⟩ := ok.cell i o h'
      have ei : (w.newc p (.lst ds) (.lst vs)).ι i = w.ι i := ex.ι i hi
      rw [ei]
      refine ⟨q1.le_ne (ex.le ok) ?_, q2⟩
      show upd w.H p _ (w.ι i) = _
      rw [upd_ne (fun q => nl ⟨i, o, h', q⟩)]
    · rw [List.getElem?_append_right (Nat.le_of_not_lt hi)] at h'
      have e : i = w.h.length := by
        cases q : i - w.h.length with
        | zero => omega
        | succ k => rw [q] at h'; simp at h'
      subst e
      rw [Nat.sub_self] at h'
      have h2 : some (Ob.lst ds) = some o := by simpa using h'
      cases h2
      have ei : (w.newc p (.lst ds) (.lst vs)).ι w.h.length = p := if_pos rfl
      rw [ei]
      exact ⟨.lst upd_same (r.ext ok ex), nz⟩
  · have key : ∀ i o, (w.newc p (.lst ds) (.lst vs)).h[i]? = some (some o) → (i < w.h.length ∧ w.h[i]? = some (some o) ∧ (w.newc p (.lst ds) (.lst vs)).ι i = w.ι i) ∨ (i = w.h.length ∧ (w.newc p (.lst ds) (.lst vs)).ι i = p) := fun i o h => by
      have h' : (w.h ++ [some (Ob.lst ds)])[i]? = some (some o) := h
      by_cases hi : i < w.h.length
      · rw [List.getElem?_append_left hi] at h'
        exact .inl ⟨hi, h', ex.ι i hi⟩
      · rw [List.getElem?_append_right (Nat.le_of_not_lt hi)] at h'
        have e : i = w.h.length := by
          cases q : i - w.h.length with
          | zero => omega
          | succ k => rw [q] at h'; simp at h'
        exact .inr ⟨e, if_pos e⟩
    rcases key i o h1 with ⟨a1, a2, a3⟩ | ⟨a1, a3⟩ <;> rcases key j u h2 with ⟨b1, b2, b3⟩ | ⟨b1, b3⟩
    · rw [a3, b3] at he
      exact ok.inj i j o u a2 b2 he
    · rw [a3, b3] at he
      exact (nl ⟨i, o, a2, he⟩).elim
    · rw [a3, b3] at he
      exact (nl ⟨j, u, b2, he.symm⟩).elim
    · rw [a1, b1]
theorem e_newc (h : PA X es (tEs G B Wx F gl as)) : PE X (.List es pos) (tE G B Wx F gl (.newc as)) := by
  refine PE.imp (pe_lst h) fun σ H Q ⟨w, env, ω, e, s, p⟩ => ?_
  subst e
  rw [evE] at p
  refine ⟨w, env, ω, rfl, s, p.bind.mono (fun ds w1 ok1 e1 p2 vs rs => ?_) fun _ _ _ _ h => h⟩
  by_cases hz : ds.length ≤ LIM
  · simp only [hz, if_true] at p2
    refine ⟨by rw [← rs.length]; exact hz, fun p hp => ?_⟩
    obtain ⟨k1, k2⟩ := newc_ok ok1 rs hp
    have q := p2 (w1.newc p (.lst ds) (.lst vs)) rfl k1 k2 (.ref p) ?_
    · exact q
    · have r := Rep.cell (G := G) (w := w1.newc p (.lst ds) (.lst vs)) w1.h.length (by show _ < (w1.h ++ [_]).length; simp)
      have ei : (w1.newc p (.lst ds) (.lst vs)).ι w1.h.length = p := if_pos rfl
      rw [ei] at r
      exact r
  · simp only [hz, if_false] at p2
    exact p2.elim

/-! ### and, or -/
abbrev tAn (G : Gm) (B : Bs) (Wx : WX) (F : FTab) (gl : Nat → Option D) (as : CEs) := tL G B Wx (fun as env h => evAnd F gl env as h) as
abbrev tOr' (G : Gm) (B : Bs) (Wx : WX) (F : FTab) (gl : Nat → Option D) (as : CEs) := tL G B Wx (fun as env h => evOr F gl env as h) as
abbrev tAnT (G : Gm) (B : Bs) (Wx : WX) (F : FTab) (gl : Nat → Option D) (as : CEs) := tLT G B Wx (fun as env h => evAnd F gl env as h) as
abbrev tOrT' (G : Gm) (B : Bs) (Wx : WX) (F : FTab) (gl : Nat → Option D) (as : CEs) := tLT G B Wx (fun as env h => evOr F gl env as h) as
theorem and_one (h : PE X e (tE G B Wx F gl a)) {op} : PE X (.BoolOp op [e] pos) (tAn G B Wx F gl (.cons a .nil)) := PE.imp (pe_one h) fun σ H Q ⟨w, env, ω, e, s, p⟩ => ⟨w, env, ω, e, s, by
  have p : Post G w (evAnd F gl env (.cons a .nil) w.h) _ _ := p
  rw [evAnd] at p
  exact p⟩
theorem or_one (h : PE X e (tE G B Wx F gl a)) {op} : PE X (.BoolOp op [e] pos) (tOr' G B Wx F gl (.cons a .nil)) := PE.imp (pe_one h) fun σ H Q ⟨w, env, ω, e, s, p⟩ => ⟨w, env, ω, e, s, by
  have p : Post G w (evOr F gl env (.cons a .nil) w.h) _ _ := p
  rw [evOr] at p
  exact p⟩
theorem and_cons (hK : X.K = G.K) (h : PE X e (tE G B Wx F gl a)) (h2 : PE X (.BoolOp .And (e' :: es) pos) (tAn G B Wx F gl (.cons b bs))) : PE X (.BoolOp .And (e :: e' :: es) pos) (tAn G B Wx F gl (.cons a (.cons b bs))) := by
  refine PE.imp (pe_andT h h2) fun σ H Q ⟨w, env, ω, e, s, p⟩ => ?_
  subst e
  have p : Post G w (evAnd F gl env (.cons a (.cons b bs)) w.h) _ _ := p
  rw [evAnd] at p
  refine ⟨w, env, ω, rfl, s, p.bind.mono (fun d1 w1 ok1 e1 p2 v1 r1 => ?_) fun _ _ _ _ h => h⟩
  obtain ⟨k, hk, p3⟩ := p2.bind.lifted
  have p3 := p3 w1 rfl ok1 (Ext.refl _)
  refine ⟨k, by rw [hK]; exact truth_v (r1.see ok1) hk, ?_⟩
  cases k with
  | true => exact iteT ⟨w1, env, ω, rfl, s.ext ok1 e1, p3⟩
  | false => exact iteF (Post.at (a := d1) p3 rfl ok1 v1 r1)
theorem or_cons (hK : X.K = G.K) (h : PE X e (tE G B Wx F gl a)) (h2 : PE X (.BoolOp .Or (e' :: es) pos) (tOr' G B Wx F gl (.cons b bs))) : PE X (.BoolOp .Or (e :: e' :: es) pos) (tOr' G B Wx F gl (.cons a (.cons b bs))) := by
  refine PE.imp (pe_orT h h2) fun σ H Q ⟨w, env, ω, e, s, p⟩ => ?_
  subst e
  have p : Post G w (evOr F gl env (.cons a (.cons b bs)) w.h) _ _ := p
  rw [evOr] at p
  refine ⟨w, env, ω, rfl, s, p.bind.mono (fun d1 w1 ok1 e1 p2 v1 r1 => ?_) fun _ _ _ _ h => h⟩
  obtain ⟨k, hk, p3⟩ := p2.bind.lifted
  have p3 := p3 w1 rfl ok1 (Ext.refl _)
  refine ⟨k, by rw [hK]; exact truth_v (r1.see ok1) hk, ?_⟩
  cases k with
  | false => exact iteF ⟨w1, env, ω, rfl, s.ext ok1 e1, p3⟩
  | true => exact iteT (Post.at (a := d1) p3 rfl ok1 v1 r1)
theorem andT_one (h : PT X e (tT G B Wx F gl a)) : PW X (.BoolOp .And [e] pos) (tAnT G B Wx F gl (.cons a .nil)) := PW.imp (pw_and1 h) fun σ H Q ⟨w, env, ω, e, s, p⟩ => ⟨w, env, ω, e, s, by
  have p : Post G w (evAnd F gl env (.cons a .nil) w.h).test _ _ := p
  rw [evAnd] at p
  exact p⟩
theorem orT_one (h : PT X e (tT G B Wx F gl a)) : PW X (.BoolOp .Or [e] pos) (tOrT' G B Wx F gl (.cons a .nil)) := PW.imp (pw_or1 h) fun σ H Q ⟨w, env, ω, e, s, p⟩ => ⟨w, env, ω, e, s, by
  have p : Post G w (evOr F gl env (.cons a .nil) w.h).test _ _ := p
  rw [evOr] at p
  exact p⟩
theorem andT_cons (h : PT X e (tT G B Wx F gl a)) (h2 : PW X (.BoolOp .And (e' :: es) pos) (tAnT G B Wx F gl (.cons b bs))) : PW X (.BoolOp .And (e :: e' :: es) pos) (tAnT G B Wx F gl (.cons a (.cons b bs))) := by
  refine PW.imp (pw_and h h2) fun σ H Q ⟨w, env, ω, e, s, p⟩ => ?_
  subst e
  have p : Post G w (evAnd F gl env (.cons a (.cons b bs)) w.h).test _ _ := p
  rw [evAnd] at p
  refine ⟨w, env, ω, rfl, s, ?_⟩
  unfold Res.test at p ⊢
  cases q1 : evE F gl env a w.h with
  | bad => rw [q1] at p; exact p.elim
  | exc x h => rw [q1] at p; exact p
  | ok d1 h1 =>
    rw [q1] at p
    cases q2 : truth (see h1 d1) with
    | none => simp only [Res.bind, q2, lift] at p; exact p.elim
    | some k =>
      simp only [Res.bind, q2, lift]
      intro w1 eh ok1 e1
      subst eh
      cases k with
      | true =>
        refine iteT ⟨w1, env, ω, rfl, s.ext ok1 e1, ?_⟩
        simp only [Res.bind, q2, lift, if_true] at p
        exact Post.later p e1
      | false =>
        simp only [Res.bind, q2, lift, Bool.false_eq_true, if_false] at p
        have p' : Post G w (.ok false w1.h) _ _ := p
        exact iteF (p' w1 rfl ok1 e1)
theorem orT_cons (h : PT X e (tT G B Wx F gl a)) (h2 : PW X (.BoolOp .Or (e' :: es) pos) (tOrT' G B Wx F gl (.cons b bs))) : PW X (.BoolOp .Or (e :: e' :: es) pos) (tOrT' G B Wx F gl (.cons a (.cons b bs))) := by
  refine PW.imp (pw_or h h2) fun σ H Q ⟨w, env, ω, e, s, p⟩ => ?_
  subst e
  have p : Post G w (evOr F gl env (.cons a (.cons b bs)) w.h).test _ _ := p
  rw [evOr] at p
  refine ⟨w, env, ω, rfl, s, ?_⟩
  unfold Res.test at p ⊢
  cases q1 : evE F gl env a w.h with
  | bad => rw [q1] at p; exact p.elim
  | exc x h => rw [q1] at p; exact p
  | ok d1 h1 =>
    rw [q1] at p
    cases q2 : truth (see h1 d1) with
    | none => simp only [Res.bind, q2, lift] at p; exact p.elim
    | some k =>
      simp only [Res.bind, q2, lift]
      intro w1 eh ok1 e1
      subst eh
      cases k with
      | false =>
        refine iteF ⟨w1, env, ω, rfl, s.ext ok1 e1, ?_⟩
        simp only [Res.bind, q2, lift] at p
        exact Post.later p e1
      | true =>
        simp only [Res.bind, q2, lift, if_true] at p
        have p' : Post G w (.ok true w1.h) _ _ := p
        exact iteT (p' w1 rfl ok1 e1)
end
end Rf
set_option Elab.async false
set_option linter.all false
set_option maxRecDepth 100000
set_option maxHeartbeats 8000000
/-! G13: all expressions -/
namespace Rf
open PySem L2 PySem.Spec PyProof.Rows
theorem blk_ok {N : List Str} {sc scope : Scope} {own : List Nat} (h : blkB N sc scope own = true) : BlkOk N sc scope (ownOf N own) := by
  unfold blkB at h
  simp only [Bool.and_eq_true] at h
  obtain ⟨⟨⟨⟨h1, h2⟩, h3⟩, h4⟩, h5⟩ := h
  refine ⟨by simpa using h1, fun y hy => by simpa using List.all_eq_true.mp h2 y hy, fun p hp => ?_, fun y hy hf => ?_, fun y hy hf => ?_⟩
  · unfold ownOf at hp
    obtain ⟨i, hi, rfl⟩ := List.mem_map.mp hp
    have q := List.all_eq_true.mp h3 i hi
    have hl : i < N.length := by simpa using q
    show N[i]? = some (N.getD i "")
    rw [List.getD_eq_getElem?_getD, List.getElem?_eq_getElem hl]
    rfl
  · have q := List.all_eq_true.mp h4 y hy
    rw [if_pos (by rw [hf]; rfl)] at q
    split at q
    · rename_i e; exact .inl e
    · rename_i e; exact .inr e
    · cases q
  · have q := List.all_eq_true.mp h5 y hy
    rw [if_pos (by rcases hf with e | e <;> rw [e] <;> rfl), Bool.or_eq_true] at q
    rcases q with q | q
    · left
      unfold ownOf
      rw [List.map_map]
      have q' : y.1 ∈ own.map (fun i => N.getD i "") := by simpa using q
      exact q'
    · right
      simpa using q
section
variable {G : Gm} {B : Bs} {w w1 w' : W} {Wx : WX} {F : FTab} {gl : Nat → Option D} {C : Ck} {n : Nat} {sc lsc : Scope} {X : Cx}
theorem XOk.blk {scope : Scope} {own : List Nat} (ok : XOk G C gl F n sc lsc X) (hb : blkB C.N sc scope own = true) (s : Shared) (H : Hp) (Ca : Addr) (cl : List (Str × Addr)) (fp : List Addr) :
    XOk G C gl F n (relS scope sc) scope (X.blk s H scope (compEnvC scope cl Ca X.env) fp) where
  K := ok.K
  N := ok.N
  nd := ok.nd
  hsc := by
    have e := ok.hsc
    subst e
    rfl
  calm := ok.calm
  hu := ok.hu
  room := ok.room
  fnl := fun x hx => by
    have e := ok.hsc
    subst e
    unfold isLoc at hx
    split at hx
    · rename_i q
      have q2 : (relS scope X.env.scope).names.lookup x = some .local := lookup_relS_keep (by decide) q
      exact ⟨.inl q2, .inr q2⟩
    · rename_i q
      have q2 : (relS scope X.env.scope).names.lookup x = some .cell := lookup_relS_keep (by decide) q
      refine ⟨.inr q2, .inl ?_⟩
      show (scope.names.lookup x == some NameKind.cell) = true
      rw [q]
      rfl
    · cases hx
  glob := ok.glob
  blt := ok.blt
  po := PassesOwn.never
  cls := ok.cls
  fn := ok.fn
  exc := ok.exc
  exm := ok.exm
  ot := ok.ot
  sy := ok.sy
  ft := ok.ft
  mt := ok.mt
  mkr := ok.mkr
theorem bopOk {op : BOp} {o : Operator} (h : ckBop op o = true) : o = bop op := by
  cases op <;> cases o <;> first | rfl | cases h
theorem copOk {op : COp} {o : CmpOp} (h : ckCop op o = true) : o = cop op := by
  cases op <;> cases o <;> first | rfl | cases h
theorem b_of {e : Expr} {c : CE} (ok : XOk G C gl F n sc lsc X) (h : ckE C sc c e = true) (he : PE X e (tE G B Wx F gl c)) : PE X e (tBa G B Wx F gl c) := by
  cases c with
  | var i =>
    unfold ckE at h
    split at h
    · rw [Bool.and_eq_true, beq_iff_eq] at h
      exact b_var ok h.1 h.2
    · cases h
  | _ => exact b_other (fun _ q => by cases q) he
theorem o_of {e : Expr} {c : CE} (ok : XOk G C gl F n sc lsc X) (h : ckE C sc c e = true) (he : PE X e (tE G B Wx F gl c)) : PE X e (tBo G B Wx F gl c) := by
  cases c with
  | var i =>
    unfold ckE at h
    split at h
    · rw [Bool.and_eq_true, beq_iff_eq] at h
      exact o_var ok h.1 h.2
    · cases h
  | _ => exact o_other (fun _ q => by cases q) he
mutual
theorem okE (go : G.Ok) : ∀ (c : CE) {sc lsc : Scope} {X : Cx} {Wx : WX} {e : Expr}, XOk G C gl F n sc lsc X → Takes X Wx → ckE C sc c e = true → PE X e (tE G B Wx F gl c)
  | .cst k, sc, lsc, X, Wx, e, ok, tk, h => by
    unfold ckE at h
    split at h
    rotate_left
    · cases h
    split at h
    · exact e_none
    · rw [beq_iff_eq] at h; subst h; exact e_bl
    · rw [beq_iff_eq] at h; subst h; exact e_int
    · rw [Bool.and_eq_true, beq_iff_eq] at h
      obtain ⟨h1, h2⟩ := h
      subst h1
      exact e_str (by simpa using h2)
    · cases h
  | .var i, sc, lsc, X, Wx, e, ok, tk, h => by
    unfold ckE at h
    split at h
    rotate_left
    · cases h
    rw [Bool.and_eq_true, beq_iff_eq] at h
    exact e_var ok h.1 h.2
  | .glob g, sc, lsc, X, Wx, e, ok, tk, h => by
    unfold ckE at h
    split at h
    rotate_left
    · cases h
    rw [Bool.and_eq_true, beq_iff_eq] at h
    exact e_glob ok h.1 h.2
  | .bin op a b, sc, lsc, X, Wx, e, ok, tk, h => by
    unfold ckE at h
    split at h
    rotate_left
    · cases h
    simp only [Bool.and_eq_true] at h
    rw [bopOk h.1.1]
    exact e_bin ok go tk (okE go a ok tk h.1.2) (okE go b ok tk h.2)
  | .neg a, sc, lsc, X, Wx, e, ok, tk, h => by
    unfold ckE at h
    split at h
    rotate_left
    · cases h
    exact e_neg (okE go a ok tk h)
  | .cmp op a b, sc, lsc, X, Wx, e, ok, tk, h => by
    unfold ckE at h
    split at h
    rotate_left
    · cases h
    simp only [Bool.and_eq_true] at h
    rw [copOk h.1.1.1]
    exact e_cmp ok go tk (okE go a ok tk h.1.1.2) (o_of ok h.1.2 (okE go b ok tk h.1.2)) h.2
  | .chain op op' a b c, sc, lsc, X, Wx, e, ok, tk, h => by
    unfold ckE at h
    split at h
    rotate_left
    · cases h
    simp only [Bool.and_eq_true] at h
    obtain ⟨⟨⟨⟨⟨⟨h1, h2⟩, h3⟩, h4⟩, h5⟩, h6⟩, h7⟩ := h
    rw [copOk h1, copOk h2]
    exact e_chain ok.K ok.hu (okE go a ok tk h3) (okE go b ok tk h4) (okE go c ok tk h5) h7
  | .and as, sc, lsc, X, Wx, e, ok, tk, h => by
    unfold ckE at h
    split at h
    rotate_left
    · cases h
    refine PE.imp (okAnd go as ok tk h) fun σ H Q ⟨w, env, ω, e, s, p⟩ => ⟨w, env, ω, e, s, ?_⟩
    rw [evE] at p
    exact p
  | .or as, sc, lsc, X, Wx, e, ok, tk, h => by
    unfold ckE at h
    split at h
    rotate_left
    · cases h
    refine PE.imp (okOr go as ok tk h) fun σ H Q ⟨w, env, ω, e, s, p⟩ => ⟨w, env, ω, e, s, ?_⟩
    rw [evE] at p
    exact p
  | .not a, sc, lsc, X, Wx, e, ok, tk, h => by
    unfold ckE at h
    split at h
    rotate_left
    · cases h
    exact e_not ok.K (okE go a ok tk h)
  | .ife t a b, sc, lsc, X, Wx, e, ok, tk, h => by
    unfold ckE at h
    split at h
    rotate_left
    · cases h
    simp only [Bool.and_eq_true] at h
    exact e_ife (okT go t ok tk h.1.1.1 h.2) (okE go a ok tk h.1.1.2) (okE go b ok tk h.1.2)
  | .tup as, sc, lsc, X, Wx, e, ok, tk, h => by
    unfold ckE at h
    split at h
    rotate_left
    · cases h
    exact e_tup (okEs go as ok tk h)
  | .lst as, sc, lsc, X, Wx, e, ok, tk, h => by
    unfold ckE at h
    split at h
    rotate_left
    · cases h
    exact e_lst (okEs go as ok tk h)
  | .sub a i, sc, lsc, X, Wx, e, ok, tk, h => by
    unfold ckE at h
    split at h
    rotate_left
    · cases h
    simp only [Bool.and_eq_true] at h
    exact e_sub ok.K (b_of ok h.1.1 (okE go a ok tk h.1.1)) (okE go i ok tk h.1.2) h.2
  | .slice a lo hi, sc, lsc, X, Wx, e, ok, tk, h => by
    unfold ckE at h
    split at h
    rotate_left
    · cases h
    simp only [Bool.and_eq_true] at h
    exact e_slice ok.K (b_of ok h.1.1 (okE go a ok tk h.1.1)) (okO go lo ok tk h.1.2) (okO go hi ok tk h.2)
  | .call f as, sc, lsc, X, Wx, e, ok, tk, h => by
    unfold ckE at h
    split at h
    rotate_left
    · cases h
    rename_i x p es pos
    simp only [Bool.and_eq_true, beq_iff_eq, Bool.not_eq_true'] at h
    obtain ⟨⟨⟨⟨h1, h2⟩, h3⟩, h4⟩, h5⟩ := h
    cases es with
    | nil =>
      cases as with
      | nil => exact e_call0 ok tk h1 h2 h3
      | cons a as => unfold ckEs at h4; cases h4
      | star a as => unfold ckEs at h4; cases h4
    | cons e es => exact e_call ok tk h1 h2 h3 h5 (okEs go as ok tk h4)
  | .blt b as, sc, lsc, X, Wx, e, ok, tk, h => by
    unfold ckE at h
    split at h
    rotate_left
    · cases h
    rename_i x p es pos
    simp only [Bool.and_eq_true, beq_iff_eq, Bool.not_eq_true'] at h
    obtain ⟨⟨⟨⟨⟨h1, h2⟩, h3⟩, h4⟩, h5⟩, h6⟩ := h
    subst h2
    cases es with
    | nil => cases h6
    | cons e es => exact e_blt ok h1 h3 h5 (okBs go as ok tk h4)
  | .bm m o as, sc, lsc, X, Wx, e, ok, tk, h => by
    unfold ckE at h
    split at h
    rotate_left
    · cases h
    simp only [Bool.and_eq_true, beq_iff_eq] at h
    obtain ⟨⟨⟨⟨⟨h1, h2⟩, h3⟩, h4⟩, h5⟩, h6⟩ := h
    subst h1
    refine e_bm ok h2 (by rw [h3]; exact beq_self_eq_true _) (b_of ok h4 (okE go o ok tk h4)) ?_ (okBs go as ok tk h5)
    split at h6
    · cases as with
      | nil => exact .inl ⟨rfl, rfl⟩
      | cons a as => unfold ckEs at h5; cases h5
      | star a as => unfold ckEs at h5; cases h5
    · exact .inr ⟨_, rfl, h6⟩
    · cases h6
  | .meth o m as, sc, lsc, X, Wx, e, ok, tk, h => by
    unfold ckE at h
    split at h
    rotate_left
    · cases h
    rename_i l x p2 es p
    simp only [Bool.and_eq_true, beq_iff_eq, Bool.not_eq_true', decide_eq_true_eq] at h
    obtain ⟨⟨⟨⟨⟨⟨⟨h1, h2⟩, h3⟩, h4⟩, h5⟩, h6⟩, h7⟩, h8⟩ := h
    exact e_meth ok go tk h1 h2 h3 (by rw [h4]; exact beq_self_eq_true _) (okE go o ok tk h5) h7 h8 (okEs go as ok tk h6) (fun e => by subst e; cases as <;> first | rfl | (unfold ckEs at h6; cases h6))
  | .attr o f, sc, lsc, X, Wx, e, ok, tk, h => by
    unfold ckE at h
    split at h
    rotate_left
    · cases h
    simp only [Bool.and_eq_true, beq_iff_eq] at h
    obtain ⟨⟨h1, h2⟩, h3⟩ := h
    exact e_attr ok go h1 h2 (b_of ok h3 (okE go o ok tk h3))
  | .make c as, sc, lsc, X, Wx, e, ok, tk, h => by
    unfold ckE at h
    split at h
    rotate_left
    · cases h
    simp only [Bool.and_eq_true, beq_iff_eq, Bool.not_eq_true'] at h
    obtain ⟨⟨⟨⟨⟨h1, h0⟩, h2⟩, h3⟩, h4⟩, h5⟩ := h
    exact e_make ok tk h1 (by simpa using h0) h2 h3 h5 (okEs go as ok tk h4) (fun e => by subst e; cases as <;> first | rfl | (unfold ckEs at h4; cases h4))
  | .isi a t, sc, lsc, X, Wx, e, ok, tk, h => by
    unfold ckE at h
    split at h
    rotate_left
    · cases h
    simp only [Bool.and_eq_true, beq_iff_eq] at h
    obtain ⟨⟨⟨⟨⟨h1, h2⟩, h3⟩, h4⟩, h5⟩, h6⟩ := h
    subst h1
    exact e_isi ok go h2 h6 h4 h5 (okE go a ok tk h3)
  | .lc elt own t src cond, sc, lsc, X, Wx, e, ok, tk, h => by
    unfold ckE at h
    split at h
    rotate_left
    · cases h
    simp only [Bool.and_eq_true] at h
    obtain ⟨⟨⟨⟨⟨⟨⟨h1, h2⟩, h3⟩, h4⟩, h5⟩, h6⟩, h7⟩, h8⟩ := h
    exact e_lc ok h1 (okI go src ok tk h2) (by rw [ok.N, ok.hsc]; exact blk_ok h4) h5
      (fun s H Ca cl fp => g_tg (ok.blk h4 s H Ca cl fp) h6)
      (fun s H Ca cl fp => okC go cond (ok.blk h4 s H Ca cl fp) takes0 h8)
      (fun s H Ca cl fp => okE go elt (ok.blk h4 s H Ca cl fp) takes0 h7) h3
  | .newc as, sc, lsc, X, Wx, e, ok, tk, h => by
    unfold ckE at h
    split at h
    rotate_left
    · cases h
    exact e_newc (okEs go as ok tk h)
theorem okT (go : G.Ok) : ∀ (c : CE) {sc lsc : Scope} {X : Cx} {Wx : WX} {e : Expr}, XOk G C gl F n sc lsc X → Takes X Wx → ckE C sc c e = true → ckT C sc c = true → PT X e (tT G B Wx F gl c)
  | .and as, sc, lsc, X, Wx, e, ok, tk, h, ht => by
    unfold ckE at h
    unfold ckT at ht
    split at h
    rotate_left
    · cases h
    refine PT.imp (okAndT go as ok tk h ht).pt fun σ H Q ⟨w, env, ω, e, s, p⟩ => ⟨w, env, ω, e, s, ?_⟩
    rw [evE] at p
    exact p
  | .or as, sc, lsc, X, Wx, e, ok, tk, h, ht => by
    unfold ckE at h
    unfold ckT at ht
    split at h
    rotate_left
    · cases h
    refine PT.imp (okOrT go as ok tk h ht).pt fun σ H Q ⟨w, env, ω, e, s, p⟩ => ⟨w, env, ω, e, s, ?_⟩
    rw [evE] at p
    exact p
  | .not a, sc, lsc, X, Wx, e, ok, tk, h, ht => by
    unfold ckE at h
    unfold ckT at ht
    split at h
    rotate_left
    · cases h
    exact t_not (okT go a ok tk h ht)
  | .cmp op a b, sc, lsc, X, Wx, e, ok, tk, h, ht => by
    unfold ckE at h
    split at h
    rotate_left
    · cases h
    simp only [Bool.and_eq_true] at h
    rw [copOk h.1.1.1]
    exact t_cmp ok go tk (okE go a ok tk h.1.1.2) (o_of ok h.1.2 (okE go b ok tk h.1.2)) h.2
  | .chain op op' a b c, sc, lsc, X, Wx, e, ok, tk, h, ht => by
    unfold ckE at h
    split at h
    rotate_left
    · cases h
    simp only [Bool.and_eq_true] at h
    obtain ⟨⟨⟨⟨⟨⟨h1, h2⟩, h3⟩, h4⟩, h5⟩, h6⟩, h7⟩ := h
    rw [copOk h1, copOk h2]
    exact t_chain ok.K ok.hu (okE go a ok tk h3) (okE go b ok tk h4) (okE go c ok tk h5) h7
  | .ife _ _ _, _, _, _, _, _, _, _, _, ht => by unfold ckT at ht; cases ht
  | .cst k, sc, lsc, X, Wx, e, ok, tk, h, _ => t_truth ok.K (by unfold ckE at h; split at h; rfl; cases h) (okE go (.cst k) ok tk h)
  | .var i, sc, lsc, X, Wx, e, ok, tk, h, _ => t_truth ok.K (by unfold ckE at h; split at h; rfl; cases h) (okE go (.var i) ok tk h)
  | .glob i, sc, lsc, X, Wx, e, ok, tk, h, _ => t_truth ok.K (by unfold ckE at h; split at h; rfl; cases h) (okE go (.glob i) ok tk h)
  | .bin o a b, sc, lsc, X, Wx, e, ok, tk, h, _ => t_truth ok.K (by unfold ckE at h; split at h; rfl; cases h) (okE go (.bin o a b) ok tk h)
  | .neg a, sc, lsc, X, Wx, e, ok, tk, h, _ => t_truth ok.K (by unfold ckE at h; split at h; rfl; cases h) (okE go (.neg a) ok tk h)
  | .tup a, sc, lsc, X, Wx, e, ok, tk, h, _ => t_truth ok.K (by unfold ckE at h; split at h; rfl; cases h) (okE go (.tup a) ok tk h)
  | .lst a, sc, lsc, X, Wx, e, ok, tk, h, _ => t_truth ok.K (by unfold ckE at h; split at h; rfl; cases h) (okE go (.lst a) ok tk h)
  | .sub a b, sc, lsc, X, Wx, e, ok, tk, h, _ => t_truth ok.K (by unfold ckE at h; split at h; rfl; cases h) (okE go (.sub a b) ok tk h)
  | .slice a b c, sc, lsc, X, Wx, e, ok, tk, h, _ => t_truth ok.K (by unfold ckE at h; split at h; rfl; cases h) (okE go (.slice a b c) ok tk h)
  | .call a b, sc, lsc, X, Wx, e, ok, tk, h, _ => t_truth ok.K (by unfold ckE at h; split at h; rfl; cases h) (okE go (.call a b) ok tk h)
  | .blt a b, sc, lsc, X, Wx, e, ok, tk, h, _ => t_truth ok.K (by unfold ckE at h; split at h; rfl; cases h) (okE go (.blt a b) ok tk h)
  | .isi a b, sc, lsc, X, Wx, e, ok, tk, h, _ => t_truth ok.K (by unfold ckE at h; split at h; rfl; cases h) (okE go (.isi a b) ok tk h)
  | .lc a b c d f, sc, lsc, X, Wx, e, ok, tk, h, _ => t_truth ok.K (by unfold ckE at h; split at h; rfl; cases h) (okE go (.lc a b c d f) ok tk h)
  | .bm a b c, sc, lsc, X, Wx, e, ok, tk, h, _ => t_truth ok.K (by unfold ckE at h; split at h; rfl; cases h) (okE go (.bm a b c) ok tk h)
  | .meth a b c, sc, lsc, X, Wx, e, ok, tk, h, _ => t_truth ok.K (by unfold ckE at h; split at h; rfl; cases h) (okE go (.meth a b c) ok tk h)
  | .attr a b, sc, lsc, X, Wx, e, ok, tk, h, _ => t_truth ok.K (by unfold ckE at h; split at h; rfl; cases h) (okE go (.attr a b) ok tk h)
  | .make a b, sc, lsc, X, Wx, e, ok, tk, h, _ => t_truth ok.K (by unfold ckE at h; split at h; rfl; cases h) (okE go (.make a b) ok tk h)
  | .newc as, sc, lsc, X, Wx, e, ok, tk, h, _ => t_truth ok.K (by unfold ckE at h; split at h; rfl; cases h) (okE go (.newc as) ok tk h)
theorem okEs (go : G.Ok) : ∀ (cs : CEs) {sc lsc : Scope} {X : Cx} {Wx : WX} {es : List Expr}, XOk G C gl F n sc lsc X → Takes X Wx → ckEs C sc cs es = true → PA X es (tEs G B Wx F gl cs)
  | .nil, sc, lsc, X, Wx, es, ok, tk, h => by
    unfold ckEs at h
    rw [List.isEmpty_iff] at h
    subst h
    exact a_nil
  | .cons a as, sc, lsc, X, Wx, es, ok, tk, h => by
    unfold ckEs at h
    split at h
    rotate_left
    · cases h
    simp only [Bool.and_eq_true] at h
    exact a_cons h.1.1 (okE go a ok tk h.1.2) (okEs go as ok tk h.2)
  | .star a as, sc, lsc, X, Wx, es, ok, tk, h => by
    unfold ckEs at h
    split at h
    rotate_left
    · cases h
    simp only [Bool.and_eq_true] at h
    exact a_star ok.K (okE go a ok tk h.1) (okEs go as ok tk h.2)
theorem okBs (go : G.Ok) : ∀ (cs : CEs) {sc lsc : Scope} {X : Cx} {Wx : WX} {es : List Expr}, XOk G C gl F n sc lsc X → Takes X Wx → ckEs C sc cs es = true → PA X es (tBs G B Wx F gl cs)
  | .nil, sc, lsc, X, Wx, es, ok, tk, h => by
    unfold ckEs at h
    rw [List.isEmpty_iff] at h
    subst h
    exact bs_nil
  | .cons a as, sc, lsc, X, Wx, es, ok, tk, h => by
    unfold ckEs at h
    split at h
    rotate_left
    · cases h
    simp only [Bool.and_eq_true] at h
    exact bs_cons h.1.1 (b_of ok h.1.2 (okE go a ok tk h.1.2)) (okBs go as ok tk h.2)
  | .star a as, sc, lsc, X, Wx, es, ok, tk, h => by
    unfold ckEs at h
    split at h
    rotate_left
    · cases h
    exact ⟨fun p pins s σ H Q I ⟨w, env, ω, e, st, q⟩ => by
      rw [evBs] at q
      exact q.elim⟩
theorem okAnd (go : G.Ok) : ∀ (cs : CEs) {sc lsc : Scope} {X : Cx} {Wx : WX} {es : List Expr} {pos : Pos}, XOk G C gl F n sc lsc X → Takes X Wx → ckL C sc cs es = true → PE X (.BoolOp .And es pos) (tAn G B Wx F gl cs)
  | .nil, _, _, _, _, _, _, _, _, h => by unfold ckL at h; cases h
  | .star _ _, _, _, _, _, _, _, _, _, h => by unfold ckL at h; cases h
  | .cons a .nil, sc, lsc, X, Wx, es, pos, ok, tk, h => by
    unfold ckL at h
    split at h
    · exact and_one (okE go a ok tk h)
    · cases h
  | .cons a (.star _ _), sc, lsc, X, Wx, es, pos, ok, tk, h => by
    unfold ckL at h
    cases h
  | .cons a (.cons b bs), sc, lsc, X, Wx, es, pos, ok, tk, h => by
    unfold ckL at h
    split at h
    · rw [Bool.and_eq_true] at h
      exact and_cons ok.K (okE go a ok tk h.1) (okAnd go (.cons b bs) ok tk h.2)
    · cases h
theorem okOr (go : G.Ok) : ∀ (cs : CEs) {sc lsc : Scope} {X : Cx} {Wx : WX} {es : List Expr} {pos : Pos}, XOk G C gl F n sc lsc X → Takes X Wx → ckL C sc cs es = true → PE X (.BoolOp .Or es pos) (tOr' G B Wx F gl cs)
  | .nil, _, _, _, _, _, _, _, _, h => by unfold ckL at h; cases h
  | .star _ _, _, _, _, _, _, _, _, _, h => by unfold ckL at h; cases h
  | .cons a .nil, sc, lsc, X, Wx, es, pos, ok, tk, h => by
    unfold ckL at h
    split at h
    · exact or_one (okE go a ok tk h)
    · cases h
  | .cons a (.star _ _), sc, lsc, X, Wx, es, pos, ok, tk, h => by
    unfold ckL at h
    cases h
  | .cons a (.cons b bs), sc, lsc, X, Wx, es, pos, ok, tk, h => by
    unfold ckL at h
    split at h
    · rw [Bool.and_eq_true] at h
      exact or_cons ok.K (okE go a ok tk h.1) (okOr go (.cons b bs) ok tk h.2)
    · cases h
theorem okAndT (go : G.Ok) : ∀ (cs : CEs) {sc lsc : Scope} {X : Cx} {Wx : WX} {es : List Expr} {pos : Pos}, XOk G C gl F n sc lsc X → Takes X Wx → ckL C sc cs es = true → ckTs C sc cs = true → PW X (.BoolOp .And es pos) (tAnT G B Wx F gl cs)
  | .nil, _, _, _, _, _, _, _, _, h, _ => by unfold ckL at h; cases h
  | .star _ _, _, _, _, _, _, _, _, _, h, _ => by unfold ckL at h; cases h
  | .cons a .nil, sc, lsc, X, Wx, es, pos, ok, tk, h, ht => by
    unfold ckL at h
    unfold ckTs at ht
    rw [Bool.and_eq_true] at ht
    split at h
    · exact andT_one (okT go a ok tk h ht.1)
    · cases h
  | .cons a (.star _ _), sc, lsc, X, Wx, es, pos, ok, tk, h, _ => by
    unfold ckL at h
    cases h
  | .cons a (.cons b bs), sc, lsc, X, Wx, es, pos, ok, tk, h, ht => by
    unfold ckL at h
    unfold ckTs at ht
    rw [Bool.and_eq_true] at ht
    split at h
    · rw [Bool.and_eq_true] at h
      exact andT_cons (okT go a ok tk h.1 ht.1) (okAndT go (.cons b bs) ok tk h.2 ht.2)
    · cases h
theorem okOrT (go : G.Ok) : ∀ (cs : CEs) {sc lsc : Scope} {X : Cx} {Wx : WX} {es : List Expr} {pos : Pos}, XOk G C gl F n sc lsc X → Takes X Wx → ckL C sc cs es = true → ckTs C sc cs = true → PW X (.BoolOp .Or es pos) (tOrT' G B Wx F gl cs)
  | .nil, _, _, _, _, _, _, _, _, h, _ => by unfold ckL at h; cases h
  | .star _ _, _, _, _, _, _, _, _, _, h, _ => by unfold ckL at h; cases h
  | .cons a .nil, sc, lsc, X, Wx, es, pos, ok, tk, h, ht => by
    unfold ckL at h
    unfold ckTs at ht
    rw [Bool.and_eq_true] at ht
    split at h
    · exact orT_one (okT go a ok tk h ht.1)
    · cases h
  | .cons a (.star _ _), sc, lsc, X, Wx, es, pos, ok, tk, h, _ => by
    unfold ckL at h
    cases h
  | .cons a (.cons b bs), sc, lsc, X, Wx, es, pos, ok, tk, h, ht => by
    unfold ckL at h
    unfold ckTs at ht
    rw [Bool.and_eq_true] at ht
    split at h
    · rw [Bool.and_eq_true] at h
      exact orT_cons (okT go a ok tk h.1 ht.1) (okOrT go (.cons b bs) ok tk h.2 ht.2)
    · cases h
theorem okO (go : G.Ok) : ∀ (c : CO) {sc lsc : Scope} {X : Cx} {Wx : WX} {e : Option Expr}, XOk G C gl F n sc lsc X → Takes X Wx → ckO C sc c e = true → PO X e (tO G B Wx F gl c)
  | .none, sc, lsc, X, Wx, e, ok, tk, h => by
    unfold ckO at h
    rw [Option.isNone_iff_eq_none] at h
    subst h
    exact o_none
  | .some a, sc, lsc, X, Wx, e, ok, tk, h => by
    unfold ckO at h
    split at h
    rotate_left
    · cases h
    exact o_some (okE go a ok tk h)
theorem okC (go : G.Ok) : ∀ (c : CO) {sc lsc : Scope} {X : Cx} {Wx : WX} {es : List Expr}, XOk G C gl F n sc lsc X → Takes X Wx → ckC C sc c es = true → PTs X es (tCn G B Wx F gl c)
  | .none, sc, lsc, X, Wx, e, ok, tk, h => by
    unfold ckC at h
    rw [List.isEmpty_iff] at h
    subst h
    exact PTs.imp pts_nil fun σ H Q ⟨w, env, ω, e, s, p⟩ => by
      subst e
      rw [evC] at p
      exact Post.now p s.ok
  | .some a, sc, lsc, X, Wx, es, ok, tk, h => by
    unfold ckC at h
    split at h
    rotate_left
    · cases h
    rw [Bool.and_eq_true] at h
    exact PTs.imp (pts_one (okT go a ok tk h.1 h.2)) fun σ H Q ⟨w, env, ω, e, s, p⟩ => ⟨w, env, ω, e, s, by
      rw [evC] at p
      exact p⟩
theorem okI (go : G.Ok) : ∀ (c : CI) {sc lsc : Scope} {X : Cx} {Wx : WX} {e tg : Expr}, XOk G C gl F n sc lsc X → Takes X Wx → ckI C sc c e = true → PI X tg e (tI G B Wx F gl c)
  | .of a, sc, lsc, X, Wx, e, tg, ok, tk, h => by
    unfold ckI at h
    exact i_of ok.K (okE go a ok tk h)
  | .rng1 a, sc, lsc, X, Wx, e, tg, ok, tk, h => by
    unfold ckI at h
    split at h
    rotate_left
    · cases h
    simp only [Bool.and_eq_true, beq_iff_eq] at h
    obtain ⟨⟨⟨h1, h2⟩, h3⟩, h4⟩ := h
    subst h1
    exact i_rng1 ok h2 h4 (okE go a ok tk h3)
  | .rng2 a b, sc, lsc, X, Wx, e, tg, ok, tk, h => by
    unfold ckI at h
    split at h
    rotate_left
    · cases h
    simp only [Bool.and_eq_true, beq_iff_eq] at h
    obtain ⟨⟨⟨⟨⟨h1, h2⟩, h3⟩, h4⟩, h5⟩, h6⟩ := h
    subst h1
    exact i_rng2 ok h2 h5 h6 (okE go a ok tk h3) (okE go b ok tk h4)
end
end
end Rf
set_option Elab.async false
set_option linter.all false
set_option maxRecDepth 100000
set_option maxHeartbeats 8000000
/-! G14: statements -/
namespace Rf
open PySem L2 PySem.Spec PyProof.Rows

theorem PS.imp {X : Cx} {e : Stmt} {t t' : TS} (h : PS X e t) (i : ∀ D σ H, t' D σ H → t D σ H) : PS X e t' := ⟨fun pins s σ H D I q => h.run pins s σ H D I (i D σ H q)⟩
theorem PSs.imp {X : Cx} {e : List Stmt} {t t' : TS} (h : PSs X e t) (i : ∀ D σ H, t' D σ H → t D σ H) : PSs X e t' := ⟨fun pins s σ H D I q => h.run pins s σ H D I (i D σ H q)⟩

def SPost (G : Gm) (B : Bs) (Wx : WX) (D : Ends) (w : W) (o : Out) : Prop := match o with
  | .next env' h' => ∀ w' σ' ω', w'.h = h' → Stt G B w' env' σ' ω' → Le w w' → D.nx σ' w'.H
  | .brk env' h' => ∀ w' σ' ω', w'.h = h' → Stt G B w' env' σ' ω' → Le w w' → D.bk σ' w'.H
  | .cont env' h' => ∀ w' σ' ω', w'.h = h' → Stt G B w' env' σ' ω' → Le w w' → D.ct σ' w'.H
  | .ret d h' => ∀ w' v, w'.h = h' → WOk G w' → Ext B.toW w' → Le w w' → Rep G w' d v → D.rt v w'.H
  | .exc x env' h' => ∀ w' σ' ω', w'.h = h' → Stt G B w' env' σ' ω' → Le w w' → XP G Wx σ' x w'
  | .bad => False
section
variable {G : Gm} {B : Bs} {w w1 w' : W} {Wx : WX} {F : FTab} {gl : Nat → Option D} {C : Ck} {n : Nat} {sc lsc : Scope} {X : Cx} {env env' : En} {σ : List (Option V)} {ω : Nat → Addr}
  {l m r e e' tg : Expr} {es : List Expr} {a b c : CE} {as bs : CEs} {pos p : Pos} {x y : Str} {Dn : Ends} {o : Out} {α : Type}
theorem SPost.later (h : SPost G B Wx Dn w o) (e : Le w w1) : SPost G B Wx Dn w1 o := by
  cases o with
  | next env' h' => exact fun w' σ' ω' eh s le => h w' σ' ω' eh s (e.trans le)
  | brk env' h' => exact fun w' σ' ω' eh s le => h w' σ' ω' eh s (e.trans le)
  | cont env' h' => exact fun w' σ' ω' eh s le => h w' σ' ω' eh s (e.trans le)
  | ret d h' => exact fun w' v eh ok be le r => h w' v eh ok be (e.trans le) r
  | exc x env' h' => exact fun w' σ' ω' eh s le => h w' σ' ω' eh s (e.trans le)
  | bad => exact h
theorem SPost.out {r : Res α} {k : α → Cells → Out} (s : Stt G B w env σ ω) (h : SPost G B Wx Dn w (r.out env k)) : Post G w r (fun a w1 => SPost G B Wx Dn w1 (k a w1.h)) (XP G Wx σ) := by
  cases r with
  | ok a h' =>
    intro w1 eh ok1 e1
    subst eh
    exact SPost.later (show SPost G B Wx Dn w (k a w1.h) from h) (e1.le s.ok)
  | exc x h' => exact fun w1 eh ok1 e1 => h w1 σ ω eh (s.ext ok1 e1) (e1.le s.ok)
  | bad => exact h

def tS (G : Gm) (B : Bs) (Wx : WX) (F : FTab) (gl : Nat → Option D) (c : CS) : TS := fun D σ H => ∃ w env ω, w.H = H ∧ Stt G B w env σ ω ∧ SPost G B Wx D w (evS F gl c env w.h)
def tSs (G : Gm) (B : Bs) (Wx : WX) (F : FTab) (gl : Nat → Option D) (c : CSs) : TS := fun D σ H => ∃ w env ω, w.H = H ∧ Stt G B w env σ ω ∧ SPost G B Wx D w (evSs F gl c env w.h)
/-- a new list, ours -/
def tNw (G : Gm) (B : Bs) (Wx : WX) (F : FTab) (gl : Nat → Option D) (c : CE) : TE := fun σ H Q => ∃ w env ω, w.H = H ∧ Stt G B w env σ ω ∧ PostN G w (evE F gl env c w.h) Q (XP G Wx σ)

/-! ### objects of ours in the slots -/
theorem Stt.setOwn {a : Addr} {ob : Ob} {i : Nat} (s : Stt G B w env σ ω) (h : ObAt G w a ob) (nz : ¬ w.Z a) (nl : ¬ w.live a) (hb : B.H a = none) (hn : ∀ (j : Nat) (u : Ob), env[j]? = some (Sl.own u) → ω j ≠ a) (hm : ∀ c fs, ob = .ins c fs → a = B.me) :
    Stt G B w (env.set i (.own ob)) (σ.set i (some (.ref a))) (fun j => if j = i then a else ω j) := by
  refine ⟨s.ok, s.be, ⟨by rw [List.length_set, List.length_set]; exact s.eo.len, fun j d hj => ?_, fun j u hj => ?_, fun j k u v hj hk e => ?_, fun j c fs hj => ?_⟩⟩
  · by_cases q : i = j
    · subst q
      by_cases hi : i < env.length
      · rw [List.getElem?_set_self hi] at hj; cases hj
      · rw [List.getElem?_eq_none (by rw [List.length_set]; omega)] at hj; cases hj
    · rw [List.getElem?_set_ne q] at hj ⊢
      exact s.eo.vals j d hj
  · by_cases q : i = j
    · subst q
      by_cases hi : i < env.length
      · rw [List.getElem?_set_self hi] at hj
        cases hj
        refine ⟨?_, ?_, ?_, ?_, ?_⟩
        · rw [List.getElem?_set_self (by rw [← s.eo.len]; exact hi), if_pos rfl]
        all_goals rw [if_pos rfl]; assumption
      · rw [List.getElem?_eq_none (by rw [List.length_set]; omega)] at hj; cases hj
    · rw [List.getElem?_set_ne q] at hj
      rw [List.getElem?_set_ne q, if_neg (Ne.symm q)]
      exact s.eo.own j u hj
  · have key : ∀ (j : Nat) (u : Ob), (env.set i (Sl.own ob))[j]? = some (Sl.own u) → j = i ∨ (j ≠ i ∧ env[j]? = some (Sl.own u)) := fun j u hj => by
      by_cases q : i = j
      · exact .inl q.symm
      · rw [List.getElem?_set_ne q] at hj
        exact .inr ⟨Ne.symm q, hj⟩
    rcases key j u hj with rfl | ⟨q1, h1⟩ <;> rcases key k v hk with q2 | ⟨q2, h2⟩
    · exact q2.symm
    · simp only [if_true, if_neg q2] at e
      exact (hn k v h2 e.symm).elim
    · subst q2
      simp only [if_true, if_neg q1] at e
      exact (hn j u h1 e).elim
    · simp only [if_neg q1, if_neg q2] at e
      exact s.eo.inj j k u v h1 h2 e
  · by_cases q : i = j
    · subst q
      by_cases hi : i < env.length
      · rw [List.getElem?_set_self hi] at hj
        cases hj
        rw [if_pos rfl]
        exact hm c fs rfl
      · rw [List.getElem?_eq_none (by rw [List.length_set]; omega)] at hj; cases hj
    · rw [List.getElem?_set_ne q] at hj
      rw [if_neg (Ne.symm q)]
      exact s.eo.mine j c fs hj
/-- our object in slot i is changed -/
theorem Stt.mutOwn {ob ob' : Ob} {o : HO} {i : Nat} (s : Stt G B w env σ ω) (hi : env[i]? = some (Sl.own ob)) (new : ObAt G (w.mut (ω i) o) (ω i) ob') (hm : ∀ c fs, ob' = .ins c fs → ω i = B.me) : Stt G B (w.mut (ω i) o) (env.set i (.own ob')) σ ω ∧ Le w (w.mut (ω i) o) := by
  obtain ⟨h1, h2, h3, h4, h5⟩ := s.eo.own i ob hi
  obtain ⟨u, hu, su⟩ := h2.soft
  have le : Le w (w.mut (ω i) o) := W.mut_le h3 hu su
  have hil : i < env.length := (List.getElem?_eq_some_iff.mp hi).1
  refine ⟨⟨W.mut_ok s.ok h3 h4 hu su, W.mut_ext s.be h5, ⟨by rw [List.length_set]; exact s.eo.len, fun j d hj => ?_, fun j v hj => ?_, fun j k u v hj hk e => ?_, fun j c fs hj => ?_⟩⟩, le⟩
  · by_cases q : i = j
    · subst q
      rw [List.getElem?_set_self hil] at hj; cases hj
    · rw [List.getElem?_set_ne q] at hj
      obtain ⟨z, hz, rz⟩ := s.eo.vals j d hj
      exact ⟨z, hz, rz.le le⟩
  · by_cases q : i = j
    · subst q
      rw [List.getElem?_set_self hil] at hj
      cases hj
      exact ⟨h1, new, h3, h4, h5⟩
    · rw [List.getElem?_set_ne q] at hj
      obtain ⟨k1, k2, k3, k4, k5⟩ := s.eo.own j v hj
      have ne : ω j ≠ ω i := fun z => q (s.eo.inj j i v ob hj hi z).symm
      exact ⟨k1, k2.le_ne le (by show upd w.H (ω i) o (ω j) = _; rw [upd_ne ne]), k3, k4, k5⟩
  · have key : ∀ (j : Nat) (u : Ob), (env.set i (Sl.own ob'))[j]? = some (Sl.own u) → ∃ u', env[j]? = some (Sl.own u') := fun j u hj => by
      by_cases q : i = j
      · subst q; exact ⟨ob, hi⟩
      · rw [List.getElem?_set_ne q] at hj; exact ⟨u, hj⟩
    obtain ⟨u', hu'⟩ := key j u hj
    obtain ⟨v', hv'⟩ := key k v hk
    exact s.eo.inj j k u' v' hu' hv' e
  · by_cases q : i = j
    · subst q
      rw [List.getElem?_set_self hil] at hj
      cases hj
      exact hm c fs rfl
    · rw [List.getElem?_set_ne q] at hj
      exact s.eo.mine j c fs hj
/-- our object in slot i is frozen -/
theorem Stt.frz {ob : Ob} {i : Nat} (s : Stt G B w env σ ω) (hi : env[i]? = some (Sl.own ob)) : Stt G B (w.fz (ω i)) (env.set i (.val (obD ob))) σ ω := by
  obtain ⟨h1, h2, h3, h4, h5⟩ := s.eo.own i ob hi
  obtain ⟨u, hu, su⟩ := h2.soft
  have le : Le w (w.fz (ω i)) := W.fz_le
  have hil : i < env.length := (List.getElem?_eq_some_iff.mp hi).1
  refine ⟨W.fz_ok s.ok h4 hu, W.fz_ext s.be h5, ⟨by rw [List.length_set]; exact s.eo.len, fun j d hj => ?_, fun j v hj => ?_, fun j k u v hj hk e => ?_, fun j c fs hj => ?_⟩⟩
  · by_cases q : i = j
    · subst q
      rw [List.getElem?_set_self hil] at hj
      cases hj
      refine ⟨_, h1, ?_⟩
      cases h2 with
      | lst h r => exact .lst (.inl ⟨.inr rfl, h⟩) (r.le le)
      | dk h r => exact .dk (.inr rfl) h (r.le le)
      | dt h r => exact .dt (.inr rfl) h (r.le le)
      | ins hc h r => exact .ins hc (.inr rfl) h (r.le le)
    · rw [List.getElem?_set_ne q] at hj
      obtain ⟨z, hz, rz⟩ := s.eo.vals j d hj
      exact ⟨z, hz, rz.le le⟩
  · by_cases q : i = j
    · subst q
      rw [List.getElem?_set_self hil] at hj; cases hj
    · rw [List.getElem?_set_ne q] at hj
      obtain ⟨k1, k2, k3, k4, k5⟩ := s.eo.own j v hj
      have ne : ω j ≠ ω i := fun z => q (s.eo.inj j i v ob hj hi z).symm
      exact ⟨k1, k2.le_ne le rfl, fun z => z.elim k3 ne, k4, k5⟩
  · have key : ∀ (j : Nat) (u : Ob), (env.set i (Sl.val (obD ob)))[j]? = some (Sl.own u) → env[j]? = some (Sl.own u) := fun j u hj => by
      by_cases q : i = j
      · subst q
        rw [List.getElem?_set_self hil] at hj; cases hj
      · rw [List.getElem?_set_ne q] at hj; exact hj
    exact s.eo.inj j k u v (key j u hj) (key k v hk) e
  · by_cases q : i = j
    · subst q
      rw [List.getElem?_set_self hil] at hj
      cases hj
    · rw [List.getElem?_set_ne q] at hj
      exact s.eo.mine j c fs hj
/-- a live object is changed -/
theorem cell_mutG {k : Nat} {ob ob' : Ob} {o' : HO} (ok : WOk G w) (hk : w.h[k]? = some (some ob)) (mk : ∀ w', Ext w w' → w'.H (w.ι k) = some o' → ObAt G w' (w.ι k) ob') :
    let w' : W := ⟨w.Z, w.ι, w.h.set k (some ob'), upd w.H (w.ι k) o'⟩; WOk G w' ∧ Ext w w' := by
  intro w'
  obtain ⟨h2, h3⟩ := ok.cell k _ hk
  obtain ⟨u, hu, su⟩ := h2.soft
  have hkl : k < w.h.length := (List.getElem?_eq_some_iff.mp hk).1
  have live : w.live (w.ι k) := ⟨k, _, hk, rfl⟩
  have ex : Ext w w' := {
    z := fun _ z => z
    zn := fun _ z => .inl z
    ι := fun _ _ => rfl
    len := by show w.h.length ≤ (w.h.set k _).length; rw [List.length_set]; exact Nat.le_refl _
    lv := fun i o hi h => by
      have h' : (w.h.set k (some ob'))[i]? = some (some o) := h
      by_cases q : k = i
      · subst q; exact ⟨_, hk⟩
      · rw [List.getElem?_set_ne q] at h'; exact ⟨o, h'⟩
    fresh := fun i o hi h => by
      have h' : (w.h.set k (some ob'))[i]? = some (some o) := h
      rw [List.getElem?_eq_none (by rw [List.length_set]; exact hi)] at h'
      cases h'
    keep := fun a o h nl => by
      show upd w.H (w.ι k) _ a = some o
      rw [upd_ne (fun q : a = w.ι k => nl (by rw [q]; exact live))]
      exact h
    dom := fun a h => by
      have h' : upd w.H (w.ι k) _ a = none := h
      by_cases q : a = w.ι k
      · rw [q, upd_same] at h'; cases h'
      · rw [upd_ne q] at h'; exact h' }
  refine ⟨⟨fun i o h => ?_, fun i j a b h1 h2' e => ?_, fun a z => ?_⟩, ex⟩
  · have h' : (w.h.set k (some ob'))[i]? = some (some o) := h
    by_cases q : k = i
    · subst q
      rw [List.getElem?_set_self hkl] at h'
      cases h'
      exact ⟨mk w' ex upd_same, h3⟩
    · rw [List.getElem?_set_ne q] at h'
      obtain ⟨k1, k2⟩ := ok.cell i o h'
      have ne : w.ι i ≠ w.ι k := fun z => q (ok.inj i k o _ h' hk z).symm
      exact ⟨k1.le_ne (ex.le ok) (by show upd w.H (w.ι k) _ (w.ι i) = _; rw [upd_ne ne]), k2⟩
  · have key : ∀ (i : Nat) (o : Ob), (w.h.set k (some ob'))[i]? = some (some o) → ∃ o', w.h[i]? = some (some o') := fun i o h => by
      by_cases q : k = i
      · subst q; exact ⟨_, hk⟩
      · rw [List.getElem?_set_ne q] at h; exact ⟨o, h⟩
    obtain ⟨a', ha⟩ := key i a h1
    obtain ⟨b', hb⟩ := key j b h2'
    exact ok.inj i j a' b' ha hb e
  · obtain ⟨x, hx⟩ := ok.zin a z
    refine ⟨x, ?_⟩
    show upd w.H (w.ι k) _ a = some x
    rw [upd_ne (fun q : a = w.ι k => h3 (by rw [← q]; exact z))]
    exact hx
/-- a live list is changed -/
theorem cell_mut {k : Nat} {ds ds' : List D} {vs' : List V} (ok : WOk G w) (hk : w.h[k]? = some (some (.lst ds))) (r : Reps G w ds' vs') :
    let w' : W := ⟨w.Z, w.ι, w.h.set k (some (.lst ds')), upd w.H (w.ι k) (.lst vs')⟩; WOk G w' ∧ Ext w w' :=
  cell_mutG ok hk fun w' e hh => .lst hh (r.ext ok e)
end
end Rf
set_option Elab.async false
set_option linter.all false
set_option maxRecDepth 100000
set_option maxHeartbeats 8000000
/-! G15: statements, one by one -/
namespace Rf
open PySem L2 PySem.Spec PyProof.Rows
/-- the value is no comprehension -/
def noComp : Expr → Bool
  | .ListComp .. => false
  | .SetComp .. => false
  | .DictComp .. => false
  | _ => true
def noDisp : Expr → Bool
  | .Tuple .. => false
  | .List .. => false
  | _ => true
theorem swaps_none {v : Expr} (h : noComp v = true) (t : Option Expr) (n : Nat) (env : Env) : swapsWith v t n env = pure false := by
  cases v <;> first | rfl | cases h
/-- name = [..] on one line -/
def swapB (sc : Scope) (x : Str) (px : Pos) (scope : Scope) (vp : Pos) : Bool :=
  sc.names.lookup x == some .local && px.line == vp.line && !(scope.names.any fun y => y.1 == x && (y.2 == .local || y.2 == .cell))
section
variable {G : Gm} {B : Bs} {w w1 w' : W} {Wx : WX} {F : FTab} {gl : Nat → Option D} {C : Ck} {n : Nat} {sc lsc : Scope} {X : Cx} {env env' : En} {σ : List (Option V)} {ω : Nat → Addr}
  {l m r e e' v it el : Expr} {es : List Expr} {a b c : CE} {as bs : CEs} {pos p : Pos} {x y : Str} {Dn : Ends} {i : Nat}
theorem swaps_lc (hk : X.env.scope.kind = .function) (ln : Nat) {scope : Scope} {gs : List Comprehension} : swapsWith (.ListComp el gs scope pos) (some (.Name x p)) ln X.env = pure (swapB X.env.scope x p scope pos) := by
  unfold swapsWith swapB Env.blockKind Env.kindOf
  rw [hk]
  rfl
theorem s_set (hN : C.N.Nodup) (ok : XOk G C gl F n sc lsc X) (hi : C.N[i]? = some x) (hl : isLoc lsc x = true) (hv : PE X v (tE G B Wx F gl c)) (hs : swapsWith v (some (.Name x p)) pos.line X.env = pure false) :
    PS X (.Assign [.Name x p] v pos) (tS G B Wx F gl (.set i c)) := by
  obtain ⟨h1, h2⟩ := ok.fnl x hl
  refine PS.imp (ps_set (by rw [ok.N]; exact hN) (by rw [ok.N]; exact hi) h1 hv hs h2) fun D σ H ⟨w, env, ω, e, s, p⟩ => ?_
  subst e
  rw [evS] at p
  refine ⟨w, env, ω, rfl, s, (SPost.out s p).mono (fun d w1 ok1 e1 q v r => ?_) fun _ _ _ _ h => h⟩
  have s1 := s.ext ok1 e1
  exact q w1 _ ω rfl ⟨ok1, s1.be, s1.eo.set r⟩ (Le.refl _)
/-- the same for a comprehension on one line -/
theorem s_setLc {tg : Expr} {ifs : List Expr} {scope : Scope} {elt : CE} {own : List Nat} {t : Tg} {src : CI} {cond : CO} (ok : XOk G C gl F n sc lsc X) (hc : C.calm = true) (hi : C.N[i]? = some x)
    (hsw : swapB X.env.scope x p scope pos = true)
    (hit : PI X tg it (tI G B Wx F gl src)) (hb : BlkOk X.N X.env.scope scope (ownOf C.N own)) (hin : tgIn t own = true)
    (hg : ∀ (s : Shared) (H : Hp) (Ca : Addr) (cl : List (Str × Addr)) (fp : List Addr), PG (X.blk s H scope (compEnvC scope cl Ca X.env) fp) tg (gTg G.K t))
    (ht : ∀ (s : Shared) (H : Hp) (Ca : Addr) (cl : List (Str × Addr)) (fp : List Addr), PTs (X.blk s H scope (compEnvC scope cl Ca X.env) fp) ifs (tCn G B (fun _ _ _ _ => False) F gl cond))
    (he : ∀ (s : Shared) (H : Hp) (Ca : Addr) (cl : List (Str × Addr)) (fp : List Addr), PE (X.blk s H scope (compEnvC scope cl Ca X.env) fp) el (tE G B (fun _ _ _ _ => False) F gl elt))
    (hs : plainB it = true) (hk : X.env.scope.kind = .function) {pos2 : Pos}
    {ct : CS} (hct : ∀ D σ H, tS G B Wx F gl ct D σ H → tAsg (tNw G B Wx F gl (.lc elt own t src cond)) (gName i) D σ H) :
    PS X (.Assign [.Name x p] (.ListComp el [⟨tg, it, ifs, 0⟩] scope pos) pos2) (tS G B Wx F gl ct) := by
  have hl : X.env.scope.names.lookup x = some .local := by
    unfold swapB at hsw
    simp only [Bool.and_eq_true, beq_iff_eq] at hsw
    exact hsw.1.1
  refine PS.imp (ps_setLc (ok.calm hc) (by rw [ok.N]; exact ok.nd) (by rw [ok.N]; exact hi) hl (by rw [swaps_lc hk, hsw]) hit hb hg ht he (fold_plain hs _)) fun D σ H q => ?_
  obtain ⟨w, env, ω, e, s, p⟩ := hct D σ H q
  subst e
  rw [own_map]
  exact lc_read hin s p
theorem nw_of {D : Ends} {H : Hp} (hc : ∃ elt own t src cond, c = .lc elt own t src cond) : tS G B Wx F gl (.set i c) D σ H → tAsg (tNw G B Wx F gl c) (gName i) D σ H := fun ⟨w, env, ω, e, s, p⟩ => by
  subst e
  rw [evS] at p
  obtain ⟨elt, own, t, src, cond, rfl⟩ := hc
  refine ⟨w, env, ω, rfl, s, PostN.of ((SPost.out s p).mono (fun d w1 ok1 e1 q v r => ?_) fun _ _ _ _ h => h) fun d h e => lc_lst e⟩
  have s1 := s.ext ok1 e1
  exact q w1 _ ω rfl ⟨ok1, s1.be, s1.eo.set r⟩ (Le.refl _)
theorem nw_own {D : Ends} {H : Hp} : tS G B Wx F gl (.setN i c) D σ H → tAsg (tNw G B Wx F gl c) (gName i) D σ H := fun ⟨w, env, ω, e, s, p⟩ => by
  subst e
  rw [evS] at p
  refine ⟨w, env, ω, rfl, s, ?_⟩
  cases hev : evE F gl env c w.h with
  | bad => rw [hev] at p; exact p.elim
  | exc x h =>
    rw [hev] at p
    exact fun w' eh ok' e' => p w' σ ω eh (s.ext ok' e') (e'.le s.ok)
  | ok d h =>
    rw [hev] at p
    have p : SPost G B Wx D w (if fresh c then (match newOb d with | some o => .next (env.set i (.own o)) h | none => .bad) else .bad) := p
    by_cases hf : fresh c = true
    rotate_left
    · rw [if_neg hf] at p; exact p.elim
    rw [if_pos hf] at p
    cases d with
    | lst rr =>
      intro w2 D0 acc eh ok2 e2 hD hacc racc nz nl
      have s2 := s.ext ok2 e2
      refine p w2 _ _ eh (s2.setOwn (.lst hacc racc) nz nl (s.be.dom _ hD) (fun j u hj q => ?_) fun _ _ e => nomatch e) (e2.le s.ok)
      obtain ⟨_, h2, _⟩ := s.eo.own j u hj
      obtain ⟨z, hz, _⟩ := h2.soft
      rw [q, hD] at hz
      cases hz
    | _ => exact p.elim
theorem s_setN (hN : C.N.Nodup) (ok : XOk G C gl F n sc lsc X) (hi : C.N[i]? = some x) (hl : isLoc lsc x = true) (hv : PE X v (tNw G B Wx F gl c)) (hs : swapsWith v (some (.Name x p)) pos.line X.env = pure false) :
    PS X (.Assign [.Name x p] v pos) (tS G B Wx F gl (.setN i c)) := by
  obtain ⟨h1, h2⟩ := ok.fnl x hl
  exact PS.imp (ps_set (by rw [ok.N]; exact hN) (by rw [ok.N]; exact hi) h1 hv hs h2) fun D σ H q => nw_own q
/-- a new list's own -/
theorem n_lst (h : PA X es (tEs G B Wx F gl as)) : PE X (.List es pos) (tNw G B Wx F gl (.lst as)) := by
  refine PE.imp (pe_lst h) fun σ H Q ⟨w, env, ω, e, s, p⟩ => ?_
  subst e
  rw [evE] at p
  refine ⟨w, env, ω, rfl, s, ?_⟩
  cases hev : evEs F gl env as w.h with
  | bad => rw [hev] at p; exact p.elim
  | exc x h => rw [hev] at p; exact p
  | ok ds h =>
    rw [hev] at p
    intro w1 eh ok1 e1 vs rs
    have p : PostN G w (if ds.length ≤ LIM then .ok (.lst ds) h else .bad) Q (XP G Wx σ) := p
    by_cases hz : ds.length ≤ LIM
    · rw [if_pos hz] at p
      refine ⟨by rw [← rs.length]; exact hz, fun p0 hp0 => ?_⟩
      obtain ⟨k1, k2, k3, k4⟩ := W.new_ok (o := .lst vs) ok1 hp0
      exact p (w1.mut p0 (.lst vs)) p0 vs eh k1 (e1.trans k2) (e1.dom _ hp0) upd_same (rs.ext ok1 k2) k3 k4
    · rw [if_neg hz] at p; exact p.elim
theorem n_lc {tg : Expr} {ifs : List Expr} {scope : Scope} {elt : CE} {own : List Nat} {t : Tg} {src : CI} {cond : CO} (ok : XOk G C gl F n sc lsc X) (hc : C.calm = true)
    (hi : PI X tg it (tI G B Wx F gl src)) (hb : BlkOk X.N X.env.scope scope (ownOf C.N own)) (hin : tgIn t own = true)
    (hg : ∀ (s : Shared) (H : Hp) (Ca : Addr) (cl : List (Str × Addr)) (fp : List Addr), PG (X.blk s H scope (compEnvC scope cl Ca X.env) fp) tg (gTg G.K t))
    (ht : ∀ (s : Shared) (H : Hp) (Ca : Addr) (cl : List (Str × Addr)) (fp : List Addr), PTs (X.blk s H scope (compEnvC scope cl Ca X.env) fp) ifs (tCn G B (fun _ _ _ _ => False) F gl cond))
    (he : ∀ (s : Shared) (H : Hp) (Ca : Addr) (cl : List (Str × Addr)) (fp : List Addr), PE (X.blk s H scope (compEnvC scope cl Ca X.env) fp) el (tE G B (fun _ _ _ _ => False) F gl elt))
    (hs : plainB it = true) : PE X (.ListComp el [⟨tg, it, ifs, 0⟩] scope pos) (tNw G B Wx F gl (.lc elt own t src cond)) := by
  refine PE.imp (pe_lc (ok.calm hc) (by rw [ok.N]; exact ok.nd) hi hb hg ht he (fold_plain hs _)) fun σ H Q ⟨w, env, ω, e, s, p⟩ => ?_
  subst e
  rw [own_map]
  exact lc_read hin s p
theorem n_list (ok : XOk G C gl F n sc lsc X) (hc : C.calm = true) (hg : isGl sc "list" = true) (hp : plainB e = true) (h : PE X e (tBa G B Wx F gl a)) : PE X (.Call (.Name "list" p) [e] [] pos) (tNw G B Wx F gl (.blt .list (.cons a .nil))) := by
  obtain ⟨g1, g2⟩ := gl_of hg ok.hsc
  have hm := ok.blt "list" (by decide)
  refine PE.imp (pe_callTy (CallR.or call_list_of (call_listS (ok.calm hc))) g1 hm (by decide +kernel) (bs_cons hp h bs_nil) (by decide) g2 (star_one hp _ _) rfl) fun σ H Q ⟨w, env, ω, e, s, p⟩ => ?_
  subst e
  rw [evE] at p
  refine ⟨w, env, ω, rfl, s, ?_⟩
  cases hev : evBs F gl env (.cons a .nil) w.h with
  | bad => rw [hev] at p; exact p.elim
  | exc x h => rw [hev] at p; exact p
  | ok ds h =>
    rw [hev] at p
    intro w1 eh ok1 e1 vs rs
    have p : PostN G w (lift (bltD .list (ds.map (see h))) h) Q (XP G Wx σ) := p
    subst eh
    have va := rs.vw ok1
    revert p va
    generalize ds.map (see w1.h) = zs
    intro p va
    have fin : ∀ (ad : Addr) (us : List V) (dd : List D), (SqL X.K w1.H ad us ∨ SqT X.K w1.H ad us) → Reps G w1 dd us → vs = [.ref ad] → PostN G w (.ok (.lst dd) w1.h) Q (XP G Wx σ) →
        ∃ p ys, vs = [.ref p] ∧ (SqL X.K w1.H p ys ∨ SqT X.K w1.H p ys) ∧ ∀ l, w1.H l = none → Q (.ref l) (upd w1.H l (.lst ys)) := fun ad us dd hs rr ev pp => by
      refine ⟨ad, us, ev, hs, fun p0 hp0 => ?_⟩
      obtain ⟨k1, k2, k3, k4⟩ := W.new_ok (o := .lst us) ok1 hp0
      exact pp (w1.mut p0 (.lst us)) p0 us rfl k1 (e1.trans k2) (e1.dom _ hp0) upd_same (rr.ext ok1 k2) k3 k4
    cases va with
    | nil => exact p.elim
    | cons v1 va =>
      cases va with
      | cons _ _ =>
        exfalso
        revert p
        unfold bltD
        split <;> intro p <;> first | exact p.elim | simp_all
      | nil =>
        cases v1 with
        | lst hl rl => exact .inl (fin _ _ _ (.inl (by rw [ok.K]; exact hl)) rl rfl p)
        | tup hl rl => exact .inl (fin _ _ _ (.inr (by rw [ok.K]; exact hl)) rl rfl p)
        | str z hz =>
          refine .inr ⟨z, rfl, hz, fun p0 hp0 => ?_⟩
          obtain ⟨k1, k2, k3, k4⟩ := W.new_ok (o := .lst (z.cps.toList.map fun c => V.str ⟨#[c]⟩)) ok1 hp0
          have p' : PostN G w (.ok (.lst (z.cps.toList.map fun c => .str ⟨#[c]⟩)) w1.h) Q (XP G Wx σ) := p
          exact p' (w1.mut p0 _) p0 _ rfl k1 (e1.trans k2) (e1.dom _ hp0) upd_same (signs_rep _) k3 k4
        | _ => exact p.elim
/-- a, b = e -/
theorem s_setT {is : List Nat} {j : Nat} (ok : XOk G C gl F n sc lsc X) (hc : C.calm = true) (hn : ckNms C lsc is es = true) (hv : PE X v (tE G B Wx F gl c)) (h1 : noComp v = true) (h2 : noDisp v = true) :
    PS X (.Assign [.Tuple es j p] v pos) (tS G B Wx F gl (.setT is c)) := by
  have hg : PG X (.Tuple es j p) (gTg G.K (.tup is)) := g_tg ok (show (C.calm && ckNms C lsc is es) = true by rw [hc, hn]; rfl)
  refine PS.imp (ps_asg hv hg (by unfold swapsWithSole; exact swaps_none h1 _ _ _) (by cases v <;> first | rfl | cases h2) rfl) fun D σ H ⟨w, env, ω, e, s, p⟩ => ?_
  subst e
  rw [evS] at p
  refine ⟨w, env, ω, rfl, s, (SPost.out s p).mono (fun d w1 ok1 e1 q v r => ?_) fun _ _ _ _ h => h⟩
  have s1 := s.ext ok1 e1
  cases hb : bindT (.tup is) d env with
  | none => simp only [hb] at q; exact q.elim
  | some env' =>
    simp only [hb] at q
    exact bind_ok s1.eo r hb fun σ' eo' _ => q w1 σ' ω rfl ⟨ok1, s1.be, eo'⟩ (Le.refl _)
theorem s_ex (hv : PE X v (tE G B Wx F gl c)) (h1 : noComp v = true) : PS X (.Expr v pos) (tS G B Wx F gl (.ex c)) := by
  refine PS.imp (ps_expr hv (swaps_none h1 _ _ _)) fun D σ H ⟨w, env, ω, e, s, p⟩ => ?_
  subst e
  rw [evS] at p
  exact ⟨w, env, ω, rfl, s, (SPost.out s p).mono (fun d w1 ok1 e1 q v r => q w1 σ ω rfl (s.ext ok1 e1) (Le.refl _)) fun _ _ _ _ h => h⟩
theorem s_ret (hv : PE X v (tE G B Wx F gl c)) : PS X (.Return (some v) pos) (tS G B Wx F gl (.ret c)) := by
  refine PS.imp (ps_ret hv) fun D σ H ⟨w, env, ω, e, s, p⟩ => ?_
  subst e
  rw [evS] at p
  exact ⟨w, env, ω, rfl, s, (SPost.out s p).mono (fun d w1 ok1 e1 q v r => q w1 v rfl ok1 (s.be.trans e1) (Le.refl _) r) fun _ _ _ _ h => h⟩
theorem s_retN : PS X (.Return none pos) (tS G B Wx F gl .retN) := by
  refine PS.imp ps_retN fun D σ H ⟨w, env, ω, e, s, p⟩ => ?_
  subst e
  rw [evS] at p
  exact p w .non rfl s.ok s.be (Le.refl _) .non
theorem s_pass : PS X (.Pass pos) (tS G B Wx F gl .pass) := PS.imp ps_pass fun D σ H ⟨w, env, ω, e, s, p⟩ => by
  subst e
  rw [evS] at p
  exact p w σ ω rfl s (Le.refl _)
theorem s_brk : PS X (.Break pos) (tS G B Wx F gl .brk) := PS.imp ps_break fun D σ H ⟨w, env, ω, e, s, p⟩ => by
  subst e
  rw [evS] at p
  exact p w σ ω rfl s (Le.refl _)
theorem s_cont : PS X (.Continue pos) (tS G B Wx F gl .cont) := PS.imp ps_continue fun D σ H ⟨w, env, ω, e, s, p⟩ => by
  subst e
  rw [evS] at p
  exact p w σ ω rfl s (Le.refl _)
theorem s_ite {b1 b2 : List Stmt} {c1 c2 : CSs} (hc : PT X e (tT G B Wx F gl c)) (h1 : PSs X b1 (tSs G B Wx F gl c1)) (h2 : PSs X b2 (tSs G B Wx F gl c2)) : PS X (.If e b1 b2 pos) (tS G B Wx F gl (.ite c c1 c2)) := by
  refine PS.imp (ps_if hc h1 h2) fun D σ H ⟨w, env, ω, e, s, p⟩ => ?_
  subst e
  rw [evS] at p
  refine ⟨w, env, ω, rfl, s, (SPost.out s p).mono (fun k w1 ok1 e1 q => ?_) fun _ _ _ _ h => h⟩
  have s1 := s.ext ok1 e1
  cases k with
  | true => exact iteT ⟨w1, env, ω, rfl, s1, q⟩
  | false => exact iteF ⟨w1, env, ω, rfl, s1, q⟩
theorem ss_nil : PSs X [] (tSs G B Wx F gl .nil) := PSs.imp pss_nil fun D σ H ⟨w, env, ω, e, s, p⟩ => by
  subst e
  rw [evSs] at p
  exact p w σ ω rfl s (Le.refl _)
theorem ss_cons {st : Stmt} {sts : List Stmt} {c : CS} {cs : CSs} (h1 : PS X st (tS G B Wx F gl c)) (h2 : PSs X sts (tSs G B Wx F gl cs)) : PSs X (st :: sts) (tSs G B Wx F gl (.cons c cs)) := by
  refine PSs.imp (pss_cons h1 h2) fun D σ H ⟨w, env, ω, e, s, p⟩ => ?_
  subst e
  rw [evSs] at p
  refine ⟨w, env, ω, rfl, s, ?_⟩
  cases q : evS F gl c env w.h with
  | next env' h' =>
    rw [q] at p
    intro w' σ' ω' eh s' le
    subst eh
    exact ⟨w', env', ω', rfl, s', SPost.later p le⟩
  | ret d h => rw [q] at p; exact p
  | brk env' h => rw [q] at p; exact p
  | cont env' h => rw [q] at p; exact p
  | exc x env' h => rw [q] at p; exact p
  | bad => rw [q] at p; exact p
/-- ghost: freeze -/
theorem ss_frz {sts : List Stmt} {cs : CSs} (h2 : PSs X sts (tSs G B Wx F gl cs)) : PSs X sts (tSs G B Wx F gl (.cons (.frz i) cs)) := by
  refine PSs.imp h2 fun D σ H ⟨w, env, ω, e, s, p⟩ => ?_
  subst e
  rw [evSs, evS] at p
  cases hi : env[i]? with
  | none => simp only [hi] at p; exact p.elim
  | some sl => cases sl with
    | no => simp only [hi] at p; exact p.elim
    | val d => simp only [hi] at p; exact p.elim
    | own ob =>
      simp only [hi] at p
      exact ⟨w.fz (ω i), _, ω, rfl, s.frz hi, SPost.later p W.fz_le⟩
end
end Rf
set_option Elab.async false
set_option linter.all false
set_option maxRecDepth 100000
set_option maxHeartbeats 8000000
/-! G16: append, items stored, loops; all statements -/
namespace Rf
open PySem L2 PySem.Spec PyProof.Rows
section
variable {G : Gm} {B : Bs} {w w1 w' : W} {Wx : WX} {F : FTab} {gl : Nat → Option D} {C : Ck} {n : Nat} {sc lsc : Scope} {X : Cx} {env env' : En} {σ : List (Option V)} {ω : Nat → Addr}
  {l m r e e' v it el tg : Expr} {es : List Expr} {a b c : CE} {as bs : CEs} {pos p p2 : Pos} {x y : Str} {Dn : Ends} {i : Nat} {m' : Pos}
/-- x.append(e) -/
theorem s_app (ok : XOk G C gl F n sc lsc X) (hi : C.N[i]? = some x) (hv : isVis sc x = true) (hp : plainB v = true) (hl : (p2.endLine == p.line) = true) (h : PE X v (tE G B Wx F gl c)) :
    PS X (.Expr (.Call (.Attribute (.Name x pos) "append" p2) [v] [] p) m') (tS G B Wx F gl (.app i c)) := by
  obtain ⟨h1, h2, h3⟩ := vis_of hv ok.hsc
  have hb : PE X (.Call (.Attribute (.Name x pos) "append" p2) [v] [] p) (tBM X.K "list" rAppend (tVar i) (tCons (tE G B Wx F gl c) tNil)) :=
    pe_bm PySem.F.plainAttrs_list PySem.F.slot_list_append PySem.F.type_list_append mt_append (pe_var (by rw [ok.N]; exact hi) h1 h2 h3) (pa_cons h pa_nil (star_one hp _ _)) rfl (by rw [star_one hp]; rfl) hl (star_one hp _ _) rfl
  refine PS.imp (ps_expr hb rfl) fun D σ H ⟨w, env, ω, e, s, p⟩ => ?_
  subst e
  rw [evS] at p
  cases q : env[i]? with
  | none => simp only [q] at p; exact p.elim
  | some sl => cases sl with
    | no => simp only [q] at p; exact p.elim
    | own ob =>
      cases ob with
      | lst ds =>
        simp only [q] at p
        obtain ⟨k1, k2, k3, k4, k5⟩ := s.eo.own i _ q
        cases k2 with | lst hH rH =>
        refine ⟨_, k1, .inl ⟨rfl, _, SqL.of hH⟩, w, env, ω, rfl, s, (SPost.out s p).mono (fun d w1 ok1 e1 q2 v1 r1 => ?_) fun _ _ _ _ h => h⟩
        have s1 := s.ext ok1 e1
        obtain ⟨j1, j2, j3, j4, j5⟩ := s1.eo.own i _ q
        cases j2 with | lst hH1 rH1 =>
        by_cases hz : ds.length < LIM
        · rw [if_pos hz] at q2
          refine ⟨_, _, v1, rfl, rfl, hH1, by rw [← rH1.length]; exact hz, ?_⟩
          rename_i vs1
          have new : ObAt G (w1.mut (ω i) (.lst (vs1 ++ [v1]))) (ω i) (.lst (ds ++ [d])) := by
            have le := W.mut_le (o := .lst (vs1 ++ [v1])) j3 hH1 trivial
            exact .lst upd_same ((rH1.le le).append (.cons (r1.le le) .nil))
          obtain ⟨t1, t2⟩ := s1.mutOwn q new fun _ _ e => nomatch e
          exact q2 (w1.mut (ω i) (.lst (vs1 ++ [v1]))) σ ω rfl t1 t2
        · rw [if_neg hz] at q2; exact q2.elim
      | dk _ => simp only [q] at p; exact p.elim
      | dt _ => simp only [q] at p; exact p.elim
      | ins _ _ => simp only [q] at p; exact p.elim
    | val d =>
      cases d with
      | cell k =>
        simp only [q] at p
        obtain ⟨v0, k1, k2⟩ := s.eo.vals i _ q
        cases k2 with | cell _ hk =>
        cases hk0 : w.h[k]? with
        | none => simp only [hk0] at p; exact p.elim
        | some o0 => cases o0 with
          | none => simp only [hk0] at p; exact p.elim
          | some ob => cases ob with
            | lst ds0 =>
              simp only [hk0] at p
              obtain ⟨h2, h3⟩ := s.ok.cell k _ hk0
              cases h2 with | lst hH rH =>
              refine ⟨_, k1, .inl ⟨rfl, _, SqL.of hH⟩, w, env, ω, rfl, s, (SPost.out s p).mono (fun d w1 ok1 e1 q2 v1 r1 => ?_) fun _ _ _ _ h => h⟩
              have s1 := s.ext ok1 e1
              have ek : w1.ι k = w.ι k := e1.ι k hk
              cases hk1 : w1.h[k]? with
              | none => simp only [hk1] at q2; exact q2.elim
              | some o1 => cases o1 with
                | none => simp only [hk1] at q2; exact q2.elim
                | some ob1 => cases ob1 with
                  | lst ds =>
                    simp only [hk1] at q2
                    obtain ⟨j2, j3⟩ := ok1.cell k _ hk1
                    cases j2 with | lst hH1 rH1 =>
                    by_cases hz : ds.length < LIM
                    · rw [if_pos hz] at q2
                      obtain ⟨t1, t2⟩ := cell_mut ok1 hk1 (rH1.append (.cons r1 .nil))
                      rw [ek] at hH1
                      refine ⟨_, _, v1, rfl, rfl, hH1, by rw [← rH1.length]; exact hz, ?_⟩
                      rw [← ek]
                      exact q2 ⟨w1.Z, w1.ι, w1.h.set k (some (.lst (ds ++ [d]))), upd w1.H (w1.ι k) (.lst _)⟩ σ ω rfl (s1.ext t1 t2) (t2.le ok1)
                    · rw [if_neg hz] at q2; exact q2.elim
                  | _ => simp only [hk1] at q2; exact q2.elim
            | _ => simp only [hk0] at p; exact p.elim
      | _ => simp only [q] at p; exact p.elim
theorem ixN_len {α β : Type} {xs : List α} {ys : List β} (h : xs.length = ys.length) (j : Int) : ixN xs.length j = ixN ys.length j := by rw [h]
/-- x[e] = v, x a name -/
theorem s_sub (ok : XOk G C gl F n sc lsc X) (hi : C.N[i]? = some x) (hvs : isVis sc x = true) (hp : plainB e = true) (h1 : noComp v = true) (hv : PE X v (tE G B Wx F gl c)) (he : PE X e (tE G B Wx F gl a)) :
    PS X (.Assign [.Subscript (.Name x pos) e p] v p2) (tS G B Wx F gl (.setSub (.var i) a c)) := by
  obtain ⟨g1, g2, g3⟩ := vis_of hvs ok.hsc
  have hg : PG X (.Subscript (.Name x pos) e p) (gSub (tVar i) (tE G B Wx F gl a) rSetL) := pg_sub (pe_var (by rw [ok.N]; exact hi) g1 g2 g3) he set_list (by
    intro v
    cases e <;> first | rfl | cases hp)
  refine PS.imp (ps_asg hv hg (by unfold swapsWithSole; exact swaps_none h1 _ _ _) (by cases v <;> rfl) rfl) fun D σ H ⟨w, env, ω, ew, s, p⟩ => ?_
  subst ew
  rw [evS] at p
  refine ⟨w, env, ω, rfl, s, (SPost.out s p).mono (fun d w1 ok1 e1 q2 v1 r1 => ?_) fun _ _ _ _ h => h⟩
  have s1 := s.ext ok1 e1
  cases q : env[i]? with
  | none => simp only [q] at q2; exact q2.elim
  | some sl => cases sl with
    | no => simp only [q] at q2; exact q2.elim
    | own ob =>
      cases ob with
      | lst ds =>
        simp only [q] at q2
        obtain ⟨k1, k2, k3, k4, k5⟩ := s1.eo.own i _ q
        refine ⟨_, k1, w1, env, ω, rfl, s1, (SPost.out s1 q2).mono (fun y w2 ok2 e2 q3 vy ry => ?_) fun _ _ _ _ h => h⟩
        have s2 := s1.ext ok2 e2
        obtain ⟨j1, j2, j3, j4, j5⟩ := s2.eo.own i _ q
        cases j2 with | lst hH rH =>
        rename_i vs
        cases ry with
        | int j =>
          simp only at q3
          cases hx : ixN ds.length j with
          | none => simp only [hx] at q3; exact q3.elim
          | some n0 =>
            simp only [hx] at q3
            refine ⟨_, _, j, n0, rfl, rfl, hH, by rw [← rH.length]; exact hx, ?_⟩
            have le := W.mut_le (o := .lst (vs.set n0 v1)) j3 hH trivial
            have r1' := (r1.ext ok1 e2).le le
            obtain ⟨t1, t2⟩ := s2.mutOwn (ob' := .lst (ds.set n0 d)) q (.lst upd_same (Reps.set r1' n0 (rH.le le))) fun _ _ e => nomatch e
            exact q3 (w2.mut (ω i) (.lst (vs.set n0 v1))) σ ω rfl t1 t2
        | _ => exact q3.elim
      | _ => simp only [q] at q2; exact q2.elim
    | val dd =>
      cases dd with
      | cell k =>
        simp only [q] at q2
        obtain ⟨v0, k1, k2⟩ := s1.eo.vals i _ q
        cases k2 with | cell _ hk =>
        refine ⟨_, k1, w1, env, ω, rfl, s1, (SPost.out s1 q2).mono (fun y w2 ok2 e2 q3 vy ry => ?_) fun _ _ _ _ h => h⟩
        have s2 := s1.ext ok2 e2
        have ek : w2.ι k = w1.ι k := e2.ι k hk
        cases ry with
        | int j =>
          cases hk2 : w2.h[k]? with
          | none => simp only [hk2] at q3; exact q3.elim
          | some o1 => cases o1 with
            | none => simp only [hk2] at q3; exact q3.elim
            | some ob1 => cases ob1 with
              | lst ds =>
                simp only [hk2] at q3
                obtain ⟨j2, j3⟩ := ok2.cell k _ hk2
                cases j2 with | lst hH rH =>
                cases hx : ixN ds.length j with
                | none => simp only [hx] at q3; exact q3.elim
                | some n0 =>
                  simp only [hx] at q3
                  rw [ek] at hH
                  refine ⟨_, _, j, n0, rfl, rfl, hH, by rw [← rH.length]; exact hx, ?_⟩
                  obtain ⟨t1, t2⟩ := cell_mut ok2 hk2 (Reps.set (r1.ext ok1 e2) n0 rH)
                  rw [← ek]
                  exact q3 ⟨w2.Z, w2.ι, w2.h.set k (some (.lst (ds.set n0 d))), upd w2.H (w2.ι k) (.lst _)⟩ σ ω rfl (s2.ext t1 t2) (t2.le ok2)
              | _ => simp only [hk2] at q3; exact q3.elim
        | _ => exact q3.elim
      | _ => simp only [q] at q2; exact q2.elim
theorem RepF.length : ∀ {fs : List (Nat × D)} {fvs : List (Str × V)}, RepF G w fs fvs → fs.length = fvs.length
  | _, _, .nil => rfl
  | _, _, .cons _ r => by rw [List.length_cons, List.length_cons, RepF.length r]
theorem RepF.put (go : G.Ok) {f : Nat} {d : D} {z : V} (rz : Rep G w d z) : ∀ {fs : List (Nat × D)} {fvs : List (Str × V)}, RepF G w fs fvs → RepF G w (putD f d fs) (putF (G.sy f) z fvs)
  | _, _, .nil => .cons rz .nil
  | _, _, .cons (k := k) (d := d0) (ds := ds) (v := v0) (vs := vs) r rs => by
    unfold putD putF
    by_cases q : k = f
    · subst q
      rw [if_pos rfl, if_pos rfl]
      exact .cons rz rs
    · have ns : G.sy k ≠ G.sy f := fun e => by
        rcases Nat.lt_or_gt_of_ne q with l | l
        · exact go.sy k f l e
        · exact go.sy f k l e.symm
      rw [if_neg q, if_neg ns]
      exact .cons r (RepF.put go rz rs)
/-- x.f = v, x a name -/
theorem s_attr {f : Nat} {y : Str} (ok : XOk G C gl F n sc lsc X) (go : G.Ok) (hi : C.N[i]? = some x) (hvs : isVis sc x = true) (hf : C.T.fld[f]? = some y) (h1 : noComp v = true) (hv : PE X v (tE G B Wx F gl c)) :
    PS X (.Assign [.Attribute (.Name x pos) y p] v p2) (tS G B Wx F gl (.setAttr (.var i) f c)) := by
  obtain ⟨g1, g2, g3⟩ := vis_of hvs ok.hsc
  refine PS.imp (ps_fld (pe_var (by rw [ok.N]; exact hi) g1 g2 g3) hv (swaps_none h1 _ _ _)) fun D σ H ⟨w, env, ω, e, s, q⟩ => ?_
  subst e
  rw [evS] at q
  refine ⟨w, env, ω, rfl, s, (SPost.out s q).mono (fun d w1 ok1 e1 q2 z rz => ?_) fun _ _ _ _ h => h⟩
  have s1 := s.ext ok1 e1
  cases hq : env[i]? with
  | none => simp only [hq] at q2; exact q2.elim
  | some sl => cases sl with
    | no => simp only [hq] at q2; exact q2.elim
    | own ob =>
      cases ob with
      | ins k fs =>
        simp only [hq] at q2
        obtain ⟨j1, j2, j3, j4, j5⟩ := s1.eo.own i _ hq
        have jm := s1.eo.mine i k fs hq
        cases j2 with
        | ins hc hH rf =>
          rename_i dx fvs
          by_cases hg : (F.tb.ft k f && decide (fs.length < 900)) = true
          · rw [if_pos hg] at q2
            rw [Bool.and_eq_true, decide_eq_true_eq] at hg
            obtain ⟨_, hna⟩ := ok.ft k f hg.1
            have hy := ok.sy f y hf
            refine ⟨_, j1, ω i, G.ca k, dx, fvs, rfl, hH, by rw [ok.K]; exact go.cls k hc, by rw [ok.K, ← hy]; exact hna, by rw [← rf.length]; omega, ?_⟩
            have le := W.mut_le (o := .ins (G.ca k) dx (putF y z fvs)) j3 hH trivial
            have new : ObAt G (w1.mut (ω i) (.ins (G.ca k) dx (putF y z fvs))) (ω i) (.ins k (putD f d fs)) := .ins hc upd_same (by rw [← hy]; exact RepF.put go (rz.le (hy ▸ le)) (rf.le (hy ▸ le)))
            obtain ⟨t1, t2⟩ := s1.mutOwn hq new fun _ _ _ => jm
            exact q2 (w1.mut (ω i) (.ins (G.ca k) dx (putF y z fvs))) σ ω rfl t1 t2
          · rw [if_neg hg] at q2; exact q2.elim
      | lst _ => simp only [hq] at q2; exact q2.elim
      | dk _ => simp only [hq] at q2; exact q2.elim
      | dt _ => simp only [hq] at q2; exact q2.elim
    | val dd =>
      cases dd with
      | cell k =>
        simp only [hq] at q2
        obtain ⟨v0, j1, j2⟩ := s1.eo.vals i _ hq
        cases j2 with | cell _ hk =>
        cases hk0 : w1.h[k]? with
        | none => simp only [hk0] at q2; exact q2.elim
        | some o0 => cases o0 with
          | none => simp only [hk0] at q2; exact q2.elim
          | some ob => cases ob with
            | ins kk fs =>
              simp only [hk0] at q2
              obtain ⟨hO, hZ⟩ := ok1.cell k _ hk0
              cases hO with
              | ins hc hH rf =>
                rename_i dx fvs
                by_cases hg : (F.tb.ft kk f && decide (fs.length < 900)) = true
                · rw [if_pos hg] at q2
                  rw [Bool.and_eq_true, decide_eq_true_eq] at hg
                  obtain ⟨_, hna⟩ := ok.ft kk f hg.1
                  have hy := ok.sy f y hf
                  refine ⟨_, j1, w1.ι k, G.ca kk, dx, fvs, rfl, hH, by rw [ok.K]; exact go.cls kk hc, by rw [ok.K, ← hy]; exact hna, by rw [← rf.length]; omega, ?_⟩
                  obtain ⟨t1, t2⟩ := cell_mutG (ob' := .ins kk (putD f d fs)) (o' := .ins (G.ca kk) dx (putF y z fvs)) ok1 hk0 fun w' e hh => .ins hc hh (by rw [← hy]; exact RepF.put go (rz.ext ok1 e) (rf.ext ok1 e))
                  exact q2 ⟨w1.Z, w1.ι, w1.h.set k (some (.ins kk (putD f d fs))), upd w1.H (w1.ι k) (.ins (G.ca kk) dx (putF y z fvs))⟩ σ ω rfl (s1.ext t1 t2) (t2.le ok1)
                · rw [if_neg hg] at q2; exact q2.elim
            | lst _ => simp only [hk0] at q2; exact q2.elim
            | dk _ => simp only [hk0] at q2; exact q2.elim
            | dt _ => simp only [hk0] at q2; exact q2.elim
      | _ => simp only [hq] at q2; exact q2.elim
/-- raise X('..') -/
theorem s_raise {k : Nat} {msg : Str} {j : Nat} {p3 : Pos} (ok : XOk G C gl F n sc lsc X) (tk : Takes X Wx) (hc : C.calm = true) (hl : C.T.cls.length ≤ k) (hx : (C.T.cls ++ C.T.exc)[k]? = some x) (hg : isGl sc x = true) :
    PS X (.Raise (some (.Call (.Name x p) [.Constant (.str msg) j p2] [] p3)) none pos) (tS G B Wx F gl (.raise_ k)) := by
  obtain ⟨g1, g2⟩ := gl_of hg ok.hsc
  obtain ⟨e1, e2, e3, e4, e5⟩ := ok.exc k x hl hx
  rw [← ok.K] at e2 e3 e4 e5
  refine PS.imp (ps_raise (ok.calm hc) tk (pmk_own PySem.F.excBase_ValueError e2 e1 e3 (raises_own e4 e5) g1 g2)) fun D σ H ⟨w, env, ω, e, s, q⟩ => ?_
  subst e
  rw [evS] at q
  exact q w σ ω rfl s (Le.refl _) (.ref (G.ca k)) none ⟨rfl, .inl rfl⟩
theorem XOk.tr (ok : XOk G C gl F n sc lsc X) {pn : List (Addr × Obj)} {xe : Value → Shared → Prop} (hp : PassesOwn (model X.prog X.w) X.A X.env xe) : XOk G C gl F n sc lsc (X.tr pn xe) where
  K := ok.K
  N := ok.N
  nd := ok.nd
  hsc := ok.hsc
  calm := ok.calm
  hu := ok.hu
  room := ok.room
  fnl := ok.fnl
  glob := ok.glob
  blt := ok.blt
  po := hp
  cls := ok.cls
  fn := ok.fn
  exc := ok.exc
  exm := ok.exm
  ot := ok.ot
  sy := ok.sy
  ft := ok.ft
  mt := ok.mt
  mkr := ok.mkr
/-- a suite: nothing that calls -/
def Ck.hot (C : Ck) : Ck := ⟨C.T, C.N, false⟩
theorem spF_hot {f : Nat} {vs : List V} {H : Hp} {Q : VK} {E : XK} (s : spF G F.hot f vs H Q E) : False := by
  obtain ⟨w, ds, _, _, _, p⟩ := s
  exact p
theorem spI_hot {c : Nat} {vs : List V} {H : Hp} {Q : VK} {E : XK} (s : spI G F.hot c vs H Q E) : False := by
  obtain ⟨w0, w, ds, a, dx, vs', _, _, _, _, _, _, _, _, _, _, _, p⟩ := s
  exact p
theorem XOk.suite (ok : XOk G C gl F n sc lsc X) (a : Addr) (pn : List (Addr × Obj)) : XOk G C.hot gl F.hot n sc lsc (X.suite a pn) where
  K := ok.K
  N := ok.N
  nd := ok.nd
  hsc := ok.hsc
  calm := fun e => nomatch e
  hu := ok.hu
  room := fun e => nomatch e
  fnl := ok.fnl
  glob := ok.glob
  blt := ok.blt
  po := PassesOwn.never
  cls := ok.cls
  fn := fun f x h => by
    obtain ⟨a, h1, h2, h3⟩ := ok.fn f x h
    exact ⟨a, h1, h2, h3.imp fun vs H Q E z => (spF_hot z).elim⟩
  exc := ok.exc
  exm := ok.exm
  ot := fun c k f h => nomatch h
  sy := ok.sy
  ft := ok.ft
  mt := fun c m f h => by
    obtain ⟨h0, a, h1, h3⟩ := ok.mt c m f h
    exact ⟨h0, a, h1, h3.imp fun vs H Q E z => (spF_hot z).elim⟩
  mkr := fun c h => by
    obtain ⟨a, h1, h3⟩ := ok.mkr c h
    exact ⟨a, h1, h3.imp fun vs H Q E z => (spI_hot z).elim⟩
/-- try .. except X -/
theorem s_try {body suite : List Stmt} {b0 : Stmt} {cb ch : CSs} {k : Nat} {np pos' : Pos} (ok : XOk G C gl F n sc lsc X) (tk : Takes X Wx) (hs : X.stack = X.env :: X.outer) (hf : X.env.frame = some X.env.locals) (hl : C.T.cls.length ≤ k) (hx : (C.T.cls ++ C.T.exc)[k]? = some x) (hg : isGl sc x = true)
    (hb : ∀ (W : WX) (pn : List (Addr × Obj)) (xe : Value → Shared → Prop), Takes (X.tr pn xe) W → PassesOwn (model X.prog X.w) X.A X.env xe → PSs (X.tr pn xe) body (tSs G B W F gl cb))
    (hsu : ∀ (a : Addr) (pn : List (Addr × Obj)), PSs (X.suite a pn) (b0 :: suite) (tSs G B (fun _ _ _ _ => False) F.hot gl ch)) :
    PS X (.Try body [.ExceptHandler (some (.Name x np)) none (b0 :: suite) pos'] [] [] pos) (tS G B Wx F gl (.try_ cb k ch)) := by
  obtain ⟨g1, g2⟩ := gl_of hg ok.hsc
  obtain ⟨e1, _⟩ := ok.exc k x hl hx
  refine PS.imp (ps_try_only (ts := fun _ _ _ => tSs G B (fun _ _ _ _ => False) F.hot gl ch) hs hf ⟨g1, g2, .inl e1⟩ tk hb (fun a oe cls d pn _ _ => hsu a _)) fun D σ H ⟨w, env, ω, e, s, q⟩ => ?_
  subst e
  rw [evS] at q
  refine ⟨w, env, ω, rfl, s, ?_⟩
  cases hr : evSs F gl cb env w.h with
  | next env' h' => rw [hr] at q; exact q
  | brk env' h' => rw [hr] at q; exact q
  | cont env' h' => rw [hr] at q; exact q
  | ret d h' => rw [hr] at q; exact q
  | bad => rw [hr] at q; exact q.elim
  | exc z env' h' =>
    rw [hr] at q
    simp only at q
    intro w' σ' ω' eh s' le cls dd hE
    obtain ⟨ec, _⟩ := id hE
    subst ec
    cases hb' : F.tb.sb z.c k with
    | none => simp only [hb'] at q; exact q.elim
    | some b =>
      have em := ok.exm z.c k b hb'
      rw [← ok.K] at em
      refine ⟨b, em, fun eb a _ => ?_, fun eb => ?_⟩
      · subst eb
        simp only [hb'] at q
        subst eh
        refine ⟨w', env', ω', rfl, s', ?_⟩
        cases hh : evSs F.hot gl ch env' w'.h with
        | exc z2 env2 h2 => rw [hh] at q; exact q.elim
        | next env2 h2 => rw [hh] at q; exact SPost.later (o := .next env2 h2) (Wx := fun _ _ _ _ => False) q le
        | brk env2 h2 => rw [hh] at q; exact SPost.later (o := .brk env2 h2) (Wx := fun _ _ _ _ => False) q le
        | cont env2 h2 => rw [hh] at q; exact SPost.later (o := .cont env2 h2) (Wx := fun _ _ _ _ => False) q le
        | ret d2 h2 => rw [hh] at q; exact SPost.later (o := .ret d2 h2) (Wx := fun _ _ _ _ => False) q le
        | bad => rw [hh] at q; exact q.elim
      · subst eb
        simp only [hb'] at q
        exact q w' σ' ω' eh s' le _ dd hE
/-- for -/
theorem s_for {src : CI} {t : Tg} {body : List Stmt} {cb : CSs} (ok : XOk G C gl F n sc lsc X) (hc : C.calm = true) (hi : PI X tg it (tI G B Wx F gl src)) (hg : PG X tg (gTg G.K t)) (hb : PSs X body (tSs G B Wx F gl cb)) (hs : plainB it = true) :
    PS X (.For tg it body [] pos) (tS G B Wx F gl (.for_ t src cb)) := by
  refine PS.imp (ps_for ok.po (ok.calm hc) hi hg hb (fold_plain hs _)) fun D σ H ⟨w, env, ω, e, s, p⟩ => ?_
  subst e
  rw [evS] at p
  refine ⟨w, env, ω, rfl, s, (SPost.out s p).mono (fun ds w1 ok1 e1 q J hJ => ?_) fun _ _ _ _ h => h⟩
  have s1 := s.ext ok1 e1
  obtain ⟨vs, Gd, rs, wk, hgd⟩ := hJ
  refine for_it wk (fun i σ H => ∃ w2 env2 ω2, w2.H = H ∧ Stt G B w2 env2 σ ω2 ∧ Le w1 w2 ∧ SPost G B Wx D w2 (forGo t (evSs F gl cb) (ds.drop i) env2 w2.h)) ?_ ?_ ?_ ?_
  · exact ⟨w1, env, ω, rfl, s1, Le.refl _, by rw [List.drop_zero]; exact q⟩
  · rintro i σ H _ ⟨w2, env2, ω2, rfl, s2, le, _⟩
    exact hgd w2 le
  · rintro i x σ H H' hi ⟨w2, env2, ω2, rfl, s2, le, q2⟩ ⟨rfl, hx⟩
    have hids : i < ds.length := by rw [rs.length]; exact hi
    rw [List.drop_eq_getElem_cons hids] at q2
    obtain ⟨v', hv', rv⟩ := rs.get (List.getElem?_eq_getElem hids)
    rw [hx] at hv'
    cases hv'
    unfold forGo at q2
    cases hbind : bindT t ds[i] env2 with
    | none => simp only [hbind] at q2; exact q2.elim
    | some env3 =>
      simp only [hbind] at q2
      refine bind_ok s2.eo (rv.le le) hbind fun σ2 eo2 _ => ⟨w2, env3, ω2, rfl, ⟨s2.ok, s2.be, eo2⟩, ?_⟩
      cases hf : evSs F gl cb env3 w2.h with
      | next e4 h4 =>
        simp only [hf] at q2
        intro w' σ' ω' eh s' le'
        subst eh
        exact ⟨w', e4, ω', rfl, s', le.trans le', SPost.later q2 le'⟩
      | cont e4 h4 =>
        simp only [hf] at q2
        intro w' σ' ω' eh s' le'
        subst eh
        exact ⟨w', e4, ω', rfl, s', le.trans le', SPost.later q2 le'⟩
      | brk e4 h4 => simp only [hf] at q2; exact q2
      | ret d h => simp only [hf] at q2; exact q2
      | exc x e4 h => simp only [hf] at q2; exact q2
      | bad => simp only [hf] at q2; exact q2
  · rintro σ H ⟨w2, env2, ω2, rfl, s2, le, q2⟩
    rw [← rs.length, List.drop_length] at q2
    unfold forGo at q2
    exact q2 w2 σ ω2 rfl s2 (Le.refl _)
theorem s_while {body : List Stmt} {cb : CSs} {fuel : Nat} (ok : XOk G C gl F n sc lsc X) (hc : PT X e (tT G B Wx F gl c)) (hb : PSs X body (tSs G B Wx F gl cb)) :
    PS X (.While e body [] pos) (tS G B Wx F gl (.while_ fuel c cb)) := by
  refine PS.imp (ps_while ok.po hc hb) fun D σ H ⟨w, env, ω, e, s, p⟩ => ?_
  subst e
  rw [evS] at p
  refine ⟨fun m σ H => ∃ w2 env2 ω2, w2.H = H ∧ Stt G B w2 env2 σ ω2 ∧ SPost G B Wx D w2 (whileGo (fun env h => (evE F gl env c h).test) (evSs F gl cb) m env2 w2.h), ⟨fuel, w, env, ω, rfl, s, p⟩, ?_⟩
  rintro m σ H ⟨w2, env2, ω2, rfl, s2, q⟩
  cases m with
  | zero => exact q.elim
  | succ m =>
    unfold whileGo at q
    refine ⟨w2, env2, ω2, rfl, s2, (SPost.out s2 q).mono (fun k w3 ok3 e3 q3 => ?_) fun _ _ _ _ h => h⟩
    have s3 := s2.ext ok3 e3
    cases k with
    | false => exact iteF (q3 w3 σ ω2 rfl s3 (Le.refl _))
    | true =>
      refine iteT ⟨fun σ' H' => ∃ w4 env4 ω4, w4.H = H' ∧ Stt G B w4 env4 σ' ω4 ∧ SPost G B Wx D w4 (whileGo (fun env h => (evE F gl env c h).test) (evSs F gl cb) m env4 w4.h), fun σ' H' h => ⟨m, Nat.lt_succ_self m, h⟩, w3, env2, ω2, rfl, s3, ?_⟩
      simp only [if_true] at q3
      cases hf : evSs F gl cb env2 w3.h with
      | next e4 h4 =>
        simp only [hf] at q3
        intro w' σ' ω' eh s' le'
        subst eh
        exact ⟨w', e4, ω', rfl, s', SPost.later q3 le'⟩
      | cont e4 h4 =>
        simp only [hf] at q3
        intro w' σ' ω' eh s' le'
        subst eh
        exact ⟨w', e4, ω', rfl, s', SPost.later q3 le'⟩
      | brk e4 h4 => simp only [hf] at q3; exact q3
      | ret d h => simp only [hf] at q3; exact q3
      | exc x e4 h => simp only [hf] at q3; exact q3
      | bad => simp only [hf] at q3; exact q3
end
end Rf
set_option Elab.async false
set_option linter.all false
set_option maxRecDepth 100000
set_option maxHeartbeats 8000000
/-! G17: the check of statements; all statements -/
namespace Rf
open PySem L2 PySem.Spec PyProof.Rows
def isLC : Expr → Bool
  | .ListComp .. => true
  | _ => false
mutual
def ckS (C : Ck) (sc : Scope) : CS → Stmt → Bool
  | .set i c, s => match s with
    | .Assign [.Name x p] v pos => C.N[i]? == some x && isLoc sc x && ckE C sc c v && (noComp v || isLC v)
    | _ => false
  | .setN i c, s => match s with
    | .Assign [.Name x p] v pos => C.N[i]? == some x && isLoc sc x && ckE C sc c v && (match c with
      | .lst _ => true
      | .lc _ _ _ _ _ => true
      | .blt .list (.cons _ .nil) => true
      | _ => false)
    | _ => false
  | .setT is c, s => match s with
    | .Assign [.Tuple es j p] v pos => C.calm && ckNms C sc is es && ckE C sc c v && noComp v && noDisp v
    | _ => false
  | .setSub a c d, s => match s with
    | .Assign [.Subscript (.Name x q) e p] v pos => (match a with
      | .var i => C.N[i]? == some x && isVis sc x
      | _ => false) && plainB e && noComp v && ckE C sc d v && ckE C sc c e
    | _ => false
  | .setAttr a f c, s => match s with
    | .Assign [.Attribute (.Name x q) y p] v pos => (match a with
      | .var i => C.N[i]? == some x && isVis sc x
      | _ => false) && C.T.fld[f]? == some y && noComp v && ckE C sc c v
    | _ => false
  | .app i c, s => match s with
    | .Expr (.Call (.Attribute (.Name x q) m p2) [v] [] p) _ => m == "append" && C.N[i]? == some x && isVis sc x && plainB v && p2.endLine == p.line && ckE C sc c v
    | _ => false
  | .ex c, s => match s with
    | .Expr v _ => ckE C sc c v && noComp v
    | _ => false
  | .ret c, s => match s with
    | .Return (some v) _ => ckE C sc c v
    | _ => false
  | .retN, s => match s with
    | .Return none _ => true
    | _ => false
  | .ite t a b, s => match s with
    | .If e x y _ => ckE C sc t e && ckT C sc t && ckSs C sc a x && ckSs C sc b y
    | _ => false
  | .for_ t src b, s => match s with
    | .For tg it body [] _ => C.calm && ckI C sc src it && plainB it && ckTg C sc t tg && ckSs C sc b body
    | _ => false
  | .while_ _ t b, s => match s with
    | .While e body [] _ => ckE C sc t e && ckT C sc t && ckSs C sc b body
    | _ => false
  | .pass, s => match s with
    | .Pass _ => true
    | _ => false
  | .brk, s => match s with
    | .Break _ => true
    | _ => false
  | .cont, s => match s with
    | .Continue _ => true
    | _ => false
  | .dead, _ => true
  | .frz _, _ => false
  | .try_ cb k ch, s => match s with
    | .Try body [.ExceptHandler (some (.Name x _)) none (b0 :: suite) _] [] [] _ => decide (C.T.cls.length ≤ k) && (C.T.cls ++ C.T.exc)[k]? == some x && isGl sc x && ckSs C sc cb body && ckSs C.hot sc ch (b0 :: suite)
    | _ => false
  | .raise_ k, s => match s with
    | .Raise (some (.Call (.Name x p) [.Constant (.str msg) _ _] [] _)) none _ => C.calm && decide (C.T.cls.length ≤ k) && (C.T.cls ++ C.T.exc)[k]? == some x && isGl sc x
    | _ => false
def ckSs (C : Ck) (sc : Scope) : CSs → List Stmt → Bool
  | .nil, ss => ss.isEmpty
  | .cons (.frz _) cs, ss => ckSs C sc cs ss
  | .cons c cs, ss => match ss with
    | s :: ss => ckS C sc c s && ckSs C sc cs ss
    | [] => false
end
section
variable {G : Gm} {B : Bs} {w w1 w' : W} {Wx : WX} {F : FTab} {gl : Nat → Option D} {C : Ck} {n : Nat} {sc : Scope} {X : Cx}
/-- what is not reached -/
theorem s_dead {s : Stmt} : PS X s (tS G B Wx F gl .dead) := ⟨fun pins s σ H Q I ⟨w, env, ω, e, st, q⟩ => by
  rw [evS] at q
  exact q.elim⟩
theorem swaps_lc' {v : Expr} {x : Str} {p : Pos} {ln : Nat} {env : Env} (hk : env.scope.kind = .function) (h : isLC v = true) : ∃ el gs scope pos, v = .ListComp el gs scope pos ∧ ∀ X : Cx, X.env = env → swapsWith v (some (.Name x p)) ln X.env = pure (swapB X.env.scope x p scope pos) := by
  cases v <;> first | cases h | skip
  exact ⟨_, _, _, _, rfl, fun X e => swaps_lc (by rw [e]; exact hk) ln⟩
/-- a def's own frame -/
def Top (X : Cx) : Prop := X.stack = X.env :: X.outer ∧ X.env.frame = some X.env.locals
theorem set_ok (go : G.Ok) {i : Nat} {c : CE} {s : Stmt} (ok : XOk G C gl F n sc sc X) (tk : Takes X Wx) (hk : sc.kind = .function) (h : ckS C sc (.set i c) s = true) : PS X s (tS G B Wx F gl (.set i c)) := by
  unfold ckS at h
  split at h
  rotate_left
  · cases h
  rename_i x p v pos
  simp only [Bool.and_eq_true, Bool.or_eq_true, beq_iff_eq] at h
  obtain ⟨⟨⟨h1, h2⟩, h3⟩, h4⟩ := h
  rcases h4 with h4 | h4
  · exact s_set ok.nd ok h1 h2 (okE go c ok tk h3) (swaps_none h4 _ _ _)
  · have hk2 : X.env.scope.kind = .function := by rw [ok.hsc]; exact hk
    cases v <;> first | cases h4 | skip
    rename_i el gs scope vp
    cases q : swapB X.env.scope x p scope vp with
    | false => exact s_set ok.nd ok h1 h2 (okE go c ok tk h3) (by rw [swaps_lc hk2, q])
    | true =>
      cases c with
      | lc elt own t src cond =>
        unfold ckE at h3
        split at h3
        rotate_left
        · cases h3
        rename_i heq
        cases heq
        simp only [Bool.and_eq_true] at h3
        obtain ⟨⟨⟨⟨⟨⟨⟨h1', h2'⟩, h3'⟩, h4'⟩, h5⟩, h6⟩, h7⟩, h8⟩ := h3
        exact s_setLc ok h1' h1 q (okI go src ok tk h2') (by rw [ok.N, ok.hsc]; exact blk_ok h4') h5
          (fun s H Ca cl fp => g_tg (ok.blk h4' s H Ca cl fp) h6)
          (fun s H Ca cl fp => okC go cond (ok.blk h4' s H Ca cl fp) takes0 h8)
          (fun s H Ca cl fp => okE go elt (ok.blk h4' s H Ca cl fp) takes0 h7) h3' hk2 (fun D σ H q => nw_of (H := H) ⟨_, _, _, _, _, rfl⟩ q)
      | _ => unfold ckE at h3; first | cases h3 | (split at h3 <;> first | cases h3 | (rename_i heq; cases heq))
theorem setN_ok (go : G.Ok) {i : Nat} {c : CE} {s : Stmt} (ok : XOk G C gl F n sc sc X) (tk : Takes X Wx) (hk : sc.kind = .function) (h : ckS C sc (.setN i c) s = true) : PS X s (tS G B Wx F gl (.setN i c)) := by
  unfold ckS at h
  split at h
  rotate_left
  · cases h
  rename_i x p v pos
  simp only [Bool.and_eq_true, beq_iff_eq] at h
  obtain ⟨⟨⟨h1, h2⟩, h3⟩, h4⟩ := h
  have hk2 : X.env.scope.kind = .function := by rw [ok.hsc]; exact hk
  split at h4
  · unfold ckE at h3
    split at h3
    rotate_left
    · cases h3
    exact s_setN ok.nd ok h1 h2 (n_lst (okEs go _ ok tk h3)) (swaps_none rfl _ _ _)
  · rename_i elt own t src cond
    unfold ckE at h3
    split at h3
    rotate_left
    · cases h3
    rename_i el tg it ifs scope vp
    simp only [Bool.and_eq_true] at h3
    obtain ⟨⟨⟨⟨⟨⟨⟨h1', h2'⟩, h3'⟩, h4'⟩, h5⟩, h6⟩, h7⟩, h8⟩ := h3
    cases q : swapB X.env.scope x p scope vp with
    | false =>
      exact s_setN ok.nd ok h1 h2 (n_lc ok h1' (okI go src ok tk h2') (by rw [ok.N, ok.hsc]; exact blk_ok h4') h5
        (fun s H Ca cl fp => g_tg (ok.blk h4' s H Ca cl fp) h6)
        (fun s H Ca cl fp => okC go cond (ok.blk h4' s H Ca cl fp) takes0 h8)
        (fun s H Ca cl fp => okE go elt (ok.blk h4' s H Ca cl fp) takes0 h7) h3') (by rw [swaps_lc hk2, q])
    | true =>
      exact s_setLc ok h1' h1 q (okI go src ok tk h2') (by rw [ok.N, ok.hsc]; exact blk_ok h4') h5
        (fun s H Ca cl fp => g_tg (ok.blk h4' s H Ca cl fp) h6)
        (fun s H Ca cl fp => okC go cond (ok.blk h4' s H Ca cl fp) takes0 h8)
        (fun s H Ca cl fp => okE go elt (ok.blk h4' s H Ca cl fp) takes0 h7) h3' hk2 (fun D σ H q => nw_own (H := H) q)
  · unfold ckE at h3
    split at h3
    rotate_left
    · cases h3
    rename_i y q es r
    simp only [Bool.and_eq_true, beq_iff_eq, Bool.not_eq_true'] at h3
    obtain ⟨⟨⟨⟨⟨h1', h2'⟩, h3'⟩, h4'⟩, h5⟩, h6⟩ := h3
    subst h2'
    cases es with
    | nil => cases h6
    | cons e es =>
      cases es with
      | cons e' es => unfold ckEs at h4'; simp only [Bool.and_eq_true] at h4'; have := h4'.2; unfold ckEs at this; cases this
      | nil =>
        unfold ckEs at h4'
        simp only [Bool.and_eq_true] at h4'
        exact s_setN ok.nd ok h1 h2 (n_list ok h1' h3' h4'.1.1 (b_of ok h4'.1.2 (okE go _ ok tk h4'.1.2))) (swaps_none rfl _ _ _)
  · cases h4
mutual
theorem okS (go : G.Ok) (hk : sc.kind = .function) : ∀ (c : CS) {F : FTab} {C : Ck} {X : Cx} {Wx : WX} {s : Stmt}, XOk G C gl F n sc sc X → Takes X Wx → Top X → ckS C sc c s = true → PS X s (tS G B Wx F gl c)
  | .set i c, F, C, X, Wx, s, ok, tk, tp, h => set_ok go ok tk hk h
  | .setN i c, F, C, X, Wx, s, ok, tk, tp, h => setN_ok go ok tk hk h
  | .setT is c, F, C, X, Wx, s, ok, tk, tp, h => by
    unfold ckS at h
    split at h
    rotate_left
    · cases h
    simp only [Bool.and_eq_true] at h
    obtain ⟨⟨⟨⟨h1, h2⟩, h3⟩, h4⟩, h5⟩ := h
    exact s_setT ok h1 h2 (okE go c ok tk h3) h4 h5
  | .setSub a c d, F, C, X, Wx, s, ok, tk, tp, h => by
    unfold ckS at h
    split at h
    rotate_left
    · cases h
    simp only [Bool.and_eq_true] at h
    obtain ⟨⟨⟨⟨h1, h2⟩, h3⟩, h4⟩, h5⟩ := h
    cases a with
    | var i =>
      simp only [Bool.and_eq_true, beq_iff_eq] at h1
      exact s_sub ok h1.1 h1.2 h2 h3 (okE go d ok tk h4) (okE go c ok tk h5)
    | _ => cases h1
  | .setAttr a f c, F, C, X, Wx, s, ok, tk, tp, h => by
    unfold ckS at h
    split at h
    rotate_left
    · cases h
    simp only [Bool.and_eq_true, beq_iff_eq] at h
    obtain ⟨⟨⟨h1, h2⟩, h3⟩, h4⟩ := h
    cases a with
    | var i =>
      simp only [Bool.and_eq_true, beq_iff_eq] at h1
      exact s_attr ok go h1.1 h1.2 h2 h3 (okE go c ok tk h4)
    | _ => cases h1
  | .app i c, F, C, X, Wx, s, ok, tk, tp, h => by
    unfold ckS at h
    split at h
    rotate_left
    · cases h
    simp only [Bool.and_eq_true, beq_iff_eq] at h
    obtain ⟨⟨⟨⟨⟨h1, h2⟩, h3⟩, h4⟩, h5⟩, h6⟩ := h
    subst h1
    exact s_app ok h2 h3 h4 (by rw [h5]; exact beq_self_eq_true _) (okE go c ok tk h6)
  | .ex c, F, C, X, Wx, s, ok, tk, tp, h => by
    unfold ckS at h
    split at h
    rotate_left
    · cases h
    simp only [Bool.and_eq_true] at h
    exact s_ex (okE go c ok tk h.1) h.2
  | .ret c, F, C, X, Wx, s, ok, tk, tp, h => by
    unfold ckS at h
    split at h
    rotate_left
    · cases h
    exact s_ret (okE go c ok tk h)
  | .retN, F, C, X, Wx, s, ok, tk, tp, h => by
    unfold ckS at h
    split at h
    rotate_left
    · cases h
    exact s_retN
  | .ite t a b, F, C, X, Wx, s, ok, tk, tp, h => by
    unfold ckS at h
    split at h
    rotate_left
    · cases h
    simp only [Bool.and_eq_true] at h
    exact s_ite (okT go t ok tk h.1.1.1 h.1.1.2) (okSs go hk a ok tk tp h.1.2) (okSs go hk b ok tk tp h.2)
  | .for_ t src b, F, C, X, Wx, s, ok, tk, tp, h => by
    unfold ckS at h
    split at h
    rotate_left
    · cases h
    simp only [Bool.and_eq_true] at h
    obtain ⟨⟨⟨⟨h1, h2⟩, h3⟩, h4⟩, h5⟩ := h
    exact s_for ok h1 (okI go src ok tk h2) (g_tg ok h4) (okSs go hk b ok tk tp h5) h3
  | .while_ m t b, F, C, X, Wx, s, ok, tk, tp, h => by
    unfold ckS at h
    split at h
    rotate_left
    · cases h
    simp only [Bool.and_eq_true] at h
    exact s_while ok (okT go t ok tk h.1.1 h.1.2) (okSs go hk b ok tk tp h.2)
  | .pass, F, C, X, Wx, s, ok, tk, tp, h => by
    unfold ckS at h
    split at h
    rotate_left
    · cases h
    exact s_pass
  | .brk, F, C, X, Wx, s, ok, tk, tp, h => by
    unfold ckS at h
    split at h
    rotate_left
    · cases h
    exact s_brk
  | .cont, F, C, X, Wx, s, ok, tk, tp, h => by
    unfold ckS at h
    split at h
    rotate_left
    · cases h
    exact s_cont
  | .frz _, F, C, X, Wx, s, ok, tk, tp, h => by unfold ckS at h; cases h
  | .dead, F, C, X, Wx, s, ok, tk, tp, h => s_dead
  | .try_ cb k ch, F, C, X, Wx, s, ok, tk, tp, h => by
    unfold ckS at h
    split at h
    rotate_left
    · cases h
    simp only [Bool.and_eq_true, beq_iff_eq, decide_eq_true_eq] at h
    obtain ⟨⟨⟨⟨h1, h2⟩, h3⟩, h4⟩, h5⟩ := h
    exact s_try ok tk tp.1 tp.2 h1 h2 h3 (fun W pn xe tk' po' => okSs go hk cb (ok.tr po') tk' tp h4) (fun a pn => okSs go hk ch (ok.suite a pn) takes0 tp h5)
  | .raise_ k, F, C, X, Wx, s, ok, tk, tp, h => by
    unfold ckS at h
    split at h
    rotate_left
    · cases h
    simp only [Bool.and_eq_true, beq_iff_eq, decide_eq_true_eq] at h
    exact s_raise ok tk h.1.1.1 h.1.1.2 h.1.2 h.2
theorem okSs (go : G.Ok) (hk : sc.kind = .function) : ∀ (c : CSs) {F : FTab} {C : Ck} {X : Cx} {Wx : WX} {ss : List Stmt}, XOk G C gl F n sc sc X → Takes X Wx → Top X → ckSs C sc c ss = true → PSs X ss (tSs G B Wx F gl c)
  | .nil, F, C, X, Wx, ss, ok, tk, tp, h => by
    unfold ckSs at h
    rw [List.isEmpty_iff] at h
    subst h
    exact ss_nil
  | .cons c cs, F, C, X, Wx, ss, ok, tk, tp, h => by
    cases c with
    | frz i =>
      unfold ckSs at h
      exact ss_frz (okSs go hk cs ok tk tp h)
    | _ =>
      unfold ckSs at h
      split at h
      · rw [Bool.and_eq_true] at h
        exact ss_cons (okS go hk _ ok tk tp h.1) (okSs go hk cs ok tk tp h.2)
      · cases h
end
end
end Rf
set_option Elab.async false
set_option linter.all false
set_option maxRecDepth 100000
set_option maxHeartbeats 8000000
/-! G18: functions, the program -/
namespace Rf
open PySem L2 PySem.Spec PyProof.Rows
/-- a def of the program: its place, its text; its names, its core -/
structure PFn where
  d : He.DefD
  N : List Str
  fn : Fn
def PFn.ps (p : PFn) : List Str := p.d.params.args.map (·.arg)
/-- what is left over -/
def PFn.pv (p : PFn) : Option Str := p.d.params.vararg.map (·.arg)
def PFn.all (p : PFn) : List Str := p.ps ++ p.pv.toList
def chkFn (T : Tab) (p : PFn) : Bool :=
  p.fn.np == p.all.length && p.fn.nn == p.N.length && decide p.N.Nodup && p.N.take p.all.length == p.all &&
  p.d.scope.kind == .function && !p.d.scope.isCoroutine && !p.d.scope.isGenerator &&
  (p.all.all fun x => p.d.scope.names.lookup x == some .local || p.d.scope.names.lookup x == some .cell) && (p.d.scope.names.all fun y => !(y.2 == .free)) &&
  p.d.dfl.isEmpty && p.d.kwd.isEmpty && ckSs ⟨T, p.N, true⟩ p.d.scope p.fn.body p.d.body && p.fn.va == p.pv.isSome
theorem FnScope.of {T : Tab} {p : PFn} (h : chkFn T p = true) : FnScope p.N p.all p.d.scope ∧ p.fn.np = p.all.length ∧ p.fn.nn = p.N.length ∧ p.d.dfl = [] ∧ p.d.kwd = [] ∧ ckSs ⟨T, p.N, true⟩ p.d.scope p.fn.body p.d.body = true ∧ p.fn.va = p.pv.isSome := by
  unfold chkFn at h
  simp only [Bool.and_eq_true, Bool.not_eq_true', beq_iff_eq, decide_eq_true_eq, List.isEmpty_iff] at h
  obtain ⟨⟨⟨⟨⟨⟨⟨⟨⟨⟨⟨⟨h1, h2⟩, h3⟩, h4⟩, h5⟩, h6⟩, h7⟩, h8⟩, h9⟩, h10⟩, h11⟩, h12⟩, h13⟩ := h
  refine ⟨⟨h5, h6, h7, h3, h4, fun x hx => ?_, fun y hy e => ?_⟩, h1, h2, h10, h11, h12, h13⟩
  · have q := List.all_eq_true.mp h8 x hx
    simpa [Bool.or_eq_true] using q
  · have q := List.all_eq_true.mp h9 y hy
    rw [e] at q
    cases q
/-- how it binds -/
def BOk (K : PySem.W.Frag) (p : PFn) (fd : FuncData) : Prop := match p.pv with
  | none => Binds K fd p.ps []
  | some pv => ∀ us rest : List Value, us.length = p.ps.length → bindArgs fd ⟨us ++ rest, []⟩ = (newTuple rest >>= fun t => pure (p.ps.zip us ++ [(pv, t)]))
section
variable {G : Gm} {B : Bs} {w w' : W} {ds : List D} {vs : List V}
theorem Reps.at (r : Reps G w ds vs) (n : Nat) (m : Addr) : EnvOk G ⟨w, m⟩ w (start n ds) (vs.map some ++ List.replicate (n - ds.length) none) (fun _ => 0) where
  len := by unfold start; rw [List.length_append, List.length_append, List.length_map, List.length_map, List.length_replicate, List.length_replicate, r.length]
  vals := fun i d h => by
    unfold start at h
    by_cases hi : i < ds.length
    · rw [List.getElem?_append_left (by rw [List.length_map]; exact hi), List.getElem?_map] at h
      rw [List.getElem?_append_left (by rw [List.length_map, ← r.length]; exact hi), List.getElem?_map]
      cases q : ds[i]? with
      | none => rw [q] at h; cases h
      | some d' =>
        rw [q] at h
        cases h
        obtain ⟨v, hv, rv⟩ := r.get q
        exact ⟨v, by rw [hv]; rfl, rv⟩
    · rw [List.getElem?_append_right (by rw [List.length_map]; omega), List.getElem?_replicate] at h
      split at h <;> cases h
  own := fun i o h => by
    unfold start at h
    by_cases hi : i < ds.length
    · rw [List.getElem?_append_left (by rw [List.length_map]; exact hi), List.getElem?_map] at h
      cases q : ds[i]? <;> rw [q] at h <;> cases h
    · rw [List.getElem?_append_right (by rw [List.length_map]; omega), List.getElem?_replicate] at h
      split at h <;> cases h
  inj := fun i j o u h1 h2 e => by
    unfold start at h1
    by_cases hi : i < ds.length
    · rw [List.getElem?_append_left (by rw [List.length_map]; exact hi), List.getElem?_map] at h1
      cases q : ds[i]? <;> rw [q] at h1 <;> cases h1
    · rw [List.getElem?_append_right (by rw [List.length_map]; omega), List.getElem?_replicate] at h1
      split at h1 <;> cases h1
  mine := fun i c fs h => by
    unfold start at h
    by_cases hi : i < ds.length
    · rw [List.getElem?_append_left (by rw [List.length_map]; exact hi), List.getElem?_map] at h
      cases q : ds[i]? <;> rw [q] at h <;> cases h
    · rw [List.getElem?_append_right (by rw [List.length_map]; omega), List.getElem?_replicate] at h
      split at h <;> cases h
/-- the body's end is the call's -/
theorem fin_ok {m : Addr} {Q : VK} {E : XK} {o : Out} (h : PostF G w o.fin Q E) : SPost G ⟨w, m⟩ (fun cls d _ H => E cls d H) { nx := fun _ H' => Q .non H', rt := Q } w o := by
  cases o with
  | next env' h' => exact fun w' σ' ω' eh s le => h w' eh s.ok s.be .non .non
  | brk env' h' => exact h.elim
  | cont env' h' => exact h.elim
  | ret d h' => exact fun w' v eh ok be le r => h w' eh ok be v r
  | exc x env' h' => exact fun w' σ' ω' eh s le => h w' eh s.ok s.be
  | bad => exact h.elim
end
theorem start_own {n : Nat} {ds : List D} {i : Nat} {o : Ob} (h : (start n ds)[i]? = some (Sl.own o)) : False := by
  unfold start at h
  by_cases hi : i < ds.length
  · rw [List.getElem?_append_left (by rw [List.length_map]; exact hi), List.getElem?_map] at h
    cases q : ds[i]? <;> rw [q] at h <;> cases h
  · rw [List.getElem?_append_right (by rw [List.length_map]; omega), List.getElem?_replicate] at h
    split at h <;> cases h
/-- an __init__'s end -/
theorem fini_ok {G : Gm} {w0 w1 : W} {x : Addr} {c : Nat} {Q : VK} {E : XK} {o : Out}
    (h : Post G w0 (o.fini c) (fun fs w' => ∀ dx' fvs, w'.H x = some (.ins (G.ca c) dx' fvs) → RepF G w' fs fvs → ¬ w'.Z x → ¬ w'.live x → Q .non w'.H) (fun z w' => ∀ cls dd, ExR G w' z cls dd → E cls dd w'.H)) :
    SPost G ⟨w0, x⟩ (fun cls d _ H => E cls d H) { nx := fun _ H' => Q .non H', rt := Q } w1 o := by
  cases o with
  | next env' h' =>
    intro w' σ' ω' eh s le
    unfold Out.fini at h
    split at h
    · rename_i k fs rest h2 heq
      cases heq
      split at h
      · rename_i ek
        subst ek
        obtain ⟨j1, j2, j3, j4, j5⟩ := s.eo.own 0 _ rfl
        have jm : ω' 0 = x := s.eo.mine 0 k fs rfl
        rw [jm] at j2 j3 j4
        cases j2 with
        | ins hc hH rf => exact h w' eh s.ok s.be _ _ hH rf j3 j4
      · exact h.elim
    · rename_i heq
      cases heq
    · exact h.elim
  | brk env' h' => exact h.elim
  | cont env' h' => exact h.elim
  | ret d h' => exact h.elim
  | exc z env' h' => exact fun w' σ' ω' eh s le => h w' eh s.ok s.be
  | bad => exact h.elim
/-- what the program's facts are -/
structure POk (G : Gm) (P : Program) (w : World) (mg : Str → Option Value) (base : Heap) (T : Tab) (tb : Tb) (L : List PFn) (gl : Nat → Option D) : Prop where
  go : G.Ok
  fns : ∀ (f : Nat) (x : Str), T.fns[f]? = some (x, none) → ∃ p a fd, L[f]? = some p ∧ mg x = some (.ref a) ∧ FunD G.K p.d.name p.d.qual p.d.params p.d.body p.d.scope (p.d.dvs G.K) (p.d.kws G.K) a fd ∧ BOk G.K p fd
  chk : ∀ p ∈ L, chkFn T p = true
  glob : ∀ (g : Nat) (x : Str) (d : D), T.gn[g]? = some x → gl g = some d → ∃ v u, mg x = some u ∧ RelV v u ∧ ∀ w, Rep G w d v
  blt : ∀ x ∈ names0, mg x = none
  cls : ∀ (c : Nat) (x : Str), T.cls[c]? = some x → c < G.nc ∧ mg x = some (.ref (G.ca c))
  exc : ∀ (c : Nat) (x : Str), T.cls.length ≤ c → (T.cls ++ T.exc)[c]? = some x → mg x = some (.ref (G.ca c)) ∧ PySem.W.excIn G.K (G.ca c) He.veBase "ValueError.__new__" = true ∧ PySem.W.keepIn G.K (.ref (G.ca c)) = true ∧ PySem.W.subIn G.K (.ref (G.ca c)) (.type "BaseException") = some true ∧ PySem.W.typeIn G.K (.ref (G.ca c)) = some (.type "type")
  exm : ∀ c c' b, tb.sb c c' = some b → PySem.W.exmOne G.K (.ref (G.ca c)) (.ref (G.ca c')) = some b
  sy : ∀ (f : Nat) (x : Str), T.fld[f]? = some x → G.sy f = x
  ft : ∀ c f, tb.ft c f = true → c < G.nc ∧ NoAttr G.K (G.ca c) (G.sy f)
  mt : ∀ c m f, tb.mt c m = some f → c < G.nc ∧ ∃ p a fd, L[f]? = some p ∧ Meth G.K (G.ca c) (G.sy m) a ∧ FunD G.K p.d.name p.d.qual p.d.params p.d.body p.d.scope (p.d.dvs G.K) (p.d.kws G.K) a fd ∧ BOk G.K p fd
  ot : ∀ c k f, tb.ot c k = some f → c < G.nc ∧ ∃ p a fd, L[f]? = some p ∧ PySem.W.findIn G.K (.ref (G.ca c)) k.nm = some (some (.ref a)) ∧ PySem.W.isFn G.K (.ref a) = true ∧ FunD G.K p.d.name p.d.qual p.d.params p.d.body p.d.scope (p.d.dvs G.K) (p.d.kws G.K) a fd ∧ BOk G.K p fd
  mkr : ∀ (c : Nat), T.mks.contains c = true → ∃ f p a fd, tb.it c = some f ∧ L[f]? = some p ∧ p.pv = none ∧ Mk G.K (G.ca c) a ∧ FunD G.K p.d.name p.d.qual p.d.params p.d.body p.d.scope (p.d.dvs G.K) (p.d.kws G.K) a fd ∧ BOk G.K p fd
def fnsOf (L : List PFn) (i : Nat) : Option Fn := L[i]?.map (·.fn)
section
variable {G : Gm} {P : Program} {w : World} {mg : Str → Option Value} {base : Heap} {T : Tab} {tb : Tb} {L : List PFn} {gl : Nat → Option D}
theorem spF_bad {F : FTab} {f : Nat} (h : ∀ ds h, F.call f ds h = .bad) {vs : List V} {H : Hp} {Q : VK} {E : XK} (s : spF G F f vs H Q E) : False := by
  obtain ⟨w, ds, _, _, _, p⟩ := s
  rw [h] at p
  exact p
theorem spI_bad {F : FTab} {c : Nat} (h : ∀ ds h, F.ini c ds h = .bad) {vs : List V} {H : Hp} {Q : VK} {E : XK} (s : spI G F c vs H Q E) : False := by
  obtain ⟨w0, w, ds, a, dx, vs', _, _, _, _, _, _, _, _, _, _, _, p⟩ := s
  rw [h] at p
  exact p
theorem isLoc_of {sc : Scope} {x : Str} (hx : isLoc sc x = true) : L2.Loc sc x := by
  unfold isLoc at hx
  split at hx
  · rename_i q; exact .inl q
  · rename_i q; exact .inr q
  · cases hx
/-- the defs and the __init__s, so deep -/
abbrev FnK (G : Gm) (P : Program) (w : World) (mg : Str → Option Value) (base : Heap) (tb : Tb) (L : List PFn) (gl : Nat → Option D) (k : Nat) : Prop :=
  (∀ (f : Nat) (p : PFn) (a : Addr) (fd : FuncData), L[f]? = some p → FunD G.K p.d.name p.d.qual p.d.params p.d.body p.d.scope (p.d.dvs G.K) (p.d.kws G.K) a fd → BOk G.K p fd → FnR P w G.K mg base (L2.CX P w) (2 * k) a (spF G (calls gl (fnsOf L) tb k) f)) ∧
  ∀ (c f : Nat) (p : PFn) (a : Addr) (fd : FuncData), tb.it c = some f → L[f]? = some p → FunD G.K p.d.name p.d.qual p.d.params p.d.body p.d.scope (p.d.dvs G.K) (p.d.kws G.K) a fd → p.pv = none → BOk G.K p fd → FnR P w G.K mg base (L2.CX P w) (2 * k) a (spI G (calls gl (fnsOf L) tb k) c)
theorem xok_of (po : POk G P w mg base T tb L gl) {k : Nat} (ih : FnK G P w mg base tb L gl k) {p : PFn} {ps : List Str} (S : FnScope p.N ps p.d.scope) {a : Addr} {cdv : Value} {A : Around} {outer : List Env} {s : Shared} {H : Hp} {E : XK}
    (hr : Room (2 * k + 1) (A.deeper (envOfC p.d.qual p.d.scope s.heap.objs.size a cdv))) : XOk G ⟨T, p.N, true⟩ gl (calls gl (fnsOf L) tb k) k p.d.scope p.d.scope (cxOf (L2.CX P w) P w G.K mg base p.N p.d.qual p.d.scope a cdv A outer s H E) where
  K := rfl
  N := rfl
  nd := S.nd
  hsc := rfl
  calm := fun _ => rfl
  hu := Nat.lt_of_le_of_lt (Nat.add_le_add_left (by omega : 65 ≤ 16 * (2 * k + 1) + 200) _) (by have := hr.un; rw [Nat.add_assoc] at this; exact this)
  room := fun _ => hr
  fnl := fun x hx => ⟨isLoc_of hx, .inl rfl⟩
  glob := po.glob
  blt := po.blt
  po := passes_of rfl
  cls := po.cls
  fn := fun f' x hf => by
    obtain ⟨p', a', fd', g1, g2, g3, g4⟩ := po.fns f' x hf
    exact ⟨a', g2, g3.kp, ih.1 f' p' a' fd' g1 g3 g4⟩
  exc := po.exc
  exm := fun c c' b h => po.exm c c' b (by cases k <;> exact h)
  sy := po.sy
  ft := fun c f h => po.ft c f (by cases k <;> exact h)
  mt := fun c m f h => by
    obtain ⟨h1, p', a', fd', g1, g2, g3, g4⟩ := po.mt c m f (by cases k <;> exact h)
    exact ⟨h1, a', g2, ih.1 f p' a' fd' g1 g3 g4⟩
  ot := fun c m f h => by
    obtain ⟨h1, p', a', fd', g1, g2, g2', g3, g4⟩ := po.ot c m f (by cases k <;> exact h)
    refine ⟨rfl, h1, a', g2, g2', ?_, ih.1 f p' a' fd' g1 g3 g4⟩
    obtain ⟨oc, od, dV, kV, doc, pm, an, cdv, ct, osl, e, lk, _⟩ := g3.ex
    unfold PySem.W.fnIn
    rw [lk]
  mkr := fun c h => by
    obtain ⟨f', p', a', fd', g0, g1, g1', g2, g3, g4⟩ := po.mkr c h
    exact ⟨a', g2, ih.2 c f' p' a' fd' g0 g1 g3 g1' g4⟩
/-- a body's promise -/
def spB (G : Gm) (F : FTab) (gl : Nat → Option D) (f : Fn) : Sp := fun vs H Q E => ∃ w ds, w.H = H ∧ WOk G w ∧ Reps G w ds vs ∧ ds.length = f.np ∧ PostF G w (evSs F gl f.body (start f.nn ds) w.h).fin Q E
theorem body_ok (po : POk G P w mg base T tb L gl) {k : Nat} (ih : FnK G P w mg base tb L gl k) {p : PFn} (hc : chkFn T p = true) {a : Addr} {cdv : Value} (A : Around) (outer : List Env) (s : Shared) (H : Hp) (vs : List V) (Q : VK) (E : XK)
    (hr : Room (2 * k + 1) (A.deeper (envOfC p.d.qual p.d.scope s.heap.objs.size a cdv))) (hsp : spB G (calls gl (fnsOf L) tb k) gl p.fn vs H Q E) :
    ∃ t, PSs (cxOf (L2.CX P w) P w G.K mg base p.N p.d.qual p.d.scope a cdv A outer s H E) p.d.body t ∧ t { nx := fun _ H' => Q .non H', rt := Q } (L2.start p.N vs) H := by
  obtain ⟨S, h1, h2, h3, h4, h5, h6⟩ := FnScope.of hc
  obtain ⟨w0, ds, e, ok0, r, hl, q⟩ := hsp
  subst e
  refine ⟨tSs G ⟨w0, 0⟩ (fun cls d _ H => E cls d H) (calls gl (fnsOf L) tb k) gl p.fn.body, okSs (n := k) (C := ⟨T, p.N, true⟩) (sc := p.d.scope) po.go S.kind p.fn.body (xok_of po ih S hr) (takes_of rfl rfl rfl rfl) ⟨rfl, rfl⟩ h5, w0, start p.fn.nn ds, fun _ => 0, rfl, ⟨ok0, Ext.refl _, ?_⟩, ?_⟩
  · have := r.at p.fn.nn 0
    rw [h2] at this ⊢
    rw [r.length] at this
    exact this
  · exact fin_ok q
theorem call_at {k f : Nat} {p : PFn} (hp : L[f]? = some p) (ds : List D) (h : Cells) : (calls gl (fnsOf L) tb (k + 1)).call f ds h = runFn (calls gl (fnsOf L) tb k) gl p.fn ds h := by
  have hfs : fnsOf L f = some p.fn := by unfold fnsOf; rw [hp]; rfl
  show (match fnsOf L f with | some fn => runFn (calls gl (fnsOf L) tb k) gl fn ds h | none => .bad) = _
  rw [hfs]
/-- a def without a star -/
theorem fn_plain (po : POk G P w mg base T tb L gl) {k : Nat} (ih : FnK G P w mg base tb L gl k) {f : Nat} {p : PFn} {a : Addr} {fd : FuncData} (hp : L[f]? = some p) (hF : FunD G.K p.d.name p.d.qual p.d.params p.d.body p.d.scope (p.d.dvs G.K) (p.d.kws G.K) a fd) (hv : p.pv = none) : FnOk P w G.K mg base (L2.CX P w) (2 * (k + 1)) a fd p.ps (spF G (calls gl (fnsOf L) tb (k + 1)) f) := by
  have hc := po.chk p (List.mem_of_getElem? hp)
  obtain ⟨S, h1, h2, h3, h4, h5, h6⟩ := FnScope.of hc
  have hall : p.all = p.ps := by unfold PFn.all; rw [hv]; exact List.append_nil _
  rw [hv] at h6
  rw [hall] at S h1
  have key : ∀ vs H Q E, spF G (calls gl (fnsOf L) tb (k + 1)) f vs H Q E → spB G (calls gl (fnsOf L) tb k) gl p.fn vs H Q E := fun vs H Q E ⟨w0, ds, e, ok0, r, q⟩ => by
    rw [call_at hp] at q
    unfold runFn packV at q
    rw [h6] at q
    simp only [Option.isSome_none, Bool.false_eq_true, if_false] at q
    by_cases hl : ds.length = p.fn.np
    · rw [if_pos hl] at q
      exact ⟨w0, ds, e, ok0, r, hl, q⟩
    · rw [if_neg hl] at q
      exact q.elim
  refine hF.ok S (fun vs H Q E z => ?_) (k := 2 * k + 1) fun cdv A outer s H vs Q E hr hsp => body_ok po ih hc A outer s H vs Q E hr (key _ _ _ _ hsp)
  obtain ⟨w0, ds, _, _, r, hl, _⟩ := key _ _ _ _ z
  rw [← r.length, hl, h1]
theorem fnR_plain {CX : CXT} {k : Nat} {f : Addr} {fd : FuncData} {ps : List Str} {sp : Sp} (F : FnOk P w G.K mg base CX k f fd ps sp) (hb : Binds G.K fd ps []) : FnR P w G.K mg base CX k f sp :=
  (F.raw hb .nil).imp fun vs H Q E z => by rw [List.append_nil]; exact z
theorem W.put_reps {w : W} {ds : List D} {vs : List V} {a : Addr} (ok : WOk G w) (r : Reps G w ds vs) (ha : w.H a = none) (n : Nat) : WOk G (w.put a (.tup (vs.drop n))) ∧ Ext w (w.put a (.tup (vs.drop n))) ∧ Reps G (w.put a (.tup (vs.drop n))) (ds.take n ++ [.tup (ds.drop n)]) (vs.take n ++ [V.ref a]) := by
  obtain ⟨ok', e⟩ := new_frozen (o := .tup (vs.drop n)) ok ha
  exact ⟨ok', e, ((r.take n).ext ok e).append (.cons (.tup (.inl (.inl upd_same)) ((r.drop n).ext ok e)) .nil)⟩
/-- a def with a star -/
theorem fn_starred (po : POk G P w mg base T tb L gl) {k : Nat} (ih : FnK G P w mg base tb L gl k) {f : Nat} {p : PFn} {a : Addr} {fd : FuncData} {pv : Str} (hp : L[f]? = some p) (hF : FunD G.K p.d.name p.d.qual p.d.params p.d.body p.d.scope (p.d.dvs G.K) (p.d.kws G.K) a fd) (hv : p.pv = some pv) (hb : BOk G.K p fd) : FnR P w G.K mg base (L2.CX P w) (2 * (k + 1)) a (spF G (calls gl (fnsOf L) tb (k + 1)) f) := by
  have hc := po.chk p (List.mem_of_getElem? hp)
  obtain ⟨S, h1, h2, h3, h4, h5, h6⟩ := FnScope.of hc
  have hall : p.all = p.ps ++ [pv] := by unfold PFn.all; rw [hv]; rfl
  rw [hv] at h6
  rw [hall] at S h1
  unfold BOk at hb
  rw [hv] at hb
  simp only at hb
  obtain ⟨oc, od, dV, kV, doc, pm, an, cdv, ct, osl, e, lk, hcd, _, _⟩ := hF.ex
  subst e
  refine FnR.imp (StX.fn_star (k := 2 * k + 1) (sp := spB G (calls gl (fnsOf L) tb k) gl p.fn) lk hcd S StX.cxUp hb fun A outer s H vs Q E hr hsp => body_ok po ih hc A outer s H vs Q E hr hsp) fun vs H Q E ⟨w0, ds, e, ok0, r, q⟩ => ?_
  subst e
  rw [call_at hp] at q
  unfold runFn packV at q
  rw [h6] at q
  simp only [Option.isSome_some, if_true] at q
  have hn : p.fn.np - 1 = p.ps.length := by rw [h1, List.length_append]; rfl
  by_cases hl : p.fn.np ≤ ds.length + 1 ∧ ds.length ≤ LIM
  · rw [if_pos hl, hn] at q
    have hnp : p.fn.np = p.ps.length + 1 := by rw [h1, List.length_append]; rfl
    have hle : p.ps.length ≤ vs.length := by rw [← r.length]; omega
    refine ⟨vs.take p.ps.length, vs.drop p.ps.length, (List.take_append_drop _ _).symm, by rw [List.length_take]; omega, ?_, fun x hx => ?_⟩
    · rw [List.length_drop, ← r.length]
      have := hl.2
      show _ ≤ 16777216
      have e : LIM = 16777216 := rfl
      omega
    · obtain ⟨ok', ex, r'⟩ := W.put_reps ok0 r hx p.ps.length
      refine ⟨w0.put x (.tup (vs.drop p.ps.length)), _, rfl, ok', r', ?_, Post.later q ex⟩
      rw [List.length_append, List.length_take, List.length_singleton, hnp]
      omega
  · rw [if_neg hl] at q
    exact q.elim
theorem fnk (po : POk G P w mg base T tb L gl) : ∀ k, FnK G P w mg base tb L gl k
  | 0 => ⟨fun f p a fd hp hF hb A outer s H us vs Q E _ _ _ q => (spF_bad (fun _ _ => rfl) q).elim,
      fun c f p a fd _ hp hF _ hb A outer s H us vs Q E _ _ _ q => (spI_bad (fun _ _ => rfl) q).elim⟩
  | k + 1 => by
    have ih := fnk po k
    refine ⟨fun f p a fd hp hF hb => ?_, fun c f p a fd hit hp hF hpv hbb => ?_⟩
    · cases hv : p.pv with
      | none =>
        unfold BOk at hb
        rw [hv] at hb
        exact fnR_plain (fn_plain po ih hp hF hv) hb
      | some pv => exact fn_starred po ih hp hF hv hb
    · obtain ⟨S, h1, h2, h3, h4, h5, h6⟩ := FnScope.of (po.chk p (List.mem_of_getElem? hp))
      have hall : p.all = p.ps := by unfold PFn.all; rw [hpv]; exact List.append_nil _
      rw [hall] at S h1
      unfold BOk at hbb
      rw [hpv] at hbb
      have hfs : fnsOf L f = some p.fn := by unfold fnsOf; rw [hp]; rfl
      have hini : ∀ ds h, (calls gl (fnsOf L) tb (k + 1)).ini c ds h = runIni (calls gl (fnsOf L) tb k) gl p.fn c ds h := fun ds h => by
        show (match tb.it c with
          | some f => (match fnsOf L f with
            | some fn => runIni (calls gl (fnsOf L) tb k) gl fn c ds h
            | none => .bad)
          | none => .bad) = _
        rw [hit]
        simp only [hfs]
      have hlen : ∀ vs H Q E, spI G (calls gl (fnsOf L) tb (k + 1)) c vs H Q E → vs.length = p.ps.length := fun vs H Q E ⟨w0, w, ds, a, dx, vs', ev, _, _, _, _, _, _, _, _, _, r, q⟩ => by
        rw [hini] at q
        unfold runIni at q
        split at q
        · rename_i hl
          rw [ev, List.length_cons, ← r.length, hl, h1]
        · exact q.elim
      refine fnR_plain (hF.ok S hlen (k := 2 * k + 1) fun cdv A outer s H vs Q E hr hsp => ?_) hbb
      obtain ⟨w0, w1, ds, x, dx, vs', rfl, e, ok1, ext, hh, hc, hH, nz, nl, hn, r, q⟩ := hsp
      subst e
      rw [hini] at q
      unfold runIni at q
      split at q
      rotate_left
      · exact q.elim
      rename_i hl
      refine ⟨tSs G ⟨w0, x⟩ (fun cls d _ H => E cls d H) (calls gl (fnsOf L) tb k) gl p.fn.body, okSs (n := k) (C := ⟨T, p.N, true⟩) (sc := p.d.scope) po.go S.kind p.fn.body (xok_of po ih S hr) (takes_of rfl rfl rfl rfl) ⟨rfl, rfl⟩ h5,
        w1, .own (.ins c []) :: start (p.fn.nn - 1) ds, fun _ => x, rfl, ⟨ok1, ext, ?_⟩, ?_⟩
      · have := r.at (p.fn.nn - 1) x
        have hN : p.fn.nn = p.N.length := h2
        have e : L2.start p.N (V.ref x :: vs') = some (V.ref x) :: (vs'.map some ++ List.replicate (p.fn.nn - 1 - ds.length) none) := by
          show some (V.ref x) :: (vs'.map some) ++ List.replicate (p.N.length - (V.ref x :: vs').length) none = _
          rw [List.length_cons, ← hN, ← r.length, Nat.sub_sub, Nat.add_comm 1]
          rfl
        rw [e]
        refine ⟨by rw [List.length_cons, List.length_cons, this.len], fun i d h => ?_, fun i o h => ?_, fun i j o u h1 h2 e => ?_, fun i c' fs h => rfl⟩
        · cases i with
          | zero => cases h
          | succ i => exact this.vals i d h
        · cases i with
          | zero =>
            cases h
            exact ⟨rfl, .ins hc hH .nil, nz, nl, hn⟩
          | succ i =>
            have := (start_own (n := p.fn.nn - 1) (ds := ds) (i := i) (o := o) h)
            exact this.elim
        · cases i with
          | zero => cases j with
            | zero => rfl
            | succ j => exact (start_own (n := p.fn.nn - 1) (ds := ds) (i := j) (o := u) h2).elim
          | succ i => exact (start_own (n := p.fn.nn - 1) (ds := ds) (i := i) (o := o) h1).elim
      · rw [← hh] at q
        exact fini_ok q
end
end Rf
set_option Elab.async false
set_option linter.all false
set_option maxRecDepth 100000
set_option maxHeartbeats 8000000
/-! G19: the head: what the top leaves, as Bool checks over the written part -/
namespace Rf
open PySem L2 PySem.Spec PyProof.Rows
/-! ### constants -/
mutual
def repB (K : PySem.W.Frag) : D → Value → Bool
  | .non, u => match u with | .none => true | _ => false
  | .bl b, u => match u with | .bool c => b == c | _ => false
  | .int i, u => match u with | .int j _ => i == j | _ => false
  | .str x, u => match u with | .str y _ => x == y && decide (x.length ≤ sizeLine) | _ => false
  | .tup ds, u => match u with
    | .ref a => (match K.lookup a with
      | some ⟨.type c, _, .seq its _, _⟩ => c == "tuple" && decide (its.size ≤ sizeLine) && repsB K ds its.toList
      | _ => false)
    | _ => false
  | .lst ds, u => match u with
    | .ref a => (match K.lookup a with
      | some ⟨.type c, none, .seq its _, _⟩ => c == "list" && decide (its.size ≤ sizeLine) && repsB K ds its.toList
      | _ => false)
    | _ => false
  | _, _ => false
def repsB (K : PySem.W.Frag) : List D → List Value → Bool
  | [], us => us.isEmpty
  | d :: ds, us => match us with
    | u :: us => repB K d u && repsB K ds us
    | [] => false
end
mutual
theorem repB_ok {G : Gm} : ∀ (d : D) {u : Value}, repB G.K d u = true → ∃ v, RelV v u ∧ ∀ w, Rep G w d v
  | .non, u, h => by
    unfold repB at h
    split at h
    · exact ⟨.non, rfl, fun _ => .non⟩
    · cases h
  | .bl b, u, h => by
    unfold repB at h
    split at h
    · rw [beq_iff_eq] at h; subst h; exact ⟨.bl b, rfl, fun _ => .bl b⟩
    · cases h
  | .int i, u, h => by
    unfold repB at h
    split at h
    · rw [beq_iff_eq] at h; subst h; exact ⟨.int i, ⟨_, rfl⟩, fun _ => .int i⟩
    · cases h
  | .str x, u, h => by
    unfold repB at h
    split at h
    · rw [Bool.and_eq_true, beq_iff_eq, decide_eq_true_eq] at h
      obtain ⟨rfl, h2⟩ := h
      exact ⟨.str x, ⟨_, rfl⟩, fun _ => .str x h2⟩
    · cases h
  | .tup ds, u, h => by
    unfold repB at h
    split at h
    rotate_left
    · cases h
    rename_i a
    split at h
    rotate_left
    · cases h
    rename_i c od its n sl q
    simp only [Bool.and_eq_true, beq_iff_eq, decide_eq_true_eq] at h
    obtain ⟨⟨rfl, h2⟩, h3⟩ := h
    obtain ⟨vs, r, hr⟩ := repsB_ok ds h3
    exact ⟨.ref a, rfl, fun w => .tup (.inr ⟨_, its, n, q, rfl, rfl, h2, r⟩) (hr w)⟩
  | .lst ds, u, h => by
    unfold repB at h
    split at h
    rotate_left
    · cases h
    rename_i a
    split at h
    rotate_left
    · cases h
    rename_i c its n sl q
    simp only [Bool.and_eq_true, beq_iff_eq, decide_eq_true_eq] at h
    obtain ⟨⟨rfl, h2⟩, h3⟩ := h
    obtain ⟨vs, r, hr⟩ := repsB_ok ds h3
    exact ⟨.ref a, rfl, fun w => .lst (.inr (.inr ⟨_, its, n, q, rfl, rfl, rfl, h2, r⟩)) (hr w)⟩
  | .dk _, u, h => by unfold repB at h; cases h
  | .dt _, u, h => by unfold repB at h; cases h
  | .ins _ _, u, h => by unfold repB at h; cases h
  | .cell _, u, h => by unfold repB at h; cases h
theorem repsB_ok {G : Gm} : ∀ (ds : List D) {us : List Value}, repsB G.K ds us = true → ∃ vs, Vals vs us ∧ ∀ w, Reps G w ds vs
  | [], us, h => by
    unfold repsB at h
    rw [List.isEmpty_iff] at h
    subst h
    exact ⟨[], .nil, fun _ => .nil⟩
  | d :: ds, us, h => by
    unfold repsB at h
    split at h
    rotate_left
    · cases h
    rw [Bool.and_eq_true] at h
    obtain ⟨v, r, hr⟩ := repB_ok d h.1
    obtain ⟨vs, rs, hrs⟩ := repsB_ok ds h.2
    exact ⟨v :: vs, .cons r rs, fun w => .cons (hr w) (hrs w)⟩
end
/-! ### the program, all of it -/
/-- T's classes: nc own ones, then exceptions; sy: the fields' names; gv the constants -/
structure Pr where
  T : Tab
  L : List PFn
  gv : List D
  ftl : List (Nat × Nat) := []
  mtl : List ((Nat × Nat) × Nat) := []
  itl : List (Nat × Nat) := []
  sbl : List ((Nat × Nat) × Bool) := []
  otl : List ((Nat × Dn) × Nat) := []
def Pr.tb (p : Pr) : Tb := ⟨fun c f => p.ftl.contains (c, f), fun c m => p.mtl.lookup (c, m), fun c => p.itl.lookup c, fun c c' => p.sbl.lookup (c, c'), fun c k => p.otl.lookup (c, k)⟩
/-- fields' names: beyond the table, names of no field -/
def syOf (fld : List Str) (i : Nat) : Str := match fld[i]? with
  | some x => x
  | none => ⟨(List.replicate i 0).toArray⟩
def fldB (fld : List Str) : Bool := decide fld.Nodup && fld.all fun x => match x.cps.toList with
  | c :: _ => c != 0
  | [] => false
theorem syOf_inj {fld : List Str} (h : fldB fld = true) : ∀ i j, i < j → syOf fld i = syOf fld j → False := by
  unfold fldB at h
  rw [Bool.and_eq_true, decide_eq_true_eq] at h
  obtain ⟨nd, al⟩ := h
  intro i j hij e
  unfold syOf at e
  have key : ∀ (x : Str) (n : Nat), x ∈ fld → x = ⟨(List.replicate n 0).toArray⟩ → False := fun x n hx ex => by
    have q := List.all_eq_true.mp al x hx
    subst ex
    cases n with
    | zero => cases q
    | succ n =>
      simp [List.replicate_succ] at q
  cases hi : fld[i]? with
  | none =>
    have hl : fld.length ≤ i := by simpa using hi
    have hj : fld[j]? = none := by simpa using (by omega : fld.length ≤ j)
    simp only [hi, hj] at e
    have := congrArg (fun s : Str => s.cps.toList.length) e
    simp at this
    omega
  | some x =>
    cases hj : fld[j]? with
    | none =>
      simp only [hi, hj] at e
      exact key x j (List.mem_of_getElem? hi) e
    | some y =>
      simp only [hi, hj] at e
      subst e
      have := (List.getElem?_inj (by exact (List.getElem?_eq_some_iff.mp hi).1) nd).mp (hi.trans hj.symm)
      omega
/-- a class's name, a symbol's -/
abbrev Pr.cn (p : Pr) (c : Nat) : Str := (p.T.cls ++ p.T.exc).getD c ""
abbrev Pr.nc (p : Pr) : Nat := p.T.cls.length
abbrev Pr.G (p : Pr) (K : PySem.W.Frag) : Gm := ⟨K, syOf p.T.fld, fun c => He.ga K ((p.T.cls ++ p.T.exc).getD c ""), p.nc⟩
def Pr.gl (p : Pr) (g : Nat) : Option D := p.gv[g]?
def conB (K : PySem.W.Frag) (x : Str) (d : D) : Bool := match PySem.W.nsIn K mainGlobals x with
  | some (some u) => repB K d u
  | _ => false
def clsB (p : Pr) (K : PySem.W.Frag) : Bool :=
  ((List.range p.nc).all fun c => (He.Fa.cls ((p.T.cls ++ p.T.exc).getD c "")).ok K && He.eqO (PySem.W.findIn K (.ref ((p.G K).ca c)) "__class__") (some (some (.builtin "object.__class__"))) &&
    decide (PySem.W.mroIn K ((p.G K).ca c) (.type "object") = some true) &&
    ((List.range p.nc).all fun c' => decide (PySem.W.kitOne K (.ref ((p.G K).ca c)) (.ref ((p.G K).ca c')) = some (c == c'))) &&
    ((List.range p.nc).all fun c' => PySem.W.notFirst K ((p.G K).ca c) (.ref ((p.G K).ca c'))) &&
    (["NoneType", "bool", "int", "str", "list", "tuple", "dict"].all fun n => PySem.W.notFirst K ((p.G K).ca c) (.type n)) && PySem.W.selfFirst K ((p.G K).ca c) &&
    (["NoneType", "bool", "int", "str", "list", "tuple", "dict"].all fun n => decide (PySem.W.kitOne K (.type n) (.ref ((p.G K).ca c)) = some false)) &&
    (["bool", "int", "str", "list", "tuple", "dict"].all fun n => decide (PySem.W.kitOne K (.ref ((p.G K).ca c)) (.type n) = some false))) &&
  He.eqO (PySem.W.specialIn K (.builtin "object.__class__") "__get__") (some (some (.builtin "getset_descriptor.__get__"))) &&
  decide (PySem.W.takesIn K (.builtin "object.__class__") = some true)
theorem clsB_ok {p : Pr} {K : PySem.W.Frag} (h : clsB p K = true) (hf : fldB p.T.fld = true) : (p.G K).Ok := by
  unfold clsB at h
  rw [Bool.and_eq_true, Bool.and_eq_true] at h
  obtain ⟨⟨h1, h2⟩, h3⟩ := h
  have key := fun c (hc : c < p.nc) => List.all_eq_true.mp h1 c (List.mem_range.mpr hc)
  simp only [Bool.and_eq_true, decide_eq_true_eq] at key
  exact {
    cls := fun c hc => He.cls_ok (key c hc).1.1.1.1.1.1.1.1
    kc := fun c hc => He.eqO_ok (key c hc).1.1.1.1.1.1.1.2
    kg := He.eqO_ok h2
    kt := of_decide_eq_true h3
    ko := fun c hc => (key c hc).1.1.1.1.1.1.2
    isa := fun c c' hc hc' => by
      have := List.all_eq_true.mp (key c hc).1.1.1.1.1.2 c' (List.mem_range.mpr hc')
      exact of_decide_eq_true this
    nf := fun c c' hc hc' => List.all_eq_true.mp (key c hc).1.1.1.1.2 c' (List.mem_range.mpr hc')
    nfb := fun c hc n hn => List.all_eq_true.mp (key c hc).1.1.1.2 n hn
    sf := fun c hc => (key c hc).1.1.2
    isb := fun c hc n hn => of_decide_eq_true (List.all_eq_true.mp (key c hc).1.2 n hn)
    isc := fun c hc n hn => of_decide_eq_true (List.all_eq_true.mp (key c hc).2 n hn)
    sy := syOf_inj hf }
/-- the facts that the top leaves -/
def Pr.chk (p : Pr) (K : PySem.W.Frag) : Bool :=
  clsB p K && (names0.all fun x => (He.Fa.free x).ok K) && ((p.T.gn.zip p.gv).all fun q => conB K q.1 q.2) &&
  (p.T.fns.all fun q => match q with
    | (x, none) => (He.Fa.glo x).ok K
    | _ => true) && (p.T.cls.all fun x => (He.Fa.glo x).ok K) && (p.T.exc.all fun x => (He.Fa.glo x).ok K && (He.Fa.exc x).ok K) &&
  (p.ftl.all fun q => decide (q.1 < p.nc) && (He.Fa.noat (p.cn q.1) (syOf p.T.fld q.2)).ok K) &&
  (p.mtl.all fun q => decide (q.1.1 < p.nc) && (He.Fa.meth (p.cn q.1.1) (syOf p.T.fld q.1.2)).ok K && (match p.L[q.2]? with
    | some r => decide (He.fAd K r.d.at_ = He.ma K (He.ga K (p.cn q.1.1)) (syOf p.T.fld q.1.2))
    | none => false)) &&
  (p.sbl.all fun q => (He.Fa.exm (p.cn q.1.1) (p.cn q.1.2) q.2).ok K) &&
  (p.otl.all fun q => decide (q.1.1 < p.nc) && (He.Fa.meth (p.cn q.1.1) q.1.2.nm).ok K && (match p.L[q.2]? with
    | some r => decide (He.fAd K r.d.at_ = He.ma K (He.ga K (p.cn q.1.1)) q.1.2.nm)
    | none => false)) &&
  (p.T.mks.all fun c => (He.Fa.mkr (p.cn c)).ok K && (match p.itl.lookup c with
    | some f => (match p.L[f]? with
      | some r => r.pv.isNone && decide (He.fAd K r.d.at_ = He.ma K (He.ga K (p.cn c)) "__init__")
      | none => false)
    | none => false))
/-- the text's own check -/
def Pr.txt (p : Pr) : Bool := (p.L.all fun q => chkFn p.T q) && decide (p.T.fns = p.L.map fun q => q.d.at_) && decide (p.T.gn.length = p.gv.length) && fldB p.T.fld
theorem lookup_mem {α β : Type} [BEq α] [LawfulBEq α] {a : α} {b : β} : ∀ {l : List (α × β)}, l.lookup a = some b → (a, b) ∈ l
  | [], h => by cases h
  | (x, y) :: l, h => by
    rw [List.lookup_cons] at h
    split at h
    · rename_i e
      rw [beq_iff_eq] at e
      cases h
      rw [e]
      exact List.mem_cons_self ..
    · exact List.mem_cons_of_mem _ (lookup_mem h)
abbrev AlR : Type := Bool × List He.FnW
def obsR (p : Pr) (K : PySem.W.Frag) : AlR := (p.chk K && p.L.all fun d => d.d.ok K, p.L.map fun d => He.fnW K d.d.at_)
def valR (p : Pr) : AlR := (true, p.L.map fun d => d.d.val)
def SaysR (p : Pr) (K : PySem.W.Frag) : Prop := obsR p K = valR p
def obsRG (n : Nat) (p : Pr) (g : Addr → Option Obj) : AlR := obsR p (He.frG g (He.asD g n))
def hookR (n : Nat) (p : Pr) : PySem.W.Hook where
  α := AlR
  obs := fun s => obsRG n p s.heap.get?
  val := fun _ => valR p
  says := fun _ h => ∃ K : PySem.W.Frag, K.In h ∧ SaysR p K
  of := fun _ _ e => ⟨_, He.frG_in, e⟩
  keeps := fun _ _ _ ⟨K, hK, c⟩ k => ⟨K, PySem.W.Frag.In.keeps hK k, c⟩
theorem obsRG_eq {n : Nat} {p : Pr} {g : Addr → Option Obj} {s : Shared} (h : ∀ a, g a = s.heap.get? a) : obsRG n p g = (hookR n p).obs s := by
  have e : g = s.heap.get? := funext h
  rw [e] <;> rfl
section
variable {p : Pr} {K : PySem.W.Frag}
theorem SaysR.chk (c : SaysR p K) : p.chk K = true :=
  (He.ba (show (p.chk K && p.L.all fun d => d.d.ok K) = true from congrArg (fun z : AlR => z.1) c)).1
theorem SaysR.def_ (c : SaysR p K) {i : Nat} {q : PFn} (h : p.L[i]? = some q) : ∃ fd, FunD K q.d.name q.d.qual q.d.params q.d.body q.d.scope (q.d.dvs K) (q.d.kws K) (He.fAd K q.d.at_) fd := by
  have c2 := (He.ba (show (p.chk K && p.L.all fun d => d.d.ok K) = true from congrArg (fun z : AlR => z.1) c)).2
  have e : p.L.map (fun d => He.fnW K d.d.at_) = p.L.map fun d => d.d.val := congrArg (fun z : AlR => z.2) c
  have e2 : (p.L.map fun d => He.fnW K d.d.at_)[i]? = (p.L.map fun d => d.d.val)[i]? := by rw [e]
  rw [List.getElem?_map, List.getElem?_map, h] at e2
  exact He.DefD.funD (Option.some.inj e2) (List.all_eq_true.mp c2 q (List.mem_of_getElem? h))
/-- every parameter is written; what is left over goes into a tuple -/
def BindP (q : PFn) : Prop := ∀ (kV doc pm : Value) (an : Option Addr) (cdv ct : Value), match q.pv with
  | none => ∀ us : List Value, us.length = q.ps.length → bindArgs (PySem.W.fnOf q.d.name q.d.qual q.d.params q.d.body q.d.scope .none kV doc pm an cdv ct) ⟨us, []⟩ = pure (q.ps.zip us)
  | some pv => ∀ us rest : List Value, us.length = q.ps.length → bindArgs (PySem.W.fnOf q.d.name q.d.qual q.d.params q.d.body q.d.scope .none kV doc pm an cdv ct) ⟨us ++ rest, []⟩ = (newTuple rest >>= fun t => pure (q.ps.zip us ++ [(pv, t)]))
theorem BindP.no {q : PFn} (e : q.pv = none) (h : ∀ (kV doc pm : Value) (an : Option Addr) (cdv ct : Value) (us : List Value), us.length = q.ps.length → bindArgs (PySem.W.fnOf q.d.name q.d.qual q.d.params q.d.body q.d.scope .none kV doc pm an cdv ct) ⟨us, []⟩ = pure (q.ps.zip us)) : BindP q := by
  intro kV doc pm an cdv ct
  rw [e]
  exact h kV doc pm an cdv ct
theorem BindP.va {q : PFn} {pv : Str} (e : q.pv = some pv) (h : ∀ (kV doc pm : Value) (an : Option Addr) (cdv ct : Value) (us rest : List Value), us.length = q.ps.length → bindArgs (PySem.W.fnOf q.d.name q.d.qual q.d.params q.d.body q.d.scope .none kV doc pm an cdv ct) ⟨us ++ rest, []⟩ = (newTuple rest >>= fun t => pure (q.ps.zip us ++ [(pv, t)]))) : BindP q := by
  intro kV doc pm an cdv ct
  rw [e]
  exact h kV doc pm an cdv ct
theorem bok_of {K : PySem.W.Frag} {q : PFn} {kws : List (Str × V)} {f : Addr} {fd : FuncData} (F : FunD K q.d.name q.d.qual q.d.params q.d.body q.d.scope [] kws f fd) (hb : BindP q) : BOk K q fd := by
  unfold BOk
  obtain ⟨oc, od, dV, kV, doc, pm, an, cdv, ct, osl, e, lk, hcd, hD, hK⟩ := id F.ex
  have h := hb kV doc pm an cdv ct
  cases hv : q.pv with
  | none =>
    simp only
    refine F.bindsN fun kV doc pm an cdv ct us hl => ?_
    have h := hb kV doc pm an cdv ct
    rw [hv] at h
    exact h us hl
  | some pv =>
    simp only
    intro us rest hl
    rw [hv] at h
    rcases hD with ⟨_, rfl⟩ | ⟨ne, _⟩
    · rw [e]
      exact h us rest hl
    · exact absurd rfl ne
theorem SaysR.pok {P : Program} {w : World} {mg : Str → Option Value} {base : Heap} {h : Heap} (c : SaysR p K) (X : K.In h) (G : h.Ns mainGlobals mg) (ht : p.txt = true) (hb : ∀ q ∈ p.L, BindP q) : POk (p.G K) P w mg base p.T p.tb p.L p.gl := by
  have ck := c.chk
  unfold Pr.chk at ck
  simp only [Bool.and_eq_true] at ck
  obtain ⟨⟨⟨⟨⟨⟨⟨⟨⟨⟨c1, c2⟩, c3⟩, c4⟩, c5⟩, c5x⟩, c6⟩, c7⟩, c7x⟩, c7o⟩, c8⟩ := ck
  unfold Pr.txt at ht
  simp only [Bool.and_eq_true, decide_eq_true_eq] at ht
  obtain ⟨⟨⟨t1, t2⟩, t3⟩, t4⟩ := ht
  -- a def of the table, at its place
  have def_at : ∀ {f : Nat} {q : PFn}, p.L[f]? = some q → ∃ fd, FunD K q.d.name q.d.qual q.d.params q.d.body q.d.scope (q.d.dvs K) (q.d.kws K) (He.fAd K q.d.at_) fd ∧ BOk K q fd := fun {f q} hq => by
    obtain ⟨fd, F⟩ := c.def_ hq
    obtain ⟨_, _, _, hdf, hkw, _, _⟩ := FnScope.of (List.all_eq_true.mp t1 q (List.mem_of_getElem? hq))
    have F' : FunD K q.d.name q.d.qual q.d.params q.d.body q.d.scope [] (q.d.kws K) (He.fAd K q.d.at_) fd := by
      have := F
      unfold He.DefD.dvs at this
      rw [hdf] at this
      exact this
    exact ⟨fd, F, bok_of F' (hb q (List.mem_of_getElem? hq))⟩
  exact {
    go := clsB_ok c1 t4
    exc := fun k x hl hx => by
      have hm : x ∈ p.T.exc := by
        rw [List.getElem?_append_right hl] at hx
        exact List.mem_of_getElem? hx
      have q := List.all_eq_true.mp c5x x hm
      rw [Bool.and_eq_true] at q
      have e : (p.T.cls ++ p.T.exc).getD k "" = x := by rw [List.getD_eq_getElem?_getD, hx]; rfl
      show mg x = some (.ref (He.ga K ((p.T.cls ++ p.T.exc).getD k ""))) ∧ PySem.W.excIn K (He.ga K ((p.T.cls ++ p.T.exc).getD k "")) He.veBase "ValueError.__new__" = true ∧ PySem.W.keepIn K (.ref (He.ga K ((p.T.cls ++ p.T.exc).getD k ""))) = true ∧ PySem.W.subIn K (.ref (He.ga K ((p.T.cls ++ p.T.exc).getD k ""))) (.type "BaseException") = some true ∧ PySem.W.typeIn K (.ref (He.ga K ((p.T.cls ++ p.T.exc).getD k ""))) = some (.type "type")
      rw [e]
      obtain ⟨z1, z2, z3, z4⟩ := He.exc_ok q.2
      exact ⟨He.glo_ok X G q.1, z1, z2, z3, z4⟩
    exm := fun k k' b hf => He.exm_ok (List.all_eq_true.mp c7x ((k, k'), b) (lookup_mem (show p.sbl.lookup (k, k') = some b from hf)))
    sy := fun f x hx => by
      show syOf p.T.fld f = x
      unfold syOf
      rw [hx]
    ft := fun k f hf => by
      have hm : (k, f) ∈ p.ftl := by
        have : p.ftl.contains (k, f) = true := hf
        simpa using this
      have q := List.all_eq_true.mp c6 _ hm
      rw [Bool.and_eq_true, decide_eq_true_eq] at q
      exact ⟨q.1, He.noat_ok q.2⟩
    mt := fun k m f hf => by
      have hm : ((k, m), f) ∈ p.mtl := lookup_mem (show p.mtl.lookup (k, m) = some f from hf)
      have q := List.all_eq_true.mp c7 _ hm
      rw [Bool.and_eq_true, Bool.and_eq_true, decide_eq_true_eq] at q
      obtain ⟨⟨q1, q2⟩, q3⟩ := q
      cases hq : p.L[f]? with
      | none => simp only [hq] at q3; cases q3
      | some r =>
        simp only [hq, decide_eq_true_eq] at q3
        obtain ⟨fd, F, hB⟩ := def_at hq
        refine ⟨q1, r, _, fd, rfl, He.meth_ok q2, ?_, hB⟩
        rw [← q3]
        exact F
    mkr := fun k hk => by
      have hm : k ∈ p.T.mks := by simpa using hk
      have q := List.all_eq_true.mp c8 _ hm
      rw [Bool.and_eq_true] at q
      obtain ⟨q1, q2⟩ := q
      cases hi : p.itl.lookup k with
      | none => simp only [hi] at q2; cases q2
      | some f =>
        simp only [hi] at q2
        cases hq : p.L[f]? with
        | none => simp only [hq] at q2; cases q2
        | some r =>
          simp only [hq, Bool.and_eq_true, decide_eq_true_eq, Option.isNone_iff_eq_none] at q2
          obtain ⟨q3, q2⟩ := q2
          obtain ⟨fd, F, hB⟩ := def_at hq
          refine ⟨f, r, _, fd, hi, hq, q3, He.mkr_ok q1, ?_, hB⟩
          rw [← q2]
          exact F
    ot := fun k m f hf => by
      have hm : ((k, m), f) ∈ p.otl := lookup_mem (show p.otl.lookup (k, m) = some f from hf)
      have q := List.all_eq_true.mp c7o _ hm
      rw [Bool.and_eq_true, Bool.and_eq_true, decide_eq_true_eq] at q
      obtain ⟨⟨q1, q2⟩, q3⟩ := q
      cases hq : p.L[f]? with
      | none => simp only [hq] at q3; cases q3
      | some r =>
        simp only [hq, decide_eq_true_eq] at q3
        obtain ⟨fd, F, hB⟩ := def_at hq
        have hM := He.meth_ok q2
        refine ⟨q1, r, _, fd, rfl, hM.at_, hM.fn, ?_, hB⟩
        rw [← q3]
        exact F
    chk := fun q hq => List.all_eq_true.mp t1 q hq
    fns := fun f x hf => by
      have hx := List.all_eq_true.mp c4 _ (List.mem_of_getElem? hf)
      rw [t2, List.getElem?_map] at hf
      cases hq : p.L[f]? with
      | none => rw [hq] at hf; cases hf
      | some q =>
        rw [hq] at hf
        have ea : q.d.at_ = (x, none) := Option.some.inj hf
        obtain ⟨fd, F⟩ := c.def_ hq
        obtain ⟨_, _, _, hdf, hkw, _, _⟩ := FnScope.of (List.all_eq_true.mp t1 q (List.mem_of_getElem? hq))
        have F' : FunD K q.d.name q.d.qual q.d.params q.d.body q.d.scope [] (q.d.kws K) (He.fAd K q.d.at_) fd := by
          have := F
          unfold He.DefD.dvs at this
          rw [hdf] at this
          exact this
        refine ⟨q, _, fd, rfl, He.glo_ok X G hx, ?_, bok_of F' (hb q (List.mem_of_getElem? hq))⟩
        have e : He.fAd K q.d.at_ = He.ga K x := by rw [ea]; rfl
        rw [← e]
        exact F
    glob := fun g x d hg hd => by
      have hd' : p.gv[g]? = some d := hd
      have hz : (x, d) ∈ p.T.gn.zip p.gv := List.mem_of_getElem? (i := g) (by rw [List.getElem?_zip_eq_some]; exact ⟨hg, hd'⟩)
      have q := List.all_eq_true.mp c3 _ hz
      unfold conB at q
      split at q
      · rename_i u hu
        obtain ⟨v, r, hr⟩ := repB_ok (G := p.G K) d q
        exact ⟨v, u, PySem.W.mg_of X G hu, r, hr⟩
      · cases q
    blt := fun x hx => He.free_ok X G (List.all_eq_true.mp c2 x hx)
    cls := fun k x hk => by
      have hg := List.all_eq_true.mp c5 x (List.mem_of_getElem? hk)
      have hl : k < p.T.cls.length := (List.getElem?_eq_some_iff.mp hk).1
      refine ⟨hl, ?_⟩
      have e : (p.T.cls ++ p.T.exc).getD k "" = x := by
        rw [List.getD_eq_getElem?_getD, List.getElem?_append_left hl, hk]
        rfl
      show mg x = some (.ref (He.ga K ((p.T.cls ++ p.T.exc).getD k "")))
      rw [e]
      exact He.glo_ok X G hg }
end
end Rf
set_option Elab.async false
set_option linter.all false
set_option maxRecDepth 100000
set_option maxHeartbeats 8000000
/-! G20: the law's end -/
namespace Rf
open PySem L2 PySem.Spec PyProof.Rows
/-- the script's list as a datum -/
theorem script_sp {G : Gm} {F : FTab} {li : Nat} {H : Hp} {a : Addr} {ns : List Int} (hS : SqL G.K H a (ns.map V.int)) {c : Cells} (h : F.call li [.lst (ns.map .int)] [] = .ok (.bl true) c) : spF G F li [.ref a] H (fun v _ => v = .bl true) (fun _ _ _ => False) := by
  have hin : ∀ (w : W) (ns : List Int), Reps G w (ns.map .int) (ns.map V.int) := fun w ns => by
    induction ns with
    | nil => exact .nil
    | cons i r ih => exact .cons (.int i) ih
  let w : W := ⟨fun b => b = a ∧ ∃ vs, H a = some (.lst vs), fun _ => 0, [], H⟩
  have ok : WOk G w := {
    cell := fun i o e => nomatch (show ([] : Cells)[i]? = some (some o) from e)
    inj := fun i j o u e => nomatch (show ([] : Cells)[i]? = some (some o) from e)
    zin := fun b z => by
      obtain ⟨e, vs, h⟩ := z
      exact ⟨_, by rw [e]; exact h⟩ }
  have fz : FzL G.K w a (ns.map V.int) := by
    rcases hS with (e | ⟨o, e⟩) | ⟨o, its, m, e1, e2, e3, e4, e5, e6⟩
    · exact .inl ⟨⟨rfl, _, e⟩, e⟩
    · exact .inr (.inl ⟨o, e⟩)
    · exact .inr (.inr ⟨o, its, m, e1, e2, e3, e4, e5, e6⟩)
  refine ⟨w, [.lst (ns.map .int)], rfl, ok, .cons (.lst fz (hin w ns)) .nil, ?_⟩
  show PostF G w (F.call li [.lst (ns.map .int)] []) _ _
  rw [h]
  intro w' _ _ _ v r
  cases r
  rfl
/-- a law by its reading -/
theorem law_walk {l : PySem.W.OpenLaw} {n N li m : Nat} {p : Pr} {q : Program} {loose : List Str} {XP : (Str → Option Value) → Heap → Prop} {d : DefRec} {x : Str}
    (hn : l.most = some n) (hn2 : n ≤ sizeLine) (hdf : d.params.defaults = []) (hr : Room (2 * N) callerA) (ht : p.txt = true) (hb : ∀ q ∈ p.L, BindP q) (hli : p.T.fns[li]? = some (d.name, none)) (hps : ∀ q, p.L[li]? = some q → q.ps = [x] ∧ q.pv = none) (hN : 0 < N)
    (hev : ∀ ns : List Int, ns.length ≤ n → ∃ c, (calls p.gl (fnsOf p.L) p.tb N).call li [.lst (ns.map .int)] [] = .ok (.bl true) c) :
    PySem.W.WalkO q loose XP (hookR m p).says l.row.toRowW d [] (fun f vs => PySem.call f vs) := by
  refine Att.attach_call hn hdf fun w s0 s1 mg mb fa o pm cd doc a vs ns G Y ho hd hcd hmg hobj hints hlen hg => ?_
  obtain ⟨K, KX, c⟩ := Y
  obtain ⟨f, a', fd, h1, h2, h3, h4⟩ := (SaysR.pok (P := l.prog) (w := w) (base := s1.heap) c KX G.T.g ht hb).fns li d.name hli
  rw [hmg] at h2
  cases h2
  obtain ⟨hx, hv⟩ := hps f h1
  unfold BOk at h4
  rw [hv] at h4
  simp only at h4
  obtain ⟨N, rfl⟩ : ∃ k, N = k + 1 := ⟨N - 1, by omega⟩
  refine law_call (CX := L2.CX l.prog w) (k := 2 * (N + 1)) (sp := spF (p.G K) (calls p.gl (fnsOf p.L) p.tb (N + 1)) li) KX G.T.g G.T.b G.T.builtins G.T.nolimit hg hobj hints (Nat.le_trans hlen hn2) hr
    (fun base bX bG => by
      have po := SaysR.pok (P := l.prog) (w := w) (base := base) c bX bG ht hb
      rw [← hx]
      exact fn_plain po (fnk po N) h1 h3 hv) (fun s u => ?_) (fun H hO hS => ?_) fun H e s' z => ?_
  · obtain ⟨oc, od, dV, kV, dc, pm', an, cdv, ct, osl, e, lk, hcd', hD, hK⟩ := h3.ex
    obtain ⟨_, _, _, hdf', _, _, _⟩ := FnScope.of ((SaysR.pok (P := l.prog) (w := w) (base := s1.heap) c KX G.T.g ht hb).chk f (List.mem_of_getElem? h1))
    subst e
    rcases hD with ⟨_, rfl⟩ | ⟨ne, _⟩
    · have := hb f (List.mem_of_getElem? h1) kV dc pm' an cdv ct
      rw [hv] at this
      have := this [u] (by rw [hx]; rfl)
      rw [hx] at this
      exact .of_eq this
    · unfold He.DefD.dvs at ne
      rw [hdf'] at ne
      exact absurd rfl ne
  · obtain ⟨c, hc⟩ := hev ns hlen
    exact script_sp (G := p.G K) hS hc
  · obtain ⟨_, _, _, _, _, _, _, _, _, _, _, _, z⟩ := z
    exact z
end Rf
set_option Elab.async false
set_option linter.all false
set_option maxRecDepth 100000
set_option maxHeartbeats 8000000
/-! G21: reckoning with the evaluator; the laws' draws -/
namespace Rf
open PySem L2
@[simp] theorem see_int (h : Cells) (i : Int) : see h (.int i) = .int i := nd rfl
@[simp] theorem see_bl (h : Cells) (i : Bool) : see h (.bl i) = .bl i := nd rfl
@[simp] theorem see_str (h : Cells) (i : Str) : see h (.str i) = .str i := nd rfl
@[simp] theorem see_non (h : Cells) : see h .non = .non := nd rfl
@[simp] theorem see_tup (h : Cells) (i : List D) : see h (.tup i) = .tup i := nd rfl
@[simp] theorem see_lst (h : Cells) (i : List D) : see h (.lst i) = .lst i := nd rfl
@[simp] theorem truth_bl (b : Bool) : truth (.bl b) = some b := nd rfl
@[simp] theorem eqD_int (a b : Int) : eqD (.int a) (.int b) = some (decide (a = b)) := by
  unfold eqD py
  simp only [SeqAt.shaped, Bool.and_self, if_true]
  rfl
theorem atI_nat {α : Type} (xs : List α) (n : Nat) : L2.atI xs (n : Int) = xs[n]? := by
  unfold L2.atI L2.ixN
  rw [if_pos (Int.natCast_nonneg n)]
  by_cases h : n < xs.length
  · rw [if_pos (by omega)]
    rfl
  · rw [if_neg (by omega), List.getElem?_eq_none (by omega)]
    rfl
theorem atI_lit {α : Type} (xs : List α) (n : Nat) : L2.atI xs (no_index (@OfNat.ofNat Int n instOfNat)) = xs[n]? := atI_nat xs n
theorem subL_lit (xs : List D) (n : Nat) : subD (.lst xs) (.int (no_index (@OfNat.ofNat Int n instOfNat))) = xs[n]? := atI_nat xs n
theorem subT_lit (xs : List D) (n : Nat) : subD (.tup xs) (.int (no_index (@OfNat.ofNat Int n instOfNat))) = xs[n]? := atI_nat xs n
theorem ixN_lit (m n : Nat) (h : n < m) : L2.ixN m (no_index (@OfNat.ofNat Int n instOfNat)) = some n := by
  show L2.ixN m (n : Int) = some n
  unfold L2.ixN
  rw [if_pos (Int.natCast_nonneg n), if_pos (by show (n : Int) < m; omega)]
  rfl
/-! ### reckoning: statements, with no step behind a state that is not known yet -/
def seqO (F : FTab) (gl : Nat → Option D) (o : Out) (ss : CSs) : Out := o.bind fun env h => evSs F gl ss env h
def iteO (F : FTab) (gl : Nat → Option D) (r : Res Bool) (a b : CSs) (env : En) : Out := r.out env fun r h1 => if r then evSs F gl a env h1 else evSs F gl b env h1
section
variable (F : FTab) (gl : Nat → Option D) (env : En) (h : Cells) (ss a b : CSs)
theorem ss_nilE : evSs F gl .nil env h = .next env h := nd rfl
theorem ss_consE (s : CS) : evSs F gl (.cons s ss) env h = seqO F gl (evS F gl s env h) ss := nd rfl
theorem seq_next : seqO F gl (.next env h) ss = evSs F gl ss env h := nd rfl
theorem seq_ret (d : D) : seqO F gl (.ret d h) ss = .ret d h := nd rfl
theorem seq_brk : seqO F gl (.brk env h) ss = .brk env h := nd rfl
theorem seq_cont : seqO F gl (.cont env h) ss = .cont env h := nd rfl
theorem seq_exc (x : Exn) : seqO F gl (.exc x env h) ss = .exc x env h := nd rfl
theorem seq_bad : seqO F gl .bad ss = .bad := nd rfl
theorem s_iteE (t : CE) : evS F gl (.ite t a b) env h = iteO F gl (evE F gl env t h).test a b env := nd rfl
theorem ite_ok (r : Bool) : iteO F gl (.ok r h) a b env = if r then evSs F gl a env h else evSs F gl b env h := nd rfl
theorem ite_true : iteO F gl (.ok true h) a b env = evSs F gl a env h := nd rfl
theorem ite_false : iteO F gl (.ok false h) a b env = evSs F gl b env h := nd rfl
theorem ite_exc (x : Exn) : iteO F gl (.exc x h) a b env = .exc x env h := nd rfl
theorem s_setE (i : Nat) (e : CE) : evS F gl (.set i e) env h = (evE F gl env e h).out env fun d h1 => .next (env.set i (.val d)) h1 := nd rfl
theorem s_setNE (i : Nat) (e : CE) : evS F gl (.setN i e) env h = (evE F gl env e h).out env fun d h1 => if fresh e then (match newOb d with
      | some o => .next (env.set i (.own o)) h1
      | none => .bad) else .bad := nd rfl
theorem s_setTE (is : List Nat) (e : CE) : evS F gl (.setT is e) env h = (evE F gl env e h).out env fun d h1 => match bindT (.tup is) d env with
      | some env' => .next env' h1
      | none => .bad := nd rfl
theorem s_exE (e : CE) : evS F gl (.ex e) env h = (evE F gl env e h).out env fun _ h1 => .next env h1 := nd rfl
theorem s_retE (e : CE) : evS F gl (.ret e) env h = (evE F gl env e h).out env fun d h1 => .ret d h1 := nd rfl
theorem s_retNE : evS F gl .retN env h = .ret .non h := nd rfl
theorem s_forE (t : Tg) (src : CI) : evS F gl (.for_ t src a) env h = (evI F gl env src h).out env fun ds h1 => forGo t (evSs F gl a) ds env h1 := nd rfl
theorem s_whileE (n : Nat) (t : CE) : evS F gl (.while_ n t a) env h = whileGo (fun env h => (evE F gl env t h).test) (evSs F gl a) n env h := nd rfl
theorem s_passE : evS F gl .pass env h = .next env h := nd rfl
theorem s_brkE : evS F gl .brk env h = .brk env h := nd rfl
theorem s_contE : evS F gl .cont env h = .cont env h := nd rfl
theorem s_frzE (i : Nat) : evS F gl (.frz i) env h = (match env[i]? with
      | some (.own o) => .next (env.set i (.val (obD o))) h
      | _ => .bad) := nd rfl
theorem s_appE (i : Nat) (e : CE) : evS F gl (.app i e) env h = (match env[i]? with
      | some (.own (.lst ds)) => (evE F gl env e h).out env fun d h1 => if ds.length < LIM then .next (env.set i (.own (.lst (ds ++ [d])))) h1 else .bad
      | some (.val (.cell k)) => (match h[k]? with
        | some (some (.lst _)) => (evE F gl env e h).out env fun d h1 => (match h1[k]? with
          | some (some (.lst ds)) => if ds.length < LIM then .next env (h1.set k (some (.lst (ds ++ [d])))) else .bad
          | _ => .bad)
        | _ => .bad)
      | _ => .bad) := nd rfl
def setFldO (F : FTab) (q f : Nat) (env : En) (d : D) (h1 : Cells) : Out := match env[q]? with
        | some (.own (.ins c fs)) => if F.tb.ft c f && decide (fs.length < 900) then .next (env.set q (.own (.ins c (putD f d fs)))) h1 else .bad
        | some (.val (.cell k)) => (match h1[k]? with
          | some (some (.ins c fs)) => if F.tb.ft c f && decide (fs.length < 900) then .next env (h1.set k (some (.ins c (putD f d fs)))) else .bad
          | _ => .bad)
        | _ => .bad
theorem s_setAttrE (q f : Nat) (e : CE) : evS F gl (.setAttr (.var q) f e) env h = (evE F gl env e h).out env fun d h1 => setFldO F q f env d h1 := nd rfl
theorem setFld_own {F : FTab} {env : En} {h : Cells} {q f c : Nat} {fs : List (Nat × D)} {d : D} (hq : env[q]? = some (.own (.ins c fs))) (hf : F.tb.ft c f = true) (hl : fs.length < 900) : setFldO F q f env d h = .next (env.set q (.own (.ins c (putD f d fs)))) h := by
  unfold setFldO
  rw [hq]
  show (if _ then _ else _) = _
  rw [if_pos (by rw [hf, decide_eq_true hl]; rfl)]
/-- a list's item is set -/
def setAtO (q : Nat) (env : En) (i : Res D) (d : D) : Out := match env[q]? with
        | some (.own (.lst ds)) => i.out env fun y h3 => (match y with
          | .int j => (match L2.ixN ds.length j with
            | some n => .next (env.set q (.own (.lst (ds.set n d)))) h3
            | none => .bad)
          | _ => .bad)
        | some (.val (.cell k)) => i.out env fun y h3 => (match y, h3[k]? with
          | .int j, some (some (.lst ds)) => (match L2.ixN ds.length j with
            | some n => .next env (h3.set k (some (.lst (ds.set n d))))
            | none => .bad)
          | _, _ => .bad)
        | _ => .bad
theorem s_setSubE (q : Nat) (i e : CE) : evS F gl (.setSub (.var q) i e) env h = (evE F gl env e h).out env fun d h1 => setAtO q env (evE F gl env i h1) d := nd rfl
theorem setAt_cell0 (os : Cells) (ds : List D) (j : Nat) (hj : j < ds.length) (d : D) (hq : env[ (0 : Nat) ]? = some (.val (.cell 0))) : setAtO 0 env (.ok (.int (no_index (@OfNat.ofNat Int j instOfNat))) (some (.lst ds) :: os)) d = .next env (some (.lst (ds.set j d)) :: os) := by
  unfold setAtO
  rw [hq]
  show (match L2.ixN ds.length (no_index (@OfNat.ofNat Int j instOfNat)) with
            | some n => Out.next env ((some (Ob.lst ds) :: os).set 0 (some (.lst (ds.set n d))))
            | none => .bad) = _
  rw [ixN_lit _ _ hj]
  rfl
theorem base_var (i : Nat) (r : Res D) : based env (.var i) h r = (match env[i]? with
      | some (.own o) => .ok (obD o) h
      | _ => r) := nd rfl
end
theorem lt_int (a b : Int) : opC .lt (.int a) (.int b) = some (decide (a < b)) := nd rfl
theorem le_int (a b : Int) : opC .le (.int a) (.int b) = some (decide (a ≤ b)) := nd rfl
theorem gt_int (a b : Int) : opC .gt (.int a) (.int b) = some (decide (b < a)) := nd rfl
theorem ge_int (a b : Int) : opC .ge (.int a) (.int b) = some (decide (b ≤ a)) := nd rfl
theorem eq_D (a b : D) : opC .eq a b = eqD a b := by cases a <;> rfl
theorem ne_D (a b : D) : opC .ne a b = (eqD a b).map (!·) := by cases a <;> rfl
theorem is_non (a : D) : opC .is a .non = some (isNon a) := by cases a <;> rfl
theorem isnot_non (a : D) : opC .isnot a .non = some (!isNon a) := by cases a <;> rfl
theorem in_D (a b : D) : opC .isin a b = isIn a b := by cases a <;> rfl
theorem notin_D (a b : D) : opC .notin a b = (isIn a b).map (!·) := by cases a <;> rfl
theorem add_int (a b : Int) : opB .add (.int a) (.int b) = some (.int (a + b)) := nd rfl
theorem sub_int (a b : Int) : opB .sub (.int a) (.int b) = some (.int (a - b)) := nd rfl
theorem mul_int {a b : Int} (h : a.natAbs < 2 ^ 63 ∨ b.natAbs < 2 ^ 63) : opB .mul (.int a) (.int b) = some (.int (a * b)) := by
  show (if _ then _ else _) = _
  rw [if_pos (by simpa using h)]
theorem mul_intl {a b : Int} (h : a.natAbs < 2 ^ 63) : opB .mul (.int a) (.int b) = some (.int (a * b)) := mul_int (.inl h)
theorem mul_intr {a b : Int} (h : b.natAbs < 2 ^ 63) : opB .mul (.int a) (.int b) = some (.int (a * b)) := mul_int (.inr h)
theorem fdiv_int {a b : Int} (h : 0 < b) (h2 : b.natAbs < 2 ^ 63) : opB .fdiv (.int a) (.int b) = some (.int (a / b)) := by
  show (if _ then _ else _) = _
  rw [if_pos (by simpa using ⟨h, h2⟩)]
theorem mod_int {a b : Int} (h : 0 < b) : opB .mod (.int a) (.int b) = some (.int (a % b)) := if_pos h
theorem add_lst {a b : List D} (h : a.length + b.length ≤ LIM) : opB .add (.lst a) (.lst b) = some (.lst (a ++ b)) := if_pos h
theorem add_tup {a b : List D} (h : a.length + b.length ≤ LIM) : opB .add (.tup a) (.tup b) = some (.tup (a ++ b)) := if_pos h
theorem add_str {a b : Str} (h : a.length + b.length ≤ LIM) : opB .add (.str a) (.str b) = some (.str (a ++ b)) := if_pos h
theorem truth_int (i : Int) : truth (.int i) = some (i != 0) := nd rfl
theorem truth_lst (i : List D) : truth (.lst i) = some (!i.isEmpty) := nd rfl
theorem truth_str (i : Str) : truth (.str i) = some (i.length != 0) := nd rfl
theorem len_lst (i : List D) : bltD .len [.lst i] = some (.int i.length) := nd rfl
theorem len_tup (i : List D) : bltD .len [.tup i] = some (.int i.length) := nd rfl
theorem len_str (i : Str) : bltD .len [.str i] = some (.int i.length) := nd rfl
theorem int_int (i : Int) : bltD .int [.int i] = some (.int i) := nd rfl
theorem list_lst (i : List D) : bltD .list [.lst i] = some (.lst i) := nd rfl
theorem list_tup (i : List D) : bltD .list [.tup i] = some (.lst i) := nd rfl
theorem tuple_lst (i : List D) : bltD .tuple [.lst i] = some (.tup i) := nd rfl
theorem tuple_tup (i : List D) : bltD .tuple [.tup i] = some (.tup i) := nd rfl
/-- a cell, seen -/
theorem see0 (o : Ob) (hs : Cells) : see (some o :: hs) (.cell 0) = obD o := by
  cases o <;> rfl
theorem obD_lst (i : List D) : obD (.lst i) = .lst i := nd rfl
/-! ### operators, own ones too -/
def binK (F : FTab) (op : BOp) (h : Cells) (x y : D) : Option D → Res D
  | some d => .ok d h
  | none => match ownF F.tb (.bin op) (see h x), see h x, see h y with
    | some f, .ins c _, .ins c' _ => if c = c' then F.call f [x, y] h else .bad
    | _, _, _ => .bad
def cmpK (F : FTab) (op : COp) (own : Bool) (h : Cells) (x y : D) : Option Bool → Res D
  | some b => .ok (.bl b) h
  | none => cmpOwn F op own h x y
section
variable {F : FTab} {h : Cells} {x y d : D}
theorem binK_some (op : BOp) : binK F op h x y (some d) = .ok d h := nd rfl
theorem cmpK_some (op : COp) (own b : Bool) : cmpK F op own h x y (some b) = .ok (.bl b) h := nd rfl
theorem bin_ins {op : BOp} {c f : Nat} {fs gs : List (Nat × D)} (hx : see h x = .ins c fs) (hy : see h y = .ins c gs) (ho : F.tb.ot c (.bin op) = some f) : binK F op h x y (opB op (see h x) (see h y)) = F.call f [x, y] h := by
  have e : opB op (see h x) (see h y) = none := by rw [hx, hy]; cases op <;> rfl
  rw [e]
  show (match ownF F.tb (.bin op) (see h x), see h x, see h y with
    | some f, .ins c _, .ins c' _ => if c = c' then F.call f [x, y] h else .bad
    | _, _, _ => .bad) = _
  rw [hx, hy]
  have e2 : ownF F.tb (.bin op) (.ins c fs) = some f := ho
  rw [e2]
  exact if_pos rfl
/-- a comparison of an instance -/
theorem cmp_ins {op : COp} {own : Bool} {c f : Nat} {fs : List (Nat × D)} (hx : see h x = .ins c fs) (hop : op ∈ [.eq, .ne, .lt, .le, .gt, .ge]) (hw : own = false) (ht : hasTy (see h y) = true) (ho : F.tb.ot c (.cmp op) = some f) : cmpK F op own h x y (opC op (see h x) (see h y)) = F.call f [x, y] h := by
  subst hw
  have e : opC op (see h x) (see h y) = none := by
    rw [hx]
    simp only [List.mem_cons, List.not_mem_nil, or_false] at hop
    rcases hop with rfl | rfl | rfl | rfl | rfl | rfl <;> first | rfl | (cases see h y <;> rfl)
  have e2 : cmpOwn F op false h x y = (if false || !hasTy (see h y) then .bad else match ownF F.tb (.cmp op) (see h x) with
    | some f => F.call f [x, y] h
    | none => .bad) := by
    simp only [List.mem_cons, List.not_mem_nil, or_false] at hop
    rcases hop with rfl | rfl | rfl | rfl | rfl | rfl <;> rfl
  rw [e]
  show cmpOwn F op false h x y = _
  rw [e2, ht, hx]
  have e3 : ownF F.tb (.cmp op) (.ins c fs) = some f := ho
  rw [e3]
  rfl
theorem run_fn {gl : Nat → Option D} {f : Fn} {ds : List D} (hv : f.va = false) (e : ds.length = f.np) : runFn F gl f ds h = (evSs F gl f.body (start f.nn ds) h).fin := by
  unfold runFn packV
  rw [hv, if_neg (by decide), if_pos e]
theorem run_va {gl : Nat → Option D} {f : Fn} {ds : List D} (hv : f.va = true) (e : f.np ≤ ds.length + 1) (e2 : ds.length ≤ LIM) : runFn F gl f ds h = (evSs F gl f.body (start f.nn (ds.take (f.np - 1) ++ [.tup (ds.drop (f.np - 1))])) h).fin := by
  unfold runFn packV
  rw [hv, if_pos rfl, if_pos ⟨e, e2⟩]
/-! ### exceptions -/
def noExc : Out → Out
  | .exc _ _ _ => .bad
  | o => o
def tryO (F : FTab) (gl : Nat → Option D) (c : Nat) (hd : CSs) : Out → Out
  | .exc x env' h' => (match F.tb.sb x.c c with
      | some true => (match evSs F.hot gl hd env' h' with
        | .exc _ _ _ => .bad
        | o => o)
      | some false => .exc x env' h'
      | none => .bad)
  | o => o
variable {gl : Nat → Option D} {b hd : CSs} {c : Nat} {env : En}
theorem s_tryE : evS F gl (.try_ b c hd) env h = tryO F gl c hd (evSs F gl b env h) := by
  rw [evS]
  unfold tryO
  rfl
theorem try_ret : tryO F gl c hd (.ret d h) = .ret d h := nd rfl
theorem try_next : tryO F gl c hd (.next env h) = .next env h := nd rfl
theorem try_exc {z : Exn} (e : F.tb.sb z.c c = some true) : tryO F gl c hd (.exc z env h) = noExc (evSs F.hot gl hd env h) := by
  show (match F.tb.sb z.c c with
      | some true => (match evSs F.hot gl hd env h with
        | .exc _ _ _ => Out.bad
        | o => o)
      | some false => .exc z env h
      | none => .bad) = _
  rw [e]
  unfold noExc
  rfl
theorem noExc_ret : noExc (.ret d h) = .ret d h := nd rfl
theorem noExc_next : noExc (.next env h) = .next env h := nd rfl
theorem s_raiseE : evS F gl (.raise_ c) env h = .exc ⟨c, []⟩ env h := nd rfl
theorem fin_exc (z : Exn) : (Out.exc z env h).fin = .exc z h := nd rfl
theorem out_exc {α : Type} (z : Exn) (k : α → Cells → Out) : (Res.exc z h : Res α).out env k = .exc z env h := nd rfl
theorem test_exc (z : Exn) : (Res.exc z h : Res D).test = .exc z h := nd rfl
end
theorem out_ok {α : Type} (a : α) (h : Cells) (env : En) (k : α → Cells → Out) : (Res.ok a h).out env k = k a h := nd rfl
theorem test_ok (d : D) (h : Cells) : (Res.ok d h).test = lift (truth (see h d)) h := nd rfl
section
variable (F : FTab) (gl : Nat → Option D) (env : En) (h : Cells) (a b c t : CE) (as bs : CEs)
theorem e_nonE : evE F gl env (.cst .non) h = .ok .non h := nd rfl
theorem e_blE (x : Bool) : evE F gl env (.cst (.bl x)) h = .ok (.bl x) h := nd rfl
theorem e_intE (x : Int) : evE F gl env (.cst (.int x)) h = .ok (.int x) h := nd rfl
theorem e_strE (x : Str) : evE F gl env (.cst (.str x)) h = .ok (.str x) h := nd rfl
def slR (h : Cells) : Option Sl → Res D
  | some (.val d) => .ok d h
  | _ => .bad
theorem slR_val (d : D) : slR h (some (.val d)) = .ok d h := nd rfl
theorem e_varE (i : Nat) : evE F gl env (.var i) h = slR h env[i]? := by
  rw [evE]
  unfold slR
  split <;> simp_all
theorem e_globE (i : Nat) : evE F gl env (.glob i) h = lift (gl i) h := nd rfl
theorem e_binE (op : BOp) : evE F gl env (.bin op a b) h = (evE F gl env a h).bind fun x h1 => (evE F gl env b h1).bind fun y h2 => binK F op h2 x y (opB op (see h2 x) (see h2 y)) := nd rfl
def negR : D → Cells → Res D
  | .int i, h => .ok (.int (-i)) h
  | _, _ => .bad
theorem negR_int (i : Int) : negR (.int i) h = .ok (.int (-i)) h := nd rfl
theorem e_negE : evE F gl env (.neg a) h = (evE F gl env a h).bind negR := by
  rw [evE]
  congr 1
  funext x h1
  cases x <;> rfl
theorem e_cmpE (op : COp) : evE F gl env (.cmp op a b) h = (evE F gl env a h).bind fun x h1 => (based env b h1 (evE F gl env b h1)).bind fun y h2 => cmpK F op (isOwn env b) h2 x y (opC op (see h2 x) (see h2 y)) := nd rfl
theorem e_chainE (op op' : COp) : evE F gl env (.chain op op' a b c) h = (evE F gl env a h).bind fun x h1 => (evE F gl env b h1).bind fun y h2 => (lift (opC op (see h2 x) (see h2 y)) h2).bind fun r h3 =>
      if r then (evE F gl env c h3).bind fun z h4 => lift ((opC op' (see h4 y) (see h4 z)).map .bl) h4 else .ok (.bl false) h3 := nd rfl
theorem e_andE : evE F gl env (.and as) h = evAnd F gl env as h := nd rfl
theorem e_orE : evE F gl env (.or as) h = evOr F gl env as h := nd rfl
theorem e_notE : evE F gl env (.not a) h = ((evE F gl env a h).test).bind fun b h1 => .ok (.bl (!b)) h1 := nd rfl
theorem e_ifeE : evE F gl env (.ife t a b) h = ((evE F gl env t h).test).bind fun r h1 => if r then evE F gl env a h1 else evE F gl env b h1 := nd rfl
theorem e_tupE : evE F gl env (.tup as) h = (evEs F gl env as h).bind fun ds h1 => if ds.length ≤ LIM then .ok (.tup ds) h1 else .bad := nd rfl
theorem e_lstE : evE F gl env (.lst as) h = (evEs F gl env as h).bind fun ds h1 => if ds.length ≤ LIM then .ok (.lst ds) h1 else .bad := nd rfl
theorem e_subE : evE F gl env (.sub a b) h = (based env a h (evE F gl env a h)).bind fun x h1 => (evE F gl env b h1).bind fun y h2 => lift (subD (see h2 x) y) h2 := nd rfl
theorem e_sliceE (lo hi : CO) : evE F gl env (.slice a lo hi) h = (based env a h (evE F gl env a h)).bind fun x h1 => (evO F gl env lo h1).bind fun l h2 => (evO F gl env hi h2).bind fun u h3 => lift (sliceD (see h3 x) l u) h3 := nd rfl
theorem e_callE (f : Nat) : evE F gl env (.call f as) h = (evEs F gl env as h).bind fun ds h1 => F.call f ds h1 := nd rfl
theorem e_bltE (m : Blt) : evE F gl env (.blt m as) h = (evBs F gl env as h).bind fun ds h1 => lift (bltD m (ds.map (see h1))) h1 := nd rfl
theorem e_bmE (m : BM) : evE F gl env (.bm m a as) h = (based env a h (evE F gl env a h)).bind fun x h1 => if isStrD x then (evBs F gl env as h1).bind fun ys h2 => lift (bmD m x (ys.map (see h2))) h2 else .bad := nd rfl
def methR (F : FTab) (gl : Nat → Option D) (env : En) (as : CEs) (x : D) (h : Cells) : Option Nat → Res D
  | some f => (evEs F gl env as h).bind fun ds h2 => F.call f (x :: ds) h2
  | none => .bad
theorem methR_some (x : D) (f : Nat) : methR F gl env as x h (some f) = (evEs F gl env as h).bind fun ds h2 => F.call f (x :: ds) h2 := nd rfl
theorem e_methE (m : Nat) : evE F gl env (.meth a m as) h = (evE F gl env a h).bind fun x h1 => methR F gl env as x h1 (methD F.tb (see h1 x) m) := by
  rw [evE]
  rfl
theorem e_attrE (f : Nat) : evE F gl env (.attr a f) h = (based env a h (evE F gl env a h)).bind fun x h1 => lift (attrD F.tb (see h1 x) f) h1 := nd rfl
theorem e_makeE (c : Nat) : evE F gl env (.make c as) h = (evEs F gl env as h).bind fun ds h1 => (F.ini c ds h1).bind fun fs h2 => .ok (.ins c fs) h2 := nd rfl
theorem e_isiE (y : Ty) : evE F gl env (.isi a y) h = (evE F gl env a h).bind fun x h1 => lift ((tyD (see h1 x) y).map .bl) h1 := nd rfl
def lcG (F : FTab) (gl : Nat → Option D) (env : En) (elt : CE) (own : List Nat) (t : Tg) (cond : CO) (d : D) (h : Cells) : Res (Option D) := match bindT t d (wipeE env own) with
        | some env' => (evC F gl env' cond h).bind fun b h => if b then (evE F gl env' elt h).bind fun x h => .ok (some x) h else .ok none h
        | none => .bad
theorem e_lcE (own : List Nat) (t : Tg) (src : CI) (cond : CO) : evE F gl env (.lc a own t src cond) h = (evI F gl env src h).bind fun ds h1 => if ds.length ≤ LIM then (lcGo (lcG F gl env a own t cond) ds h1).bind fun r h2 => .ok (.lst r) h2 else .bad := nd rfl
theorem es_nilE : evEs F gl env .nil h = .ok [] h := nd rfl
theorem es_consE : evEs F gl env (.cons a as) h = (evE F gl env a h).bind fun x h1 => (evEs F gl env as h1).bind fun xs h2 => .ok (x :: xs) h2 := nd rfl
theorem es_starE : evEs F gl env (.star a as) h = (evE F gl env a h).bind fun x h1 => (lift (itemsD (see h1 x)) h1).bind fun ys h1 => (evEs F gl env as h1).bind fun xs h2 => .ok (ys ++ xs) h2 := nd rfl
theorem bs_nilE : evBs F gl env .nil h = .ok [] h := nd rfl
theorem bs_consE : evBs F gl env (.cons a as) h = (based env a h (evE F gl env a h)).bind fun x h1 => (evBs F gl env as h1).bind fun xs h2 => .ok (x :: xs) h2 := nd rfl
theorem o_noneE : evO F gl env .none h = .ok none h := nd rfl
def intR : D → Cells → Res (Option Int)
  | .int i, h => .ok (some i) h
  | _, _ => .bad
theorem intR_int (i : Int) : intR (.int i) h = .ok (some i) h := nd rfl
theorem o_someE : evO F gl env (.some a) h = (evE F gl env a h).bind intR := by
  rw [evO]
  congr 1
  funext x h1
  cases x <;> rfl
theorem c_noneE : evC F gl env .none h = .ok true h := nd rfl
theorem c_someE : evC F gl env (.some a) h = (evE F gl env a h).test := nd rfl
theorem and_oneE : evAnd F gl env (.cons a .nil) h = evE F gl env a h := nd rfl
theorem and_consE : evAnd F gl env (.cons a (.cons b bs)) h = (evE F gl env a h).bind fun x h1 => (lift (truth (see h1 x)) h1).bind fun k h1 => if k then evAnd F gl env (.cons b bs) h1 else .ok x h1 := nd rfl
theorem or_oneE : evOr F gl env (.cons a .nil) h = evE F gl env a h := nd rfl
theorem or_consE : evOr F gl env (.cons a (.cons b bs)) h = (evE F gl env a h).bind fun x h1 => (lift (truth (see h1 x)) h1).bind fun k h1 => if k then .ok x h1 else evOr F gl env (.cons b bs) h1 := nd rfl
theorem i_ofE : evI F gl env (.of a) h = (evE F gl env a h).bind fun x h1 => lift (itemsD x) h1 := nd rfl
def rngR1 : D → Cells → Res (List D)
  | .int j, h => lift (rngD 0 j) h
  | _, _ => .bad
def rngR2 : D → D → Cells → Res (List D)
  | .int i, .int j, h => lift (rngD i j) h
  | _, _, _ => .bad
theorem rngR1_int (i : Int) : rngR1 (.int i) h = lift (rngD 0 i) h := nd rfl
theorem rngR2_int (i j : Int) : rngR2 (.int i) (.int j) h = lift (rngD i j) h := nd rfl
theorem i_rng1E : evI F gl env (.rng1 a) h = (evE F gl env a h).bind rngR1 := by
  rw [evI]
  congr 1
  funext x h1
  cases x <;> rfl
theorem i_rng2E : evI F gl env (.rng2 a b) h = (evE F gl env a h).bind fun x h1 => (evE F gl env b h1).bind fun y h2 => rngR2 x y h2 := by
  rw [evI]
  congr 1
  funext x h1
  congr 1
  funext y h2
  cases x <;> first | rfl | (cases y <;> rfl)
theorem base_own (o : Ob) (r : Res D) (i : Nat) (e : env[i]? = some (.own o)) : based env (.var i) h r = .ok (obD o) h := by
  show (match env[i]? with
      | some (.own o) => Res.ok (obD o) h
      | _ => r) = _
  rw [e]
theorem base_val (d : D) (r : Res D) (i : Nat) (e : env[i]? = some (.val d)) : based env (.var i) h r = r := by
  show (match env[i]? with
      | some (.own o) => Res.ok (obD o) h
      | _ => r) = _
  rw [e]
def baseV (h : Cells) (r : Res D) : Option Sl → Res D
  | some (.own o) => .ok (obD o) h
  | _ => r
theorem base_varK (r : Res D) (i : Nat) : based env (.var i) h r = baseV h r env[i]? := by
  unfold based baseV
  rfl
theorem baseV_own (r : Res D) (o : Ob) : baseV h r (some (.own o)) = .ok (obD o) h := nd rfl
theorem baseV_val (r : Res D) (d : D) : baseV h r (some (.val d)) = r := nd rfl
theorem base_cst (r : Res D) (k : Cst) : based env (.cst k) h r = r := nd rfl
theorem base_glob (r : Res D) (g : Nat) : based env (.glob g) h r = r := nd rfl
theorem base_bin (r : Res D) (op : BOp) : based env (.bin op a b) h r = r := nd rfl
theorem base_neg (r : Res D)  : based env (.neg a) h r = r := nd rfl
theorem base_cmp (r : Res D) (op : COp) : based env (.cmp op a b) h r = r := nd rfl
theorem base_chain (r : Res D) (op op' : COp) : based env (.chain op op' a b c) h r = r := nd rfl
theorem base_and (r : Res D)  : based env (.and as) h r = r := nd rfl
theorem base_or (r : Res D)  : based env (.or as) h r = r := nd rfl
theorem base_not (r : Res D)  : based env (.not a) h r = r := nd rfl
theorem base_ife (r : Res D)  : based env (.ife t a b) h r = r := nd rfl
theorem base_tup (r : Res D)  : based env (.tup as) h r = r := nd rfl
theorem base_lst (r : Res D)  : based env (.lst as) h r = r := nd rfl
theorem base_sub (r : Res D)  : based env (.sub a b) h r = r := nd rfl
theorem base_slice (r : Res D) (lo hi : CO) : based env (.slice a lo hi) h r = r := nd rfl
theorem base_call (r : Res D) (f : Nat) : based env (.call f as) h r = r := nd rfl
theorem base_blt (r : Res D) (m : Blt) : based env (.blt m as) h r = r := nd rfl
theorem base_bm (r : Res D) (m : BM) : based env (.bm m a as) h r = r := nd rfl
theorem base_attr (r : Res D) (m : Nat) : based env (.attr a m) h r = r := nd rfl
theorem base_meth (r : Res D) (m : Nat) : based env (.meth a m as) h r = r := nd rfl
theorem base_make (r : Res D) (m : Nat) : based env (.make m as) h r = r := nd rfl
theorem base_isi (r : Res D) (y : Ty) : based env (.isi a y) h r = r := nd rfl
theorem base_lc (r : Res D) (own : List Nat) (tg : Tg) (src : CI) (cond : CO) : based env (.lc a own tg src cond) h r = r := nd rfl
theorem bindT_name (i : Nat) (d : D) : bindT (.name i) d env = some (env.set i (.val d)) := nd rfl
theorem fin_ret (d : D) : (Out.ret d h).fin = .ok d h := nd rfl
theorem fin_next : (Out.next env h).fin = .ok .non h := nd rfl
end
theorem lim_k (k : Nat) (h : k ≤ 16777216) : (k ≤ LIM) = True := eq_true h
theorem cut_from1 (a : D) (r : List D) : cutD (a :: r) (some 1) none = r := by
  have e : HT.sIx (a :: r).length 0 (some 1) = 1 := by
    have := HT.sIx_nat (a :: r).length 0 1
    rw [show ((1 : Nat) : Int) = 1 from rfl] at this
    rw [this, List.length_cons]
    omega
  unfold cutD
  rw [e, HT.sIx_none]
  show r.take _ = r
  rw [List.length_cons, Nat.add_sub_cancel, List.take_length]
def CSs.hd : CSs → CS
  | .cons c _ => c
  | .nil => .pass
def CSs.tl : CSs → CSs
  | .cons _ c => c
  | .nil => .nil
def cStart : CSs := (.cons (.ret (.newc (.cons (.blt .list (.cons (.var 0) .nil)) (.cons (.cst (.int 0)) (.cons (.cst (.int 0)) (.cons (.cst (.int 0)) (.cons (.cst (.int 0)) (.cons (.cst (.bl false)) .nil)))))))) .nil)
def fStart : Fn := ⟨1, 1, cStart, false⟩
def cDraw : CSs := (.cons (.ite (.and (.cons (.cmp .eq (.sub (.var 0) (.cst (.int 3))) (.cst (.int 0))) (.cons (.cmp .lt (.sub (.var 0) (.cst (.int 1))) (.blt .len (.cons (.sub (.var 0) (.cst (.int 0))) .nil))) .nil))) (.cons (.setSub (.var 0) (.cst (.int 2)) (.blt .int (.cons (.sub (.sub (.var 0) (.cst (.int 0))) (.sub (.var 0) (.cst (.int 1)))) .nil))) (.cons (.setSub (.var 0) (.cst (.int 1)) (.bin .add (.sub (.var 0) (.cst (.int 1))) (.cst (.int 1)))) (.cons (.setSub (.var 0) (.cst (.int 3)) (.cst (.int 8))) (.cons (.setSub (.var 0) (.cst (.int 4)) (.cst (.int 0))) (.cons (.setSub (.var 0) (.cst (.int 5)) (.cmp .ge (.sub (.var 0) (.cst (.int 2))) (.bin .pow (.cst (.int 10)) (.cst (.int 18))))) (.cons (.ite (.sub (.var 0) (.cst (.int 5))) (.cons (.setSub (.var 0) (.cst (.int 3)) (.cst (.int 60))) .nil) .nil) .nil)))))) .nil) (.cons (.ite (.or (.cons (.cmp .eq (.sub (.var 0) (.cst (.int 3))) (.cst (.int 0))) (.cons (.cmp .lt (.var 1) (.cst (.int 2))) .nil))) (.cons (.ret (.cst (.int 0))) .nil) .nil) (.cons (.setSub (.var 0) (.cst (.int 3)) (.bin .sub (.sub (.var 0) (.cst (.int 3))) (.cst (.int 1)))) (.cons (.setSub (.var 0) (.cst (.int 4)) (.bin .add (.sub (.var 0) (.cst (.int 4))) (.cst (.int 1)))) (.cons (.ite (.sub (.var 0) (.cst (.int 5))) (.cons (.set 2 (.bin .mod (.blt .int (.cons (.sub (.var 0) (.cst (.int 2))) .nil)) (.var 1))) (.cons (.setSub (.var 0) (.cst (.int 2)) (.bin .fdiv (.blt .int (.cons (.sub (.var 0) (.cst (.int 2))) .nil)) (.var 1))) (.cons (.ite (.cmp .eq (.sub (.var 0) (.cst (.int 2))) (.cst (.int 0))) (.cons (.setSub (.var 0) (.cst (.int 3)) (.cst (.int 0))) .nil) .nil) (.cons (.ret (.var 2)) .nil)))) .nil) (.cons (.set 3 (.sub (.var 0) (.cst (.int 4)))) (.cons (.set 4 (.bin .mod (.blt .int (.cons (.bin .mul (.sub (.var 0) (.cst (.int 2))) (.cst (.int 48271))) .nil)) (.cst (.int 2147483647)))) (.cons (.set 4 (.bin .mod (.blt .int (.cons (.bin .mul (.var 4) (.bin .add (.bin .add (.bin .mul (.bin .mul (.cst (.int 69621)) (.var 3)) (.var 3)) (.bin .mul (.cst (.int 40014)) (.var 3))) (.cst (.int 1)))) .nil)) (.cst (.int 2147483399)))) (.cons (.ret (.bin .mod (.blt .int (.cons (.var 4) .nil)) (.var 1))) .nil)))))))))
def fDraw : Fn := ⟨2, 5, cDraw, false⟩
end Rf
set_option Elab.async false
set_option linter.all false
set_option maxRecDepth 100000
set_option maxHeartbeats 800000
/-! G22: the laws own draws -/
namespace Rf
open PySem L2
def drawCell (ns : List Int) (p c l k : Int) (wd : Bool) : Ob := .lst [.lst (ns.map .int), .int p, .int c, .int l, .int k, .bl wd]
structure DrawIn (p l k : Int) : Prop where
  hp : 0 ≤ p
  hl : 0 ≤ l
  hk : 0 ≤ k
  hs : l + k ≤ 60
section
variable (F : FTab) (gl : Nat → Option D)
theorem pow18 : opB .pow (.int 10) (.int 18) = some (.int 1000000000000000000) := rfl
def envDraw (lim : Int) : En := [.val (.cell 0), .val (.int lim), .no, .no, .no]
theorem refill {ns : List Int} {p c l k lim : Int} {wd : Bool} {hs : Cells} (q : DrawIn p l k) : ∃ p' c' l' k' wd', DrawIn p' l' k' ∧ evS F gl cDraw.hd (envDraw lim) (some (drawCell ns p c l k wd) :: hs) = .next (envDraw lim) (some (drawCell ns p' c' l' k' wd') :: hs) := by
  obtain ⟨q1, q2, q3, q4⟩ := q
  by_cases h0 : l = 0
  · subst h0
    by_cases hp : p < (ns.length : Int)
    · have hn : p.toNat < ns.length := by omega
      have hsub : subD (.lst (ns.map .int)) (.int p) = some (.int (ns[p.toNat])) := by
        have e : p = ((p.toNat : Nat) : Int) := by omega
        have e2 : subD (.lst (ns.map .int)) (.int p) = (ns.map D.int)[p.toNat]? := by
          conv => lhs; rw [e]
          exact atI_nat _ _
        rw [e2, List.getElem?_map, List.getElem?_eq_getElem hn]
        rfl
      by_cases hw : (1000000000000000000 : Int) ≤ ns[p.toNat]
      · refine ⟨p + 1, ns[p.toNat], 60, 0, true, ⟨by omega, by omega, by omega, by omega⟩, ?_⟩
        simp [cDraw, CSs.hd, envDraw, ss_nilE, ss_consE, seq_next, seq_ret, seq_brk, seq_cont, s_iteE, ite_ok, s_setE, s_setTE, s_exE, s_retE, s_retNE, s_passE, s_brkE, s_contE, s_setSubE, e_nonE, e_blE, e_intE, e_strE, slR_val, e_varE, e_globE, e_binE, negR_int, e_negE, e_cmpE, e_chainE, e_andE, e_orE, e_notE, e_ifeE, e_tupE, e_lstE, e_subE, e_sliceE, e_callE, e_bltE, e_bmE, e_isiE, es_nilE, es_consE, es_starE, bs_nilE, bs_consE, o_noneE, intR_int, o_someE, c_noneE, c_someE, and_oneE, and_consE, or_oneE, or_consE, i_ofE, rngR1_int, rngR2_int, i_rng1E, i_rng2E, base_varK, baseV_own, baseV_val, 
    base_cst, base_glob, base_bin, base_neg, base_cmp, base_chain, base_and, base_or, base_not, base_ife, base_tup, base_lst, base_sub, base_slice, base_call, base_blt, base_bm, base_isi, base_lc, fin_ret, fin_next, test_ok, out_ok, see0, obD_lst, truth_int, truth_lst, truth_str, lt_int, le_int, gt_int, ge_int, eq_D, ne_D, is_non, isnot_non, in_D, notin_D, add_int, sub_int, len_lst, len_tup, len_str, int_int, list_lst, list_tup, tuple_lst, tuple_tup, ixN_lit, subL_lit, subT_lit, setAt_cell0, lim_k, cut_from1, binK_some, cmpK_some, s_tryE, try_ret, try_next, noExc_ret, noExc_next, s_raiseE, fin_exc, out_exc, test_exc, base_attr, base_meth, base_make, e_attrE, e_methE, methR_some, e_makeE, seq_exc, ite_exc, drawCell, hsub, hp, hw, pow18]
      · refine ⟨p + 1, ns[p.toNat], 8, 0, false, ⟨by omega, by omega, by omega, by omega⟩, ?_⟩
        simp [cDraw, CSs.hd, envDraw, ss_nilE, ss_consE, seq_next, seq_ret, seq_brk, seq_cont, s_iteE, ite_ok, s_setE, s_setTE, s_exE, s_retE, s_retNE, s_passE, s_brkE, s_contE, s_setSubE, e_nonE, e_blE, e_intE, e_strE, slR_val, e_varE, e_globE, e_binE, negR_int, e_negE, e_cmpE, e_chainE, e_andE, e_orE, e_notE, e_ifeE, e_tupE, e_lstE, e_subE, e_sliceE, e_callE, e_bltE, e_bmE, e_isiE, es_nilE, es_consE, es_starE, bs_nilE, bs_consE, o_noneE, intR_int, o_someE, c_noneE, c_someE, and_oneE, and_consE, or_oneE, or_consE, i_ofE, rngR1_int, rngR2_int, i_rng1E, i_rng2E, base_varK, baseV_own, baseV_val, 
    base_cst, base_glob, base_bin, base_neg, base_cmp, base_chain, base_and, base_or, base_not, base_ife, base_tup, base_lst, base_sub, base_slice, base_call, base_blt, base_bm, base_isi, base_lc, fin_ret, fin_next, test_ok, out_ok, see0, obD_lst, truth_int, truth_lst, truth_str, lt_int, le_int, gt_int, ge_int, eq_D, ne_D, is_non, isnot_non, in_D, notin_D, add_int, sub_int, len_lst, len_tup, len_str, int_int, list_lst, list_tup, tuple_lst, tuple_tup, ixN_lit, subL_lit, subT_lit, setAt_cell0, lim_k, cut_from1, binK_some, cmpK_some, s_tryE, try_ret, try_next, noExc_ret, noExc_next, s_raiseE, fin_exc, out_exc, test_exc, base_attr, base_meth, base_make, e_attrE, e_methE, methR_some, e_makeE, seq_exc, ite_exc, drawCell, hsub, hp, hw, pow18]
    · refine ⟨p, c, 0, k, wd, ⟨by omega, by omega, by omega, by omega⟩, ?_⟩
      simp [cDraw, CSs.hd, envDraw, ss_nilE, ss_consE, seq_next, seq_ret, seq_brk, seq_cont, s_iteE, ite_ok, s_setE, s_setTE, s_exE, s_retE, s_retNE, s_passE, s_brkE, s_contE, s_setSubE, e_nonE, e_blE, e_intE, e_strE, slR_val, e_varE, e_globE, e_binE, negR_int, e_negE, e_cmpE, e_chainE, e_andE, e_orE, e_notE, e_ifeE, e_tupE, e_lstE, e_subE, e_sliceE, e_callE, e_bltE, e_bmE, e_isiE, es_nilE, es_consE, es_starE, bs_nilE, bs_consE, o_noneE, intR_int, o_someE, c_noneE, c_someE, and_oneE, and_consE, or_oneE, or_consE, i_ofE, rngR1_int, rngR2_int, i_rng1E, i_rng2E, base_varK, baseV_own, baseV_val, 
    base_cst, base_glob, base_bin, base_neg, base_cmp, base_chain, base_and, base_or, base_not, base_ife, base_tup, base_lst, base_sub, base_slice, base_call, base_blt, base_bm, base_isi, base_lc, fin_ret, fin_next, test_ok, out_ok, see0, obD_lst, truth_int, truth_lst, truth_str, lt_int, le_int, gt_int, ge_int, eq_D, ne_D, is_non, isnot_non, in_D, notin_D, add_int, sub_int, len_lst, len_tup, len_str, int_int, list_lst, list_tup, tuple_lst, tuple_tup, ixN_lit, subL_lit, subT_lit, setAt_cell0, lim_k, cut_from1, binK_some, cmpK_some, s_tryE, try_ret, try_next, noExc_ret, noExc_next, s_raiseE, fin_exc, out_exc, test_exc, base_attr, base_meth, base_make, e_attrE, e_methE, methR_some, e_makeE, seq_exc, ite_exc, drawCell, hp]
  · refine ⟨p, c, l, k, wd, ⟨by omega, by omega, by omega, by omega⟩, ?_⟩
    simp [cDraw, CSs.hd, envDraw, ss_nilE, ss_consE, seq_next, seq_ret, seq_brk, seq_cont, s_iteE, ite_ok, s_setE, s_setTE, s_exE, s_retE, s_retNE, s_passE, s_brkE, s_contE, s_setSubE, e_nonE, e_blE, e_intE, e_strE, slR_val, e_varE, e_globE, e_binE, negR_int, e_negE, e_cmpE, e_chainE, e_andE, e_orE, e_notE, e_ifeE, e_tupE, e_lstE, e_subE, e_sliceE, e_callE, e_bltE, e_bmE, e_isiE, es_nilE, es_consE, es_starE, bs_nilE, bs_consE, o_noneE, intR_int, o_someE, c_noneE, c_someE, and_oneE, and_consE, or_oneE, or_consE, i_ofE, rngR1_int, rngR2_int, i_rng1E, i_rng2E, base_varK, baseV_own, baseV_val, 
    base_cst, base_glob, base_bin, base_neg, base_cmp, base_chain, base_and, base_or, base_not, base_ife, base_tup, base_lst, base_sub, base_slice, base_call, base_blt, base_bm, base_isi, base_lc, fin_ret, fin_next, test_ok, out_ok, see0, obD_lst, truth_int, truth_lst, truth_str, lt_int, le_int, gt_int, ge_int, eq_D, ne_D, is_non, isnot_non, in_D, notin_D, add_int, sub_int, len_lst, len_tup, len_str, int_int, list_lst, list_tup, tuple_lst, tuple_tup, ixN_lit, subL_lit, subT_lit, setAt_cell0, lim_k, cut_from1, binK_some, cmpK_some, s_tryE, try_ret, try_next, noExc_ret, noExc_next, s_raiseE, fin_exc, out_exc, test_exc, base_attr, base_meth, base_make, e_attrE, e_methE, methR_some, e_makeE, seq_exc, ite_exc, drawCell, h0]
theorem rest0 {ns : List Int} {p c k lim l : Int} {wd : Bool} {hs : Cells} (h : l = 0 ∨ lim < 2) : evSs F gl cDraw.tl (envDraw lim) (some (drawCell ns p c l k wd) :: hs) = .ret (.int 0) (some (drawCell ns p c l k wd) :: hs) := by
  by_cases h0 : l = 0
  · simp [cDraw, CSs.tl, envDraw, ss_nilE, ss_consE, seq_next, seq_ret, seq_brk, seq_cont, s_iteE, ite_ok, s_setE, s_setTE, s_exE, s_retE, s_retNE, s_passE, s_brkE, s_contE, s_setSubE, e_nonE, e_blE, e_intE, e_strE, slR_val, e_varE, e_globE, e_binE, negR_int, e_negE, e_cmpE, e_chainE, e_andE, e_orE, e_notE, e_ifeE, e_tupE, e_lstE, e_subE, e_sliceE, e_callE, e_bltE, e_bmE, e_isiE, es_nilE, es_consE, es_starE, bs_nilE, bs_consE, o_noneE, intR_int, o_someE, c_noneE, c_someE, and_oneE, and_consE, or_oneE, or_consE, i_ofE, rngR1_int, rngR2_int, i_rng1E, i_rng2E, base_varK, baseV_own, baseV_val, 
    base_cst, base_glob, base_bin, base_neg, base_cmp, base_chain, base_and, base_or, base_not, base_ife, base_tup, base_lst, base_sub, base_slice, base_call, base_blt, base_bm, base_isi, base_lc, fin_ret, fin_next, test_ok, out_ok, see0, obD_lst, truth_int, truth_lst, truth_str, lt_int, le_int, gt_int, ge_int, eq_D, ne_D, is_non, isnot_non, in_D, notin_D, add_int, sub_int, len_lst, len_tup, len_str, int_int, list_lst, list_tup, tuple_lst, tuple_tup, ixN_lit, subL_lit, subT_lit, setAt_cell0, lim_k, cut_from1, binK_some, cmpK_some, s_tryE, try_ret, try_next, noExc_ret, noExc_next, s_raiseE, fin_exc, out_exc, test_exc, base_attr, base_meth, base_make, e_attrE, e_methE, methR_some, e_makeE, seq_exc, ite_exc, drawCell, h0]
  · have h1 : lim < 2 := by omega
    simp [cDraw, CSs.tl, envDraw, ss_nilE, ss_consE, seq_next, seq_ret, seq_brk, seq_cont, s_iteE, ite_ok, s_setE, s_setTE, s_exE, s_retE, s_retNE, s_passE, s_brkE, s_contE, s_setSubE, e_nonE, e_blE, e_intE, e_strE, slR_val, e_varE, e_globE, e_binE, negR_int, e_negE, e_cmpE, e_chainE, e_andE, e_orE, e_notE, e_ifeE, e_tupE, e_lstE, e_subE, e_sliceE, e_callE, e_bltE, e_bmE, e_isiE, es_nilE, es_consE, es_starE, bs_nilE, bs_consE, o_noneE, intR_int, o_someE, c_noneE, c_someE, and_oneE, and_consE, or_oneE, or_consE, i_ofE, rngR1_int, rngR2_int, i_rng1E, i_rng2E, base_varK, baseV_own, baseV_val, 
    base_cst, base_glob, base_bin, base_neg, base_cmp, base_chain, base_and, base_or, base_not, base_ife, base_tup, base_lst, base_sub, base_slice, base_call, base_blt, base_bm, base_isi, base_lc, fin_ret, fin_next, test_ok, out_ok, see0, obD_lst, truth_int, truth_lst, truth_str, lt_int, le_int, gt_int, ge_int, eq_D, ne_D, is_non, isnot_non, in_D, notin_D, add_int, sub_int, len_lst, len_tup, len_str, int_int, list_lst, list_tup, tuple_lst, tuple_tup, ixN_lit, subL_lit, subT_lit, setAt_cell0, lim_k, cut_from1, binK_some, cmpK_some, s_tryE, try_ret, try_next, noExc_ret, noExc_next, s_raiseE, fin_exc, out_exc, test_exc, base_attr, base_meth, base_make, e_attrE, e_methE, methR_some, e_makeE, seq_exc, ite_exc, drawCell, h0, h1]
theorem rest1 {ns : List Int} {p c k lim l : Int} {wd : Bool} {hs : Cells} (q : DrawIn p l k) (h : l ≠ 0) (h2 : 2 ≤ lim) (h3 : lim < 2 ^ 62) :
    ∃ v p' c' l' k' wd', DrawIn p' l' k' ∧ 0 ≤ v ∧ v < lim ∧ evSs F gl cDraw.tl (envDraw lim) (some (drawCell ns p c l k wd) :: hs) = .ret (.int v) (some (drawCell ns p' c' l' k' wd') :: hs) := by
  obtain ⟨q1, q2, q3, q4⟩ := q
  have e1 : ¬ lim < 2 := by omega
  have e2 : 0 < lim := by omega
  have e3 : lim.natAbs < 2 ^ 63 := by omega
  cases wd with
  | true =>
    have v1 := Int.emod_nonneg c (by omega : lim ≠ 0)
    have v2 := Int.emod_lt_of_pos c e2
    by_cases hz : c / lim = 0
    · refine ⟨c % lim, p, 0, 0, k + 1, true, ⟨by omega, by omega, by omega, by omega⟩, v1, v2, ?_⟩
      simp [cDraw, CSs.tl, envDraw, ss_nilE, ss_consE, seq_next, seq_ret, seq_brk, seq_cont, s_iteE, ite_ok, s_setE, s_setTE, s_exE, s_retE, s_retNE, s_passE, s_brkE, s_contE, s_setSubE, e_nonE, e_blE, e_intE, e_strE, slR_val, e_varE, e_globE, e_binE, negR_int, e_negE, e_cmpE, e_chainE, e_andE, e_orE, e_notE, e_ifeE, e_tupE, e_lstE, e_subE, e_sliceE, e_callE, e_bltE, e_bmE, e_isiE, es_nilE, es_consE, es_starE, bs_nilE, bs_consE, o_noneE, intR_int, o_someE, c_noneE, c_someE, and_oneE, and_consE, or_oneE, or_consE, i_ofE, rngR1_int, rngR2_int, i_rng1E, i_rng2E, base_varK, baseV_own, baseV_val, 
    base_cst, base_glob, base_bin, base_neg, base_cmp, base_chain, base_and, base_or, base_not, base_ife, base_tup, base_lst, base_sub, base_slice, base_call, base_blt, base_bm, base_isi, base_lc, fin_ret, fin_next, test_ok, out_ok, see0, obD_lst, truth_int, truth_lst, truth_str, lt_int, le_int, gt_int, ge_int, eq_D, ne_D, is_non, isnot_non, in_D, notin_D, add_int, sub_int, len_lst, len_tup, len_str, int_int, list_lst, list_tup, tuple_lst, tuple_tup, ixN_lit, subL_lit, subT_lit, setAt_cell0, lim_k, cut_from1, binK_some, cmpK_some, s_tryE, try_ret, try_next, noExc_ret, noExc_next, s_raiseE, fin_exc, out_exc, test_exc, base_attr, base_meth, base_make, e_attrE, e_methE, methR_some, e_makeE, seq_exc, ite_exc, drawCell, h, e1, mod_int e2, fdiv_int e2 e3, hz]
    · refine ⟨c % lim, p, c / lim, l - 1, k + 1, true, ⟨by omega, by omega, by omega, by omega⟩, v1, v2, ?_⟩
      simp [cDraw, CSs.tl, envDraw, ss_nilE, ss_consE, seq_next, seq_ret, seq_brk, seq_cont, s_iteE, ite_ok, s_setE, s_setTE, s_exE, s_retE, s_retNE, s_passE, s_brkE, s_contE, s_setSubE, e_nonE, e_blE, e_intE, e_strE, slR_val, e_varE, e_globE, e_binE, negR_int, e_negE, e_cmpE, e_chainE, e_andE, e_orE, e_notE, e_ifeE, e_tupE, e_lstE, e_subE, e_sliceE, e_callE, e_bltE, e_bmE, e_isiE, es_nilE, es_consE, es_starE, bs_nilE, bs_consE, o_noneE, intR_int, o_someE, c_noneE, c_someE, and_oneE, and_consE, or_oneE, or_consE, i_ofE, rngR1_int, rngR2_int, i_rng1E, i_rng2E, base_varK, baseV_own, baseV_val, 
    base_cst, base_glob, base_bin, base_neg, base_cmp, base_chain, base_and, base_or, base_not, base_ife, base_tup, base_lst, base_sub, base_slice, base_call, base_blt, base_bm, base_isi, base_lc, fin_ret, fin_next, test_ok, out_ok, see0, obD_lst, truth_int, truth_lst, truth_str, lt_int, le_int, gt_int, ge_int, eq_D, ne_D, is_non, isnot_non, in_D, notin_D, add_int, sub_int, len_lst, len_tup, len_str, int_int, list_lst, list_tup, tuple_lst, tuple_tup, ixN_lit, subL_lit, subT_lit, setAt_cell0, lim_k, cut_from1, binK_some, cmpK_some, s_tryE, try_ret, try_next, noExc_ret, noExc_next, s_raiseE, fin_exc, out_exc, test_exc, base_attr, base_meth, base_make, e_attrE, e_methE, methR_some, e_makeE, seq_exc, ite_exc, drawCell, h, e1, mod_int e2, fdiv_int e2 e3, hz]
  | false =>
    have m1 : opB .mul (.int c) (.int 48271) = some (.int (c * 48271)) := mul_intr (by decide)
    have m2 : ∀ a : Int, opB .mod (.int a) (.int 2147483647) = some (.int (a % 2147483647)) := fun a => mod_int (by decide)
    have m3 : ∀ a : Int, opB .mod (.int a) (.int 2147483399) = some (.int (a % 2147483399)) := fun a => mod_int (by decide)
    have m4 : opB .mul (.int 69621) (.int (k + 1)) = some (.int (69621 * (k + 1))) := mul_intl (by decide)
    have m5 : opB .mul (.int (69621 * (k + 1))) (.int (k + 1)) = some (.int (69621 * (k + 1) * (k + 1))) := mul_intr (by omega)
    have m6 : opB .mul (.int 40014) (.int (k + 1)) = some (.int (40014 * (k + 1))) := mul_intl (by decide)
    have m7 : ∀ b : Int, opB .mul (.int (c * 48271 % 2147483647)) (.int b) = some (.int (c * 48271 % 2147483647 * b)) := fun b => mul_intl (by omega)
    refine ⟨(c * 48271 % 2147483647 * (69621 * (k + 1) * (k + 1) + 40014 * (k + 1) + 1) % 2147483399) % lim, p, c, l - 1, k + 1, false, ⟨by omega, by omega, by omega, by omega⟩, Int.emod_nonneg _ (by omega : lim ≠ 0), Int.emod_lt_of_pos _ e2, ?_⟩
    simp [cDraw, CSs.tl, envDraw, ss_nilE, ss_consE, seq_next, seq_ret, seq_brk, seq_cont, s_iteE, ite_ok, s_setE, s_setTE, s_exE, s_retE, s_retNE, s_passE, s_brkE, s_contE, s_setSubE, e_nonE, e_blE, e_intE, e_strE, slR_val, e_varE, e_globE, e_binE, negR_int, e_negE, e_cmpE, e_chainE, e_andE, e_orE, e_notE, e_ifeE, e_tupE, e_lstE, e_subE, e_sliceE, e_callE, e_bltE, e_bmE, e_isiE, es_nilE, es_consE, es_starE, bs_nilE, bs_consE, o_noneE, intR_int, o_someE, c_noneE, c_someE, and_oneE, and_consE, or_oneE, or_consE, i_ofE, rngR1_int, rngR2_int, i_rng1E, i_rng2E, base_varK, baseV_own, baseV_val, 
    base_cst, base_glob, base_bin, base_neg, base_cmp, base_chain, base_and, base_or, base_not, base_ife, base_tup, base_lst, base_sub, base_slice, base_call, base_blt, base_bm, base_isi, base_lc, fin_ret, fin_next, test_ok, out_ok, see0, obD_lst, truth_int, truth_lst, truth_str, lt_int, le_int, gt_int, ge_int, eq_D, ne_D, is_non, isnot_non, in_D, notin_D, add_int, sub_int, len_lst, len_tup, len_str, int_int, list_lst, list_tup, tuple_lst, tuple_tup, ixN_lit, subL_lit, subT_lit, setAt_cell0, lim_k, cut_from1, binK_some, cmpK_some, s_tryE, try_ret, try_next, noExc_ret, noExc_next, s_raiseE, fin_exc, out_exc, test_exc, base_attr, base_meth, base_make, e_attrE, e_methE, methR_some, e_makeE, seq_exc, ite_exc, drawCell, h, e1, mod_int e2, m1, m2, m3, m4, m5, m6, m7]
/-- a draw below lim -/
theorem draw_ok {ns : List Int} {p c l k lim : Int} {wd : Bool} {hs : Cells} (q : DrawIn p l k) (h2 : 1 ≤ lim) (h3 : lim < 2 ^ 62) :
    ∃ v p' c' l' k' wd', DrawIn p' l' k' ∧ 0 ≤ v ∧ v < lim ∧ runFn F gl fDraw [.cell 0, .int lim] (some (drawCell ns p c l k wd) :: hs) = .ok (.int v) (some (drawCell ns p' c' l' k' wd') :: hs) := by
  have e : ∀ h, runFn F gl fDraw [.cell 0, .int lim] h = (seqO F gl (evS F gl cDraw.hd (envDraw lim) h) cDraw.tl).fin := fun h => rfl
  rw [e]
  obtain ⟨p1, c1, l1, k1, w1, q1, e1⟩ := refill F gl (ns := ns) (c := c) (lim := lim) (wd := wd) (hs := hs) q
  rw [e1, seq_next]
  by_cases h : l1 = 0 ∨ lim < 2
  · refine ⟨0, p1, c1, l1, k1, w1, q1, by omega, by omega, ?_⟩
    rw [rest0 F gl h]
    rfl
  · obtain ⟨v, p2, c2, l2, k2, w2, q2, v1, v2, e2⟩ := rest1 F gl (ns := ns) (c := c1) (lim := lim) (wd := w1) (hs := hs) q1 (by omega) (by omega) h3
    refine ⟨v, p2, c2, l2, k2, w2, q2, v1, v2, ?_⟩
    rw [e2]
    rfl
theorem start_ok {ns : List Int} {hs : Cells} : runFn F gl fStart [.lst (ns.map .int)] [] = .ok (.cell 0) [some (drawCell ns 0 0 0 0 false)] := by
  rfl
end
end Rf
set_option Elab.async false
set_option linter.all false
set_option maxRecDepth 100000
set_option maxHeartbeats 800000
/-! G23: _law_same says yes of the same -/
namespace Rf
open PySem L2
def cSame (si : Nat) : CSs := (.cons (.ite (.cmp .is (.var 1) (.cst .non)) (.cons (.ret (.cmp .is (.var 0) (.cst .non))) .nil) .nil) (.cons (.ite (.isi (.var 1) .bool) (.cons (.ret (.and (.cons (.isi (.var 0) .bool) (.cons (.cmp .eq (.var 0) (.var 1)) .nil)))) .nil) .nil) (.cons (.ite (.isi (.var 1) .int) (.cons (.ret (.and (.cons (.isi (.var 0) .int) (.cons (.not (.isi (.var 0) .bool)) (.cons (.cmp .eq (.var 0) (.var 1)) .nil))))) .nil) .nil) (.cons (.ite (.isi (.var 1) .str) (.cons (.ret (.and (.cons (.isi (.var 0) .str) (.cons (.cmp .eq (.var 0) (.var 1)) .nil)))) .nil) .nil) (.cons (.ite (.isi (.var 1) .list) (.cons (.ite (.not (.isi (.var 0) .list)) (.cons (.ret (.cst (.bl false))) .nil) .nil) .nil) (.cons (.ite (.not (.isi (.var 0) .tuple)) (.cons (.ret (.cst (.bl false))) .nil) .nil) .nil)) (.cons (.ite (.cmp .ne (.blt .len (.cons (.var 0) .nil)) (.blt .len (.cons (.var 1) .nil))) (.cons (.ret (.cst (.bl false))) .nil) .nil) (.cons (.for_ (.name 2) (.rng1 (.blt .len (.cons (.var 1) .nil))) (.cons (.ite (.not (.call si (.cons (.sub (.var 0) (.var 2)) (.cons (.sub (.var 1) (.var 2)) .nil)))) (.cons (.ret (.cst (.bl false))) .nil) .nil) .nil)) (.cons (.ret (.cst (.bl true))) .nil))))))))
def fSame (si : Nat) : Fn := ⟨2, 3, cSame si, false⟩
/-- plain data, so deep -/
def plnD : Nat → D → Bool
  | _, .non => true
  | _, .bl _ => true
  | _, .int _ => true
  | _, .str x => SeqAt.shaped (.str x)
  | n + 1, .tup ds => decide (ds.length ≤ LIM) && ds.all (plnD n)
  | n + 1, .lst ds => decide (ds.length ≤ LIM) && ds.all (plnD n)
  | _, _ => false
theorem plnD_mono : ∀ {n m : Nat} {d : D}, plnD n d = true → n ≤ m → plnD m d = true
  | n, m, .non, _, _ => by cases m <;> rfl
  | n, m, .bl _, _, _ => by cases m <;> rfl
  | n, m, .int _, _, _ => by cases m <;> rfl
  | n, m, .str x, h, _ => by
    have e : ∀ k, plnD k (.str x) = SeqAt.shaped (.str x) := fun k => by cases k <;> rfl
    rw [e] at h ⊢
    exact h
  | n + 1, m + 1, .tup ds, h, l => by
    rw [plnD, Bool.and_eq_true] at h ⊢
    exact ⟨h.1, List.all_eq_true.mpr fun d hd => plnD_mono (List.all_eq_true.mp h.2 d hd) (by omega)⟩
  | n + 1, m + 1, .lst ds, h, l => by
    rw [plnD, Bool.and_eq_true] at h ⊢
    exact ⟨h.1, List.all_eq_true.mpr fun d hd => plnD_mono (List.all_eq_true.mp h.2 d hd) (by omega)⟩
  | 0, m, .tup ds, h, l => by cases h
  | 0, m, .lst ds, h, l => by cases h
  | 0, m, .dk ds, h, l => by cases h
  | 0, m, .dt ds, h, l => by cases h
  | 0, m, .ins _ _, h, l => by cases h
  | 0, m, .cell _, h, l => by cases h
  | n + 1, m, .dk ds, h, l => by cases h
  | n + 1, m, .dt ds, h, l => by cases h
  | n + 1, m, .ins _ _, h, l => by cases h
  | n + 1, m, .cell _, h, l => by cases h
/-- a loop whose turns only go on -/
theorem for_all {t : Tg} {f : En → Cells → Out} {h : Cells} (P : En → Prop) : ∀ {ds : List D} {env : En}, P env → (∀ d ∈ ds, ∀ env, P env → ∃ e1 e2, bindT t d env = some e1 ∧ f e1 h = .next e2 h ∧ P e2) → ∃ e', forGo t f ds env h = .next e' h ∧ P e'
  | [], env, hP, _ => ⟨env, rfl, hP⟩
  | d :: ds, env, hP, st => by
    obtain ⟨e1, e2, h1, h2, h3⟩ := st d (List.mem_cons_self ..) env hP
    obtain ⟨e', h4, h5⟩ := for_all P (ds := ds) h3 fun x hx => st x (List.mem_cons_of_mem _ hx)
    refine ⟨e', ?_, h5⟩
    unfold forGo
    simp only [h1, h2]
    exact h4
theorem eqD_bl (b : Bool) : eqD (.bl b) (.bl b) = some true := by cases b <;> rfl
theorem eqD_str {x y : Str} (h : SeqAt.shaped (.str x) = true) (h2 : SeqAt.shaped (.str y) = true) : eqD (.str x) (.str y) = some (x == y) := by
  show (if SeqAt.shaped (.str x) && SeqAt.shaped (.str y) then some _ else none) = _
  rw [h, h2]
  rfl
theorem rng_ok {n : Nat} (h : n ≤ LIM) : rngD 0 (n : Int) = some ((List.range n).map fun (k : Nat) => .int k) := by
  have h' : n ≤ 16777216 := h
  have c : (decide (-(2 ^ 40) ≤ (0 : Int)) && decide ((0 : Int) < 2 ^ 40) && decide (-(2 ^ 40) ≤ (n : Int)) && decide ((n : Int) < 2 ^ 40)) = true := by
    rw [Bool.and_eq_true, Bool.and_eq_true, Bool.and_eq_true]
    refine ⟨⟨⟨by decide, by decide⟩, decide_eq_true (by omega)⟩, decide_eq_true (by omega)⟩
  unfold rngD
  rw [if_pos c, Int.sub_zero, Int.toNat_natCast]
  simp only [Int.zero_add]
section
variable {F : FTab} {gl : Nat → Option D} {si : Nat}
def bSame (si : Nat) : CSs := .cons (.ite (.not (.call si (.cons (.sub (.var 0) (.var 2)) (.cons (.sub (.var 1) (.var 2)) .nil)))) (.cons (.ret (.cst (.bl false))) .nil) .nil) .nil
theorem same_turn {d x s : D} {k : Nat} {h : Cells} (hsee : see h d = d) (hs : subD d (.int k) = some x) (ih : F.call si [x, x] h = .ok (.bl true) h) : evSs F gl (bSame si) [.val d, .val d, .val (.int k)] h = .next [.val d, .val d, .val (.int k)] h := by
  simp [bSame, ss_nilE, ss_consE, seq_next, seq_ret, seq_brk, seq_cont, s_iteE, ite_ok, s_setE, s_setTE, s_exE, s_retE, s_retNE, s_passE, s_brkE, s_contE, s_setSubE, e_nonE, e_blE, e_intE, e_strE, slR_val, e_varE, e_globE, e_binE, negR_int, e_negE, e_cmpE, e_chainE, e_andE, e_orE, e_notE, e_ifeE, e_tupE, e_lstE, e_subE, e_sliceE, e_callE, e_bltE, e_bmE, e_isiE, es_nilE, es_consE, es_starE, bs_nilE, bs_consE, o_noneE, intR_int, o_someE, c_noneE, c_someE, and_oneE, and_consE, or_oneE, or_consE, i_ofE, rngR1_int, rngR2_int, i_rng1E, i_rng2E, base_varK, baseV_own, baseV_val, 
    base_cst, base_glob, base_bin, base_neg, base_cmp, base_chain, base_and, base_or, base_not, base_ife, base_tup, base_lst, base_sub, base_slice, base_call, base_blt, base_bm, base_isi, base_lc, fin_ret, fin_next, test_ok, out_ok, see0, obD_lst, truth_int, truth_lst, truth_str, lt_int, le_int, gt_int, ge_int, eq_D, ne_D, is_non, isnot_non, in_D, notin_D, add_int, sub_int, len_lst, len_tup, len_str, int_int, list_lst, list_tup, tuple_lst, tuple_tup, ixN_lit, subL_lit, subT_lit, setAt_cell0, lim_k, cut_from1, binK_some, cmpK_some, s_tryE, try_ret, try_next, noExc_ret, noExc_next, s_raiseE, fin_exc, out_exc, test_exc, base_attr, base_meth, base_make, e_attrE, e_methE, methR_some, e_makeE, seq_exc, ite_exc, hsee, hs, ih]
theorem same_loop {ds : List D} {h : Cells} {d : D} (hsee : see h d = d) (hsub : ∀ k, subD d (.int (k : Nat)) = ds[k]?) (ih : ∀ x ∈ ds, F.call si [x, x] h = .ok (.bl true) h) (s : Sl) : ∃ s', forGo (.name 2) (evSs F gl (bSame si)) ((List.range ds.length).map fun (k : Nat) => .int k) [.val d, .val d, s] h = .next [.val d, .val d, s'] h := by
  obtain ⟨e', h1, s', rfl⟩ := for_all (t := .name 2) (f := evSs F gl (bSame si)) (h := h) (fun e => ∃ s, e = [.val d, .val d, s]) (ds := (List.range ds.length).map fun (k : Nat) => .int k) ⟨s, rfl⟩ fun x hx env ⟨s, e⟩ => by
    obtain ⟨k, hk, rfl⟩ := List.mem_map.mp hx
    have hk' : k < ds.length := List.mem_range.mp hk
    subst e
    have hs : subD d (.int k) = some ds[k] := by rw [hsub, List.getElem?_eq_getElem hk']
    exact ⟨_, _, rfl, same_turn (s := d) hsee hs (ih ds[k] (List.getElem_mem hk')), _, rfl⟩
  exact ⟨s', h1⟩
theorem out_to {α : Type} {r : Res α} {a : α} {h : Cells} {env : En} {k : α → Cells → Out} {o : Out} (e : r = .ok a h) (q : k a h = o) : r.out env k = o := by
  rw [e, out_ok, q]
theorem rng_len {n : Nat} {h : Cells} (hl : n ≤ LIM) : rngR1 (.int (n : Nat)) h = .ok ((List.range n).map fun (k : Nat) => .int k) h := by
  rw [rngR1_int, rng_ok hl, lift_some]
theorem same_for {ds : List D} {h : Cells} {d : D} {s : Sl} {e : En} (hlen : bltD .len [see h d] = some (.int ds.length)) (hl : ds.length ≤ LIM) (hs : forGo (.name 2) (evSs F gl (bSame si)) ((List.range ds.length).map fun (k : Nat) => .int k) [.val d, .val d, s] h = .next e h) :
    evS F gl (.for_ (.name 2) (.rng1 (.blt .len (.cons (.var 1) .nil))) (bSame si)) [.val d, .val d, s] h = .next e h := by
  have e0 : evE F gl [.val d, .val d, s] (.blt .len (.cons (.var 1) .nil)) h = .ok (.int ds.length) h := by
    simp only [e_bltE, bs_consE, bs_nilE, e_varE, base_var, List.getElem?_cons_zero, List.getElem?_cons_succ, slR_val, Res.bind_ok, List.map_cons, List.map_nil, hlen, lift_some]
  have e1 : evI F gl [.val d, .val d, s] (.rng1 (.blt .len (.cons (.var 1) .nil))) h = rngR1 (.int (ds.length : Nat)) h := by
    rw [i_rng1E, e0]
    exact Res.bind_ok _ _ _
  rw [s_forE]
  exact out_to (e1.trans (rng_len hl)) hs
theorem same_seq {ds : List D} {h : Cells} {d : D} (hd : d = .tup ds ∨ d = .lst ds) (hl : ds.length ≤ LIM) (ih : ∀ x ∈ ds, F.call si [x, x] h = .ok (.bl true) h) : runFn F gl (fSame si) [d, d] h = .ok (.bl true) h := by
  have hsee : see h d = d := by rcases hd with rfl | rfl <;> rfl
  have hsub : ∀ k, subD d (.int (k : Nat)) = ds[k]? := fun k => by rcases hd with rfl | rfl <;> exact atI_nat ds k
  obtain ⟨s', hs'⟩ := same_loop (gl := gl) hsee hsub ih .no
  have hf := same_for (by rcases hd with rfl | rfl <;> rfl) hl hs'
  have e : runFn F gl (fSame si) [d, d] h = (evSs F gl (cSame si) [.val d, .val d, .no] h).fin := rfl
  rw [e]
  unfold bSame at hf
  rcases hd with rfl | rfl
  · simp [cSame, ss_nilE, ss_consE, seq_next, seq_ret, seq_brk, seq_cont, s_iteE, ite_ok, s_setE, s_setTE, s_exE, s_retE, s_retNE, s_passE, s_brkE, s_contE, s_setSubE, e_nonE, e_blE, e_intE, e_strE, slR_val, e_varE, e_globE, e_binE, negR_int, e_negE, e_cmpE, e_chainE, e_andE, e_orE, e_notE, e_ifeE, e_tupE, e_lstE, e_subE, e_sliceE, e_callE, e_bltE, e_bmE, e_isiE, es_nilE, es_consE, es_starE, bs_nilE, bs_consE, o_noneE, intR_int, o_someE, c_noneE, c_someE, and_oneE, and_consE, or_oneE, or_consE, i_ofE, rngR1_int, rngR2_int, i_rng1E, i_rng2E, base_varK, baseV_own, baseV_val, 
    base_cst, base_glob, base_bin, base_neg, base_cmp, base_chain, base_and, base_or, base_not, base_ife, base_tup, base_lst, base_sub, base_slice, base_call, base_blt, base_bm, base_isi, base_lc, fin_ret, fin_next, test_ok, out_ok, see0, obD_lst, truth_int, truth_lst, truth_str, lt_int, le_int, gt_int, ge_int, eq_D, ne_D, is_non, isnot_non, in_D, notin_D, add_int, sub_int, len_lst, len_tup, len_str, int_int, list_lst, list_tup, tuple_lst, tuple_tup, ixN_lit, subL_lit, subT_lit, setAt_cell0, lim_k, cut_from1, binK_some, cmpK_some, s_tryE, try_ret, try_next, noExc_ret, noExc_next, s_raiseE, fin_exc, out_exc, test_exc, base_attr, base_meth, base_make, e_attrE, e_methE, methR_some, e_makeE, seq_exc, ite_exc, isNon, tyD, hf]
  · simp [cSame, ss_nilE, ss_consE, seq_next, seq_ret, seq_brk, seq_cont, s_iteE, ite_ok, s_setE, s_setTE, s_exE, s_retE, s_retNE, s_passE, s_brkE, s_contE, s_setSubE, e_nonE, e_blE, e_intE, e_strE, slR_val, e_varE, e_globE, e_binE, negR_int, e_negE, e_cmpE, e_chainE, e_andE, e_orE, e_notE, e_ifeE, e_tupE, e_lstE, e_subE, e_sliceE, e_callE, e_bltE, e_bmE, e_isiE, es_nilE, es_consE, es_starE, bs_nilE, bs_consE, o_noneE, intR_int, o_someE, c_noneE, c_someE, and_oneE, and_consE, or_oneE, or_consE, i_ofE, rngR1_int, rngR2_int, i_rng1E, i_rng2E, base_varK, baseV_own, baseV_val, 
    base_cst, base_glob, base_bin, base_neg, base_cmp, base_chain, base_and, base_or, base_not, base_ife, base_tup, base_lst, base_sub, base_slice, base_call, base_blt, base_bm, base_isi, base_lc, fin_ret, fin_next, test_ok, out_ok, see0, obD_lst, truth_int, truth_lst, truth_str, lt_int, le_int, gt_int, ge_int, eq_D, ne_D, is_non, isnot_non, in_D, notin_D, add_int, sub_int, len_lst, len_tup, len_str, int_int, list_lst, list_tup, tuple_lst, tuple_tup, ixN_lit, subL_lit, subT_lit, setAt_cell0, lim_k, cut_from1, binK_some, cmpK_some, s_tryE, try_ret, try_next, noExc_ret, noExc_next, s_raiseE, fin_exc, out_exc, test_exc, base_attr, base_meth, base_make, e_attrE, e_methE, methR_some, e_makeE, seq_exc, ite_exc, isNon, tyD, hf]
theorem same_flat {h : Cells} {d : D} (hd : d = .non ∨ (∃ b, d = .bl b) ∨ (∃ i, d = .int i) ∨ ∃ x, d = .str x ∧ SeqAt.shaped (.str x) = true) : runFn F gl (fSame si) [d, d] h = .ok (.bl true) h := by
  have e : runFn F gl (fSame si) [d, d] h = (evSs F gl (cSame si) [.val d, .val d, .no] h).fin := rfl
  rw [e]
  rcases hd with rfl | ⟨b, rfl⟩ | ⟨i, rfl⟩ | ⟨x, rfl, hx⟩
  · simp [cSame, ss_nilE, ss_consE, seq_next, seq_ret, seq_brk, seq_cont, s_iteE, ite_ok, s_setE, s_setTE, s_exE, s_retE, s_retNE, s_passE, s_brkE, s_contE, s_setSubE, e_nonE, e_blE, e_intE, e_strE, slR_val, e_varE, e_globE, e_binE, negR_int, e_negE, e_cmpE, e_chainE, e_andE, e_orE, e_notE, e_ifeE, e_tupE, e_lstE, e_subE, e_sliceE, e_callE, e_bltE, e_bmE, e_isiE, es_nilE, es_consE, es_starE, bs_nilE, bs_consE, o_noneE, intR_int, o_someE, c_noneE, c_someE, and_oneE, and_consE, or_oneE, or_consE, i_ofE, rngR1_int, rngR2_int, i_rng1E, i_rng2E, base_varK, baseV_own, baseV_val, 
    base_cst, base_glob, base_bin, base_neg, base_cmp, base_chain, base_and, base_or, base_not, base_ife, base_tup, base_lst, base_sub, base_slice, base_call, base_blt, base_bm, base_isi, base_lc, fin_ret, fin_next, test_ok, out_ok, see0, obD_lst, truth_int, truth_lst, truth_str, lt_int, le_int, gt_int, ge_int, eq_D, ne_D, is_non, isnot_non, in_D, notin_D, add_int, sub_int, len_lst, len_tup, len_str, int_int, list_lst, list_tup, tuple_lst, tuple_tup, ixN_lit, subL_lit, subT_lit, setAt_cell0, lim_k, cut_from1, binK_some, cmpK_some, s_tryE, try_ret, try_next, noExc_ret, noExc_next, s_raiseE, fin_exc, out_exc, test_exc, base_attr, base_meth, base_make, e_attrE, e_methE, methR_some, e_makeE, seq_exc, ite_exc, isNon]
  · simp [cSame, ss_nilE, ss_consE, seq_next, seq_ret, seq_brk, seq_cont, s_iteE, ite_ok, s_setE, s_setTE, s_exE, s_retE, s_retNE, s_passE, s_brkE, s_contE, s_setSubE, e_nonE, e_blE, e_intE, e_strE, slR_val, e_varE, e_globE, e_binE, negR_int, e_negE, e_cmpE, e_chainE, e_andE, e_orE, e_notE, e_ifeE, e_tupE, e_lstE, e_subE, e_sliceE, e_callE, e_bltE, e_bmE, e_isiE, es_nilE, es_consE, es_starE, bs_nilE, bs_consE, o_noneE, intR_int, o_someE, c_noneE, c_someE, and_oneE, and_consE, or_oneE, or_consE, i_ofE, rngR1_int, rngR2_int, i_rng1E, i_rng2E, base_varK, baseV_own, baseV_val, 
    base_cst, base_glob, base_bin, base_neg, base_cmp, base_chain, base_and, base_or, base_not, base_ife, base_tup, base_lst, base_sub, base_slice, base_call, base_blt, base_bm, base_isi, base_lc, fin_ret, fin_next, test_ok, out_ok, see0, obD_lst, truth_int, truth_lst, truth_str, lt_int, le_int, gt_int, ge_int, eq_D, ne_D, is_non, isnot_non, in_D, notin_D, add_int, sub_int, len_lst, len_tup, len_str, int_int, list_lst, list_tup, tuple_lst, tuple_tup, ixN_lit, subL_lit, subT_lit, setAt_cell0, lim_k, cut_from1, binK_some, cmpK_some, s_tryE, try_ret, try_next, noExc_ret, noExc_next, s_raiseE, fin_exc, out_exc, test_exc, base_attr, base_meth, base_make, e_attrE, e_methE, methR_some, e_makeE, seq_exc, ite_exc, isNon, tyD, eqD_bl]
  · simp [cSame, ss_nilE, ss_consE, seq_next, seq_ret, seq_brk, seq_cont, s_iteE, ite_ok, s_setE, s_setTE, s_exE, s_retE, s_retNE, s_passE, s_brkE, s_contE, s_setSubE, e_nonE, e_blE, e_intE, e_strE, slR_val, e_varE, e_globE, e_binE, negR_int, e_negE, e_cmpE, e_chainE, e_andE, e_orE, e_notE, e_ifeE, e_tupE, e_lstE, e_subE, e_sliceE, e_callE, e_bltE, e_bmE, e_isiE, es_nilE, es_consE, es_starE, bs_nilE, bs_consE, o_noneE, intR_int, o_someE, c_noneE, c_someE, and_oneE, and_consE, or_oneE, or_consE, i_ofE, rngR1_int, rngR2_int, i_rng1E, i_rng2E, base_varK, baseV_own, baseV_val, 
    base_cst, base_glob, base_bin, base_neg, base_cmp, base_chain, base_and, base_or, base_not, base_ife, base_tup, base_lst, base_sub, base_slice, base_call, base_blt, base_bm, base_isi, base_lc, fin_ret, fin_next, test_ok, out_ok, see0, obD_lst, truth_int, truth_lst, truth_str, lt_int, le_int, gt_int, ge_int, eq_D, ne_D, is_non, isnot_non, in_D, notin_D, add_int, sub_int, len_lst, len_tup, len_str, int_int, list_lst, list_tup, tuple_lst, tuple_tup, ixN_lit, subL_lit, subT_lit, setAt_cell0, lim_k, cut_from1, binK_some, cmpK_some, s_tryE, try_ret, try_next, noExc_ret, noExc_next, s_raiseE, fin_exc, out_exc, test_exc, base_attr, base_meth, base_make, e_attrE, e_methE, methR_some, e_makeE, seq_exc, ite_exc, isNon, tyD]
  · simp [cSame, ss_nilE, ss_consE, seq_next, seq_ret, seq_brk, seq_cont, s_iteE, ite_ok, s_setE, s_setTE, s_exE, s_retE, s_retNE, s_passE, s_brkE, s_contE, s_setSubE, e_nonE, e_blE, e_intE, e_strE, slR_val, e_varE, e_globE, e_binE, negR_int, e_negE, e_cmpE, e_chainE, e_andE, e_orE, e_notE, e_ifeE, e_tupE, e_lstE, e_subE, e_sliceE, e_callE, e_bltE, e_bmE, e_isiE, es_nilE, es_consE, es_starE, bs_nilE, bs_consE, o_noneE, intR_int, o_someE, c_noneE, c_someE, and_oneE, and_consE, or_oneE, or_consE, i_ofE, rngR1_int, rngR2_int, i_rng1E, i_rng2E, base_varK, baseV_own, baseV_val, 
    base_cst, base_glob, base_bin, base_neg, base_cmp, base_chain, base_and, base_or, base_not, base_ife, base_tup, base_lst, base_sub, base_slice, base_call, base_blt, base_bm, base_isi, base_lc, fin_ret, fin_next, test_ok, out_ok, see0, obD_lst, truth_int, truth_lst, truth_str, lt_int, le_int, gt_int, ge_int, eq_D, ne_D, is_non, isnot_non, in_D, notin_D, add_int, sub_int, len_lst, len_tup, len_str, int_int, list_lst, list_tup, tuple_lst, tuple_tup, ixN_lit, subL_lit, subT_lit, setAt_cell0, lim_k, cut_from1, binK_some, cmpK_some, s_tryE, try_ret, try_next, noExc_ret, noExc_next, s_raiseE, fin_exc, out_exc, test_exc, base_attr, base_meth, base_make, e_attrE, e_methE, methR_some, e_makeE, seq_exc, ite_exc, isNon, tyD, eqD_str hx hx]
end
section
variable {gl : Nat → Option D} {fs : Nat → Option Fn} {tb : Tb} {si : Nat}
theorem call_fn {n f : Nat} {fn : Fn} (h : fs f = some fn) (ds : List D) (c : Cells) : (calls gl fs tb (n + 1)).call f ds c = runFn (calls gl fs tb n) gl fn ds c := by
  show (match fs f with | some fn => runFn (calls gl fs tb n) gl fn ds c | none => .bad) = _
  rw [h]
theorem same_ok (hs : fs si = some (fSame si)) : ∀ (n : Nat) (d : D), plnD n d = true → ∀ h, (calls gl fs tb (n + 1)).call si [d, d] h = .ok (.bl true) h
  | n, .non, _, h => by rw [call_fn hs]; exact same_flat (.inl rfl)
  | n, .bl b, _, h => by rw [call_fn hs]; exact same_flat (.inr (.inl ⟨b, rfl⟩))
  | n, .int b, _, h => by rw [call_fn hs]; exact same_flat (.inr (.inr (.inl ⟨b, rfl⟩)))
  | n, .str b, hp, h => by rw [call_fn hs]; exact same_flat (.inr (.inr (.inr ⟨b, rfl, by cases n <;> exact hp⟩)))
  | n + 1, .tup ds, hp, h => by
    rw [plnD, Bool.and_eq_true, decide_eq_true_eq] at hp
    rw [call_fn hs]
    exact same_seq (.inl rfl) hp.1 fun x hx => same_ok hs n x (List.all_eq_true.mp hp.2 x hx) h
  | n + 1, .lst ds, hp, h => by
    rw [plnD, Bool.and_eq_true, decide_eq_true_eq] at hp
    rw [call_fn hs]
    exact same_seq (.inr rfl) hp.1 fun x hx => same_ok hs n x (List.all_eq_true.mp hp.2 x hx) h
  | 0, .tup ds, hp, h => by cases hp
  | 0, .lst ds, hp, h => by cases hp
  | 0, .dk _, hp, h => by cases hp
  | 0, .dt _, hp, h => by cases hp
  | 0, .ins _ _, hp, h => by cases hp
  | 0, .cell _, hp, h => by cases hp
  | n + 1, .dk _, hp, h => by cases hp
  | n + 1, .dt _, hp, h => by cases hp
  | n + 1, .ins _ _, hp, h => by cases hp
  | n + 1, .cell _, hp, h => by cases hp
theorem same_le {m n : Nat} {d : D} {h : Cells} (hs : fs si = some (fSame si)) (hp : plnD m d = true) (l : m < n) : (calls gl fs tb n).call si [d, d] h = .ok (.bl true) h := by
  obtain ⟨k, rfl⟩ : ∃ k, n = k + 1 := ⟨n - 1, by omega⟩
  exact same_ok hs k d (plnD_mono hp (by omega)) h
end
end Rf
set_option Elab.async false
set_option linter.all false
set_option maxRecDepth 100000
set_option maxHeartbeats 2000000
/-! G24: reckoning, the tools for a law -/
namespace Rf
open PySem L2
/-! ### classes -/
theorem attr_ins (t : Tb) (c f : Nat) (fs : List (Nat × D)) : attrD t (.ins c fs) f = if t.ft c f then fs.lookup f else none := nd rfl
theorem meth_ins (t : Tb) (c m : Nat) (fs : List (Nat × D)) : methD t (.ins c fs) m = if (fs.lookup m).isNone then t.mt c m else none := nd rfl
theorem see_ins (h : Cells) (c : Nat) (fs : List (Nat × D)) : see h (.ins c fs) = .ins c fs := nd rfl
theorem look_nil (a : Nat) : List.lookup a ([] : List (Nat × D)) = none := nd rfl
theorem look_cons (a k : Nat) (b : D) (es : List (Nat × D)) : List.lookup a ((k, b) :: es) = if a = k then some b else es.lookup a := by
  rw [List.lookup_cons]
  by_cases h : a = k
  · subst h; simp
  · rw [if_neg h, beq_eq_false_iff_ne.mpr h]
theorem obD_ins (c : Nat) (fs : List (Nat × D)) : obD (.ins c fs) = .ins c fs := nd rfl
theorem hasTy_ins (c : Nat) (fs : List (Nat × D)) : hasTy (.ins c fs) = true := nd rfl
def setFldK (F : FTab) (q f : Nat) (env : En) (d : D) (h1 : Cells) : Option Sl → Out
  | some (.own (.ins c fs)) => if F.tb.ft c f && decide (fs.length < 900) then .next (env.set q (.own (.ins c (putD f d fs)))) h1 else .bad
  | some (.val (.cell k)) => (match h1[k]? with
          | some (some (.ins c fs)) => if F.tb.ft c f && decide (fs.length < 900) then .next env (h1.set k (some (.ins c (putD f d fs)))) else .bad
          | _ => .bad)
  | _ => .bad
theorem setFldE (F : FTab) (q f : Nat) (env : En) (d : D) (h1 : Cells) : setFldO F q f env d h1 = setFldK F q f env d h1 env[q]? := by
  unfold setFldO setFldK
  rfl
theorem setFldK_own (F : FTab) (q f c : Nat) (env : En) (d : D) (h1 : Cells) (fs : List (Nat × D)) : setFldK F q f env d h1 (some (.own (.ins c fs))) = if F.tb.ft c f && decide (fs.length < 900) then .next (env.set q (.own (.ins c (putD f d fs)))) h1 else .bad := nd rfl
theorem putD_nil (f : Nat) (d : D) : putD f d [] = [(f, d)] := nd rfl
theorem putD_cons (f g : Nat) (d x : D) (r : List (Nat × D)) : putD f d ((g, x) :: r) = if g = f then (g, d) :: r else (g, x) :: putD f d r := nd rfl
theorem fini_next (c k : Nat) (fs : List (Nat × D)) (r : En) (h : Cells) : (Out.next (.own (.ins k fs) :: r) h).fini c = if k = c then .ok fs h else .bad := nd rfl
theorem fini_exc (c : Nat) (x : Exn) (env : En) (h : Cells) : (Out.exc x env h).fini c = .exc x h := nd rfl
section
variable {gl : Nat → Option D} {fs : Nat → Option Fn} {tb : Tb}
theorem calls_tb (n : Nat) : (calls gl fs tb n).tb = tb := by cases n <;> rfl
theorem call_ini {n c f : Nat} {fn : Fn} (hi : tb.it c = some f) (hf : fs f = some fn) (ds : List D) (h : Cells) : (calls gl fs tb (n + 1)).ini c ds h = runIni (calls gl fs tb n) gl fn c ds h := by
  show (match tb.it c with
    | some f => (match fs f with
      | some fn => runIni (calls gl fs tb n) gl fn c ds h
      | none => .bad)
    | none => .bad) = _
  rw [hi]
  simp only [hf]
theorem run_ini {F : FTab} {f : Fn} {c : Nat} {ds : List D} {h : Cells} (e : ds.length + 1 = f.np) : runIni F gl f c ds h = (evSs F gl f.body (.own (.ins c []) :: start (f.nn - 1) ds) h).fini c := by
  unfold runIni
  rw [if_pos e]
theorem call_run {n f : Nat} {fn : Fn} {ds : List D} {h : Cells} (hf : fs f = some fn) (hv : fn.va = false) (e : ds.length = fn.np) : (calls gl fs tb (n + 1)).call f ds h = (evSs (calls gl fs tb n) gl fn.body (start fn.nn ds) h).fin := by
  rw [call_fn hf, run_fn hv e]
theorem call_va {n f : Nat} {fn : Fn} {ds : List D} {h : Cells} (hf : fs f = some fn) (hv : fn.va = true) (e : fn.np ≤ ds.length + 1) (e2 : ds.length ≤ LIM) : (calls gl fs tb (n + 1)).call f ds h = (evSs (calls gl fs tb n) gl fn.body (start fn.nn (ds.take (fn.np - 1) ++ [.tup (ds.drop (fn.np - 1))])) h).fin := by
  rw [call_fn hf, run_va hv e e2]
end
/-! ### slices -/
theorem cut_from (ds : List D) (k : Nat) : cutD ds (some (k : Int)) none = ds.drop k := by
  unfold cutD
  rw [HT.sIx_nat, HT.sIx_none]
  have e : ds.drop (min k ds.length) = ds.drop k := by
    by_cases h : k ≤ ds.length
    · rw [Nat.min_eq_left h]
    · rw [Nat.min_eq_right (by omega), List.drop_eq_nil_of_le (Nat.le_refl _), List.drop_eq_nil_of_le (by omega)]
  rw [e]
  apply List.take_of_length_le
  rw [List.length_drop]
  omega
theorem cut_to (ds : List D) (k : Nat) : cutD ds none (some (k : Int)) = ds.take k := by
  unfold cutD
  rw [HT.sIx_nat, HT.sIx_none, List.drop_zero, Nat.sub_zero]
  by_cases h : k ≤ ds.length
  · rw [Nat.min_eq_left h]
  · rw [Nat.min_eq_right (by omega), List.take_of_length_le (Nat.le_refl _), List.take_of_length_le (by omega)]
theorem slice_from (ds : List D) (k : Nat) : sliceD (.lst ds) (some (k : Int)) none = some (.lst (ds.drop k)) := congrArg (fun x => some (D.lst x)) (cut_from ds k)
theorem slice_to (ds : List D) (k : Nat) : sliceD (.lst ds) none (some (k : Int)) = some (.lst (ds.take k)) := congrArg (fun x => some (D.lst x)) (cut_to ds k)
theorem slice_fromL (ds : List D) (k : Nat) : sliceD (.lst ds) (some (no_index (@OfNat.ofNat Int k instOfNat))) none = some (.lst (ds.drop k)) := slice_from ds k
theorem slice_toL (ds : List D) (k : Nat) : sliceD (.lst ds) none (some (no_index (@OfNat.ofNat Int k instOfNat))) = some (.lst (ds.take k)) := slice_to ds k
theorem sub_nat (ds : List D) (k : Nat) : subD (.lst ds) (.int (k : Int)) = ds[k]? := atI_nat ds k
theorem subT_nat (ds : List D) (k : Nat) : subD (.tup ds) (.int (k : Int)) = ds[k]? := atI_nat ds k
theorem sub_int_at {ds : List D} {v : Int} (h0 : 0 ≤ v) : subD (.lst ds) (.int v) = ds[v.toNat]? := by
  have e : v = ((v.toNat : Nat) : Int) := by omega
  conv => lhs; rw [e]
  exact sub_nat ds _
/-! ### loops -/
/-- a loop by its invariant over what is gone through -/
theorem for_inv {t : Tg} {f : En → Cells → Out} (P : List D → En → Cells → Prop) : ∀ {ds pre : List D} {env : En} {h : Cells}, P pre env h → (∀ pre d post env h, pre ++ d :: post = pre ++ d :: post → P pre env h → d ∈ ds → ∃ e1 e2 h2, bindT t d env = some e1 ∧ (f e1 h = .next e2 h2 ∨ f e1 h = .cont e2 h2) ∧ P (pre ++ [d]) e2 h2) → ∃ e' h', forGo t f ds env h = .next e' h' ∧ P (pre ++ ds) e' h'
  | [], pre, env, h, hP, _ => ⟨env, h, rfl, by rw [List.append_nil]; exact hP⟩
  | d :: ds, pre, env, h, hP, st => by
    obtain ⟨e1, e2, h2, b1, b2, b3⟩ := st pre d ds env h rfl hP (List.mem_cons_self ..)
    obtain ⟨e', h', h4, h5⟩ := for_inv P (ds := ds) b3 fun pre x post env h _ hP hx => st pre x post env h rfl hP (List.mem_cons_of_mem _ hx)
    refine ⟨e', h', ?_, by rw [List.append_assoc] at h5; exact h5⟩
    unfold forGo
    rw [b1]
    rcases b2 with b2 | b2
    · simp only [b2]; exact h4
    · simp only [b2]; exact h4
/-- a comprehension whose elements leave the cells -/
theorem lc_map {f : D → Cells → Res (Option D)} {h : Cells} (g : D → Option D) : ∀ {ds : List D}, (∀ d ∈ ds, f d h = .ok (g d) h) → lcGo f ds h = .ok (ds.filterMap g) h
  | [], _ => rfl
  | d :: ds, hd => by
    have e1 := hd d (List.mem_cons_self ..)
    have e2 := lc_map g (ds := ds) fun x hx => hd x (List.mem_cons_of_mem _ hx)
    unfold lcGo
    simp only [e1, e2]
    cases q : g d with
    | none => rw [List.filterMap_cons_none q]
    | some x => rw [List.filterMap_cons_some q]
inductive All2 {α β : Type} (R : α → β → Prop) : List α → List β → Prop
  | nil : All2 R [] []
  | cons {a : α} {b : β} {as : List α} {bs : List β} : R a b → All2 R as bs → All2 R (a :: as) (b :: bs)
/-- a comprehension whose elements change the cells: each a datum -/
theorem lc_each {f : D → Cells → Res (Option D)} (S : Cells → Prop) (R : D → D → Prop) : ∀ {ds : List D} {h : Cells}, S h → (∀ d ∈ ds, ∀ h, S h → ∃ x h', f d h = .ok (some x) h' ∧ R d x ∧ S h') → ∃ xs h', lcGo f ds h = .ok xs h' ∧ S h' ∧ All2 R ds xs
  | [], h, hS, _ => ⟨[], h, rfl, hS, .nil⟩
  | d :: ds, h, hS, hd => by
    obtain ⟨x, h1, e1, r1, s1⟩ := hd d (List.mem_cons_self ..) h hS
    obtain ⟨xs, h2, e2, s2, r2⟩ := lc_each S R (ds := ds) s1 fun x hx => hd x (List.mem_cons_of_mem _ hx)
    refine ⟨x :: xs, h2, ?_, s2, .cons r1 r2⟩
    unfold lcGo
    simp only [e1, e2]
/-! ### the law -/
/-- the rest of the law says True -/
def RetT (F : FTab) (gl : Nat → Option D) (ss : CSs) (env : En) (h : Cells) : Prop := ∃ c, evSs F gl ss env h = .ret (.bl true) c
section
variable {F : FTab} {gl : Nat → Option D} {ss : CSs} {env : En} {h h' : Cells}
theorem RetT.step {s : CS} {env' : En} (he : evS F gl s env h = .next env' h') (k : RetT F gl ss env' h') : RetT F gl (.cons s ss) env h := by
  obtain ⟨c, hc⟩ := k
  refine ⟨c, ?_⟩
  rw [ss_consE, he, seq_next, hc]
theorem RetT.set {i : Nat} {e : CE} {d : D} (he : evE F gl env e h = .ok d h') (k : RetT F gl ss (env.set i (.val d)) h') : RetT F gl (.cons (.set i e) ss) env h := .step (by rw [s_setE, he, out_ok]) k
theorem RetT.for {b : CSs} {env' : En} {h2 : Cells} {t : Tg} {src : CI} {ds : List D} (he : evI F gl env src h = .ok ds h') (hf : forGo t (evSs F gl b) ds env h' = .next env' h2) (k : RetT F gl ss env' h2) : RetT F gl (.cons (.for_ t src b) ss) env h := .step (by rw [s_forE, he, out_ok, hf]) k
/-- if not .. : return False -/
theorem RetT.test {e : CE} {b : CSs} (he : (evE F gl env e h).test = .ok false h') (k : RetT F gl ss env h') : RetT F gl (.cons (.ite e b .nil) ss) env h := .step (by rw [s_iteE, he]; rfl) k
end
/-- the rest hands back -/
def RetP (F : FTab) (gl : Nat → Option D) (ss : CSs) (env : En) (h : Cells) (P : D → Cells → Prop) : Prop := ∃ d c, evSs F gl ss env h = .ret d c ∧ P d c
section
variable {F : FTab} {gl : Nat → Option D} {ss : CSs} {env : En} {h h' : Cells} {P : D → Cells → Prop}
theorem RetP.step {s : CS} {env' : En} (he : evS F gl s env h = .next env' h') (k : RetP F gl ss env' h' P) : RetP F gl (.cons s ss) env h P := by
  obtain ⟨d, c, hc, hp⟩ := k
  exact ⟨d, c, by rw [ss_consE, he, seq_next, hc], hp⟩
theorem RetP.ret {s : CS} {d : D} (he : evS F gl s env h = .ret d h') (k : P d h') : RetP F gl (.cons s ss) env h P := ⟨d, h', by rw [ss_consE, he, seq_ret], k⟩
theorem RetP.set {i : Nat} {e : CE} {d : D} (he : evE F gl env e h = .ok d h') (k : RetP F gl ss (env.set i (.val d)) h' P) : RetP F gl (.cons (.set i e) ss) env h P := .step (by rw [s_setE, he, out_ok]) k
theorem RetP.for {b : CSs} {env' : En} {h2 : Cells} {t : Tg} {src : CI} {ds : List D} (he : evI F gl env src h = .ok ds h') (hf : forGo t (evSs F gl b) ds env h' = .next env' h2) (k : RetP F gl ss env' h2 P) : RetP F gl (.cons (.for_ t src b) ss) env h P := .step (by rw [s_forE, he, out_ok, hf]) k
theorem RetP.test {e : CE} {b : CSs} (he : (evE F gl env e h).test = .ok false h') (k : RetP F gl ss env h' P) : RetP F gl (.cons (.ite e b .nil) ss) env h P := .step (by rw [s_iteE, he]; rfl) k
theorem RetP.fin {o : Out} (e : o = evSs F gl ss env h) (k : RetP F gl ss env h P) : ∃ d c, o.fin = .ok d c ∧ P d c := by
  obtain ⟨d, c, hc, hp⟩ := k
  exact ⟨d, c, by rw [e, hc]; rfl, hp⟩
end
/-- the draws' list -/
def DS (hs : Cells) (h : Cells) : Prop := ∃ ns p c l k wd, DrawIn p l k ∧ h = some (drawCell ns p c l k wd) :: hs
theorem draw {gl : Nat → Option D} {fs : Nat → Option Fn} {tb : Tb} {di : Nat} (hf : fs di = some fDraw) (n : Nat) {h hs : Cells} (q : DS hs h) {lim : Int} (h2 : 1 ≤ lim) (h3 : lim < 2 ^ 62) : ∃ v h', DS hs h' ∧ 0 ≤ v ∧ v < lim ∧ (calls gl fs tb (n + 1)).call di [.cell 0, .int lim] h = .ok (.int v) h' := by
  obtain ⟨ns, p, c, l, k, wd, q, rfl⟩ := q
  obtain ⟨v, p', c', l', k', wd', q', v0, v1, e⟩ := draw_ok (calls gl fs tb n) gl (ns := ns) (c := c) (wd := wd) (hs := hs) q h2 h3
  refine ⟨v, _, ⟨ns, p', c', l', k', wd', q', rfl⟩, v0, v1, ?_⟩
  rw [call_fn (fn := fDraw) hf]
  exact e
theorem start_at {gl : Nat → Option D} {fs : Nat → Option Fn} {tb : Tb} {si : Nat} (hf : fs si = some fStart) (n : Nat) (ns : List Int) : ∃ h', DS [] h' ∧ (calls gl fs tb (n + 1)).call si [.lst (ns.map .int)] [] = .ok (.cell 0) h' := by
  refine ⟨_, ⟨ns, 0, 0, 0, 0, false, ⟨by decide, by decide, by decide, by decide⟩, rfl⟩, ?_⟩
  rw [call_fn (fn := fStart) hf]
  exact start_ok (calls gl fs tb n) gl (hs := [])
theorem rng5 : rngD 0 5 = some [.int 0, .int 1, .int 2, .int 3, .int 4] := nd rfl
theorem rng6 : rngD 0 6 = some [.int 0, .int 1, .int 2, .int 3, .int 4, .int 5] := nd rfl
theorem cell_see0 {hs h : Cells} (q : DS hs h) : ∃ o, h = some o :: hs := by
  obtain ⟨_, _, _, _, _, _, _, e⟩ := q
  exact ⟨_, e⟩
theorem lim_lt (k : Nat) (h : k < 16777216) : (k < LIM) = True := eq_true h
theorem newOb_lst (ds : List D) : newOb (.lst ds) = some (.lst ds) := nd rfl
theorem fresh_lst (as : CEs) : fresh (.lst as) = true := nd rfl
theorem pow12 : opB .pow (.int 10) (.int 12) = some (.int 1000000000000) := rfl
theorem max_ii (i j : Int) : bltD .max [.int i, .int j] = some (.int (if j > i then j else i)) := nd rfl
theorem bool_bl (b : Bool) : bltD .bool [.bl b] = some (.bl b) := nd rfl
theorem lt_tt (a b : List D) : opC .lt (.tup a) (.tup b) = (match intsD a, intsD b with
    | some x, some y => some (HT.lexLt x y)
    | _, _ => none) := nd rfl
theorem ints2 (a b : Int) : intsD [.int a, .int b] = some [a, b] := nd rfl
end Rf
set_option Elab.async false
set_option linter.all false
set_option maxRecDepth 100000
set_option maxHeartbeats 8000000
namespace K04
open PySem L2 PySem.Spec PyProof.Rows Rf
def top (i : Nat) : Stmt := PySem.Challenge.pw_eitherpromised_k04_whole_tick_and_latest.main.body.getD i (.Pass ⟨0, 0, 0, 0⟩)
def c_read_number : CSs := (.cons (.ite (.or (.cons (.cmp .eq (.var 0) (.cst (.str ""))) (.cons (.cmp .gt (.blt .len (.cons (.var 0) .nil)) (.glob 0)) .nil))) (.cons (.ret (.neg (.cst (.int 1)))) .nil) .nil) (.cons (.ite (.and (.cons (.cmp .eq (.sub (.var 0) (.cst (.int 0))) (.cst (.str "0"))) (.cons (.cmp .gt (.blt .len (.cons (.var 0) .nil)) (.cst (.int 1))) .nil))) (.cons (.ret (.neg (.cst (.int 1)))) .nil) .nil) (.cons (.for_ (.name 1) (.of (.var 0)) (.cons (.ite (.cmp .notin (.var 1) (.glob 1)) (.cons (.ret (.neg (.cst (.int 1)))) .nil) .nil) .nil)) (.cons (.ret (.blt .int (.cons (.var 0) .nil))) .nil))))
def f_read_number : Fn := ⟨1, 2, c_read_number, false⟩
def p_read_number : PFn := ⟨⟨("read_number", none), "read_number", "read_number", defArgs (top 6), defBody (top 6), defScope (top 6), [], []⟩, ["text", "char"], f_read_number⟩
theorem b_read_number : BindP p_read_number := .no (by decide +kernel) fun _ _ _ _ _ _ us hl => match us, hl with | [_], _ => rfl
def c_read_stamp_parts : CSs := (.cons (.set 1 (.bm .split (.var 0) (.cons (.cst (.str ".")) .nil))) (.cons (.ite (.cmp .ne (.blt .len (.cons (.var 1) .nil)) (.cst (.int 2))) (.cons (.ret (.cst .non)) .nil) .nil) (.cons (.set 2 (.call 0 (.cons (.sub (.var 1) (.cst (.int 0))) .nil))) (.cons (.set 3 (.call 0 (.cons (.sub (.var 1) (.cst (.int 1))) .nil))) (.cons (.ite (.or (.cons (.cmp .lt (.var 2) (.cst (.int 0))) (.cons (.cmp .lt (.var 3) (.cst (.int 0))) .nil))) (.cons (.ret (.cst .non)) .nil) .nil) (.cons (.ret (.tup (.cons (.var 2) (.cons (.var 3) .nil)))) .nil))))))
def f_read_stamp_parts : Fn := ⟨1, 4, c_read_stamp_parts, false⟩
def p_read_stamp_parts : PFn := ⟨⟨("read_stamp_parts", none), "read_stamp_parts", "read_stamp_parts", defArgs (top 7), defBody (top 7), defScope (top 7), [], []⟩, ["text", "parts", "count", "place"], f_read_stamp_parts⟩
theorem b_read_stamp_parts : BindP p_read_stamp_parts := .no (by decide +kernel) fun _ _ _ _ _ _ us hl => match us, hl with | [_], _ => rfl
def c_Stamp___init__ : CSs := (.cons (.ite (.or (.cons (.not (.chain .le .le (.cst (.int 0)) (.var 1) (.glob 3))) (.cons (.not (.chain .le .le (.cst (.int 0)) (.var 2) (.glob 2))) .nil))) (.cons (.raise_ 2) .nil) .nil) (.cons (.setAttr (.var 0) 0 (.var 1)) (.cons (.setAttr (.var 0) 1 (.var 2)) .nil)))
def f_Stamp___init__ : Fn := ⟨3, 3, c_Stamp___init__, false⟩
def p_Stamp___init__ : PFn := ⟨⟨("Stamp", some "__init__"), "__init__", "Stamp.__init__", defArgs (inClass (top 11) 0), defBody (inClass (top 11) 0), defScope (inClass (top 11) 0), [], []⟩, ["self", "count", "place"], f_Stamp___init__⟩
theorem b_Stamp___init__ : BindP p_Stamp___init__ := .no (by decide +kernel) fun _ _ _ _ _ _ us hl => match us, hl with | [_, _, _], _ => rfl
def c_Stamp___eq__ : CSs := (.cons (.ret (.and (.cons (.isi (.var 1) (.own 0)) (.cons (.cmp .eq (.attr (.var 0) 0) (.attr (.var 1) 0)) (.cons (.cmp .eq (.attr (.var 0) 1) (.attr (.var 1) 1)) .nil))))) .nil)
def f_Stamp___eq__ : Fn := ⟨2, 2, c_Stamp___eq__, false⟩
def p_Stamp___eq__ : PFn := ⟨⟨("Stamp", some "__eq__"), "__eq__", "Stamp.__eq__", defArgs (inClass (top 11) 1), defBody (inClass (top 11) 1), defScope (inClass (top 11) 1), [], []⟩, ["self", "other"], f_Stamp___eq__⟩
theorem b_Stamp___eq__ : BindP p_Stamp___eq__ := .no (by decide +kernel) fun _ _ _ _ _ _ us hl => match us, hl with | [_, _], _ => rfl
def c_Stamp___lt__ : CSs := (.cons (.ite (.not (.isi (.var 1) (.own 0))) (.cons .dead .nil) .nil) (.cons (.ret (.cmp .lt (.tup (.cons (.attr (.var 0) 0) (.cons (.attr (.var 0) 1) .nil))) (.tup (.cons (.attr (.var 1) 0) (.cons (.attr (.var 1) 1) .nil))))) .nil))
def f_Stamp___lt__ : Fn := ⟨2, 2, c_Stamp___lt__, false⟩
def p_Stamp___lt__ : PFn := ⟨⟨("Stamp", some "__lt__"), "__lt__", "Stamp.__lt__", defArgs (inClass (top 11) 2), defBody (inClass (top 11) 2), defScope (inClass (top 11) 2), [], []⟩, ["self", "other"], f_Stamp___lt__⟩
theorem b_Stamp___lt__ : BindP p_Stamp___lt__ := .no (by decide +kernel) fun _ _ _ _ _ _ us hl => match us, hl with | [_, _], _ => rfl
def c_Stamp___le__ : CSs := (.cons (.ite (.not (.isi (.var 1) (.own 0))) (.cons .dead .nil) .nil) (.cons (.ret (.cmp .le (.tup (.cons (.attr (.var 0) 0) (.cons (.attr (.var 0) 1) .nil))) (.tup (.cons (.attr (.var 1) 0) (.cons (.attr (.var 1) 1) .nil))))) .nil))
def f_Stamp___le__ : Fn := ⟨2, 2, c_Stamp___le__, false⟩
def p_Stamp___le__ : PFn := ⟨⟨("Stamp", some "__le__"), "__le__", "Stamp.__le__", defArgs (inClass (top 11) 3), defBody (inClass (top 11) 3), defScope (inClass (top 11) 3), [], []⟩, ["self", "other"], f_Stamp___le__⟩
theorem b_Stamp___le__ : BindP p_Stamp___le__ := .no (by decide +kernel) fun _ _ _ _ _ _ us hl => match us, hl with | [_, _], _ => rfl
def c_Stamp___add__ : CSs := (.cons (.ret (.make 0 (.cons (.bin .add (.attr (.var 0) 0) (.var 1)) (.cons (.attr (.var 0) 1) .nil)))) .nil)
def f_Stamp___add__ : Fn := ⟨2, 2, c_Stamp___add__, false⟩
def p_Stamp___add__ : PFn := ⟨⟨("Stamp", some "__add__"), "__add__", "Stamp.__add__", defArgs (inClass (top 11) 4), defBody (inClass (top 11) 4), defScope (inClass (top 11) 4), [], []⟩, ["self", "other"], f_Stamp___add__⟩
theorem b_Stamp___add__ : BindP p_Stamp___add__ := .no (by decide +kernel) fun _ _ _ _ _ _ us hl => match us, hl with | [_, _], _ => rfl
def c_Stamp___radd__ : CSs := (.cons (.ret (.make 0 (.cons (.bin .add (.attr (.var 0) 0) (.var 1)) (.cons (.attr (.var 0) 1) .nil)))) .nil)
def f_Stamp___radd__ : Fn := ⟨2, 2, c_Stamp___radd__, false⟩
def p_Stamp___radd__ : PFn := ⟨⟨("Stamp", some "__radd__"), "__radd__", "Stamp.__radd__", defArgs (inClass (top 11) 5), defBody (inClass (top 11) 5), defScope (inClass (top 11) 5), [], []⟩, ["self", "other"], f_Stamp___radd__⟩
theorem b_Stamp___radd__ : BindP p_Stamp___radd__ := .no (by decide +kernel) fun _ _ _ _ _ _ us hl => match us, hl with | [_, _], _ => rfl
def c_Stamp___str__ : CSs := (.cons .dead .nil)
def f_Stamp___str__ : Fn := ⟨1, 1, c_Stamp___str__, false⟩
def p_Stamp___str__ : PFn := ⟨⟨("Stamp", some "__str__"), "__str__", "Stamp.__str__", defArgs (inClass (top 11) 6), defBody (inClass (top 11) 6), defScope (inClass (top 11) 6), [], []⟩, ["self"], f_Stamp___str__⟩
theorem b_Stamp___str__ : BindP p_Stamp___str__ := .no (by decide +kernel) fun _ _ _ _ _ _ us hl => match us, hl with | [_], _ => rfl
def c_Stamp_tick : CSs := (.cons (.set 2 (.attr (.var 0) 0)) (.cons (.for_ (.name 3) (.of (.var 1)) (.cons (.set 2 (.blt .max (.cons (.var 2) (.cons (.attr (.var 3) 0) .nil)))) .nil)) (.cons (.ret (.make 0 (.cons (.bin .add (.var 2) (.cst (.int 1))) (.cons (.attr (.var 0) 1) .nil)))) .nil)))
def f_Stamp_tick : Fn := ⟨2, 4, c_Stamp_tick, true⟩
def p_Stamp_tick : PFn := ⟨⟨("Stamp", some "tick"), "tick", "Stamp.tick", defArgs (inClass (top 11) 7), defBody (inClass (top 11) 7), defScope (inClass (top 11) 7), [], []⟩, ["self", "others", "most", "other"], f_Stamp_tick⟩
theorem b_Stamp_tick : BindP p_Stamp_tick := .va (pv := "others") (by decide +kernel) fun _ _ _ _ _ _ us rest hl => match us, hl with | [_], _ => by cases rest <;> rfl
def c_latest : CSs := (.cons (.set 1 (.cst .non)) (.cons (.for_ (.name 2) (.of (.var 0)) (.cons (.ite (.or (.cons (.cmp .is (.var 1) (.cst .non)) (.cons (.cmp .lt (.var 1) (.var 2)) .nil))) (.cons (.set 1 (.var 2)) .nil) .nil) .nil)) (.cons (.ret (.var 1)) .nil)))
def f_latest : Fn := ⟨1, 3, c_latest, true⟩
def p_latest : PFn := ⟨⟨("latest", none), "latest", "latest", defArgs (top 12), defBody (top 12), defScope (top 12), [], []⟩, ["stamps", "best", "stamp"], f_latest⟩
theorem b_latest : BindP p_latest := .va (pv := "stamps") (by decide +kernel) fun _ _ _ _ _ _ us rest hl => match us, hl with | [], _ => by cases rest <;> rfl
def c__law_start : CSs := (.cons (.ret (.newc (.cons (.blt .list (.cons (.var 0) .nil)) (.cons (.cst (.int 0)) (.cons (.cst (.int 0)) (.cons (.cst (.int 0)) (.cons (.cst (.int 0)) (.cons (.cst (.bl false)) .nil)))))))) .nil)
def f__law_start : Fn := ⟨1, 1, c__law_start, false⟩
def p__law_start : PFn := ⟨⟨("_law_start", none), "_law_start", "_law_start", defArgs (top 14), defBody (top 14), defScope (top 14), [], []⟩, ["script"], f__law_start⟩
theorem b__law_start : BindP p__law_start := .no (by decide +kernel) fun _ _ _ _ _ _ us hl => match us, hl with | [_], _ => rfl
def c__law_draw : CSs := (.cons (.ite (.and (.cons (.cmp .eq (.sub (.var 0) (.cst (.int 3))) (.cst (.int 0))) (.cons (.cmp .lt (.sub (.var 0) (.cst (.int 1))) (.blt .len (.cons (.sub (.var 0) (.cst (.int 0))) .nil))) .nil))) (.cons (.setSub (.var 0) (.cst (.int 2)) (.blt .int (.cons (.sub (.sub (.var 0) (.cst (.int 0))) (.sub (.var 0) (.cst (.int 1)))) .nil))) (.cons (.setSub (.var 0) (.cst (.int 1)) (.bin .add (.sub (.var 0) (.cst (.int 1))) (.cst (.int 1)))) (.cons (.setSub (.var 0) (.cst (.int 3)) (.cst (.int 8))) (.cons (.setSub (.var 0) (.cst (.int 4)) (.cst (.int 0))) (.cons (.setSub (.var 0) (.cst (.int 5)) (.cmp .ge (.sub (.var 0) (.cst (.int 2))) (.bin .pow (.cst (.int 10)) (.cst (.int 18))))) (.cons (.ite (.sub (.var 0) (.cst (.int 5))) (.cons (.setSub (.var 0) (.cst (.int 3)) (.cst (.int 60))) .nil) .nil) .nil)))))) .nil) (.cons (.ite (.or (.cons (.cmp .eq (.sub (.var 0) (.cst (.int 3))) (.cst (.int 0))) (.cons (.cmp .lt (.var 1) (.cst (.int 2))) .nil))) (.cons (.ret (.cst (.int 0))) .nil) .nil) (.cons (.setSub (.var 0) (.cst (.int 3)) (.bin .sub (.sub (.var 0) (.cst (.int 3))) (.cst (.int 1)))) (.cons (.setSub (.var 0) (.cst (.int 4)) (.bin .add (.sub (.var 0) (.cst (.int 4))) (.cst (.int 1)))) (.cons (.ite (.sub (.var 0) (.cst (.int 5))) (.cons (.set 2 (.bin .mod (.blt .int (.cons (.sub (.var 0) (.cst (.int 2))) .nil)) (.var 1))) (.cons (.setSub (.var 0) (.cst (.int 2)) (.bin .fdiv (.blt .int (.cons (.sub (.var 0) (.cst (.int 2))) .nil)) (.var 1))) (.cons (.ite (.cmp .eq (.sub (.var 0) (.cst (.int 2))) (.cst (.int 0))) (.cons (.setSub (.var 0) (.cst (.int 3)) (.cst (.int 0))) .nil) .nil) (.cons (.ret (.var 2)) .nil)))) .nil) (.cons (.set 3 (.sub (.var 0) (.cst (.int 4)))) (.cons (.set 4 (.bin .mod (.blt .int (.cons (.bin .mul (.sub (.var 0) (.cst (.int 2))) (.cst (.int 48271))) .nil)) (.cst (.int 2147483647)))) (.cons (.set 4 (.bin .mod (.blt .int (.cons (.bin .mul (.var 4) (.bin .add (.bin .add (.bin .mul (.bin .mul (.cst (.int 69621)) (.var 3)) (.var 3)) (.bin .mul (.cst (.int 40014)) (.var 3))) (.cst (.int 1)))) .nil)) (.cst (.int 2147483399)))) (.cons (.ret (.bin .mod (.blt .int (.cons (.var 4) .nil)) (.var 1))) .nil)))))))))
def f__law_draw : Fn := ⟨2, 5, c__law_draw, false⟩
def p__law_draw : PFn := ⟨⟨("_law_draw", none), "_law_draw", "_law_draw", defArgs (top 15), defBody (top 15), defScope (top 15), [], []⟩, ["draws", "limit", "value", "step", "mixed"], f__law_draw⟩
theorem b__law_draw : BindP p__law_draw := .no (by decide +kernel) fun _ _ _ _ _ _ us hl => match us, hl with | [_, _], _ => rfl
def c__law_same : CSs := (.cons (.ite (.cmp .is (.var 1) (.cst .non)) (.cons (.ret (.cmp .is (.var 0) (.cst .non))) .nil) .nil) (.cons (.ite (.isi (.var 1) .bool) (.cons (.ret (.and (.cons (.isi (.var 0) .bool) (.cons (.cmp .eq (.var 0) (.var 1)) .nil)))) .nil) .nil) (.cons (.ite (.isi (.var 1) .int) (.cons (.ret (.and (.cons (.isi (.var 0) .int) (.cons (.not (.isi (.var 0) .bool)) (.cons (.cmp .eq (.var 0) (.var 1)) .nil))))) .nil) .nil) (.cons (.ite (.isi (.var 1) .str) (.cons (.ret (.and (.cons (.isi (.var 0) .str) (.cons (.cmp .eq (.var 0) (.var 1)) .nil)))) .nil) .nil) (.cons (.ite (.isi (.var 1) .list) (.cons (.ite (.not (.isi (.var 0) .list)) (.cons (.ret (.cst (.bl false))) .nil) .nil) .nil) (.cons (.ite (.not (.isi (.var 0) .tuple)) (.cons (.ret (.cst (.bl false))) .nil) .nil) .nil)) (.cons (.ite (.cmp .ne (.blt .len (.cons (.var 0) .nil)) (.blt .len (.cons (.var 1) .nil))) (.cons (.ret (.cst (.bl false))) .nil) .nil) (.cons (.for_ (.name 2) (.rng1 (.blt .len (.cons (.var 1) .nil))) (.cons (.ite (.not (.call 13 (.cons (.sub (.var 0) (.var 2)) (.cons (.sub (.var 1) (.var 2)) .nil)))) (.cons (.ret (.cst (.bl false))) .nil) .nil) .nil)) (.cons (.ret (.cst (.bl true))) .nil))))))))
def f__law_same : Fn := ⟨2, 3, c__law_same, false⟩
def p__law_same : PFn := ⟨⟨("_law_same", none), "_law_same", "_law_same", defArgs (top 16), defBody (top 16), defScope (top 16), [], []⟩, ["actual", "expected", "k"], f__law_same⟩
theorem b__law_same : BindP p__law_same := .no (by decide +kernel) fun _ _ _ _ _ _ us hl => match us, hl with | [_, _], _ => rfl
def c__law_rows_of_stamps : CSs := (.cons (.ite (.cmp .eq (.call 12 (.cons (.var 0) (.cons (.cst (.int 3)) .nil))) (.cst (.int 2))) (.cons (.ret (.lc (.tup (.cons (.call 12 (.cons (.var 0) (.cons (.bin .add (.bin .pow (.cst (.int 10)) (.cst (.int 12))) (.cst (.int 1))) .nil))) (.cons (.call 12 (.cons (.var 0) (.cons (.cst (.int 100)) .nil))) .nil))) [5] (.name 5) (.rng1 (.cst (.int 5))) .none)) .nil) .nil) (.cons (.set 1 (.call 12 (.cons (.var 0) (.cons (.bin .add (.bin .pow (.cst (.int 10)) (.cst (.int 12))) (.cst (.int 1))) .nil)))) (.cons (.ite (.cmp .eq (.call 12 (.cons (.var 0) (.cons (.cst (.int 3)) .nil))) (.cst (.int 1))) (.cons (.set 1 (.bin .sub (.bin .pow (.cst (.int 10)) (.cst (.int 12))) (.call 12 (.cons (.var 0) (.cons (.cst (.int 3)) .nil))))) .nil) .nil) (.cons (.set 2 (.call 12 (.cons (.var 0) (.cons (.cst (.int 100)) .nil)))) (.cons (.setN 3 (.lst (.cons (.tup (.cons (.var 1) (.cons (.var 2) .nil))) (.cons (.tup (.cons (.var 1) (.cons (.bin .mod (.blt .int (.cons (.bin .add (.bin .add (.var 2) (.cst (.int 1))) (.call 12 (.cons (.var 0) (.cons (.cst (.int 99)) .nil)))) .nil)) (.cst (.int 100))) .nil))) .nil)))) (.cons (.app 3 (.tup (.cons (.bin .mod (.blt .int (.cons (.bin .add (.bin .add (.var 1) (.cst (.int 1))) (.call 12 (.cons (.var 0) (.cons (.cst (.int 3)) .nil)))) .nil)) (.bin .add (.bin .pow (.cst (.int 10)) (.cst (.int 12))) (.cst (.int 1)))) (.cons (.call 12 (.cons (.var 0) (.cons (.cst (.int 100)) .nil))) .nil)))) (.cons (.set 4 (.call 12 (.cons (.var 0) (.cons (.cst (.int 4)) .nil)))) (.cons (.ite (.cmp .lt (.var 4) (.cst (.int 3))) (.cons (.app 3 (.sub (.var 3) (.var 4))) .nil) (.cons (.app 3 (.tup (.cons (.call 12 (.cons (.var 0) (.cons (.bin .add (.bin .pow (.cst (.int 10)) (.cst (.int 12))) (.cst (.int 1))) .nil))) (.cons (.call 12 (.cons (.var 0) (.cons (.cst (.int 100)) .nil))) .nil)))) .nil)) (.cons (.app 3 (.tup (.cons (.call 12 (.cons (.var 0) (.cons (.bin .add (.bin .pow (.cst (.int 10)) (.cst (.int 12))) (.cst (.int 1))) .nil))) (.cons (.call 12 (.cons (.var 0) (.cons (.cst (.int 100)) .nil))) .nil)))) (.cons (.frz 3) (.cons (.ret (.var 3)) .nil)))))))))))
def f__law_rows_of_stamps : Fn := ⟨1, 6, c__law_rows_of_stamps, false⟩
def p__law_rows_of_stamps : PFn := ⟨⟨("_law_rows_of_stamps", none), "_law_rows_of_stamps", "_law_rows_of_stamps", defArgs (top 17), defBody (top 17), defScope (top 17), [], []⟩, ["draws", "count", "place", "rows", "mode", "k"], f__law_rows_of_stamps⟩
theorem b__law_rows_of_stamps : BindP p__law_rows_of_stamps := .no (by decide +kernel) fun _ _ _ _ _ _ us hl => match us, hl with | [_], _ => rfl
def c__law_is_stamp : CSs := (.cons (.ite (.not (.isi (.var 0) (.own 0))) (.cons (.ret (.cst (.bl false))) .nil) .nil) (.cons (.ret (.call 13 (.cons (.tup (.cons (.attr (.var 0) 0) (.cons (.attr (.var 0) 1) .nil))) (.cons (.var 1) .nil)))) .nil))
def f__law_is_stamp : Fn := ⟨2, 2, c__law_is_stamp, false⟩
def p__law_is_stamp : PFn := ⟨⟨("_law_is_stamp", none), "_law_is_stamp", "_law_is_stamp", defArgs (top 18), defBody (top 18), defScope (top 18), [], []⟩, ["stamp", "row"], f__law_is_stamp⟩
theorem b__law_is_stamp : BindP p__law_is_stamp := .no (by decide +kernel) fun _ _ _ _ _ _ us hl => match us, hl with | [_, _], _ => rfl
def c__law_ticked : CSs := (.cons (.try_ (.cons (.ite (.cmp .eq (.blt .len (.cons (.var 1) .nil)) (.cst (.int 0))) (.cons (.ret (.tup (.cons (.cst (.str "stamp")) (.cons (.meth (.var 0) 2 .nil) .nil)))) .nil) .nil) (.cons (.ite (.cmp .eq (.blt .len (.cons (.var 1) .nil)) (.cst (.int 1))) (.cons (.ret (.tup (.cons (.cst (.str "stamp")) (.cons (.meth (.var 0) 2 (.cons (.sub (.var 1) (.cst (.int 0))) .nil)) .nil)))) .nil) .nil) (.cons (.ite (.cmp .eq (.blt .len (.cons (.var 1) .nil)) (.cst (.int 2))) (.cons (.ret (.tup (.cons (.cst (.str "stamp")) (.cons (.meth (.var 0) 2 (.cons (.sub (.var 1) (.cst (.int 0))) (.cons (.sub (.var 1) (.cst (.int 1))) .nil))) .nil)))) .nil) .nil) (.cons (.ite (.cmp .eq (.blt .len (.cons (.var 1) .nil)) (.cst (.int 3))) (.cons (.ret (.tup (.cons (.cst (.str "stamp")) (.cons (.meth (.var 0) 2 (.cons (.sub (.var 1) (.cst (.int 0))) (.cons (.sub (.var 1) (.cst (.int 1))) (.cons (.sub (.var 1) (.cst (.int 2))) .nil)))) .nil)))) .nil) .nil) (.cons (.ret (.tup (.cons (.cst (.str "stamp")) (.cons (.meth (.var 0) 2 (.cons (.sub (.var 1) (.cst (.int 0))) (.cons (.sub (.var 1) (.cst (.int 1))) (.cons (.sub (.var 1) (.cst (.int 2))) (.cons (.sub (.var 1) (.cst (.int 3))) .nil))))) .nil)))) .nil))))) 2 (.cons (.ret (.tup (.cons (.cst (.str "refused")) (.cons (.cst .non) .nil)))) .nil)) .nil)
def f__law_ticked : Fn := ⟨2, 2, c__law_ticked, false⟩
def p__law_ticked : PFn := ⟨⟨("_law_ticked", none), "_law_ticked", "_law_ticked", defArgs (top 19), defBody (top 19), defScope (top 19), [], []⟩, ["stamp", "others"], f__law_ticked⟩
theorem b__law_ticked : BindP p__law_ticked := .no (by decide +kernel) fun _ _ _ _ _ _ us hl => match us, hl with | [_, _], _ => rfl
def c__law_latest : CSs := (.cons (.ite (.cmp .eq (.blt .len (.cons (.var 0) .nil)) (.cst (.int 0))) (.cons (.ret (.call 10 .nil)) .nil) .nil) (.cons (.ite (.cmp .eq (.blt .len (.cons (.var 0) .nil)) (.cst (.int 1))) (.cons (.ret (.call 10 (.cons (.sub (.var 0) (.cst (.int 0))) .nil))) .nil) .nil) (.cons (.ite (.cmp .eq (.blt .len (.cons (.var 0) .nil)) (.cst (.int 2))) (.cons (.ret (.call 10 (.cons (.sub (.var 0) (.cst (.int 0))) (.cons (.sub (.var 0) (.cst (.int 1))) .nil)))) .nil) .nil) (.cons (.ite (.cmp .eq (.blt .len (.cons (.var 0) .nil)) (.cst (.int 3))) (.cons (.ret (.call 10 (.cons (.sub (.var 0) (.cst (.int 0))) (.cons (.sub (.var 0) (.cst (.int 1))) (.cons (.sub (.var 0) (.cst (.int 2))) .nil))))) .nil) .nil) (.cons (.ite (.cmp .eq (.blt .len (.cons (.var 0) .nil)) (.cst (.int 4))) (.cons (.ret (.call 10 (.cons (.sub (.var 0) (.cst (.int 0))) (.cons (.sub (.var 0) (.cst (.int 1))) (.cons (.sub (.var 0) (.cst (.int 2))) (.cons (.sub (.var 0) (.cst (.int 3))) .nil)))))) .nil) .nil) (.cons (.ret (.call 10 (.cons (.sub (.var 0) (.cst (.int 0))) (.cons (.sub (.var 0) (.cst (.int 1))) (.cons (.sub (.var 0) (.cst (.int 2))) (.cons (.sub (.var 0) (.cst (.int 3))) (.cons (.sub (.var 0) (.cst (.int 4))) .nil))))))) .nil))))))
def f__law_latest : Fn := ⟨1, 1, c__law_latest, false⟩
def p__law_latest : PFn := ⟨⟨("_law_latest", none), "_law_latest", "_law_latest", defArgs (top 20), defBody (top 20), defScope (top 20), [], []⟩, ["stamps"], f__law_latest⟩
theorem b__law_latest : BindP p__law_latest := .no (by decide +kernel) fun _ _ _ _ _ _ us hl => match us, hl with | [_], _ => rfl
def c__law_ticks_well : CSs := (.cons (.set 2 (.cst (.int 0))) (.cons (.for_ (.name 3) (.of (.var 1)) (.cons (.ite (.cmp .gt (.sub (.var 3) (.cst (.int 0))) (.var 2)) (.cons (.set 2 (.sub (.var 3) (.cst (.int 0)))) .nil) .nil) .nil)) (.cons (.set 4 (.call 16 (.cons (.sub (.var 0) (.cst (.int 0))) (.cons (.slice (.var 0) (.some (.cst (.int 1))) .none) .nil)))) (.cons (.ite (.cmp .eq (.var 2) (.bin .pow (.cst (.int 10)) (.cst (.int 12)))) (.cons (.ret (.cmp .eq (.sub (.var 4) (.cst (.int 0))) (.cst (.str "refused")))) .nil) .nil) (.cons (.ite (.not (.call 15 (.cons (.sub (.var 4) (.cst (.int 1))) (.cons (.tup (.cons (.bin .add (.var 2) (.cst (.int 1))) (.cons (.sub (.sub (.var 1) (.cst (.int 0))) (.cst (.int 1))) .nil))) .nil)))) (.cons (.ret (.cst (.bl false))) .nil) .nil) (.cons (.for_ (.name 5) (.of (.var 0)) (.cons (.ite (.not (.blt .bool (.cons (.cmp .lt (.var 5) (.sub (.var 4) (.cst (.int 1)))) .nil))) (.cons (.ret (.cst (.bl false))) .nil) .nil) .nil)) (.cons (.set 6 (.call 16 (.cons (.sub (.var 4) (.cst (.int 1))) (.cons (.slice (.var 0) .none (.some (.cst (.int 4)))) .nil)))) (.cons (.ite (.cmp .eq (.bin .add (.var 2) (.cst (.int 1))) (.bin .pow (.cst (.int 10)) (.cst (.int 12)))) (.cons (.ret (.cmp .eq (.sub (.var 6) (.cst (.int 0))) (.cst (.str "refused")))) .nil) .nil) (.cons (.ret (.and (.cons (.call 15 (.cons (.sub (.var 6) (.cst (.int 1))) (.cons (.tup (.cons (.bin .add (.var 2) (.cst (.int 2))) (.cons (.sub (.sub (.var 1) (.cst (.int 0))) (.cst (.int 1))) .nil))) .nil))) (.cons (.call 15 (.cons (.sub (.var 4) (.cst (.int 1))) (.cons (.tup (.cons (.bin .add (.var 2) (.cst (.int 1))) (.cons (.sub (.sub (.var 1) (.cst (.int 0))) (.cst (.int 1))) .nil))) .nil))) .nil)))) .nil)))))))))
def f__law_ticks_well : Fn := ⟨2, 7, c__law_ticks_well, false⟩
def p__law_ticks_well : PFn := ⟨⟨("_law_ticks_well", none), "_law_ticks_well", "_law_ticks_well", defArgs (top 21), defBody (top 21), defScope (top 21), [], []⟩, ["stamps", "rows", "most", "row", "ticked", "stamp", "again"], f__law_ticks_well⟩
theorem b__law_ticks_well : BindP p__law_ticks_well := .no (by decide +kernel) fun _ _ _ _ _ _ us hl => match us, hl with | [_, _], _ => rfl
def c__law_tells_latest : CSs := (.cons (.set 2 (.cst .non)) (.cons (.for_ (.name 3) (.of (.var 1)) (.cons (.ite (.or (.cons (.cmp .is (.var 2) (.cst .non)) (.cons (.cmp .lt (.sub (.var 2) (.cst (.int 0))) (.sub (.var 3) (.cst (.int 0)))) (.cons (.and (.cons (.cmp .eq (.sub (.var 2) (.cst (.int 0))) (.sub (.var 3) (.cst (.int 0)))) (.cons (.cmp .lt (.sub (.var 2) (.cst (.int 1))) (.sub (.var 3) (.cst (.int 1)))) .nil))) .nil)))) (.cons (.set 2 (.var 3)) .nil) .nil) .nil)) (.cons (.set 4 (.call 17 (.cons (.var 0) .nil))) (.cons (.ite (.cmp .is (.var 2) (.cst .non)) (.cons (.ret (.cmp .is (.var 4) (.cst .non))) .nil) .nil) (.cons (.ret (.call 15 (.cons (.var 4) (.cons (.var 2) .nil)))) .nil)))))
def f__law_tells_latest : Fn := ⟨2, 5, c__law_tells_latest, false⟩
def p__law_tells_latest : PFn := ⟨⟨("_law_tells_latest", none), "_law_tells_latest", "_law_tells_latest", defArgs (top 22), defBody (top 22), defScope (top 22), [], []⟩, ["stamps", "rows", "best", "row", "told"], f__law_tells_latest⟩
theorem b__law_tells_latest : BindP p__law_tells_latest := .no (by decide +kernel) fun _ _ _ _ _ _ us hl => match us, hl with | [_, _], _ => rfl
def c_law : CSs := (.cons (.set 1 (.call 11 (.cons (.var 0) .nil))) (.cons (.set 2 (.call 14 (.cons (.var 1) .nil))) (.cons (.set 3 (.lc (.make 0 (.cons (.sub (.var 10) (.cst (.int 0))) (.cons (.sub (.var 10) (.cst (.int 1))) .nil))) [10] (.name 10) (.of (.var 2)) .none)) (.cons (.for_ (.name 4) (.rng1 (.cst (.int 5))) (.cons (.set 5 (.bin .add (.slice (.var 2) (.some (.var 4)) .none) (.slice (.var 2) .none (.some (.var 4))))) (.cons (.set 6 (.bin .add (.slice (.var 3) (.some (.var 4)) .none) (.slice (.var 3) .none (.some (.var 4))))) (.cons (.for_ (.name 7) (.rng1 (.cst (.int 6))) (.cons (.ite (.not (.call 19 (.cons (.slice (.var 6) .none (.some (.var 7))) (.cons (.slice (.var 5) .none (.some (.var 7))) .nil)))) (.cons (.ret (.cst (.bl false))) .nil) .nil) (.cons (.ite (.and (.cons (.cmp .gt (.var 7) (.cst (.int 0))) (.cons (.not (.call 18 (.cons (.slice (.var 6) .none (.some (.var 7))) (.cons (.slice (.var 5) .none (.some (.var 7))) .nil)))) .nil))) (.cons (.ret (.cst (.bl false))) .nil) .nil) .nil))) .nil)))) (.cons (.set 8 (.make 0 (.cons (.bin .pow (.cst (.int 10)) (.cst (.int 12))) (.cons (.sub (.sub (.var 2) (.cst (.int 0))) (.cst (.int 1))) .nil)))) (.cons (.ite (.not (.call 18 (.cons (.lst (.cons (.sub (.var 3) (.cst (.int 0))) (.cons (.var 8) .nil))) (.cons (.lst (.cons (.sub (.var 2) (.cst (.int 0))) (.cons (.tup (.cons (.bin .pow (.cst (.int 10)) (.cst (.int 12))) (.cons (.sub (.sub (.var 2) (.cst (.int 0))) (.cst (.int 1))) .nil))) .nil))) .nil)))) (.cons (.ret (.cst (.bl false))) .nil) .nil) (.cons (.ite (.not (.call 18 (.cons (.lst (.cons (.var 8) (.cons (.sub (.var 3) (.cst (.int 0))) .nil))) (.cons (.lst (.cons (.tup (.cons (.bin .pow (.cst (.int 10)) (.cst (.int 12))) (.cons (.sub (.sub (.var 2) (.cst (.int 0))) (.cst (.int 1))) .nil))) (.cons (.sub (.var 2) (.cst (.int 0))) .nil))) .nil)))) (.cons (.ret (.cst (.bl false))) .nil) .nil) (.cons (.ite (.not (.call 19 (.cons (.lst (.cons (.sub (.var 3) (.cst (.int 1))) (.cons (.sub (.var 3) (.cst (.int 0))) .nil))) (.cons (.lst (.cons (.sub (.var 2) (.cst (.int 1))) (.cons (.sub (.var 2) (.cst (.int 0))) .nil))) .nil)))) (.cons (.ret (.cst (.bl false))) .nil) .nil) (.cons (.for_ (.name 9) (.rng1 (.cst (.int 5))) (.cons (.ite (.not (.call 15 (.cons (.sub (.var 3) (.var 9)) (.cons (.sub (.var 2) (.var 9)) .nil)))) (.cons (.ret (.cst (.bl false))) .nil) .nil) .nil)) (.cons (.ret (.cst (.bl true))) .nil))))))))))
def f_law : Fn := ⟨1, 11, c_law, false⟩
def p_law : PFn := ⟨⟨("law", none), "law", "law", defArgs (top 23), defBody (top 23), defScope (top 23), [], []⟩, ["script", "draws", "rows", "stamps", "turn", "turned", "things", "many", "top", "k", "row"], f_law⟩
theorem b_law : BindP p_law := .no (by decide +kernel) fun _ _ _ _ _ _ us hl => match us, hl with | [_], _ => rfl
def tab : Tab := ⟨[("read_number", none), ("read_stamp_parts", none), ("Stamp", some "__init__"), ("Stamp", some "__eq__"), ("Stamp", some "__lt__"), ("Stamp", some "__le__"), ("Stamp", some "__add__"), ("Stamp", some "__radd__"), ("Stamp", some "__str__"), ("Stamp", some "tick"), ("latest", none), ("_law_start", none), ("_law_draw", none), ("_law_same", none), ("_law_rows_of_stamps", none), ("_law_is_stamp", none), ("_law_ticked", none), ("_law_latest", none), ("_law_ticks_well", none), ("_law_tells_latest", none), ("law", none)], ["Stamp"], ["PromiseError", "InvalidStamp"], ["MOST_DIGITS", "DIGITS", "MOST_PLACE", "MOST_COUNT"], ["count", "place", "tick"], [0]⟩
def gv : List D := [(.int (13)), (.str "0123456789"), (.int (99)), (.int (1000000000000))]
def pr : Pr := ⟨tab, [p_read_number, p_read_stamp_parts, p_Stamp___init__, p_Stamp___eq__, p_Stamp___lt__, p_Stamp___le__, p_Stamp___add__, p_Stamp___radd__, p_Stamp___str__, p_Stamp_tick, p_latest, p__law_start, p__law_draw, p__law_same, p__law_rows_of_stamps, p__law_is_stamp, p__law_ticked, p__law_latest, p__law_ticks_well, p__law_tells_latest, p_law], gv, [(0, 0), (0, 1)], [((0, 2), 9)], [(0, 2)], [((1, 1), true), ((1, 2), false), ((2, 1), true), ((2, 2), true)], [((0, (.cmp .eq)), 3), ((0, (.cmp .lt)), 4), ((0, (.cmp .le)), 5), ((0, (.bin .add)), 6)]⟩
theorem t_read_number : chkFn tab p_read_number = true := by decide +kernel
theorem t_read_stamp_parts : chkFn tab p_read_stamp_parts = true := by decide +kernel
theorem t_Stamp___init__ : chkFn tab p_Stamp___init__ = true := by decide +kernel
theorem t_Stamp___eq__ : chkFn tab p_Stamp___eq__ = true := by decide +kernel
theorem t_Stamp___lt__ : chkFn tab p_Stamp___lt__ = true := by decide +kernel
theorem t_Stamp___le__ : chkFn tab p_Stamp___le__ = true := by decide +kernel
theorem t_Stamp___add__ : chkFn tab p_Stamp___add__ = true := by decide +kernel
theorem t_Stamp___radd__ : chkFn tab p_Stamp___radd__ = true := by decide +kernel
theorem t_Stamp___str__ : chkFn tab p_Stamp___str__ = true := by decide +kernel
theorem t_Stamp_tick : chkFn tab p_Stamp_tick = true := by decide +kernel
theorem t_latest : chkFn tab p_latest = true := by decide +kernel
theorem t__law_start : chkFn tab p__law_start = true := by decide +kernel
theorem t__law_draw : chkFn tab p__law_draw = true := by decide +kernel
theorem t__law_same : chkFn tab p__law_same = true := by decide +kernel
theorem t__law_rows_of_stamps : chkFn tab p__law_rows_of_stamps = true := by decide +kernel
theorem t__law_is_stamp : chkFn tab p__law_is_stamp = true := by decide +kernel
theorem t__law_ticked : chkFn tab p__law_ticked = true := by decide +kernel
theorem t__law_latest : chkFn tab p__law_latest = true := by decide +kernel
theorem t__law_ticks_well : chkFn tab p__law_ticks_well = true := by decide +kernel
theorem t__law_tells_latest : chkFn tab p__law_tells_latest = true := by decide +kernel
theorem t_law : chkFn tab p_law = true := by decide +kernel
theorem txt : pr.txt = true := by decide +kernel
theorem binds : ∀ q ∈ pr.L, BindP q := by
  intro q hq
  simp only [pr, List.mem_cons, List.not_mem_nil, or_false] at hq
  rcases hq with rfl | rfl | rfl | rfl | rfl | rfl | rfl | rfl | rfl | rfl | rfl | rfl | rfl | rfl | rfl | rfl | rfl | rfl | rfl | rfl | rfl
  · exact b_read_number
  · exact b_read_stamp_parts
  · exact b_Stamp___init__
  · exact b_Stamp___eq__
  · exact b_Stamp___lt__
  · exact b_Stamp___le__
  · exact b_Stamp___add__
  · exact b_Stamp___radd__
  · exact b_Stamp___str__
  · exact b_Stamp_tick
  · exact b_latest
  · exact b__law_start
  · exact b__law_draw
  · exact b__law_same
  · exact b__law_rows_of_stamps
  · exact b__law_is_stamp
  · exact b__law_ticked
  · exact b__law_latest
  · exact b__law_ticks_well
  · exact b__law_tells_latest
  · exact b_law
abbrev R : PySem.W.OpenRow := PySem.W.OpenLaw.row PySem.Challenge.rw_eitherpromised_k04_whole_tick_and_latest
def names : List Str := ["PromiseError", "InvalidStamp", "DIGITS", "MOST_DIGITS", "read_number", "read_stamp_parts", "MOST_COUNT", "MOST_PLACE", "Stamp", "latest", "_law_start", "_law_draw", "_law_same", "_law_rows_of_stamps", "_law_is_stamp", "_law_ticked", "_law_latest", "_law_ticks_well", "_law_tells_latest"]
abbrev hk : PySem.W.Hook := hookR 4 pr
def ob (s : PySem.W.SharedT) : AlR := obsRG 4 pr (HandSHeadRun.getT s)
theorem ob_eq (s : PySem.W.SharedT) : ob s = hk.obs s.abs := obsRG_eq (HandSHeadRun.getT_eq s)
theorem run (w : World) : HandSHeadRun.RunEq R (PySem.W.view R.prog [23]) hk ob 4000 names w := by
  intro os
  kernel_rfl
/- 0 read_number, 1 read_stamp_parts, 2 Stamp___init__, 3 Stamp___eq__, 4 Stamp___lt__, 5 Stamp___le__, 6 Stamp___add__, 7 Stamp___radd__, 8 Stamp___str__, 9 Stamp_tick, 10 latest, 11 _law_start, 12 _law_draw, 13 _law_same, 14 _law_rows_of_stamps, 15 _law_is_stamp, 16 _law_ticked, 17 _law_latest, 18 _law_ticks_well, 19 _law_tells_latest, 20 law · syms 0 count, 1 place, 2 tick · cls Stamp · exc PromiseError, InvalidStamp · law 20 top 23 -/
end K04
set_option Elab.async false
set_option linter.all false
set_option maxRecDepth 100000
set_option maxHeartbeats 4000000
namespace K04
open PySem L2 Rf
abbrev gl : Nat → Option D := pr.gl
abbrev fs : Nat → Option Fn := fnsOf pr.L
abbrev Fd (n : Nat) : FTab := calls gl fs pr.tb n
theorem g2 : gl 2 = some (.int 99) := rfl
theorem g3 : gl 3 = some (.int 1000000000000) := rfl
theorem ft0 : pr.tb.ft 0 0 = true := rfl
theorem ft1 : pr.tb.ft 0 1 = true := rfl
theorem mt2 : pr.tb.mt 0 2 = some 9 := rfl
theorem otlt : pr.tb.ot 0 (.cmp .lt) = some 4 := rfl
theorem sb22 : pr.tb.sb 2 2 = some true := rfl
/-- a row, a stamp -/
abbrev Row := Int × Int
def rD (r : Row) : D := .tup [.int r.1, .int r.2]
def sD (r : Row) : D := .ins 0 [(0, .int r.1), (1, .int r.2)]
def okR (r : Row) : Prop := 0 ≤ r.1 ∧ r.1 ≤ 1000000000000 ∧ 0 ≤ r.2 ∧ r.2 ≤ 99
def ltR (a b : Row) : Bool := HT.lexLt [a.1, a.2] [b.1, b.2]
theorem ini_ok {n : Nat} {c p : Int} {h : Cells} (q : okR (c, p)) : (Fd (n + 1)).ini 0 [.int c, .int p] h = .ok [(0, .int c), (1, .int p)] h := by
  rw [call_ini (f := 2) (fn := f_Stamp___init__) rfl rfl, run_ini rfl]
  show (evSs (Fd n) gl c_Stamp___init__ [.own (.ins 0 []), .val (.int c), .val (.int p)] h).fini 0 = _
  obtain ⟨h1, h2, h3, h4⟩ := q
  simp only at h1 h2 h3 h4
  simp [c_Stamp___init__, ss_nilE, ss_consE, seq_next, seq_ret, seq_brk, seq_cont, s_iteE, ite_ok, s_setE, s_setTE, s_exE, s_retE, s_retNE, s_passE, s_brkE, s_contE, s_setSubE, e_nonE, e_blE, e_intE, e_strE, slR_val, e_varE, e_globE, e_binE, negR_int, e_negE, e_cmpE, e_chainE, e_andE, e_orE, e_notE, e_ifeE, e_tupE, e_lstE, e_subE, e_sliceE, e_callE, e_bltE, e_bmE, e_isiE, es_nilE, es_consE, es_starE, bs_nilE, bs_consE, o_noneE, intR_int, o_someE, c_noneE, c_someE, and_oneE, and_consE, or_oneE, or_consE, i_ofE, rngR1_int, rngR2_int, i_rng1E, i_rng2E, base_varK, baseV_own, baseV_val, 
    base_cst, base_glob, base_bin, base_neg, base_cmp, base_chain, base_and, base_or, base_not, base_ife, base_tup, base_lst, base_sub, base_slice, base_call, base_blt, base_bm, base_isi, base_lc, fin_ret, fin_next, test_ok, out_ok, see0, obD_lst, truth_int, truth_lst, truth_str, lt_int, le_int, gt_int, ge_int, eq_D, ne_D, is_non, isnot_non, in_D, notin_D, add_int, sub_int, len_lst, len_tup, len_str, int_int, list_lst, list_tup, tuple_lst, tuple_tup, ixN_lit, subL_lit, subT_lit, setAt_cell0, lim_k, cut_from1, binK_some, cmpK_some, s_tryE, try_ret, try_next, noExc_ret, noExc_next, s_raiseE, fin_exc, out_exc, test_exc, base_attr, base_meth, base_make, e_attrE, e_methE, methR_some, e_makeE, seq_exc, ite_exc, attr_ins, meth_ins, see_ins, obD_ins, setFldE, setFldK_own, putD_nil, putD_cons, fini_next, fini_exc, calls_tb, slice_fromL, slice_toL, pow12, max_ii, bool_bl, s_setAttrE, e_attrE, look_nil, look_cons, s_setNE, newOb_lst, fresh_lst, s_appE, s_frzE, lim_lt, g2, g3, h1, h2, h3, h4, ft0, ft1]
theorem ini_bad {n : Nat} {c p : Int} {h : Cells} (q : 1000000000000 < c) : (Fd (n + 1)).ini 0 [.int c, .int p] h = .exc ⟨2, []⟩ h := by
  rw [call_ini (f := 2) (fn := f_Stamp___init__) rfl rfl, run_ini rfl]
  show (evSs (Fd n) gl c_Stamp___init__ [.own (.ins 0 []), .val (.int c), .val (.int p)] h).fini 0 = _
  have h1 : 0 ≤ c := by omega
  have h2 : ¬ c ≤ 1000000000000 := by omega
  simp [c_Stamp___init__, ss_nilE, ss_consE, seq_next, seq_ret, seq_brk, seq_cont, s_iteE, ite_ok, s_setE, s_setTE, s_exE, s_retE, s_retNE, s_passE, s_brkE, s_contE, s_setSubE, e_nonE, e_blE, e_intE, e_strE, slR_val, e_varE, e_globE, e_binE, negR_int, e_negE, e_cmpE, e_chainE, e_andE, e_orE, e_notE, e_ifeE, e_tupE, e_lstE, e_subE, e_sliceE, e_callE, e_bltE, e_bmE, e_isiE, es_nilE, es_consE, es_starE, bs_nilE, bs_consE, o_noneE, intR_int, o_someE, c_noneE, c_someE, and_oneE, and_consE, or_oneE, or_consE, i_ofE, rngR1_int, rngR2_int, i_rng1E, i_rng2E, base_varK, baseV_own, baseV_val, 
    base_cst, base_glob, base_bin, base_neg, base_cmp, base_chain, base_and, base_or, base_not, base_ife, base_tup, base_lst, base_sub, base_slice, base_call, base_blt, base_bm, base_isi, base_lc, fin_ret, fin_next, test_ok, out_ok, see0, obD_lst, truth_int, truth_lst, truth_str, lt_int, le_int, gt_int, ge_int, eq_D, ne_D, is_non, isnot_non, in_D, notin_D, add_int, sub_int, len_lst, len_tup, len_str, int_int, list_lst, list_tup, tuple_lst, tuple_tup, ixN_lit, subL_lit, subT_lit, setAt_cell0, lim_k, cut_from1, binK_some, cmpK_some, s_tryE, try_ret, try_next, noExc_ret, noExc_next, s_raiseE, fin_exc, out_exc, test_exc, base_attr, base_meth, base_make, e_attrE, e_methE, methR_some, e_makeE, seq_exc, ite_exc, attr_ins, meth_ins, see_ins, obD_ins, setFldE, setFldK_own, putD_nil, putD_cons, fini_next, fini_exc, calls_tb, slice_fromL, slice_toL, pow12, max_ii, bool_bl, s_setAttrE, e_attrE, look_nil, look_cons, s_setNE, newOb_lst, fresh_lst, s_appE, s_frzE, lim_lt, g2, g3, h1, h2]
theorem lt_ok {n : Nat} {a b : Row} {h : Cells} : (Fd (n + 1)).call 4 [sD a, sD b] h = .ok (.bl (ltR a b)) h := by
  rw [call_run (fn := f_Stamp___lt__) rfl rfl rfl]
  show (evSs (Fd n) gl c_Stamp___lt__ [.val (sD a), .val (sD b)] h).fin = _
  simp [c_Stamp___lt__, ss_nilE, ss_consE, seq_next, seq_ret, seq_brk, seq_cont, s_iteE, ite_ok, s_setE, s_setTE, s_exE, s_retE, s_retNE, s_passE, s_brkE, s_contE, s_setSubE, e_nonE, e_blE, e_intE, e_strE, slR_val, e_varE, e_globE, e_binE, negR_int, e_negE, e_cmpE, e_chainE, e_andE, e_orE, e_notE, e_ifeE, e_tupE, e_lstE, e_subE, e_sliceE, e_callE, e_bltE, e_bmE, e_isiE, es_nilE, es_consE, es_starE, bs_nilE, bs_consE, o_noneE, intR_int, o_someE, c_noneE, c_someE, and_oneE, and_consE, or_oneE, or_consE, i_ofE, rngR1_int, rngR2_int, i_rng1E, i_rng2E, base_varK, baseV_own, baseV_val, 
    base_cst, base_glob, base_bin, base_neg, base_cmp, base_chain, base_and, base_or, base_not, base_ife, base_tup, base_lst, base_sub, base_slice, base_call, base_blt, base_bm, base_isi, base_lc, fin_ret, fin_next, test_ok, out_ok, see0, obD_lst, truth_int, truth_lst, truth_str, lt_int, le_int, gt_int, ge_int, eq_D, ne_D, is_non, isnot_non, in_D, notin_D, add_int, sub_int, len_lst, len_tup, len_str, int_int, list_lst, list_tup, tuple_lst, tuple_tup, ixN_lit, subL_lit, subT_lit, setAt_cell0, lim_k, cut_from1, binK_some, cmpK_some, s_tryE, try_ret, try_next, noExc_ret, noExc_next, s_raiseE, fin_exc, out_exc, test_exc, base_attr, base_meth, base_make, e_attrE, e_methE, methR_some, e_makeE, seq_exc, ite_exc, attr_ins, meth_ins, see_ins, obD_ins, setFldE, setFldK_own, putD_nil, putD_cons, fini_next, fini_exc, calls_tb, slice_fromL, slice_toL, pow12, max_ii, bool_bl, s_setAttrE, e_attrE, look_nil, look_cons, s_setNE, newOb_lst, fresh_lst, s_appE, s_frzE, lim_lt, sD, tyD, ft0, ft1, lt_tt, ints2, ltR]
/-- a comparison -/
theorem lt_cmp {n : Nat} {a b : Row} {h : Cells} : cmpK (Fd (n + 1)) .lt false h (sD a) (sD b) (opC .lt (see h (sD a)) (see h (sD b))) = .ok (.bl (ltR a b)) h := by
  rw [cmp_ins (c := 0) (f := 4) rfl (by simp) rfl rfl (by rw [calls_tb]; exact otlt)]
  exact lt_ok
/-! ### the greatest count -/
def mostF (m : Int) : List Row → Int
  | [] => m
  | r :: rs => mostF (if r.1 > m then r.1 else m) rs
theorem tick_turn {n : Nat} {m : Int} {a b : Row} {v x : Sl} {h : Cells} : evSs (Fd n) gl (.cons (.set 2 (.blt .max (.cons (.var 2) (.cons (.attr (.var 3) 0) .nil)))) .nil) [.val (sD a), v, .val (.int m), .val (sD b)] h = .next [.val (sD a), v, .val (.int (if b.1 > m then b.1 else m)), .val (sD b)] h := by
  simp [ss_nilE, ss_consE, seq_next, seq_ret, seq_brk, seq_cont, s_iteE, ite_ok, s_setE, s_setTE, s_exE, s_retE, s_retNE, s_passE, s_brkE, s_contE, s_setSubE, e_nonE, e_blE, e_intE, e_strE, slR_val, e_varE, e_globE, e_binE, negR_int, e_negE, e_cmpE, e_chainE, e_andE, e_orE, e_notE, e_ifeE, e_tupE, e_lstE, e_subE, e_sliceE, e_callE, e_bltE, e_bmE, e_isiE, es_nilE, es_consE, es_starE, bs_nilE, bs_consE, o_noneE, intR_int, o_someE, c_noneE, c_someE, and_oneE, and_consE, or_oneE, or_consE, i_ofE, rngR1_int, rngR2_int, i_rng1E, i_rng2E, base_varK, baseV_own, baseV_val, 
    base_cst, base_glob, base_bin, base_neg, base_cmp, base_chain, base_and, base_or, base_not, base_ife, base_tup, base_lst, base_sub, base_slice, base_call, base_blt, base_bm, base_isi, base_lc, fin_ret, fin_next, test_ok, out_ok, see0, obD_lst, truth_int, truth_lst, truth_str, lt_int, le_int, gt_int, ge_int, eq_D, ne_D, is_non, isnot_non, in_D, notin_D, add_int, sub_int, len_lst, len_tup, len_str, int_int, list_lst, list_tup, tuple_lst, tuple_tup, ixN_lit, subL_lit, subT_lit, setAt_cell0, lim_k, cut_from1, binK_some, cmpK_some, s_tryE, try_ret, try_next, noExc_ret, noExc_next, s_raiseE, fin_exc, out_exc, test_exc, base_attr, base_meth, base_make, e_attrE, e_methE, methR_some, e_makeE, seq_exc, ite_exc, attr_ins, meth_ins, see_ins, obD_ins, setFldE, setFldK_own, putD_nil, putD_cons, fini_next, fini_exc, calls_tb, slice_fromL, slice_toL, pow12, max_ii, bool_bl, s_setAttrE, e_attrE, look_nil, look_cons, s_setNE, newOb_lst, fresh_lst, s_appE, s_frzE, lim_lt, sD, ft0]
theorem tick_loop {n : Nat} {a : Row} {v : Sl} {h : Cells} : ∀ (rs : List Row) (m : Int) (x : Sl), ∃ x', forGo (.name 3) (evSs (Fd n) gl (.cons (.set 2 (.blt .max (.cons (.var 2) (.cons (.attr (.var 3) 0) .nil)))) .nil)) (rs.map sD) [.val (sD a), v, .val (.int m), x] h = .next [.val (sD a), v, .val (.int (mostF m rs)), x'] h
  | [], m, x => ⟨x, rfl⟩
  | r :: rs, m, x => by
    obtain ⟨x', hx⟩ := tick_loop (n := n) (a := a) (v := v) (h := h) rs (if r.1 > m then r.1 else m) (.val (sD r))
    refine ⟨x', ?_⟩
    rw [List.map_cons]
    unfold forGo
    simp only [bindT_name, List.set_cons_succ, List.set_cons_zero]
    rw [tick_turn (x := x)]
    exact hx
theorem mostF_le : ∀ (rs : List Row) (m : Int), m ≤ mostF m rs ∧ ∀ r ∈ rs, r.1 ≤ mostF m rs
  | [], m => ⟨Int.le_refl _, fun _ h => nomatch h⟩
  | r :: rs, m => by
    obtain ⟨h1, h2⟩ := mostF_le rs (if r.1 > m then r.1 else m)
    refine ⟨?_, fun x hx => ?_⟩
    · show m ≤ mostF (if r.1 > m then r.1 else m) rs
      split at h1 <;> (rename_i q; simp only [q, if_true, if_false] at h1 ⊢; omega)
    · show x.1 ≤ mostF (if r.1 > m then r.1 else m) rs
      rcases List.mem_cons.mp hx with rfl | hx
      · split at h1 <;> (rename_i q; simp only [q, if_true, if_false] at h1 ⊢; omega)
      · exact h2 x hx
theorem mostF_top : ∀ (rs : List Row) (m b : Int), m ≤ b → (∀ r ∈ rs, r.1 ≤ b) → mostF m rs ≤ b
  | [], m, b, h, _ => h
  | r :: rs, m, b, h, hr => by
    refine mostF_top rs _ b ?_ fun x hx => hr x (List.mem_cons_of_mem _ hx)
    have := hr r (List.mem_cons_self ..)
    split <;> omega
/-- what tick gives -/
def tickR (a : Row) (rs : List Row) (h : Cells) : Res D := if mostF a.1 rs + 1 ≤ 1000000000000 then .ok (sD (mostF a.1 rs + 1, a.2)) h else .exc ⟨2, []⟩ h
theorem tick_ok {n : Nat} {a : Row} {rs : List Row} {h : Cells} (ha : okR a) (hl : rs.length ≤ 100) : (Fd (n + 2)).call 9 (sD a :: rs.map sD) h = tickR a rs h := by
  rw [call_va (fn := f_Stamp_tick) rfl rfl (by simp [f_Stamp_tick]) (by simp [LIM]; omega)]
  show (evSs (Fd (n + 1)) gl c_Stamp_tick [.val (sD a), .val (.tup (rs.map sD)), .no, .no] h).fin = _
  obtain ⟨x', hx⟩ := tick_loop (n := n + 1) (a := a) (v := .val (.tup (rs.map sD))) (h := h) rs a.1 .no
  obtain ⟨h1, h2, h3, h4⟩ := ha
  have hm := (mostF_le rs a.1).1
  unfold tickR
  by_cases hc : mostF a.1 rs + 1 ≤ 1000000000000
  · rw [if_pos hc]
    have hi := ini_ok (n := n) (c := mostF a.1 rs + 1) (p := a.2) (h := h) ⟨by show 0 ≤ mostF a.1 rs + 1; omega, hc, h3, h4⟩
    have e0 : evE (Fd (n + 1)) gl [.val (sD a), .val (.tup (rs.map sD)), .no, .no] (.attr (.var 0) 0) h = .ok (.int a.1) h := by simp [ss_nilE, ss_consE, seq_next, seq_ret, seq_brk, seq_cont, s_iteE, ite_ok, s_setE, s_setTE, s_exE, s_retE, s_retNE, s_passE, s_brkE, s_contE, s_setSubE, e_nonE, e_blE, e_intE, e_strE, slR_val, e_varE, e_globE, e_binE, negR_int, e_negE, e_cmpE, e_chainE, e_andE, e_orE, e_notE, e_ifeE, e_tupE, e_lstE, e_subE, e_sliceE, e_callE, e_bltE, e_bmE, e_isiE, es_nilE, es_consE, es_starE, bs_nilE, bs_consE, o_noneE, intR_int, o_someE, c_noneE, c_someE, and_oneE, and_consE, or_oneE, or_consE, i_ofE, rngR1_int, rngR2_int, i_rng1E, i_rng2E, base_varK, baseV_own, baseV_val, 
    base_cst, base_glob, base_bin, base_neg, base_cmp, base_chain, base_and, base_or, base_not, base_ife, base_tup, base_lst, base_sub, base_slice, base_call, base_blt, base_bm, base_isi, base_lc, fin_ret, fin_next, test_ok, out_ok, see0, obD_lst, truth_int, truth_lst, truth_str, lt_int, le_int, gt_int, ge_int, eq_D, ne_D, is_non, isnot_non, in_D, notin_D, add_int, sub_int, len_lst, len_tup, len_str, int_int, list_lst, list_tup, tuple_lst, tuple_tup, ixN_lit, subL_lit, subT_lit, setAt_cell0, lim_k, cut_from1, binK_some, cmpK_some, s_tryE, try_ret, try_next, noExc_ret, noExc_next, s_raiseE, fin_exc, out_exc, test_exc, base_attr, base_meth, base_make, e_attrE, e_methE, methR_some, e_makeE, seq_exc, ite_exc, attr_ins, meth_ins, see_ins, obD_ins, setFldE, setFldK_own, putD_nil, putD_cons, fini_next, fini_exc, calls_tb, slice_fromL, slice_toL, pow12, max_ii, bool_bl, s_setAttrE, e_attrE, look_nil, look_cons, s_setNE, newOb_lst, fresh_lst, s_appE, s_frzE, lim_lt, sD, ft0]
    have e1 : evE (Fd (n + 1)) gl [.val (sD a), .val (.tup (rs.map sD)), .val (.int (mostF a.1 rs)), x'] (.make 0 (.cons (.bin .add (.var 2) (.cst (.int 1))) (.cons (.attr (.var 0) 1) .nil))) h = .ok (sD (mostF a.1 rs + 1, a.2)) h := by
      simp [ss_nilE, ss_consE, seq_next, seq_ret, seq_brk, seq_cont, s_iteE, ite_ok, s_setE, s_setTE, s_exE, s_retE, s_retNE, s_passE, s_brkE, s_contE, s_setSubE, e_nonE, e_blE, e_intE, e_strE, slR_val, e_varE, e_globE, e_binE, negR_int, e_negE, e_cmpE, e_chainE, e_andE, e_orE, e_notE, e_ifeE, e_tupE, e_lstE, e_subE, e_sliceE, e_callE, e_bltE, e_bmE, e_isiE, es_nilE, es_consE, es_starE, bs_nilE, bs_consE, o_noneE, intR_int, o_someE, c_noneE, c_someE, and_oneE, and_consE, or_oneE, or_consE, i_ofE, rngR1_int, rngR2_int, i_rng1E, i_rng2E, base_varK, baseV_own, baseV_val, 
    base_cst, base_glob, base_bin, base_neg, base_cmp, base_chain, base_and, base_or, base_not, base_ife, base_tup, base_lst, base_sub, base_slice, base_call, base_blt, base_bm, base_isi, base_lc, fin_ret, fin_next, test_ok, out_ok, see0, obD_lst, truth_int, truth_lst, truth_str, lt_int, le_int, gt_int, ge_int, eq_D, ne_D, is_non, isnot_non, in_D, notin_D, add_int, sub_int, len_lst, len_tup, len_str, int_int, list_lst, list_tup, tuple_lst, tuple_tup, ixN_lit, subL_lit, subT_lit, setAt_cell0, lim_k, cut_from1, binK_some, cmpK_some, s_tryE, try_ret, try_next, noExc_ret, noExc_next, s_raiseE, fin_exc, out_exc, test_exc, base_attr, base_meth, base_make, e_attrE, e_methE, methR_some, e_makeE, seq_exc, ite_exc, attr_ins, meth_ins, see_ins, obD_ins, setFldE, setFldK_own, putD_nil, putD_cons, fini_next, fini_exc, calls_tb, slice_fromL, slice_toL, pow12, max_ii, bool_bl, s_setAttrE, e_attrE, look_nil, look_cons, s_setNE, newOb_lst, fresh_lst, s_appE, s_frzE, lim_lt, sD, ft1, hi]
    have e2 : evI (Fd (n + 1)) gl [.val (sD a), .val (.tup (rs.map sD)), .val (.int a.1), .no] (.of (.var 1)) h = .ok (rs.map sD) h := by simp [ss_nilE, ss_consE, seq_next, seq_ret, seq_brk, seq_cont, s_iteE, ite_ok, s_setE, s_setTE, s_exE, s_retE, s_retNE, s_passE, s_brkE, s_contE, s_setSubE, e_nonE, e_blE, e_intE, e_strE, slR_val, e_varE, e_globE, e_binE, negR_int, e_negE, e_cmpE, e_chainE, e_andE, e_orE, e_notE, e_ifeE, e_tupE, e_lstE, e_subE, e_sliceE, e_callE, e_bltE, e_bmE, e_isiE, es_nilE, es_consE, es_starE, bs_nilE, bs_consE, o_noneE, intR_int, o_someE, c_noneE, c_someE, and_oneE, and_consE, or_oneE, or_consE, i_ofE, rngR1_int, rngR2_int, i_rng1E, i_rng2E, base_varK, baseV_own, baseV_val, 
    base_cst, base_glob, base_bin, base_neg, base_cmp, base_chain, base_and, base_or, base_not, base_ife, base_tup, base_lst, base_sub, base_slice, base_call, base_blt, base_bm, base_isi, base_lc, fin_ret, fin_next, test_ok, out_ok, see0, obD_lst, truth_int, truth_lst, truth_str, lt_int, le_int, gt_int, ge_int, eq_D, ne_D, is_non, isnot_non, in_D, notin_D, add_int, sub_int, len_lst, len_tup, len_str, int_int, list_lst, list_tup, tuple_lst, tuple_tup, ixN_lit, subL_lit, subT_lit, setAt_cell0, lim_k, cut_from1, binK_some, cmpK_some, s_tryE, try_ret, try_next, noExc_ret, noExc_next, s_raiseE, fin_exc, out_exc, test_exc, base_attr, base_meth, base_make, e_attrE, e_methE, methR_some, e_makeE, seq_exc, ite_exc, attr_ins, meth_ins, see_ins, obD_ins, setFldE, setFldK_own, putD_nil, putD_cons, fini_next, fini_exc, calls_tb, slice_fromL, slice_toL, pow12, max_ii, bool_bl, s_setAttrE, e_attrE, look_nil, look_cons, s_setNE, newOb_lst, fresh_lst, s_appE, s_frzE, lim_lt, itemsD]
    simp only [c_Stamp_tick, ss_consE, s_setE, e0, out_ok, seq_next, List.set_cons_succ, List.set_cons_zero, s_forE, e2, hx, s_retE, e1, seq_ret, fin_ret]
  · rw [if_neg hc]
    have hi := ini_bad (n := n) (c := mostF a.1 rs + 1) (p := a.2) (h := h) (by omega)
    have e0 : evE (Fd (n + 1)) gl [.val (sD a), .val (.tup (rs.map sD)), .no, .no] (.attr (.var 0) 0) h = .ok (.int a.1) h := by simp [ss_nilE, ss_consE, seq_next, seq_ret, seq_brk, seq_cont, s_iteE, ite_ok, s_setE, s_setTE, s_exE, s_retE, s_retNE, s_passE, s_brkE, s_contE, s_setSubE, e_nonE, e_blE, e_intE, e_strE, slR_val, e_varE, e_globE, e_binE, negR_int, e_negE, e_cmpE, e_chainE, e_andE, e_orE, e_notE, e_ifeE, e_tupE, e_lstE, e_subE, e_sliceE, e_callE, e_bltE, e_bmE, e_isiE, es_nilE, es_consE, es_starE, bs_nilE, bs_consE, o_noneE, intR_int, o_someE, c_noneE, c_someE, and_oneE, and_consE, or_oneE, or_consE, i_ofE, rngR1_int, rngR2_int, i_rng1E, i_rng2E, base_varK, baseV_own, baseV_val, 
    base_cst, base_glob, base_bin, base_neg, base_cmp, base_chain, base_and, base_or, base_not, base_ife, base_tup, base_lst, base_sub, base_slice, base_call, base_blt, base_bm, base_isi, base_lc, fin_ret, fin_next, test_ok, out_ok, see0, obD_lst, truth_int, truth_lst, truth_str, lt_int, le_int, gt_int, ge_int, eq_D, ne_D, is_non, isnot_non, in_D, notin_D, add_int, sub_int, len_lst, len_tup, len_str, int_int, list_lst, list_tup, tuple_lst, tuple_tup, ixN_lit, subL_lit, subT_lit, setAt_cell0, lim_k, cut_from1, binK_some, cmpK_some, s_tryE, try_ret, try_next, noExc_ret, noExc_next, s_raiseE, fin_exc, out_exc, test_exc, base_attr, base_meth, base_make, e_attrE, e_methE, methR_some, e_makeE, seq_exc, ite_exc, attr_ins, meth_ins, see_ins, obD_ins, setFldE, setFldK_own, putD_nil, putD_cons, fini_next, fini_exc, calls_tb, slice_fromL, slice_toL, pow12, max_ii, bool_bl, s_setAttrE, e_attrE, look_nil, look_cons, s_setNE, newOb_lst, fresh_lst, s_appE, s_frzE, lim_lt, sD, ft0]
    have e1 : evE (Fd (n + 1)) gl [.val (sD a), .val (.tup (rs.map sD)), .val (.int (mostF a.1 rs)), x'] (.make 0 (.cons (.bin .add (.var 2) (.cst (.int 1))) (.cons (.attr (.var 0) 1) .nil))) h = .exc ⟨2, []⟩ h := by
      simp [ss_nilE, ss_consE, seq_next, seq_ret, seq_brk, seq_cont, s_iteE, ite_ok, s_setE, s_setTE, s_exE, s_retE, s_retNE, s_passE, s_brkE, s_contE, s_setSubE, e_nonE, e_blE, e_intE, e_strE, slR_val, e_varE, e_globE, e_binE, negR_int, e_negE, e_cmpE, e_chainE, e_andE, e_orE, e_notE, e_ifeE, e_tupE, e_lstE, e_subE, e_sliceE, e_callE, e_bltE, e_bmE, e_isiE, es_nilE, es_consE, es_starE, bs_nilE, bs_consE, o_noneE, intR_int, o_someE, c_noneE, c_someE, and_oneE, and_consE, or_oneE, or_consE, i_ofE, rngR1_int, rngR2_int, i_rng1E, i_rng2E, base_varK, baseV_own, baseV_val, 
    base_cst, base_glob, base_bin, base_neg, base_cmp, base_chain, base_and, base_or, base_not, base_ife, base_tup, base_lst, base_sub, base_slice, base_call, base_blt, base_bm, base_isi, base_lc, fin_ret, fin_next, test_ok, out_ok, see0, obD_lst, truth_int, truth_lst, truth_str, lt_int, le_int, gt_int, ge_int, eq_D, ne_D, is_non, isnot_non, in_D, notin_D, add_int, sub_int, len_lst, len_tup, len_str, int_int, list_lst, list_tup, tuple_lst, tuple_tup, ixN_lit, subL_lit, subT_lit, setAt_cell0, lim_k, cut_from1, binK_some, cmpK_some, s_tryE, try_ret, try_next, noExc_ret, noExc_next, s_raiseE, fin_exc, out_exc, test_exc, base_attr, base_meth, base_make, e_attrE, e_methE, methR_some, e_makeE, seq_exc, ite_exc, attr_ins, meth_ins, see_ins, obD_ins, setFldE, setFldK_own, putD_nil, putD_cons, fini_next, fini_exc, calls_tb, slice_fromL, slice_toL, pow12, max_ii, bool_bl, s_setAttrE, e_attrE, look_nil, look_cons, s_setNE, newOb_lst, fresh_lst, s_appE, s_frzE, lim_lt, sD, ft1, hi]
    have e2 : evI (Fd (n + 1)) gl [.val (sD a), .val (.tup (rs.map sD)), .val (.int a.1), .no] (.of (.var 1)) h = .ok (rs.map sD) h := by simp [ss_nilE, ss_consE, seq_next, seq_ret, seq_brk, seq_cont, s_iteE, ite_ok, s_setE, s_setTE, s_exE, s_retE, s_retNE, s_passE, s_brkE, s_contE, s_setSubE, e_nonE, e_blE, e_intE, e_strE, slR_val, e_varE, e_globE, e_binE, negR_int, e_negE, e_cmpE, e_chainE, e_andE, e_orE, e_notE, e_ifeE, e_tupE, e_lstE, e_subE, e_sliceE, e_callE, e_bltE, e_bmE, e_isiE, es_nilE, es_consE, es_starE, bs_nilE, bs_consE, o_noneE, intR_int, o_someE, c_noneE, c_someE, and_oneE, and_consE, or_oneE, or_consE, i_ofE, rngR1_int, rngR2_int, i_rng1E, i_rng2E, base_varK, baseV_own, baseV_val, 
    base_cst, base_glob, base_bin, base_neg, base_cmp, base_chain, base_and, base_or, base_not, base_ife, base_tup, base_lst, base_sub, base_slice, base_call, base_blt, base_bm, base_isi, base_lc, fin_ret, fin_next, test_ok, out_ok, see0, obD_lst, truth_int, truth_lst, truth_str, lt_int, le_int, gt_int, ge_int, eq_D, ne_D, is_non, isnot_non, in_D, notin_D, add_int, sub_int, len_lst, len_tup, len_str, int_int, list_lst, list_tup, tuple_lst, tuple_tup, ixN_lit, subL_lit, subT_lit, setAt_cell0, lim_k, cut_from1, binK_some, cmpK_some, s_tryE, try_ret, try_next, noExc_ret, noExc_next, s_raiseE, fin_exc, out_exc, test_exc, base_attr, base_meth, base_make, e_attrE, e_methE, methR_some, e_makeE, seq_exc, ite_exc, attr_ins, meth_ins, see_ins, obD_ins, setFldE, setFldK_own, putD_nil, putD_cons, fini_next, fini_exc, calls_tb, slice_fromL, slice_toL, pow12, max_ii, bool_bl, s_setAttrE, e_attrE, look_nil, look_cons, s_setNE, newOb_lst, fresh_lst, s_appE, s_frzE, lim_lt, itemsD]
    simp only [c_Stamp_tick, ss_consE, s_setE, e0, out_ok, seq_next, List.set_cons_succ, List.set_cons_zero, s_forE, e2, hx, s_retE, e1, out_exc, seq_exc, fin_exc]
end K04
set_option Elab.async false
set_option linter.all false
set_option maxRecDepth 100000
set_option maxHeartbeats 4000000
namespace K04
open PySem L2 Rf
theorem see_sD (h : Cells) (a : Row) : see h (sD a) = sD a := nd rfl
theorem see_rD (h : Cells) (a : Row) : see h (rD a) = rD a := nd rfl
theorem meth_sD (a : Row) : methD pr.tb (sD a) 2 = some 9 := nd rfl
theorem ltR_iff (a b : Row) : ltR a b = (decide (a.1 < b.1) || (decide (a.1 = b.1) && decide (a.2 < b.2))) := by
  unfold ltR
  show (if a.1 = b.1 then (if a.2 = b.2 then false else decide (a.2 < b.2)) else decide (a.1 < b.1)) = _
  by_cases h1 : a.1 = b.1
  · rw [if_pos h1, h1]
    by_cases h2 : a.2 = b.2
    · rw [if_pos h2, h2]; simp
    · rw [if_neg h2]; simp
  · rw [if_neg h1]; simp [h1]
/-! ### the latest -/
def better (o : Option Row) (r : Row) : Option Row := match o with
  | none => some r
  | some b => if ltR b r then some r else some b
def bestF (o : Option Row) (rs : List Row) : Option Row := rs.foldl better o
def oS : Option Row → D
  | none => .non
  | some r => sD r
def oR : Option Row → D
  | none => .non
  | some r => rD r
def cLat : CSs := .cons (.ite (.or (.cons (.cmp .is (.var 1) (.cst .non)) (.cons (.cmp .lt (.var 1) (.var 2)) .nil))) (.cons (.set 1 (.var 2)) .nil) .nil) .nil
theorem isNon_sD (a : Row) : isNon (sD a) = false := nd rfl
theorem lat_turn {n : Nat} {o : Option Row} {r : Row} {v : D} {h : Cells} : evSs (Fd (n + 1)) gl cLat [.val v, .val (oS o), .val (sD r)] h = .next [.val v, .val (oS (better o r)), .val (sD r)] h := by
  cases o with
  | none => simp [cLat, ss_nilE, ss_consE, seq_next, seq_ret, seq_brk, seq_cont, s_iteE, ite_ok, s_setE, s_setTE, s_exE, s_retE, s_retNE, s_passE, s_brkE, s_contE, s_setSubE, e_nonE, e_blE, e_intE, e_strE, slR_val, e_varE, e_globE, e_binE, negR_int, e_negE, e_cmpE, e_chainE, e_andE, e_orE, e_notE, e_ifeE, e_tupE, e_lstE, e_subE, e_sliceE, e_callE, e_bltE, e_bmE, e_isiE, es_nilE, es_consE, es_starE, bs_nilE, bs_consE, o_noneE, intR_int, o_someE, c_noneE, c_someE, and_oneE, and_consE, or_oneE, or_consE, i_ofE, rngR1_int, rngR2_int, i_rng1E, i_rng2E, base_varK, baseV_own, baseV_val, 
    base_cst, base_glob, base_bin, base_neg, base_cmp, base_chain, base_and, base_or, base_not, base_ife, base_tup, base_lst, base_sub, base_slice, base_call, base_blt, base_bm, base_isi, base_lc, fin_ret, fin_next, test_ok, out_ok, see0, obD_lst, truth_int, truth_lst, truth_str, lt_int, le_int, gt_int, ge_int, eq_D, ne_D, is_non, isnot_non, in_D, notin_D, add_int, sub_int, len_lst, len_tup, len_str, int_int, list_lst, list_tup, tuple_lst, tuple_tup, ixN_lit, subL_lit, subT_lit, setAt_cell0, lim_k, cut_from1, binK_some, cmpK_some, s_tryE, try_ret, try_next, noExc_ret, noExc_next, s_raiseE, fin_exc, out_exc, test_exc, base_attr, base_meth, base_make, e_attrE, e_methE, methR_some, e_makeE, seq_exc, ite_exc, attr_ins, meth_ins, see_ins, obD_ins, setFldE, setFldK_own, putD_nil, putD_cons, fini_next, fini_exc, calls_tb, slice_fromL, slice_toL, pow12, max_ii, bool_bl, s_setAttrE, e_attrE, look_nil, look_cons, s_setNE, newOb_lst, fresh_lst, s_appE, s_frzE, lim_lt, oS, better, Rf.isNon]
  | some b =>
    have e := lt_cmp (n := n) (a := b) (b := r) (h := h)
    rw [see_sD, see_sD] at e
    cases q : ltR b r with
    | true =>
      rw [q] at e
      simp [cLat, ss_nilE, ss_consE, seq_next, seq_ret, seq_brk, seq_cont, s_iteE, ite_ok, s_setE, s_setTE, s_exE, s_retE, s_retNE, s_passE, s_brkE, s_contE, s_setSubE, e_nonE, e_blE, e_intE, e_strE, slR_val, e_varE, e_globE, e_binE, negR_int, e_negE, e_cmpE, e_chainE, e_andE, e_orE, e_notE, e_ifeE, e_tupE, e_lstE, e_subE, e_sliceE, e_callE, e_bltE, e_bmE, e_isiE, es_nilE, es_consE, es_starE, bs_nilE, bs_consE, o_noneE, intR_int, o_someE, c_noneE, c_someE, and_oneE, and_consE, or_oneE, or_consE, i_ofE, rngR1_int, rngR2_int, i_rng1E, i_rng2E, base_varK, baseV_own, baseV_val, 
    base_cst, base_glob, base_bin, base_neg, base_cmp, base_chain, base_and, base_or, base_not, base_ife, base_tup, base_lst, base_sub, base_slice, base_call, base_blt, base_bm, base_isi, base_lc, fin_ret, fin_next, test_ok, out_ok, see0, obD_lst, truth_int, truth_lst, truth_str, lt_int, le_int, gt_int, ge_int, eq_D, ne_D, is_non, isnot_non, in_D, notin_D, add_int, sub_int, len_lst, len_tup, len_str, int_int, list_lst, list_tup, tuple_lst, tuple_tup, ixN_lit, subL_lit, subT_lit, setAt_cell0, lim_k, cut_from1, binK_some, cmpK_some, s_tryE, try_ret, try_next, noExc_ret, noExc_next, s_raiseE, fin_exc, out_exc, test_exc, base_attr, base_meth, base_make, e_attrE, e_methE, methR_some, e_makeE, seq_exc, ite_exc, attr_ins, meth_ins, see_ins, obD_ins, setFldE, setFldK_own, putD_nil, putD_cons, fini_next, fini_exc, calls_tb, slice_fromL, slice_toL, pow12, max_ii, bool_bl, s_setAttrE, e_attrE, look_nil, look_cons, s_setNE, newOb_lst, fresh_lst, s_appE, s_frzE, lim_lt, oS, better, isNon_sD, q, see_sD, isOwn, e]
    | false =>
      rw [q] at e
      simp [cLat, ss_nilE, ss_consE, seq_next, seq_ret, seq_brk, seq_cont, s_iteE, ite_ok, s_setE, s_setTE, s_exE, s_retE, s_retNE, s_passE, s_brkE, s_contE, s_setSubE, e_nonE, e_blE, e_intE, e_strE, slR_val, e_varE, e_globE, e_binE, negR_int, e_negE, e_cmpE, e_chainE, e_andE, e_orE, e_notE, e_ifeE, e_tupE, e_lstE, e_subE, e_sliceE, e_callE, e_bltE, e_bmE, e_isiE, es_nilE, es_consE, es_starE, bs_nilE, bs_consE, o_noneE, intR_int, o_someE, c_noneE, c_someE, and_oneE, and_consE, or_oneE, or_consE, i_ofE, rngR1_int, rngR2_int, i_rng1E, i_rng2E, base_varK, baseV_own, baseV_val, 
    base_cst, base_glob, base_bin, base_neg, base_cmp, base_chain, base_and, base_or, base_not, base_ife, base_tup, base_lst, base_sub, base_slice, base_call, base_blt, base_bm, base_isi, base_lc, fin_ret, fin_next, test_ok, out_ok, see0, obD_lst, truth_int, truth_lst, truth_str, lt_int, le_int, gt_int, ge_int, eq_D, ne_D, is_non, isnot_non, in_D, notin_D, add_int, sub_int, len_lst, len_tup, len_str, int_int, list_lst, list_tup, tuple_lst, tuple_tup, ixN_lit, subL_lit, subT_lit, setAt_cell0, lim_k, cut_from1, binK_some, cmpK_some, s_tryE, try_ret, try_next, noExc_ret, noExc_next, s_raiseE, fin_exc, out_exc, test_exc, base_attr, base_meth, base_make, e_attrE, e_methE, methR_some, e_makeE, seq_exc, ite_exc, attr_ins, meth_ins, see_ins, obD_ins, setFldE, setFldK_own, putD_nil, putD_cons, fini_next, fini_exc, calls_tb, slice_fromL, slice_toL, pow12, max_ii, bool_bl, s_setAttrE, e_attrE, look_nil, look_cons, s_setNE, newOb_lst, fresh_lst, s_appE, s_frzE, lim_lt, oS, better, isNon_sD, q, see_sD, isOwn, e]
theorem lat_loop {n : Nat} {v : D} {h : Cells} : ∀ (rs : List Row) (o : Option Row) (x : Sl), ∃ x', forGo (.name 2) (evSs (Fd (n + 1)) gl cLat) (rs.map sD) [.val v, .val (oS o), x] h = .next [.val v, .val (oS (bestF o rs)), x'] h
  | [], o, x => ⟨x, rfl⟩
  | r :: rs, o, x => by
    obtain ⟨x', hx⟩ := lat_loop (n := n) (v := v) (h := h) rs (better o r) (.val (sD r))
    refine ⟨x', ?_⟩
    rw [List.map_cons]
    unfold forGo
    simp only [bindT_name, List.set_cons_succ, List.set_cons_zero]
    rw [lat_turn]
    exact hx
theorem latest_ok {n : Nat} {rs : List Row} {h : Cells} (hl : rs.length ≤ 100) : (Fd (n + 2)).call 10 (rs.map sD) h = .ok (oS (bestF none rs)) h := by
  rw [call_va (fn := f_latest) rfl rfl (by simp [f_latest]) (by simp [LIM]; omega)]
  show (evSs (Fd (n + 1)) gl c_latest [.val (.tup (rs.map sD)), .no, .no] h).fin = _
  obtain ⟨x', hx⟩ := lat_loop (n := n) (v := .tup (rs.map sD)) (h := h) rs none .no
  unfold cLat at hx
  have e2 : evI (Fd (n + 1)) gl [.val (.tup (rs.map sD)), .val .non, .no] (.of (.var 0)) h = .ok (rs.map sD) h := by simp [ss_nilE, ss_consE, seq_next, seq_ret, seq_brk, seq_cont, s_iteE, ite_ok, s_setE, s_setTE, s_exE, s_retE, s_retNE, s_passE, s_brkE, s_contE, s_setSubE, e_nonE, e_blE, e_intE, e_strE, slR_val, e_varE, e_globE, e_binE, negR_int, e_negE, e_cmpE, e_chainE, e_andE, e_orE, e_notE, e_ifeE, e_tupE, e_lstE, e_subE, e_sliceE, e_callE, e_bltE, e_bmE, e_isiE, es_nilE, es_consE, es_starE, bs_nilE, bs_consE, o_noneE, intR_int, o_someE, c_noneE, c_someE, and_oneE, and_consE, or_oneE, or_consE, i_ofE, rngR1_int, rngR2_int, i_rng1E, i_rng2E, base_varK, baseV_own, baseV_val, 
    base_cst, base_glob, base_bin, base_neg, base_cmp, base_chain, base_and, base_or, base_not, base_ife, base_tup, base_lst, base_sub, base_slice, base_call, base_blt, base_bm, base_isi, base_lc, fin_ret, fin_next, test_ok, out_ok, see0, obD_lst, truth_int, truth_lst, truth_str, lt_int, le_int, gt_int, ge_int, eq_D, ne_D, is_non, isnot_non, in_D, notin_D, add_int, sub_int, len_lst, len_tup, len_str, int_int, list_lst, list_tup, tuple_lst, tuple_tup, ixN_lit, subL_lit, subT_lit, setAt_cell0, lim_k, cut_from1, binK_some, cmpK_some, s_tryE, try_ret, try_next, noExc_ret, noExc_next, s_raiseE, fin_exc, out_exc, test_exc, base_attr, base_meth, base_make, e_attrE, e_methE, methR_some, e_makeE, seq_exc, ite_exc, attr_ins, meth_ins, see_ins, obD_ins, setFldE, setFldK_own, putD_nil, putD_cons, fini_next, fini_exc, calls_tb, slice_fromL, slice_toL, pow12, max_ii, bool_bl, s_setAttrE, e_attrE, look_nil, look_cons, s_setNE, newOb_lst, fresh_lst, s_appE, s_frzE, lim_lt, itemsD]
  simp only [c_latest, ss_consE, s_setE, e_nonE, out_ok, seq_next, List.set_cons_succ, List.set_cons_zero, s_forE, e2]
  rw [show (D.non) = oS none from rfl, hx]
  simp [ss_nilE, ss_consE, seq_next, seq_ret, seq_brk, seq_cont, s_iteE, ite_ok, s_setE, s_setTE, s_exE, s_retE, s_retNE, s_passE, s_brkE, s_contE, s_setSubE, e_nonE, e_blE, e_intE, e_strE, slR_val, e_varE, e_globE, e_binE, negR_int, e_negE, e_cmpE, e_chainE, e_andE, e_orE, e_notE, e_ifeE, e_tupE, e_lstE, e_subE, e_sliceE, e_callE, e_bltE, e_bmE, e_isiE, es_nilE, es_consE, es_starE, bs_nilE, bs_consE, o_noneE, intR_int, o_someE, c_noneE, c_someE, and_oneE, and_consE, or_oneE, or_consE, i_ofE, rngR1_int, rngR2_int, i_rng1E, i_rng2E, base_varK, baseV_own, baseV_val, 
    base_cst, base_glob, base_bin, base_neg, base_cmp, base_chain, base_and, base_or, base_not, base_ife, base_tup, base_lst, base_sub, base_slice, base_call, base_blt, base_bm, base_isi, base_lc, fin_ret, fin_next, test_ok, out_ok, see0, obD_lst, truth_int, truth_lst, truth_str, lt_int, le_int, gt_int, ge_int, eq_D, ne_D, is_non, isnot_non, in_D, notin_D, add_int, sub_int, len_lst, len_tup, len_str, int_int, list_lst, list_tup, tuple_lst, tuple_tup, ixN_lit, subL_lit, subT_lit, setAt_cell0, lim_k, cut_from1, binK_some, cmpK_some, s_tryE, try_ret, try_next, noExc_ret, noExc_next, s_raiseE, fin_exc, out_exc, test_exc, base_attr, base_meth, base_make, e_attrE, e_methE, methR_some, e_makeE, seq_exc, ite_exc, attr_ins, meth_ins, see_ins, obD_ins, setFldE, setFldK_own, putD_nil, putD_cons, fini_next, fini_exc, calls_tb, slice_fromL, slice_toL, pow12, max_ii, bool_bl, s_setAttrE, e_attrE, look_nil, look_cons, s_setNE, newOb_lst, fresh_lst, s_appE, s_frzE, lim_lt]
/-! ### the law's parts -/
theorem fs13 : fs 13 = some (fSame 13) := rfl
theorem pln_r {n : Nat} (r : Row) : plnD (n + 1) (rD r) = true := by
  unfold rD plnD
  simp [LIM, plnD]
theorem is_stamp {n : Nat} {r : Row} {h : Cells} : (Fd (n + 4)).call 15 [sD r, rD r] h = .ok (.bl true) h := by
  rw [call_run (fn := f__law_is_stamp) rfl rfl rfl]
  show (evSs (Fd (n + 3)) gl c__law_is_stamp [.val (sD r), .val (rD r)] h).fin = _
  have e : (Fd (n + 3)).call 13 [.tup [.int r.1, .int r.2], .tup [.int r.1, .int r.2]] h = .ok (.bl true) h := same_le (m := 1) (d := rD r) fs13 (pln_r r) (by omega)
  simp [c__law_is_stamp, ss_nilE, ss_consE, seq_next, seq_ret, seq_brk, seq_cont, s_iteE, ite_ok, s_setE, s_setTE, s_exE, s_retE, s_retNE, s_passE, s_brkE, s_contE, s_setSubE, e_nonE, e_blE, e_intE, e_strE, slR_val, e_varE, e_globE, e_binE, negR_int, e_negE, e_cmpE, e_chainE, e_andE, e_orE, e_notE, e_ifeE, e_tupE, e_lstE, e_subE, e_sliceE, e_callE, e_bltE, e_bmE, e_isiE, es_nilE, es_consE, es_starE, bs_nilE, bs_consE, o_noneE, intR_int, o_someE, c_noneE, c_someE, and_oneE, and_consE, or_oneE, or_consE, i_ofE, rngR1_int, rngR2_int, i_rng1E, i_rng2E, base_varK, baseV_own, baseV_val, 
    base_cst, base_glob, base_bin, base_neg, base_cmp, base_chain, base_and, base_or, base_not, base_ife, base_tup, base_lst, base_sub, base_slice, base_call, base_blt, base_bm, base_isi, base_lc, fin_ret, fin_next, test_ok, out_ok, see0, obD_lst, truth_int, truth_lst, truth_str, lt_int, le_int, gt_int, ge_int, eq_D, ne_D, is_non, isnot_non, in_D, notin_D, add_int, sub_int, len_lst, len_tup, len_str, int_int, list_lst, list_tup, tuple_lst, tuple_tup, ixN_lit, subL_lit, subT_lit, setAt_cell0, lim_k, cut_from1, binK_some, cmpK_some, s_tryE, try_ret, try_next, noExc_ret, noExc_next, s_raiseE, fin_exc, out_exc, test_exc, base_attr, base_meth, base_make, e_attrE, e_methE, methR_some, e_makeE, seq_exc, ite_exc, attr_ins, meth_ins, see_ins, obD_ins, setFldE, setFldK_own, putD_nil, putD_cons, fini_next, fini_exc, calls_tb, slice_fromL, slice_toL, pow12, max_ii, bool_bl, s_setAttrE, e_attrE, look_nil, look_cons, s_setNE, newOb_lst, fresh_lst, s_appE, s_frzE, lim_lt, sD, rD, tyD, ft0, ft1, e]
def told (b : Bool) (r : Row) : D := if b then .tup [.str "stamp", sD r] else .tup [.str "refused", .non]
theorem ticked {n : Nat} {a : Row} {rs : List Row} {h : Cells} (ha : okR a) (hl : rs.length ≤ 4) : (Fd (n + 3)).call 16 [sD a, .lst (rs.map sD)] h = .ok (told (decide (mostF a.1 rs + 1 ≤ 1000000000000)) (mostF a.1 rs + 1, a.2)) h := by
  rw [call_run (fn := f__law_ticked) rfl rfl rfl]
  show (evSs (Fd (n + 2)) gl c__law_ticked [.val (sD a), .val (.lst (rs.map sD))] h).fin = _
  have e := tick_ok (n := n) (a := a) (rs := rs) (h := h) ha (by omega)
  unfold tickR at e
  by_cases hc : mostF a.1 rs + 1 ≤ 1000000000000
  · rw [if_pos hc] at e
    rw [decide_eq_true hc]
    match rs, hl with
    | [], _ =>
      simp only [List.map_cons, List.map_nil] at e
      simp [c__law_ticked, ss_nilE, ss_consE, seq_next, seq_ret, seq_brk, seq_cont, s_iteE, ite_ok, s_setE, s_setTE, s_exE, s_retE, s_retNE, s_passE, s_brkE, s_contE, s_setSubE, e_nonE, e_blE, e_intE, e_strE, slR_val, e_varE, e_globE, e_binE, negR_int, e_negE, e_cmpE, e_chainE, e_andE, e_orE, e_notE, e_ifeE, e_tupE, e_lstE, e_subE, e_sliceE, e_callE, e_bltE, e_bmE, e_isiE, es_nilE, es_consE, es_starE, bs_nilE, bs_consE, o_noneE, intR_int, o_someE, c_noneE, c_someE, and_oneE, and_consE, or_oneE, or_consE, i_ofE, rngR1_int, rngR2_int, i_rng1E, i_rng2E, base_varK, baseV_own, baseV_val, 
    base_cst, base_glob, base_bin, base_neg, base_cmp, base_chain, base_and, base_or, base_not, base_ife, base_tup, base_lst, base_sub, base_slice, base_call, base_blt, base_bm, base_isi, base_lc, fin_ret, fin_next, test_ok, out_ok, see0, obD_lst, truth_int, truth_lst, truth_str, lt_int, le_int, gt_int, ge_int, eq_D, ne_D, is_non, isnot_non, in_D, notin_D, add_int, sub_int, len_lst, len_tup, len_str, int_int, list_lst, list_tup, tuple_lst, tuple_tup, ixN_lit, subL_lit, subT_lit, setAt_cell0, lim_k, cut_from1, binK_some, cmpK_some, s_tryE, try_ret, try_next, noExc_ret, noExc_next, s_raiseE, fin_exc, out_exc, test_exc, base_attr, base_meth, base_make, e_attrE, e_methE, methR_some, e_makeE, seq_exc, ite_exc, attr_ins, meth_ins, see_ins, obD_ins, setFldE, setFldK_own, putD_nil, putD_cons, fini_next, fini_exc, calls_tb, slice_fromL, slice_toL, pow12, max_ii, bool_bl, s_setAttrE, e_attrE, look_nil, look_cons, s_setNE, newOb_lst, fresh_lst, s_appE, s_frzE, lim_lt, see_sD, meth_sD, e, told]
    | [b], _ =>
      simp only [List.map_cons, List.map_nil] at e
      simp [c__law_ticked, ss_nilE, ss_consE, seq_next, seq_ret, seq_brk, seq_cont, s_iteE, ite_ok, s_setE, s_setTE, s_exE, s_retE, s_retNE, s_passE, s_brkE, s_contE, s_setSubE, e_nonE, e_blE, e_intE, e_strE, slR_val, e_varE, e_globE, e_binE, negR_int, e_negE, e_cmpE, e_chainE, e_andE, e_orE, e_notE, e_ifeE, e_tupE, e_lstE, e_subE, e_sliceE, e_callE, e_bltE, e_bmE, e_isiE, es_nilE, es_consE, es_starE, bs_nilE, bs_consE, o_noneE, intR_int, o_someE, c_noneE, c_someE, and_oneE, and_consE, or_oneE, or_consE, i_ofE, rngR1_int, rngR2_int, i_rng1E, i_rng2E, base_varK, baseV_own, baseV_val, 
    base_cst, base_glob, base_bin, base_neg, base_cmp, base_chain, base_and, base_or, base_not, base_ife, base_tup, base_lst, base_sub, base_slice, base_call, base_blt, base_bm, base_isi, base_lc, fin_ret, fin_next, test_ok, out_ok, see0, obD_lst, truth_int, truth_lst, truth_str, lt_int, le_int, gt_int, ge_int, eq_D, ne_D, is_non, isnot_non, in_D, notin_D, add_int, sub_int, len_lst, len_tup, len_str, int_int, list_lst, list_tup, tuple_lst, tuple_tup, ixN_lit, subL_lit, subT_lit, setAt_cell0, lim_k, cut_from1, binK_some, cmpK_some, s_tryE, try_ret, try_next, noExc_ret, noExc_next, s_raiseE, fin_exc, out_exc, test_exc, base_attr, base_meth, base_make, e_attrE, e_methE, methR_some, e_makeE, seq_exc, ite_exc, attr_ins, meth_ins, see_ins, obD_ins, setFldE, setFldK_own, putD_nil, putD_cons, fini_next, fini_exc, calls_tb, slice_fromL, slice_toL, pow12, max_ii, bool_bl, s_setAttrE, e_attrE, look_nil, look_cons, s_setNE, newOb_lst, fresh_lst, s_appE, s_frzE, lim_lt, see_sD, meth_sD, e, told]
    | [b, c], _ =>
      simp only [List.map_cons, List.map_nil] at e
      simp [c__law_ticked, ss_nilE, ss_consE, seq_next, seq_ret, seq_brk, seq_cont, s_iteE, ite_ok, s_setE, s_setTE, s_exE, s_retE, s_retNE, s_passE, s_brkE, s_contE, s_setSubE, e_nonE, e_blE, e_intE, e_strE, slR_val, e_varE, e_globE, e_binE, negR_int, e_negE, e_cmpE, e_chainE, e_andE, e_orE, e_notE, e_ifeE, e_tupE, e_lstE, e_subE, e_sliceE, e_callE, e_bltE, e_bmE, e_isiE, es_nilE, es_consE, es_starE, bs_nilE, bs_consE, o_noneE, intR_int, o_someE, c_noneE, c_someE, and_oneE, and_consE, or_oneE, or_consE, i_ofE, rngR1_int, rngR2_int, i_rng1E, i_rng2E, base_varK, baseV_own, baseV_val, 
    base_cst, base_glob, base_bin, base_neg, base_cmp, base_chain, base_and, base_or, base_not, base_ife, base_tup, base_lst, base_sub, base_slice, base_call, base_blt, base_bm, base_isi, base_lc, fin_ret, fin_next, test_ok, out_ok, see0, obD_lst, truth_int, truth_lst, truth_str, lt_int, le_int, gt_int, ge_int, eq_D, ne_D, is_non, isnot_non, in_D, notin_D, add_int, sub_int, len_lst, len_tup, len_str, int_int, list_lst, list_tup, tuple_lst, tuple_tup, ixN_lit, subL_lit, subT_lit, setAt_cell0, lim_k, cut_from1, binK_some, cmpK_some, s_tryE, try_ret, try_next, noExc_ret, noExc_next, s_raiseE, fin_exc, out_exc, test_exc, base_attr, base_meth, base_make, e_attrE, e_methE, methR_some, e_makeE, seq_exc, ite_exc, attr_ins, meth_ins, see_ins, obD_ins, setFldE, setFldK_own, putD_nil, putD_cons, fini_next, fini_exc, calls_tb, slice_fromL, slice_toL, pow12, max_ii, bool_bl, s_setAttrE, e_attrE, look_nil, look_cons, s_setNE, newOb_lst, fresh_lst, s_appE, s_frzE, lim_lt, see_sD, meth_sD, e, told]
    | [b, c, d], _ =>
      simp only [List.map_cons, List.map_nil] at e
      simp [c__law_ticked, ss_nilE, ss_consE, seq_next, seq_ret, seq_brk, seq_cont, s_iteE, ite_ok, s_setE, s_setTE, s_exE, s_retE, s_retNE, s_passE, s_brkE, s_contE, s_setSubE, e_nonE, e_blE, e_intE, e_strE, slR_val, e_varE, e_globE, e_binE, negR_int, e_negE, e_cmpE, e_chainE, e_andE, e_orE, e_notE, e_ifeE, e_tupE, e_lstE, e_subE, e_sliceE, e_callE, e_bltE, e_bmE, e_isiE, es_nilE, es_consE, es_starE, bs_nilE, bs_consE, o_noneE, intR_int, o_someE, c_noneE, c_someE, and_oneE, and_consE, or_oneE, or_consE, i_ofE, rngR1_int, rngR2_int, i_rng1E, i_rng2E, base_varK, baseV_own, baseV_val, 
    base_cst, base_glob, base_bin, base_neg, base_cmp, base_chain, base_and, base_or, base_not, base_ife, base_tup, base_lst, base_sub, base_slice, base_call, base_blt, base_bm, base_isi, base_lc, fin_ret, fin_next, test_ok, out_ok, see0, obD_lst, truth_int, truth_lst, truth_str, lt_int, le_int, gt_int, ge_int, eq_D, ne_D, is_non, isnot_non, in_D, notin_D, add_int, sub_int, len_lst, len_tup, len_str, int_int, list_lst, list_tup, tuple_lst, tuple_tup, ixN_lit, subL_lit, subT_lit, setAt_cell0, lim_k, cut_from1, binK_some, cmpK_some, s_tryE, try_ret, try_next, noExc_ret, noExc_next, s_raiseE, fin_exc, out_exc, test_exc, base_attr, base_meth, base_make, e_attrE, e_methE, methR_some, e_makeE, seq_exc, ite_exc, attr_ins, meth_ins, see_ins, obD_ins, setFldE, setFldK_own, putD_nil, putD_cons, fini_next, fini_exc, calls_tb, slice_fromL, slice_toL, pow12, max_ii, bool_bl, s_setAttrE, e_attrE, look_nil, look_cons, s_setNE, newOb_lst, fresh_lst, s_appE, s_frzE, lim_lt, see_sD, meth_sD, e, told]
    | [b, c, d, f], _ =>
      simp only [List.map_cons, List.map_nil] at e
      simp [c__law_ticked, ss_nilE, ss_consE, seq_next, seq_ret, seq_brk, seq_cont, s_iteE, ite_ok, s_setE, s_setTE, s_exE, s_retE, s_retNE, s_passE, s_brkE, s_contE, s_setSubE, e_nonE, e_blE, e_intE, e_strE, slR_val, e_varE, e_globE, e_binE, negR_int, e_negE, e_cmpE, e_chainE, e_andE, e_orE, e_notE, e_ifeE, e_tupE, e_lstE, e_subE, e_sliceE, e_callE, e_bltE, e_bmE, e_isiE, es_nilE, es_consE, es_starE, bs_nilE, bs_consE, o_noneE, intR_int, o_someE, c_noneE, c_someE, and_oneE, and_consE, or_oneE, or_consE, i_ofE, rngR1_int, rngR2_int, i_rng1E, i_rng2E, base_varK, baseV_own, baseV_val, 
    base_cst, base_glob, base_bin, base_neg, base_cmp, base_chain, base_and, base_or, base_not, base_ife, base_tup, base_lst, base_sub, base_slice, base_call, base_blt, base_bm, base_isi, base_lc, fin_ret, fin_next, test_ok, out_ok, see0, obD_lst, truth_int, truth_lst, truth_str, lt_int, le_int, gt_int, ge_int, eq_D, ne_D, is_non, isnot_non, in_D, notin_D, add_int, sub_int, len_lst, len_tup, len_str, int_int, list_lst, list_tup, tuple_lst, tuple_tup, ixN_lit, subL_lit, subT_lit, setAt_cell0, lim_k, cut_from1, binK_some, cmpK_some, s_tryE, try_ret, try_next, noExc_ret, noExc_next, s_raiseE, fin_exc, out_exc, test_exc, base_attr, base_meth, base_make, e_attrE, e_methE, methR_some, e_makeE, seq_exc, ite_exc, attr_ins, meth_ins, see_ins, obD_ins, setFldE, setFldK_own, putD_nil, putD_cons, fini_next, fini_exc, calls_tb, slice_fromL, slice_toL, pow12, max_ii, bool_bl, s_setAttrE, e_attrE, look_nil, look_cons, s_setNE, newOb_lst, fresh_lst, s_appE, s_frzE, lim_lt, see_sD, meth_sD, e, told]
    | _ :: _ :: _ :: _ :: _ :: _, hl => simp at hl
  · rw [if_neg hc] at e
    rw [decide_eq_false hc]
    match rs, hl with
    | [], _ =>
      simp only [List.map_cons, List.map_nil] at e
      simp [c__law_ticked, ss_nilE, ss_consE, seq_next, seq_ret, seq_brk, seq_cont, s_iteE, ite_ok, s_setE, s_setTE, s_exE, s_retE, s_retNE, s_passE, s_brkE, s_contE, s_setSubE, e_nonE, e_blE, e_intE, e_strE, slR_val, e_varE, e_globE, e_binE, negR_int, e_negE, e_cmpE, e_chainE, e_andE, e_orE, e_notE, e_ifeE, e_tupE, e_lstE, e_subE, e_sliceE, e_callE, e_bltE, e_bmE, e_isiE, es_nilE, es_consE, es_starE, bs_nilE, bs_consE, o_noneE, intR_int, o_someE, c_noneE, c_someE, and_oneE, and_consE, or_oneE, or_consE, i_ofE, rngR1_int, rngR2_int, i_rng1E, i_rng2E, base_varK, baseV_own, baseV_val, 
    base_cst, base_glob, base_bin, base_neg, base_cmp, base_chain, base_and, base_or, base_not, base_ife, base_tup, base_lst, base_sub, base_slice, base_call, base_blt, base_bm, base_isi, base_lc, fin_ret, fin_next, test_ok, out_ok, see0, obD_lst, truth_int, truth_lst, truth_str, lt_int, le_int, gt_int, ge_int, eq_D, ne_D, is_non, isnot_non, in_D, notin_D, add_int, sub_int, len_lst, len_tup, len_str, int_int, list_lst, list_tup, tuple_lst, tuple_tup, ixN_lit, subL_lit, subT_lit, setAt_cell0, lim_k, cut_from1, binK_some, cmpK_some, s_tryE, try_ret, try_next, noExc_ret, noExc_next, s_raiseE, fin_exc, out_exc, test_exc, base_attr, base_meth, base_make, e_attrE, e_methE, methR_some, e_makeE, seq_exc, ite_exc, attr_ins, meth_ins, see_ins, obD_ins, setFldE, setFldK_own, putD_nil, putD_cons, fini_next, fini_exc, calls_tb, slice_fromL, slice_toL, pow12, max_ii, bool_bl, s_setAttrE, e_attrE, look_nil, look_cons, s_setNE, newOb_lst, fresh_lst, s_appE, s_frzE, lim_lt, see_sD, meth_sD, e, told, try_exc, sb22]
    | [b], _ =>
      simp only [List.map_cons, List.map_nil] at e
      simp [c__law_ticked, ss_nilE, ss_consE, seq_next, seq_ret, seq_brk, seq_cont, s_iteE, ite_ok, s_setE, s_setTE, s_exE, s_retE, s_retNE, s_passE, s_brkE, s_contE, s_setSubE, e_nonE, e_blE, e_intE, e_strE, slR_val, e_varE, e_globE, e_binE, negR_int, e_negE, e_cmpE, e_chainE, e_andE, e_orE, e_notE, e_ifeE, e_tupE, e_lstE, e_subE, e_sliceE, e_callE, e_bltE, e_bmE, e_isiE, es_nilE, es_consE, es_starE, bs_nilE, bs_consE, o_noneE, intR_int, o_someE, c_noneE, c_someE, and_oneE, and_consE, or_oneE, or_consE, i_ofE, rngR1_int, rngR2_int, i_rng1E, i_rng2E, base_varK, baseV_own, baseV_val, 
    base_cst, base_glob, base_bin, base_neg, base_cmp, base_chain, base_and, base_or, base_not, base_ife, base_tup, base_lst, base_sub, base_slice, base_call, base_blt, base_bm, base_isi, base_lc, fin_ret, fin_next, test_ok, out_ok, see0, obD_lst, truth_int, truth_lst, truth_str, lt_int, le_int, gt_int, ge_int, eq_D, ne_D, is_non, isnot_non, in_D, notin_D, add_int, sub_int, len_lst, len_tup, len_str, int_int, list_lst, list_tup, tuple_lst, tuple_tup, ixN_lit, subL_lit, subT_lit, setAt_cell0, lim_k, cut_from1, binK_some, cmpK_some, s_tryE, try_ret, try_next, noExc_ret, noExc_next, s_raiseE, fin_exc, out_exc, test_exc, base_attr, base_meth, base_make, e_attrE, e_methE, methR_some, e_makeE, seq_exc, ite_exc, attr_ins, meth_ins, see_ins, obD_ins, setFldE, setFldK_own, putD_nil, putD_cons, fini_next, fini_exc, calls_tb, slice_fromL, slice_toL, pow12, max_ii, bool_bl, s_setAttrE, e_attrE, look_nil, look_cons, s_setNE, newOb_lst, fresh_lst, s_appE, s_frzE, lim_lt, see_sD, meth_sD, e, told, try_exc, sb22]
    | [b, c], _ =>
      simp only [List.map_cons, List.map_nil] at e
      simp [c__law_ticked, ss_nilE, ss_consE, seq_next, seq_ret, seq_brk, seq_cont, s_iteE, ite_ok, s_setE, s_setTE, s_exE, s_retE, s_retNE, s_passE, s_brkE, s_contE, s_setSubE, e_nonE, e_blE, e_intE, e_strE, slR_val, e_varE, e_globE, e_binE, negR_int, e_negE, e_cmpE, e_chainE, e_andE, e_orE, e_notE, e_ifeE, e_tupE, e_lstE, e_subE, e_sliceE, e_callE, e_bltE, e_bmE, e_isiE, es_nilE, es_consE, es_starE, bs_nilE, bs_consE, o_noneE, intR_int, o_someE, c_noneE, c_someE, and_oneE, and_consE, or_oneE, or_consE, i_ofE, rngR1_int, rngR2_int, i_rng1E, i_rng2E, base_varK, baseV_own, baseV_val, 
    base_cst, base_glob, base_bin, base_neg, base_cmp, base_chain, base_and, base_or, base_not, base_ife, base_tup, base_lst, base_sub, base_slice, base_call, base_blt, base_bm, base_isi, base_lc, fin_ret, fin_next, test_ok, out_ok, see0, obD_lst, truth_int, truth_lst, truth_str, lt_int, le_int, gt_int, ge_int, eq_D, ne_D, is_non, isnot_non, in_D, notin_D, add_int, sub_int, len_lst, len_tup, len_str, int_int, list_lst, list_tup, tuple_lst, tuple_tup, ixN_lit, subL_lit, subT_lit, setAt_cell0, lim_k, cut_from1, binK_some, cmpK_some, s_tryE, try_ret, try_next, noExc_ret, noExc_next, s_raiseE, fin_exc, out_exc, test_exc, base_attr, base_meth, base_make, e_attrE, e_methE, methR_some, e_makeE, seq_exc, ite_exc, attr_ins, meth_ins, see_ins, obD_ins, setFldE, setFldK_own, putD_nil, putD_cons, fini_next, fini_exc, calls_tb, slice_fromL, slice_toL, pow12, max_ii, bool_bl, s_setAttrE, e_attrE, look_nil, look_cons, s_setNE, newOb_lst, fresh_lst, s_appE, s_frzE, lim_lt, see_sD, meth_sD, e, told, try_exc, sb22]
    | [b, c, d], _ =>
      simp only [List.map_cons, List.map_nil] at e
      simp [c__law_ticked, ss_nilE, ss_consE, seq_next, seq_ret, seq_brk, seq_cont, s_iteE, ite_ok, s_setE, s_setTE, s_exE, s_retE, s_retNE, s_passE, s_brkE, s_contE, s_setSubE, e_nonE, e_blE, e_intE, e_strE, slR_val, e_varE, e_globE, e_binE, negR_int, e_negE, e_cmpE, e_chainE, e_andE, e_orE, e_notE, e_ifeE, e_tupE, e_lstE, e_subE, e_sliceE, e_callE, e_bltE, e_bmE, e_isiE, es_nilE, es_consE, es_starE, bs_nilE, bs_consE, o_noneE, intR_int, o_someE, c_noneE, c_someE, and_oneE, and_consE, or_oneE, or_consE, i_ofE, rngR1_int, rngR2_int, i_rng1E, i_rng2E, base_varK, baseV_own, baseV_val, 
    base_cst, base_glob, base_bin, base_neg, base_cmp, base_chain, base_and, base_or, base_not, base_ife, base_tup, base_lst, base_sub, base_slice, base_call, base_blt, base_bm, base_isi, base_lc, fin_ret, fin_next, test_ok, out_ok, see0, obD_lst, truth_int, truth_lst, truth_str, lt_int, le_int, gt_int, ge_int, eq_D, ne_D, is_non, isnot_non, in_D, notin_D, add_int, sub_int, len_lst, len_tup, len_str, int_int, list_lst, list_tup, tuple_lst, tuple_tup, ixN_lit, subL_lit, subT_lit, setAt_cell0, lim_k, cut_from1, binK_some, cmpK_some, s_tryE, try_ret, try_next, noExc_ret, noExc_next, s_raiseE, fin_exc, out_exc, test_exc, base_attr, base_meth, base_make, e_attrE, e_methE, methR_some, e_makeE, seq_exc, ite_exc, attr_ins, meth_ins, see_ins, obD_ins, setFldE, setFldK_own, putD_nil, putD_cons, fini_next, fini_exc, calls_tb, slice_fromL, slice_toL, pow12, max_ii, bool_bl, s_setAttrE, e_attrE, look_nil, look_cons, s_setNE, newOb_lst, fresh_lst, s_appE, s_frzE, lim_lt, see_sD, meth_sD, e, told, try_exc, sb22]
    | [b, c, d, f], _ =>
      simp only [List.map_cons, List.map_nil] at e
      simp [c__law_ticked, ss_nilE, ss_consE, seq_next, seq_ret, seq_brk, seq_cont, s_iteE, ite_ok, s_setE, s_setTE, s_exE, s_retE, s_retNE, s_passE, s_brkE, s_contE, s_setSubE, e_nonE, e_blE, e_intE, e_strE, slR_val, e_varE, e_globE, e_binE, negR_int, e_negE, e_cmpE, e_chainE, e_andE, e_orE, e_notE, e_ifeE, e_tupE, e_lstE, e_subE, e_sliceE, e_callE, e_bltE, e_bmE, e_isiE, es_nilE, es_consE, es_starE, bs_nilE, bs_consE, o_noneE, intR_int, o_someE, c_noneE, c_someE, and_oneE, and_consE, or_oneE, or_consE, i_ofE, rngR1_int, rngR2_int, i_rng1E, i_rng2E, base_varK, baseV_own, baseV_val, 
    base_cst, base_glob, base_bin, base_neg, base_cmp, base_chain, base_and, base_or, base_not, base_ife, base_tup, base_lst, base_sub, base_slice, base_call, base_blt, base_bm, base_isi, base_lc, fin_ret, fin_next, test_ok, out_ok, see0, obD_lst, truth_int, truth_lst, truth_str, lt_int, le_int, gt_int, ge_int, eq_D, ne_D, is_non, isnot_non, in_D, notin_D, add_int, sub_int, len_lst, len_tup, len_str, int_int, list_lst, list_tup, tuple_lst, tuple_tup, ixN_lit, subL_lit, subT_lit, setAt_cell0, lim_k, cut_from1, binK_some, cmpK_some, s_tryE, try_ret, try_next, noExc_ret, noExc_next, s_raiseE, fin_exc, out_exc, test_exc, base_attr, base_meth, base_make, e_attrE, e_methE, methR_some, e_makeE, seq_exc, ite_exc, attr_ins, meth_ins, see_ins, obD_ins, setFldE, setFldK_own, putD_nil, putD_cons, fini_next, fini_exc, calls_tb, slice_fromL, slice_toL, pow12, max_ii, bool_bl, s_setAttrE, e_attrE, look_nil, look_cons, s_setNE, newOb_lst, fresh_lst, s_appE, s_frzE, lim_lt, see_sD, meth_sD, e, told, try_exc, sb22]
    | _ :: _ :: _ :: _ :: _ :: _, hl => simp at hl
theorem law_latest {n : Nat} {rs : List Row} {h : Cells} (hl : rs.length ≤ 5) : (Fd (n + 3)).call 17 [.lst (rs.map sD)] h = .ok (oS (bestF none rs)) h := by
  rw [call_run (fn := f__law_latest) rfl rfl rfl]
  show (evSs (Fd (n + 2)) gl c__law_latest [.val (.lst (rs.map sD))] h).fin = _
  have e := latest_ok (n := n) (rs := rs) (h := h) (by omega)
  match rs, hl with
  | [], _ =>
    simp only [List.map_cons, List.map_nil] at e
    simp [c__law_latest, ss_nilE, ss_consE, seq_next, seq_ret, seq_brk, seq_cont, s_iteE, ite_ok, s_setE, s_setTE, s_exE, s_retE, s_retNE, s_passE, s_brkE, s_contE, s_setSubE, e_nonE, e_blE, e_intE, e_strE, slR_val, e_varE, e_globE, e_binE, negR_int, e_negE, e_cmpE, e_chainE, e_andE, e_orE, e_notE, e_ifeE, e_tupE, e_lstE, e_subE, e_sliceE, e_callE, e_bltE, e_bmE, e_isiE, es_nilE, es_consE, es_starE, bs_nilE, bs_consE, o_noneE, intR_int, o_someE, c_noneE, c_someE, and_oneE, and_consE, or_oneE, or_consE, i_ofE, rngR1_int, rngR2_int, i_rng1E, i_rng2E, base_varK, baseV_own, baseV_val, 
    base_cst, base_glob, base_bin, base_neg, base_cmp, base_chain, base_and, base_or, base_not, base_ife, base_tup, base_lst, base_sub, base_slice, base_call, base_blt, base_bm, base_isi, base_lc, fin_ret, fin_next, test_ok, out_ok, see0, obD_lst, truth_int, truth_lst, truth_str, lt_int, le_int, gt_int, ge_int, eq_D, ne_D, is_non, isnot_non, in_D, notin_D, add_int, sub_int, len_lst, len_tup, len_str, int_int, list_lst, list_tup, tuple_lst, tuple_tup, ixN_lit, subL_lit, subT_lit, setAt_cell0, lim_k, cut_from1, binK_some, cmpK_some, s_tryE, try_ret, try_next, noExc_ret, noExc_next, s_raiseE, fin_exc, out_exc, test_exc, base_attr, base_meth, base_make, e_attrE, e_methE, methR_some, e_makeE, seq_exc, ite_exc, attr_ins, meth_ins, see_ins, obD_ins, setFldE, setFldK_own, putD_nil, putD_cons, fini_next, fini_exc, calls_tb, slice_fromL, slice_toL, pow12, max_ii, bool_bl, s_setAttrE, e_attrE, look_nil, look_cons, s_setNE, newOb_lst, fresh_lst, s_appE, s_frzE, lim_lt, e]
  | [b], _ =>
    simp only [List.map_cons, List.map_nil] at e
    simp [c__law_latest, ss_nilE, ss_consE, seq_next, seq_ret, seq_brk, seq_cont, s_iteE, ite_ok, s_setE, s_setTE, s_exE, s_retE, s_retNE, s_passE, s_brkE, s_contE, s_setSubE, e_nonE, e_blE, e_intE, e_strE, slR_val, e_varE, e_globE, e_binE, negR_int, e_negE, e_cmpE, e_chainE, e_andE, e_orE, e_notE, e_ifeE, e_tupE, e_lstE, e_subE, e_sliceE, e_callE, e_bltE, e_bmE, e_isiE, es_nilE, es_consE, es_starE, bs_nilE, bs_consE, o_noneE, intR_int, o_someE, c_noneE, c_someE, and_oneE, and_consE, or_oneE, or_consE, i_ofE, rngR1_int, rngR2_int, i_rng1E, i_rng2E, base_varK, baseV_own, baseV_val, 
    base_cst, base_glob, base_bin, base_neg, base_cmp, base_chain, base_and, base_or, base_not, base_ife, base_tup, base_lst, base_sub, base_slice, base_call, base_blt, base_bm, base_isi, base_lc, fin_ret, fin_next, test_ok, out_ok, see0, obD_lst, truth_int, truth_lst, truth_str, lt_int, le_int, gt_int, ge_int, eq_D, ne_D, is_non, isnot_non, in_D, notin_D, add_int, sub_int, len_lst, len_tup, len_str, int_int, list_lst, list_tup, tuple_lst, tuple_tup, ixN_lit, subL_lit, subT_lit, setAt_cell0, lim_k, cut_from1, binK_some, cmpK_some, s_tryE, try_ret, try_next, noExc_ret, noExc_next, s_raiseE, fin_exc, out_exc, test_exc, base_attr, base_meth, base_make, e_attrE, e_methE, methR_some, e_makeE, seq_exc, ite_exc, attr_ins, meth_ins, see_ins, obD_ins, setFldE, setFldK_own, putD_nil, putD_cons, fini_next, fini_exc, calls_tb, slice_fromL, slice_toL, pow12, max_ii, bool_bl, s_setAttrE, e_attrE, look_nil, look_cons, s_setNE, newOb_lst, fresh_lst, s_appE, s_frzE, lim_lt, e]
  | [b, c], _ =>
    simp only [List.map_cons, List.map_nil] at e
    simp [c__law_latest, ss_nilE, ss_consE, seq_next, seq_ret, seq_brk, seq_cont, s_iteE, ite_ok, s_setE, s_setTE, s_exE, s_retE, s_retNE, s_passE, s_brkE, s_contE, s_setSubE, e_nonE, e_blE, e_intE, e_strE, slR_val, e_varE, e_globE, e_binE, negR_int, e_negE, e_cmpE, e_chainE, e_andE, e_orE, e_notE, e_ifeE, e_tupE, e_lstE, e_subE, e_sliceE, e_callE, e_bltE, e_bmE, e_isiE, es_nilE, es_consE, es_starE, bs_nilE, bs_consE, o_noneE, intR_int, o_someE, c_noneE, c_someE, and_oneE, and_consE, or_oneE, or_consE, i_ofE, rngR1_int, rngR2_int, i_rng1E, i_rng2E, base_varK, baseV_own, baseV_val, 
    base_cst, base_glob, base_bin, base_neg, base_cmp, base_chain, base_and, base_or, base_not, base_ife, base_tup, base_lst, base_sub, base_slice, base_call, base_blt, base_bm, base_isi, base_lc, fin_ret, fin_next, test_ok, out_ok, see0, obD_lst, truth_int, truth_lst, truth_str, lt_int, le_int, gt_int, ge_int, eq_D, ne_D, is_non, isnot_non, in_D, notin_D, add_int, sub_int, len_lst, len_tup, len_str, int_int, list_lst, list_tup, tuple_lst, tuple_tup, ixN_lit, subL_lit, subT_lit, setAt_cell0, lim_k, cut_from1, binK_some, cmpK_some, s_tryE, try_ret, try_next, noExc_ret, noExc_next, s_raiseE, fin_exc, out_exc, test_exc, base_attr, base_meth, base_make, e_attrE, e_methE, methR_some, e_makeE, seq_exc, ite_exc, attr_ins, meth_ins, see_ins, obD_ins, setFldE, setFldK_own, putD_nil, putD_cons, fini_next, fini_exc, calls_tb, slice_fromL, slice_toL, pow12, max_ii, bool_bl, s_setAttrE, e_attrE, look_nil, look_cons, s_setNE, newOb_lst, fresh_lst, s_appE, s_frzE, lim_lt, e]
  | [b, c, d], _ =>
    simp only [List.map_cons, List.map_nil] at e
    simp [c__law_latest, ss_nilE, ss_consE, seq_next, seq_ret, seq_brk, seq_cont, s_iteE, ite_ok, s_setE, s_setTE, s_exE, s_retE, s_retNE, s_passE, s_brkE, s_contE, s_setSubE, e_nonE, e_blE, e_intE, e_strE, slR_val, e_varE, e_globE, e_binE, negR_int, e_negE, e_cmpE, e_chainE, e_andE, e_orE, e_notE, e_ifeE, e_tupE, e_lstE, e_subE, e_sliceE, e_callE, e_bltE, e_bmE, e_isiE, es_nilE, es_consE, es_starE, bs_nilE, bs_consE, o_noneE, intR_int, o_someE, c_noneE, c_someE, and_oneE, and_consE, or_oneE, or_consE, i_ofE, rngR1_int, rngR2_int, i_rng1E, i_rng2E, base_varK, baseV_own, baseV_val, 
    base_cst, base_glob, base_bin, base_neg, base_cmp, base_chain, base_and, base_or, base_not, base_ife, base_tup, base_lst, base_sub, base_slice, base_call, base_blt, base_bm, base_isi, base_lc, fin_ret, fin_next, test_ok, out_ok, see0, obD_lst, truth_int, truth_lst, truth_str, lt_int, le_int, gt_int, ge_int, eq_D, ne_D, is_non, isnot_non, in_D, notin_D, add_int, sub_int, len_lst, len_tup, len_str, int_int, list_lst, list_tup, tuple_lst, tuple_tup, ixN_lit, subL_lit, subT_lit, setAt_cell0, lim_k, cut_from1, binK_some, cmpK_some, s_tryE, try_ret, try_next, noExc_ret, noExc_next, s_raiseE, fin_exc, out_exc, test_exc, base_attr, base_meth, base_make, e_attrE, e_methE, methR_some, e_makeE, seq_exc, ite_exc, attr_ins, meth_ins, see_ins, obD_ins, setFldE, setFldK_own, putD_nil, putD_cons, fini_next, fini_exc, calls_tb, slice_fromL, slice_toL, pow12, max_ii, bool_bl, s_setAttrE, e_attrE, look_nil, look_cons, s_setNE, newOb_lst, fresh_lst, s_appE, s_frzE, lim_lt, e]
  | [b, c, d, f], _ =>
    simp only [List.map_cons, List.map_nil] at e
    simp [c__law_latest, ss_nilE, ss_consE, seq_next, seq_ret, seq_brk, seq_cont, s_iteE, ite_ok, s_setE, s_setTE, s_exE, s_retE, s_retNE, s_passE, s_brkE, s_contE, s_setSubE, e_nonE, e_blE, e_intE, e_strE, slR_val, e_varE, e_globE, e_binE, negR_int, e_negE, e_cmpE, e_chainE, e_andE, e_orE, e_notE, e_ifeE, e_tupE, e_lstE, e_subE, e_sliceE, e_callE, e_bltE, e_bmE, e_isiE, es_nilE, es_consE, es_starE, bs_nilE, bs_consE, o_noneE, intR_int, o_someE, c_noneE, c_someE, and_oneE, and_consE, or_oneE, or_consE, i_ofE, rngR1_int, rngR2_int, i_rng1E, i_rng2E, base_varK, baseV_own, baseV_val, 
    base_cst, base_glob, base_bin, base_neg, base_cmp, base_chain, base_and, base_or, base_not, base_ife, base_tup, base_lst, base_sub, base_slice, base_call, base_blt, base_bm, base_isi, base_lc, fin_ret, fin_next, test_ok, out_ok, see0, obD_lst, truth_int, truth_lst, truth_str, lt_int, le_int, gt_int, ge_int, eq_D, ne_D, is_non, isnot_non, in_D, notin_D, add_int, sub_int, len_lst, len_tup, len_str, int_int, list_lst, list_tup, tuple_lst, tuple_tup, ixN_lit, subL_lit, subT_lit, setAt_cell0, lim_k, cut_from1, binK_some, cmpK_some, s_tryE, try_ret, try_next, noExc_ret, noExc_next, s_raiseE, fin_exc, out_exc, test_exc, base_attr, base_meth, base_make, e_attrE, e_methE, methR_some, e_makeE, seq_exc, ite_exc, attr_ins, meth_ins, see_ins, obD_ins, setFldE, setFldK_own, putD_nil, putD_cons, fini_next, fini_exc, calls_tb, slice_fromL, slice_toL, pow12, max_ii, bool_bl, s_setAttrE, e_attrE, look_nil, look_cons, s_setNE, newOb_lst, fresh_lst, s_appE, s_frzE, lim_lt, e]
  | [b, c, d, f, g], _ =>
    simp only [List.map_cons, List.map_nil] at e
    simp [c__law_latest, ss_nilE, ss_consE, seq_next, seq_ret, seq_brk, seq_cont, s_iteE, ite_ok, s_setE, s_setTE, s_exE, s_retE, s_retNE, s_passE, s_brkE, s_contE, s_setSubE, e_nonE, e_blE, e_intE, e_strE, slR_val, e_varE, e_globE, e_binE, negR_int, e_negE, e_cmpE, e_chainE, e_andE, e_orE, e_notE, e_ifeE, e_tupE, e_lstE, e_subE, e_sliceE, e_callE, e_bltE, e_bmE, e_isiE, es_nilE, es_consE, es_starE, bs_nilE, bs_consE, o_noneE, intR_int, o_someE, c_noneE, c_someE, and_oneE, and_consE, or_oneE, or_consE, i_ofE, rngR1_int, rngR2_int, i_rng1E, i_rng2E, base_varK, baseV_own, baseV_val, 
    base_cst, base_glob, base_bin, base_neg, base_cmp, base_chain, base_and, base_or, base_not, base_ife, base_tup, base_lst, base_sub, base_slice, base_call, base_blt, base_bm, base_isi, base_lc, fin_ret, fin_next, test_ok, out_ok, see0, obD_lst, truth_int, truth_lst, truth_str, lt_int, le_int, gt_int, ge_int, eq_D, ne_D, is_non, isnot_non, in_D, notin_D, add_int, sub_int, len_lst, len_tup, len_str, int_int, list_lst, list_tup, tuple_lst, tuple_tup, ixN_lit, subL_lit, subT_lit, setAt_cell0, lim_k, cut_from1, binK_some, cmpK_some, s_tryE, try_ret, try_next, noExc_ret, noExc_next, s_raiseE, fin_exc, out_exc, test_exc, base_attr, base_meth, base_make, e_attrE, e_methE, methR_some, e_makeE, seq_exc, ite_exc, attr_ins, meth_ins, see_ins, obD_ins, setFldE, setFldK_own, putD_nil, putD_cons, fini_next, fini_exc, calls_tb, slice_fromL, slice_toL, pow12, max_ii, bool_bl, s_setAttrE, e_attrE, look_nil, look_cons, s_setNE, newOb_lst, fresh_lst, s_appE, s_frzE, lim_lt, e]
  | _ :: _ :: _ :: _ :: _ :: _ :: _, hl => simp at hl
end K04
set_option Elab.async false
set_option linter.all false
set_option maxRecDepth 100000
set_option maxHeartbeats 4000000
namespace K04
open PySem L2 Rf
/-! ### ticks_well -/
def cMost : CSs := .cons (.ite (.cmp .gt (.sub (.var 3) (.cst (.int 0))) (.var 2)) (.cons (.set 2 (.sub (.var 3) (.cst (.int 0)))) .nil) .nil) .nil
theorem subT0 (a : Row) : subD (rD a) (.int 0) = some (.int a.1) := nd rfl
theorem subT1 (a : Row) : subD (rD a) (.int 1) = some (.int a.2) := nd rfl
def env7 (s0 s1 s2 s3 s4 s5 s6 : Sl) : En := [s0, s1, s2, s3, s4, s5, s6]
theorem most_turn {F : FTab} {s0 s1 s4 s5 s6 : Sl} {m : Int} {r : Row} {h : Cells} : evSs F gl cMost (env7 s0 s1 (.val (.int m)) (.val (rD r)) s4 s5 s6) h = .next (env7 s0 s1 (.val (.int (if r.1 > m then r.1 else m))) (.val (rD r)) s4 s5 s6) h := by
  by_cases q : m < r.1
  · simp [cMost, env7, ss_nilE, ss_consE, seq_next, seq_ret, seq_brk, seq_cont, s_iteE, ite_ok, s_setE, s_setTE, s_exE, s_retE, s_retNE, s_passE, s_brkE, s_contE, s_setSubE, e_nonE, e_blE, e_intE, e_strE, slR_val, e_varE, e_globE, e_binE, negR_int, e_negE, e_cmpE, e_chainE, e_andE, e_orE, e_notE, e_ifeE, e_tupE, e_lstE, e_subE, e_sliceE, e_callE, e_bltE, e_bmE, e_isiE, es_nilE, es_consE, es_starE, bs_nilE, bs_consE, o_noneE, intR_int, o_someE, c_noneE, c_someE, and_oneE, and_consE, or_oneE, or_consE, i_ofE, rngR1_int, rngR2_int, i_rng1E, i_rng2E, base_varK, baseV_own, baseV_val, 
    base_cst, base_glob, base_bin, base_neg, base_cmp, base_chain, base_and, base_or, base_not, base_ife, base_tup, base_lst, base_sub, base_slice, base_call, base_blt, base_bm, base_isi, base_lc, fin_ret, fin_next, test_ok, out_ok, see0, obD_lst, truth_int, truth_lst, truth_str, lt_int, le_int, gt_int, ge_int, eq_D, ne_D, is_non, isnot_non, in_D, notin_D, add_int, sub_int, len_lst, len_tup, len_str, int_int, list_lst, list_tup, tuple_lst, tuple_tup, ixN_lit, subL_lit, subT_lit, setAt_cell0, lim_k, cut_from1, binK_some, cmpK_some, s_tryE, try_ret, try_next, noExc_ret, noExc_next, s_raiseE, fin_exc, out_exc, test_exc, base_attr, base_meth, base_make, e_attrE, e_methE, methR_some, e_makeE, seq_exc, ite_exc, attr_ins, meth_ins, see_ins, obD_ins, setFldE, setFldK_own, putD_nil, putD_cons, fini_next, fini_exc, calls_tb, slice_fromL, slice_toL, pow12, max_ii, bool_bl, s_setAttrE, e_attrE, look_nil, look_cons, s_setNE, newOb_lst, fresh_lst, s_appE, s_frzE, lim_lt, see_rD, subT0, q]
  · simp [cMost, env7, ss_nilE, ss_consE, seq_next, seq_ret, seq_brk, seq_cont, s_iteE, ite_ok, s_setE, s_setTE, s_exE, s_retE, s_retNE, s_passE, s_brkE, s_contE, s_setSubE, e_nonE, e_blE, e_intE, e_strE, slR_val, e_varE, e_globE, e_binE, negR_int, e_negE, e_cmpE, e_chainE, e_andE, e_orE, e_notE, e_ifeE, e_tupE, e_lstE, e_subE, e_sliceE, e_callE, e_bltE, e_bmE, e_isiE, es_nilE, es_consE, es_starE, bs_nilE, bs_consE, o_noneE, intR_int, o_someE, c_noneE, c_someE, and_oneE, and_consE, or_oneE, or_consE, i_ofE, rngR1_int, rngR2_int, i_rng1E, i_rng2E, base_varK, baseV_own, baseV_val, 
    base_cst, base_glob, base_bin, base_neg, base_cmp, base_chain, base_and, base_or, base_not, base_ife, base_tup, base_lst, base_sub, base_slice, base_call, base_blt, base_bm, base_isi, base_lc, fin_ret, fin_next, test_ok, out_ok, see0, obD_lst, truth_int, truth_lst, truth_str, lt_int, le_int, gt_int, ge_int, eq_D, ne_D, is_non, isnot_non, in_D, notin_D, add_int, sub_int, len_lst, len_tup, len_str, int_int, list_lst, list_tup, tuple_lst, tuple_tup, ixN_lit, subL_lit, subT_lit, setAt_cell0, lim_k, cut_from1, binK_some, cmpK_some, s_tryE, try_ret, try_next, noExc_ret, noExc_next, s_raiseE, fin_exc, out_exc, test_exc, base_attr, base_meth, base_make, e_attrE, e_methE, methR_some, e_makeE, seq_exc, ite_exc, attr_ins, meth_ins, see_ins, obD_ins, setFldE, setFldK_own, putD_nil, putD_cons, fini_next, fini_exc, calls_tb, slice_fromL, slice_toL, pow12, max_ii, bool_bl, s_setAttrE, e_attrE, look_nil, look_cons, s_setNE, newOb_lst, fresh_lst, s_appE, s_frzE, lim_lt, see_rD, subT0, q]
theorem most_loop {F : FTab} {s0 s1 s4 s5 s6 : Sl} {h : Cells} : ∀ (rs : List Row) (m : Int) (x : Sl), ∃ x', forGo (.name 3) (evSs F gl cMost) (rs.map rD) (env7 s0 s1 (.val (.int m)) x s4 s5 s6) h = .next (env7 s0 s1 (.val (.int (mostF m rs))) x' s4 s5 s6) h
  | [], m, x => ⟨x, rfl⟩
  | r :: rs, m, x => by
    obtain ⟨x', hx⟩ := most_loop (F := F) (s0 := s0) (s1 := s1) (s4 := s4) (s5 := s5) (s6 := s6) (h := h) rs (if r.1 > m then r.1 else m) (.val (rD r))
    refine ⟨x', ?_⟩
    rw [List.map_cons]
    unfold forGo
    have e : (env7 s0 s1 (.val (.int m)) x s4 s5 s6).set 3 (.val (rD r)) = env7 s0 s1 (.val (.int m)) (.val (rD r)) s4 s5 s6 := rfl
    simp only [bindT_name, e]
    rw [most_turn]
    exact hx
def cLess : CSs := .cons (.ite (.not (.blt .bool (.cons (.cmp .lt (.var 5) (.sub (.var 4) (.cst (.int 1)))) .nil))) (.cons (.ret (.cst (.bl false))) .nil) .nil) .nil
theorem env7_def (s0 s1 s2 s3 s4 s5 s6 : Sl) : env7 s0 s1 s2 s3 s4 s5 s6 = [s0, s1, s2, s3, s4, s5, s6] := rfl
theorem less_turn' {n : Nat} {s0 s1 s2 s3 s6 : Sl} {a r : Row} {h : Cells} (q : ltR r a = true) : evSs (Fd (n + 1)) gl cLess (env7 s0 s1 s2 s3 (.val (told true a)) (.val (sD r)) s6) h = .next (env7 s0 s1 s2 s3 (.val (told true a)) (.val (sD r)) s6) h := by
  have e := lt_cmp (n := n) (a := r) (b := a) (h := h)
  rw [see_sD, see_sD, q] at e
  simp [cLess, env7, ss_nilE, ss_consE, seq_next, seq_ret, seq_brk, seq_cont, s_iteE, ite_ok, s_setE, s_setTE, s_exE, s_retE, s_retNE, s_passE, s_brkE, s_contE, s_setSubE, e_nonE, e_blE, e_intE, e_strE, slR_val, e_varE, e_globE, e_binE, negR_int, e_negE, e_cmpE, e_chainE, e_andE, e_orE, e_notE, e_ifeE, e_tupE, e_lstE, e_subE, e_sliceE, e_callE, e_bltE, e_bmE, e_isiE, es_nilE, es_consE, es_starE, bs_nilE, bs_consE, o_noneE, intR_int, o_someE, c_noneE, c_someE, and_oneE, and_consE, or_oneE, or_consE, i_ofE, rngR1_int, rngR2_int, i_rng1E, i_rng2E, base_varK, baseV_own, baseV_val, 
    base_cst, base_glob, base_bin, base_neg, base_cmp, base_chain, base_and, base_or, base_not, base_ife, base_tup, base_lst, base_sub, base_slice, base_call, base_blt, base_bm, base_isi, base_lc, fin_ret, fin_next, test_ok, out_ok, see0, obD_lst, truth_int, truth_lst, truth_str, lt_int, le_int, gt_int, ge_int, eq_D, ne_D, is_non, isnot_non, in_D, notin_D, add_int, sub_int, len_lst, len_tup, len_str, int_int, list_lst, list_tup, tuple_lst, tuple_tup, ixN_lit, subL_lit, subT_lit, setAt_cell0, lim_k, cut_from1, binK_some, cmpK_some, s_tryE, try_ret, try_next, noExc_ret, noExc_next, s_raiseE, fin_exc, out_exc, test_exc, base_attr, base_meth, base_make, e_attrE, e_methE, methR_some, e_makeE, seq_exc, ite_exc, attr_ins, meth_ins, see_ins, obD_ins, setFldE, setFldK_own, putD_nil, putD_cons, fini_next, fini_exc, calls_tb, slice_fromL, slice_toL, pow12, max_ii, bool_bl, s_setAttrE, e_attrE, look_nil, look_cons, s_setNE, newOb_lst, fresh_lst, s_appE, s_frzE, lim_lt, told, see_sD, isOwn, e]
theorem less_loop {n : Nat} {s0 s1 s2 s3 s6 : Sl} {a : Row} {h : Cells} : ∀ (rs : List Row) (x : Sl), (∀ r ∈ rs, ltR r a = true) → ∃ x', forGo (.name 5) (evSs (Fd (n + 1)) gl cLess) (rs.map sD) (env7 s0 s1 s2 s3 (.val (told true a)) x s6) h = .next (env7 s0 s1 s2 s3 (.val (told true a)) x' s6) h
  | [], x, _ => ⟨x, rfl⟩
  | r :: rs, x, hq => by
    obtain ⟨x', hx⟩ := less_loop (n := n) (s0 := s0) (s1 := s1) (s2 := s2) (s3 := s3) (s6 := s6) (a := a) (h := h) rs (.val (sD r)) fun y hy => hq y (List.mem_cons_of_mem _ hy)
    refine ⟨x', ?_⟩
    rw [List.map_cons]
    unfold forGo
    have e : (env7 s0 s1 s2 s3 (.val (told true a)) x s6).set 5 (.val (sD r)) = env7 s0 s1 s2 s3 (.val (told true a)) (.val (sD r)) s6 := rfl
    simp only [bindT_name, e]
    rw [less_turn' (hq r (List.mem_cons_self ..))]
    exact hx
theorem mostF_cons {a : Row} {rs : List Row} (h : 0 ≤ a.1) : mostF 0 (a :: rs) = mostF a.1 rs := by
  show mostF (if a.1 > 0 then a.1 else 0) rs = _
  congr 1
  split <;> omega
theorem eq_ref : eqD (.str "refused") (.str "refused") = some true := by decide +kernel
theorem mostF_fix : ∀ (rs : List Row) (m : Int), (∀ r ∈ rs, r.1 ≤ m) → mostF m rs = m
  | [], m, _ => rfl
  | r :: rs, m, h => by
    have h1 := h r (List.mem_cons_self ..)
    show mostF (if r.1 > m then r.1 else m) rs = m
    rw [if_neg (by omega)]
    exact mostF_fix rs m fun x hx => h x (List.mem_cons_of_mem _ hx)
theorem sl_from1 (a : Row) (rs : List Row) : sliceD (.lst (sD a :: rs.map sD)) (some 1) none = some (.lst (rs.map sD)) := by
  rw [show (some (1 : Int)) = some ((1 : Nat) : Int) from rfl, slice_from]
  rfl
theorem sl_to4 (rs : List Row) : sliceD (.lst (rs.map sD)) none (some 4) = some (.lst ((rs.take 4).map sD)) := by
  rw [show (some (4 : Int)) = some ((4 : Nat) : Int) from rfl, slice_to, List.map_take]
theorem sub0 (d : D) (ds : List D) : subD (.lst (d :: ds)) (.int 0) = some d := atI_nat (d :: ds) 0
theorem told0 (b : Bool) (r : Row) : subD (told b r) (.int 0) = some (.str (if b then "stamp" else "refused")) := by cases b <;> rfl
theorem told1 (r : Row) : subD (told true r) (.int 1) = some (sD r) := nd rfl
theorem see_told (h : Cells) (b : Bool) (r : Row) : see h (told b r) = told b r := by cases b <;> rfl
theorem ticks_well {n : Nat} {a : Row} {rs : List Row} {h : Cells} (hr : ∀ r ∈ a :: rs, okR r) (hl : rs.length ≤ 4) : (Fd (n + 5)).call 18 [.lst ((a :: rs).map sD), .lst ((a :: rs).map rD)] h = .ok (.bl true) h := by
  rw [call_run (fn := f__law_ticks_well) rfl rfl rfl]
  generalize eS : (D.lst ((a :: rs).map sD)) = S
  generalize eR : (D.lst ((a :: rs).map rD)) = R
  have ha := hr a (List.mem_cons_self ..)
  obtain ⟨a1, a2, a3, a4⟩ := id ha
  obtain ⟨m1, m2⟩ := mostF_le rs a.1
  have m3 : mostF a.1 rs ≤ 1000000000000 := mostF_top rs a.1 _ a2 fun r hx => (hr r (List.mem_cons_of_mem _ hx)).2.1
  have seeS : ∀ h, see h S = S := fun h => by rw [← eS]; rfl
  have seeR : ∀ h, see h R = R := fun h => by rw [← eR]; rfl
  have sS0 : subD S (.int 0) = some (sD a) := by rw [← eS]; exact sub0 _ _
  have sR0 : subD R (.int 0) = some (rD a) := by rw [← eR]; exact sub0 _ _
  have sS1 : sliceD S (some 1) none = some (.lst (rs.map sD)) := by rw [← eS]; exact sl_from1 a rs
  have sS4 : sliceD S none (some 4) = some (.lst (((a :: rs).take 4).map sD)) := by rw [← eS]; exact sl_to4 (a :: rs)
  have T := ticked (n := n + 1) (h := h) ha hl
  obtain ⟨x1, L1⟩ := most_loop (F := Fd (n + 4)) (s0 := .val S) (s1 := .val R) (s4 := .no) (s5 := .no) (s6 := .no) (h := h) (a :: rs) 0 .no
  rw [mostF_cons a1] at L1
  generalize mostF a.1 rs = m at *
  have key : RetP (Fd (n + 4)) gl c__law_ticks_well (env7 (.val S) (.val R) .no .no .no .no .no) h fun d c => d = .bl true ∧ c = h := by
    refine .set (e_intE _ _ _ _ _) ?_
    refine .for (ds := (a :: rs).map rD) (h' := h) (by rw [← eR]; simp [env7, ss_nilE, ss_consE, seq_next, seq_ret, seq_brk, seq_cont, s_iteE, ite_ok, s_setE, s_setTE, s_exE, s_retE, s_retNE, s_passE, s_brkE, s_contE, s_setSubE, e_nonE, e_blE, e_intE, e_strE, slR_val, e_varE, e_globE, e_binE, negR_int, e_negE, e_cmpE, e_chainE, e_andE, e_orE, e_notE, e_ifeE, e_tupE, e_lstE, e_subE, e_sliceE, e_callE, e_bltE, e_bmE, e_isiE, es_nilE, es_consE, es_starE, bs_nilE, bs_consE, o_noneE, intR_int, o_someE, c_noneE, c_someE, and_oneE, and_consE, or_oneE, or_consE, i_ofE, rngR1_int, rngR2_int, i_rng1E, i_rng2E, base_varK, baseV_own, baseV_val, 
    base_cst, base_glob, base_bin, base_neg, base_cmp, base_chain, base_and, base_or, base_not, base_ife, base_tup, base_lst, base_sub, base_slice, base_call, base_blt, base_bm, base_isi, base_lc, fin_ret, fin_next, test_ok, out_ok, see0, obD_lst, truth_int, truth_lst, truth_str, lt_int, le_int, gt_int, ge_int, eq_D, ne_D, is_non, isnot_non, in_D, notin_D, add_int, sub_int, len_lst, len_tup, len_str, int_int, list_lst, list_tup, tuple_lst, tuple_tup, ixN_lit, subL_lit, subT_lit, setAt_cell0, lim_k, cut_from1, binK_some, cmpK_some, s_tryE, try_ret, try_next, noExc_ret, noExc_next, s_raiseE, fin_exc, out_exc, test_exc, base_attr, base_meth, base_make, e_attrE, e_methE, methR_some, e_makeE, seq_exc, ite_exc, attr_ins, meth_ins, see_ins, obD_ins, setFldE, setFldK_own, putD_nil, putD_cons, fini_next, fini_exc, calls_tb, slice_fromL, slice_toL, pow12, max_ii, bool_bl, s_setAttrE, e_attrE, look_nil, look_cons, s_setNE, newOb_lst, fresh_lst, s_appE, s_frzE, lim_lt, itemsD]) L1 ?_
    refine .set (d := told (decide (m + 1 ≤ 1000000000000)) (m + 1, a.2)) (h' := h) (by simp [env7, ss_nilE, ss_consE, seq_next, seq_ret, seq_brk, seq_cont, s_iteE, ite_ok, s_setE, s_setTE, s_exE, s_retE, s_retNE, s_passE, s_brkE, s_contE, s_setSubE, e_nonE, e_blE, e_intE, e_strE, slR_val, e_varE, e_globE, e_binE, negR_int, e_negE, e_cmpE, e_chainE, e_andE, e_orE, e_notE, e_ifeE, e_tupE, e_lstE, e_subE, e_sliceE, e_callE, e_bltE, e_bmE, e_isiE, es_nilE, es_consE, es_starE, bs_nilE, bs_consE, o_noneE, intR_int, o_someE, c_noneE, c_someE, and_oneE, and_consE, or_oneE, or_consE, i_ofE, rngR1_int, rngR2_int, i_rng1E, i_rng2E, base_varK, baseV_own, baseV_val, 
    base_cst, base_glob, base_bin, base_neg, base_cmp, base_chain, base_and, base_or, base_not, base_ife, base_tup, base_lst, base_sub, base_slice, base_call, base_blt, base_bm, base_isi, base_lc, fin_ret, fin_next, test_ok, out_ok, see0, obD_lst, truth_int, truth_lst, truth_str, lt_int, le_int, gt_int, ge_int, eq_D, ne_D, is_non, isnot_non, in_D, notin_D, add_int, sub_int, len_lst, len_tup, len_str, int_int, list_lst, list_tup, tuple_lst, tuple_tup, ixN_lit, subL_lit, subT_lit, setAt_cell0, lim_k, cut_from1, binK_some, cmpK_some, s_tryE, try_ret, try_next, noExc_ret, noExc_next, s_raiseE, fin_exc, out_exc, test_exc, base_attr, base_meth, base_make, e_attrE, e_methE, methR_some, e_makeE, seq_exc, ite_exc, attr_ins, meth_ins, see_ins, obD_ins, setFldE, setFldK_own, putD_nil, putD_cons, fini_next, fini_exc, calls_tb, slice_fromL, slice_toL, pow12, max_ii, bool_bl, s_setAttrE, e_attrE, look_nil, look_cons, s_setNE, newOb_lst, fresh_lst, s_appE, s_frzE, lim_lt, seeS, sS0, sS1, T]) ?_
    by_cases hc : m = 1000000000000
    · have hd : decide (m + 1 ≤ 1000000000000) = false := decide_eq_false (by omega)
      rw [hd]
      exact .ret (d := .bl true) (h' := h) (by simp [env7, ss_nilE, ss_consE, seq_next, seq_ret, seq_brk, seq_cont, s_iteE, ite_ok, s_setE, s_setTE, s_exE, s_retE, s_retNE, s_passE, s_brkE, s_contE, s_setSubE, e_nonE, e_blE, e_intE, e_strE, slR_val, e_varE, e_globE, e_binE, negR_int, e_negE, e_cmpE, e_chainE, e_andE, e_orE, e_notE, e_ifeE, e_tupE, e_lstE, e_subE, e_sliceE, e_callE, e_bltE, e_bmE, e_isiE, es_nilE, es_consE, es_starE, bs_nilE, bs_consE, o_noneE, intR_int, o_someE, c_noneE, c_someE, and_oneE, and_consE, or_oneE, or_consE, i_ofE, rngR1_int, rngR2_int, i_rng1E, i_rng2E, base_varK, baseV_own, baseV_val, 
    base_cst, base_glob, base_bin, base_neg, base_cmp, base_chain, base_and, base_or, base_not, base_ife, base_tup, base_lst, base_sub, base_slice, base_call, base_blt, base_bm, base_isi, base_lc, fin_ret, fin_next, test_ok, out_ok, see0, obD_lst, truth_int, truth_lst, truth_str, lt_int, le_int, gt_int, ge_int, eq_D, ne_D, is_non, isnot_non, in_D, notin_D, add_int, sub_int, len_lst, len_tup, len_str, int_int, list_lst, list_tup, tuple_lst, tuple_tup, ixN_lit, subL_lit, subT_lit, setAt_cell0, lim_k, cut_from1, binK_some, cmpK_some, s_tryE, try_ret, try_next, noExc_ret, noExc_next, s_raiseE, fin_exc, out_exc, test_exc, base_attr, base_meth, base_make, e_attrE, e_methE, methR_some, e_makeE, seq_exc, ite_exc, attr_ins, meth_ins, see_ins, obD_ins, setFldE, setFldK_own, putD_nil, putD_cons, fini_next, fini_exc, calls_tb, slice_fromL, slice_toL, pow12, max_ii, bool_bl, s_setAttrE, e_attrE, look_nil, look_cons, s_setNE, newOb_lst, fresh_lst, s_appE, s_frzE, lim_lt, hc, see_told, told0, eq_ref]) ⟨rfl, rfl⟩
    · have hd : decide (m + 1 ≤ 1000000000000) = true := decide_eq_true (by omega)
      rw [hd]
      refine .test (h' := h) (by simp [env7, ss_nilE, ss_consE, seq_next, seq_ret, seq_brk, seq_cont, s_iteE, ite_ok, s_setE, s_setTE, s_exE, s_retE, s_retNE, s_passE, s_brkE, s_contE, s_setSubE, e_nonE, e_blE, e_intE, e_strE, slR_val, e_varE, e_globE, e_binE, negR_int, e_negE, e_cmpE, e_chainE, e_andE, e_orE, e_notE, e_ifeE, e_tupE, e_lstE, e_subE, e_sliceE, e_callE, e_bltE, e_bmE, e_isiE, es_nilE, es_consE, es_starE, bs_nilE, bs_consE, o_noneE, intR_int, o_someE, c_noneE, c_someE, and_oneE, and_consE, or_oneE, or_consE, i_ofE, rngR1_int, rngR2_int, i_rng1E, i_rng2E, base_varK, baseV_own, baseV_val, 
    base_cst, base_glob, base_bin, base_neg, base_cmp, base_chain, base_and, base_or, base_not, base_ife, base_tup, base_lst, base_sub, base_slice, base_call, base_blt, base_bm, base_isi, base_lc, fin_ret, fin_next, test_ok, out_ok, see0, obD_lst, truth_int, truth_lst, truth_str, lt_int, le_int, gt_int, ge_int, eq_D, ne_D, is_non, isnot_non, in_D, notin_D, add_int, sub_int, len_lst, len_tup, len_str, int_int, list_lst, list_tup, tuple_lst, tuple_tup, ixN_lit, subL_lit, subT_lit, setAt_cell0, lim_k, cut_from1, binK_some, cmpK_some, s_tryE, try_ret, try_next, noExc_ret, noExc_next, s_raiseE, fin_exc, out_exc, test_exc, base_attr, base_meth, base_make, e_attrE, e_methE, methR_some, e_makeE, seq_exc, ite_exc, attr_ins, meth_ins, see_ins, obD_ins, setFldE, setFldK_own, putD_nil, putD_cons, fini_next, fini_exc, calls_tb, slice_fromL, slice_toL, pow12, max_ii, bool_bl, s_setAttrE, e_attrE, look_nil, look_cons, s_setNE, newOb_lst, fresh_lst, s_appE, s_frzE, lim_lt, hc]) ?_
      have I1 := is_stamp (n := n) (r := (m + 1, a.2)) (h := h)
      have e1 : rD (m + 1, a.2) = .tup [.int (m + 1), .int a.2] := rfl
      rw [e1] at I1
      refine .test (h' := h) (by simp [env7, ss_nilE, ss_consE, seq_next, seq_ret, seq_brk, seq_cont, s_iteE, ite_ok, s_setE, s_setTE, s_exE, s_retE, s_retNE, s_passE, s_brkE, s_contE, s_setSubE, e_nonE, e_blE, e_intE, e_strE, slR_val, e_varE, e_globE, e_binE, negR_int, e_negE, e_cmpE, e_chainE, e_andE, e_orE, e_notE, e_ifeE, e_tupE, e_lstE, e_subE, e_sliceE, e_callE, e_bltE, e_bmE, e_isiE, es_nilE, es_consE, es_starE, bs_nilE, bs_consE, o_noneE, intR_int, o_someE, c_noneE, c_someE, and_oneE, and_consE, or_oneE, or_consE, i_ofE, rngR1_int, rngR2_int, i_rng1E, i_rng2E, base_varK, baseV_own, baseV_val, 
    base_cst, base_glob, base_bin, base_neg, base_cmp, base_chain, base_and, base_or, base_not, base_ife, base_tup, base_lst, base_sub, base_slice, base_call, base_blt, base_bm, base_isi, base_lc, fin_ret, fin_next, test_ok, out_ok, see0, obD_lst, truth_int, truth_lst, truth_str, lt_int, le_int, gt_int, ge_int, eq_D, ne_D, is_non, isnot_non, in_D, notin_D, add_int, sub_int, len_lst, len_tup, len_str, int_int, list_lst, list_tup, tuple_lst, tuple_tup, ixN_lit, subL_lit, subT_lit, setAt_cell0, lim_k, cut_from1, binK_some, cmpK_some, s_tryE, try_ret, try_next, noExc_ret, noExc_next, s_raiseE, fin_exc, out_exc, test_exc, base_attr, base_meth, base_make, e_attrE, e_methE, methR_some, e_makeE, seq_exc, ite_exc, attr_ins, meth_ins, see_ins, obD_ins, setFldE, setFldK_own, putD_nil, putD_cons, fini_next, fini_exc, calls_tb, slice_fromL, slice_toL, pow12, max_ii, bool_bl, s_setAttrE, e_attrE, look_nil, look_cons, s_setNE, newOb_lst, fresh_lst, s_appE, s_frzE, lim_lt, see_told, told1, seeR, sR0, see_rD, subT1, I1]) ?_
      obtain ⟨x2, L2⟩ := less_loop (n := n + 3) (s0 := .val S) (s1 := .val R) (s2 := .val (.int m)) (s3 := x1) (s6 := .no) (a := (m + 1, a.2)) (h := h) (a :: rs) .no (fun r hx => by
        rw [ltR_iff]
        have : r.1 ≤ m := by
          rcases List.mem_cons.mp hx with rfl | hx
          · exact m1
          · exact m2 r hx
        simp only [Bool.or_eq_true, decide_eq_true_eq]
        left
        show r.1 < m + 1
        omega)
      refine .for (ds := (a :: rs).map sD) (h' := h) (by rw [← eS]; simp [env7, ss_nilE, ss_consE, seq_next, seq_ret, seq_brk, seq_cont, s_iteE, ite_ok, s_setE, s_setTE, s_exE, s_retE, s_retNE, s_passE, s_brkE, s_contE, s_setSubE, e_nonE, e_blE, e_intE, e_strE, slR_val, e_varE, e_globE, e_binE, negR_int, e_negE, e_cmpE, e_chainE, e_andE, e_orE, e_notE, e_ifeE, e_tupE, e_lstE, e_subE, e_sliceE, e_callE, e_bltE, e_bmE, e_isiE, es_nilE, es_consE, es_starE, bs_nilE, bs_consE, o_noneE, intR_int, o_someE, c_noneE, c_someE, and_oneE, and_consE, or_oneE, or_consE, i_ofE, rngR1_int, rngR2_int, i_rng1E, i_rng2E, base_varK, baseV_own, baseV_val, 
    base_cst, base_glob, base_bin, base_neg, base_cmp, base_chain, base_and, base_or, base_not, base_ife, base_tup, base_lst, base_sub, base_slice, base_call, base_blt, base_bm, base_isi, base_lc, fin_ret, fin_next, test_ok, out_ok, see0, obD_lst, truth_int, truth_lst, truth_str, lt_int, le_int, gt_int, ge_int, eq_D, ne_D, is_non, isnot_non, in_D, notin_D, add_int, sub_int, len_lst, len_tup, len_str, int_int, list_lst, list_tup, tuple_lst, tuple_tup, ixN_lit, subL_lit, subT_lit, setAt_cell0, lim_k, cut_from1, binK_some, cmpK_some, s_tryE, try_ret, try_next, noExc_ret, noExc_next, s_raiseE, fin_exc, out_exc, test_exc, base_attr, base_meth, base_make, e_attrE, e_methE, methR_some, e_makeE, seq_exc, ite_exc, attr_ins, meth_ins, see_ins, obD_ins, setFldE, setFldK_own, putD_nil, putD_cons, fini_next, fini_exc, calls_tb, slice_fromL, slice_toL, pow12, max_ii, bool_bl, s_setAttrE, e_attrE, look_nil, look_cons, s_setNE, newOb_lst, fresh_lst, s_appE, s_frzE, lim_lt, itemsD]) L2 ?_
      have hm4 : mostF (m + 1) ((a :: rs).take 4) = m + 1 := mostF_fix _ _ fun r hx => by
        have hx := List.mem_of_mem_take hx
        have : r.1 ≤ m := by
          rcases List.mem_cons.mp hx with rfl | hx
          · exact m1
          · exact m2 r hx
        omega
      have T2 := ticked (n := n + 1) (h := h) (a := (m + 1, a.2)) (rs := (a :: rs).take 4) ⟨by show 0 ≤ m + 1; omega, by show m + 1 ≤ _; omega, a3, a4⟩ (by rw [List.length_take]; omega)
      simp only [hm4] at T2
      generalize ((a :: rs).take 4).map sD = Z at T2 sS4
      refine .set (d := told (decide (m + 1 + 1 ≤ 1000000000000)) (m + 1 + 1, a.2)) (h' := h) (by simp [env7, ss_nilE, ss_consE, seq_next, seq_ret, seq_brk, seq_cont, s_iteE, ite_ok, s_setE, s_setTE, s_exE, s_retE, s_retNE, s_passE, s_brkE, s_contE, s_setSubE, e_nonE, e_blE, e_intE, e_strE, slR_val, e_varE, e_globE, e_binE, negR_int, e_negE, e_cmpE, e_chainE, e_andE, e_orE, e_notE, e_ifeE, e_tupE, e_lstE, e_subE, e_sliceE, e_callE, e_bltE, e_bmE, e_isiE, es_nilE, es_consE, es_starE, bs_nilE, bs_consE, o_noneE, intR_int, o_someE, c_noneE, c_someE, and_oneE, and_consE, or_oneE, or_consE, i_ofE, rngR1_int, rngR2_int, i_rng1E, i_rng2E, base_varK, baseV_own, baseV_val, 
    base_cst, base_glob, base_bin, base_neg, base_cmp, base_chain, base_and, base_or, base_not, base_ife, base_tup, base_lst, base_sub, base_slice, base_call, base_blt, base_bm, base_isi, base_lc, fin_ret, fin_next, test_ok, out_ok, see0, obD_lst, truth_int, truth_lst, truth_str, lt_int, le_int, gt_int, ge_int, eq_D, ne_D, is_non, isnot_non, in_D, notin_D, add_int, sub_int, len_lst, len_tup, len_str, int_int, list_lst, list_tup, tuple_lst, tuple_tup, ixN_lit, subL_lit, subT_lit, setAt_cell0, lim_k, cut_from1, binK_some, cmpK_some, s_tryE, try_ret, try_next, noExc_ret, noExc_next, s_raiseE, fin_exc, out_exc, test_exc, base_attr, base_meth, base_make, e_attrE, e_methE, methR_some, e_makeE, seq_exc, ite_exc, attr_ins, meth_ins, see_ins, obD_ins, setFldE, setFldK_own, putD_nil, putD_cons, fini_next, fini_exc, calls_tb, slice_fromL, slice_toL, pow12, max_ii, bool_bl, s_setAttrE, e_attrE, look_nil, look_cons, s_setNE, newOb_lst, fresh_lst, s_appE, s_frzE, lim_lt, see_told, told1, seeS, sS4, T2]) ?_
      by_cases hc2 : m + 1 = 1000000000000
      · have hd : decide (m + 1 + 1 ≤ 1000000000000) = false := decide_eq_false (by omega)
        rw [hd]
        exact .ret (d := .bl true) (h' := h) (by simp [env7, ss_nilE, ss_consE, seq_next, seq_ret, seq_brk, seq_cont, s_iteE, ite_ok, s_setE, s_setTE, s_exE, s_retE, s_retNE, s_passE, s_brkE, s_contE, s_setSubE, e_nonE, e_blE, e_intE, e_strE, slR_val, e_varE, e_globE, e_binE, negR_int, e_negE, e_cmpE, e_chainE, e_andE, e_orE, e_notE, e_ifeE, e_tupE, e_lstE, e_subE, e_sliceE, e_callE, e_bltE, e_bmE, e_isiE, es_nilE, es_consE, es_starE, bs_nilE, bs_consE, o_noneE, intR_int, o_someE, c_noneE, c_someE, and_oneE, and_consE, or_oneE, or_consE, i_ofE, rngR1_int, rngR2_int, i_rng1E, i_rng2E, base_varK, baseV_own, baseV_val, 
    base_cst, base_glob, base_bin, base_neg, base_cmp, base_chain, base_and, base_or, base_not, base_ife, base_tup, base_lst, base_sub, base_slice, base_call, base_blt, base_bm, base_isi, base_lc, fin_ret, fin_next, test_ok, out_ok, see0, obD_lst, truth_int, truth_lst, truth_str, lt_int, le_int, gt_int, ge_int, eq_D, ne_D, is_non, isnot_non, in_D, notin_D, add_int, sub_int, len_lst, len_tup, len_str, int_int, list_lst, list_tup, tuple_lst, tuple_tup, ixN_lit, subL_lit, subT_lit, setAt_cell0, lim_k, cut_from1, binK_some, cmpK_some, s_tryE, try_ret, try_next, noExc_ret, noExc_next, s_raiseE, fin_exc, out_exc, test_exc, base_attr, base_meth, base_make, e_attrE, e_methE, methR_some, e_makeE, seq_exc, ite_exc, attr_ins, meth_ins, see_ins, obD_ins, setFldE, setFldK_own, putD_nil, putD_cons, fini_next, fini_exc, calls_tb, slice_fromL, slice_toL, pow12, max_ii, bool_bl, s_setAttrE, e_attrE, look_nil, look_cons, s_setNE, newOb_lst, fresh_lst, s_appE, s_frzE, lim_lt, hc2, see_told, told0, eq_ref]) ⟨rfl, rfl⟩
      · have hd : decide (m + 1 + 1 ≤ 1000000000000) = true := decide_eq_true (by omega)
        rw [hd]
        refine .test (h' := h) (by simp [env7, ss_nilE, ss_consE, seq_next, seq_ret, seq_brk, seq_cont, s_iteE, ite_ok, s_setE, s_setTE, s_exE, s_retE, s_retNE, s_passE, s_brkE, s_contE, s_setSubE, e_nonE, e_blE, e_intE, e_strE, slR_val, e_varE, e_globE, e_binE, negR_int, e_negE, e_cmpE, e_chainE, e_andE, e_orE, e_notE, e_ifeE, e_tupE, e_lstE, e_subE, e_sliceE, e_callE, e_bltE, e_bmE, e_isiE, es_nilE, es_consE, es_starE, bs_nilE, bs_consE, o_noneE, intR_int, o_someE, c_noneE, c_someE, and_oneE, and_consE, or_oneE, or_consE, i_ofE, rngR1_int, rngR2_int, i_rng1E, i_rng2E, base_varK, baseV_own, baseV_val, 
    base_cst, base_glob, base_bin, base_neg, base_cmp, base_chain, base_and, base_or, base_not, base_ife, base_tup, base_lst, base_sub, base_slice, base_call, base_blt, base_bm, base_isi, base_lc, fin_ret, fin_next, test_ok, out_ok, see0, obD_lst, truth_int, truth_lst, truth_str, lt_int, le_int, gt_int, ge_int, eq_D, ne_D, is_non, isnot_non, in_D, notin_D, add_int, sub_int, len_lst, len_tup, len_str, int_int, list_lst, list_tup, tuple_lst, tuple_tup, ixN_lit, subL_lit, subT_lit, setAt_cell0, lim_k, cut_from1, binK_some, cmpK_some, s_tryE, try_ret, try_next, noExc_ret, noExc_next, s_raiseE, fin_exc, out_exc, test_exc, base_attr, base_meth, base_make, e_attrE, e_methE, methR_some, e_makeE, seq_exc, ite_exc, attr_ins, meth_ins, see_ins, obD_ins, setFldE, setFldK_own, putD_nil, putD_cons, fini_next, fini_exc, calls_tb, slice_fromL, slice_toL, pow12, max_ii, bool_bl, s_setAttrE, e_attrE, look_nil, look_cons, s_setNE, newOb_lst, fresh_lst, s_appE, s_frzE, lim_lt, hc2]) ?_
        have I2 := is_stamp (n := n) (r := (m + 1 + 1, a.2)) (h := h)
        have e2 : rD (m + 1 + 1, a.2) = .tup [.int (m + 2), .int a.2] := by
          show D.tup [.int (m + 1 + 1), .int a.2] = _
          rw [Int.add_assoc]
          rfl
        rw [e2] at I2
        exact .ret (d := .bl true) (h' := h) (by simp [env7, ss_nilE, ss_consE, seq_next, seq_ret, seq_brk, seq_cont, s_iteE, ite_ok, s_setE, s_setTE, s_exE, s_retE, s_retNE, s_passE, s_brkE, s_contE, s_setSubE, e_nonE, e_blE, e_intE, e_strE, slR_val, e_varE, e_globE, e_binE, negR_int, e_negE, e_cmpE, e_chainE, e_andE, e_orE, e_notE, e_ifeE, e_tupE, e_lstE, e_subE, e_sliceE, e_callE, e_bltE, e_bmE, e_isiE, es_nilE, es_consE, es_starE, bs_nilE, bs_consE, o_noneE, intR_int, o_someE, c_noneE, c_someE, and_oneE, and_consE, or_oneE, or_consE, i_ofE, rngR1_int, rngR2_int, i_rng1E, i_rng2E, base_varK, baseV_own, baseV_val, 
    base_cst, base_glob, base_bin, base_neg, base_cmp, base_chain, base_and, base_or, base_not, base_ife, base_tup, base_lst, base_sub, base_slice, base_call, base_blt, base_bm, base_isi, base_lc, fin_ret, fin_next, test_ok, out_ok, see0, obD_lst, truth_int, truth_lst, truth_str, lt_int, le_int, gt_int, ge_int, eq_D, ne_D, is_non, isnot_non, in_D, notin_D, add_int, sub_int, len_lst, len_tup, len_str, int_int, list_lst, list_tup, tuple_lst, tuple_tup, ixN_lit, subL_lit, subT_lit, setAt_cell0, lim_k, cut_from1, binK_some, cmpK_some, s_tryE, try_ret, try_next, noExc_ret, noExc_next, s_raiseE, fin_exc, out_exc, test_exc, base_attr, base_meth, base_make, e_attrE, e_methE, methR_some, e_makeE, seq_exc, ite_exc, attr_ins, meth_ins, see_ins, obD_ins, setFldE, setFldK_own, putD_nil, putD_cons, fini_next, fini_exc, calls_tb, slice_fromL, slice_toL, pow12, max_ii, bool_bl, s_setAttrE, e_attrE, look_nil, look_cons, s_setNE, newOb_lst, fresh_lst, s_appE, s_frzE, lim_lt, see_told, told1, seeR, sR0, see_rD, subT1, I1, I2]) ⟨rfl, rfl⟩
  obtain ⟨d, c, h1, rfl, rfl⟩ := key
  show (evSs (Fd (n + 4)) gl c__law_ticks_well [.val S, .val R, .no, .no, .no, .no, .no] c).fin = _
  unfold env7 at h1
  rw [h1]
  rfl
/-! ### tells_latest -/
def cBest : CSs := .cons (.ite (.or (.cons (.cmp .is (.var 2) (.cst .non)) (.cons (.cmp .lt (.sub (.var 2) (.cst (.int 0))) (.sub (.var 3) (.cst (.int 0)))) (.cons (.and (.cons (.cmp .eq (.sub (.var 2) (.cst (.int 0))) (.sub (.var 3) (.cst (.int 0)))) (.cons (.cmp .lt (.sub (.var 2) (.cst (.int 1))) (.sub (.var 3) (.cst (.int 1)))) .nil))) .nil)))) (.cons (.set 2 (.var 3)) .nil) .nil) .nil
theorem isNon_rD (a : Row) : Rf.isNon (rD a) = false := nd rfl
theorem best_turn {F : FTab} {s0 s1 s4 : Sl} {o : Option Row} {r : Row} {h : Cells} : evSs F gl cBest [s0, s1, .val (oR o), .val (rD r), s4] h = .next [s0, s1, .val (oR (better o r)), .val (rD r), s4] h := by
  cases o with
  | none => simp [cBest, ss_nilE, ss_consE, seq_next, seq_ret, seq_brk, seq_cont, s_iteE, ite_ok, s_setE, s_setTE, s_exE, s_retE, s_retNE, s_passE, s_brkE, s_contE, s_setSubE, e_nonE, e_blE, e_intE, e_strE, slR_val, e_varE, e_globE, e_binE, negR_int, e_negE, e_cmpE, e_chainE, e_andE, e_orE, e_notE, e_ifeE, e_tupE, e_lstE, e_subE, e_sliceE, e_callE, e_bltE, e_bmE, e_isiE, es_nilE, es_consE, es_starE, bs_nilE, bs_consE, o_noneE, intR_int, o_someE, c_noneE, c_someE, and_oneE, and_consE, or_oneE, or_consE, i_ofE, rngR1_int, rngR2_int, i_rng1E, i_rng2E, base_varK, baseV_own, baseV_val, 
    base_cst, base_glob, base_bin, base_neg, base_cmp, base_chain, base_and, base_or, base_not, base_ife, base_tup, base_lst, base_sub, base_slice, base_call, base_blt, base_bm, base_isi, base_lc, fin_ret, fin_next, test_ok, out_ok, see0, obD_lst, truth_int, truth_lst, truth_str, lt_int, le_int, gt_int, ge_int, eq_D, ne_D, is_non, isnot_non, in_D, notin_D, add_int, sub_int, len_lst, len_tup, len_str, int_int, list_lst, list_tup, tuple_lst, tuple_tup, ixN_lit, subL_lit, subT_lit, setAt_cell0, lim_k, cut_from1, binK_some, cmpK_some, s_tryE, try_ret, try_next, noExc_ret, noExc_next, s_raiseE, fin_exc, out_exc, test_exc, base_attr, base_meth, base_make, e_attrE, e_methE, methR_some, e_makeE, seq_exc, ite_exc, attr_ins, meth_ins, see_ins, obD_ins, setFldE, setFldK_own, putD_nil, putD_cons, fini_next, fini_exc, calls_tb, slice_fromL, slice_toL, pow12, max_ii, bool_bl, s_setAttrE, e_attrE, look_nil, look_cons, s_setNE, newOb_lst, fresh_lst, s_appE, s_frzE, lim_lt, oR, better, Rf.isNon]
  | some b =>
    have e := ltR_iff b r
    by_cases h1 : b.1 < r.1
    · have e' : ltR b r = true := by rw [e]; simp [h1]
      simp [cBest, ss_nilE, ss_consE, seq_next, seq_ret, seq_brk, seq_cont, s_iteE, ite_ok, s_setE, s_setTE, s_exE, s_retE, s_retNE, s_passE, s_brkE, s_contE, s_setSubE, e_nonE, e_blE, e_intE, e_strE, slR_val, e_varE, e_globE, e_binE, negR_int, e_negE, e_cmpE, e_chainE, e_andE, e_orE, e_notE, e_ifeE, e_tupE, e_lstE, e_subE, e_sliceE, e_callE, e_bltE, e_bmE, e_isiE, es_nilE, es_consE, es_starE, bs_nilE, bs_consE, o_noneE, intR_int, o_someE, c_noneE, c_someE, and_oneE, and_consE, or_oneE, or_consE, i_ofE, rngR1_int, rngR2_int, i_rng1E, i_rng2E, base_varK, baseV_own, baseV_val, 
    base_cst, base_glob, base_bin, base_neg, base_cmp, base_chain, base_and, base_or, base_not, base_ife, base_tup, base_lst, base_sub, base_slice, base_call, base_blt, base_bm, base_isi, base_lc, fin_ret, fin_next, test_ok, out_ok, see0, obD_lst, truth_int, truth_lst, truth_str, lt_int, le_int, gt_int, ge_int, eq_D, ne_D, is_non, isnot_non, in_D, notin_D, add_int, sub_int, len_lst, len_tup, len_str, int_int, list_lst, list_tup, tuple_lst, tuple_tup, ixN_lit, subL_lit, subT_lit, setAt_cell0, lim_k, cut_from1, binK_some, cmpK_some, s_tryE, try_ret, try_next, noExc_ret, noExc_next, s_raiseE, fin_exc, out_exc, test_exc, base_attr, base_meth, base_make, e_attrE, e_methE, methR_some, e_makeE, seq_exc, ite_exc, attr_ins, meth_ins, see_ins, obD_ins, setFldE, setFldK_own, putD_nil, putD_cons, fini_next, fini_exc, calls_tb, slice_fromL, slice_toL, pow12, max_ii, bool_bl, s_setAttrE, e_attrE, look_nil, look_cons, s_setNE, newOb_lst, fresh_lst, s_appE, s_frzE, lim_lt, oR, better, isNon_rD, see_rD, subT0, subT1, h1, e']
    · by_cases h2 : b.1 = r.1
      · by_cases h3 : b.2 < r.2
        · have e' : ltR b r = true := by rw [e]; simp [h2, h3]
          simp [cBest, ss_nilE, ss_consE, seq_next, seq_ret, seq_brk, seq_cont, s_iteE, ite_ok, s_setE, s_setTE, s_exE, s_retE, s_retNE, s_passE, s_brkE, s_contE, s_setSubE, e_nonE, e_blE, e_intE, e_strE, slR_val, e_varE, e_globE, e_binE, negR_int, e_negE, e_cmpE, e_chainE, e_andE, e_orE, e_notE, e_ifeE, e_tupE, e_lstE, e_subE, e_sliceE, e_callE, e_bltE, e_bmE, e_isiE, es_nilE, es_consE, es_starE, bs_nilE, bs_consE, o_noneE, intR_int, o_someE, c_noneE, c_someE, and_oneE, and_consE, or_oneE, or_consE, i_ofE, rngR1_int, rngR2_int, i_rng1E, i_rng2E, base_varK, baseV_own, baseV_val, 
    base_cst, base_glob, base_bin, base_neg, base_cmp, base_chain, base_and, base_or, base_not, base_ife, base_tup, base_lst, base_sub, base_slice, base_call, base_blt, base_bm, base_isi, base_lc, fin_ret, fin_next, test_ok, out_ok, see0, obD_lst, truth_int, truth_lst, truth_str, lt_int, le_int, gt_int, ge_int, eq_D, ne_D, is_non, isnot_non, in_D, notin_D, add_int, sub_int, len_lst, len_tup, len_str, int_int, list_lst, list_tup, tuple_lst, tuple_tup, ixN_lit, subL_lit, subT_lit, setAt_cell0, lim_k, cut_from1, binK_some, cmpK_some, s_tryE, try_ret, try_next, noExc_ret, noExc_next, s_raiseE, fin_exc, out_exc, test_exc, base_attr, base_meth, base_make, e_attrE, e_methE, methR_some, e_makeE, seq_exc, ite_exc, attr_ins, meth_ins, see_ins, obD_ins, setFldE, setFldK_own, putD_nil, putD_cons, fini_next, fini_exc, calls_tb, slice_fromL, slice_toL, pow12, max_ii, bool_bl, s_setAttrE, e_attrE, look_nil, look_cons, s_setNE, newOb_lst, fresh_lst, s_appE, s_frzE, lim_lt, oR, better, isNon_rD, see_rD, subT0, subT1, h1, h2, h3, e']
        · have e' : ltR b r = false := by rw [e]; simp [h1, h2, h3]
          simp [cBest, ss_nilE, ss_consE, seq_next, seq_ret, seq_brk, seq_cont, s_iteE, ite_ok, s_setE, s_setTE, s_exE, s_retE, s_retNE, s_passE, s_brkE, s_contE, s_setSubE, e_nonE, e_blE, e_intE, e_strE, slR_val, e_varE, e_globE, e_binE, negR_int, e_negE, e_cmpE, e_chainE, e_andE, e_orE, e_notE, e_ifeE, e_tupE, e_lstE, e_subE, e_sliceE, e_callE, e_bltE, e_bmE, e_isiE, es_nilE, es_consE, es_starE, bs_nilE, bs_consE, o_noneE, intR_int, o_someE, c_noneE, c_someE, and_oneE, and_consE, or_oneE, or_consE, i_ofE, rngR1_int, rngR2_int, i_rng1E, i_rng2E, base_varK, baseV_own, baseV_val, 
    base_cst, base_glob, base_bin, base_neg, base_cmp, base_chain, base_and, base_or, base_not, base_ife, base_tup, base_lst, base_sub, base_slice, base_call, base_blt, base_bm, base_isi, base_lc, fin_ret, fin_next, test_ok, out_ok, see0, obD_lst, truth_int, truth_lst, truth_str, lt_int, le_int, gt_int, ge_int, eq_D, ne_D, is_non, isnot_non, in_D, notin_D, add_int, sub_int, len_lst, len_tup, len_str, int_int, list_lst, list_tup, tuple_lst, tuple_tup, ixN_lit, subL_lit, subT_lit, setAt_cell0, lim_k, cut_from1, binK_some, cmpK_some, s_tryE, try_ret, try_next, noExc_ret, noExc_next, s_raiseE, fin_exc, out_exc, test_exc, base_attr, base_meth, base_make, e_attrE, e_methE, methR_some, e_makeE, seq_exc, ite_exc, attr_ins, meth_ins, see_ins, obD_ins, setFldE, setFldK_own, putD_nil, putD_cons, fini_next, fini_exc, calls_tb, slice_fromL, slice_toL, pow12, max_ii, bool_bl, s_setAttrE, e_attrE, look_nil, look_cons, s_setNE, newOb_lst, fresh_lst, s_appE, s_frzE, lim_lt, oR, better, isNon_rD, see_rD, subT0, subT1, h1, h2, h3, e']
      · have e' : ltR b r = false := by rw [e]; simp [h1, h2]
        simp [cBest, ss_nilE, ss_consE, seq_next, seq_ret, seq_brk, seq_cont, s_iteE, ite_ok, s_setE, s_setTE, s_exE, s_retE, s_retNE, s_passE, s_brkE, s_contE, s_setSubE, e_nonE, e_blE, e_intE, e_strE, slR_val, e_varE, e_globE, e_binE, negR_int, e_negE, e_cmpE, e_chainE, e_andE, e_orE, e_notE, e_ifeE, e_tupE, e_lstE, e_subE, e_sliceE, e_callE, e_bltE, e_bmE, e_isiE, es_nilE, es_consE, es_starE, bs_nilE, bs_consE, o_noneE, intR_int, o_someE, c_noneE, c_someE, and_oneE, and_consE, or_oneE, or_consE, i_ofE, rngR1_int, rngR2_int, i_rng1E, i_rng2E, base_varK, baseV_own, baseV_val, 
    base_cst, base_glob, base_bin, base_neg, base_cmp, base_chain, base_and, base_or, base_not, base_ife, base_tup, base_lst, base_sub, base_slice, base_call, base_blt, base_bm, base_isi, base_lc, fin_ret, fin_next, test_ok, out_ok, see0, obD_lst, truth_int, truth_lst, truth_str, lt_int, le_int, gt_int, ge_int, eq_D, ne_D, is_non, isnot_non, in_D, notin_D, add_int, sub_int, len_lst, len_tup, len_str, int_int, list_lst, list_tup, tuple_lst, tuple_tup, ixN_lit, subL_lit, subT_lit, setAt_cell0, lim_k, cut_from1, binK_some, cmpK_some, s_tryE, try_ret, try_next, noExc_ret, noExc_next, s_raiseE, fin_exc, out_exc, test_exc, base_attr, base_meth, base_make, e_attrE, e_methE, methR_some, e_makeE, seq_exc, ite_exc, attr_ins, meth_ins, see_ins, obD_ins, setFldE, setFldK_own, putD_nil, putD_cons, fini_next, fini_exc, calls_tb, slice_fromL, slice_toL, pow12, max_ii, bool_bl, s_setAttrE, e_attrE, look_nil, look_cons, s_setNE, newOb_lst, fresh_lst, s_appE, s_frzE, lim_lt, oR, better, isNon_rD, see_rD, subT0, subT1, h1, h2, e']
theorem best_loop {F : FTab} {s0 s1 s4 : Sl} {h : Cells} : ∀ (rs : List Row) (o : Option Row) (x : Sl), ∃ x', forGo (.name 3) (evSs F gl cBest) (rs.map rD) [s0, s1, .val (oR o), x, s4] h = .next [s0, s1, .val (oR (bestF o rs)), x', s4] h
  | [], o, x => ⟨x, rfl⟩
  | r :: rs, o, x => by
    obtain ⟨x', hx⟩ := best_loop (F := F) (s0 := s0) (s1 := s1) (s4 := s4) (h := h) rs (better o r) (.val (rD r))
    refine ⟨x', ?_⟩
    rw [List.map_cons]
    unfold forGo
    simp only [bindT_name, List.set_cons_succ, List.set_cons_zero]
    rw [best_turn]
    exact hx
theorem tells_latest {n : Nat} {rs : List Row} {h : Cells} (hl : rs.length ≤ 5) : (Fd (n + 5)).call 19 [.lst (rs.map sD), .lst (rs.map rD)] h = .ok (.bl true) h := by
  rw [call_run (fn := f__law_tells_latest) rfl rfl rfl]
  obtain ⟨x1, L1⟩ := best_loop (F := Fd (n + 4)) (s0 := .val (.lst (rs.map sD))) (s1 := .val (.lst (rs.map rD))) (s4 := .no) (h := h) rs none .no
  have T := law_latest (n := n + 1) (h := h) hl
  have key : RetP (Fd (n + 4)) gl c__law_tells_latest [.val (.lst (rs.map sD)), .val (.lst (rs.map rD)), .no, .no, .no] h fun d c => d = .bl true ∧ c = h := by
    refine .set (e_nonE _ _ _ _) ?_
    refine .for (ds := rs.map rD) (h' := h) (by simp [ss_nilE, ss_consE, seq_next, seq_ret, seq_brk, seq_cont, s_iteE, ite_ok, s_setE, s_setTE, s_exE, s_retE, s_retNE, s_passE, s_brkE, s_contE, s_setSubE, e_nonE, e_blE, e_intE, e_strE, slR_val, e_varE, e_globE, e_binE, negR_int, e_negE, e_cmpE, e_chainE, e_andE, e_orE, e_notE, e_ifeE, e_tupE, e_lstE, e_subE, e_sliceE, e_callE, e_bltE, e_bmE, e_isiE, es_nilE, es_consE, es_starE, bs_nilE, bs_consE, o_noneE, intR_int, o_someE, c_noneE, c_someE, and_oneE, and_consE, or_oneE, or_consE, i_ofE, rngR1_int, rngR2_int, i_rng1E, i_rng2E, base_varK, baseV_own, baseV_val, 
    base_cst, base_glob, base_bin, base_neg, base_cmp, base_chain, base_and, base_or, base_not, base_ife, base_tup, base_lst, base_sub, base_slice, base_call, base_blt, base_bm, base_isi, base_lc, fin_ret, fin_next, test_ok, out_ok, see0, obD_lst, truth_int, truth_lst, truth_str, lt_int, le_int, gt_int, ge_int, eq_D, ne_D, is_non, isnot_non, in_D, notin_D, add_int, sub_int, len_lst, len_tup, len_str, int_int, list_lst, list_tup, tuple_lst, tuple_tup, ixN_lit, subL_lit, subT_lit, setAt_cell0, lim_k, cut_from1, binK_some, cmpK_some, s_tryE, try_ret, try_next, noExc_ret, noExc_next, s_raiseE, fin_exc, out_exc, test_exc, base_attr, base_meth, base_make, e_attrE, e_methE, methR_some, e_makeE, seq_exc, ite_exc, attr_ins, meth_ins, see_ins, obD_ins, setFldE, setFldK_own, putD_nil, putD_cons, fini_next, fini_exc, calls_tb, slice_fromL, slice_toL, pow12, max_ii, bool_bl, s_setAttrE, e_attrE, look_nil, look_cons, s_setNE, newOb_lst, fresh_lst, s_appE, s_frzE, lim_lt, itemsD]) L1 ?_
    refine .set (d := oS (bestF none rs)) (h' := h) (by simp [ss_nilE, ss_consE, seq_next, seq_ret, seq_brk, seq_cont, s_iteE, ite_ok, s_setE, s_setTE, s_exE, s_retE, s_retNE, s_passE, s_brkE, s_contE, s_setSubE, e_nonE, e_blE, e_intE, e_strE, slR_val, e_varE, e_globE, e_binE, negR_int, e_negE, e_cmpE, e_chainE, e_andE, e_orE, e_notE, e_ifeE, e_tupE, e_lstE, e_subE, e_sliceE, e_callE, e_bltE, e_bmE, e_isiE, es_nilE, es_consE, es_starE, bs_nilE, bs_consE, o_noneE, intR_int, o_someE, c_noneE, c_someE, and_oneE, and_consE, or_oneE, or_consE, i_ofE, rngR1_int, rngR2_int, i_rng1E, i_rng2E, base_varK, baseV_own, baseV_val, 
    base_cst, base_glob, base_bin, base_neg, base_cmp, base_chain, base_and, base_or, base_not, base_ife, base_tup, base_lst, base_sub, base_slice, base_call, base_blt, base_bm, base_isi, base_lc, fin_ret, fin_next, test_ok, out_ok, see0, obD_lst, truth_int, truth_lst, truth_str, lt_int, le_int, gt_int, ge_int, eq_D, ne_D, is_non, isnot_non, in_D, notin_D, add_int, sub_int, len_lst, len_tup, len_str, int_int, list_lst, list_tup, tuple_lst, tuple_tup, ixN_lit, subL_lit, subT_lit, setAt_cell0, lim_k, cut_from1, binK_some, cmpK_some, s_tryE, try_ret, try_next, noExc_ret, noExc_next, s_raiseE, fin_exc, out_exc, test_exc, base_attr, base_meth, base_make, e_attrE, e_methE, methR_some, e_makeE, seq_exc, ite_exc, attr_ins, meth_ins, see_ins, obD_ins, setFldE, setFldK_own, putD_nil, putD_cons, fini_next, fini_exc, calls_tb, slice_fromL, slice_toL, pow12, max_ii, bool_bl, s_setAttrE, e_attrE, look_nil, look_cons, s_setNE, newOb_lst, fresh_lst, s_appE, s_frzE, lim_lt, T]) ?_
    cases q : bestF none rs with
    | none => exact .ret (d := .bl true) (h' := h) (by simp [ss_nilE, ss_consE, seq_next, seq_ret, seq_brk, seq_cont, s_iteE, ite_ok, s_setE, s_setTE, s_exE, s_retE, s_retNE, s_passE, s_brkE, s_contE, s_setSubE, e_nonE, e_blE, e_intE, e_strE, slR_val, e_varE, e_globE, e_binE, negR_int, e_negE, e_cmpE, e_chainE, e_andE, e_orE, e_notE, e_ifeE, e_tupE, e_lstE, e_subE, e_sliceE, e_callE, e_bltE, e_bmE, e_isiE, es_nilE, es_consE, es_starE, bs_nilE, bs_consE, o_noneE, intR_int, o_someE, c_noneE, c_someE, and_oneE, and_consE, or_oneE, or_consE, i_ofE, rngR1_int, rngR2_int, i_rng1E, i_rng2E, base_varK, baseV_own, baseV_val, 
    base_cst, base_glob, base_bin, base_neg, base_cmp, base_chain, base_and, base_or, base_not, base_ife, base_tup, base_lst, base_sub, base_slice, base_call, base_blt, base_bm, base_isi, base_lc, fin_ret, fin_next, test_ok, out_ok, see0, obD_lst, truth_int, truth_lst, truth_str, lt_int, le_int, gt_int, ge_int, eq_D, ne_D, is_non, isnot_non, in_D, notin_D, add_int, sub_int, len_lst, len_tup, len_str, int_int, list_lst, list_tup, tuple_lst, tuple_tup, ixN_lit, subL_lit, subT_lit, setAt_cell0, lim_k, cut_from1, binK_some, cmpK_some, s_tryE, try_ret, try_next, noExc_ret, noExc_next, s_raiseE, fin_exc, out_exc, test_exc, base_attr, base_meth, base_make, e_attrE, e_methE, methR_some, e_makeE, seq_exc, ite_exc, attr_ins, meth_ins, see_ins, obD_ins, setFldE, setFldK_own, putD_nil, putD_cons, fini_next, fini_exc, calls_tb, slice_fromL, slice_toL, pow12, max_ii, bool_bl, s_setAttrE, e_attrE, look_nil, look_cons, s_setNE, newOb_lst, fresh_lst, s_appE, s_frzE, lim_lt, oR, oS, Rf.isNon]) ⟨rfl, rfl⟩
    | some b =>
      refine .test (h' := h) (by simp [ss_nilE, ss_consE, seq_next, seq_ret, seq_brk, seq_cont, s_iteE, ite_ok, s_setE, s_setTE, s_exE, s_retE, s_retNE, s_passE, s_brkE, s_contE, s_setSubE, e_nonE, e_blE, e_intE, e_strE, slR_val, e_varE, e_globE, e_binE, negR_int, e_negE, e_cmpE, e_chainE, e_andE, e_orE, e_notE, e_ifeE, e_tupE, e_lstE, e_subE, e_sliceE, e_callE, e_bltE, e_bmE, e_isiE, es_nilE, es_consE, es_starE, bs_nilE, bs_consE, o_noneE, intR_int, o_someE, c_noneE, c_someE, and_oneE, and_consE, or_oneE, or_consE, i_ofE, rngR1_int, rngR2_int, i_rng1E, i_rng2E, base_varK, baseV_own, baseV_val, 
    base_cst, base_glob, base_bin, base_neg, base_cmp, base_chain, base_and, base_or, base_not, base_ife, base_tup, base_lst, base_sub, base_slice, base_call, base_blt, base_bm, base_isi, base_lc, fin_ret, fin_next, test_ok, out_ok, see0, obD_lst, truth_int, truth_lst, truth_str, lt_int, le_int, gt_int, ge_int, eq_D, ne_D, is_non, isnot_non, in_D, notin_D, add_int, sub_int, len_lst, len_tup, len_str, int_int, list_lst, list_tup, tuple_lst, tuple_tup, ixN_lit, subL_lit, subT_lit, setAt_cell0, lim_k, cut_from1, binK_some, cmpK_some, s_tryE, try_ret, try_next, noExc_ret, noExc_next, s_raiseE, fin_exc, out_exc, test_exc, base_attr, base_meth, base_make, e_attrE, e_methE, methR_some, e_makeE, seq_exc, ite_exc, attr_ins, meth_ins, see_ins, obD_ins, setFldE, setFldK_own, putD_nil, putD_cons, fini_next, fini_exc, calls_tb, slice_fromL, slice_toL, pow12, max_ii, bool_bl, s_setAttrE, e_attrE, look_nil, look_cons, s_setNE, newOb_lst, fresh_lst, s_appE, s_frzE, lim_lt, oR, isNon_rD, see_rD]) ?_
      have I1 := is_stamp (n := n) (r := b) (h := h)
      exact .ret (d := .bl true) (h' := h) (by simp [ss_nilE, ss_consE, seq_next, seq_ret, seq_brk, seq_cont, s_iteE, ite_ok, s_setE, s_setTE, s_exE, s_retE, s_retNE, s_passE, s_brkE, s_contE, s_setSubE, e_nonE, e_blE, e_intE, e_strE, slR_val, e_varE, e_globE, e_binE, negR_int, e_negE, e_cmpE, e_chainE, e_andE, e_orE, e_notE, e_ifeE, e_tupE, e_lstE, e_subE, e_sliceE, e_callE, e_bltE, e_bmE, e_isiE, es_nilE, es_consE, es_starE, bs_nilE, bs_consE, o_noneE, intR_int, o_someE, c_noneE, c_someE, and_oneE, and_consE, or_oneE, or_consE, i_ofE, rngR1_int, rngR2_int, i_rng1E, i_rng2E, base_varK, baseV_own, baseV_val, 
    base_cst, base_glob, base_bin, base_neg, base_cmp, base_chain, base_and, base_or, base_not, base_ife, base_tup, base_lst, base_sub, base_slice, base_call, base_blt, base_bm, base_isi, base_lc, fin_ret, fin_next, test_ok, out_ok, see0, obD_lst, truth_int, truth_lst, truth_str, lt_int, le_int, gt_int, ge_int, eq_D, ne_D, is_non, isnot_non, in_D, notin_D, add_int, sub_int, len_lst, len_tup, len_str, int_int, list_lst, list_tup, tuple_lst, tuple_tup, ixN_lit, subL_lit, subT_lit, setAt_cell0, lim_k, cut_from1, binK_some, cmpK_some, s_tryE, try_ret, try_next, noExc_ret, noExc_next, s_raiseE, fin_exc, out_exc, test_exc, base_attr, base_meth, base_make, e_attrE, e_methE, methR_some, e_makeE, seq_exc, ite_exc, attr_ins, meth_ins, see_ins, obD_ins, setFldE, setFldK_own, putD_nil, putD_cons, fini_next, fini_exc, calls_tb, slice_fromL, slice_toL, pow12, max_ii, bool_bl, s_setAttrE, e_attrE, look_nil, look_cons, s_setNE, newOb_lst, fresh_lst, s_appE, s_frzE, lim_lt, oR, oS, I1]) ⟨rfl, rfl⟩
  obtain ⟨d, c, h1, rfl, rfl⟩ := key
  show (evSs (Fd (n + 4)) gl c__law_tells_latest [.val (.lst (rs.map sD)), .val (.lst (rs.map rD)), .no, .no, .no] c).fin = _
  rw [h1]
  rfl
end K04
set_option Elab.async false
set_option linter.all false
set_option maxRecDepth 100000
set_option maxHeartbeats 4000000
namespace K04
open PySem L2 Rf
theorem dr (n : Nat) {h : Cells} (q : DS [] h) {lim : Int} (h2 : 1 ≤ lim) (h3 : lim < 2 ^ 62) : ∃ v h', DS [] h' ∧ 0 ≤ v ∧ v < lim ∧ (Fd (n + 1)).call 12 [.cell 0, .int lim] h = .ok (.int v) h' := draw (fs := fs) rfl n q h2 h3
theorem all2_rows : ∀ {ds xs : List D}, All2 (fun _ x => ∃ r, okR r ∧ x = rD r) ds xs → ∃ rs : List Row, rs.length = ds.length ∧ (∀ r ∈ rs, okR r) ∧ xs = rs.map rD
  | [], [], .nil => ⟨[], rfl, (fun _ h => nomatch h), rfl⟩
  | _ :: _, _ :: _, .cons ⟨r, hr, e⟩ t => by
    obtain ⟨rs, h1, h2, h3⟩ := all2_rows t
    refine ⟨r :: rs, by simp [h1], fun x hx => ?_, by rw [e, h3]; rfl⟩
    rcases List.mem_cons.mp hx with rfl | hx
    · exact hr
    · exact h2 x hx
def eltR : CE := .tup (.cons (.call 12 (.cons (.var 0) (.cons (.bin .add (.bin .pow (.cst (.int 10)) (.cst (.int 12))) (.cst (.int 1))) .nil))) (.cons (.call 12 (.cons (.var 0) (.cons (.cst (.int 100)) .nil))) .nil))
theorem elt_ok {n : Nat} {env : En} {h : Cells} (he : env[(0 : Nat)]? = some (.val (.cell 0))) (q : DS [] h) : ∃ r h', DS [] h' ∧ okR r ∧ evE (Fd (n + 1)) gl env eltR h = .ok (rD r) h' := by
  obtain ⟨v1, h1, q1, a1, b1, e1⟩ := dr n q (lim := 1000000000001) (by decide) (by decide)
  obtain ⟨v2, h2, q2, a2, b2, e2⟩ := dr n q1 (lim := 100) (by decide) (by decide)
  refine ⟨(v1, v2), h2, q2, ⟨a1, by show v1 ≤ _; omega, a2, by show v2 ≤ _; omega⟩, ?_⟩
  simp [eltR, ss_nilE, ss_consE, seq_next, seq_ret, seq_brk, seq_cont, s_iteE, ite_ok, s_setE, s_setTE, s_exE, s_retE, s_retNE, s_passE, s_brkE, s_contE, s_setSubE, e_nonE, e_blE, e_intE, e_strE, slR_val, e_varE, e_globE, e_binE, negR_int, e_negE, e_cmpE, e_chainE, e_andE, e_orE, e_notE, e_ifeE, e_tupE, e_lstE, e_subE, e_sliceE, e_callE, e_bltE, e_bmE, e_isiE, es_nilE, es_consE, es_starE, bs_nilE, bs_consE, o_noneE, intR_int, o_someE, c_noneE, c_someE, and_oneE, and_consE, or_oneE, or_consE, i_ofE, rngR1_int, rngR2_int, i_rng1E, i_rng2E, base_varK, baseV_own, baseV_val, 
    base_cst, base_glob, base_bin, base_neg, base_cmp, base_chain, base_and, base_or, base_not, base_ife, base_tup, base_lst, base_sub, base_slice, base_call, base_blt, base_bm, base_isi, base_lc, fin_ret, fin_next, test_ok, out_ok, see0, obD_lst, truth_int, truth_lst, truth_str, lt_int, le_int, gt_int, ge_int, eq_D, ne_D, is_non, isnot_non, in_D, notin_D, add_int, sub_int, len_lst, len_tup, len_str, int_int, list_lst, list_tup, tuple_lst, tuple_tup, ixN_lit, subL_lit, subT_lit, setAt_cell0, lim_k, cut_from1, binK_some, cmpK_some, s_tryE, try_ret, try_next, noExc_ret, noExc_next, s_raiseE, fin_exc, out_exc, test_exc, base_attr, base_meth, base_make, e_attrE, e_methE, methR_some, e_makeE, seq_exc, ite_exc, attr_ins, meth_ins, see_ins, obD_ins, setFldE, setFldK_own, putD_nil, putD_cons, fini_next, fini_exc, calls_tb, slice_fromL, slice_toL, pow12, max_ii, bool_bl, s_setAttrE, e_attrE, look_nil, look_cons, s_setNE, newOb_lst, fresh_lst, s_appE, s_frzE, lim_lt, he, e1, e2, rD]
theorem lc_ok {n : Nat} {env : En} {h : Cells} (he : (wipeE env [5])[(0 : Nat)]? = some (.val (.cell 0))) (q : DS [] h) : ∃ (rs : List Row) (h' : Cells), DS [] h' ∧ rs.length = 5 ∧ (∀ r ∈ rs, okR r) ∧ evE (Fd (n + 1)) gl env (.lc eltR [5] (.name 5) (.rng1 (.cst (.int 5))) .none) h = .ok (.lst (rs.map rD)) h' := by
  have e0 : evI (Fd (n + 1)) gl env (.rng1 (.cst (.int 5))) h = .ok [.int 0, .int 1, .int 2, .int 3, .int 4] h := by simp [ss_nilE, ss_consE, seq_next, seq_ret, seq_brk, seq_cont, s_iteE, ite_ok, s_setE, s_setTE, s_exE, s_retE, s_retNE, s_passE, s_brkE, s_contE, s_setSubE, e_nonE, e_blE, e_intE, e_strE, slR_val, e_varE, e_globE, e_binE, negR_int, e_negE, e_cmpE, e_chainE, e_andE, e_orE, e_notE, e_ifeE, e_tupE, e_lstE, e_subE, e_sliceE, e_callE, e_bltE, e_bmE, e_isiE, es_nilE, es_consE, es_starE, bs_nilE, bs_consE, o_noneE, intR_int, o_someE, c_noneE, c_someE, and_oneE, and_consE, or_oneE, or_consE, i_ofE, rngR1_int, rngR2_int, i_rng1E, i_rng2E, base_varK, baseV_own, baseV_val, 
    base_cst, base_glob, base_bin, base_neg, base_cmp, base_chain, base_and, base_or, base_not, base_ife, base_tup, base_lst, base_sub, base_slice, base_call, base_blt, base_bm, base_isi, base_lc, fin_ret, fin_next, test_ok, out_ok, see0, obD_lst, truth_int, truth_lst, truth_str, lt_int, le_int, gt_int, ge_int, eq_D, ne_D, is_non, isnot_non, in_D, notin_D, add_int, sub_int, len_lst, len_tup, len_str, int_int, list_lst, list_tup, tuple_lst, tuple_tup, ixN_lit, subL_lit, subT_lit, setAt_cell0, lim_k, cut_from1, binK_some, cmpK_some, s_tryE, try_ret, try_next, noExc_ret, noExc_next, s_raiseE, fin_exc, out_exc, test_exc, base_attr, base_meth, base_make, e_attrE, e_methE, methR_some, e_makeE, seq_exc, ite_exc, attr_ins, meth_ins, see_ins, obD_ins, setFldE, setFldK_own, putD_nil, putD_cons, fini_next, fini_exc, calls_tb, slice_fromL, slice_toL, pow12, max_ii, bool_bl, s_setAttrE, e_attrE, look_nil, look_cons, s_setNE, newOb_lst, fresh_lst, s_appE, s_frzE, lim_lt, rng5]
  obtain ⟨xs, h', e1, s1, a1⟩ := lc_each (f := lcG (Fd (n + 1)) gl env eltR [5] (.name 5) .none) (DS []) (fun _ x => ∃ r, okR r ∧ x = rD r) (ds := [.int 0, .int 1, .int 2, .int 3, .int 4]) q fun d hd h q => by
    obtain ⟨r, h', q', hr, e⟩ := elt_ok (n := n) (env := (wipeE env [5]).set 5 (.val d)) (h := h) (by
      rw [List.getElem?_set_ne (by decide)]
      exact he) q
    refine ⟨rD r, h', ?_, ⟨r, hr, rfl⟩, q'⟩
    unfold lcG
    simp only [bindT_name, c_noneE, Res.bind_ok, if_true]
    rw [e]
    rfl
  obtain ⟨rs, l1, l2, rfl⟩ := all2_rows a1
  refine ⟨rs, h', s1, l1, l2, ?_⟩
  rw [e_lcE, e0, Res.bind_ok, if_pos (by decide), e1]
  rfl
def P14 (d : D) (c : Cells) : Prop := DS [] c ∧ ∃ rs : List Row, rs.length = 5 ∧ (∀ r ∈ rs, okR r) ∧ d = .lst (rs.map rD)
def cCnt : CS := .ite (.cmp .eq (.call 12 (.cons (.var 0) (.cons (.cst (.int 3)) .nil))) (.cst (.int 1))) (.cons (.set 1 (.bin .sub (.bin .pow (.cst (.int 10)) (.cst (.int 12))) (.call 12 (.cons (.var 0) (.cons (.cst (.int 3)) .nil))))) .nil) .nil
theorem cnt_ok {n : Nat} {c : Int} {h : Cells} (q : DS [] h) (hc : 0 ≤ c ∧ c ≤ 1000000000000) : ∃ c' h', DS [] h' ∧ 0 ≤ c' ∧ c' ≤ 1000000000000 ∧ evS (Fd (n + 1)) gl cCnt [.val (.cell 0), .val (.int c), .no, .no, .no, .no] h = .next [.val (.cell 0), .val (.int c'), .no, .no, .no, .no] h' := by
  obtain ⟨v1, h1, q1, a1, b1, e1⟩ := dr n q (lim := 3) (by decide) (by decide)
  by_cases hv : v1 = 1
  · obtain ⟨v2, h2, q2, a2, b2, e2⟩ := dr n q1 (lim := 3) (by decide) (by decide)
    subst hv
    refine ⟨1000000000000 - v2, h2, q2, by omega, by omega, ?_⟩
    simp [cCnt, ss_nilE, ss_consE, seq_next, seq_ret, seq_brk, seq_cont, s_iteE, ite_ok, s_setE, s_setTE, s_exE, s_retE, s_retNE, s_passE, s_brkE, s_contE, s_setSubE, e_nonE, e_blE, e_intE, e_strE, slR_val, e_varE, e_globE, e_binE, negR_int, e_negE, e_cmpE, e_chainE, e_andE, e_orE, e_notE, e_ifeE, e_tupE, e_lstE, e_subE, e_sliceE, e_callE, e_bltE, e_bmE, e_isiE, es_nilE, es_consE, es_starE, bs_nilE, bs_consE, o_noneE, intR_int, o_someE, c_noneE, c_someE, and_oneE, and_consE, or_oneE, or_consE, i_ofE, rngR1_int, rngR2_int, i_rng1E, i_rng2E, base_varK, baseV_own, baseV_val, 
    base_cst, base_glob, base_bin, base_neg, base_cmp, base_chain, base_and, base_or, base_not, base_ife, base_tup, base_lst, base_sub, base_slice, base_call, base_blt, base_bm, base_isi, base_lc, fin_ret, fin_next, test_ok, out_ok, see0, obD_lst, truth_int, truth_lst, truth_str, lt_int, le_int, gt_int, ge_int, eq_D, ne_D, is_non, isnot_non, in_D, notin_D, add_int, sub_int, len_lst, len_tup, len_str, int_int, list_lst, list_tup, tuple_lst, tuple_tup, ixN_lit, subL_lit, subT_lit, setAt_cell0, lim_k, cut_from1, binK_some, cmpK_some, s_tryE, try_ret, try_next, noExc_ret, noExc_next, s_raiseE, fin_exc, out_exc, test_exc, base_attr, base_meth, base_make, e_attrE, e_methE, methR_some, e_makeE, seq_exc, ite_exc, attr_ins, meth_ins, see_ins, obD_ins, setFldE, setFldK_own, putD_nil, putD_cons, fini_next, fini_exc, calls_tb, slice_fromL, slice_toL, pow12, max_ii, bool_bl, s_setAttrE, e_attrE, look_nil, look_cons, s_setNE, newOb_lst, fresh_lst, s_appE, s_frzE, lim_lt, e1, e2]
  · refine ⟨c, h1, q1, hc.1, hc.2, ?_⟩
    simp [cCnt, ss_nilE, ss_consE, seq_next, seq_ret, seq_brk, seq_cont, s_iteE, ite_ok, s_setE, s_setTE, s_exE, s_retE, s_retNE, s_passE, s_brkE, s_contE, s_setSubE, e_nonE, e_blE, e_intE, e_strE, slR_val, e_varE, e_globE, e_binE, negR_int, e_negE, e_cmpE, e_chainE, e_andE, e_orE, e_notE, e_ifeE, e_tupE, e_lstE, e_subE, e_sliceE, e_callE, e_bltE, e_bmE, e_isiE, es_nilE, es_consE, es_starE, bs_nilE, bs_consE, o_noneE, intR_int, o_someE, c_noneE, c_someE, and_oneE, and_consE, or_oneE, or_consE, i_ofE, rngR1_int, rngR2_int, i_rng1E, i_rng2E, base_varK, baseV_own, baseV_val, 
    base_cst, base_glob, base_bin, base_neg, base_cmp, base_chain, base_and, base_or, base_not, base_ife, base_tup, base_lst, base_sub, base_slice, base_call, base_blt, base_bm, base_isi, base_lc, fin_ret, fin_next, test_ok, out_ok, see0, obD_lst, truth_int, truth_lst, truth_str, lt_int, le_int, gt_int, ge_int, eq_D, ne_D, is_non, isnot_non, in_D, notin_D, add_int, sub_int, len_lst, len_tup, len_str, int_int, list_lst, list_tup, tuple_lst, tuple_tup, ixN_lit, subL_lit, subT_lit, setAt_cell0, lim_k, cut_from1, binK_some, cmpK_some, s_tryE, try_ret, try_next, noExc_ret, noExc_next, s_raiseE, fin_exc, out_exc, test_exc, base_attr, base_meth, base_make, e_attrE, e_methE, methR_some, e_makeE, seq_exc, ite_exc, attr_ins, meth_ins, see_ins, obD_ins, setFldE, setFldK_own, putD_nil, putD_cons, fini_next, fini_exc, calls_tb, slice_fromL, slice_toL, pow12, max_ii, bool_bl, s_setAttrE, e_attrE, look_nil, look_cons, s_setNE, newOb_lst, fresh_lst, s_appE, s_frzE, lim_lt, e1, hv]
theorem rows_ok {n : Nat} {h : Cells} (q : DS [] h) : ∃ (rs : List Row) (h' : Cells), DS [] h' ∧ rs.length = 5 ∧ (∀ r ∈ rs, okR r) ∧ (Fd (n + 2)).call 14 [.cell 0] h = .ok (.lst (rs.map rD)) h' := by
  rw [call_run (fn := f__law_rows_of_stamps) rfl rfl rfl]
  have key : RetP (Fd (n + 1)) gl c__law_rows_of_stamps [.val (.cell 0), .no, .no, .no, .no, .no] h P14 := by
    obtain ⟨v1, h1, q1, a1, b1, e1⟩ := dr n q (lim := 3) (by decide) (by decide)
    by_cases hv : v1 = 2
    · subst hv
      obtain ⟨rs, h2, q2, l1, l2, e2⟩ := lc_ok (n := n) (env := [.val (.cell 0), .no, .no, .no, .no, .no]) (h := h1) rfl q1
      unfold eltR at e2
      exact .ret (d := .lst (rs.map rD)) (h' := h2) (by simp only [s_iteE, e_cmpE, e_callE, es_consE, es_nilE, e_varE, List.getElem?_cons_zero, slR_val, Res.bind_ok, e_intE, e1, base_cst, see_int, eq_D, eqD_int, decide_true, cmpK_some, test_ok, see_bl, truth_bl, lift_some, ite_ok, if_true, ss_consE, s_retE, e2, out_ok, seq_ret]) ⟨q2, rs, l1, l2, rfl⟩
    · refine .test (h' := h1) (by simp [ss_nilE, ss_consE, seq_next, seq_ret, seq_brk, seq_cont, s_iteE, ite_ok, s_setE, s_setTE, s_exE, s_retE, s_retNE, s_passE, s_brkE, s_contE, s_setSubE, e_nonE, e_blE, e_intE, e_strE, slR_val, e_varE, e_globE, e_binE, negR_int, e_negE, e_cmpE, e_chainE, e_andE, e_orE, e_notE, e_ifeE, e_tupE, e_lstE, e_subE, e_sliceE, e_callE, e_bltE, e_bmE, e_isiE, es_nilE, es_consE, es_starE, bs_nilE, bs_consE, o_noneE, intR_int, o_someE, c_noneE, c_someE, and_oneE, and_consE, or_oneE, or_consE, i_ofE, rngR1_int, rngR2_int, i_rng1E, i_rng2E, base_varK, baseV_own, baseV_val, 
    base_cst, base_glob, base_bin, base_neg, base_cmp, base_chain, base_and, base_or, base_not, base_ife, base_tup, base_lst, base_sub, base_slice, base_call, base_blt, base_bm, base_isi, base_lc, fin_ret, fin_next, test_ok, out_ok, see0, obD_lst, truth_int, truth_lst, truth_str, lt_int, le_int, gt_int, ge_int, eq_D, ne_D, is_non, isnot_non, in_D, notin_D, add_int, sub_int, len_lst, len_tup, len_str, int_int, list_lst, list_tup, tuple_lst, tuple_tup, ixN_lit, subL_lit, subT_lit, setAt_cell0, lim_k, cut_from1, binK_some, cmpK_some, s_tryE, try_ret, try_next, noExc_ret, noExc_next, s_raiseE, fin_exc, out_exc, test_exc, base_attr, base_meth, base_make, e_attrE, e_methE, methR_some, e_makeE, seq_exc, ite_exc, attr_ins, meth_ins, see_ins, obD_ins, setFldE, setFldK_own, putD_nil, putD_cons, fini_next, fini_exc, calls_tb, slice_fromL, slice_toL, pow12, max_ii, bool_bl, s_setAttrE, e_attrE, look_nil, look_cons, s_setNE, newOb_lst, fresh_lst, s_appE, s_frzE, lim_lt, e1, hv]) ?_
      obtain ⟨c0, h2, q2, a2, b2, e2⟩ := dr n q1 (lim := 1000000000001) (by decide) (by decide)
      refine .set (d := .int c0) (h' := h2) (by simp [ss_nilE, ss_consE, seq_next, seq_ret, seq_brk, seq_cont, s_iteE, ite_ok, s_setE, s_setTE, s_exE, s_retE, s_retNE, s_passE, s_brkE, s_contE, s_setSubE, e_nonE, e_blE, e_intE, e_strE, slR_val, e_varE, e_globE, e_binE, negR_int, e_negE, e_cmpE, e_chainE, e_andE, e_orE, e_notE, e_ifeE, e_tupE, e_lstE, e_subE, e_sliceE, e_callE, e_bltE, e_bmE, e_isiE, es_nilE, es_consE, es_starE, bs_nilE, bs_consE, o_noneE, intR_int, o_someE, c_noneE, c_someE, and_oneE, and_consE, or_oneE, or_consE, i_ofE, rngR1_int, rngR2_int, i_rng1E, i_rng2E, base_varK, baseV_own, baseV_val, 
    base_cst, base_glob, base_bin, base_neg, base_cmp, base_chain, base_and, base_or, base_not, base_ife, base_tup, base_lst, base_sub, base_slice, base_call, base_blt, base_bm, base_isi, base_lc, fin_ret, fin_next, test_ok, out_ok, see0, obD_lst, truth_int, truth_lst, truth_str, lt_int, le_int, gt_int, ge_int, eq_D, ne_D, is_non, isnot_non, in_D, notin_D, add_int, sub_int, len_lst, len_tup, len_str, int_int, list_lst, list_tup, tuple_lst, tuple_tup, ixN_lit, subL_lit, subT_lit, setAt_cell0, lim_k, cut_from1, binK_some, cmpK_some, s_tryE, try_ret, try_next, noExc_ret, noExc_next, s_raiseE, fin_exc, out_exc, test_exc, base_attr, base_meth, base_make, e_attrE, e_methE, methR_some, e_makeE, seq_exc, ite_exc, attr_ins, meth_ins, see_ins, obD_ins, setFldE, setFldK_own, putD_nil, putD_cons, fini_next, fini_exc, calls_tb, slice_fromL, slice_toL, pow12, max_ii, bool_bl, s_setAttrE, e_attrE, look_nil, look_cons, s_setNE, newOb_lst, fresh_lst, s_appE, s_frzE, lim_lt, e2]) ?_
      obtain ⟨c, h3, q3, a3, b3, e3⟩ := cnt_ok (n := n) (c := c0) q2 ⟨a2, by omega⟩
      refine .step e3 ?_
      obtain ⟨p, h4, q4, a4, b4, e4⟩ := dr n q3 (lim := 100) (by decide) (by decide)
      refine .set (d := .int p) (h' := h4) (by simp [ss_nilE, ss_consE, seq_next, seq_ret, seq_brk, seq_cont, s_iteE, ite_ok, s_setE, s_setTE, s_exE, s_retE, s_retNE, s_passE, s_brkE, s_contE, s_setSubE, e_nonE, e_blE, e_intE, e_strE, slR_val, e_varE, e_globE, e_binE, negR_int, e_negE, e_cmpE, e_chainE, e_andE, e_orE, e_notE, e_ifeE, e_tupE, e_lstE, e_subE, e_sliceE, e_callE, e_bltE, e_bmE, e_isiE, es_nilE, es_consE, es_starE, bs_nilE, bs_consE, o_noneE, intR_int, o_someE, c_noneE, c_someE, and_oneE, and_consE, or_oneE, or_consE, i_ofE, rngR1_int, rngR2_int, i_rng1E, i_rng2E, base_varK, baseV_own, baseV_val, 
    base_cst, base_glob, base_bin, base_neg, base_cmp, base_chain, base_and, base_or, base_not, base_ife, base_tup, base_lst, base_sub, base_slice, base_call, base_blt, base_bm, base_isi, base_lc, fin_ret, fin_next, test_ok, out_ok, see0, obD_lst, truth_int, truth_lst, truth_str, lt_int, le_int, gt_int, ge_int, eq_D, ne_D, is_non, isnot_non, in_D, notin_D, add_int, sub_int, len_lst, len_tup, len_str, int_int, list_lst, list_tup, tuple_lst, tuple_tup, ixN_lit, subL_lit, subT_lit, setAt_cell0, lim_k, cut_from1, binK_some, cmpK_some, s_tryE, try_ret, try_next, noExc_ret, noExc_next, s_raiseE, fin_exc, out_exc, test_exc, base_attr, base_meth, base_make, e_attrE, e_methE, methR_some, e_makeE, seq_exc, ite_exc, attr_ins, meth_ins, see_ins, obD_ins, setFldE, setFldK_own, putD_nil, putD_cons, fini_next, fini_exc, calls_tb, slice_fromL, slice_toL, pow12, max_ii, bool_bl, s_setAttrE, e_attrE, look_nil, look_cons, s_setNE, newOb_lst, fresh_lst, s_appE, s_frzE, lim_lt, e4]) ?_
      obtain ⟨u, h5, q5, a5, b5, e5⟩ := dr n q4 (lim := 99) (by decide) (by decide)
      have m100 : ∀ a : Int, opB .mod (.int a) (.int 100) = some (.int (a % 100)) := fun a => mod_int (by decide)
      have m12 : ∀ a : Int, opB .mod (.int a) (.int 1000000000001) = some (.int (a % 1000000000001)) := fun a => mod_int (by decide)
      refine .step (env' := [.val (.cell 0), .val (.int c), .val (.int p), .own (.lst [rD (c, p), rD (c, (p + 1 + u) % 100)]), .no, .no]) (h' := h5) (by simp [ss_nilE, ss_consE, seq_next, seq_ret, seq_brk, seq_cont, s_iteE, ite_ok, s_setE, s_setTE, s_exE, s_retE, s_retNE, s_passE, s_brkE, s_contE, s_setSubE, e_nonE, e_blE, e_intE, e_strE, slR_val, e_varE, e_globE, e_binE, negR_int, e_negE, e_cmpE, e_chainE, e_andE, e_orE, e_notE, e_ifeE, e_tupE, e_lstE, e_subE, e_sliceE, e_callE, e_bltE, e_bmE, e_isiE, es_nilE, es_consE, es_starE, bs_nilE, bs_consE, o_noneE, intR_int, o_someE, c_noneE, c_someE, and_oneE, and_consE, or_oneE, or_consE, i_ofE, rngR1_int, rngR2_int, i_rng1E, i_rng2E, base_varK, baseV_own, baseV_val, 
    base_cst, base_glob, base_bin, base_neg, base_cmp, base_chain, base_and, base_or, base_not, base_ife, base_tup, base_lst, base_sub, base_slice, base_call, base_blt, base_bm, base_isi, base_lc, fin_ret, fin_next, test_ok, out_ok, see0, obD_lst, truth_int, truth_lst, truth_str, lt_int, le_int, gt_int, ge_int, eq_D, ne_D, is_non, isnot_non, in_D, notin_D, add_int, sub_int, len_lst, len_tup, len_str, int_int, list_lst, list_tup, tuple_lst, tuple_tup, ixN_lit, subL_lit, subT_lit, setAt_cell0, lim_k, cut_from1, binK_some, cmpK_some, s_tryE, try_ret, try_next, noExc_ret, noExc_next, s_raiseE, fin_exc, out_exc, test_exc, base_attr, base_meth, base_make, e_attrE, e_methE, methR_some, e_makeE, seq_exc, ite_exc, attr_ins, meth_ins, see_ins, obD_ins, setFldE, setFldK_own, putD_nil, putD_cons, fini_next, fini_exc, calls_tb, slice_fromL, slice_toL, pow12, max_ii, bool_bl, s_setAttrE, e_attrE, look_nil, look_cons, s_setNE, newOb_lst, fresh_lst, s_appE, s_frzE, lim_lt, e5, m100, rD]) ?_
      obtain ⟨w, h6, q6, a6, b6, e6⟩ := dr n q5 (lim := 3) (by decide) (by decide)
      obtain ⟨x, h7, q7, a7, b7, e7⟩ := dr n q6 (lim := 100) (by decide) (by decide)
      refine .step (env' := [.val (.cell 0), .val (.int c), .val (.int p), .own (.lst [rD (c, p), rD (c, (p + 1 + u) % 100), rD ((c + 1 + w) % 1000000000001, x)]), .no, .no]) (h' := h7) (by simp [ss_nilE, ss_consE, seq_next, seq_ret, seq_brk, seq_cont, s_iteE, ite_ok, s_setE, s_setTE, s_exE, s_retE, s_retNE, s_passE, s_brkE, s_contE, s_setSubE, e_nonE, e_blE, e_intE, e_strE, slR_val, e_varE, e_globE, e_binE, negR_int, e_negE, e_cmpE, e_chainE, e_andE, e_orE, e_notE, e_ifeE, e_tupE, e_lstE, e_subE, e_sliceE, e_callE, e_bltE, e_bmE, e_isiE, es_nilE, es_consE, es_starE, bs_nilE, bs_consE, o_noneE, intR_int, o_someE, c_noneE, c_someE, and_oneE, and_consE, or_oneE, or_consE, i_ofE, rngR1_int, rngR2_int, i_rng1E, i_rng2E, base_varK, baseV_own, baseV_val, 
    base_cst, base_glob, base_bin, base_neg, base_cmp, base_chain, base_and, base_or, base_not, base_ife, base_tup, base_lst, base_sub, base_slice, base_call, base_blt, base_bm, base_isi, base_lc, fin_ret, fin_next, test_ok, out_ok, see0, obD_lst, truth_int, truth_lst, truth_str, lt_int, le_int, gt_int, ge_int, eq_D, ne_D, is_non, isnot_non, in_D, notin_D, add_int, sub_int, len_lst, len_tup, len_str, int_int, list_lst, list_tup, tuple_lst, tuple_tup, ixN_lit, subL_lit, subT_lit, setAt_cell0, lim_k, cut_from1, binK_some, cmpK_some, s_tryE, try_ret, try_next, noExc_ret, noExc_next, s_raiseE, fin_exc, out_exc, test_exc, base_attr, base_meth, base_make, e_attrE, e_methE, methR_some, e_makeE, seq_exc, ite_exc, attr_ins, meth_ins, see_ins, obD_ins, setFldE, setFldK_own, putD_nil, putD_cons, fini_next, fini_exc, calls_tb, slice_fromL, slice_toL, pow12, max_ii, bool_bl, s_setAttrE, e_attrE, look_nil, look_cons, s_setNE, newOb_lst, fresh_lst, s_appE, s_frzE, lim_lt, e6, e7, m12, rD]) ?_
      obtain ⟨mode, h8, q8, a8, b8, e8⟩ := dr n q7 (lim := 4) (by decide) (by decide)
      refine .set (d := .int mode) (h' := h8) (by simp [ss_nilE, ss_consE, seq_next, seq_ret, seq_brk, seq_cont, s_iteE, ite_ok, s_setE, s_setTE, s_exE, s_retE, s_retNE, s_passE, s_brkE, s_contE, s_setSubE, e_nonE, e_blE, e_intE, e_strE, slR_val, e_varE, e_globE, e_binE, negR_int, e_negE, e_cmpE, e_chainE, e_andE, e_orE, e_notE, e_ifeE, e_tupE, e_lstE, e_subE, e_sliceE, e_callE, e_bltE, e_bmE, e_isiE, es_nilE, es_consE, es_starE, bs_nilE, bs_consE, o_noneE, intR_int, o_someE, c_noneE, c_someE, and_oneE, and_consE, or_oneE, or_consE, i_ofE, rngR1_int, rngR2_int, i_rng1E, i_rng2E, base_varK, baseV_own, baseV_val, 
    base_cst, base_glob, base_bin, base_neg, base_cmp, base_chain, base_and, base_or, base_not, base_ife, base_tup, base_lst, base_sub, base_slice, base_call, base_blt, base_bm, base_isi, base_lc, fin_ret, fin_next, test_ok, out_ok, see0, obD_lst, truth_int, truth_lst, truth_str, lt_int, le_int, gt_int, ge_int, eq_D, ne_D, is_non, isnot_non, in_D, notin_D, add_int, sub_int, len_lst, len_tup, len_str, int_int, list_lst, list_tup, tuple_lst, tuple_tup, ixN_lit, subL_lit, subT_lit, setAt_cell0, lim_k, cut_from1, binK_some, cmpK_some, s_tryE, try_ret, try_next, noExc_ret, noExc_next, s_raiseE, fin_exc, out_exc, test_exc, base_attr, base_meth, base_make, e_attrE, e_methE, methR_some, e_makeE, seq_exc, ite_exc, attr_ins, meth_ins, see_ins, obD_ins, setFldE, setFldK_own, putD_nil, putD_cons, fini_next, fini_exc, calls_tb, slice_fromL, slice_toL, pow12, max_ii, bool_bl, s_setAttrE, e_attrE, look_nil, look_cons, s_setNE, newOb_lst, fresh_lst, s_appE, s_frzE, lim_lt, e8]) ?_
      have o1 : okR (c, p) := ⟨a3, b3, a4, by show p ≤ 99; omega⟩
      have o2 : okR (c, (p + 1 + u) % 100) := ⟨a3, b3, by show 0 ≤ _ % _; omega, by show _ % _ ≤ 99; omega⟩
      have o3 : okR ((c + 1 + w) % 1000000000001, x) := ⟨by show 0 ≤ _ % _; omega, by show _ % _ ≤ 1000000000000; omega, a7, by show x ≤ 99; omega⟩
      have fin : ∀ (r4 : Row) (h9 : Cells), DS [] h9 → okR r4 → RetP (Fd (n + 1)) gl (.cons (.app 3 eltR) (.cons (.frz 3) (.cons (.ret (.var 3)) .nil))) [.val (.cell 0), .val (.int c), .val (.int p), .own (.lst [rD (c, p), rD (c, (p + 1 + u) % 100), rD ((c + 1 + w) % 1000000000001, x), rD r4]), .val (.int mode), .no] h9 P14 := fun r4 h9 q9 o4 => by
        obtain ⟨r5, h10, q10, o5, e10⟩ := elt_ok (n := n) (env := [.val (.cell 0), .val (.int c), .val (.int p), .own (.lst [rD (c, p), rD (c, (p + 1 + u) % 100), rD ((c + 1 + w) % 1000000000001, x), rD r4]), .val (.int mode), .no]) (h := h9) rfl q9
        refine .step (env' := [.val (.cell 0), .val (.int c), .val (.int p), .own (.lst [rD (c, p), rD (c, (p + 1 + u) % 100), rD ((c + 1 + w) % 1000000000001, x), rD r4, rD r5]), .val (.int mode), .no]) (h' := h10) (by
          rw [s_appE, List.getElem?_cons_succ, List.getElem?_cons_succ, List.getElem?_cons_succ, List.getElem?_cons_zero]
          simp only []
          rw [e10]
          simp [out_ok, lim_lt]) ?_
        refine .step (env' := [.val (.cell 0), .val (.int c), .val (.int p), .val (.lst [rD (c, p), rD (c, (p + 1 + u) % 100), rD ((c + 1 + w) % 1000000000001, x), rD r4, rD r5]), .val (.int mode), .no]) (h' := h10) (by simp [ss_nilE, ss_consE, seq_next, seq_ret, seq_brk, seq_cont, s_iteE, ite_ok, s_setE, s_setTE, s_exE, s_retE, s_retNE, s_passE, s_brkE, s_contE, s_setSubE, e_nonE, e_blE, e_intE, e_strE, slR_val, e_varE, e_globE, e_binE, negR_int, e_negE, e_cmpE, e_chainE, e_andE, e_orE, e_notE, e_ifeE, e_tupE, e_lstE, e_subE, e_sliceE, e_callE, e_bltE, e_bmE, e_isiE, es_nilE, es_consE, es_starE, bs_nilE, bs_consE, o_noneE, intR_int, o_someE, c_noneE, c_someE, and_oneE, and_consE, or_oneE, or_consE, i_ofE, rngR1_int, rngR2_int, i_rng1E, i_rng2E, base_varK, baseV_own, baseV_val, 
    base_cst, base_glob, base_bin, base_neg, base_cmp, base_chain, base_and, base_or, base_not, base_ife, base_tup, base_lst, base_sub, base_slice, base_call, base_blt, base_bm, base_isi, base_lc, fin_ret, fin_next, test_ok, out_ok, see0, obD_lst, truth_int, truth_lst, truth_str, lt_int, le_int, gt_int, ge_int, eq_D, ne_D, is_non, isnot_non, in_D, notin_D, add_int, sub_int, len_lst, len_tup, len_str, int_int, list_lst, list_tup, tuple_lst, tuple_tup, ixN_lit, subL_lit, subT_lit, setAt_cell0, lim_k, cut_from1, binK_some, cmpK_some, s_tryE, try_ret, try_next, noExc_ret, noExc_next, s_raiseE, fin_exc, out_exc, test_exc, base_attr, base_meth, base_make, e_attrE, e_methE, methR_some, e_makeE, seq_exc, ite_exc, attr_ins, meth_ins, see_ins, obD_ins, setFldE, setFldK_own, putD_nil, putD_cons, fini_next, fini_exc, calls_tb, slice_fromL, slice_toL, pow12, max_ii, bool_bl, s_setAttrE, e_attrE, look_nil, look_cons, s_setNE, newOb_lst, fresh_lst, s_appE, s_frzE, lim_lt]) ?_
        refine .ret (d := .lst [rD (c, p), rD (c, (p + 1 + u) % 100), rD ((c + 1 + w) % 1000000000001, x), rD r4, rD r5]) (h' := h10) (by simp [ss_nilE, ss_consE, seq_next, seq_ret, seq_brk, seq_cont, s_iteE, ite_ok, s_setE, s_setTE, s_exE, s_retE, s_retNE, s_passE, s_brkE, s_contE, s_setSubE, e_nonE, e_blE, e_intE, e_strE, slR_val, e_varE, e_globE, e_binE, negR_int, e_negE, e_cmpE, e_chainE, e_andE, e_orE, e_notE, e_ifeE, e_tupE, e_lstE, e_subE, e_sliceE, e_callE, e_bltE, e_bmE, e_isiE, es_nilE, es_consE, es_starE, bs_nilE, bs_consE, o_noneE, intR_int, o_someE, c_noneE, c_someE, and_oneE, and_consE, or_oneE, or_consE, i_ofE, rngR1_int, rngR2_int, i_rng1E, i_rng2E, base_varK, baseV_own, baseV_val, 
    base_cst, base_glob, base_bin, base_neg, base_cmp, base_chain, base_and, base_or, base_not, base_ife, base_tup, base_lst, base_sub, base_slice, base_call, base_blt, base_bm, base_isi, base_lc, fin_ret, fin_next, test_ok, out_ok, see0, obD_lst, truth_int, truth_lst, truth_str, lt_int, le_int, gt_int, ge_int, eq_D, ne_D, is_non, isnot_non, in_D, notin_D, add_int, sub_int, len_lst, len_tup, len_str, int_int, list_lst, list_tup, tuple_lst, tuple_tup, ixN_lit, subL_lit, subT_lit, setAt_cell0, lim_k, cut_from1, binK_some, cmpK_some, s_tryE, try_ret, try_next, noExc_ret, noExc_next, s_raiseE, fin_exc, out_exc, test_exc, base_attr, base_meth, base_make, e_attrE, e_methE, methR_some, e_makeE, seq_exc, ite_exc, attr_ins, meth_ins, see_ins, obD_ins, setFldE, setFldK_own, putD_nil, putD_cons, fini_next, fini_exc, calls_tb, slice_fromL, slice_toL, pow12, max_ii, bool_bl, s_setAttrE, e_attrE, look_nil, look_cons, s_setNE, newOb_lst, fresh_lst, s_appE, s_frzE, lim_lt]) ⟨q10, [(c, p), (c, (p + 1 + u) % 100), ((c + 1 + w) % 1000000000001, x), r4, r5], rfl, fun r hr => ?_, rfl⟩
        simp only [List.mem_cons, List.not_mem_nil, or_false] at hr
        rcases hr with rfl | rfl | rfl | rfl | rfl <;> assumption
      by_cases hm : mode < 3
      · have hm3 : mode = 0 ∨ mode = 1 ∨ mode = 2 := by omega
        rcases hm3 with rfl | rfl | rfl
        · exact .step (h' := h8) (by simp [ss_nilE, ss_consE, seq_next, seq_ret, seq_brk, seq_cont, s_iteE, ite_ok, s_setE, s_setTE, s_exE, s_retE, s_retNE, s_passE, s_brkE, s_contE, s_setSubE, e_nonE, e_blE, e_intE, e_strE, slR_val, e_varE, e_globE, e_binE, negR_int, e_negE, e_cmpE, e_chainE, e_andE, e_orE, e_notE, e_ifeE, e_tupE, e_lstE, e_subE, e_sliceE, e_callE, e_bltE, e_bmE, e_isiE, es_nilE, es_consE, es_starE, bs_nilE, bs_consE, o_noneE, intR_int, o_someE, c_noneE, c_someE, and_oneE, and_consE, or_oneE, or_consE, i_ofE, rngR1_int, rngR2_int, i_rng1E, i_rng2E, base_varK, baseV_own, baseV_val, 
    base_cst, base_glob, base_bin, base_neg, base_cmp, base_chain, base_and, base_or, base_not, base_ife, base_tup, base_lst, base_sub, base_slice, base_call, base_blt, base_bm, base_isi, base_lc, fin_ret, fin_next, test_ok, out_ok, see0, obD_lst, truth_int, truth_lst, truth_str, lt_int, le_int, gt_int, ge_int, eq_D, ne_D, is_non, isnot_non, in_D, notin_D, add_int, sub_int, len_lst, len_tup, len_str, int_int, list_lst, list_tup, tuple_lst, tuple_tup, ixN_lit, subL_lit, subT_lit, setAt_cell0, lim_k, cut_from1, binK_some, cmpK_some, s_tryE, try_ret, try_next, noExc_ret, noExc_next, s_raiseE, fin_exc, out_exc, test_exc, base_attr, base_meth, base_make, e_attrE, e_methE, methR_some, e_makeE, seq_exc, ite_exc, attr_ins, meth_ins, see_ins, obD_ins, setFldE, setFldK_own, putD_nil, putD_cons, fini_next, fini_exc, calls_tb, slice_fromL, slice_toL, pow12, max_ii, bool_bl, s_setAttrE, e_attrE, look_nil, look_cons, s_setNE, newOb_lst, fresh_lst, s_appE, s_frzE, lim_lt, subL_lit]) (fin (c, p) h8 q8 o1)
        · exact .step (h' := h8) (by simp [ss_nilE, ss_consE, seq_next, seq_ret, seq_brk, seq_cont, s_iteE, ite_ok, s_setE, s_setTE, s_exE, s_retE, s_retNE, s_passE, s_brkE, s_contE, s_setSubE, e_nonE, e_blE, e_intE, e_strE, slR_val, e_varE, e_globE, e_binE, negR_int, e_negE, e_cmpE, e_chainE, e_andE, e_orE, e_notE, e_ifeE, e_tupE, e_lstE, e_subE, e_sliceE, e_callE, e_bltE, e_bmE, e_isiE, es_nilE, es_consE, es_starE, bs_nilE, bs_consE, o_noneE, intR_int, o_someE, c_noneE, c_someE, and_oneE, and_consE, or_oneE, or_consE, i_ofE, rngR1_int, rngR2_int, i_rng1E, i_rng2E, base_varK, baseV_own, baseV_val, 
    base_cst, base_glob, base_bin, base_neg, base_cmp, base_chain, base_and, base_or, base_not, base_ife, base_tup, base_lst, base_sub, base_slice, base_call, base_blt, base_bm, base_isi, base_lc, fin_ret, fin_next, test_ok, out_ok, see0, obD_lst, truth_int, truth_lst, truth_str, lt_int, le_int, gt_int, ge_int, eq_D, ne_D, is_non, isnot_non, in_D, notin_D, add_int, sub_int, len_lst, len_tup, len_str, int_int, list_lst, list_tup, tuple_lst, tuple_tup, ixN_lit, subL_lit, subT_lit, setAt_cell0, lim_k, cut_from1, binK_some, cmpK_some, s_tryE, try_ret, try_next, noExc_ret, noExc_next, s_raiseE, fin_exc, out_exc, test_exc, base_attr, base_meth, base_make, e_attrE, e_methE, methR_some, e_makeE, seq_exc, ite_exc, attr_ins, meth_ins, see_ins, obD_ins, setFldE, setFldK_own, putD_nil, putD_cons, fini_next, fini_exc, calls_tb, slice_fromL, slice_toL, pow12, max_ii, bool_bl, s_setAttrE, e_attrE, look_nil, look_cons, s_setNE, newOb_lst, fresh_lst, s_appE, s_frzE, lim_lt, subL_lit]) (fin (c, (p + 1 + u) % 100) h8 q8 o2)
        · exact .step (h' := h8) (by simp [ss_nilE, ss_consE, seq_next, seq_ret, seq_brk, seq_cont, s_iteE, ite_ok, s_setE, s_setTE, s_exE, s_retE, s_retNE, s_passE, s_brkE, s_contE, s_setSubE, e_nonE, e_blE, e_intE, e_strE, slR_val, e_varE, e_globE, e_binE, negR_int, e_negE, e_cmpE, e_chainE, e_andE, e_orE, e_notE, e_ifeE, e_tupE, e_lstE, e_subE, e_sliceE, e_callE, e_bltE, e_bmE, e_isiE, es_nilE, es_consE, es_starE, bs_nilE, bs_consE, o_noneE, intR_int, o_someE, c_noneE, c_someE, and_oneE, and_consE, or_oneE, or_consE, i_ofE, rngR1_int, rngR2_int, i_rng1E, i_rng2E, base_varK, baseV_own, baseV_val, 
    base_cst, base_glob, base_bin, base_neg, base_cmp, base_chain, base_and, base_or, base_not, base_ife, base_tup, base_lst, base_sub, base_slice, base_call, base_blt, base_bm, base_isi, base_lc, fin_ret, fin_next, test_ok, out_ok, see0, obD_lst, truth_int, truth_lst, truth_str, lt_int, le_int, gt_int, ge_int, eq_D, ne_D, is_non, isnot_non, in_D, notin_D, add_int, sub_int, len_lst, len_tup, len_str, int_int, list_lst, list_tup, tuple_lst, tuple_tup, ixN_lit, subL_lit, subT_lit, setAt_cell0, lim_k, cut_from1, binK_some, cmpK_some, s_tryE, try_ret, try_next, noExc_ret, noExc_next, s_raiseE, fin_exc, out_exc, test_exc, base_attr, base_meth, base_make, e_attrE, e_methE, methR_some, e_makeE, seq_exc, ite_exc, attr_ins, meth_ins, see_ins, obD_ins, setFldE, setFldK_own, putD_nil, putD_cons, fini_next, fini_exc, calls_tb, slice_fromL, slice_toL, pow12, max_ii, bool_bl, s_setAttrE, e_attrE, look_nil, look_cons, s_setNE, newOb_lst, fresh_lst, s_appE, s_frzE, lim_lt, subL_lit]) (fin ((c + 1 + w) % 1000000000001, x) h8 q8 o3)
      · obtain ⟨y, h9, q9, a9, b9, e9⟩ := dr n q8 (lim := 1000000000001) (by decide) (by decide)
        obtain ⟨z, h10, q10, a10, b10, e10⟩ := dr n q9 (lim := 100) (by decide) (by decide)
        refine .step (env' := [.val (.cell 0), .val (.int c), .val (.int p), .own (.lst [rD (c, p), rD (c, (p + 1 + u) % 100), rD ((c + 1 + w) % 1000000000001, x), rD (y, z)]), .val (.int mode), .no]) (h' := h10) (by simp [ss_nilE, ss_consE, seq_next, seq_ret, seq_brk, seq_cont, s_iteE, ite_ok, s_setE, s_setTE, s_exE, s_retE, s_retNE, s_passE, s_brkE, s_contE, s_setSubE, e_nonE, e_blE, e_intE, e_strE, slR_val, e_varE, e_globE, e_binE, negR_int, e_negE, e_cmpE, e_chainE, e_andE, e_orE, e_notE, e_ifeE, e_tupE, e_lstE, e_subE, e_sliceE, e_callE, e_bltE, e_bmE, e_isiE, es_nilE, es_consE, es_starE, bs_nilE, bs_consE, o_noneE, intR_int, o_someE, c_noneE, c_someE, and_oneE, and_consE, or_oneE, or_consE, i_ofE, rngR1_int, rngR2_int, i_rng1E, i_rng2E, base_varK, baseV_own, baseV_val, 
    base_cst, base_glob, base_bin, base_neg, base_cmp, base_chain, base_and, base_or, base_not, base_ife, base_tup, base_lst, base_sub, base_slice, base_call, base_blt, base_bm, base_isi, base_lc, fin_ret, fin_next, test_ok, out_ok, see0, obD_lst, truth_int, truth_lst, truth_str, lt_int, le_int, gt_int, ge_int, eq_D, ne_D, is_non, isnot_non, in_D, notin_D, add_int, sub_int, len_lst, len_tup, len_str, int_int, list_lst, list_tup, tuple_lst, tuple_tup, ixN_lit, subL_lit, subT_lit, setAt_cell0, lim_k, cut_from1, binK_some, cmpK_some, s_tryE, try_ret, try_next, noExc_ret, noExc_next, s_raiseE, fin_exc, out_exc, test_exc, base_attr, base_meth, base_make, e_attrE, e_methE, methR_some, e_makeE, seq_exc, ite_exc, attr_ins, meth_ins, see_ins, obD_ins, setFldE, setFldK_own, putD_nil, putD_cons, fini_next, fini_exc, calls_tb, slice_fromL, slice_toL, pow12, max_ii, bool_bl, s_setAttrE, e_attrE, look_nil, look_cons, s_setNE, newOb_lst, fresh_lst, s_appE, s_frzE, lim_lt, hm, e9, e10, rD]) (fin (y, z) h10 q10 ⟨a9, by show y ≤ _; omega, a10, by show z ≤ _; omega⟩)
  obtain ⟨d, c, h1, q1, rs, l1, l2, rfl⟩ := key
  refine ⟨rs, c, q1, l1, l2, ?_⟩
  show (evSs (Fd (n + 1)) gl c__law_rows_of_stamps [.val (.cell 0), .no, .no, .no, .no, .no] h).fin = _
  rw [h1]
  rfl
end K04
set_option Elab.async false
set_option linter.all false
set_option maxRecDepth 100000
set_option maxHeartbeats 4000000
namespace K04
open PySem L2 Rf
def envL (s0 s1 s2 s3 s4 s5 s6 s7 s8 s9 s10 : Sl) : En := [s0, s1, s2, s3, s4, s5, s6, s7, s8, s9, s10]
def cIn : CSs := (.cons (.ite (.not (.call 19 (.cons (.slice (.var 6) .none (.some (.var 7))) (.cons (.slice (.var 5) .none (.some (.var 7))) .nil)))) (.cons (.ret (.cst (.bl false))) .nil) .nil) (.cons (.ite (.and (.cons (.cmp .gt (.var 7) (.cst (.int 0))) (.cons (.not (.call 18 (.cons (.slice (.var 6) .none (.some (.var 7))) (.cons (.slice (.var 5) .none (.some (.var 7))) .nil)))) .nil))) (.cons (.ret (.cst (.bl false))) .nil) .nil) .nil))
def cOut : CSs := (.cons (.set 5 (.bin .add (.slice (.var 2) (.some (.var 4)) .none) (.slice (.var 2) .none (.some (.var 4))))) (.cons (.set 6 (.bin .add (.slice (.var 3) (.some (.var 4)) .none) (.slice (.var 3) .none (.some (.var 4))))) (.cons (.for_ (.name 7) (.rng1 (.cst (.int 6))) cIn) .nil)))
section
variable {n : Nat} {h : Cells} {s0 s1 s2 s3 s4 s5 s6 s7 s8 s9 s10 : Sl}
theorem in_turn {rs : List Row} {k : Nat} (hr : ∀ r ∈ rs, okR r) (hl : rs.length = 5) (hk : k ≤ 5) :
    evSs (Fd (n + 6)) gl cIn (envL s0 s1 s2 s3 s4 (.val (.lst (rs.map rD))) (.val (.lst (rs.map sD))) (.val (.int (k : Nat))) s8 s9 s10) h = .next (envL s0 s1 s2 s3 s4 (.val (.lst (rs.map rD))) (.val (.lst (rs.map sD))) (.val (.int (k : Nat))) s8 s9 s10) h := by
  have T := tells_latest (n := n + 1) (rs := rs.take k) (h := h) (by rw [List.length_take]; omega)
  rw [List.map_take, List.map_take] at T
  by_cases hz : k = 0
  · subst hz
    simp only [Int.ofNat_zero, Int.natCast_zero] at *
    have z1 := slice_to (rs.map sD) 0
    have z2 := slice_to (rs.map rD) 0
    simp only [Int.natCast_zero] at z1 z2
    simp [cIn, envL, ss_nilE, ss_consE, seq_next, seq_ret, seq_brk, seq_cont, s_iteE, ite_ok, s_setE, s_setTE, s_exE, s_retE, s_retNE, s_passE, s_brkE, s_contE, s_setSubE, e_nonE, e_blE, e_intE, e_strE, slR_val, e_varE, e_globE, e_binE, negR_int, e_negE, e_cmpE, e_chainE, e_andE, e_orE, e_notE, e_ifeE, e_tupE, e_lstE, e_subE, e_sliceE, e_callE, e_bltE, e_bmE, e_isiE, es_nilE, es_consE, es_starE, bs_nilE, bs_consE, o_noneE, intR_int, o_someE, c_noneE, c_someE, and_oneE, and_consE, or_oneE, or_consE, i_ofE, rngR1_int, rngR2_int, i_rng1E, i_rng2E, base_varK, baseV_own, baseV_val, 
    base_cst, base_glob, base_bin, base_neg, base_cmp, base_chain, base_and, base_or, base_not, base_ife, base_tup, base_lst, base_sub, base_slice, base_call, base_blt, base_bm, base_isi, base_lc, fin_ret, fin_next, test_ok, out_ok, see0, obD_lst, truth_int, truth_lst, truth_str, lt_int, le_int, gt_int, ge_int, eq_D, ne_D, is_non, isnot_non, in_D, notin_D, add_int, sub_int, len_lst, len_tup, len_str, int_int, list_lst, list_tup, tuple_lst, tuple_tup, ixN_lit, subL_lit, subT_lit, setAt_cell0, lim_k, cut_from1, binK_some, cmpK_some, s_tryE, try_ret, try_next, noExc_ret, noExc_next, s_raiseE, fin_exc, out_exc, test_exc, base_attr, base_meth, base_make, e_attrE, e_methE, methR_some, e_makeE, seq_exc, ite_exc, attr_ins, meth_ins, see_ins, obD_ins, setFldE, setFldK_own, putD_nil, putD_cons, fini_next, fini_exc, calls_tb, slice_fromL, slice_toL, pow12, max_ii, bool_bl, s_setAttrE, e_attrE, look_nil, look_cons, s_setNE, newOb_lst, fresh_lst, s_appE, s_frzE, lim_lt, z1, z2] at T ⊢
    simp [T, ss_nilE, ss_consE, seq_next, seq_ret, seq_brk, seq_cont, s_iteE, ite_ok, s_setE, s_setTE, s_exE, s_retE, s_retNE, s_passE, s_brkE, s_contE, s_setSubE, e_nonE, e_blE, e_intE, e_strE, slR_val, e_varE, e_globE, e_binE, negR_int, e_negE, e_cmpE, e_chainE, e_andE, e_orE, e_notE, e_ifeE, e_tupE, e_lstE, e_subE, e_sliceE, e_callE, e_bltE, e_bmE, e_isiE, es_nilE, es_consE, es_starE, bs_nilE, bs_consE, o_noneE, intR_int, o_someE, c_noneE, c_someE, and_oneE, and_consE, or_oneE, or_consE, i_ofE, rngR1_int, rngR2_int, i_rng1E, i_rng2E, base_varK, baseV_own, baseV_val, 
    base_cst, base_glob, base_bin, base_neg, base_cmp, base_chain, base_and, base_or, base_not, base_ife, base_tup, base_lst, base_sub, base_slice, base_call, base_blt, base_bm, base_isi, base_lc, fin_ret, fin_next, test_ok, out_ok, see0, obD_lst, truth_int, truth_lst, truth_str, lt_int, le_int, gt_int, ge_int, eq_D, ne_D, is_non, isnot_non, in_D, notin_D, add_int, sub_int, len_lst, len_tup, len_str, int_int, list_lst, list_tup, tuple_lst, tuple_tup, ixN_lit, subL_lit, subT_lit, setAt_cell0, lim_k, cut_from1, binK_some, cmpK_some, s_tryE, try_ret, try_next, noExc_ret, noExc_next, s_raiseE, fin_exc, out_exc, test_exc, base_attr, base_meth, base_make, e_attrE, e_methE, methR_some, e_makeE, seq_exc, ite_exc, attr_ins, meth_ins, see_ins, obD_ins, setFldE, setFldK_own, putD_nil, putD_cons, fini_next, fini_exc, calls_tb, slice_fromL, slice_toL, pow12, max_ii, bool_bl, s_setAttrE, e_attrE, look_nil, look_cons, s_setNE, newOb_lst, fresh_lst, s_appE, s_frzE, lim_lt]
  · have W := ticks_well (n := n + 1) (h := h) (a := rs[0]'(by omega)) (rs := (rs.take k).tail) (fun r hx => by
      refine hr r ?_
      rcases List.mem_cons.mp hx with rfl | hx
      · exact List.getElem_mem _
      · exact List.mem_of_mem_take (List.mem_of_mem_tail hx)) (by rw [List.length_tail, List.length_take]; omega)
    have e : rs[0]'(by omega) :: (rs.take k).tail = rs.take k := by
      match rs, hl, k, hz with
      | r :: rs, _, k + 1, _ => rfl
    rw [e, List.map_take, List.map_take] at W
    have hk0 : (0 : Int) < (k : Int) := by omega
    have hk1 : 0 < k := by omega
    simp [cIn, envL, ss_nilE, ss_consE, seq_next, seq_ret, seq_brk, seq_cont, s_iteE, ite_ok, s_setE, s_setTE, s_exE, s_retE, s_retNE, s_passE, s_brkE, s_contE, s_setSubE, e_nonE, e_blE, e_intE, e_strE, slR_val, e_varE, e_globE, e_binE, negR_int, e_negE, e_cmpE, e_chainE, e_andE, e_orE, e_notE, e_ifeE, e_tupE, e_lstE, e_subE, e_sliceE, e_callE, e_bltE, e_bmE, e_isiE, es_nilE, es_consE, es_starE, bs_nilE, bs_consE, o_noneE, intR_int, o_someE, c_noneE, c_someE, and_oneE, and_consE, or_oneE, or_consE, i_ofE, rngR1_int, rngR2_int, i_rng1E, i_rng2E, base_varK, baseV_own, baseV_val, 
    base_cst, base_glob, base_bin, base_neg, base_cmp, base_chain, base_and, base_or, base_not, base_ife, base_tup, base_lst, base_sub, base_slice, base_call, base_blt, base_bm, base_isi, base_lc, fin_ret, fin_next, test_ok, out_ok, see0, obD_lst, truth_int, truth_lst, truth_str, lt_int, le_int, gt_int, ge_int, eq_D, ne_D, is_non, isnot_non, in_D, notin_D, add_int, sub_int, len_lst, len_tup, len_str, int_int, list_lst, list_tup, tuple_lst, tuple_tup, ixN_lit, subL_lit, subT_lit, setAt_cell0, lim_k, cut_from1, binK_some, cmpK_some, s_tryE, try_ret, try_next, noExc_ret, noExc_next, s_raiseE, fin_exc, out_exc, test_exc, base_attr, base_meth, base_make, e_attrE, e_methE, methR_some, e_makeE, seq_exc, ite_exc, attr_ins, meth_ins, see_ins, obD_ins, setFldE, setFldK_own, putD_nil, putD_cons, fini_next, fini_exc, calls_tb, slice_fromL, slice_toL, pow12, max_ii, bool_bl, s_setAttrE, e_attrE, look_nil, look_cons, s_setNE, newOb_lst, fresh_lst, s_appE, s_frzE, lim_lt, slice_to, T, W, hk0, hk1]
theorem in_loop {rs : List Row} (hr : ∀ r ∈ rs, okR r) (hl : rs.length = 5) :
    ∃ x', forGo (.name 7) (evSs (Fd (n + 6)) gl cIn) [.int 0, .int 1, .int 2, .int 3, .int 4, .int 5] (envL s0 s1 s2 s3 s4 (.val (.lst (rs.map rD))) (.val (.lst (rs.map sD))) s7 s8 s9 s10) h = .next (envL s0 s1 s2 s3 s4 (.val (.lst (rs.map rD))) (.val (.lst (rs.map sD))) x' s8 s9 s10) h := by
  obtain ⟨e', h1, s', rfl⟩ := for_all (t := .name 7) (f := evSs (Fd (n + 6)) gl cIn) (h := h) (fun e => ∃ s, e = envL s0 s1 s2 s3 s4 (.val (.lst (rs.map rD))) (.val (.lst (rs.map sD))) s s8 s9 s10) (ds := [.int 0, .int 1, .int 2, .int 3, .int 4, .int 5]) ⟨s7, rfl⟩ fun x hx env ⟨s, e⟩ => by
    subst e
    have hi : ∃ k : Nat, k ≤ 5 ∧ x = .int k := by
      simp only [List.mem_cons, List.not_mem_nil, or_false] at hx
      rcases hx with rfl | rfl | rfl | rfl | rfl | rfl
      · exact ⟨0, by decide, rfl⟩
      · exact ⟨1, by decide, rfl⟩
      · exact ⟨2, by decide, rfl⟩
      · exact ⟨3, by decide, rfl⟩
      · exact ⟨4, by decide, rfl⟩
      · exact ⟨5, by decide, rfl⟩
    obtain ⟨k, hk, rfl⟩ := hi
    exact ⟨_, _, rfl, in_turn hr hl hk, _, rfl⟩
  exact ⟨s', h1⟩
theorem out_turn {rs : List Row} {t : Nat} (hr : ∀ r ∈ rs, okR r) (hl : rs.length = 5) (ht : t ≤ 4) :
    ∃ x5 x6 x7, evSs (Fd (n + 6)) gl cOut (envL s0 s1 (.val (.lst (rs.map rD))) (.val (.lst (rs.map sD))) (.val (.int (t : Nat))) s5 s6 s7 s8 s9 s10) h = .next (envL s0 s1 (.val (.lst (rs.map rD))) (.val (.lst (rs.map sD))) (.val (.int (t : Nat))) x5 x6 x7 s8 s9 s10) h := by
  have lr : (rs.drop t ++ rs.take t).length = 5 := by rw [List.length_append, List.length_drop, List.length_take]; omega
  obtain ⟨x', L⟩ := in_loop (n := n) (h := h) (s0 := s0) (s1 := s1) (s2 := .val (.lst (rs.map rD))) (s3 := .val (.lst (rs.map sD))) (s4 := .val (.int (t : Nat))) (s7 := s7) (s8 := s8) (s9 := s9) (s10 := s10) (rs := rs.drop t ++ rs.take t) (fun r hx => by
    rcases List.mem_append.mp hx with hx | hx
    · exact hr r (List.mem_of_mem_drop hx)
    · exact hr r (List.mem_of_mem_take hx)) lr
  have a1 : opB .add (.lst ((rs.map rD).drop t)) (.lst ((rs.map rD).take t)) = some (.lst ((rs.drop t ++ rs.take t).map rD)) := by
    rw [add_lst (by rw [List.length_drop, List.length_take, List.length_map]; show _ ≤ 16777216; omega), List.map_append, List.map_drop, List.map_take]
  have a2 : opB .add (.lst ((rs.map sD).drop t)) (.lst ((rs.map sD).take t)) = some (.lst ((rs.drop t ++ rs.take t).map sD)) := by
    rw [add_lst (by rw [List.length_drop, List.length_take, List.length_map]; show _ ≤ 16777216; omega), List.map_append, List.map_drop, List.map_take]
  refine ⟨.val (.lst ((rs.drop t ++ rs.take t).map rD)), .val (.lst ((rs.drop t ++ rs.take t).map sD)), x', ?_⟩
  have e1 : evS (Fd (n + 6)) gl (.set 5 (.bin .add (.slice (.var 2) (.some (.var 4)) .none) (.slice (.var 2) .none (.some (.var 4))))) (envL s0 s1 (.val (.lst (rs.map rD))) (.val (.lst (rs.map sD))) (.val (.int (t : Nat))) s5 s6 s7 s8 s9 s10) h = .next (envL s0 s1 (.val (.lst (rs.map rD))) (.val (.lst (rs.map sD))) (.val (.int (t : Nat))) (.val (.lst ((rs.drop t ++ rs.take t).map rD))) s6 s7 s8 s9 s10) h := by
    generalize (rs.drop t ++ rs.take t).map rD = Z at a1 ⊢
    simp only [envL, ss_nilE, ss_consE, seq_next, seq_ret, seq_brk, seq_cont, s_iteE, ite_ok, s_setE, s_setTE, s_exE, s_retE, s_retNE, s_passE, s_brkE, s_contE, s_setSubE, e_nonE, e_blE, e_intE, e_strE, slR_val, e_varE, e_globE, e_binE, negR_int, e_negE, e_cmpE, e_chainE, e_andE, e_orE, e_notE, e_ifeE, e_tupE, e_lstE, e_subE, e_sliceE, e_callE, e_bltE, e_bmE, e_isiE, es_nilE, es_consE, es_starE, bs_nilE, bs_consE, o_noneE, intR_int, o_someE, c_noneE, c_someE, and_oneE, and_consE, or_oneE, or_consE, i_ofE, rngR1_int, rngR2_int, i_rng1E, i_rng2E, base_varK, baseV_own, baseV_val, 
    base_cst, base_glob, base_bin, base_neg, base_cmp, base_chain, base_and, base_or, base_not, base_ife, base_tup, base_lst, base_sub, base_slice, base_call, base_blt, base_bm, base_isi, base_lc, fin_ret, fin_next, test_ok, out_ok, see0, obD_lst, truth_int, truth_lst, truth_str, lt_int, le_int, gt_int, ge_int, eq_D, ne_D, is_non, isnot_non, in_D, notin_D, add_int, sub_int, len_lst, len_tup, len_str, int_int, list_lst, list_tup, tuple_lst, tuple_tup, ixN_lit, subL_lit, subT_lit, setAt_cell0, lim_k, cut_from1, binK_some, cmpK_some, s_tryE, try_ret, try_next, noExc_ret, noExc_next, s_raiseE, fin_exc, out_exc, test_exc, base_attr, base_meth, base_make, e_attrE, e_methE, methR_some, e_makeE, seq_exc, ite_exc, attr_ins, meth_ins, see_ins, obD_ins, setFldE, setFldK_own, putD_nil, putD_cons, fini_next, fini_exc, calls_tb, slice_fromL, slice_toL, pow12, max_ii, bool_bl, s_setAttrE, e_attrE, look_nil, look_cons, s_setNE, newOb_lst, fresh_lst, s_appE, s_frzE, lim_lt, Res.bind_ok, List.getElem?_cons_zero, List.getElem?_cons_succ, slice_from, slice_to, lift_some, see_lst, a1, List.set_cons_succ, List.set_cons_zero]
  have e2 : ∀ Y, evS (Fd (n + 6)) gl (.set 6 (.bin .add (.slice (.var 3) (.some (.var 4)) .none) (.slice (.var 3) .none (.some (.var 4))))) (envL s0 s1 (.val (.lst (rs.map rD))) (.val (.lst (rs.map sD))) (.val (.int (t : Nat))) Y s6 s7 s8 s9 s10) h = .next (envL s0 s1 (.val (.lst (rs.map rD))) (.val (.lst (rs.map sD))) (.val (.int (t : Nat))) Y (.val (.lst ((rs.drop t ++ rs.take t).map sD))) s7 s8 s9 s10) h := fun Y => by
    generalize (rs.drop t ++ rs.take t).map sD = Z at a2 ⊢
    simp only [envL, ss_nilE, ss_consE, seq_next, seq_ret, seq_brk, seq_cont, s_iteE, ite_ok, s_setE, s_setTE, s_exE, s_retE, s_retNE, s_passE, s_brkE, s_contE, s_setSubE, e_nonE, e_blE, e_intE, e_strE, slR_val, e_varE, e_globE, e_binE, negR_int, e_negE, e_cmpE, e_chainE, e_andE, e_orE, e_notE, e_ifeE, e_tupE, e_lstE, e_subE, e_sliceE, e_callE, e_bltE, e_bmE, e_isiE, es_nilE, es_consE, es_starE, bs_nilE, bs_consE, o_noneE, intR_int, o_someE, c_noneE, c_someE, and_oneE, and_consE, or_oneE, or_consE, i_ofE, rngR1_int, rngR2_int, i_rng1E, i_rng2E, base_varK, baseV_own, baseV_val, 
    base_cst, base_glob, base_bin, base_neg, base_cmp, base_chain, base_and, base_or, base_not, base_ife, base_tup, base_lst, base_sub, base_slice, base_call, base_blt, base_bm, base_isi, base_lc, fin_ret, fin_next, test_ok, out_ok, see0, obD_lst, truth_int, truth_lst, truth_str, lt_int, le_int, gt_int, ge_int, eq_D, ne_D, is_non, isnot_non, in_D, notin_D, add_int, sub_int, len_lst, len_tup, len_str, int_int, list_lst, list_tup, tuple_lst, tuple_tup, ixN_lit, subL_lit, subT_lit, setAt_cell0, lim_k, cut_from1, binK_some, cmpK_some, s_tryE, try_ret, try_next, noExc_ret, noExc_next, s_raiseE, fin_exc, out_exc, test_exc, base_attr, base_meth, base_make, e_attrE, e_methE, methR_some, e_makeE, seq_exc, ite_exc, attr_ins, meth_ins, see_ins, obD_ins, setFldE, setFldK_own, putD_nil, putD_cons, fini_next, fini_exc, calls_tb, slice_fromL, slice_toL, pow12, max_ii, bool_bl, s_setAttrE, e_attrE, look_nil, look_cons, s_setNE, newOb_lst, fresh_lst, s_appE, s_frzE, lim_lt, Res.bind_ok, List.getElem?_cons_zero, List.getElem?_cons_succ, slice_from, slice_to, lift_some, see_lst, a2, List.set_cons_succ, List.set_cons_zero]
  have e3 : ∀ env, evI (Fd (n + 6)) gl env (.rng1 (.cst (.int 6))) h = .ok [.int 0, .int 1, .int 2, .int 3, .int 4, .int 5] h := fun env => by simp [ss_nilE, ss_consE, seq_next, seq_ret, seq_brk, seq_cont, s_iteE, ite_ok, s_setE, s_setTE, s_exE, s_retE, s_retNE, s_passE, s_brkE, s_contE, s_setSubE, e_nonE, e_blE, e_intE, e_strE, slR_val, e_varE, e_globE, e_binE, negR_int, e_negE, e_cmpE, e_chainE, e_andE, e_orE, e_notE, e_ifeE, e_tupE, e_lstE, e_subE, e_sliceE, e_callE, e_bltE, e_bmE, e_isiE, es_nilE, es_consE, es_starE, bs_nilE, bs_consE, o_noneE, intR_int, o_someE, c_noneE, c_someE, and_oneE, and_consE, or_oneE, or_consE, i_ofE, rngR1_int, rngR2_int, i_rng1E, i_rng2E, base_varK, baseV_own, baseV_val, 
    base_cst, base_glob, base_bin, base_neg, base_cmp, base_chain, base_and, base_or, base_not, base_ife, base_tup, base_lst, base_sub, base_slice, base_call, base_blt, base_bm, base_isi, base_lc, fin_ret, fin_next, test_ok, out_ok, see0, obD_lst, truth_int, truth_lst, truth_str, lt_int, le_int, gt_int, ge_int, eq_D, ne_D, is_non, isnot_non, in_D, notin_D, add_int, sub_int, len_lst, len_tup, len_str, int_int, list_lst, list_tup, tuple_lst, tuple_tup, ixN_lit, subL_lit, subT_lit, setAt_cell0, lim_k, cut_from1, binK_some, cmpK_some, s_tryE, try_ret, try_next, noExc_ret, noExc_next, s_raiseE, fin_exc, out_exc, test_exc, base_attr, base_meth, base_make, e_attrE, e_methE, methR_some, e_makeE, seq_exc, ite_exc, attr_ins, meth_ins, see_ins, obD_ins, setFldE, setFldK_own, putD_nil, putD_cons, fini_next, fini_exc, calls_tb, slice_fromL, slice_toL, pow12, max_ii, bool_bl, s_setAttrE, e_attrE, look_nil, look_cons, s_setNE, newOb_lst, fresh_lst, s_appE, s_frzE, lim_lt, rng6]
  unfold cOut
  rw [ss_consE, e1, seq_next, ss_consE, e2, seq_next, ss_consE, s_forE, e3, out_ok, L, seq_next, ss_nilE]
theorem out_loop {rs : List Row} (hr : ∀ r ∈ rs, okR r) (hl : rs.length = 5) :
    ∃ x4 x5 x6 x7, forGo (.name 4) (evSs (Fd (n + 6)) gl cOut) [.int 0, .int 1, .int 2, .int 3, .int 4] (envL s0 s1 (.val (.lst (rs.map rD))) (.val (.lst (rs.map sD))) s4 s5 s6 s7 s8 s9 s10) h = .next (envL s0 s1 (.val (.lst (rs.map rD))) (.val (.lst (rs.map sD))) x4 x5 x6 x7 s8 s9 s10) h := by
  obtain ⟨e', h1, x4, x5, x6, x7, rfl⟩ := for_all (t := .name 4) (f := evSs (Fd (n + 6)) gl cOut) (h := h) (fun e => ∃ x4 x5 x6 x7, e = envL s0 s1 (.val (.lst (rs.map rD))) (.val (.lst (rs.map sD))) x4 x5 x6 x7 s8 s9 s10) (ds := [.int 0, .int 1, .int 2, .int 3, .int 4]) ⟨s4, s5, s6, s7, rfl⟩ fun x hx env ⟨y4, y5, y6, y7, e⟩ => by
    subst e
    have hi : ∃ k : Nat, k ≤ 4 ∧ x = .int k := by
      simp only [List.mem_cons, List.not_mem_nil, or_false] at hx
      rcases hx with rfl | rfl | rfl | rfl | rfl
      · exact ⟨0, by decide, rfl⟩
      · exact ⟨1, by decide, rfl⟩
      · exact ⟨2, by decide, rfl⟩
      · exact ⟨3, by decide, rfl⟩
      · exact ⟨4, by decide, rfl⟩
    obtain ⟨k, hk, rfl⟩ := hi
    obtain ⟨x5, x6, x7, e⟩ := out_turn (n := n) (h := h) (s0 := s0) (s1 := s1) (s5 := y5) (s6 := y6) (s7 := y7) (s8 := s8) (s9 := s9) (s10 := s10) hr hl hk
    exact ⟨_, _, rfl, e, _, _, _, _, rfl⟩
  exact ⟨x4, x5, x6, x7, h1⟩
def cEnd : CSs := .cons (.ite (.not (.call 15 (.cons (.sub (.var 3) (.var 9)) (.cons (.sub (.var 2) (.var 9)) .nil)))) (.cons (.ret (.cst (.bl false))) .nil) .nil) .nil
theorem end_loop {rs : List Row} (hl : rs.length = 5) :
    ∃ x9, forGo (.name 9) (evSs (Fd (n + 6)) gl cEnd) [.int 0, .int 1, .int 2, .int 3, .int 4] (envL s0 s1 (.val (.lst (rs.map rD))) (.val (.lst (rs.map sD))) s4 s5 s6 s7 s8 s9 s10) h = .next (envL s0 s1 (.val (.lst (rs.map rD))) (.val (.lst (rs.map sD))) s4 s5 s6 s7 s8 x9 s10) h := by
  obtain ⟨e', h1, x9, rfl⟩ := for_all (t := .name 9) (f := evSs (Fd (n + 6)) gl cEnd) (h := h) (fun e => ∃ x9, e = envL s0 s1 (.val (.lst (rs.map rD))) (.val (.lst (rs.map sD))) s4 s5 s6 s7 s8 x9 s10) (ds := [.int 0, .int 1, .int 2, .int 3, .int 4]) ⟨s9, rfl⟩ fun x hx env ⟨y9, e⟩ => by
    subst e
    have hi : ∃ k : Nat, k ≤ 4 ∧ x = .int k := by
      simp only [List.mem_cons, List.not_mem_nil, or_false] at hx
      rcases hx with rfl | rfl | rfl | rfl | rfl
      · exact ⟨0, by decide, rfl⟩
      · exact ⟨1, by decide, rfl⟩
      · exact ⟨2, by decide, rfl⟩
      · exact ⟨3, by decide, rfl⟩
      · exact ⟨4, by decide, rfl⟩
    obtain ⟨k, hk, rfl⟩ := hi
    have hkl : k < rs.length := by omega
    have z1 : subD (.lst (rs.map sD)) (.int (k : Nat)) = some (sD rs[k]) := by rw [sub_nat, List.getElem?_map, List.getElem?_eq_getElem hkl]; rfl
    have z2 : subD (.lst (rs.map rD)) (.int (k : Nat)) = some (rD rs[k]) := by rw [sub_nat, List.getElem?_map, List.getElem?_eq_getElem hkl]; rfl
    have I := is_stamp (n := n + 2) (r := rs[k]) (h := h)
    refine ⟨_, _, rfl, ?_, .val (.int (k : Nat)), rfl⟩
    simp [cEnd, envL, ss_nilE, ss_consE, seq_next, seq_ret, seq_brk, seq_cont, s_iteE, ite_ok, s_setE, s_setTE, s_exE, s_retE, s_retNE, s_passE, s_brkE, s_contE, s_setSubE, e_nonE, e_blE, e_intE, e_strE, slR_val, e_varE, e_globE, e_binE, negR_int, e_negE, e_cmpE, e_chainE, e_andE, e_orE, e_notE, e_ifeE, e_tupE, e_lstE, e_subE, e_sliceE, e_callE, e_bltE, e_bmE, e_isiE, es_nilE, es_consE, es_starE, bs_nilE, bs_consE, o_noneE, intR_int, o_someE, c_noneE, c_someE, and_oneE, and_consE, or_oneE, or_consE, i_ofE, rngR1_int, rngR2_int, i_rng1E, i_rng2E, base_varK, baseV_own, baseV_val, 
    base_cst, base_glob, base_bin, base_neg, base_cmp, base_chain, base_and, base_or, base_not, base_ife, base_tup, base_lst, base_sub, base_slice, base_call, base_blt, base_bm, base_isi, base_lc, fin_ret, fin_next, test_ok, out_ok, see0, obD_lst, truth_int, truth_lst, truth_str, lt_int, le_int, gt_int, ge_int, eq_D, ne_D, is_non, isnot_non, in_D, notin_D, add_int, sub_int, len_lst, len_tup, len_str, int_int, list_lst, list_tup, tuple_lst, tuple_tup, ixN_lit, subL_lit, subT_lit, setAt_cell0, lim_k, cut_from1, binK_some, cmpK_some, s_tryE, try_ret, try_next, noExc_ret, noExc_next, s_raiseE, fin_exc, out_exc, test_exc, base_attr, base_meth, base_make, e_attrE, e_methE, methR_some, e_makeE, seq_exc, ite_exc, attr_ins, meth_ins, see_ins, obD_ins, setFldE, setFldK_own, putD_nil, putD_cons, fini_next, fini_exc, calls_tb, slice_fromL, slice_toL, pow12, max_ii, bool_bl, s_setAttrE, e_attrE, look_nil, look_cons, s_setNE, newOb_lst, fresh_lst, s_appE, s_frzE, lim_lt, z1, z2, I]
  exact ⟨x9, h1⟩
end
def gS : D → Option D
  | .tup [.int c, .int p] => some (sD (c, p))
  | _ => none
theorem gS_r (r : Row) : gS (rD r) = some (sD r) := rfl
theorem filterMap_s : ∀ rs : List Row, (rs.map rD).filterMap gS = rs.map sD
  | [] => rfl
  | r :: rs => by
    rw [List.map_cons, List.filterMap_cons_some (gS_r r), filterMap_s rs, List.map_cons]
theorem len5 : ∀ {rs : List Row}, rs.length = 5 → ∃ r0 r1 r2 r3 r4, rs = [r0, r1, r2, r3, r4]
  | [r0, r1, r2, r3, r4], _ => ⟨r0, r1, r2, r3, r4, rfl⟩
theorem law_ev (n : Nat) (ns : List Int) : ∃ c, (Fd (n + 7)).call 20 [.lst (ns.map .int)] [] = .ok (.bl true) c := by
  rw [call_run (fn := f_law) rfl rfl rfl]
  have key : RetP (Fd (n + 6)) gl c_law (envL (.val (.lst (ns.map .int))) .no .no .no .no .no .no .no .no .no .no) [] fun d c => d = .bl true := by
    obtain ⟨h1, q1, e1⟩ := start_at (fs := fs) (gl := gl) (tb := pr.tb) (si := 11) rfl (n + 5) ns
    refine .set (d := .cell 0) (h' := h1) (by simp [envL, ss_nilE, ss_consE, seq_next, seq_ret, seq_brk, seq_cont, s_iteE, ite_ok, s_setE, s_setTE, s_exE, s_retE, s_retNE, s_passE, s_brkE, s_contE, s_setSubE, e_nonE, e_blE, e_intE, e_strE, slR_val, e_varE, e_globE, e_binE, negR_int, e_negE, e_cmpE, e_chainE, e_andE, e_orE, e_notE, e_ifeE, e_tupE, e_lstE, e_subE, e_sliceE, e_callE, e_bltE, e_bmE, e_isiE, es_nilE, es_consE, es_starE, bs_nilE, bs_consE, o_noneE, intR_int, o_someE, c_noneE, c_someE, and_oneE, and_consE, or_oneE, or_consE, i_ofE, rngR1_int, rngR2_int, i_rng1E, i_rng2E, base_varK, baseV_own, baseV_val, 
    base_cst, base_glob, base_bin, base_neg, base_cmp, base_chain, base_and, base_or, base_not, base_ife, base_tup, base_lst, base_sub, base_slice, base_call, base_blt, base_bm, base_isi, base_lc, fin_ret, fin_next, test_ok, out_ok, see0, obD_lst, truth_int, truth_lst, truth_str, lt_int, le_int, gt_int, ge_int, eq_D, ne_D, is_non, isnot_non, in_D, notin_D, add_int, sub_int, len_lst, len_tup, len_str, int_int, list_lst, list_tup, tuple_lst, tuple_tup, ixN_lit, subL_lit, subT_lit, setAt_cell0, lim_k, cut_from1, binK_some, cmpK_some, s_tryE, try_ret, try_next, noExc_ret, noExc_next, s_raiseE, fin_exc, out_exc, test_exc, base_attr, base_meth, base_make, e_attrE, e_methE, methR_some, e_makeE, seq_exc, ite_exc, attr_ins, meth_ins, see_ins, obD_ins, setFldE, setFldK_own, putD_nil, putD_cons, fini_next, fini_exc, calls_tb, slice_fromL, slice_toL, pow12, max_ii, bool_bl, s_setAttrE, e_attrE, look_nil, look_cons, s_setNE, newOb_lst, fresh_lst, s_appE, s_frzE, lim_lt, e1]) ?_
    obtain ⟨rs, h2, q2, l1, l2, e2⟩ := rows_ok (n := n + 4) q1
    refine .set (d := .lst (rs.map rD)) (h' := h2) (by simp [envL, ss_nilE, ss_consE, seq_next, seq_ret, seq_brk, seq_cont, s_iteE, ite_ok, s_setE, s_setTE, s_exE, s_retE, s_retNE, s_passE, s_brkE, s_contE, s_setSubE, e_nonE, e_blE, e_intE, e_strE, slR_val, e_varE, e_globE, e_binE, negR_int, e_negE, e_cmpE, e_chainE, e_andE, e_orE, e_notE, e_ifeE, e_tupE, e_lstE, e_subE, e_sliceE, e_callE, e_bltE, e_bmE, e_isiE, es_nilE, es_consE, es_starE, bs_nilE, bs_consE, o_noneE, intR_int, o_someE, c_noneE, c_someE, and_oneE, and_consE, or_oneE, or_consE, i_ofE, rngR1_int, rngR2_int, i_rng1E, i_rng2E, base_varK, baseV_own, baseV_val, 
    base_cst, base_glob, base_bin, base_neg, base_cmp, base_chain, base_and, base_or, base_not, base_ife, base_tup, base_lst, base_sub, base_slice, base_call, base_blt, base_bm, base_isi, base_lc, fin_ret, fin_next, test_ok, out_ok, see0, obD_lst, truth_int, truth_lst, truth_str, lt_int, le_int, gt_int, ge_int, eq_D, ne_D, is_non, isnot_non, in_D, notin_D, add_int, sub_int, len_lst, len_tup, len_str, int_int, list_lst, list_tup, tuple_lst, tuple_tup, ixN_lit, subL_lit, subT_lit, setAt_cell0, lim_k, cut_from1, binK_some, cmpK_some, s_tryE, try_ret, try_next, noExc_ret, noExc_next, s_raiseE, fin_exc, out_exc, test_exc, base_attr, base_meth, base_make, e_attrE, e_methE, methR_some, e_makeE, seq_exc, ite_exc, attr_ins, meth_ins, see_ins, obD_ins, setFldE, setFldK_own, putD_nil, putD_cons, fini_next, fini_exc, calls_tb, slice_fromL, slice_toL, pow12, max_ii, bool_bl, s_setAttrE, e_attrE, look_nil, look_cons, s_setNE, newOb_lst, fresh_lst, s_appE, s_frzE, lim_lt, e2]) ?_
    have e3 : evE (Fd (n + 6)) gl (envL (.val (.lst (ns.map .int))) (.val (.cell 0)) (.val (.lst (rs.map rD))) .no .no .no .no .no .no .no .no) (.lc (.make 0 (.cons (.sub (.var 10) (.cst (.int 0))) (.cons (.sub (.var 10) (.cst (.int 1))) .nil))) [10] (.name 10) (.of (.var 2)) .none) h2 = .ok (.lst (rs.map sD)) h2 := by
      have z : evI (Fd (n + 6)) gl (envL (.val (.lst (ns.map .int))) (.val (.cell 0)) (.val (.lst (rs.map rD))) .no .no .no .no .no .no .no .no) (.of (.var 2)) h2 = .ok (rs.map rD) h2 := by simp [envL, ss_nilE, ss_consE, seq_next, seq_ret, seq_brk, seq_cont, s_iteE, ite_ok, s_setE, s_setTE, s_exE, s_retE, s_retNE, s_passE, s_brkE, s_contE, s_setSubE, e_nonE, e_blE, e_intE, e_strE, slR_val, e_varE, e_globE, e_binE, negR_int, e_negE, e_cmpE, e_chainE, e_andE, e_orE, e_notE, e_ifeE, e_tupE, e_lstE, e_subE, e_sliceE, e_callE, e_bltE, e_bmE, e_isiE, es_nilE, es_consE, es_starE, bs_nilE, bs_consE, o_noneE, intR_int, o_someE, c_noneE, c_someE, and_oneE, and_consE, or_oneE, or_consE, i_ofE, rngR1_int, rngR2_int, i_rng1E, i_rng2E, base_varK, baseV_own, baseV_val, 
    base_cst, base_glob, base_bin, base_neg, base_cmp, base_chain, base_and, base_or, base_not, base_ife, base_tup, base_lst, base_sub, base_slice, base_call, base_blt, base_bm, base_isi, base_lc, fin_ret, fin_next, test_ok, out_ok, see0, obD_lst, truth_int, truth_lst, truth_str, lt_int, le_int, gt_int, ge_int, eq_D, ne_D, is_non, isnot_non, in_D, notin_D, add_int, sub_int, len_lst, len_tup, len_str, int_int, list_lst, list_tup, tuple_lst, tuple_tup, ixN_lit, subL_lit, subT_lit, setAt_cell0, lim_k, cut_from1, binK_some, cmpK_some, s_tryE, try_ret, try_next, noExc_ret, noExc_next, s_raiseE, fin_exc, out_exc, test_exc, base_attr, base_meth, base_make, e_attrE, e_methE, methR_some, e_makeE, seq_exc, ite_exc, attr_ins, meth_ins, see_ins, obD_ins, setFldE, setFldK_own, putD_nil, putD_cons, fini_next, fini_exc, calls_tb, slice_fromL, slice_toL, pow12, max_ii, bool_bl, s_setAttrE, e_attrE, look_nil, look_cons, s_setNE, newOb_lst, fresh_lst, s_appE, s_frzE, lim_lt, itemsD]
      rw [e_lcE, z, Res.bind_ok, if_pos (by rw [List.length_map]; show _ ≤ 16777216; omega), lc_map gS fun d hd => by
        obtain ⟨r, hr, rfl⟩ := List.mem_map.mp hd
        have hi := ini_ok (n := n + 5) (c := r.1) (p := r.2) (h := h2) (l2 r hr)
        rw [gS_r]
        unfold lcG
        simp only [bindT_name, c_noneE, Res.bind_ok, if_true]
        simp [envL, wipeE, ss_nilE, ss_consE, seq_next, seq_ret, seq_brk, seq_cont, s_iteE, ite_ok, s_setE, s_setTE, s_exE, s_retE, s_retNE, s_passE, s_brkE, s_contE, s_setSubE, e_nonE, e_blE, e_intE, e_strE, slR_val, e_varE, e_globE, e_binE, negR_int, e_negE, e_cmpE, e_chainE, e_andE, e_orE, e_notE, e_ifeE, e_tupE, e_lstE, e_subE, e_sliceE, e_callE, e_bltE, e_bmE, e_isiE, es_nilE, es_consE, es_starE, bs_nilE, bs_consE, o_noneE, intR_int, o_someE, c_noneE, c_someE, and_oneE, and_consE, or_oneE, or_consE, i_ofE, rngR1_int, rngR2_int, i_rng1E, i_rng2E, base_varK, baseV_own, baseV_val, 
    base_cst, base_glob, base_bin, base_neg, base_cmp, base_chain, base_and, base_or, base_not, base_ife, base_tup, base_lst, base_sub, base_slice, base_call, base_blt, base_bm, base_isi, base_lc, fin_ret, fin_next, test_ok, out_ok, see0, obD_lst, truth_int, truth_lst, truth_str, lt_int, le_int, gt_int, ge_int, eq_D, ne_D, is_non, isnot_non, in_D, notin_D, add_int, sub_int, len_lst, len_tup, len_str, int_int, list_lst, list_tup, tuple_lst, tuple_tup, ixN_lit, subL_lit, subT_lit, setAt_cell0, lim_k, cut_from1, binK_some, cmpK_some, s_tryE, try_ret, try_next, noExc_ret, noExc_next, s_raiseE, fin_exc, out_exc, test_exc, base_attr, base_meth, base_make, e_attrE, e_methE, methR_some, e_makeE, seq_exc, ite_exc, attr_ins, meth_ins, see_ins, obD_ins, setFldE, setFldK_own, putD_nil, putD_cons, fini_next, fini_exc, calls_tb, slice_fromL, slice_toL, pow12, max_ii, bool_bl, s_setAttrE, e_attrE, look_nil, look_cons, s_setNE, newOb_lst, fresh_lst, s_appE, s_frzE, lim_lt, see_rD, subT0, subT1, hi, sD], filterMap_s]
      rfl
    refine .set (d := .lst (rs.map sD)) (h' := h2) e3 ?_
    obtain ⟨x4, x5, x6, x7, L1⟩ := out_loop (n := n) (h := h2) (s0 := .val (.lst (ns.map .int))) (s1 := .val (.cell 0)) (s4 := .no) (s5 := .no) (s6 := .no) (s7 := .no) (s8 := .no) (s9 := .no) (s10 := .no) l2 l1
    refine .for (ds := [.int 0, .int 1, .int 2, .int 3, .int 4]) (h' := h2) (by simp [envL, ss_nilE, ss_consE, seq_next, seq_ret, seq_brk, seq_cont, s_iteE, ite_ok, s_setE, s_setTE, s_exE, s_retE, s_retNE, s_passE, s_brkE, s_contE, s_setSubE, e_nonE, e_blE, e_intE, e_strE, slR_val, e_varE, e_globE, e_binE, negR_int, e_negE, e_cmpE, e_chainE, e_andE, e_orE, e_notE, e_ifeE, e_tupE, e_lstE, e_subE, e_sliceE, e_callE, e_bltE, e_bmE, e_isiE, es_nilE, es_consE, es_starE, bs_nilE, bs_consE, o_noneE, intR_int, o_someE, c_noneE, c_someE, and_oneE, and_consE, or_oneE, or_consE, i_ofE, rngR1_int, rngR2_int, i_rng1E, i_rng2E, base_varK, baseV_own, baseV_val, 
    base_cst, base_glob, base_bin, base_neg, base_cmp, base_chain, base_and, base_or, base_not, base_ife, base_tup, base_lst, base_sub, base_slice, base_call, base_blt, base_bm, base_isi, base_lc, fin_ret, fin_next, test_ok, out_ok, see0, obD_lst, truth_int, truth_lst, truth_str, lt_int, le_int, gt_int, ge_int, eq_D, ne_D, is_non, isnot_non, in_D, notin_D, add_int, sub_int, len_lst, len_tup, len_str, int_int, list_lst, list_tup, tuple_lst, tuple_tup, ixN_lit, subL_lit, subT_lit, setAt_cell0, lim_k, cut_from1, binK_some, cmpK_some, s_tryE, try_ret, try_next, noExc_ret, noExc_next, s_raiseE, fin_exc, out_exc, test_exc, base_attr, base_meth, base_make, e_attrE, e_methE, methR_some, e_makeE, seq_exc, ite_exc, attr_ins, meth_ins, see_ins, obD_ins, setFldE, setFldK_own, putD_nil, putD_cons, fini_next, fini_exc, calls_tb, slice_fromL, slice_toL, pow12, max_ii, bool_bl, s_setAttrE, e_attrE, look_nil, look_cons, s_setNE, newOb_lst, fresh_lst, s_appE, s_frzE, lim_lt, rng5]) L1 ?_
    obtain ⟨r0, r1, r2, r3, r4, rfl⟩ := len5 l1
    · skip
      have o0 := l2 r0 (by simp)
      have o1 := l2 r1 (by simp)
      have ot : okR (1000000000000, r0.2) := ⟨by show (0 : Int) ≤ 1000000000000; decide, by show (1000000000000 : Int) ≤ 1000000000000; decide, o0.2.2.1, o0.2.2.2⟩
      have s2 : ∀ i, subD (.lst (([r0, r1, r2, r3, r4] : List Row).map rD)) (.int (no_index (@OfNat.ofNat Int i instOfNat))) = (([r0, r1, r2, r3, r4] : List Row).map rD)[i]? := fun i => subL_lit _ i
      have s3 : ∀ i, subD (.lst (([r0, r1, r2, r3, r4] : List Row).map sD)) (.int (no_index (@OfNat.ofNat Int i instOfNat))) = (([r0, r1, r2, r3, r4] : List Row).map sD)[i]? := fun i => subL_lit _ i
      have hi := ini_ok (n := n + 5) (c := 1000000000000) (p := r0.2) (h := h2) ot
      refine .set (d := sD (1000000000000, r0.2)) (h' := h2) (by simp [envL, ss_nilE, ss_consE, seq_next, seq_ret, seq_brk, seq_cont, s_iteE, ite_ok, s_setE, s_setTE, s_exE, s_retE, s_retNE, s_passE, s_brkE, s_contE, s_setSubE, e_nonE, e_blE, e_intE, e_strE, slR_val, e_varE, e_globE, e_binE, negR_int, e_negE, e_cmpE, e_chainE, e_andE, e_orE, e_notE, e_ifeE, e_tupE, e_lstE, e_subE, e_sliceE, e_callE, e_bltE, e_bmE, e_isiE, es_nilE, es_consE, es_starE, bs_nilE, bs_consE, o_noneE, intR_int, o_someE, c_noneE, c_someE, and_oneE, and_consE, or_oneE, or_consE, i_ofE, rngR1_int, rngR2_int, i_rng1E, i_rng2E, base_varK, baseV_own, baseV_val, 
    base_cst, base_glob, base_bin, base_neg, base_cmp, base_chain, base_and, base_or, base_not, base_ife, base_tup, base_lst, base_sub, base_slice, base_call, base_blt, base_bm, base_isi, base_lc, fin_ret, fin_next, test_ok, out_ok, see0, obD_lst, truth_int, truth_lst, truth_str, lt_int, le_int, gt_int, ge_int, eq_D, ne_D, is_non, isnot_non, in_D, notin_D, add_int, sub_int, len_lst, len_tup, len_str, int_int, list_lst, list_tup, tuple_lst, tuple_tup, ixN_lit, subL_lit, subT_lit, setAt_cell0, lim_k, cut_from1, binK_some, cmpK_some, s_tryE, try_ret, try_next, noExc_ret, noExc_next, s_raiseE, fin_exc, out_exc, test_exc, base_attr, base_meth, base_make, e_attrE, e_methE, methR_some, e_makeE, seq_exc, ite_exc, attr_ins, meth_ins, see_ins, obD_ins, setFldE, setFldK_own, putD_nil, putD_cons, fini_next, fini_exc, calls_tb, slice_fromL, slice_toL, pow12, max_ii, bool_bl, s_setAttrE, e_attrE, look_nil, look_cons, s_setNE, newOb_lst, fresh_lst, s_appE, s_frzE, lim_lt, see_rD, subT0, subT1, hi, sD]) ?_
      have e0 : rD (1000000000000, r0.2) = .tup [.int 1000000000000, .int r0.2] := rfl
      have W1 := ticks_well (n := n + 1) (h := h2) (a := r0) (rs := [(1000000000000, r0.2)]) (fun r hr => by
        simp only [List.mem_cons, List.not_mem_nil, or_false] at hr
        rcases hr with rfl | rfl <;> assumption) (by simp)
      have W2 := ticks_well (n := n + 1) (h := h2) (a := (1000000000000, r0.2)) (rs := [r0]) (fun r hr => by
        simp only [List.mem_cons, List.not_mem_nil, or_false] at hr
        rcases hr with rfl | rfl <;> assumption) (by simp)
      have W3 := tells_latest (n := n + 1) (rs := [r1, r0]) (h := h2) (by simp)
      simp only [List.map_cons, List.map_nil, e0] at W1 W2 W3
      refine .test (h' := h2) (by simp [envL, ss_nilE, ss_consE, seq_next, seq_ret, seq_brk, seq_cont, s_iteE, ite_ok, s_setE, s_setTE, s_exE, s_retE, s_retNE, s_passE, s_brkE, s_contE, s_setSubE, e_nonE, e_blE, e_intE, e_strE, slR_val, e_varE, e_globE, e_binE, negR_int, e_negE, e_cmpE, e_chainE, e_andE, e_orE, e_notE, e_ifeE, e_tupE, e_lstE, e_subE, e_sliceE, e_callE, e_bltE, e_bmE, e_isiE, es_nilE, es_consE, es_starE, bs_nilE, bs_consE, o_noneE, intR_int, o_someE, c_noneE, c_someE, and_oneE, and_consE, or_oneE, or_consE, i_ofE, rngR1_int, rngR2_int, i_rng1E, i_rng2E, base_varK, baseV_own, baseV_val, 
    base_cst, base_glob, base_bin, base_neg, base_cmp, base_chain, base_and, base_or, base_not, base_ife, base_tup, base_lst, base_sub, base_slice, base_call, base_blt, base_bm, base_isi, base_lc, fin_ret, fin_next, test_ok, out_ok, see0, obD_lst, truth_int, truth_lst, truth_str, lt_int, le_int, gt_int, ge_int, eq_D, ne_D, is_non, isnot_non, in_D, notin_D, add_int, sub_int, len_lst, len_tup, len_str, int_int, list_lst, list_tup, tuple_lst, tuple_tup, ixN_lit, subL_lit, subT_lit, setAt_cell0, lim_k, cut_from1, binK_some, cmpK_some, s_tryE, try_ret, try_next, noExc_ret, noExc_next, s_raiseE, fin_exc, out_exc, test_exc, base_attr, base_meth, base_make, e_attrE, e_methE, methR_some, e_makeE, seq_exc, ite_exc, attr_ins, meth_ins, see_ins, obD_ins, setFldE, setFldK_own, putD_nil, putD_cons, fini_next, fini_exc, calls_tb, slice_fromL, slice_toL, pow12, max_ii, bool_bl, s_setAttrE, e_attrE, look_nil, look_cons, s_setNE, newOb_lst, fresh_lst, s_appE, s_frzE, lim_lt, see_rD, subT0, subT1, W1]) ?_
      refine .test (h' := h2) (by simp [envL, ss_nilE, ss_consE, seq_next, seq_ret, seq_brk, seq_cont, s_iteE, ite_ok, s_setE, s_setTE, s_exE, s_retE, s_retNE, s_passE, s_brkE, s_contE, s_setSubE, e_nonE, e_blE, e_intE, e_strE, slR_val, e_varE, e_globE, e_binE, negR_int, e_negE, e_cmpE, e_chainE, e_andE, e_orE, e_notE, e_ifeE, e_tupE, e_lstE, e_subE, e_sliceE, e_callE, e_bltE, e_bmE, e_isiE, es_nilE, es_consE, es_starE, bs_nilE, bs_consE, o_noneE, intR_int, o_someE, c_noneE, c_someE, and_oneE, and_consE, or_oneE, or_consE, i_ofE, rngR1_int, rngR2_int, i_rng1E, i_rng2E, base_varK, baseV_own, baseV_val, 
    base_cst, base_glob, base_bin, base_neg, base_cmp, base_chain, base_and, base_or, base_not, base_ife, base_tup, base_lst, base_sub, base_slice, base_call, base_blt, base_bm, base_isi, base_lc, fin_ret, fin_next, test_ok, out_ok, see0, obD_lst, truth_int, truth_lst, truth_str, lt_int, le_int, gt_int, ge_int, eq_D, ne_D, is_non, isnot_non, in_D, notin_D, add_int, sub_int, len_lst, len_tup, len_str, int_int, list_lst, list_tup, tuple_lst, tuple_tup, ixN_lit, subL_lit, subT_lit, setAt_cell0, lim_k, cut_from1, binK_some, cmpK_some, s_tryE, try_ret, try_next, noExc_ret, noExc_next, s_raiseE, fin_exc, out_exc, test_exc, base_attr, base_meth, base_make, e_attrE, e_methE, methR_some, e_makeE, seq_exc, ite_exc, attr_ins, meth_ins, see_ins, obD_ins, setFldE, setFldK_own, putD_nil, putD_cons, fini_next, fini_exc, calls_tb, slice_fromL, slice_toL, pow12, max_ii, bool_bl, s_setAttrE, e_attrE, look_nil, look_cons, s_setNE, newOb_lst, fresh_lst, s_appE, s_frzE, lim_lt, see_rD, subT0, subT1, W2]) ?_
      refine .test (h' := h2) (by simp [envL, ss_nilE, ss_consE, seq_next, seq_ret, seq_brk, seq_cont, s_iteE, ite_ok, s_setE, s_setTE, s_exE, s_retE, s_retNE, s_passE, s_brkE, s_contE, s_setSubE, e_nonE, e_blE, e_intE, e_strE, slR_val, e_varE, e_globE, e_binE, negR_int, e_negE, e_cmpE, e_chainE, e_andE, e_orE, e_notE, e_ifeE, e_tupE, e_lstE, e_subE, e_sliceE, e_callE, e_bltE, e_bmE, e_isiE, es_nilE, es_consE, es_starE, bs_nilE, bs_consE, o_noneE, intR_int, o_someE, c_noneE, c_someE, and_oneE, and_consE, or_oneE, or_consE, i_ofE, rngR1_int, rngR2_int, i_rng1E, i_rng2E, base_varK, baseV_own, baseV_val, 
    base_cst, base_glob, base_bin, base_neg, base_cmp, base_chain, base_and, base_or, base_not, base_ife, base_tup, base_lst, base_sub, base_slice, base_call, base_blt, base_bm, base_isi, base_lc, fin_ret, fin_next, test_ok, out_ok, see0, obD_lst, truth_int, truth_lst, truth_str, lt_int, le_int, gt_int, ge_int, eq_D, ne_D, is_non, isnot_non, in_D, notin_D, add_int, sub_int, len_lst, len_tup, len_str, int_int, list_lst, list_tup, tuple_lst, tuple_tup, ixN_lit, subL_lit, subT_lit, setAt_cell0, lim_k, cut_from1, binK_some, cmpK_some, s_tryE, try_ret, try_next, noExc_ret, noExc_next, s_raiseE, fin_exc, out_exc, test_exc, base_attr, base_meth, base_make, e_attrE, e_methE, methR_some, e_makeE, seq_exc, ite_exc, attr_ins, meth_ins, see_ins, obD_ins, setFldE, setFldK_own, putD_nil, putD_cons, fini_next, fini_exc, calls_tb, slice_fromL, slice_toL, pow12, max_ii, bool_bl, s_setAttrE, e_attrE, look_nil, look_cons, s_setNE, newOb_lst, fresh_lst, s_appE, s_frzE, lim_lt, see_rD, subT0, subT1, W3]) ?_
      obtain ⟨x9, L2⟩ := end_loop (n := n) (h := h2) (s0 := .val (.lst (ns.map .int))) (s1 := .val (.cell 0)) (s4 := x4) (s5 := x5) (s6 := x6) (s7 := x7) (s8 := .val (sD (1000000000000, r0.2))) (s9 := .no) (s10 := .no) (rs := [r0, r1, r2, r3, r4]) l1
      refine .for (ds := [.int 0, .int 1, .int 2, .int 3, .int 4]) (h' := h2) (by simp [envL, ss_nilE, ss_consE, seq_next, seq_ret, seq_brk, seq_cont, s_iteE, ite_ok, s_setE, s_setTE, s_exE, s_retE, s_retNE, s_passE, s_brkE, s_contE, s_setSubE, e_nonE, e_blE, e_intE, e_strE, slR_val, e_varE, e_globE, e_binE, negR_int, e_negE, e_cmpE, e_chainE, e_andE, e_orE, e_notE, e_ifeE, e_tupE, e_lstE, e_subE, e_sliceE, e_callE, e_bltE, e_bmE, e_isiE, es_nilE, es_consE, es_starE, bs_nilE, bs_consE, o_noneE, intR_int, o_someE, c_noneE, c_someE, and_oneE, and_consE, or_oneE, or_consE, i_ofE, rngR1_int, rngR2_int, i_rng1E, i_rng2E, base_varK, baseV_own, baseV_val, 
    base_cst, base_glob, base_bin, base_neg, base_cmp, base_chain, base_and, base_or, base_not, base_ife, base_tup, base_lst, base_sub, base_slice, base_call, base_blt, base_bm, base_isi, base_lc, fin_ret, fin_next, test_ok, out_ok, see0, obD_lst, truth_int, truth_lst, truth_str, lt_int, le_int, gt_int, ge_int, eq_D, ne_D, is_non, isnot_non, in_D, notin_D, add_int, sub_int, len_lst, len_tup, len_str, int_int, list_lst, list_tup, tuple_lst, tuple_tup, ixN_lit, subL_lit, subT_lit, setAt_cell0, lim_k, cut_from1, binK_some, cmpK_some, s_tryE, try_ret, try_next, noExc_ret, noExc_next, s_raiseE, fin_exc, out_exc, test_exc, base_attr, base_meth, base_make, e_attrE, e_methE, methR_some, e_makeE, seq_exc, ite_exc, attr_ins, meth_ins, see_ins, obD_ins, setFldE, setFldK_own, putD_nil, putD_cons, fini_next, fini_exc, calls_tb, slice_fromL, slice_toL, pow12, max_ii, bool_bl, s_setAttrE, e_attrE, look_nil, look_cons, s_setNE, newOb_lst, fresh_lst, s_appE, s_frzE, lim_lt, rng5]) L2 ?_
      exact .ret (d := .bl true) (h' := h2) (by simp [ss_nilE, ss_consE, seq_next, seq_ret, seq_brk, seq_cont, s_iteE, ite_ok, s_setE, s_setTE, s_exE, s_retE, s_retNE, s_passE, s_brkE, s_contE, s_setSubE, e_nonE, e_blE, e_intE, e_strE, slR_val, e_varE, e_globE, e_binE, negR_int, e_negE, e_cmpE, e_chainE, e_andE, e_orE, e_notE, e_ifeE, e_tupE, e_lstE, e_subE, e_sliceE, e_callE, e_bltE, e_bmE, e_isiE, es_nilE, es_consE, es_starE, bs_nilE, bs_consE, o_noneE, intR_int, o_someE, c_noneE, c_someE, and_oneE, and_consE, or_oneE, or_consE, i_ofE, rngR1_int, rngR2_int, i_rng1E, i_rng2E, base_varK, baseV_own, baseV_val, 
    base_cst, base_glob, base_bin, base_neg, base_cmp, base_chain, base_and, base_or, base_not, base_ife, base_tup, base_lst, base_sub, base_slice, base_call, base_blt, base_bm, base_isi, base_lc, fin_ret, fin_next, test_ok, out_ok, see0, obD_lst, truth_int, truth_lst, truth_str, lt_int, le_int, gt_int, ge_int, eq_D, ne_D, is_non, isnot_non, in_D, notin_D, add_int, sub_int, len_lst, len_tup, len_str, int_int, list_lst, list_tup, tuple_lst, tuple_tup, ixN_lit, subL_lit, subT_lit, setAt_cell0, lim_k, cut_from1, binK_some, cmpK_some, s_tryE, try_ret, try_next, noExc_ret, noExc_next, s_raiseE, fin_exc, out_exc, test_exc, base_attr, base_meth, base_make, e_attrE, e_methE, methR_some, e_makeE, seq_exc, ite_exc, attr_ins, meth_ins, see_ins, obD_ins, setFldE, setFldK_own, putD_nil, putD_cons, fini_next, fini_exc, calls_tb, slice_fromL, slice_toL, pow12, max_ii, bool_bl, s_setAttrE, e_attrE, look_nil, look_cons, s_setNE, newOb_lst, fresh_lst, s_appE, s_frzE, lim_lt]) rfl
  obtain ⟨d, c, h1, rfl⟩ := key
  refine ⟨c, ?_⟩
  show (evSs (Fd (n + 6)) gl c_law [.val (.lst (ns.map .int)), .no, .no, .no, .no, .no, .no, .no, .no, .no, .no] []).fin = _
  unfold envL at h1
  rw [h1]
  rfl
end K04
set_option Elab.async false
set_option linter.all false
set_option maxRecDepth 100000
set_option maxHeartbeats 8000000
open PySem PySem.W PySem.Calls PyProof.Rows
theorem PySem.Challenge.cw_eitherpromised_k04_whole_tick_and_latest_holds : PySem.Challenge.rw_eitherpromised_k04_whole_tick_and_latest.Holds := by
  w_on; o_law
  refine HandSHeadRun.head_any (r := K04.R) (q := view K04.R.prog [23]) (H := K04.hk) (ob := K04.ob) (M := 4000) (loose := K04.names) (d := HandSHeadRun.topDef K04.R.prog 23) (kwd := []) K04.ob_eq
    (by kernel_rfl) (fun s => by kernel_rfl) K04.run (by kernel_rfl) (by kernel_rfl) (by kernel_rfl) (by rfl) (by first | assumption | decide +kernel) (by decide +kernel) ⟨rfl, rfl, rfl, rfl, rfl, by decide +kernel⟩ ?hw ?hc
  case hw => w_witness2
  case hc => exact Rf.law_walk (l := PySem.Challenge.rw_eitherpromised_k04_whole_tick_and_latest) (N := 60) (li := 20) (x := "script") rfl (by decide) (by kernel_rfl) ⟨rfl, by decide, by decide⟩ K04.txt K04.binds (by decide +kernel) (fun q h => by cases h; exact ⟨rfl, rfl⟩) (by decide) fun ns _ => K04.law_ev 53 ns
