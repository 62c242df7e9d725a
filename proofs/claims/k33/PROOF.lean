import PyProof.Rows.All
import Wide.All
import OpenK.AllK
import Wide.FinOn
import HandS.ForExc
import HandS.Comp
import HandS.Dict
import HandS.Iter
import HandS.Text
import HandS.SetFor
import HandS.SetTxt0
import PyProof.FString5
import HandS.Strs
import HandS.Wide
import HandS.TupAny
import HandS.Deep
import HandS.IsInst
import HandS.Flow
import PyProof.Rows.SortShellAny
import PyProof.Rows.SortWalk
import PyProof.TupleOfSeq
import KE.KSortTupG
import PyProof.CollectStr
import KE.KRevSl
import HandS.ExcOwn
import HandS.CallSlots
import HandS.Star
import HandS.MakeKwOnly
import HandS.Property
import HandS.SetBool
import HandS.Walk
import HandS.HeadHook1
import HandS.ExcField
import HandS.ExcIs
import HandS.IterVal
import HandS.ClsMeth
import HandS.Conv
import HandS.TryOnly
import HandS.Defaults
import HandS.HeadHook2
import HandS.Head0
import HandS.Head1
import HandS.Head2
import HandS.HeadEnd
import HandS.HeadNt
import KE.DataCmp
import PySem.Challenge.RW_eitherpromised_k33_run_holds
set_option Elab.async false
set_option linter.all false
set_option maxRecDepth 100000
set_option maxHeartbeats 2000000
/-! G1: data, worlds, what a datum stands for -/
namespace Rf
open PySem L2

/-- data: what Python values are, without addresses. cell: a live object that may change -/
inductive D where
  | non | bl (b : Bool) | int (i : Int) | str (x : Str)
  | tup (xs : List D) | lst (xs : List D)
  | dk (kvs : List (Key × D)) | dt (kvs : List (List Key × D))
  | ins (c : Nat) (fs : List (Nat × D))
  | cell (i : Nat)
  deriving Inhabited
/-- an object that may change -/
inductive Ob where
  | lst (xs : List D) | dk (kvs : List (Key × D)) | dt (kvs : List (List Key × D)) | ins (c : Nat) (fs : List (Nat × D))
  deriving Inhabited
abbrev Cells := List (Option Ob)
/-- a world: the frozen addresses, the cells' addresses, the cells, the abstract heap -/
structure W where
  Z : Addr → Prop
  ι : Nat → Addr
  h : Cells
  H : Hp
def W.live (w : W) (a : Addr) : Prop := ∃ i o, w.h[i]? = some (some o) ∧ w.ι i = a

/-- a frozen list at a -/
def FzL (K : PySem.W.Frag) (w : W) (a : Addr) (vs : List V) : Prop :=
  (w.Z a ∧ w.H a = some (.lst vs)) ∨ (∃ o, w.H a = some (.frz o (.lst vs))) ∨
    ∃ (o : Obj) (its : Array Value) (n : Nat), K.lookup a = some o ∧ o.cls = .type "list" ∧ o.dict = none ∧ o.data = .seq its n ∧ its.size ≤ sizeLine ∧ Vals vs its.toList ∧ o.slots = #[]
/-- a list, however it stands -/
def SqM (K : PySem.W.Frag) (H : Hp) (a : Addr) (vs : List V) : Prop :=
  (H a = some (.lst vs) ∨ ∃ o, H a = some (.frz o (.lst vs))) ∨ ∃ (o : Obj) (its : Array Value) (n : Nat), K.lookup a = some o ∧ o.cls = .type "list" ∧ o.dict = none ∧ o.data = .seq its n ∧ its.size ≤ sizeLine ∧ Vals vs its.toList ∧ o.slots = #[]
theorem SqM.sq {K : PySem.W.Frag} {H : Hp} {a : Addr} {vs : List V} (h : SqM K H a vs) : SqL K H a vs := by
  rcases h with h | ⟨o, its, n, h1, h2, h3, h4, h5, h6, _⟩
  · exact .inl h
  · exact .inr ⟨o, its, n, h1, h2, h3, h4, h5, h6⟩
theorem FzL.m {K : PySem.W.Frag} {w : W} {a : Addr} {vs : List V} (h : FzL K w a vs) : SqM K w.H a vs := by
  rcases h with h | h | h
  · exact .inl (.inl h.2)
  · exact .inl (.inr h)
  · exact .inr h
theorem FzL.sq {K : PySem.W.Frag} {w : W} {a : Addr} {vs : List V} (h : FzL K w a vs) : SqL K w.H a vs := h.m.sq
/-- the written part, the symbols' texts, the classes' addresses -/
structure Gm where
  K : PySem.W.Frag
  sy : Nat → Str
  ca : Nat → Addr
  nc : Nat

mutual
inductive Rep (G : Gm) (w : W) : D → V → Prop
  | non : Rep G w .non .non
  | bl (b : Bool) : Rep G w (.bl b) (.bl b)
  | int (i : Int) : Rep G w (.int i) (.int i)
  | str (x : Str) : x.length ≤ sizeLine → Rep G w (.str x) (.str x)
  | tup {a : Addr} {vs : List V} {ds : List D} : SqT G.K w.H a vs → Reps G w ds vs → Rep G w (.tup ds) (.ref a)
  | lst {a : Addr} {vs : List V} {ds : List D} : FzL G.K w a vs → Reps G w ds vs → Rep G w (.lst ds) (.ref a)
  | dk {a : Addr} {kvs : List (Key × V)} {kds : List (Key × D)} : w.Z a → w.H a = some (.dK kvs) → RepK G w kds kvs → Rep G w (.dk kds) (.ref a)
  | dt {a : Addr} {kvs : List (List Key × V)} {kds : List (List Key × D)} : w.Z a → w.H a = some (.dT kvs) → RepT G w kds kvs → Rep G w (.dt kds) (.ref a)
  | ins {a dx : Addr} {c : Nat} {fvs : List (Str × V)} {fs : List (Nat × D)} : c < G.nc → w.Z a → w.H a = some (.ins (G.ca c) dx fvs) → RepF G w fs fvs → Rep G w (.ins c fs) (.ref a)
  | cell (i : Nat) : i < w.h.length → Rep G w (.cell i) (.ref (w.ι i))
inductive Reps (G : Gm) (w : W) : List D → List V → Prop
  | nil : Reps G w [] []
  | cons {d : D} {ds : List D} {v : V} {vs : List V} : Rep G w d v → Reps G w ds vs → Reps G w (d :: ds) (v :: vs)
inductive RepK (G : Gm) (w : W) : List (Key × D) → List (Key × V) → Prop
  | nil : RepK G w [] []
  | cons {k : Key} {d : D} {ds : List (Key × D)} {v : V} {vs : List (Key × V)} : Rep G w d v → RepK G w ds vs → RepK G w ((k, d) :: ds) ((k, v) :: vs)
inductive RepT (G : Gm) (w : W) : List (List Key × D) → List (List Key × V) → Prop
  | nil : RepT G w [] []
  | cons {k : List Key} {d : D} {ds : List (List Key × D)} {v : V} {vs : List (List Key × V)} : Rep G w d v → RepT G w ds vs → RepT G w ((k, d) :: ds) ((k, v) :: vs)
inductive RepF (G : Gm) (w : W) : List (Nat × D) → List (Str × V) → Prop
  | nil : RepF G w [] []
  | cons {k : Nat} {d : D} {ds : List (Nat × D)} {v : V} {vs : List (Str × V)} : Rep G w d v → RepF G w ds vs → RepF G w ((k, d) :: ds) ((G.sy k, v) :: vs)
end

/-- what stands at an address for an object -/
inductive ObAt (G : Gm) (w : W) (a : Addr) : Ob → Prop
  | lst {vs : List V} {ds : List D} : w.H a = some (.lst vs) → Reps G w ds vs → ObAt G w a (.lst ds)
  | dk {kvs : List (Key × V)} {kds : List (Key × D)} : w.H a = some (.dK kvs) → RepK G w kds kvs → ObAt G w a (.dk kds)
  | dt {kvs : List (List Key × V)} {kds : List (List Key × D)} : w.H a = some (.dT kvs) → RepT G w kds kvs → ObAt G w a (.dt kds)
  | ins {dx : Addr} {c : Nat} {fvs : List (Str × V)} {fs : List (Nat × D)} : c < G.nc → w.H a = some (.ins (G.ca c) dx fvs) → RepF G w fs fvs → ObAt G w a (.ins c fs)
/-- what may change is no tuple and nothing locked -/
def Soft (o : HO) : Prop := match o with
  | .lst _ | .dK _ | .dT _ | .ins _ _ _ | .ext _ => True
  | _ => False
theorem ObAt.soft {G : Gm} {w : W} {a : Addr} {o : Ob} (h : ObAt G w a o) : ∃ u, w.H a = some u ∧ Soft u := by
  cases h with
  | lst h _ => exact ⟨_, h, trivial⟩
  | dk h _ => exact ⟨_, h, trivial⟩
  | dt h _ => exact ⟨_, h, trivial⟩
  | ins _ h _ => exact ⟨_, h, trivial⟩

structure WOk (G : Gm) (w : W) : Prop where
  cell : ∀ i o, w.h[i]? = some (some o) → ObAt G w (w.ι i) o ∧ ¬ w.Z (w.ι i)
  inj : ∀ i j o u, w.h[i]? = some (some o) → w.h[j]? = some (some u) → w.ι i = w.ι j → i = j
  zin : ∀ a, w.Z a → ∃ o, w.H a = some o
theorem WOk.soft {G : Gm} {w : W} (ok : WOk G w) {a : Addr} (l : w.live a) : (∃ u, w.H a = some u ∧ Soft u) ∧ ¬ w.Z a := by
  obtain ⟨i, o, e, rfl⟩ := l
  exact ⟨(ok.cell i o e).1.soft, (ok.cell i o e).2⟩

/-- a later world -/
structure Ext (w w' : W) : Prop where
  z : ∀ a, w.Z a → w'.Z a
  zn : ∀ a, w'.Z a → w.Z a ∨ w.H a = none ∨ w.live a
  ι : ∀ i, i < w.h.length → w'.ι i = w.ι i
  len : w.h.length ≤ w'.h.length
  lv : ∀ i o, i < w.h.length → w'.h[i]? = some (some o) → ∃ u, w.h[i]? = some (some u)
  fresh : ∀ i o, w.h.length ≤ i → w'.h[i]? = some (some o) → w.H (w'.ι i) = none
  keep : ∀ a o, w.H a = some o → ¬ w.live a → w'.H a = some o
  dom : ∀ a, w'.H a = none → w.H a = none
theorem Ext.refl (w : W) : Ext w w where
  z := fun _ h => h
  zn := fun _ h => .inl h
  ι := fun _ _ => rfl
  len := Nat.le_refl _
  lv := fun _ o _ h => ⟨o, h⟩
  fresh := fun i o hi h => by
    rw [List.getElem?_eq_none hi] at h
    cases h
  keep := fun _ _ h _ => h
  dom := fun _ h => h
theorem Ext.live_back {w w' : W} (e : Ext w w') {a : Addr} (l : w'.live a) : w.live a ∨ w.H a = none := by
  obtain ⟨i, o, h, rfl⟩ := l
  by_cases hi : i < w.h.length
  · obtain ⟨u, hu⟩ := e.lv i o hi h
    exact .inl ⟨i, u, hu, (e.ι i hi).symm⟩
  · exact .inr (e.fresh i o (Nat.le_of_not_lt hi) h)
theorem Ext.trans {w w1 w2 : W} (a : Ext w w1) (b : Ext w1 w2) : Ext w w2 where
  z := fun x h => b.z x (a.z x h)
  zn := fun x h => by
    rcases b.zn x h with h | h | h
    · exact a.zn x h
    · exact .inr (.inl (a.dom x h))
    · rcases a.live_back h with h | h
      · exact .inr (.inr h)
      · exact .inr (.inl h)
  ι := fun i hi => (b.ι i (Nat.lt_of_lt_of_le hi a.len)).trans (a.ι i hi)
  len := Nat.le_trans a.len b.len
  lv := fun i o hi h => by
    obtain ⟨u, hu⟩ := b.lv i o (Nat.lt_of_lt_of_le hi a.len) h
    exact a.lv i u hi hu
  fresh := fun i o hi h => by
    by_cases hj : i < w1.h.length
    · obtain ⟨u, hu⟩ := b.lv i o hj h
      rw [b.ι i hj]
      exact a.fresh i u hi hu
    · exact a.dom _ (b.fresh i o (Nat.le_of_not_lt hj) h)
  keep := fun x o h nl => b.keep x o (a.keep x o h nl) fun l => by
    rcases a.live_back l with l | l
    · exact nl l
    · rw [l] at h; cases h
  dom := fun x h => a.dom x (b.dom x h)

section
variable {G : Gm} {w w' : W}
theorem Ext.frz (ok : WOk G w) (e : Ext w w') {a : Addr} {u : HO} (h : w.H a = some u) (ns : ¬ Soft u) : w'.H a = some u := e.keep a u h fun l => by
  obtain ⟨⟨u', h', s⟩, _⟩ := ok.soft l
  rw [h] at h'
  cases h'
  exact ns s
theorem Ext.zkeep (ok : WOk G w) (e : Ext w w') {a : Addr} {u : HO} (z : w.Z a) (h : w.H a = some u) : w'.H a = some u := e.keep a u h fun l => (ok.soft l).2 z
theorem Ext.tup (ok : WOk G w) (e : Ext w w') {a : Addr} {vs : List V} (h : SqT G.K w.H a vs) : SqT G.K w'.H a vs := by
  rcases h with (h | ⟨o, h⟩) | h
  · exact .inl (.inl (e.frz ok h fun z => z))
  · exact .inl (.inr ⟨o, e.frz ok h fun z => z⟩)
  · exact .inr h
theorem Ext.fzl (ok : WOk G w) (e : Ext w w') {a : Addr} {vs : List V} (h : FzL G.K w a vs) : FzL G.K w' a vs := by
  rcases h with ⟨z, h⟩ | ⟨o, h⟩ | h
  · exact .inl ⟨e.z a z, e.zkeep ok z h⟩
  · exact .inr (.inl ⟨o, e.frz ok h fun z => z⟩)
  · exact .inr (.inr h)
mutual
theorem Rep.ext (ok : WOk G w) (e : Ext w w') : ∀ {d : D} {v : V}, Rep G w d v → Rep G w' d v
  | _, _, .non => .non
  | _, _, .bl b => .bl b
  | _, _, .int i => .int i
  | _, _, .str x hx => .str x hx
  | _, _, .tup h r => .tup (e.tup ok h) (Reps.ext ok e r)
  | _, _, .lst h r => .lst (e.fzl ok h) (Reps.ext ok e r)
  | _, _, .dk z h r => .dk (e.z _ z) (e.zkeep ok z h) (RepK.ext ok e r)
  | _, _, .dt z h r => .dt (e.z _ z) (e.zkeep ok z h) (RepT.ext ok e r)
  | _, _, .ins hc z h r => .ins hc (e.z _ z) (e.zkeep ok z h) (RepF.ext ok e r)
  | _, _, .cell i hi => by
    have h := Rep.cell (G := G) (w := w') i (Nat.lt_of_lt_of_le hi e.len)
    rw [e.ι i hi] at h
    exact h
theorem Reps.ext (ok : WOk G w) (e : Ext w w') : ∀ {ds : List D} {vs : List V}, Reps G w ds vs → Reps G w' ds vs
  | _, _, .nil => .nil
  | _, _, .cons h r => .cons (Rep.ext ok e h) (Reps.ext ok e r)
theorem RepK.ext (ok : WOk G w) (e : Ext w w') : ∀ {ds : List (Key × D)} {vs : List (Key × V)}, RepK G w ds vs → RepK G w' ds vs
  | _, _, .nil => .nil
  | _, _, .cons h r => .cons (Rep.ext ok e h) (RepK.ext ok e r)
theorem RepT.ext (ok : WOk G w) (e : Ext w w') : ∀ {ds : List (List Key × D)} {vs : List (List Key × V)}, RepT G w ds vs → RepT G w' ds vs
  | _, _, .nil => .nil
  | _, _, .cons h r => .cons (Rep.ext ok e h) (RepT.ext ok e r)
theorem RepF.ext (ok : WOk G w) (e : Ext w w') : ∀ {ds : List (Nat × D)} {vs : List (Str × V)}, RepF G w ds vs → RepF G w' ds vs
  | _, _, .nil => .nil
  | _, _, .cons h r => .cons (Rep.ext ok e h) (RepF.ext ok e r)
end
end
end Rf
set_option Elab.async false
set_option linter.all false
set_option maxRecDepth 100000
set_option maxHeartbeats 2000000
/-! G1b: sorting, as plain lists -/
namespace Rf
/-! ### sorting, as plain lists -/
section
variable {α : Type} (le : α → α → Bool)
def insL (a : α) : List α → List α
  | [] => [a]
  | b :: r => if le a b then a :: b :: r else b :: insL a r
def sortL : List α → List α
  | [] => []
  | a :: r => insL le a (sortL r)
theorem insL_perm (a : α) : ∀ l : List α, (insL le a l).Perm (a :: l)
  | [] => .refl _
  | b :: r => by
    unfold insL
    split
    · exact .refl _
    · exact (List.Perm.cons b (insL_perm a r)).trans (List.Perm.swap a b r)
theorem sortL_perm : ∀ l : List α, (sortL le l).Perm l
  | [] => .refl _
  | a :: r => (insL_perm le a (sortL le r)).trans (List.Perm.cons a (sortL_perm r))
variable {le}
theorem insL_pw (tr : ∀ a b c, le a b = true → le b c = true → le a c = true) (tt : ∀ a b, le a b = true ∨ le b a = true) (a : α) : ∀ l : List α, l.Pairwise (fun x y => le x y = true) → (insL le a l).Pairwise (fun x y => le x y = true)
  | [], _ => List.pairwise_singleton _ _
  | b :: r, h => by
    obtain ⟨h1, h2⟩ := List.pairwise_cons.mp h
    unfold insL
    split
    · rename_i q
      exact List.pairwise_cons.mpr ⟨fun x hx => by
        rcases List.mem_cons.mp hx with rfl | hx
        · exact q
        · exact tr a b x q (h1 x hx), h⟩
    · rename_i q
      refine List.pairwise_cons.mpr ⟨fun x hx => ?_, insL_pw tr tt a r h2⟩
      rcases List.mem_cons.mp ((insL_perm le a r).mem_iff.mp hx) with rfl | hx
      · exact (tt x b).resolve_left q
      · exact h1 x hx
theorem sortL_pw (tr : ∀ a b c, le a b = true → le b c = true → le a c = true) (tt : ∀ a b, le a b = true ∨ le b a = true) : ∀ l : List α, (sortL le l).Pairwise (fun x y => le x y = true)
  | [] => List.Pairwise.nil
  | a :: r => insL_pw tr tt a _ (sortL_pw tr tt r)
/-- what is sorted and has the same elements is it -/
theorem sortL_is (tr : ∀ a b c, le a b = true → le b c = true → le a c = true) (tt : ∀ a b, le a b = true ∨ le b a = true) {l out : List α} (an : ∀ a b, a ∈ l → b ∈ l → le a b = true → le b a = true → a = b) (hp : out.Perm l) (hs : out.Pairwise (fun x y => le x y = true)) : out = sortL le l :=
  List.Perm.eq_of_pairwise (le := fun x y => le x y = true) (fun a b ha hb h1 h2 => an a b (hp.mem_iff.mp ha) ((sortL_perm le l).mem_iff.mp hb) h1 h2) hs (sortL_pw tr tt l) (hp.trans (sortL_perm le l).symm)
end
def leI (a b : Int) : Bool := decide (a ≤ b)
def isort (l : List Int) : List Int := sortL leI l
theorem leI_tr (a b c : Int) (h1 : leI a b = true) (h2 : leI b c = true) : leI a c = true := by
  unfold leI at *
  simp only [decide_eq_true_eq] at *
  omega
theorem leI_tt (a b : Int) : leI a b = true ∨ leI b a = true := by
  unfold leI
  simp only [decide_eq_true_eq]
  omega
theorem leI_an (a b : Int) (h1 : leI a b = true) (h2 : leI b a = true) : a = b := by
  unfold leI at *
  simp only [decide_eq_true_eq] at *
  omega
theorem isort_perm (l : List Int) : (isort l).Perm l := sortL_perm leI l
theorem isort_pw (l : List Int) : (isort l).Pairwise (· ≤ ·) := (sortL_pw leI_tr leI_tt l).imp fun h => of_decide_eq_true h
theorem isort_is {l out : List Int} (hp : out.Perm l) (hs : out.Pairwise (· ≤ ·)) : out = isort l := sortL_is leI_tr leI_tt (fun a b _ _ => leI_an a b) hp (hs.imp fun h => decide_eq_true h)
/-! ### sorted, each once -/
def insU (a : Int) : List Int → List Int
  | [] => [a]
  | b :: r => if a < b then a :: b :: r else if a = b then b :: r else b :: insU a r
def usort (l : List Int) : List Int := l.foldl (fun s k => insU k s) []
theorem mem_insU {a x : Int} : ∀ {l : List Int}, x ∈ insU a l ↔ x = a ∨ x ∈ l
  | [] => by simp [insU]
  | b :: r => by
    unfold insU
    split
    · simp
    · split
      · rename_i e
        subst e
        simp
      · rw [List.mem_cons, mem_insU (l := r), List.mem_cons]
        constructor
        · rintro (h | h | h)
          · exact .inr (.inl h)
          · exact .inl h
          · exact .inr (.inr h)
        · rintro (h | h | h)
          · exact .inr (.inl h)
          · exact .inl h
          · exact .inr (.inr h)
theorem insU_pw {a : Int} : ∀ {l : List Int}, l.Pairwise (· < ·) → (insU a l).Pairwise (· < ·)
  | [], _ => List.pairwise_singleton _ _
  | b :: r, h => by
    obtain ⟨h1, h2⟩ := List.pairwise_cons.mp h
    unfold insU
    split
    · rename_i q
      exact List.pairwise_cons.mpr ⟨fun x hx => by
        rcases List.mem_cons.mp hx with rfl | hx
        · exact q
        · have := h1 x hx; omega, h⟩
    · split
      · exact h
      · rename_i q1 q2
        refine List.pairwise_cons.mpr ⟨fun x hx => ?_, insU_pw h2⟩
        rcases mem_insU.mp hx with rfl | hx
        · omega
        · exact h1 x hx
theorem insU_in {a : Int} : ∀ {l : List Int}, l.Pairwise (· < ·) → a ∈ l → (insU a l) = l
  | [], _, h => by cases h
  | b :: r, hp, h => by
    obtain ⟨h1, h2⟩ := List.pairwise_cons.mp hp
    unfold insU
    rcases List.mem_cons.mp h with rfl | h
    · rw [if_neg (by omega), if_pos rfl]
    · have := h1 a h
      rw [if_neg (by omega), if_neg (by omega), insU_in h2 h]
theorem insU_out {a : Int} : ∀ {l : List Int}, a ∉ l → (insU a l).length = l.length + 1
  | [], _ => rfl
  | b :: r, h => by
    rw [List.mem_cons, not_or] at h
    unfold insU
    split
    · rfl
    · split
      · rename_i e
        exact absurd e h.1
      · rw [List.length_cons, insU_out h.2, List.length_cons]
theorem usort_app (l : List Int) (k : Int) : usort (l ++ [k]) = insU k (usort l) := by
  unfold usort
  rw [List.foldl_append]
  rfl
theorem usort_all (l : List Int) : (usort l).Pairwise (· < ·) ∧ ∀ x, x ∈ usort l ↔ x ∈ l := by
  have key : ∀ (l s : List Int), s.Pairwise (· < ·) → (l.foldl (fun s k => insU k s) s).Pairwise (· < ·) ∧ ∀ x, x ∈ l.foldl (fun s k => insU k s) s ↔ x ∈ s ∨ x ∈ l := by
    intro l
    induction l with
    | nil => exact fun s h => ⟨h, fun x => by simp⟩
    | cons a l ih =>
      intro s h
      obtain ⟨h1, h2⟩ := ih (insU a s) (insU_pw h)
      refine ⟨h1, fun x => ?_⟩
      rw [List.foldl_cons, h2, mem_insU, List.mem_cons]
      constructor
      · rintro ((h | h) | h)
        · exact .inr (.inl h)
        · exact .inl h
        · exact .inr (.inr h)
      · rintro (h | h | h)
        · exact .inl (.inr h)
        · exact .inl (.inl h)
        · exact .inr h
  obtain ⟨h1, h2⟩ := key l [] List.Pairwise.nil
  exact ⟨h1, fun x => by
    have := h2 x
    unfold usort
    simpa using this⟩
/-- what rises and has the same members is it -/
theorem rise_eq : ∀ {a b : List Int}, a.Pairwise (· < ·) → b.Pairwise (· < ·) → (∀ x, x ∈ a ↔ x ∈ b) → a = b
  | [], [], _, _, _ => rfl
  | [], y :: b, _, _, h => by
    have := (h y).mpr (List.mem_cons_self ..)
    cases this
  | x :: a, [], _, _, h => by
    have := (h x).mp (List.mem_cons_self ..)
    cases this
  | x :: a, y :: b, ha, hb, h => by
    obtain ⟨a1, a2⟩ := List.pairwise_cons.mp ha
    obtain ⟨b1, b2⟩ := List.pairwise_cons.mp hb
    have exy : x = y := by
      rcases List.mem_cons.mp ((h x).mp (List.mem_cons_self ..)) with e | e
      · exact e
      · rcases List.mem_cons.mp ((h y).mpr (List.mem_cons_self ..)) with e2 | e2
        · exact e2.symm
        · have := b1 x e
          have := a1 y e2
          omega
    subst exy
    rw [rise_eq a2 b2 fun z => ?_]
    have hz := h z
    rw [List.mem_cons, List.mem_cons] at hz
    constructor
    · intro q
      rcases hz.mp (.inr q) with e | e
      · have := a1 z q
        omega
      · exact e
    · intro q
      rcases hz.mpr (.inr q) with e | e
      · have := b1 z q
        omega
      · exact e
theorem usort_is {l out : List Int} (hp : out.Pairwise (· < ·)) (hm : ∀ x, x ∈ out ↔ x ∈ l) : out = usort l := by
  obtain ⟨h1, h2⟩ := usort_all l
  exact rise_eq hp h1 fun x => by rw [hm, h2]
theorem usort_step (l : List Int) (k : Int) : (usort (l ++ [k])).length = if k ∈ l then (usort l).length else (usort l).length + 1 := by
  obtain ⟨h1, h2⟩ := usort_all l
  rw [usort_app]
  split
  · rename_i h
    rw [insU_in h1 ((h2 k).mpr h)]
  · rename_i h
    exact insU_out fun q => h ((h2 k).mp q)
/-! ### signs -/
/-- signs, in order -/
def leN (a b : Nat) : Bool := decide (a ≤ b)
def csort (l : List Nat) : List Nat := sortL leN l
theorem csort_perm (l : List Nat) : (csort l).Perm l := sortL_perm leN l
theorem leN_tr (a b c : Nat) (h1 : leN a b = true) (h2 : leN b c = true) : leN a c = true := by
  unfold leN at *
  simp only [decide_eq_true_eq] at *
  omega
theorem leN_tt (a b : Nat) : leN a b = true ∨ leN b a = true := by
  unfold leN
  simp only [decide_eq_true_eq]
  omega
theorem leN_an (a b : Nat) (h1 : leN a b = true) (h2 : leN b a = true) : a = b := by
  unfold leN at *
  simp only [decide_eq_true_eq] at *
  omega
theorem csort_pw (l : List Nat) : (csort l).Pairwise (· ≤ ·) := (sortL_pw leN_tr leN_tt l).imp fun h => of_decide_eq_true h
theorem csort_is {l out : List Nat} (hp : out.Perm l) (hs : out.Pairwise (· ≤ ·)) : out = csort l := sortL_is leN_tr leN_tt (fun a b _ _ => leN_an a b) hp (hs.imp fun h => decide_eq_true h)
def sg (c : Nat) : PySem.Str := ⟨#[c]⟩
def hdS (x : PySem.Str) : Nat := x.cps.toList.headD 0
theorem hd_sg (c : Nat) : hdS (sg c) = c := rfl
theorem signs_perm {l : List Nat} {ss : List PySem.Str} (h : ss.Perm (l.map sg)) : ss = (ss.map hdS).map sg ∧ (ss.map hdS).Perm l := by
  refine ⟨?_, ?_⟩
  · rw [List.map_map]
    have e : ∀ x ∈ ss, (sg ∘ hdS) x = x := fun x hx => by
      obtain ⟨c, _, rfl⟩ := List.mem_map.mp (h.mem_iff.mp hx)
      rfl
    rw [List.map_congr_left e, List.map_id']
  · have q := h.map hdS
    rw [List.map_map] at q
    have e : (hdS ∘ sg) = id := by
      funext c
      rfl
    rw [e, List.map_id] at q
    exact q
end Rf
set_option Elab.async false
set_option linter.all false
set_option maxRecDepth 100000
set_option maxHeartbeats 4000000
/-! texts: set(x) of unlike signs, the order of texts -/
namespace L2
open PySem PySem.Spec PyProof.Rows
section
variable {P : Program} {w : World} {A : Around} {E : Value → Shared → Prop} {s : Shared}
theorem tx_run : ∀ (cs : List Nat) (tk : Tok) {D : PySem.Froz.SD} {l : List Str}, PySem.Froz.TxOk P w D l → PySem.Froz.TxOk P w (PySem.Froz.runD w cs tk D) (cs.reverse.map PySem.Froz.sing ++ l)
  | [], tk, D, l, h => by simpa [PySem.Froz.runD] using h
  | c :: r, tk, D, l, h => by
    have q := tx_run r (tk + 2) (PySem.Froz.add_ok (k := PySem.Froz.sing c) tk h)
    simpa [PySem.Froz.runD] using q
theorem call_set_strA {x : Str} {u : Tok} {Q : Value → Shared → Prop} (hh : A.handled = none) (ha : x.cps.all (· < 128) = true) (hd : x.cps.toList.Nodup) (hb : x.cps.toList.length < scanBound)
    (h : ∀ (h' : Heap) (tk : Nat) (D : PySem.Froz.SD) (l : List Str), h'.get? s.heap.objs.size = some (PySem.Froz.sObj "set" D) → D.1.size = x.length → D.2.2.fits D.1.size = true → (∀ b o, s.heap.get? b = some o → h'.get? b = some o) → Q (.ref s.heap.objs.size) { s with heap := h', toks := tk }) :
    wpAny (model P w) A (call (.type "set") [.str x u]) Q E s := by
  obtain ⟨c, tl, hmro⟩ := F.called_set.mro
  have hmade := F.called_set.made
  have hsub := F.called_set.sub
  refine wpAny_call (codeAny_of_tree ?_)
  show wpAny _ _ (callAny (.type "set") _) _ _ _
  refine wpAny_pure ⟨Code.quiet_builtin _ (by decide +kernel), codeAny_builtin F.entry_type_call ?_⟩
  rw [Around.under_plain (weight_type_call_type "set" [.str x u] []) rfl]
  have h1 := F.called_set.notType
  have h2 := F.called_set.canCreate
  have hct := F.typeCall_set_1 (.str x u)
  repeat (any_goals (first | assumption | wp_step))

  refine codeAny_mono (code_set_led1 (.str x u) (E := E) (Q₁ := fun obj s₁ => obj = .ref s.heap.objs.size ∧ s₁ = { s with heap := s.heap.push { cls := .type "set", dict := none, data := .set #[] 0 (.fresh 0 0 (!w.params.followText "set-order")) } }) ⟨rfl, rfl⟩) fun r s₁ hr => ?_
  cases r with
  | error e => exact hr
  | ok fl =>
    cases fl with
    | ret obj =>
      obtain ⟨rfl, rfl⟩ := hr
      have hS : (s.heap.push { cls := .type "set", dict := none, data := .set #[] 0 (.fresh 0 0 (!w.params.followText "set-order")) }).get? s.heap.objs.size = some { cls := .type "set", dict := none, data := .set #[] 0 (.fresh 0 0 (!w.params.followText "set-order")) } := Heap.get?_push_size _ rfl
      have hT : Shared.TypeIs { s with heap := s.heap.push { cls := .type "set", dict := none, data := .set #[] 0 (.fresh 0 0 (!w.params.followText "set-order")) } } (.ref s.heap.objs.size) "set" := ⟨_, hS, rfl⟩
      have hli := F.called_set.init.lookup
      have hbi := F.called_set.init.bind (.ref s.heap.objs.size)
      repeat (any_goals (first | assumption | wp_step))

      refine codeAny_mono (codeAny_call_builtin (R := wants (fun r s₂ => r = .none ∧ ∃ (h' : Heap) (tk : Nat) (D : PySem.Froz.SD), s₂ = { s with heap := h', toks := tk } ∧ h'.get? s.heap.objs.size = some (PySem.Froz.sObj "set" D) ∧ D.1.size = x.length ∧ D.2.2.fits D.1.size = true ∧
          (∀ b o, s.heap.get? b = some o → h'.get? b = some o)) E) F.called_set.init.plain F.entry_set_init (check_set_init_1 hT ?_)) fun r₂ s₂ hr₂ => ?_
      · have hsls := F.sub_str_set
        have hslf := F.sub_str_frozenset
        have hne : (Value.type "str" == Value.type "dict") = false := by decide
        unfold Builtin.«set.__init__» noKeywords Builtin.Frozenset.updateFrom
        generalize hPI : pyIter = PI
        wp_walk
        subst hPI
        refine wpAny_pyIter_ascii ha ?_
        refine wpAny_bind (wpAny_runValue ?_)
        have hz1 : (s.heap.push { cls := .type "set", dict := none, data := .set #[] 0 (.fresh 0 0 (!w.params.followText "set-order")) }).objs.size = s.heap.objs.size + 1 := Heap.size_push ..
        have hne2 : s.heap.objs.size ≠ (s.heap.push { cls := .type "set", dict := none, data := .set #[] 0 (.fresh 0 0 (!w.params.followText "set-order")) }).objs.size := by rw [hz1]; exact Nat.ne_of_lt (Nat.lt_succ_self _)
        have h0 : PySem.Froz.TxOk P w ((#[], 0, .fresh 0 0 (!w.params.followText "set-order")) : PySem.Froz.SD) [] := PySem.Froz.TxOk.nil rfl
        have hrun := tx_run (P := P) (w := w) x.cps.toList s.toks h0
        refine PySem.Froz.code_update (P := P) (A := A.in1.in1) (x := x) (u := u) (T := "set") hne2 (by simp [hh]) x.cps.toList 0 (#[], 0, .fresh 0 0 (!w.params.followText "set-order")) [] _ (by simp) (Heap.get?_push_of_some _ (Heap.get?_push_size _ rfl)) (Heap.get?_push_size _ rfl) h0 (fun _ _ => by simp) hd (by simpa using hb) ?_
        refine wpAny_pure ?_
        show wpAny _ _ (ret Value.none) _ _ _
        refine wpAny_pure ⟨rfl, _, _, PySem.Froz.runD w x.cps.toList s.toks (#[], 0, .fresh 0 0 (!w.params.followText "set-order")), rfl, ?_, ?_, hrun.fit, fun b o e => ?_⟩
        · refine Heap.get?_push_of_some _ (Heap.get?_push_of_some _ ?_)
          exact PySem.Heap.get?_update_of_ne _ (Ne.symm hne2) (PySem.Froz.get_upd _ (Heap.get?_push_of_some _ (Heap.get?_push_size _ rfl)) rfl)
        · rw [hrun.sz]
          simp [Str.length]
        · have hlt := Heap.lt_size e
          refine Heap.get?_push_of_some _ (Heap.get?_push_of_some _ ?_)
          exact PySem.Heap.get?_update_of_ne _ (by rw [hz1]; exact Nat.ne_of_gt (Nat.lt_succ_of_lt hlt)) (PySem.Heap.get?_update_of_ne _ (Nat.ne_of_gt hlt) (Heap.get?_push_of_some _ (Heap.get?_push_of_some _ e)))
      · cases r₂ with
        | error e => exact hr₂
        | ok fl₂ =>
          cases fl₂ with
          | ret r =>
            obtain ⟨rfl, h', tk, D, rfl, hS', hz, hf, hk'⟩ := hr₂
            repeat (any_goals (first | assumption | wp_step))
            exact h _ _ D [] hS' hz hf hk'
          | _ => exact hr₂.elim
    | _ => exact hr.elim
end
section
variable {X : Cx}
/-- len(set(x)), x a text of unlike signs -/
def tLenSetS (ta : TE) : TE := fun σ H Q => ta σ H fun x H1 => ∃ z : Str, x = .str z ∧ z.cps.all (· < 128) = true ∧ z.cps.toList.Nodup ∧ z.cps.toList.length < scanBound ∧ Q (.int z.length) H1
theorem pe_lenSetS {a : Expr} {ta : TE} {p p2 q pos : Pos} (hc : X.calm = true) (hg : Gl X "len") (hm : X.mg "len" = none) (hg2 : Gl X "set") (hm2 : X.mg "set" = none) (ha : PE X a ta)
    (na : starEach [a] X.env = (false, eval a X.env) :: starEach [] X.env := by rfl) : PE X (.Call (.Name "len" p) [.Call (.Name "set" p2) [a] [] q] [] pos) (tLenSetS ta) := by
  refine ⟨fun pins s σ H Q I h => ?_⟩
  refine Call_ (ld_blt I hg hm boot_len ?_)
  refine PyProof.Rows.callWith_builtin1 (PyProof.Rows.args_cons ?_ rfl) rfl rfl
  refine Call_ (ld_blt I hg2 hm2 boot_set ?_)
  refine PyProof.Rows.callWith_type1 (PyProof.Rows.args_cons (thn (ha.run pins s σ H _ I h) fun v s1 ⟨x, H1, I1, r1, q1⟩ => PyProof.Rows.args_nil ?_) na) na rfl
  obtain ⟨z, rfl, z1, z2, z3, q1⟩ := q1
  obtain ⟨t, rfl⟩ := r1
  refine call_set_strA (I1.ok.hd hc) z1 z2 z3 fun h' tk D _ hD hz hf hk => ?_
  refine PyProof.Rows.args_nil ?_
  have I2 : Inv X pins σ H1 { s1 with heap := h', toks := tk } := I1.kept fun b o e => hk b o e
  have hb : z.length < 4096 := by
    have e : z.length = z.cps.toList.length := by simp [Str.length]
    rw [e]
    exact Nat.lt_of_lt_of_le z3 (by decide)
  refine call_len_set hD ⟨rfl, rfl, rfl⟩ rfl hf (by rw [hz]; omega) ⟨.int z.length, H1, I2.tok _, ⟨_, by rw [hz]⟩, q1⟩
theorem op_leS : OpR X (compareOp .LtE) (fun x y H Q => ∃ i j, x = .str i ∧ y = .str j ∧ Q (.bl (!decide (j.cps.toList < i.cps.toList))) H) := by
  intro pins s σ H x y v u Q I rx ry h
  obtain ⟨i, j, rfl, rfl, q⟩ := h
  obtain ⟨t, rfl⟩ := rx
  obtain ⟨t', rfl⟩ := ry
  exact P.le_str (fin_bl I q rfl)
theorem op_gtS : OpR X (compareOp .Gt) (fun x y H Q => ∃ i j, x = .str i ∧ y = .str j ∧ Q (.bl (decide (j.cps.toList < i.cps.toList))) H) := by
  intro pins s σ H x y v u Q I rx ry h
  obtain ⟨i, j, rfl, rfl, q⟩ := h
  obtain ⟨t, rfl⟩ := rx
  obtain ⟨t', rfl⟩ := ry
  exact P.gt_str (fin_bl I q rfl)
theorem op_geS : OpR X (compareOp .GtE) (fun x y H Q => ∃ i j, x = .str i ∧ y = .str j ∧ Q (.bl (!decide (i.cps.toList < j.cps.toList))) H) := by
  intro pins s σ H x y v u Q I rx ry h
  obtain ⟨i, j, rfl, rfl, q⟩ := h
  obtain ⟨t, rfl⟩ := rx
  obtain ⟨t', rfl⟩ := ry
  exact P.ge_str (fin_bl I q rfl)
end
end L2
set_option Elab.async false
set_option linter.all false
set_option maxRecDepth 100000
set_option maxHeartbeats 2000000
/-! G2: the core language and its evaluator -/
namespace Rf
open PySem L2

inductive BOp where | add | sub | mul | fdiv | mod | pow | bor | band | bxor
  deriving DecidableEq, Inhabited
inductive COp where | eq | ne | lt | le | gt | ge | is | isnot | isin | notin
  deriving DecidableEq, Inhabited
inductive Cst where | non | bl (b : Bool) | int (i : Int) | str (x : Str)
  deriving DecidableEq, Inhabited
inductive Blt where | len | int | bool | str | list | tuple | abs | max | min | sum | sorted | all | any
  deriving DecidableEq, Inhabited
inductive Ty where | int | bool | str | list | tuple | dict | own (c : Nat)
  deriving DecidableEq, Inhabited
inductive Tg where | name (i : Nat) | tup (is : List Nat)
  deriving DecidableEq, Inhabited

/-- exceptions' classes: own ones, ValueError -/
inductive Xt where | own (c : Nat) | val
  deriving DecidableEq, Inhabited
inductive BM where | upper | lower | strip | startswith | find | split | words | join | partition
  deriving DecidableEq, Inhabited
/-- own operators -/
inductive Dn where | cmp (o : COp) | bin (o : BOp) | has | len | iter | bool | item | put | pos | neg | inv | ibin (o : BOp)
  deriving DecidableEq, Inhabited
def Dn.nm : Dn → Str
  | .cmp .eq => "__eq__" | .cmp .ne => "__eq__" | .cmp .lt => "__lt__" | .cmp .le => "__le__" | .cmp .gt => "__gt__" | .cmp .ge => "__ge__"
  | .bin .add => "__add__" | .bin .sub => "__sub__" | .bin .mul => "__mul__" | .bin .fdiv => "__floordiv__" | .bin .mod => "__mod__" | .bin .pow => "__pow__" | .bin .bor => "__or__" | .bin .band => "__and__" | .bin .bxor => "__xor__"
  | .ibin .add => "__iadd__" | .ibin .sub => "__isub__" | .ibin .bor => "__ior__" | .ibin .band => "__iand__" | .ibin .bxor => "__ixor__"
  | .has => "__contains__" | .len => "__len__" | .iter => "__iter__" | .bool => "__bool__" | .item => "__getitem__" | .put => "__setitem__" | .pos => "__pos__" | .neg => "__neg__" | .inv => "__invert__"
  | _ => ""
mutual
inductive CE where
  | cst (k : Cst) | var (i : Nat) | glob (g : Nat)
  | bin (op : BOp) (a b : CE) | neg (a : CE)
  | cmp (op : COp) (a b : CE) | chain (op op' : COp) (a b c : CE)
  | and (as : CEs) | or (as : CEs) | not (a : CE) | ife (t a b : CE)
  | tup (as : CEs) | lst (as : CEs)
  | sub (a i : CE) | slice (a : CE) (lo hi : CO)
  | call (f : Nat) (as : CEs) | blt (b : Blt) (as : CEs) | meth (o : CE) (m : Nat) (as : CEs) | attr (o : CE) (f : Nat) | make (c : Nat) (as : CEs)
  | isi (a : CE) (t : Ty)
  | lc (elt : CE) (own : List Nat) (t : Tg) (src : CI) (cond : CO)
  | newc (as : CEs)
  | callb (f : Nat) (as : CEs) | makeb (c : Nat) (as : CEs)
  | lc2 (elt : CE) (own : List Nat) (t : Tg) (src : CI) (cond : CO) (vs1 : List Nat) (t1 : Tg) (src1 : CI) (cond1 : CO)
  | exIs (i : Nat) (t : Xt) | exFld (i f : Nat) | rev (a : CE)
  | makek (k : Nat) (as ks : CEs) | prop (o : CE) (m : Nat) | rgl (t : Bool) (src : CI)
  | lset (a : CE) | ssc (elt : CE) (own : List Nat) (t : Tg) (src : CI) (cond : CO) | cval (c f : Nat) | inD (neg : Bool) (k d : Nat) | lenO (a : CE)
  | bm (m : BM) (o : CE) (as : CEs)
inductive CEs where | nil | cons (a : CE) (as : CEs) | star (a : CE) (as : CEs)
inductive CO where | none | some (a : CE)
inductive CI where | of (a : CE) | rng1 (a : CE) | rng2 (a b : CE) | ownI (a : CE)
end
instance : Inhabited CE := ⟨.cst .non⟩

mutual
inductive CS where
  | set (i : Nat) (e : CE) | setN (i : Nat) (e : CE) | setT (is : List Nat) (e : CE)
  | setSub (a i e : CE) | setAttr (a : CE) (f : Nat) (e : CE)
  | app (i : Nat) (e : CE) | ex (e : CE) | ret (e : CE) | retN | ite (t : CE) (a b : CSs)
  | for_ (t : Tg) (src : CI) (b : CSs) | while_ (fuel : Nat) (t : CE) (b : CSs)
  | pass | brk | cont | dead | frz (i : Nat) | raise_ (c : Nat) | try_ (b : CSs) (c : Nat) (hd : CSs) | tryAs (b : CSs) (c i : Nat) (hd : CSs)
  | newD (i : Nat) | setK (i : Nat) (as : CEs) | putD (q k : Nat) (e : CE) | appPop (q p : Nat) (e : CE) | forE (i x : Nat) (src : CE) (b : CSs)
inductive CSs where | nil | cons (s : CS) (ss : CSs)
end

/-! ### answers -/
structure Exn where
  c : Nat
  fs : List (Nat × D)
  deriving Inhabited
inductive Res (α : Type) where
  | ok (a : α) (h : Cells) | exc (x : Exn) (h : Cells) | bad
def Res.bind {α β : Type} (r : Res α) (k : α → Cells → Res β) : Res β := match r with
  | .ok a h => k a h
  | .exc x h => .exc x h
  | .bad => .bad
/-- an equation that no step takes as plain -/
theorem nd {α : Sort _} {a b : α} (h : a = b) : a = b := h
@[simp] theorem Res.bind_ok {α β : Type} (a : α) (h : Cells) (k : α → Cells → Res β) : (Res.ok a h).bind k = k a h := nd rfl
@[simp] theorem Res.bind_exc {α β : Type} (x : Exn) (h : Cells) (k : α → Cells → Res β) : (Res.exc x h : Res α).bind k = .exc x h := nd rfl
@[simp] theorem Res.bind_bad {α β : Type} (k : α → Cells → Res β) : (Res.bad : Res α).bind k = .bad := nd rfl
/-- an option, as an answer that leaves the cells -/
def lift {α : Type} (o : Option α) (h : Cells) : Res α := match o with
  | some a => .ok a h
  | none => .bad
@[simp] theorem lift_some {α : Type} (a : α) (h : Cells) : lift (some a) h = .ok a h := nd rfl
@[simp] theorem lift_none {α : Type} (h : Cells) : lift (none : Option α) h = .bad := nd rfl

/-- a class made with keywords: n positional values, keywords ks; what lacks (its defaults); the keyword-only parameters, in order: a keyword's value, a default -/
structure KF where
  c : Nat
  n : Nat
  ks : List Str
  ms : List (Str × D)
  sel : List (Nat ⊕ Nat)
def selP {α : Type} : List (Nat ⊕ Nat) → List α → List α → List α
  | [], _, _ => []
  | .inl i :: r, ms, ws => match ws[i]? with
    | some x => x :: selP r ms ws
    | none => selP r ms ws
  | .inr i :: r, ms, ws => match ms[i]? with
    | some x => x :: selP r ms ws
    | none => selP r ms ws
/-- tables of the classes: a field that no class bears; a method's def; a class's __init__ -/
structure Tb where
  ft : Nat → Nat → Bool := fun _ _ => false
  mt : Nat → Nat → Option Nat := fun _ _ => none
  it : Nat → Option Nat := fun _ => none
  sb : Nat → Nat → Option Bool := fun _ _ => none
  ot : Nat → Dn → Option Nat := fun _ _ => none
  xi : Nat → Xt → Option Bool := fun _ _ => none
  xf : Nat → Nat → Bool := fun _ _ => false
  kf : Nat → Option KF := fun _ => none
  pt : Nat → Nat → Option Nat := fun _ _ => none
  cv : Nat → Nat → Option D := fun _ _ => none
  itf : Nat → Option Nat := fun _ => none
/-- what is handed on: a datum; an object of the caller's own, to be read -/
inductive Ar where | d (x : D) | b (o : Ob)
  deriving Inhabited
/-- what the defs do: ini c the fields of a new instance -/
def KF.app (kf : KF) (as zs : List Ar) : List Ar := as ++ selP kf.sel (kf.ms.map fun q => .d q.2) zs
structure FTab where
  call : Nat → List D → Cells → Res D
  ini : Nat → List D → Cells → Res (List (Nat × D))
  tb : Tb
  callb : Nat → List Ar → Cells → Res D
  inib : Nat → List Ar → Cells → Res (List (Nat × D))
inductive Sl where | no | val (d : D) | own (o : Ob) | bor (o : Ob) | ex (x : Exn) | key (ks : List Key)
  deriving Inhabited
abbrev En := List Sl

abbrev LIM : Nat := 16777216
/-- a datum, seen: what a live object holds now -/
def see (h : Cells) : D → D
  | .cell i => match h[i]? with
    | some (some (.lst ds)) => .lst ds
    | some (some (.dk kvs)) => .dk kvs
    | some (some (.dt kvs)) => .dt kvs
    | some (some (.ins c fs)) => .ins c fs
    | _ => .cell i
  | d => d
def obD : Ob → D
  | .lst ds => .lst ds
  | .dk kvs => .dk kvs
  | .dt kvs => .dt kvs
  | .ins c fs => .ins c fs
def truth : D → Option Bool
  | .non => some false
  | .bl b => some b
  | .int i => some (i != 0)
  | .str x => some (x.length != 0)
  | .tup ds => some (!ds.isEmpty)
  | .lst ds => some (!ds.isEmpty)
  | _ => none
mutual
/-- data as the library's own -/
def py : D → Option PyData
  | .non => some .none
  | .bl b => some (.bool b)
  | .int i => some (.int i)
  | .str x => some (.str x)
  | .tup ds => (pys ds).map .tuple
  | .lst ds => (pys ds).map .list
  | _ => none
def pys : List D → Option (List PyData)
  | [] => some []
  | d :: ds => match py d, pys ds with
    | some x, some xs => some (x :: xs)
    | _, _ => none
end
def eqD (a b : D) : Option Bool := match py a, py b with
  | some x, some y => if SeqAt.shaped x && SeqAt.shaped y then some (PyData.eqv x y) else none
  | _, _ => none
def opB : BOp → D → D → Option D
  | .add, .int a, .int b => some (.int (a + b))
  | .add, .str a, .str b => if a.length + b.length ≤ LIM then some (.str (a ++ b)) else none
  | .add, .lst a, .lst b => if a.length + b.length ≤ LIM then some (.lst (a ++ b)) else none
  | .add, .tup a, .tup b => if a.length + b.length ≤ LIM then some (.tup (a ++ b)) else none
  | .sub, .int a, .int b => some (.int (a - b))
  | .mul, .int a, .int b => if a.natAbs < 2 ^ 63 || b.natAbs < 2 ^ 63 then some (.int (a * b)) else none
  | .mul, .str x, .int n => if 0 ≤ n && n ≤ 1000 && x.length ≤ 1000 then some (.str (Txt.mul x n)) else none
  | .mul, .lst ds, .int n => if 0 ≤ n && n ≤ 1000 && ds.length ≤ 1000 then some (.lst (List.replicate n.toNat ds).flatten) else none
  | .fdiv, .int a, .int b => if 0 < b && b.natAbs < 2 ^ 63 then some (.int (a / b)) else none
  | .mod, .int a, .int b => if 0 < b then some (.int (a % b)) else none
  | .pow, .int a, .int b => if 0 ≤ b && b ≤ 1000 && a.natAbs < 2 ^ 63 then some (.int (a ^ b.toNat)) else none
  | _, _, _ => none
def lexLt : List Int → List Int → Bool := HT.lexLt
def intsD : List D → Option (List Int)
  | [] => some []
  | .int i :: ds => (intsD ds).map (i :: ·)
  | _ => none
def isNon : D → Bool
  | .non => true
  | _ => false
def flatD : D → Bool
  | .non | .bl _ | .int _ | .str _ => true
  | _ => false
def eqI (i : Int) : D → Bool
  | .int j => i == j
  | .bl b => i == (if b then 1 else 0)
  | _ => false
def eqS (x : Str) : D → Bool
  | .str y => x == y
  | _ => false
def isIn (d : D) : D → Option Bool
  | .lst ds => match py d, pys ds with
    | some x, some xs => if SeqAt.shaped x && SeqAt.shaped (.list xs) then some (xs.any fun z => PyData.eqv z x) else none
    | _, _ => none
  | .tup ds => match d, ds.all flatD with
    | .int i, true => some (ds.any (eqI i))
    | .str x, true => some (ds.any (eqS x))
    | _, _ => none
  | .str y => match d with
    | .str x => some (!(Builtin.Str.occurrences y x 0 y.length 1).isEmpty)
    | _ => none
  | _ => none
def opC : COp → D → D → Option Bool
  | .eq, a, b => eqD a b
  | .ne, a, b => (eqD a b).map (!·)
  | .lt, .int a, .int b => some (decide (a < b))
  | .le, .int a, .int b => some (decide (a ≤ b))
  | .gt, .int a, .int b => some (decide (b < a))
  | .ge, .int a, .int b => some (decide (b ≤ a))
  | .lt, .str a, .str b => some (decide (a.cps.toList < b.cps.toList))
  | .le, .str a, .str b => some (!decide (b.cps.toList < a.cps.toList))
  | .gt, .str a, .str b => some (decide (b.cps.toList < a.cps.toList))
  | .ge, .str a, .str b => some (!decide (a.cps.toList < b.cps.toList))
  | .lt, .tup a, .tup b => match intsD a, intsD b with
    | some x, some y => some (HT.lexLt x y)
    | _, _ => none
  | .is, a, .non => some (isNon a)
  | .isnot, a, .non => some (!isNon a)
  | .isin, a, b => isIn a b
  | .notin, a, b => (isIn a b).map (!·)
  | _, _, _ => none
def atD {α : Type} (xs : List α) (i : Int) : Option α := L2.atI xs i
def subD : D → D → Option D
  | .lst ds, .int i => atD ds i
  | .tup ds, .int i => atD ds i
  | .str x, .int i => (atD x.cps.toList i).map fun c => .str ⟨#[c]⟩
  | _, _ => none
def cutD (xs : List D) (lo hi : Option Int) : List D := (xs.drop (HT.sIx xs.length 0 lo)).take (HT.sIx xs.length xs.length hi - HT.sIx xs.length 0 lo)
def sliceD : D → Option Int → Option Int → Option D
  | .lst ds, lo, hi => some (.lst (cutD ds lo hi))
  | .tup ds, lo, hi => some (.tup (cutD ds lo hi))
  | .str x, lo, hi => some (.str (L2.cutS x lo hi))
  | _, _, _ => none
def tyN : Ty → String
  | .int => "int" | .bool => "bool" | .str => "str" | .list => "list" | .tuple => "tuple" | .dict => "dict" | .own _ => ""
def tyD : D → Ty → Option Bool
  | .non, _ => some false
  | .bl _, t => some (match t with | .bool | .int => true | _ => false)
  | .int _, t => some (match t with | .int => true | _ => false)
  | .str _, t => some (match t with | .str => true | _ => false)
  | .lst _, t => some (match t with | .list => true | _ => false)
  | .tup _, t => some (match t with | .tuple => true | _ => false)
  | .dk _, t => some (match t with | .dict => true | _ => false)
  | .dt _, t => some (match t with | .dict => true | _ => false)
  | .ins c _, t => some (match t with | .own c' => c == c' | _ => false)
  | _, _ => none
/-- the greatest -/
def maxI : Int → List Int → Int
  | m, [] => m
  | m, i :: is => maxI (if i > m then i else m) is
def minI : Int → List Int → Int
  | m, [] => m
  | m, i :: is => minI (if i < m then i else m) is
def blsD : List D → Option (List Bool)
  | [] => some []
  | .bl b :: ds => (blsD ds).map (b :: ·)
  | _ => none
def bltD : Blt → List D → Option D
  | .len, [.lst ds] => some (.int ds.length)
  | .len, [.tup ds] => some (.int ds.length)
  | .len, [.str x] => some (.int x.length)
  | .int, [.int i] => some (.int i)
  | .list, [.lst ds] => some (.lst ds)
  | .list, [.tup ds] => some (.lst ds)
  | .list, [.str x] => some (.lst (x.cps.toList.map fun c => .str ⟨#[c]⟩))
  | .tuple, [.lst ds] => some (.tup ds)
  | .tuple, [.tup ds] => some (.tup ds)
  | .max, [.int i, .int j] => some (.int (if j > i then j else i))
  | .min, [.int i, .int j] => some (.int (if j < i then j else i))
  | .abs, [.int i] => some (.int (if i < 0 then -i else i))
  | .bool, [.bl b] => some (.bl b)
  | .all, [.lst ds] => (blsD ds).map fun bs => .bl (bs.all id)
  | .any, [.lst ds] => (blsD ds).map fun bs => .bl (bs.any id)
  | .sum, [.lst ds] => (intsD ds).map fun is => .int is.sum
  | .max, [.lst ds] => match intsD ds with
    | some (i :: is) => some (.int (maxI i is))
    | _ => none
  | .min, [.lst ds] => match intsD ds with
    | some (i :: is) => some (.int (minI i is))
    | _ => none
  | .sorted, [.lst ds] => (intsD ds).map fun is => .lst ((isort is).map .int)
  | .sorted, [.tup ds] => (intsD ds).map fun is => .lst ((isort is).map .int)
  | .sorted, [.str x] => some (.lst ((csort x.cps.toList).map fun c => .str ⟨#[c]⟩))
  | _, _ => none
def isStrD : D → Bool
  | .str _ => true
  | _ => false
def strsD : List D → Option (List Str)
  | [] => some []
  | .str x :: ds => (strsD ds).map (x :: ·)
  | _ => none
/-- a text's method -/
def bmD : BM → D → List D → Option D
  | .upper, .str a, [] => if a.length ≤ 5592405 then some (.str (Txt.upper a)) else none
  | .lower, .str a, [] => if a.length ≤ 5592405 then some (.str (Txt.lower a)) else none
  | .strip, .str a, [] => if (Txt.strip a).length ≤ LIM then some (.str (Txt.strip a)) else none
  | .startswith, .str a, [.str b] => some (.bl (Txt.startswith a b))
  | .find, .str a, [.str b] => some (.int (Txt.find a b))
  | .split, .str a, [.str b] => if b.length != 0 && decide (a.length + 2 ≤ LIM) && (Txt.split a b).all (fun x => decide (x.length ≤ LIM)) then some (.lst ((Txt.split a b).map .str)) else none
  | .words, .str a, [] => if decide (a.length + 2 ≤ LIM) && (Txt.words a).all (fun x => decide (x.length ≤ LIM)) then some (.lst ((Txt.words a).map .str)) else none
  | .partition, .str a, [.str b] => if b.length != 0 && [(Txt.partition a b).1, (Txt.partition a b).2.1, (Txt.partition a b).2.2].all (fun x => decide (x.length ≤ LIM)) then some (.tup [.str (Txt.partition a b).1, .str (Txt.partition a b).2.1, .str (Txt.partition a b).2.2]) else none
  | .join, .str a, [.lst ds] => match strsD ds with
    | some ys => if (ys.map (·.length)).sum + ys.length * a.length ≤ 16777216 && decide ((Txt.join a ys).length ≤ LIM) then some (.str (Txt.join a ys)) else none
    | none => none
  | .join, .str a, [.tup ds] => match strsD ds with
    | some ys => if (ys.map (·.length)).sum + ys.length * a.length ≤ 16777216 && decide ((Txt.join a ys).length ≤ LIM) then some (.str (Txt.join a ys)) else none
    | none => none
  | _, _, _ => none
def itemsD : D → Option (List D)
  | .lst ds => some ds
  | .tup ds => some ds
  | _ => none
/-- what is walked: a text, sign by sign, too -/
def walkD : D → Option (List D)
  | .lst ds => some ds
  | .tup ds => some ds
  | .str x => some (x.cps.toList.map fun c => .str ⟨#[c]⟩)
  | _ => none
def rngD (lo hi : Int) : Option (List D) := if -(2 ^ 40) ≤ lo && lo < 2 ^ 40 && -(2 ^ 40) ≤ hi && hi < 2 ^ 40 then some ((List.range (hi - lo).toNat).map fun (k : Nat) => .int (lo + k)) else none
def bindT (t : Tg) (d : D) (env : En) : Option En := match t with
  | .name i => some (env.set i (.val d))
  | .tup is => match d with
    | .tup ds => if ds.length == is.length then some ((is.zip ds).foldl (fun e p => e.set p.1 (.val p.2)) env) else none
    | _ => none
def wipeE (env : En) : List Nat → En
  | [] => env
  | i :: is => (wipeE env is).set i .no

/-- a comprehension's turns: f the item's test and element -/
def lcGo (f : D → Cells → Res (Option D)) : List D → Cells → Res (List D)
  | [], h => .ok [] h
  | d :: ds, h => match f d h with
    | .ok o h1 => (match lcGo f ds h1 with
      | .ok r h2 => .ok (match o with | some x => x :: r | none => r) h2
      | _ => .bad)
    | _ => .bad

/-- a field -/
def attrD (t : Tb) : D → Nat → Option D
  | .ins c fs, f => if t.ft c f then fs.lookup f else none
  | _, _ => none
/-- a method, hidden by no field -/
def methD (t : Tb) : D → Nat → Option Nat
  | .ins c fs, m => if (fs.lookup m).isNone then t.mt c m else none
  | _, _ => none
/-- a test's answer -/
def Res.test (r : Res D) : Res Bool := r.bind fun x h1 => lift (truth (see h1 x)) h1
/-- is its type told? -/
def hasTy (d : D) : Bool := (tyD d .int).isSome
/-- an own operator's def -/
def ownF (t : Tb) (k : Dn) : D → Option Nat
  | .ins c _ => t.ot c k
  | _ => none
/-- x op y, x's own method -/
def binR (F : FTab) (op : BOp) (own : Bool) (h : Cells) (x y : D) : Res D := match opB op (see h x) (see h y) with
  | some d => .ok d h
  | none => if own then .bad else match ownF F.tb (.bin op) (see h x), see h x, see h y with
    | some f, .ins c _, .ins c' _ => if c = c' then F.call f [x, y] h else .bad
    | _, _, _ => .bad
/-- is e a name that holds an object of our own? -/
def isOwn (env : En) (e : CE) : Bool := match e with
  | .var i => match env[i]? with
    | some (.own _) => true
    | some (.bor _) => true
    | _ => false
  | _ => false
def boolR (neg : Bool) : D → Cells → Res D
  | .bl b, h => .ok (.bl (if neg then !b else b)) h
  | _, _ => .bad
def inR (F : FTab) (neg own : Bool) (h : Cells) (x y : D) : Res D := if own then .bad else match ownF F.tb .has (see h y) with
  | some f => (F.call f [y, x] h).bind (boolR neg)
  | none => .bad
/-- a comparison by the left one's own method (in: by the right one's) -/
def cmpOwn (F : FTab) (op : COp) (own : Bool) (h : Cells) (x y : D) : Res D := match op with
  | .isin => inR F false own h x y
  | .notin => inR F true own h x y
  | .is | .isnot => .bad
  | .ne => if own || !hasTy (see h y) then .bad else match ownF F.tb (.cmp .ne) (see h x) with
    | some f => (F.call f [x, y] h).bind (boolR true)
    | none => .bad
  | op => if own || !hasTy (see h y) then .bad else match ownF F.tb (.cmp op) (see h x) with
    | some f => F.call f [x, y] h
    | none => .bad
def cmpR (F : FTab) (op : COp) (own : Bool) (h : Cells) (x y : D) : Res D := match opC op (see h x) (see h y) with
  | some b => .ok (.bl b) h
  | none => cmpOwn F op own h x y
/-- a base: an object of our own may be read where it stands -/
def based (env : En) (e : CE) (h : Cells) (r : Res D) : Res D := match e with
  | .var i => match env[i]? with
    | some (.own o) => .ok (obD o) h
    | some (.bor o) => .ok (obD o) h
    | _ => r
  | _ => r
/-- what is walked: an object lent may be walked where it stands -/
def walked (env : En) (e : CE) (h : Cells) (r : Res D) : Res D := match e with
  | .var i => match env[i]? with
    | some (.bor o) => .ok (obD o) h
    | _ => r
  | _ => r
/-- what is handed on -/
def lent (env : En) (e : CE) (h : Cells) (r : Res D) : Res Ar := match e with
  | .var i => match env[i]? with
    | some (.own o) => .ok (.b o) h
    | some (.bor o) => .ok (.b o) h
    | _ => r.bind fun d h => .ok (.d d) h
  | _ => r.bind fun d h => .ok (.d d) h
/-- turns of two clauses: f a turn's elements -/
def lc2Go (f : D → Cells → Res (List D)) : List D → Cells → Res (List D)
  | [], h => .ok [] h
  | d :: ds, h => match f d h with
    | .ok r h1 => (match lc2Go f ds h1 with
      | .ok s h2 => .ok (r ++ s) h2
      | _ => .bad)
    | _ => .bad
/-- what raises nothing -/
def Res.sure {α : Type} : Res α → Res α
  | .ok a h => .ok a h
  | _ => .bad
/-- a property's getter -/
def propD (t : Tb) : D → Nat → Option Nat
  | .ins c _, m => t.pt c m
  | _, _ => none
def revD : D → Option D
  | .lst ds => some (.lst ds.reverse)
  | _ => none
/-- a tuple's keys -/
def keysD : List D → Option (List Key)
  | [] => some []
  | .int i :: ds => (keysD ds).map (.inl i :: ·)
  | .str x :: ds => (keysD ds).map (.inr x :: ·)
  | _ => none
def hasK (ks : List Key) (kvs : List (List Key × D)) : Bool := kvs.any fun p => decide (p.1 = ks)
/-- unlike signs -/
def unlike (x : Str) : Bool := x.cps.all (· < 128) && decide x.cps.toList.Nodup && decide (x.cps.toList.length < 1000)
/-- what an own __iter__ walks -/
def iterD (t : Tb) : D → Option (List D)
  | .ins c fs => match t.itf c with
    | some f => match fs.lookup f with
      | some (.lst ds) => some ds
      | _ => none
    | none => none
  | _ => none
def natR : D → Cells → Res D
  | .int i, h => if 0 ≤ i && i < 2 ^ 40 then .ok (.int i) h else .bad
  | _, _ => .bad
/-- ints, in order, each once -/
def setR : List D → Cells → Res D
  | r, h => match intsD r with
    | some is => if (usort is).length < 64 then .ok (.lst ((usort is).map .int)) h else .bad
    | none => .bad
mutual
def evE (F : FTab) (gl : Nat → Option D) (env : En) : CE → Cells → Res D
  | .cst .non, h => .ok .non h
  | .cst (.bl b), h => .ok (.bl b) h
  | .cst (.int i), h => .ok (.int i) h
  | .cst (.str x), h => .ok (.str x) h
  | .var i, h => match env[i]? with
    | some (.val d) => .ok d h
    | _ => .bad
  | .glob g, h => lift (gl g) h
  | .bin op a b, h => (based env a h (evE F gl env a h)).bind fun x h1 => (based env b h1 (evE F gl env b h1)).bind fun y h2 => binR F op (isOwn env a || isOwn env b) h2 x y
  | .neg a, h => (evE F gl env a h).bind fun x h1 => match x with
    | .int i => .ok (.int (-i)) h1
    | _ => .bad
  | .cmp op a b, h => (based env a h (evE F gl env a h)).bind fun x h1 => (based env b h1 (evE F gl env b h1)).bind fun y h2 => cmpR F op (isOwn env a || isOwn env b) h2 x y
  | .chain op op' a b c, h => (evE F gl env a h).bind fun x h1 => (evE F gl env b h1).bind fun y h2 => (lift (opC op (see h2 x) (see h2 y)) h2).bind fun r h3 =>
      if r then (evE F gl env c h3).bind fun z h4 => lift ((opC op' (see h4 y) (see h4 z)).map .bl) h4 else .ok (.bl false) h3
  | .and as, h => evAnd F gl env as h
  | .or as, h => evOr F gl env as h
  | .not a, h => ((evE F gl env a h).test).bind fun b h1 => .ok (.bl (!b)) h1
  | .ife t a b, h => ((evE F gl env t h).test).bind fun r h1 => if r then evE F gl env a h1 else evE F gl env b h1
  | .tup as, h => (evEs F gl env as h).bind fun ds h1 => if ds.length ≤ LIM then .ok (.tup ds) h1 else .bad
  | .lst as, h => (evEs F gl env as h).bind fun ds h1 => if ds.length ≤ LIM then .ok (.lst ds) h1 else .bad
  | .sub a i, h => (based env a h (evE F gl env a h)).bind fun x h1 => (evE F gl env i h1).bind fun y h2 => lift (subD (see h2 x) y) h2
  | .slice a lo hi, h => (based env a h (evE F gl env a h)).bind fun x h1 => (evO F gl env lo h1).bind fun l h2 => (evO F gl env hi h2).bind fun u h3 => lift (sliceD (see h3 x) l u) h3
  | .call f as, h => (evEs F gl env as h).bind fun ds h1 => F.call f ds h1
  | .blt b as, h => (evBs F gl env as h).bind fun ds h1 => lift (bltD b (ds.map (see h1))) h1
  | .bm m o as, h => (based env o h (evE F gl env o h)).bind fun x h1 => if isStrD x then (evBs F gl env as h1).bind fun ys h2 => lift (bmD m x (ys.map (see h2))) h2 else .bad
  | .meth o m as, h => (evE F gl env o h).bind fun x h1 => match methD F.tb (see h1 x) m with
    | some f => (evEs F gl env as h1).bind fun ds h2 => F.call f (x :: ds) h2
    | none => .bad
  | .attr o f, h => (based env o h (evE F gl env o h)).bind fun x h1 => lift (attrD F.tb (see h1 x) f) h1
  | .make c as, h => (evEs F gl env as h).bind fun ds h1 => (F.ini c ds h1).bind fun fs h2 => .ok (.ins c fs) h2
  | .isi a t, h => (evE F gl env a h).bind fun x h1 => lift ((tyD (see h1 x) t).map .bl) h1
  | .lc elt own t src cond, h => (evI F gl env src h).bind fun ds h1 => if ds.length ≤ LIM then
      (lcGo (fun d h => match bindT t d (wipeE env own) with
        | some env' => (evC F gl env' cond h).bind fun b h => if b then (evE F gl env' elt h).bind fun x h => .ok (some x) h else .ok none h
        | none => .bad) ds h1).bind fun r h2 => .ok (.lst r) h2 else .bad
  | .callb f as, h => (evAs F gl env as h).bind fun ds h1 => F.callb f ds h1
  | .makeb c as, h => (evAs F gl env as h).bind fun ds h1 => (F.inib c ds h1).bind fun fs h2 => .ok (.ins c fs) h2
  | .makek k as ks, h => (evAs F gl env as h).bind fun ds h1 => (evAs F gl env ks h1).bind fun zs h2 => match F.tb.kf k with
    | some kf => if ds.length = kf.n ∧ zs.length = kf.ks.length then (F.inib kf.c (kf.app ds zs) h2).bind fun fs h3 => .ok (.ins kf.c fs) h3 else .bad
    | none => .bad
  | .prop o m, h => (evE F gl env o h).bind fun x h1 => match propD F.tb (see h1 x) m with
    | some f => (F.call f [x] h1).sure
    | none => .bad
  | .exIs i t, h => match env[i]? with
    | some (.ex x) => if x.fs.isEmpty then lift ((F.tb.xi x.c t).map .bl) h else .bad
    | _ => .bad
  | .exFld i f, h => match env[i]? with
    | some (.ex x) => if F.tb.xf x.c f then lift (x.fs.lookup f) h else .bad
    | _ => .bad
  | .rgl t src, h => (evI F gl env src h).bind fun ds h1 => if ds.length ≤ LIM then .ok (if t then .tup ds else .lst ds) h1 else .bad
  | .rev a, h => (based env a h (evE F gl env a h)).bind fun x h1 => lift (revD (see h1 x)) h1
  | .lset a, h => (evE F gl env a h).bind fun x h1 => match x with
    | .str z => if unlike z then .ok (.int z.length) h1 else .bad
    | _ => .bad
  | .ssc elt own t src cond, h => (evI F gl env src h).bind fun ds h1 => if ds.length ≤ 1000 then
      (lcGo (fun d h => match bindT t d (wipeE env own) with
        | some env' => (evC F gl env' cond h).bind fun b h => if b then (evE F gl env' elt h).bind fun x h => .ok (some x) h else .ok none h
        | none => .bad) ds h1).bind setR else .bad
  | .cval c f, h => lift (F.tb.cv c f) h
  | .inD neg k d, h => match env[k]?, env[d]? with
    | some (.key ks), some (.own (.dt kvs)) => .ok (.bl (if neg then !hasK ks kvs else hasK ks kvs)) h
    | _, _ => .bad
  | .lenO a, h => (evE F gl env a h).bind fun x h1 => match ownF F.tb .len (see h1 x) with
    | some f => (F.call f [x] h1).sure.bind natR
    | none => .bad
  | .lc2 elt own t src cond vs1 t1 src1 cond1, h => (evI F gl env src h).bind fun ds h1 => if ds.length ≤ LIM then
      (lc2Go (fun d h => match bindT t d (wipeE env own) with
        | some env' => (evC F gl env' cond h).bind fun b h => if b then (evI F gl env' src1 h).bind fun ds1 h =>
            lcGo (fun d h => match bindT t1 d (wipeE env' vs1) with
              | some env2 => (evC F gl env2 cond1 h).bind fun b h => if b then (evE F gl env2 elt h).bind fun x h => .ok (some x) h else .ok none h
              | none => .bad) ds1 h else .ok [] h
        | none => .bad) ds h1).bind fun r h2 => if r.length ≤ LIM then .ok (.lst r) h2 else .bad else .bad
  | .newc as, h => (evEs F gl env as h).bind fun ds h1 => if ds.length ≤ LIM then .ok (.cell h1.length) (h1 ++ [some (.lst ds)]) else .bad
def evEs (F : FTab) (gl : Nat → Option D) (env : En) : CEs → Cells → Res (List D)
  | .nil, h => .ok [] h
  | .cons a as, h => (evE F gl env a h).bind fun x h1 => (evEs F gl env as h1).bind fun xs h2 => .ok (x :: xs) h2
  | .star a as, h => (evE F gl env a h).bind fun x h1 => (lift (itemsD (see h1 x)) h1).bind fun ys h1 => (evEs F gl env as h1).bind fun xs h2 => .ok (ys ++ xs) h2
def evBs (F : FTab) (gl : Nat → Option D) (env : En) : CEs → Cells → Res (List D)
  | .nil, h => .ok [] h
  | .cons a as, h => (based env a h (evE F gl env a h)).bind fun x h1 => (evBs F gl env as h1).bind fun xs h2 => .ok (x :: xs) h2
  | .star _ _, _ => .bad
def evAs (F : FTab) (gl : Nat → Option D) (env : En) : CEs → Cells → Res (List Ar)
  | .nil, h => .ok [] h
  | .cons a as, h => (lent env a h (evE F gl env a h)).bind fun x h1 => (evAs F gl env as h1).bind fun xs h2 => .ok (x :: xs) h2
  | .star _ _, _ => .bad
def evO (F : FTab) (gl : Nat → Option D) (env : En) : CO → Cells → Res (Option Int)
  | .none, h => .ok none h
  | .some a, h => (evE F gl env a h).bind fun x h1 => match x with
    | .int i => .ok (some i) h1
    | _ => .bad
/-- a comprehension's condition -/
def evC (F : FTab) (gl : Nat → Option D) (env : En) : CO → Cells → Res Bool
  | .none, h => .ok true h
  | .some a, h => (evE F gl env a h).test
def evI (F : FTab) (gl : Nat → Option D) (env : En) : CI → Cells → Res (List D)
  | .of a, h => (walked env a h (evE F gl env a h)).bind fun x h1 => lift (walkD x) h1
  | .rng1 a, h => (evE F gl env a h).bind fun x h1 => match x with
    | .int j => lift (rngD 0 j) h1
    | _ => .bad
  | .rng2 a b, h => (evE F gl env a h).bind fun x h1 => (evE F gl env b h1).bind fun y h2 => match x, y with
    | .int i, .int j => lift (rngD i j) h2
    | _, _ => .bad
  | .ownI a, h => (evE F gl env a h).bind fun x h1 => lift (iterD F.tb (see h1 x)) h1
def evAnd (F : FTab) (gl : Nat → Option D) (env : En) : CEs → Cells → Res D
  | .nil, _ => .bad
  | .star _ _, _ => .bad
  | .cons a .nil, h => evE F gl env a h
  | .cons _ (.star _ _), _ => .bad
  | .cons a (.cons b bs), h => (evE F gl env a h).bind fun x h1 => (lift (truth (see h1 x)) h1).bind fun k h1 => if k then evAnd F gl env (.cons b bs) h1 else .ok x h1
def evOr (F : FTab) (gl : Nat → Option D) (env : En) : CEs → Cells → Res D
  | .nil, _ => .bad
  | .star _ _, _ => .bad
  | .cons a .nil, h => evE F gl env a h
  | .cons _ (.star _ _), _ => .bad
  | .cons a (.cons b bs), h => (evE F gl env a h).bind fun x h1 => (lift (truth (see h1 x)) h1).bind fun k h1 => if k then .ok x h1 else evOr F gl env (.cons b bs) h1
end
end Rf
set_option Elab.async false
set_option linter.all false
set_option maxRecDepth 100000
set_option maxHeartbeats 2000000
/-! G3: statements, functions -/
namespace Rf
open PySem L2
inductive Out where
  | next (env : En) (h : Cells) | ret (d : D) (h : Cells) | brk (env : En) (h : Cells) | cont (env : En) (h : Cells) | exc (x : Exn) (env : En) (h : Cells) | bad
def Out.bind (o : Out) (k : En → Cells → Out) : Out := match o with
  | .next env h => k env h
  | o => o
def Res.out {α : Type} (r : Res α) (env : En) (k : α → Cells → Out) : Out := match r with
  | .ok a h => k a h
  | .exc x h => .exc x env h
  | .bad => .bad
@[simp] theorem Res.out_ok {α : Type} (a : α) (h : Cells) (env : En) (k : α → Cells → Out) : (Res.ok a h).out env k = k a h := nd rfl
@[simp] theorem Res.out_bad {α : Type} (env : En) (k : α → Cells → Out) : (Res.bad : Res α).out env k = .bad := nd rfl
@[simp] theorem Res.out_exc {α : Type} (x : Exn) (h : Cells) (env : En) (k : α → Cells → Out) : (Res.exc x h : Res α).out env k = .exc x env h := nd rfl
@[simp] theorem Out.bind_next (env : En) (h : Cells) (k : En → Cells → Out) : (Out.next env h).bind k = k env h := nd rfl
@[simp] theorem Out.bind_ret (d : D) (h : Cells) (k : En → Cells → Out) : (Out.ret d h).bind k = .ret d h := nd rfl
@[simp] theorem Out.bind_brk (env : En) (h : Cells) (k : En → Cells → Out) : (Out.brk env h).bind k = .brk env h := nd rfl
@[simp] theorem Out.bind_cont (env : En) (h : Cells) (k : En → Cells → Out) : (Out.cont env h).bind k = .cont env h := nd rfl
@[simp] theorem Out.bind_exc (x : Exn) (env : En) (h : Cells) (k : En → Cells → Out) : (Out.exc x env h).bind k = .exc x env h := nd rfl
@[simp] theorem Out.bind_bad (k : En → Cells → Out) : Out.bad.bind k = .bad := nd rfl

/-- a loop's turns -/
def forGo (t : Tg) (f : En → Cells → Out) : List D → En → Cells → Out
  | [], env, h => .next env h
  | d :: ds, env, h => match bindT t d env with
    | none => .bad
    | some env' => match f env' h with
      | .next e1 h1 => forGo t f ds e1 h1
      | .cont e1 h1 => forGo t f ds e1 h1
      | .brk e1 h1 => .next e1 h1
      | o => o
def whileGo (c : En → Cells → Res Bool) (f : En → Cells → Out) : Nat → En → Cells → Out
  | 0, _, _ => .bad
  | n + 1, env, h => (c env h).out env fun b h1 => if b then match f env h1 with
      | .next e1 h2 => whileGo c f n e1 h2
      | .cont e1 h2 => whileGo c f n e1 h2
      | .brk e1 h2 => .next e1 h2
      | o => o
    else .next env h1
/-- a new object as our own -/
def newOb : D → Option Ob
  | .lst ds => some (.lst ds)
  | _ => none
/-- which expressions make a new list -/
def fresh : CE → Bool
  | .lst _ => true
  | .lc _ _ _ _ _ => true
  | .blt .list (.cons _ .nil) => true
  | .rgl false (.rng1 _) => true
  | .slice _ _ _ => false
  | _ => false
/-- a field is set -/
def putD (f : Nat) (d : D) : List (Nat × D) → List (Nat × D)
  | [] => [(f, d)]
  | (g, x) :: r => if g = f then (g, d) :: r else (g, x) :: putD f d r
def putKD (kvs : List (List Key × D)) (k : List Key) (v : D) : List (List Key × D) :=
  if hasK k kvs then kvs.map (fun kv => if kv.1 = k then (kv.1, v) else kv) else kvs ++ [(k, v)]
/-- numbered -/
def enumD : Nat → List D → List D
  | _, [] => []
  | n, d :: ds => .tup [.int n, d] :: enumD (n + 1) ds
/-- while an exception is handled: no calls -/
def FTab.hot (F : FTab) : FTab := ⟨fun _ _ _ => .bad, fun _ _ _ => .bad, { F.tb with ot := fun _ _ => none, kf := fun _ => none, pt := fun _ _ => none, itf := fun _ => none }, fun _ _ _ => .bad, fun _ _ _ => .bad⟩
/-- no exception in hand -/
def clrEx (env : En) : En := env.map fun s => match s with
  | .ex _ => .no
  | s => s
/-- behind a suite: its name is gone -/
def dropEx (i : Nat) : Out → Out
  | .next env h => .next ((clrEx env).set i .no) h
  | .brk env h => .brk ((clrEx env).set i .no) h
  | .cont env h => .cont ((clrEx env).set i .no) h
  | .ret d h => .ret d h
  | _ => .bad
mutual
def evS (F : FTab) (gl : Nat → Option D) : CS → En → Cells → Out
  | .set i e, env, h => (evE F gl env e h).out env fun d h1 => .next (env.set i (.val d)) h1
  | .setN i e, env, h => (evE F gl env e h).out env fun d h1 => if fresh e then (match newOb d with
      | some o => .next (env.set i (.own o)) h1
      | none => .bad) else .bad
  | .setT is e, env, h => (evE F gl env e h).out env fun d h1 => match bindT (.tup is) d env with
      | some env' => .next env' h1
      | none => .bad
  | .setSub a i e, env, h => (evE F gl env e h).out env fun d h1 => match a with
      | .var q => (match env[q]? with
        | some (.own (.lst ds)) => (evE F gl env i h1).out env fun y h3 => (match y with
          | .int j => (match L2.ixN ds.length j with
            | some n => .next (env.set q (.own (.lst (ds.set n d)))) h3
            | none => .bad)
          | _ => .bad)
        | some (.val (.cell k)) => (evE F gl env i h1).out env fun y h3 => (match y, h3[k]? with
          | .int j, some (some (.lst ds)) => (match L2.ixN ds.length j with
            | some n => .next env (h3.set k (some (.lst (ds.set n d))))
            | none => .bad)
          | _, _ => .bad)
        | _ => .bad)
      | _ => .bad
  | .setAttr a f e, env, h => (evE F gl env e h).out env fun d h1 => match a with
      | .var q => (match env[q]? with
        | some (.own (.ins c fs)) => if F.tb.ft c f && decide (fs.length < 900) then .next (env.set q (.own (.ins c (putD f d fs)))) h1 else .bad
        | some (.val (.cell k)) => (match h1[k]? with
          | some (some (.ins c fs)) => if F.tb.ft c f && decide (fs.length < 900) then .next env (h1.set k (some (.ins c (putD f d fs)))) else .bad
          | _ => .bad)
        | _ => .bad)
      | _ => .bad
  | .app i e, env, h => match env[i]? with
      | some (.own (.lst ds)) => (evE F gl env e h).out env fun d h1 => if ds.length < LIM then .next (env.set i (.own (.lst (ds ++ [d])))) h1 else .bad
      | some (.val (.cell k)) => (match h[k]? with
        | some (some (.lst _)) => (evE F gl env e h).out env fun d h1 => (match h1[k]? with
          | some (some (.lst ds)) => if ds.length < LIM then .next env (h1.set k (some (.lst (ds ++ [d])))) else .bad
          | _ => .bad)
        | _ => .bad)
      | _ => .bad
  | .ex e, env, h => (evE F gl env e h).out env fun _ h1 => .next env h1
  | .ret e, env, h => (evE F gl env e h).out env fun d h1 => .ret d h1
  | .retN, _, h => .ret .non h
  | .ite t a b, env, h => (evE F gl env t h).test.out env fun r h1 => if r then evSs F gl a env h1 else evSs F gl b env h1
  | .for_ t src b, env, h => (evI F gl env src h).out env fun ds h1 => forGo t (evSs F gl b) ds env h1
  | .while_ n t b, env, h => whileGo (fun env h => (evE F gl env t h).test) (evSs F gl b) n env h
  | .pass, env, h => .next env h
  | .dead, _, _ => .bad
  | .brk, env, h => .brk env h
  | .cont, env, h => .cont env h
  | .raise_ c, env, h => .exc ⟨c, []⟩ env h
  | .try_ b c hd, env, h => match evSs F gl b env h with
    | .exc x env' h' => (match F.tb.sb x.c c with
      | some true => (match evSs F.hot gl hd env' h' with
        | .exc _ _ _ => .bad
        | o => o)
      | some false => .exc x env' h'
      | none => .bad)
    | o => o
  | .tryAs b c i hd, env, h => match evSs F gl b env h with
    | .exc x env' h' => (match F.tb.sb x.c c with
      | some true => dropEx i (evSs F.hot gl hd ((clrEx env').set i (.ex x)) h')
      | some false => .exc x env' h'
      | none => .bad)
    | o => o
  | .newD i, env, h => .next (env.set i (.own (.dt []))) h
  | .setK i as, env, h => (evEs F gl env as h).out env fun ds h1 => match keysD ds with
      | some ks => if ds.length < 100 then .next (env.set i (.key ks)) h1 else .bad
      | none => .bad
  | .putD q k e, env, h => (evE F gl env e h).out env fun d h1 => match env[q]?, env[k]? with
      | some (.own (.dt kvs)), some (.key ks) => if kvs.length < LIM then .next (env.set q (.own (.dt (putKD kvs ks d)))) h1 else .bad
      | _, _ => .bad
  | .appPop q p e, env, h => match env[q]?, env[p]? with
      | some (.own (.lst _)), some (.own (.lst _)) => if q = p then .bad else (evE F gl env e h).out env fun y h1 => (match env[q]?, env[p]?, y with
        | some (.own (.lst xs)), some (.own (.lst ds)), .int j => (match L2.ixN ds.length j with
          | some n => if xs.length < LIM ∧ ds.length < LIM then .next ((env.set p (.own (.lst (ds.eraseIdx n)))).set q (.own (.lst (xs ++ [ds.getD n .non])))) h1 else .bad
          | none => .bad)
        | _, _, _ => .bad)
      | _, _ => .bad
  | .forE i x src b, env, h => (walked env src h (evE F gl env src h)).out env fun d h1 => match d with
      | .lst ds => forGo (.tup [i, x]) (evSs F gl b) (enumD 0 ds) env h1
      | _ => .bad
  | .frz i, env, h => match env[i]? with
      | some (.own o) => .next (env.set i (.val (obD o))) h
      | _ => .bad
def evSs (F : FTab) (gl : Nat → Option D) : CSs → En → Cells → Out
  | .nil, env, h => .next env h
  | .cons s ss, env, h => (evS F gl s env h).bind fun env h => evSs F gl ss env h
end
/-! ### functions -/
/-- a def: its parameters' number, its names, its body -/
structure Fn where
  np : Nat
  nn : Nat
  body : CSs
  va : Bool := false
def start (n : Nat) (ds : List D) : En := ds.map .val ++ List.replicate (n - ds.length) .no
def Out.fin : Out → Res D
  | .ret d h => .ok d h
  | .next _ h => .ok .non h
  | .exc x _ h => .exc x h
  | _ => .bad
/-- what is bound: what is left over as a tuple -/
def packV (f : Fn) (ds : List D) : Option (List D) := if f.va then (if f.np ≤ ds.length + 1 ∧ ds.length ≤ LIM then some (ds.take (f.np - 1) ++ [.tup (ds.drop (f.np - 1))]) else none) else if ds.length = f.np then some ds else none
def runFn (F : FTab) (gl : Nat → Option D) (f : Fn) (ds : List D) (h : Cells) : Res D := match packV f ds with
  | some ds => (evSs F gl f.body (start f.nn ds) h).fin
  | none => .bad
/-- what is handed on, as a slot -/
def Ar.sl : Ar → Sl
  | .d x => .val x
  | .b o => .bor o
def startB (n : Nat) (as : List Ar) : En := as.map Ar.sl ++ List.replicate (n - as.length) .no
def runFnB (F : FTab) (gl : Nat → Option D) (f : Fn) (as : List Ar) (h : Cells) : Res D := if f.va = false ∧ as.length = f.np then (evSs F gl f.body (startB f.nn as) h).fin else .bad
/-- what a new instance has, behind its __init__ -/
def Out.fini (c : Nat) : Out → Res (List (Nat × D))
  | .next (.own (.ins k fs) :: _) h => if k = c then .ok fs h else .bad
  | .exc x _ h => .exc x h
  | _ => .bad
def runIni (F : FTab) (gl : Nat → Option D) (f : Fn) (c : Nat) (ds : List D) (h : Cells) : Res (List (Nat × D)) := if ds.length + 1 = f.np then (evSs F gl f.body (.own (.ins c []) :: start (f.nn - 1) ds) h).fini c else .bad
def runIniB (F : FTab) (gl : Nat → Option D) (f : Fn) (c : Nat) (as : List Ar) (h : Cells) : Res (List (Nat × D)) := if as.length + 1 = f.np then (evSs F gl f.body (.own (.ins c []) :: startB (f.nn - 1) as) h).fini c else .bad
/-- the defs, so deep -/
def calls (gl : Nat → Option D) (fs : Nat → Option Fn) (tb : Tb) : Nat → FTab
  | 0 => ⟨fun _ _ _ => .bad, fun _ _ _ => .bad, tb, fun _ _ _ => .bad, fun _ _ _ => .bad⟩
  | n + 1 => ⟨fun f ds h => match fs f with
    | some fn => runFn (calls gl fs tb n) gl fn ds h
    | none => .bad, fun c ds h => match tb.it c with
    | some f => (match fs f with
      | some fn => runIni (calls gl fs tb n) gl fn c ds h
      | none => .bad)
    | none => .bad, tb, fun f ds h => match fs f with
    | some fn => runFnB (calls gl fs tb n) gl fn ds h
    | none => .bad, fun c ds h => match tb.it c with
    | some f => (match fs f with
      | some fn => runIniB (calls gl fs tb n) gl fn c ds h
      | none => .bad)
    | none => .bad⟩

example (F : FTab) (gl) : evE F gl [.val (.int 3)] (.bin .add (.var 0) (.cst (.int 4))) [] = .ok (.int 7) [] := rfl
example (F : FTab) (gl) (x : Int) : evSs F gl (.cons (.for_ (.name 1) (.rng1 (.cst (.int 3))) (.cons (.app 0 (.var 1)) .nil)) .nil) [.own (.lst []), .no] [] = .next [.own (.lst [.int 0, .int 1, .int 2]), .val (.int 2)] [] := rfl
end Rf
set_option Elab.async false
set_option linter.all false
set_option maxRecDepth 100000
set_option maxHeartbeats 2000000
/-! G4: what an answer promises -/
namespace Rf
open PySem L2

/-- an exception's class and own dict -/
def ExR (G : Gm) (w : W) (x : Exn) (cls : Value) (dd : Option Addr) : Prop :=
  cls = .ref (G.ca x.c) ∧ ((x.fs = [] ∧ dd = none) ∨ x.fs ≠ [] ∧ ∃ d fvs, dd = some d ∧ w.H d = some (.xd fvs) ∧ RepF G w x.fs fvs)
/-- behind the world w, by the answer r -/
def Post {α : Type} (G : Gm) (w : W) (r : Res α) (P : α → W → Prop) (E : Exn → W → Prop) : Prop := match r with
  | .ok a h' => ∀ w', w'.h = h' → WOk G w' → Ext w w' → P a w'
  | .exc x h' => ∀ w', w'.h = h' → WOk G w' → Ext w w' → E x w'
  | .bad => False
section
variable {α β : Type} {G : Gm} {w w1 : W} {r : Res α} {P P' : α → W → Prop} {E E' : Exn → W → Prop}
theorem Post.later (h : Post G w r P E) (e : Ext w w1) : Post G w1 r P E := by
  cases r with
  | ok a h' => exact fun w' eh ok e' => h w' eh ok (e.trans e')
  | exc x h' => exact fun w' eh ok e' => h w' eh ok (e.trans e')
  | bad => exact h
theorem Post.mono (h : Post G w r P E) (hp : ∀ a w', WOk G w' → Ext w w' → P a w' → P' a w') (he : ∀ x w', WOk G w' → Ext w w' → E x w' → E' x w') : Post G w r P' E' := by
  cases r with
  | ok a h' => exact fun w' eh ok e' => hp a w' ok e' (h w' eh ok e')
  | exc x h' => exact fun w' eh ok e' => he x w' ok e' (h w' eh ok e')
  | bad => exact h
theorem Post.bind {k : α → Cells → Res β} {P : β → W → Prop} (h : Post G w (r.bind k) P E) : Post G w r (fun a w1 => Post G w1 (k a w1.h) P E) E := by
  cases r with
  | ok a h' =>
    intro w1 eh ok e1
    subst eh
    exact Post.later (show Post G w (k a w1.h) P E from h) e1
  | exc x h' => exact h
  | bad => exact h
/-- the answer is one for sure -/
theorem Post.now {a : α} (h : Post G w (.ok a w.h) P E) (ok : WOk G w) : P a w := h w rfl ok (Ext.refl w)
theorem Post.at {a : α} (h : Post G w r P E) (e : r = .ok a w.h) (ok : WOk G w) : P a w := by
  subst e
  exact h w rfl ok (Ext.refl w)
theorem Post.lifted {o : Option α} (h : Post G w (lift o w.h) P E) : ∃ a, o = some a ∧ ∀ w', w'.h = w.h → WOk G w' → Ext w w' → P a w' := by
  cases o with
  | none => exact False.elim h
  | some a => exact ⟨a, rfl, h⟩
end

/-- the entry's world, and the object that is being made there -/
structure Bs extends W where
  me : Addr
  /-- the exception in hand: where it is, its own dict, its class -/
  xa : Addr
  xd : Option Addr
  xc : Value
def Bs.of (w : W) (m : Addr) : Bs := { w with me := m, xa := 0, xd := none, xc := .none }
/-- the slots: B the entry's world -/
structure EnvOk (G : Gm) (B : Bs) (w : W) (env : En) (σ : List (Option V)) (ω : Nat → Addr) : Prop where
  len : env.length = σ.length
  vals : ∀ (i : Nat) (d : D), env[i]? = some (Sl.val d) → ∃ v, σ[i]? = some (some v) ∧ Rep G w d v
  own : ∀ (i : Nat) (o : Ob), env[i]? = some (Sl.own o) → σ[i]? = some (some (.ref (ω i))) ∧ ObAt G w (ω i) o ∧ ¬ w.Z (ω i) ∧ ¬ w.live (ω i) ∧ B.H (ω i) = none
  inj : ∀ (i j : Nat) (o u : Ob), env[i]? = some (Sl.own o) → env[j]? = some (Sl.own u) → ω i = ω j → i = j
  mine : ∀ (i c : Nat) (fs : List (Nat × D)), env[i]? = some (Sl.own (.ins c fs)) → ω i = B.me
  bor : ∀ (i : Nat) (o : Ob), env[i]? = some (Sl.bor o) → ∃ a, σ[i]? = some (some (.ref a)) ∧ WOk G B.toW ∧ ObAt G B.toW a o ∧ ¬ B.live a
  ex : ∀ (i : Nat) (x : Exn), env[i]? = some (Sl.ex x) → σ[i]? = some (some (.ref B.xa)) ∧ B.xc = .ref (G.ca x.c) ∧ ((x.fs = [] ∧ B.xd = none) ∨ x.fs ≠ [] ∧ ∃ d fvs, B.xd = some d ∧ w.H d = some (.xd fvs) ∧ RepF G w x.fs fvs)
  key : ∀ (i : Nat) (ks : List Key), env[i]? = some (Sl.key ks) → ∃ a, σ[i]? = some (some (.ref a)) ∧ w.H a = some (.tup (ks.map kV))
theorem set_other {env : En} {i j : Nat} {s t : Sl} (h : (env.set i s)[j]? = some t) (hst : s ≠ t) : i ≠ j ∧ env[j]? = some t := by
  by_cases q : i = j
  · subst q
    by_cases hi : i < env.length
    · rw [List.getElem?_set_self hi] at h
      exact absurd (Option.some.inj h) hst
    · rw [List.getElem?_eq_none (by rw [List.length_set]; omega)] at h
      cases h
  · rw [List.getElem?_set_ne q] at h
    exact ⟨q, h⟩
section
variable {G : Gm} {B : Bs} {w w' : W} {env : En} {σ : List (Option V)} {ω : Nat → Addr}
theorem ObAt.ext {a : Addr} {o : Ob} (h : ObAt G w a o) (ok : WOk G w) (nl : ¬ w.live a) (e : Ext w w') : ObAt G w' a o := by
  cases h with
  | lst h r => exact .lst (e.keep a _ h nl) (r.ext ok e)
  | dk h r => exact .dk (e.keep a _ h nl) (r.ext ok e)
  | dt h r => exact .dt (e.keep a _ h nl) (r.ext ok e)
  | ins hc h r => exact .ins hc (e.keep a _ h nl) (r.ext ok e)
theorem EnvOk.ext (x : EnvOk G B w env σ ω) (ok : WOk G w) (e : Ext w w') : EnvOk G B w' env σ ω where
  len := x.len
  vals := fun i d h => by
    obtain ⟨v, hv, r⟩ := x.vals i d h
    exact ⟨v, hv, r.ext ok e⟩
  own := fun i o h => by
    obtain ⟨h1, h2, h3, h4, h5⟩ := x.own i o h
    obtain ⟨u, hu, _⟩ := h2.soft
    refine ⟨h1, h2.ext ok h4 e, fun z => ?_, fun l => ?_, h5⟩
    · rcases e.zn _ z with z | z | z
      · exact h3 z
      · rw [hu] at z; cases z
      · exact h4 z
    · rcases e.live_back l with l | l
      · exact h4 l
      · rw [hu] at l; cases l
  inj := x.inj
  mine := x.mine
  bor := x.bor
  ex := fun i z h => by
    obtain ⟨h1, h2, h3⟩ := x.ex i z h
    refine ⟨h1, h2, ?_⟩
    rcases h3 with h3 | ⟨k0, d, fvs, k1, k2, k3⟩
    · exact .inl h3
    · exact .inr ⟨k0, d, fvs, k1, e.frz ok k2 (fun z => z), k3.ext ok e⟩
  key := fun i ks h => by
    obtain ⟨a, h1, h2⟩ := x.key i ks h
    exact ⟨a, h1, e.frz ok h2 (fun z => z)⟩
end

/-- what is seen -/
inductive Vw (G : Gm) (w : W) : D → V → Prop
  | non : Vw G w .non .non
  | bl (b : Bool) : Vw G w (.bl b) (.bl b)
  | int (i : Int) : Vw G w (.int i) (.int i)
  | str (x : Str) : x.length ≤ sizeLine → Vw G w (.str x) (.str x)
  | tup {a : Addr} {vs : List V} {ds : List D} : SqT G.K w.H a vs → Reps G w ds vs → Vw G w (.tup ds) (.ref a)
  | lst {a : Addr} {vs : List V} {ds : List D} : SqM G.K w.H a vs → Reps G w ds vs → Vw G w (.lst ds) (.ref a)
  | dk {a : Addr} {kvs : List (Key × V)} {kds : List (Key × D)} : w.H a = some (.dK kvs) → RepK G w kds kvs → Vw G w (.dk kds) (.ref a)
  | dt {a : Addr} {kvs : List (List Key × V)} {kds : List (List Key × D)} : w.H a = some (.dT kvs) → RepT G w kds kvs → Vw G w (.dt kds) (.ref a)
  | ins {a dx : Addr} {c : Nat} {fvs : List (Str × V)} {fs : List (Nat × D)} : c < G.nc → w.H a = some (.ins (G.ca c) dx fvs) → RepF G w fs fvs → Vw G w (.ins c fs) (.ref a)
  | cell (i : Nat) (a : Addr) : Vw G w (.cell i) (.ref a)
section
variable {G : Gm} {w w' : W}
theorem ObAt.vw {a : Addr} {o : Ob} (h : ObAt G w a o) : Vw G w (obD o) (.ref a) := by
  cases h with
  | lst h r => exact .lst (.inl (.inl h)) r
  | dk h r => exact .dk h r
  | dt h r => exact .dt h r
  | ins hc h r => exact .ins hc h r
theorem Rep.see (ok : WOk G w) : ∀ {d : D} {v : V}, Rep G w d v → Vw G w (see w.h d) v
  | _, _, .non => .non
  | _, _, .bl b => .bl b
  | _, _, .int i => .int i
  | _, _, .str x hx => .str x hx
  | _, _, .tup h r => .tup h r
  | _, _, .lst h r => .lst h.m r
  | _, _, .dk z h r => .dk h r
  | _, _, .dt z h r => .dt h r
  | _, _, .ins hc z h r => .ins hc h r
  | _, _, .cell i hi => by
    cases e : w.h[i]? with
    | none =>
      have q : Rf.see w.h (.cell i) = .cell i := by simp only [Rf.see, e]
      rw [q]
      exact .cell i _
    | some o => cases o with
      | none =>
        have q : Rf.see w.h (.cell i) = .cell i := by simp only [Rf.see, e]
        rw [q]
        exact .cell i _
      | some ob =>
        have q : Rf.see w.h (.cell i) = obD ob := by
          cases ob <;> simp only [Rf.see, e, obD]
        rw [q]
        exact (ok.cell i ob e).1.vw
/-- a base: a datum, or an object of our own -/
def BRep (G : Gm) (w : W) (d : D) (v : V) : Prop := Rep G w d v ∨ ∃ a o, v = .ref a ∧ d = obD o ∧ ObAt G w a o ∧ ¬ w.live a
theorem BRep.ext {d : D} {v : V} (h : BRep G w d v) (ok : WOk G w) (e : Ext w w') : BRep G w' d v := by
  rcases h with h | ⟨a, o, rfl, rfl, h, nl⟩
  · exact .inl (h.ext ok e)
  · refine .inr ⟨a, o, rfl, rfl, h.ext ok nl e, fun l => ?_⟩
    obtain ⟨u, hu, _⟩ := h.soft
    rcases e.live_back l with l | l
    · exact nl l
    · rw [hu] at l; cases l
theorem see_ob (h : Cells) (o : Ob) : see h (obD o) = obD o := by cases o <;> rfl
theorem BRep.see {d : D} {v : V} (h : BRep G w d v) (ok : WOk G w) : Vw G w (see w.h d) v := by
  rcases h with h | ⟨a, o, rfl, rfl, h, nl⟩
  · exact h.see ok
  · rw [see_ob]; exact h.vw
theorem Reps.length {ds : List D} {vs : List V} : Reps G w ds vs → ds.length = vs.length
  | .nil => rfl
  | .cons _ r => by rw [List.length_cons, List.length_cons, r.length]
theorem Reps.get {ds : List D} {vs : List V} : ∀ {i : Nat} {d : D}, Reps G w ds vs → ds[i]? = some d → ∃ v, vs[i]? = some v ∧ Rep G w d v
  | _, _, .nil, h => by simp at h
  | 0, _, .cons r _, h => by
    simp at h
    subst h
    exact ⟨_, rfl, r⟩
  | i + 1, _, .cons _ r, h => by
    obtain ⟨v, h1, h2⟩ := r.get (i := i) (by simpa using h)
    exact ⟨v, by simpa using h1, h2⟩
theorem Reps.append {ds es : List D} {vs us : List V} : Reps G w ds vs → Reps G w es us → Reps G w (ds ++ es) (vs ++ us)
  | .nil, s => s
  | .cons r t, s => .cons r (t.append s)
theorem Reps.take {ds : List D} {vs : List V} : ∀ (n : Nat), Reps G w ds vs → Reps G w (ds.take n) (vs.take n)
  | 0, _ => by simp; exact .nil
  | _ + 1, .nil => .nil
  | n + 1, .cons r t => by
    rw [List.take_succ_cons, List.take_succ_cons]
    exact .cons r (t.take n)
theorem Reps.drop {ds : List D} {vs : List V} : ∀ (n : Nat), Reps G w ds vs → Reps G w (ds.drop n) (vs.drop n)
  | 0, r => r
  | _ + 1, .nil => .nil
  | n + 1, .cons _ t => t.drop n
theorem Reps.set {d : D} {v : V} (r : Rep G w d v) : ∀ {ds : List D} {vs : List V} (i : Nat), Reps G w ds vs → Reps G w (ds.set i d) (vs.set i v)
  | _, _, _, .nil => .nil
  | _, _, 0, .cons _ t => .cons r t
  | _, _, i + 1, .cons q t => .cons q (Reps.set r i t)
/-- a new frozen object -/
def W.put (w : W) (p : Addr) (o : HO) : W := ⟨fun a => w.Z a ∨ a = p, w.ι, w.h, upd w.H p o⟩
theorem new_frozen (ok : WOk G w) {p : Addr} {o : HO} (hp : w.H p = none) : WOk G (w.put p o) ∧ Ext w (w.put p o) := by
  have nl : ¬ w.live p := fun l => by
    obtain ⟨⟨u, hu, _⟩, _⟩ := ok.soft l
    rw [hp] at hu; cases hu
  have e : Ext w (w.put p o) := {
    z := fun _ z => .inl z
    zn := fun a z => by
      rcases z with z | rfl
      · exact .inl z
      · exact .inr (.inl hp)
    ι := fun _ _ => rfl
    len := Nat.le_refl _
    lv := fun i o _ h => ⟨o, h⟩
    fresh := fun i o hi h => by
      have h' : w.h[i]? = some (some o) := h
      rw [List.getElem?_eq_none hi] at h'
      cases h'
    keep := fun a u h _ => by
      show upd w.H p o a = some u
      rw [upd_ne (ne_of_none h hp)]
      exact h
    dom := fun a h => by
      have h' : upd w.H p o a = none := h
      by_cases q : a = p
      · rw [q]; exact hp
      · rw [upd_ne q] at h'; exact h' }
  refine ⟨⟨fun i ob h => ?_, fun i j a b h1 h2 h3 => ok.inj i j a b h1 h2 h3, fun a z => ?_⟩, e⟩
  · obtain ⟨h1, h2⟩ := ok.cell i ob h
    have hne : w.ι i ≠ p := fun q => nl ⟨i, ob, h, q⟩
    refine ⟨?_, fun z => ?_⟩
    · cases h1 with
      | lst hh r => exact .lst (by show upd w.H p o (w.ι i) = _; rw [upd_ne hne]; exact hh) (r.ext ok e)
      | dk hh r => exact .dk (by show upd w.H p o (w.ι i) = _; rw [upd_ne hne]; exact hh) (r.ext ok e)
      | dt hh r => exact .dt (by show upd w.H p o (w.ι i) = _; rw [upd_ne hne]; exact hh) (r.ext ok e)
      | ins hc hh r => exact .ins hc (by show upd w.H p o (w.ι i) = _; rw [upd_ne hne]; exact hh) (r.ext ok e)
    · rcases z with z | z
      · exact h2 z
      · exact hne z
  · by_cases q : a = p
    · exact ⟨o, by show upd w.H p o a = _; rw [q]; exact upd_same⟩
    · rcases z with z | z
      · obtain ⟨u, hu⟩ := ok.zin a z
        exact ⟨u, by show upd w.H p o a = _; rw [upd_ne q]; exact hu⟩
      · exact absurd z q
end
end Rf
set_option Elab.async false
set_option linter.all false
set_option maxRecDepth 100000
set_option maxHeartbeats 2000000
/-! G5: operators -/
namespace Rf
open PySem L2 PySem.Spec PyProof.Rows

def bop : BOp → Operator
  | .add => .Add | .sub => .Sub | .mul => .Mult | .fdiv => .FloorDiv | .mod => .Mod | .pow => .Pow | .bor => .BitOr | .band => .BitAnd | .bxor => .BitXor
def cop : COp → CmpOp
  | .eq => .Eq | .ne => .NotEq | .lt => .Lt | .le => .LtE | .gt => .Gt | .ge => .GtE | .is => .Is | .isnot => .IsNot | .isin => .In | .notin => .NotIn

/-- what the answer d wants -/
def Ends1 (G : Gm) (w : W) (d : D) (Q : VK) : Prop := ∀ w' v, w'.h = w.h → WOk G w' → Ext w w' → Rep G w' d v → Q v w'.H
section
variable {G : Gm} {w : W} {Q : VK} {X : Cx}
theorem Ends1.here {d : D} {v : V} (h : Ends1 G w d Q) (ok : WOk G w) (r : Rep G w d v) : Q v w.H := h w v rfl ok (Ext.refl w) r
theorem Ends1.lst {ds : List D} {vs : List V} (h : Ends1 G w (.lst ds) Q) (ok : WOk G w) (r : Reps G w ds vs) : ∀ p, w.H p = none → Q (.ref p) (upd w.H p (.lst vs)) := fun p hp => by
  obtain ⟨ok', e⟩ := new_frozen (o := .lst vs) ok hp
  exact h (w.put p (.lst vs)) (.ref p) rfl ok' e (.lst (.inl ⟨.inr rfl, upd_same⟩) (r.ext ok e))
theorem Ends1.tup {ds : List D} {vs : List V} (h : Ends1 G w (.tup ds) Q) (ok : WOk G w) (r : Reps G w ds vs) : ∀ p, w.H p = none → Q (.ref p) (upd w.H p (.tup vs)) := fun p hp => by
  obtain ⟨ok', e⟩ := new_frozen (o := .tup vs) ok hp
  exact h (w.put p (.tup vs)) (.ref p) rfl ok' e (.tup (.inl (.inl upd_same)) (r.ext ok e))

theorem list_cat {pins : List (Addr × Obj)} {σ : L2.St} {H : Hp} {s : Shared} {l b : Addr} {xs zs : List V} {Q : VK} (I : Inv X pins σ H s) (h1 : SqL X.K H l xs) (h2 : SqL X.K H b zs) (hz : xs.length + zs.length ≤ sizeLine)
    (q : ∀ p, H p = none → Q (.ref p) (upd H p (.lst (xs ++ zs)))) : wpAny (model X.prog X.w) X.A (binaryOp .Add (.ref l) (.ref b)) (EP X pins σ Q) X.xe s := by
  obtain ⟨its, r, ⟨⟨cls, dd, data, sl⟩, n, ho, hc, hd0, hd⟩, _⟩ := I.list h1
  obtain ⟨its2, r2, ⟨⟨cls2, dd2, data2, sl2⟩, n2, ho2, hc2, hd02, hd2⟩, _⟩ := I.list h2
  simp only at hc hd0 hd hc2 hd02 hd2
  subst hc hd0 hd hc2 hd02 hd2
  have e : its.toArray ++ its2.toArray = (its ++ its2).toArray := by simp
  have l1 := r.length
  have l2 := r2.length
  refine concat_meets ⟨_, ho, rfl⟩ ⟨_, ho2, rfl⟩ noFill_list_add seq_list_add PySem.F.slot_list_add PySem.F.entry_list_add (PySem.F.args_list_add_2 _ _) (list_addW l b its.toArray its2.toArray n n2 none none sl sl2 (by simp; omega)) ⟨ho, ho2, ?_⟩
  rw [e]
  exact ⟨.ref _, _, I.lnew (t' := s.toks) (r.append r2) (by rw [List.length_append]; omega), rfl, q _ I.fresh⟩

theorem sqm_at {pins : List (Addr × Obj)} {σ : L2.St} {H : Hp} {s : Shared} {l : Addr} {xs : List V} (I : Inv X pins σ H s) (h : SqM X.K H l xs) : ∃ (its : List Value) (n : Nat), Vals xs its ∧ s.heap.get? l = some { cls := .type "list", data := .seq its.toArray n } := by
  rcases h with h | ⟨o, its, n, h1, h2, h3, h4, h5, h6, h7⟩
  · obtain ⟨z, its, n, r, e⟩ := L2.Rd.ok (u := .lst xs) h I.hok
    exact ⟨its, n, r, e⟩
  · obtain ⟨oc, od, oda, osl⟩ := o
    simp only at h2 h3 h4 h7
    subst h2 h3 h4 h7
    exact ⟨its.toList, n, h6, by rw [I.kIn l _ h1]⟩
theorem rep_flat (ys : List Value) (m : Nat) : List.foldl (fun x1 x2 => x1 ++ x2) #[] (List.replicate (if ys.toArray.isEmpty = true then 0 else m) ys.toArray) = (List.replicate m ys).flatten.toArray := by
  have all : ∀ c : Nat, List.foldl (fun x1 x2 => x1 ++ x2) #[] (List.replicate c ys.toArray) = (List.replicate c ys).flatten.toArray := fun c => by
    have z := foldl_rep ys c []
    rwa [List.nil_append] at z
  rw [all]
  cases ys with
  | nil => simp
  | cons y ys => rw [if_neg (by simp)]
theorem list_rep {pins : List (Addr × Obj)} {σ : L2.St} {H : Hp} {s : Shared} {p0 : Addr} {xs : List V} {m : Int} {tk : Tok} {Q : VK} (I : Inv X pins σ H s) (h1 : SqM X.K H p0 xs) (h0 : 0 ≤ m) (h2 : m ≤ 1000) (hz : xs.length ≤ 1000)
    (q : ∀ p, H p = none → Q (.ref p) (upd H p (.lst (List.replicate m.toNat xs).flatten))) : wpAny (model X.prog X.w) X.A (binaryOp .Mult (.ref p0) (.int m tk)) (EP X pins σ Q) X.xe s := by
  obtain ⟨ys, c, ry, ey⟩ := sqm_at I h1
  have room : xs.length * m.toNat ≤ sizeLine := Nat.le_trans (Nat.mul_le_mul hz (show m.toNat ≤ 1000 by omega)) (by decide)
  have room2 : ys.toArray.size * m.toNat ≤ sizeLine := by
    rw [List.size_toArray, ← ry.length]
    exact room
  have c1 : ¬(!Builtin.List.listFitsIndex m) = true := by
    rw [fitsIndex_both (by omega) (by omega)]
    exact Bool.false_ne_true
  have c2 : ¬ys.toArray.size * m.toNat > (2 ^ 63 - 1) / 8 := fun z => by
    have hs : (sizeLine : Nat) ≤ (2 ^ 63 - 1) / 8 := by decide
    exact absurd (Nat.le_trans room2 hs) (Nat.not_le_of_gt z)
  have c3 : ¬Builtin.List.listTooLong (ys.toArray.size * m.toNat) = true := by
    rw [notLongL room2]
    exact Bool.false_ne_true
  have fin : EP X pins σ Q (.ref s.heap.objs.size) { s with heap := s.heap.push { cls := .type "list", data := .seq (List.foldl (fun x1 x2 => x1 ++ x2) #[] (List.replicate (if ys.toArray.isEmpty = true then 0 else m.toNat) ys.toArray)) }, toks := s.toks } := by
    rw [rep_flat]
    exact ⟨.ref _, _, I.lnew (t' := s.toks) (ry.rep m.toNat) (by rw [PyProof.Rows.lm_len_rep_flat, Nat.mul_comm]; exact room), rfl, q _ I.fresh⟩
  exact wpAny_binaryOp_repeat_ref (T := "list") (U := "int") (by decide) ⟨_, ey, rfl⟩ (fun s' => typeIs_int s' m tk) noFill_list_mul F.fills_int_mul F.slot_int_rmul repeat_list F.slot_int_index.lookup
    (call_meets F.slot_int_rmul (typeIs_int s m tk) F.entry_int_rmul (F.args_int_rmul_2 _ _) (int___rmul___int_list m tk p0 ys.toArray c) ⟨ey, rfl, ⟨_, ey, rfl⟩, call_meets F.slot_list_mul ⟨_, ey, rfl⟩ F.entry_list_mul (F.args_list_mul_2 _ _)
      (AutoListH.list___mul___list_int_3 p0 ys.toArray c m tk c1 c2 c3) ⟨ey, fin⟩⟩)
theorem mul_okS {x : Str} {n : Int} (h0 : 0 ≤ n) (h1 : n ≤ 1000) (h2 : x.length ≤ 1000) : PySem.MulOk x n := by
  have hm : x.length * n.toNat ≤ 1000 * 1000 := Nat.mul_le_mul h2 (show n.toNat ≤ 1000 by omega)
  refine ⟨by rw [Bool.or_eq_false_iff]; exact ⟨decide_eq_false (by omega), decide_eq_false (by omega)⟩, fun hn _ => ?_, fun _ _ => ?_⟩
  · intro z
    have z2 : (2 ^ 63 - 1) / n < 1001 := by omega
    have z3 : (2 ^ 63 - 1 : Int) / 1000 ≤ (2 ^ 63 - 1) / n := by
      apply Int.le_ediv_of_mul_le (by omega)
      calc (2 ^ 63 - 1 : Int) / 1000 * n ≤ (2 ^ 63 - 1 : Int) / 1000 * 1000 := Int.mul_le_mul_of_nonneg_left h1 (by decide)
        _ ≤ 2 ^ 63 - 1 := by decide
    have z4 : (1001 : Int) ≤ (2 ^ 63 - 1) / 1000 := by decide
    omega
  · unfold Builtin.Str.tooLong
    simp only [decide_eq_false_iff_not, Nat.not_lt]
    exact Nat.le_trans hm (by decide)
theorem Reps.rep {ds : List D} {vs : List V} (r : Reps G w ds vs) : ∀ n : Nat, Reps G w (List.replicate n ds).flatten (List.replicate n vs).flatten
  | 0 => .nil
  | n + 1 => by
    rw [List.replicate_succ, List.replicate_succ, List.flatten_cons, List.flatten_cons]
    exact r.append (Reps.rep r n)
/-- a two-place operation on data -/
def rB (G : Gm) (op : BOp) : R2 := fun x y H Q => ∃ w d1 d2 d3, w.H = H ∧ WOk G w ∧ Vw G w d1 x ∧ Vw G w d2 y ∧ opB op d1 d2 = some d3 ∧ Ends1 G w d3 Q
theorem lim_size : LIM = sizeLine := by decide
theorem opB_ok (hK : X.K = G.K) (op : BOp) : OpR X (binaryOp (bop op)) (rB G op) := by
  intro pins s σ H x y v u Q I rx ry h
  obtain ⟨w, d1, d2, d3, rfl, ok, v1, v2, e, k⟩ := h
  unfold opB at e
  split at e
  · cases e; cases v1; cases v2
    exact op_add pins s σ _ _ _ v u Q I rx ry ⟨_, _, rfl, rfl, k.here ok (.int _)⟩
  · split at e
    · rename_i hz
      cases e; cases v1; cases v2
      refine op_add_str pins s σ _ _ _ v u Q I rx ry ⟨_, _, rfl, rfl, hz, k.here ok (.str _ ?_)⟩
      exact Nat.le_trans (Nat.le_of_eq (PySem.Str.length_append _ _)) hz
    · cases e
  · split at e
    · rename_i hz
      cases e
      cases v1 with | lst h1 r1 =>
      cases v2 with | lst h2 r2 =>
      cases rx; cases ry
      rw [← hK] at h1 h2
      exact list_cat I h1.sq h2.sq (by rw [← r1.length, ← r2.length]; exact hz) (k.lst ok (r1.append r2))
    · cases e
  · split at e
    · rename_i hz
      cases e
      cases v1 with | tup h1 r1 =>
      cases v2 with | tup h2 r2 =>
      have hz' := hz
      rw [r1.length, r2.length] at hz'
      have h1' := h1
      have h2' := h2
      rw [← hK] at h1' h2'
      refine op_catA pins s σ _ _ _ v u Q I rx ry ⟨_, _, _, _, rfl, rfl, h1', h2', hz', fun e0 => ?_, fun _ e0 => ?_, fun _ _ => k.tup ok (r1.append r2)⟩
      · subst e0
        cases r1
        exact k.here ok (.tup h2 r2)
      · subst e0
        cases r2
        refine k.here ok ?_
        rw [List.append_nil]
        exact .tup h1 r1
    · cases e
  · cases e; cases v1; cases v2
    exact op_sub pins s σ _ _ _ v u Q I rx ry ⟨_, _, rfl, rfl, k.here ok (.int _)⟩
  · split at e
    · rename_i hz
      cases e; cases v1; cases v2
      refine op_mul pins s σ _ _ _ v u Q I rx ry ⟨_, _, rfl, rfl, ?_, k.here ok (.int _)⟩
      rw [Bool.or_eq_true, decide_eq_true_eq, decide_eq_true_eq] at hz
      unfold CMul
      omega
    · cases e
  · split at e
    · rename_i x n hz
      cases e; cases v1; cases v2
      simp only [Bool.and_eq_true, decide_eq_true_eq] at hz
      obtain ⟨⟨z1, z2⟩, z3⟩ := hz
      obtain ⟨t, rfl⟩ := rx
      obtain ⟨t', rfl⟩ := ry
      have hln : (Txt.mul x n).length ≤ sizeLine := by
        have e := PyProof.Rows.len_mul x n
        rw [if_neg (by simpa using z1)] at e
        have : (x.length : Int) * n ≤ 1000 * 1000 := Int.mul_le_mul (by omega) z2 z1 (by decide)
        have hs : (sizeLine : Nat) = 16777216 := sizeLine_eq
        omega
      refine PySem.SB.mul (mul_okS z1 z2 z3) fun t' tk => ⟨.str _, _, I.tok _, ⟨_, rfl⟩, k.here ok (.str _ hln)⟩
    · cases e
  · split at e
    · rename_i ds n hz
      cases e
      cases v1 with | lst h1 r1 =>
      cases v2
      simp only [Bool.and_eq_true, decide_eq_true_eq] at hz
      obtain ⟨⟨z1, z2⟩, z3⟩ := hz
      cases rx
      obtain ⟨t', rfl⟩ := ry
      rw [← hK] at h1
      exact list_rep I h1 z1 z2 (by rw [← r1.length]; exact z3) (k.lst ok (r1.rep n.toNat))
    · cases e
  · split at e
    · rename_i hz
      cases e; cases v1; cases v2
      rw [Bool.and_eq_true, decide_eq_true_eq, decide_eq_true_eq] at hz
      exact op_fdivW pins s σ _ _ _ v u Q I rx ry ⟨_, _, rfl, rfl, wide_div hz.1 hz.2 (by decide) (by decide), k.here ok (.int _)⟩
    · cases e
  · split at e
    · rename_i hz
      cases e; cases v1; cases v2
      exact op_mod pins s σ _ _ _ v u Q I rx ry ⟨_, _, rfl, rfl, hz, k.here ok (.int _)⟩
    · cases e
  · split at e
    · rename_i hz
      cases e; cases v1; cases v2
      refine op_pow pins s σ _ _ _ v u Q I rx ry ⟨_, _, rfl, rfl, ?_, k.here ok (.int _)⟩
      simp only [Bool.and_eq_true, decide_eq_true_eq] at hz
      unfold CPow
      omega
    · cases e
  · cases e

/-! ### comparisons -/
mutual
theorem Rep.dp : ∀ {d : D} {v : V} {p : PyData}, Rep G w d v → py d = some p → Dp G.K w.H v p
  | .non, _, _, .non, e => by simp only [py] at e; cases e; exact .non
  | .bl b, _, _, .bl _, e => by simp only [py] at e; cases e; exact .bl b
  | .int i, _, _, .int _, e => by simp only [py] at e; cases e; exact .int i
  | .str x, _, _, .str _ _, e => by simp only [py] at e; cases e; exact .str x
  | .tup ds, _, _, .tup h r, e => by
    simp only [py] at e
    obtain ⟨ps, h1, h2⟩ := Option.map_eq_some_iff.mp e
    subst h2
    exact .tup h (Reps.dp r h1)
  | .lst ds, _, _, .lst h r, e => by
    simp only [py] at e
    obtain ⟨ps, h1, h2⟩ := Option.map_eq_some_iff.mp e
    subst h2
    exact .lst h.sq (Reps.dp r h1)
  | .dk _, _, _, _, e => by simp only [py] at e; cases e
  | .dt _, _, _, _, e => by simp only [py] at e; cases e
  | .ins _ _, _, _, _, e => by simp only [py] at e; cases e
  | .cell _, _, _, _, e => by simp only [py] at e; cases e
theorem Reps.dp : ∀ {ds : List D} {vs : List V} {ps : List PyData}, Reps G w ds vs → pys ds = some ps → DpAll G.K w.H vs ps
  | [], _, _, .nil, e => by simp only [pys] at e; cases e; exact .nil
  | d :: ds, _, _, .cons h r, e => by
    simp only [pys] at e
    cases h1 : py d with
    | none => rw [h1] at e; cases e
    | some x => cases h2 : pys ds with
      | none => rw [h1, h2] at e; cases e
      | some xs =>
        rw [h1, h2] at e
        cases e
        exact .cons (Rep.dp h h1) (Reps.dp r h2)
end
theorem Vw.dp {d : D} {v : V} {p : PyData} (h : Vw G w d v) (e : py d = some p) : Dp G.K w.H v p := by
  cases h with
  | non => simp only [py] at e; cases e; exact .non
  | bl b => simp only [py] at e; cases e; exact .bl b
  | int i => simp only [py] at e; cases e; exact .int i
  | str x _ => simp only [py] at e; cases e; exact .str x
  | tup h r =>
    simp only [py] at e
    obtain ⟨ps, h1, h2⟩ := Option.map_eq_some_iff.mp e
    subst h2
    exact .tup h (Reps.dp r h1)
  | lst h r =>
    simp only [py] at e
    obtain ⟨ps, h1, h2⟩ := Option.map_eq_some_iff.mp e
    subst h2
    exact .lst h.sq (Reps.dp r h1)
  | dk _ _ => simp only [py] at e; cases e
  | dt _ _ => simp only [py] at e; cases e
  | ins _ _ _ => simp only [py] at e; cases e
  | cell _ _ => simp only [py] at e; cases e
theorem eqD_some {a b : D} {r : Bool} (h : eqD a b = some r) : ∃ x y, py a = some x ∧ py b = some y ∧ SeqAt.shaped x = true ∧ SeqAt.shaped y = true ∧ r = PyData.eqv x y := by
  unfold eqD at h
  split at h
  · rename_i x y h1 h2
    split at h
    · rename_i hs
      rw [Bool.and_eq_true] at hs
      cases h
      exact ⟨x, y, h1, h2, hs.1, hs.2, rfl⟩
    · cases h
  · cases h
theorem ints_reps : ∀ {ds : List D} {vs : List V} {ns : List Int}, Reps G w ds vs → intsD ds = some ns → vs = ns.map V.int
  | [], _, _, .nil, e => by simp only [intsD] at e; cases e; rfl
  | .int i :: ds, _, _, .cons h r, e => by
    simp only [intsD] at e
    obtain ⟨ps, h1, h2⟩ := Option.map_eq_some_iff.mp e
    subst h2
    cases h
    rw [List.map_cons, ints_reps r h1]
  | .non :: _, _, _, _, e => by simp only [intsD] at e; cases e
  | .bl _ :: _, _, _, _, e => by simp only [intsD] at e; cases e
  | .str _ :: _, _, _, _, e => by simp only [intsD] at e; cases e
  | .tup _ :: _, _, _, _, e => by simp only [intsD] at e; cases e
  | .lst _ :: _, _, _, _, e => by simp only [intsD] at e; cases e
  | .dk _ :: _, _, _, _, e => by simp only [intsD] at e; cases e
  | .dt _ :: _, _, _, _, e => by simp only [intsD] at e; cases e
  | .ins _ _ :: _, _, _, _, e => by simp only [intsD] at e; cases e
  | .cell _ :: _, _, _, _, e => by simp only [intsD] at e; cases e
/-- flat data -/
theorem flat_reps : ∀ {ds : List D} {vs : List V}, Reps G w ds vs → ds.all flatD = true → vs.all flatV = true
  | [], _, .nil, _ => rfl
  | d :: ds, _, .cons h r, e => by
    rw [List.all_cons, Bool.and_eq_true] at e
    rw [List.all_cons, Bool.and_eq_true]
    refine ⟨?_, flat_reps r e.2⟩
    cases h <;> first | rfl | exact absurd e.1 (by simp [flatD])
theorem any_int {i : Int} : ∀ {ds : List D} {vs : List V}, Reps G w ds vs → ds.all flatD = true →
    (vs.any fun y => eqV y (.int i)) = ds.any (eqI i)
  | [], _, .nil, _ => rfl
  | d :: ds, _, .cons h r, e => by
    rw [List.all_cons, Bool.and_eq_true] at e
    rw [List.any_cons, List.any_cons, any_int r e.2]
    congr 1
    cases h <;> first | rfl | (simp only [eqV, eqI]; exact Bool.eq_iff_iff.mpr (by rw [beq_iff_eq, beq_iff_eq]; exact ⟨Eq.symm, Eq.symm⟩)) | exact absurd e.1 (by simp [flatD])
theorem any_str {x : Str} : ∀ {ds : List D} {vs : List V}, Reps G w ds vs → ds.all flatD = true →
    (vs.any fun y => eqV y (.str x)) = ds.any (eqS x)
  | [], _, .nil, _ => rfl
  | d :: ds, _, .cons h r, e => by
    rw [List.all_cons, Bool.and_eq_true] at e
    rw [List.any_cons, List.any_cons, any_str r e.2]
    congr 1
    cases h <;> first | rfl | (simp only [eqV, eqS]; exact Bool.eq_iff_iff.mpr (by rw [beq_iff_eq, beq_iff_eq]; exact ⟨Eq.symm, Eq.symm⟩)) | exact absurd e.1 (by simp [flatD])
/-- in -/
def rInB (G : Gm) (neg : Bool) : R2 := fun x y H Q => ∃ w d1 d2 b, w.H = H ∧ WOk G w ∧ Vw G w d1 x ∧ Vw G w d2 y ∧ isIn d1 d2 = some b ∧ Q (.bl (if neg then !b else b)) H
theorem isIn_ok (hK : X.K = G.K) (hu : X.A.units + 65 < cLine) (neg : Bool) : OpR X (compareOp (if neg then .NotIn else .In)) (rInB G neg) := by
  intro pins s σ H x y v u Q I rx ry h
  obtain ⟨w, d1, d2, b, rfl, ok, v1, v2, e, k⟩ := h
  unfold isIn at e
  split at e
  · rename_i ds
    split at e
    · rename_i p ps h1 h2
      split at e
      · rename_i hs
        rw [Bool.and_eq_true] at hs
        cases e
        have q1 := v1.dp h1
        have q2 := v2.dp (p := .list ps) (by simp only [py, h2]; rfl)
        rw [← hK] at q1 q2
        cases neg with
        | true => exact op_notInD hu pins s σ _ _ _ v u Q I rx ry ⟨_, _, q1, q2, hs.1, hs.2, k⟩
        | false => exact op_inD hu pins s σ _ _ _ v u Q I rx ry ⟨_, _, q1, q2, hs.1, hs.2, k⟩
      · cases e
    · cases e
  · rename_i ds
    split at e
    · rename_i i hf
      cases e
      cases v1
      cases v2 with | tup h2 r2 =>
      rw [← hK] at h2
      have hn : inV (.int i) _ = _ := any_int (i := i) r2 hf
      rw [← hn] at k
      cases neg with
      | true => exact op_notIn_seq pins s σ _ _ _ v u Q I rx ry ⟨_, _, rfl, .inr h2, rfl, flat_reps r2 hf, k⟩
      | false => exact op_in_seq pins s σ _ _ _ v u Q I rx ry ⟨_, _, rfl, .inr h2, rfl, flat_reps r2 hf, k⟩
    · rename_i z hf
      cases e
      cases v1
      cases v2 with | tup h2 r2 =>
      rw [← hK] at h2
      have hn : inV (.str z) _ = _ := any_str (x := z) r2 hf
      rw [← hn] at k
      cases neg with
      | true => exact op_notIn_seq pins s σ _ _ _ v u Q I rx ry ⟨_, _, rfl, .inr h2, rfl, flat_reps r2 hf, k⟩
      | false => exact op_in_seq pins s σ _ _ _ v u Q I rx ry ⟨_, _, rfl, .inr h2, rfl, flat_reps r2 hf, k⟩
    · cases e
  · split at e
    · cases e
      cases v1; cases v2
      cases neg with
      | true => exact op_notIn_str pins s σ _ _ _ v u Q I rx ry ⟨_, _, rfl, rfl, k⟩
      | false => exact op_in_str pins s σ _ _ _ v u Q I rx ry ⟨_, _, rfl, rfl, k⟩
    · cases e
  · cases e
def rC (G : Gm) (op : COp) : R2 := fun x y H Q => ∃ w d1 d2 b, w.H = H ∧ WOk G w ∧ Vw G w d1 x ∧ Vw G w d2 y ∧ opC op d1 d2 = some b ∧ Q (.bl b) H
theorem opC_ok (hK : X.K = G.K) (hu : X.A.units + 65 < cLine) (op : COp) : OpR X (compareOp (cop op)) (rC G op) := by
  intro pins s σ H x y v u Q I rx ry h
  obtain ⟨w, d1, d2, b, rfl, ok, v1, v2, e, k⟩ := h
  unfold opC at e
  split at e
  · obtain ⟨p, q, h1, h2, s1, s2, rfl⟩ := eqD_some e
    have q1 := v1.dp h1
    have q2 := v2.dp h2
    rw [← hK] at q1 q2
    exact op_eqD (by omega) pins s σ _ _ _ v u Q I rx ry ⟨_, _, q1, q2, s1, s2, k⟩
  · obtain ⟨r, hr, rfl⟩ := Option.map_eq_some_iff.mp e
    obtain ⟨p, q, h1, h2, s1, s2, rfl⟩ := eqD_some hr
    have q1 := v1.dp h1
    have q2 := v2.dp h2
    rw [← hK] at q1 q2
    exact op_neD (by omega) pins s σ _ _ _ v u Q I rx ry ⟨_, _, q1, q2, s1, s2, k⟩
  · cases e; cases v1; cases v2
    exact op_lt pins s σ _ _ _ v u Q I rx ry ⟨_, _, rfl, rfl, k⟩
  · cases e; cases v1; cases v2
    exact op_le pins s σ _ _ _ v u Q I rx ry ⟨_, _, rfl, rfl, k⟩
  · cases e; cases v1; cases v2
    exact op_gt pins s σ _ _ _ v u Q I rx ry ⟨_, _, rfl, rfl, k⟩
  · cases e; cases v1; cases v2
    exact op_ge pins s σ _ _ _ v u Q I rx ry ⟨_, _, rfl, rfl, k⟩
  · cases e; cases v1; cases v2
    exact op_lt_str pins s σ _ _ _ v u Q I rx ry ⟨_, _, rfl, rfl, k⟩
  · cases e; cases v1; cases v2
    exact op_leS pins s σ _ _ _ v u Q I rx ry ⟨_, _, rfl, rfl, k⟩
  · cases e; cases v1; cases v2
    exact op_gtS pins s σ _ _ _ v u Q I rx ry ⟨_, _, rfl, rfl, k⟩
  · cases e; cases v1; cases v2
    exact op_geS pins s σ _ _ _ v u Q I rx ry ⟨_, _, rfl, rfl, k⟩
  · split at e
    · rename_i n1 n2 h1 h2
      cases e
      cases v1 with | tup q1 r1 =>
      cases v2 with | tup q2 r2 =>
      rw [ints_reps r1 h1, ← hK] at q1
      rw [ints_reps r2 h2, ← hK] at q2
      exact op_ltT (by omega) pins s σ _ _ _ v u Q I rx ry ⟨_, _, _, _, rfl, rfl, q1, q2, k⟩
    · cases e
  · cases e
    cases v2
    refine op_isN pins s σ _ _ _ v u Q I rx ry ⟨rfl, ?_⟩
    have e : decide (x = V.non) = isNon d1 := by
      cases v1 <;> rfl
    rw [e]
    exact k
  · cases e
    cases v2
    refine op_notN pins s σ _ _ _ v u Q I rx ry ⟨rfl, ?_⟩
    have e : (!decide (x = V.non)) = !isNon d1 := by
      cases v1 <;> rfl
    rw [e]
    exact k
  · exact isIn_ok hK hu false pins s σ _ _ _ v u Q I rx ry ⟨w, _, _, b, rfl, ok, v1, v2, e, k⟩
  · obtain ⟨r, hr, rfl⟩ := Option.map_eq_some_iff.mp e
    exact isIn_ok hK hu true pins s σ _ _ _ v u Q I rx ry ⟨w, _, _, r, rfl, ok, v1, v2, hr, k⟩
  · cases e
end
end Rf
set_option Elab.async false
set_option linter.all false
set_option maxRecDepth 100000
set_option maxHeartbeats 2000000
/-! G5b: sorted -/
namespace Rf
open PySem L2 PySem.Spec PyProof.Rows
/-! ### sorted(xs) of a list or a tuple, by what list.sort does -/
section
variable {prog : Program} {w : World} {A : Around} {E : Value → Shared → Prop} {s : Shared}
theorem sorted_via {t : Addr} {T : String} {o : Obj} {vs : List Value} {n : Nat} {Q : Value → Shared → Prop} {Good : List Value → Prop} (hT : T = "list" ∨ T = "tuple") (ho : s.heap.get? t = some o) (hc : o.cls = .type T) (hd : o.data = .seq vs.toArray n) (hL : vs.length ≤ sizeLine)
    (hs : ∀ (A' : Around) (E' : Value → Shared → Prop) (h1 : Heap) (l : Addr) (P : PySem.Fin → Shared → Prop), (∀ b u, s.heap.get? b = some u → h1.get? b = some u) → h1.get? l = some (seqObj "list" vs.toArray 0) →
      (∀ out : Array Value, Good out.toList → P (.done (.ret .none)) { s with heap := sortedHeap h1 l vs out }) → wpAny (model prog w) A' (Builtin.«list.sort» ⟨[.ref l], []⟩) P E' { s with heap := h1 })
    (h : ∀ (h1 h2 : Heap) (ep : Nat) (out : Array Value), Good out.toList → (∀ b u, s.heap.get? b = some u → h1.get? b = some u) → (∀ b u, h1.get? b = some u → h2.get? b = some u) → h2.get? h1.objs.size = some (seqObj "list" out ep) → Q (.ref h1.objs.size) { s with heap := h2 }) :
    wpAny (model prog w) A (call (.builtin "sorted") [.ref t]) Q E s := by
  refine Calls.call_function_entry kind_sorted plain_sorted entry_sorted (args_sorted1 _) ?_
  unfold Builtin.«sorted»
  refine wpAny_bind (m := checkCount "sorted" 1 1 _) (wpAny_pure ?_)
  refine wpAny_bind (wpAny_collect_seq t hT ho hc hd (fun h' hk => ?_) (by rw [List.size_toArray]; exact hL))
  refine wpAny_bind (wpAny_newList ?_ (by simpa using hL))
  have ht : vs.toArray.toList = vs := List.toList_toArray
  rw [ht]
  have hat : (h'.push (seqObj "list" vs.toArray 0)).get? h'.objs.size = some (seqObj "list" vs.toArray 0) := Heap.get?_push_size _ rfl
  have kp : ∀ b u, s.heap.get? b = some u → (h'.push (seqObj "list" vs.toArray 0)).get? b = some u := fun b u e => Heap.get?_push_of_some _ (hk b u e)
  refine wpAny_bind (wpAny_holding (wpAny_call_entry slot_list_sort ⟨_, hat, rfl⟩ entry_list_sort (hs _ _ _ _ _ kp hat fun out hg => ⟨_, rfl, wpAny_pure ?_⟩) (args_list_sort _)))
  obtain ⟨ep, he⟩ := sortedHeap_at (out := out) hat
  refine ⟨_, rfl, h h' _ ep out hg hk (fun b u e => ?_) he⟩
  rw [sortedHeap_old (Nat.ne_of_lt (Heap.lt_size e)) (Heap.lt_size (Heap.get?_push_of_some (seqObj "list" vs.toArray 0) e))]
  exact Heap.get?_push_of_some _ e
end
section
variable {X : Cx}
/-- sorted(xs), ints: a list or a tuple -/
def rSortI (K : PySem.W.Frag) : List V → Hp → VK → Prop := fun vs H Q => ∃ (a : Addr) (ns : List Int), vs = [V.ref a] ∧ (SqL K H a (ns.map V.int) ∨ SqT K H a (ns.map V.int)) ∧ ∀ p : Addr, H p = none → Q (.ref p) (upd H p (.lst ((isort ns).map V.int)))
theorem cr_sortI : CallR X (.builtin "sorted") (rSortI X.K) := by
  intro pins s σ H vs us Q I r h
  obtain ⟨a, ns, rfl, hs, q⟩ := h
  have key : ∀ (T : String) (o : Obj) (its : List Value) (n : Nat), (T = "list" ∨ T = "tuple") → Vals (ns.map V.int) its → its.length ≤ sizeLine → s.heap.get? a = some o → o.cls = .type T → o.data = .seq its.toArray n → wpAny (model X.prog X.w) X.A (call (.builtin "sorted") us) (EP X pins σ Q) X.xe s := fun T o its n hT rv hz ho hc hd => by
    rw [Vals.ref1 r]
    have hi := rv.ints
    refine sorted_via (Good := fun out => ∃ ns', IntsAre out ns' ∧ ns'.Perm ns ∧ ns'.Pairwise (· ≤ ·)) hT ho hc hd hz (fun A' E' h1 l P kp hl hP => ?_) fun h1 h2 ep out ⟨ns', g1, g2, g3⟩ k1 k2 he => ?_
    · exact list_sort_treeAny (s := { s with heap := h1 }) hl hi hz fun out ns' a1 a2 a3 => hP out ⟨ns', a1, a2, a3⟩
    · have e : ns' = isort ns := isort_is g2 g3
      subst e
      have hlen : ((isort ns).map V.int).length ≤ sizeLine := by
        rw [List.length_map, (isort_perm ns).length_eq, ← hi.length]
        exact hz
      have I1 : Inv X pins σ H { s with heap := h1 } := I.kept (t' := s.toks) k1
      exact ⟨.ref h1.objs.size, upd H h1.objs.size (.lst ((isort ns).map V.int)), I1.laid (t' := s.toks) k2 (Nat.le_refl _) ⟨hlen, out.toList, ep, vals_of_ints g1, by rw [Array.toArray_toList]; exact he⟩, rfl, q _ (I1.hok.fresh (Nat.le_refl _))⟩
  rcases hs with hs | hs
  · obtain ⟨its, rv, hl, hz⟩ := I.list hs
    have hln := rv.length
    obtain ⟨o, ho, hc, n, hd⟩ := hl.isList
    exact key "list" o its n (.inl rfl) rv (by omega) ho hc hd
  · obtain ⟨its, rv, ⟨o, ho, hc, n, hd⟩, hz⟩ := I.tuple hs
    have hln := rv.length
    exact key "tuple" o its n (.inr rfl) rv (by omega) ho hc hd
end
/-! ### sorted(x), x a text -/
theorem rising_sg : ∀ {l : List Nat} {p : Nat}, risingS (sg p) (l.map sg) = true → (p :: l).Pairwise (· ≤ ·)
  | [], p, _ => by simp
  | c :: l, p, h => by
    unfold risingS at h
    rw [List.map_cons] at h
    simp only [Bool.and_eq_true, Bool.not_eq_true'] at h
    have h2 := rising_sg h.2
    have h1 : p ≤ c := by
      have e := h.1
      simp [sg, ltCps] at e
      omega
    rw [List.pairwise_cons]
    refine ⟨fun x hx => ?_, h2⟩
    rcases List.mem_cons.mp hx with q | q
    · rw [q]; exact h1
    · exact Nat.le_trans h1 ((List.pairwise_cons.mp h2).1 x q)
theorem sorted_sg {l : List Nat} (h : sortedS (l.map sg) = true) : l.Pairwise (· ≤ ·) := by
  cases l with
  | nil => exact .nil
  | cons c l => exact rising_sg h
theorem items_strs {x : Str} {acc : List Value} (h : ItemsOf (SignAt x) acc.toArray x.cps.size) : StrsAre acc (x.cps.toList.map sg) := by
  have key : ∀ (l : List Nat) (us : List Value), us.length = l.length → (∀ (j : Nat) (v : Value), us[j]? = some v → ∃ c t, l[j]? = some c ∧ v = .str ⟨#[c]⟩ t) → StrsAre us (l.map sg) := by
    intro l
    induction l with
    | nil => intro us e _; cases us with
      | nil => exact .nil
      | cons _ _ => cases e
    | cons c l ih => intro us e h; cases us with
      | nil => cases e
      | cons u us =>
        obtain ⟨c', t, h1, h2⟩ := h 0 u rfl
        cases h1
        subst h2
        exact .cons _ t (ih us (by simpa using e) fun j v hj => h (j + 1) v hj)
  refine key _ _ ?_ fun j v hj => ?_
  · have e := h.1
    rw [List.size_toArray] at e
    rw [e, Array.length_toList]
  · obtain ⟨c, k, h1, h2⟩ := h.2 j v (by simpa using hj)
    exact ⟨c, k, by rw [Array.getElem?_toList]; exact h1, h2⟩
section
variable {X : Cx}
theorem cr_sortT (hc : X.calm = true) : CallR X (.builtin "sorted") (fun vs H Q => ∃ x : Str, vs = [V.str x] ∧ x.length ≤ sizeLine ∧ ∀ p : Addr, H p = none → Q (.ref p) (upd H p (.lst ((csort x.cps.toList).map fun c => V.str ⟨#[c]⟩)))) := by
  intro pins s σ H vs us Q I r h
  obtain ⟨x, rfl, hz, q⟩ := h
  obtain ⟨u, rfl, t, rfl⟩ := vals1 r
  refine Calls.call_function_entry kind_sorted plain_sorted entry_sorted (args_sorted1 _) ?_
  unfold Builtin.«sorted»
  refine wpAny_bind (m := checkCount "sorted" 1 1 _) (wpAny_pure ?_)
  refine wpAny_bind (wpAny_collect_str (show X.A.in1.handled = none from I.ok.hd hc) x t (fun s' acc hk hg hdr ho hacc => ?_) hz)
  obtain ⟨h', g2, d', tk', os'⟩ := s'
  subst hg hdr ho
  have hS := items_strs (acc := acc.toList) (by rw [Array.toArray_toList]; exact hacc)
  have hL : acc.toList.length ≤ sizeLine := by
    rw [Array.length_toList, hacc.1]
    exact hz
  refine wpAny_bind (wpAny_newList ?_ (by simpa using hL))
  have hat : (h'.push (seqObj "list" acc.toList.toArray 0)).get? h'.objs.size = some (seqObj "list" acc.toList.toArray 0) := Heap.get?_push_size _ rfl
  have kp : ∀ b u, s.heap.get? b = some u → (h'.push (seqObj "list" acc.toList.toArray 0)).get? b = some u := fun b u e => Heap.get?_push_of_some _ (hk b u e)
  refine wpAny_bind (wpAny_holding (wpAny_call_entry slot_list_sort ⟨_, hat, rfl⟩ entry_list_sort (list_sort_treeKAny strKind_oneLt hat hS.keysOf (fun v₁ v₂ rest e => keyKind_strs (by rw [← e]; exact hS)) hL fun st' hp hs => ⟨_, rfl, ?_⟩) (args_list_sort _)))
  refine wpAny_pure ⟨_, rfl, ?_⟩
  obtain ⟨ss', g1, g2, g3⟩ := sorted_out_str hS hp hs
  obtain ⟨e1, e2⟩ := signs_perm g2
  rw [e1] at g1 g3
  have e3 := csort_is e2 (sorted_sg g3)
  rw [e3] at g1
  obtain ⟨ep, he⟩ := sortedHeap_at (out := (arrOf st').map (·.2)) hat
  have k2 : ∀ b u, h'.get? b = some u → (sortedHeap (h'.push (seqObj "list" acc.toList.toArray 0)) h'.objs.size acc.toList ((arrOf st').map (·.2))).get? b = some u := fun b u e => by
    rw [sortedHeap_old (Nat.ne_of_lt (Heap.lt_size e)) (Heap.lt_size (Heap.get?_push_of_some (seqObj "list" acc.toList.toArray 0) e))]
    exact Heap.get?_push_of_some _ e
  have vv : Vals ((csort x.cps.toList).map fun c => V.str ⟨#[c]⟩) ((arrOf st').map (·.2)).toList := by
    have z := vals_of_strs g1
    rw [List.map_map] at z
    exact z
  have hlen : ((csort x.cps.toList).map fun c => V.str ⟨#[c]⟩).length ≤ sizeLine := by
    rw [List.length_map, (csort_perm _).length_eq]
    exact hz
  have I1 : Inv X pins σ H { s with heap := h', toks := tk' } := I.kept (t' := tk') hk
  exact ⟨.ref h'.objs.size, upd H h'.objs.size (.lst ((csort x.cps.toList).map fun c => V.str ⟨#[c]⟩)), I1.laid (t' := tk') k2 (Nat.le_refl _) ⟨hlen, _, ep, vv, by rw [Array.toArray_toList]; exact he⟩, rfl, q _ (I1.hok.fresh (Nat.le_refl _))⟩
end
end Rf
set_option Elab.async false
set_option linter.all false
set_option maxRecDepth 100000
set_option maxHeartbeats 2000000
/-! G6: subscripts, built-in functions, truth, isinstance -/
namespace Rf
open PySem L2 PySem.Spec PyProof.Rows
section
variable {G : Gm} {w : W} {Q : VK} {X : Cx}
theorem atD_rep {ds : List D} {vs : List V} {i : Int} {d : D} (r : Reps G w ds vs) (h : atD ds i = some d) : ∃ v, atI vs i = some v ∧ Rep G w d v := by
  unfold atD L2.atI at h
  unfold L2.atI
  rw [← r.length]
  cases e : ixN ds.length i with
  | none => rw [e] at h; cases h
  | some j =>
    rw [e] at h
    have h' : ds[j]? = some d := h
    obtain ⟨v, h1, h2⟩ := r.get h'
    exact ⟨v, h1, h2⟩
def rSub (G : Gm) : R2 := fun x y H Q => ∃ w d1 d2 d3, w.H = H ∧ WOk G w ∧ Vw G w d1 x ∧ Vw G w d2 y ∧ subD d1 d2 = some d3 ∧ Ends1 G w d3 Q
theorem sub_ok (hK : X.K = G.K) : IxR X (rSub G) := by
  intro value slice pins s σ H x y v u Q I rx ry h hs
  obtain ⟨w, d1, d2, d3, rfl, ok, v1, v2, e, k⟩ := h
  unfold subD at e
  split at e
  · cases v2
    cases v1 with | lst h1 r1 =>
    rw [← hK] at h1
    obtain ⟨z, hz, rz⟩ := atD_rep r1 e
    exact ix_list value slice pins s σ _ _ _ v u Q I rx ry ⟨_, _, _, _, rfl, rfl, h1.sq, hz, k.here ok rz⟩ hs
  · cases v2
    cases v1 with | tup h1 r1 =>
    rw [← hK] at h1
    obtain ⟨z, hz, rz⟩ := atD_rep r1 e
    exact ix_tup value slice pins s σ _ _ _ v u Q I rx ry ⟨_, _, _, _, rfl, rfl, h1, hz, k.here ok rz⟩ hs
  · cases v2
    cases v1 with | str z hz =>
    obtain ⟨c, hc, rfl⟩ := Option.map_eq_some_iff.mp e
    exact ix_str value slice pins s σ _ _ _ v u Q I rx ry ⟨_, _, _, rfl, rfl, hz, hc, k.here ok (.str _ (by show (1 : Nat) ≤ sizeLine; decide))⟩ hs
  · cases e

theorem cut_rep {ds : List D} {vs : List V} (r : Reps G w ds vs) (lo hi : Option Int) : Reps G w (cutD ds lo hi) (cutV vs lo hi) := by
  unfold cutD cutV
  rw [r.length]
  exact (r.drop _).take _
def rSl (G : Gm) : V → Option Int → Option Int → Hp → VK → Prop := fun x lo hi H Q => ∃ w d1 d3, w.H = H ∧ WOk G w ∧ Vw G w d1 x ∧ sliceD d1 lo hi = some d3 ∧ Ends1 G w d3 Q
theorem slice_ok (hK : X.K = G.K) : SlR X (rSl G) := by
  intro pins s σ H x v vl vu lo hi sl Q I rx hs pl pu h
  obtain ⟨w, d1, d3, rfl, ok, v1, e, k⟩ := h
  unfold sliceD at e
  split at e
  · cases e
    cases v1 with | lst h1 r1 =>
    rw [← hK] at h1
    exact sl_list pins s σ _ _ v vl vu lo hi sl Q I rx hs pl pu ⟨_, _, rfl, h1.sq, k.lst ok (cut_rep r1 lo hi)⟩
  · cases e
    cases v1 with | tup h1 r1 =>
    rename_i ds a vs
    have h1' := h1
    rw [← hK] at h1'
    refine sl_tupA pins s σ _ _ v vl vu lo hi sl Q I rx hs pl pu ⟨_, _, rfl, h1', fun hw => ?_, fun _ => k.tup ok (cut_rep r1 lo hi)⟩
    have e1 : cutD ds lo hi = ds := by
      unfold cutD
      rw [r1.length, hw.1, hw.2, List.drop_zero, ← r1.length, Nat.sub_zero, List.take_length]
    rw [e1] at k
    exact k.here ok (.tup h1 r1)
  · cases e
    cases v1 with | str z hz =>
    exact sl_str pins s σ _ _ v vl vu lo hi sl Q I rx hs pl pu ⟨_, rfl, hz, k.here ok (.str _ (Nat.le_trans (cutS_length _ _ _) hz))⟩
  · cases e

/-! ### a[::-1] -/
theorem Reps.rev {ds : List D} {vs : List V} (r : Reps G w ds vs) : Reps G w ds.reverse vs.reverse := by
  have go : ∀ {ds : List D} {vs : List V} {as : List D} {us : List V}, Reps G w ds vs → Reps G w as us → Reps G w (ds.reverse ++ as) (vs.reverse ++ us) := by
    intro ds
    induction ds with
    | nil => intro vs as us r s; cases r; exact s
    | cons d ds ih =>
      intro vs as us r s
      cases r with
      | cons h r =>
        rw [List.reverse_cons, List.reverse_cons, List.append_assoc, List.append_assoc]
        exact ih r (.cons h s)
  have := go r .nil
  rwa [List.append_nil, List.append_nil] at this
theorem vals_rv : ∀ {vs : List V} {us : List Value}, Vals vs us → Vals vs.reverse us.reverse
  | [], _, .nil => .nil
  | v :: vs, _, .cons h r => by
    rw [List.reverse_cons, List.reverse_cons]
    exact (vals_rv r).append (.cons h .nil)
def rRv (G : Gm) : V → Hp → VK → Prop := fun x H Q => ∃ w d1 d3, w.H = H ∧ WOk G w ∧ Vw G w d1 x ∧ revD d1 = some d3 ∧ Ends1 G w d3 Q
/-- xs[::-1] -/
theorem pe_rev {e : Expr} {te : TE} {pos p2 p3 p4 : Pos} {j : Nat} (hK : X.K = G.K) (he : PE X e te) : PE X (.Subscript e (.Slice none none (some (.UnaryOp .USub (.Constant (.int 1) j p3) p4)) p2) pos) (fun σ H Q => te σ H fun x H1 => rRv G x H1 Q) := by
  have hst : PE X (.UnaryOp .USub (.Constant (.int 1) j p3) p4) (tC (.int (-1))) := ⟨fun pins s σ H Q I h => (pe_un un_neg pe_int).run pins s σ H Q I ⟨1, rfl, h⟩⟩
  refine ⟨fun pins s σ H Q I h => ?_⟩
  refine Subscript_ (thn (he.run pins s σ H _ I h) fun v s1 ⟨x, H1, I1, r1, w, d1, d3, e1, ok, v1, hd, k⟩ => ?_)
  subst e1
  cases d1 with
  | lst ds =>
    cases hd
    cases v1 with | lst hq rq =>
    rename_i a vs
    cases r1
    rw [← hK] at hq
    refine wpAny_Slice (wpAny_evalPart_none (wpAny_evalPart_none (wpAny_evalPart_some (thn (hst.run pins s1 σ w.H (fun y H2 => y = .int (-1) ∧ H2 = w.H) I1 ⟨rfl, rfl⟩) fun u s2 ⟨y, H2, I2, ry, ey, eH⟩ => ?_))))
    subst ey eH
    obtain ⟨t, rfl⟩ := ry
    have I3 : Inv X pins σ w.H { s2 with heap := s2.heap.push { cls := .type "slice", data := .fields #[.none, .none, .int (-1) t] } } := I2.kept (t' := s2.toks) fun b ob q => Heap.get?_push_of_some _ q
    obtain ⟨its, rv, hp, hz⟩ := I3.list hq.sq
    have hl := rv.length
    have g : wpAny (model X.prog X.w) X.A (getItem (.ref a) (.ref s2.heap.objs.size)) (EP X pins σ Q) X.xe { s2 with heap := s2.heap.push { cls := .type "slice", data := .fields #[.none, .none, .int (-1) t] } } := by
      refine wpAny_getItem_list_slice hp.isList (Heap.IsSliceOf.new ..) .none .none (.int (-1) t) (by simp) ?_ (by rw [List.size_toArray] <;> omega)
      rw [PySem.W.krv_pick]
      refine ⟨.ref _, _, I3.laid (t' := s2.toks) (o := .lst vs.reverse) (fun b ob q => Heap.get?_push_of_some _ q) (Nat.le_refl _) ?_, rfl, k.lst ok rq.rev _ (I3.hok.fresh (Nat.le_refl _))⟩
      exact ⟨by rw [List.length_reverse]; exact hz, its.reverse, 0, vals_rv rv, Heap.get?_push_size _ rfl⟩
    exact tail_any (ops := [.ref a, .ref s2.heap.objs.size]) hp.isList.typeIs slot_list_getitem.lookup g (by with_unfolding_all rfl)
  | _ => cases hd
/-! ### truth -/
theorem truth_v {d : D} {v : V} {b : Bool} (h : Vw G w d v) (e : truth d = some b) : TruV G.K v w.H b := by
  cases h with
  | non => cases e; rfl
  | bl b => cases e; rfl
  | int i => cases e; rfl
  | str x hx =>
    cases e
    refine ⟨hx, ?_⟩
    cases q : x.length <;> rfl
  | tup h r =>
    cases e
    refine .inr (.inl ⟨_, h, ?_⟩)
    cases r <;> rfl
  | lst h r =>
    cases e
    refine .inl ⟨_, h.sq, ?_⟩
    cases r <;> rfl
  | dk _ _ => cases e
  | dt _ _ => cases e
  | ins _ _ _ => cases e
  | cell _ _ => cases e

/-! ### built-in functions -/
inductive VwA (G : Gm) (w : W) : List D → List V → Prop
  | nil : VwA G w [] []
  | cons {d : D} {ds : List D} {v : V} {vs : List V} : Vw G w d v → VwA G w ds vs → VwA G w (d :: ds) (v :: vs)
/-- list(text) -/
theorem signs_rep {G : Gm} {w : W} (l : List Nat) : Reps G w (l.map fun c => .str ⟨#[c]⟩) (l.map fun c => V.str ⟨#[c]⟩) := by
  induction l with
  | nil => exact .nil
  | cons c l ih => exact .cons (.str _ (by show 1 ≤ sizeLine; decide)) ih
theorem signs_vals : ∀ (l : List Nat) (us : List Value), us.length = l.length → (∀ (j : Nat) (v : Value), us[j]? = some v → ∃ c t, l[j]? = some c ∧ v = .str ⟨#[c]⟩ t) → Vals (l.map fun c => V.str ⟨#[c]⟩) us
  | [], [], _, _ => .nil
  | [], _ :: _, e, _ => by cases e
  | _ :: _, [], e, _ => by cases e
  | c :: l, u :: us, e, h => by
    obtain ⟨c', t, h1, h2⟩ := h 0 u rfl
    cases h1
    exact .cons ⟨t, h2⟩ (signs_vals l us (by simpa using e) fun j v hj => h (j + 1) v hj)
theorem call_listS {X : Cx} (hc : X.calm = true) : CallR X (.type "list") (fun xs H Q => ∃ x : Str, xs = [.str x] ∧ x.length ≤ sizeLine ∧ ∀ p, H p = none → Q (.ref p) (upd H p (.lst (x.cps.toList.map fun c => .str ⟨#[c]⟩)))) := by
  intro pins s σ H xs us Q I r q
  obtain ⟨x, rfl, hz, q⟩ := q
  obtain ⟨u, rfl, t, rfl⟩ := vals1 r
  refine call_list_str (I.ok.hd hc) x t (fun h' tk acc c' hk hD hacc => ?_) hz
  have hv : Vals (x.cps.toList.map fun c => V.str ⟨#[c]⟩) acc.toList := signs_vals _ _ (by rw [Array.length_toList, hacc.1, Array.length_toList]) fun j v e => by
    rw [Array.getElem?_toList] at e
    obtain ⟨c, k, h1, h2⟩ := hacc.2 j v e
    exact ⟨c, k, by rw [Array.getElem?_toList]; exact h1, h2⟩
  exact ⟨.ref s.heap.objs.size, upd H s.heap.objs.size (.lst (x.cps.toList.map fun c => .str ⟨#[c]⟩)), I.laid (t' := tk) hk (Nat.le_refl _)
    (show ObjOk X.prog X.w _ _ _ (.lst _) from ⟨by rw [List.length_map, Array.length_toList]; exact hz, acc.toList, c', hv, by rw [Array.toArray_toList]; exact hD⟩), rfl, q _ (I.hok.fresh (Nat.le_refl _))⟩
def bnm : Blt → Str
  | .len => "len" | .int => "int" | .bool => "bool" | .str => "str" | .list => "list" | .tuple => "tuple" | .abs => "abs" | .max => "max" | .min => "min" | .sum => "sum" | .sorted => "sorted" | .all => "all" | .any => "any"
def bval : Blt → Value
  | .len => .builtin "len" | .int => .type "int" | .bool => .type "bool" | .str => .type "str" | .list => .type "list" | .tuple => .type "tuple" | .abs => .builtin "abs" | .max => .builtin "max" | .min => .builtin "min" | .sum => .builtin "sum" | .sorted => .builtin "sorted" | .all => .builtin "all" | .any => .builtin "any"
theorem maxI_spec : ∀ (is : List Int) (i : Int), maxI i is ∈ i :: is ∧ ∀ y ∈ i :: is, y ≤ maxI i is
  | [], i => ⟨List.mem_cons_self .., fun y hy => by
      rcases List.mem_cons.mp hy with rfl | hy
      · exact Int.le_refl _
      · cases hy⟩
  | j :: is, i => by
    obtain ⟨h1, h2⟩ := maxI_spec is (if j > i then j else i)
    have e : maxI i (j :: is) = maxI (if j > i then j else i) is := rfl
    rw [e]
    have top := h2 _ (List.mem_cons_self ..)
    refine ⟨?_, fun y hy => ?_⟩
    · rcases List.mem_cons.mp h1 with h | h
      · rw [h]
        split
        · exact List.mem_cons_of_mem _ (List.mem_cons_self ..)
        · exact List.mem_cons_self ..
      · exact List.mem_cons_of_mem _ (List.mem_cons_of_mem _ h)
    · rcases List.mem_cons.mp hy with rfl | hy
      · refine Int.le_trans ?_ top
        split <;> omega
      · rcases List.mem_cons.mp hy with rfl | hy
        · refine Int.le_trans ?_ top
          split <;> omega
        · exact h2 y (List.mem_cons_of_mem _ hy)
theorem minI_spec : ∀ (is : List Int) (i : Int), minI i is ∈ i :: is ∧ ∀ y ∈ i :: is, minI i is ≤ y
  | [], i => ⟨List.mem_cons_self .., fun y hy => by
      rcases List.mem_cons.mp hy with rfl | hy
      · exact Int.le_refl _
      · cases hy⟩
  | j :: is, i => by
    obtain ⟨h1, h2⟩ := minI_spec is (if j < i then j else i)
    have e : minI i (j :: is) = minI (if j < i then j else i) is := rfl
    rw [e]
    have top := h2 _ (List.mem_cons_self ..)
    refine ⟨?_, fun y hy => ?_⟩
    · rcases List.mem_cons.mp h1 with h | h
      · rw [h]
        split
        · exact List.mem_cons_of_mem _ (List.mem_cons_self ..)
        · exact List.mem_cons_self ..
      · exact List.mem_cons_of_mem _ (List.mem_cons_of_mem _ h)
    · rcases List.mem_cons.mp hy with rfl | hy
      · refine Int.le_trans top ?_
        split <;> omega
      · rcases List.mem_cons.mp hy with rfl | hy
        · refine Int.le_trans top ?_
          split <;> omega
        · exact h2 y (List.mem_cons_of_mem _ hy)
theorem bls_reps {G : Gm} {w : W} : ∀ {ds : List D} {vs : List V} {bs : List Bool}, Reps G w ds vs → blsD ds = some bs → vs = bs.map V.bl
  | [], _, _, .nil, e => by simp only [blsD] at e; cases e; rfl
  | d :: ds, _, _, .cons h r, e => by
    cases d with
    | bl b =>
      simp only [blsD] at e
      obtain ⟨ps, h1, h2⟩ := Option.map_eq_some_iff.mp e
      subst h2
      cases h
      rw [List.map_cons, bls_reps r h1]
    | _ => simp only [blsD] at e; cases e
theorem reps_intL {G : Gm} {w : W} : ∀ l : List Int, Reps G w (l.map D.int) (l.map V.int)
  | [] => .nil
  | i :: l => .cons (.int i) (reps_intL l)
def rBlt (G : Gm) (b : Blt) : List V → Hp → VK → Prop := fun vs H Q => ∃ w ds d3, w.H = H ∧ WOk G w ∧ VwA G w ds vs ∧ bltD b ds = some d3 ∧ Ends1 G w d3 Q
theorem blt_ok (hK : X.K = G.K) (hc : X.calm = true) (b : Blt) : CallR X (bval b) (rBlt G b) := by
  intro pins s σ H xs us Q I r h
  obtain ⟨w, ds, d3, rfl, ok, va, e, k⟩ := h
  unfold bltD at e
  split at e
  · cases e
    cases va with | cons v1 va =>
    cases va
    cases v1 with | lst h1 r1 =>
    rw [← hK] at h1
    rw [r1.length] at k
    exact call_len_seq pins s σ _ _ us Q I r ⟨_, _, rfl, .inl h1.sq, k.here ok (.int _)⟩
  · cases e
    cases va with | cons v1 va =>
    cases va
    cases v1 with | tup h1 r1 =>
    rw [← hK] at h1
    rw [r1.length] at k
    exact call_len_seq pins s σ _ _ us Q I r ⟨_, _, rfl, .inr h1, k.here ok (.int _)⟩
  · cases e
    cases va with | cons v1 va =>
    cases va
    cases v1 with | str z hz =>
    exact call_len_str pins s σ _ _ us Q I r ⟨_, rfl, hz, k.here ok (.int _)⟩
  · cases e
    cases va with | cons v1 va =>
    cases va
    cases v1
    exact call_int1 pins s σ _ _ us Q I r (.inl ⟨_, rfl, k.here ok (.int _)⟩)
  · cases e
    cases va with | cons v1 va =>
    cases va
    cases v1 with | lst h1 r1 =>
    rw [← hK] at h1
    exact call_list_of pins s σ _ _ us Q I r ⟨_, _, rfl, .inl h1.sq, k.lst ok r1⟩
  · cases e
    cases va with | cons v1 va =>
    cases va
    cases v1 with | tup h1 r1 =>
    rw [← hK] at h1
    exact call_list_of pins s σ _ _ us Q I r ⟨_, _, rfl, .inr h1, k.lst ok r1⟩
  · cases e
    cases va with | cons v1 va =>
    cases va
    cases v1 with | str z hz =>
    exact call_listS hc pins s σ _ _ us Q I r ⟨_, rfl, hz, k.lst ok (signs_rep _)⟩
  · cases e
    cases va with | cons v1 va =>
    cases va
    cases v1 with | lst h1 r1 =>
    rw [← hK] at h1
    exact call_tuple_of pins s σ _ _ us Q I r ⟨_, _, rfl, .inl ⟨h1.sq, k.tup ok r1⟩⟩
  · cases e
    cases va with | cons v1 va =>
    cases va
    cases v1 with | tup h1 r1 =>
    have h1' := h1
    rw [← hK] at h1'
    exact call_tuple_of pins s σ _ _ us Q I r ⟨_, _, rfl, .inr ⟨h1', k.here ok (.tup h1 r1)⟩⟩
  · cases e
    cases va with | cons v1 va =>
    cases va with | cons v2 va =>
    cases va
    cases v1; cases v2
    exact call_max2 hc pins s σ _ _ us Q I r ⟨_, _, rfl, k.here ok (.int _)⟩
  · cases e
    cases va with | cons v1 va =>
    cases va with | cons v2 va =>
    cases va
    cases v1; cases v2
    exact call_min2 hc pins s σ _ _ us Q I r ⟨_, _, rfl, k.here ok (.int _)⟩
  · cases e
    cases va with | cons v1 va =>
    cases va
    cases v1
    exact call_abs pins s σ _ _ us Q I r ⟨_, rfl, k.here ok (.int _)⟩
  · cases e
    cases va with | cons v1 va =>
    cases va
    cases v1
    exact call_bool1 pins s σ _ _ us Q I r (.inr ⟨_, rfl, k.here ok (.bl _)⟩)
  · obtain ⟨bs, hb, rfl⟩ := Option.map_eq_some_iff.mp e
    cases va with | cons v1 va =>
    cases va
    cases v1 with | lst h1 r1 =>
    rw [← hK, bls_reps r1 hb] at h1
    exact cr_all hc pins s σ _ _ us Q I r ⟨_, _, rfl, h1.sq, k.here ok (.bl _)⟩
  · obtain ⟨bs, hb, rfl⟩ := Option.map_eq_some_iff.mp e
    cases va with | cons v1 va =>
    cases va
    cases v1 with | lst h1 r1 =>
    rw [← hK, bls_reps r1 hb] at h1
    exact cr_any hc pins s σ _ _ us Q I r ⟨_, _, rfl, h1.sq, k.here ok (.bl _)⟩
  · obtain ⟨bs, hb, rfl⟩ := Option.map_eq_some_iff.mp e
    cases va with | cons v1 va =>
    cases va
    cases v1 with | lst h1 r1 =>
    rw [← hK, ints_reps r1 hb] at h1
    exact cr_sum hc pins s σ _ _ us Q I r ⟨_, _, rfl, h1.sq, k.here ok (.int _)⟩
  · split at e
    · rename_i i is hb
      cases e
      cases va with | cons v1 va =>
      cases va
      cases v1 with | lst h1 r1 =>
      rw [← hK, ints_reps r1 hb] at h1
      refine cr_max hc pins s σ _ _ us Q I r ⟨_, _, rfl, h1.sq, Nat.succ_pos _, fun m hm hall => ?_⟩
      obtain ⟨z1, z2⟩ := maxI_spec is i
      have e : m = maxI i is := Int.le_antisymm (z2 m hm) (hall _ z1)
      rw [e]
      exact k.here ok (.int _)
    · cases e
  · split at e
    · rename_i i is hb
      cases e
      cases va with | cons v1 va =>
      cases va
      cases v1 with | lst h1 r1 =>
      rw [← hK, ints_reps r1 hb] at h1
      refine cr_min hc pins s σ _ _ us Q I r ⟨_, _, rfl, h1.sq, Nat.succ_pos _, fun m hm hall => ?_⟩
      obtain ⟨z1, z2⟩ := minI_spec is i
      have e : m = minI i is := Int.le_antisymm (hall _ z1) (z2 m hm)
      rw [e]
      exact k.here ok (.int _)
    · cases e
  · obtain ⟨is, hb, rfl⟩ := Option.map_eq_some_iff.mp e
    cases va with | cons v1 va =>
    cases va
    cases v1 with | lst h1 r1 =>
    rw [← hK, ints_reps r1 hb] at h1
    exact cr_sortI pins s σ _ _ us Q I r ⟨_, _, rfl, .inl h1.sq, k.lst ok (reps_intL _)⟩
  · obtain ⟨is, hb, rfl⟩ := Option.map_eq_some_iff.mp e
    cases va with | cons v1 va =>
    cases va
    cases v1 with | tup h1 r1 =>
    rw [← hK, ints_reps r1 hb] at h1
    exact cr_sortI pins s σ _ _ us Q I r ⟨_, _, rfl, .inr h1, k.lst ok (reps_intL _)⟩
  · cases e
    cases va with | cons v1 va =>
    cases va
    cases v1 with | str z hz =>
    exact cr_sortT hc pins s σ _ _ us Q I r ⟨_, rfl, hz, k.lst ok (signs_rep _)⟩
  · cases e

/-! ### a text's methods -/
def bmNm : BM → Str
  | .upper => "upper" | .lower => "lower" | .strip => "strip" | .startswith => "startswith" | .find => "find" | .split => "split" | .words => "split" | .join => "join" | .partition => "partition"
def bmId : BM → String
  | .upper => "str.upper" | .lower => "str.lower" | .strip => "str.strip" | .startswith => "str.startswith" | .find => "str.find" | .split => "str.split" | .words => "str.split" | .join => "str.join" | .partition => "str.partition"
theorem bm_slot (m : BM) : Slot "str" (bmNm m) (bmId m) := by
  cases m
  · exact PySem.F.slot_str_upper
  · exact PySem.F.slot_str_lower
  · exact PySem.F.slot_str_strip
  · exact PySem.F.slot_str_startswith
  · exact PySem.F.slot_str_find
  · exact PySem.F.slot_str_split
  · exact PySem.F.slot_str_split
  · exact PySem.F.slot_str_join
  · exact PySem.F.slot_str_partition
theorem bm_ty (m : BM) : typeOf (.builtin (bmId m)) = pure (.type "method_descriptor") := by
  cases m
  · exact PySem.F.type_str_upper
  · exact PySem.F.type_str_lower
  · exact PySem.F.type_str_strip
  · exact PySem.F.type_str_startswith
  · exact PySem.F.type_str_find
  · exact PySem.F.type_str_split
  · exact PySem.F.type_str_split
  · exact PySem.F.type_str_join
  · exact PySem.F.type_str_partition
theorem lim_le {n : Nat} (h : n ≤ LIM) : n ≤ sizeLine := by rw [← lim_size]; exact h
theorem up_le {a b : Nat} (h : b ≤ 3 * a) (h2 : a ≤ 5592405) : b ≤ sizeLine := lim_le (by show b ≤ 16777216; omega)
theorem strs_rep {G : Gm} {w : W} : ∀ {ys : List Str}, ys.all (fun x => decide (x.length ≤ LIM)) = true → Reps G w (ys.map .str) (ys.map V.str)
  | [], _ => .nil
  | y :: ys, h => by
    rw [List.all_cons, Bool.and_eq_true, decide_eq_true_eq] at h
    exact .cons (.str y (lim_le h.1)) (strs_rep h.2)
theorem strsD_v {G : Gm} {w : W} : ∀ {ds : List D} {ys : List Str} {vs : List V}, strsD ds = some ys → Reps G w ds vs → vs = ys.map V.str
  | [], ys, vs, h, r => by
    cases h; cases r; rfl
  | d :: ds, ys, vs, h, r => by
    cases r with | cons r1 rs =>
    cases d with
    | str x =>
      unfold strsD at h
      cases q : strsD ds with
      | none => rw [q] at h; cases h
      | some zs =>
        rw [q] at h
        cases h
        cases r1
        rw [strsD_v q rs]
        rfl
    | _ => cases h
def rBm (G : Gm) (m : BM) : V → List V → Hp → VK → Prop := fun x vs H Q => ∃ w dx ds d3, w.H = H ∧ WOk G w ∧ Vw G w dx x ∧ VwA G w ds vs ∧ bmD m dx ds = some d3 ∧ Ends1 G w d3 Q
theorem bm_str {m : BM} {dx d3 : D} {ds : List D} {x : V} (v : Vw G w dx x) (h : bmD m dx ds = some d3) : ∃ z, x = .str z := by
  cases dx with
  | str z => cases v; exact ⟨z, rfl⟩
  | _ => cases m <;> cases h
theorem bm_ok (hK : X.K = G.K) (m : BM) : MtR X (bmId m) (rBm G m) := by
  intro pins s σ H x xs v us Q I rx rs h
  obtain ⟨w, dx, ds, d3, rfl, ok, vx, va, e, k⟩ := h
  unfold bmD at e
  split at e
  · split at e
    · rename_i hz
      cases e
      cases va
      cases vx with | str z hz' =>
      exact mt_upper pins s σ _ _ _ v us Q I rx rs ⟨_, rfl, rfl, hz, k.here ok (.str _ (up_le (PyProof.Rows.len_upper _) hz))⟩
    · cases e
  · split at e
    · rename_i hz
      cases e
      cases va
      cases vx with | str z hz' =>
      exact mt_lower pins s σ _ _ _ v us Q I rx rs ⟨_, rfl, rfl, hz, k.here ok (.str _ (up_le (PyProof.Rows.len_lower _) hz))⟩
    · cases e
  · split at e
    · rename_i hz
      cases e
      cases va
      cases vx with | str z hz' =>
      exact mt_strip pins s σ _ _ _ v us Q I rx rs ⟨_, rfl, rfl, hz', k.here ok (.str _ (lim_le hz))⟩
    · cases e
  · cases e
    cases va with | cons v1 va =>
    cases va
    cases v1
    cases vx
    exact mt_startswith pins s σ _ _ _ v us Q I rx rs ⟨_, _, rfl, rfl, k.here ok (.bl _)⟩
  · cases e
    cases va with | cons v1 va =>
    cases va
    cases v1
    cases vx
    exact mt_find pins s σ _ _ _ v us Q I rx rs ⟨_, _, rfl, rfl, k.here ok (.int _)⟩
  · split at e
    · rename_i hz
      simp only [Bool.and_eq_true, decide_eq_true_eq, bne_iff_ne, ne_eq] at hz
      cases e
      cases va with | cons v1 va =>
      cases va
      cases v1
      cases vx
      exact mt_split pins s σ _ _ _ v us Q I rx rs ⟨_, _, rfl, rfl, by simpa using hz.1.1, lim_le hz.1.2, k.lst ok (strs_rep hz.2)⟩
    · cases e
  · split at e
    · rename_i hz
      simp only [Bool.and_eq_true, decide_eq_true_eq] at hz
      cases e
      cases va
      cases vx
      exact mt_words pins s σ _ _ _ v us Q I rx rs ⟨_, rfl, rfl, lim_le hz.1, k.lst ok (strs_rep hz.2)⟩
    · cases e
  · split at e
    · rename_i hz
      simp only [Bool.and_eq_true, bne_iff_ne, ne_eq] at hz
      cases e
      cases va with | cons v1 va =>
      cases va
      cases v1
      cases vx with | str z hz' =>
      exact mt_partition pins s σ _ _ _ v us Q I rx rs ⟨_, _, rfl, rfl, by simpa using hz.1, hz', k.tup ok (strs_rep hz.2)⟩
    · cases e
  · split at e
    · rename_i ys hys
      split at e
      · rename_i hz
        rw [Bool.and_eq_true, decide_eq_true_eq, decide_eq_true_eq] at hz
        cases e
        cases va with | cons v1 va =>
        cases va
        cases v1 with | lst h1 r1 =>
        cases vx
        have ev := strsD_v hys r1
        rw [← hK, ev] at h1
        exact mt_join pins s σ _ _ _ v us Q I rx rs ⟨_, _, ys, rfl, rfl, .inl h1.sq, hz.1, k.here ok (.str _ (lim_le hz.2))⟩
      · cases e
    · cases e
  · split at e
    · rename_i ys hys
      split at e
      · rename_i hz
        rw [Bool.and_eq_true, decide_eq_true_eq, decide_eq_true_eq] at hz
        cases e
        cases va with | cons v1 va =>
        cases va
        cases v1 with | tup h1 r1 =>
        cases vx
        have ev := strsD_v hys r1
        rw [← hK, ev] at h1
        exact mt_join pins s σ _ _ _ v us Q I rx rs ⟨_, _, ys, rfl, rfl, .inr h1, hz.1, k.here ok (.str _ (lim_le hz.2))⟩
      · cases e
    · cases e
  · cases e

/-! ### isinstance -/
/-- what the classes are: facts of the written part -/
structure Gm.Ok (G : Gm) : Prop where
  cls : ∀ c, c < G.nc → Cls G.K (G.ca c)
  kc : ∀ c, c < G.nc → PySem.W.findIn G.K (.ref (G.ca c)) "__class__" = some (some (.builtin "object.__class__"))
  kg : PySem.W.specialIn G.K (.builtin "object.__class__") "__get__" = some (some (.builtin "getset_descriptor.__get__"))
  kt : PySem.W.takesIn G.K (.builtin "object.__class__") = some true
  ko : ∀ c, c < G.nc → PySem.W.mroIn G.K (G.ca c) (.type "object") = some true
  isa : ∀ c c', c < G.nc → c' < G.nc → PySem.W.kitOne G.K (.ref (G.ca c)) (.ref (G.ca c')) = some (c == c')
  isb : ∀ c, c < G.nc → ∀ n ∈ ["NoneType", "bool", "int", "str", "list", "tuple", "dict"], PySem.W.kitOne G.K (.type n) (.ref (G.ca c)) = some false
  isc : ∀ c, c < G.nc → ∀ n ∈ ["bool", "int", "str", "list", "tuple", "dict"], PySem.W.kitOne G.K (.ref (G.ca c)) (.type n) = some false
  nf : ∀ c c', c < G.nc → c' < G.nc → PySem.W.notFirst G.K (G.ca c) (.ref (G.ca c')) = true
  nfb : ∀ c, c < G.nc → ∀ n ∈ ["NoneType", "bool", "int", "str", "list", "tuple", "dict"], PySem.W.notFirst G.K (G.ca c) (.type n) = true
  sf : ∀ c, c < G.nc → PySem.W.selfFirst G.K (G.ca c) = true
  sy : ∀ i j, i < j → G.sy i = G.sy j → False
def tyV (G : Gm) : Ty → Value
  | .own c => .ref (G.ca c)
  | t => .type (tyN t)
def tyW (G : Gm) : Ty → V
  | .own c => .ref (G.ca c)
  | t => .ty (tyN t)
def tyOk (G : Gm) : Ty → Prop
  | .own c => c < G.nc
  | _ => True
theorem sq_ty {a : Addr} {vs : List V} (h : SqL G.K w.H a vs) : TyX G.K w.H (.ref a) (.type "list") := by
  rcases h with (h | ⟨o, h⟩) | ⟨o, its, n, h1, h2, _⟩
  · exact .base (.lst h)
  · exact .base (.frz h)
  · exact .kList h1 h2
theorem st_ty {a : Addr} {vs : List V} (h : SqT G.K w.H a vs) : TyX G.K w.H (.ref a) (.type "tuple") := by
  rcases h with (h | ⟨o, h⟩) | ⟨o, its, n, h1, h2, _⟩
  · exact .base (.tup h)
  · exact .fTuple h
  · exact .kTuple h1 h2
theorem kit_b {a b : String} {r : Bool} (h : kitB a b = some r) : PySem.W.kitOne G.K (.type a) (.type b) = some r := kit_ty h
theorem ty_kit (go : G.Ok) {d : D} {v : V} {t : Ty} {b : Bool} (h : Vw G w d v) (ht : tyOk G t) (e : tyD d t = some b) : ∃ u, TyX G.K w.H v u ∧ PySem.W.kitOne G.K u (tyV G t) = some b := by
  cases h with
  | non =>
    cases e
    refine ⟨_, .base .non, ?_⟩
    cases t with
    | own c => exact go.isb c ht _ (by simp)
    | _ => exact kit_b (by decide +kernel)
  | bl x =>
    cases e
    refine ⟨_, .base (.bl x), ?_⟩
    cases t with
    | own c => exact go.isb c ht _ (by simp)
    | _ => exact kit_b (by decide +kernel)
  | int x =>
    cases e
    refine ⟨_, .base (.int x), ?_⟩
    cases t with
    | own c => exact go.isb c ht _ (by simp)
    | _ => exact kit_b (by decide +kernel)
  | str x _ =>
    cases e
    refine ⟨_, .base (.str x), ?_⟩
    cases t with
    | own c => exact go.isb c ht _ (by simp)
    | _ => exact kit_b (by decide +kernel)
  | tup h r =>
    cases e
    refine ⟨_, st_ty h, ?_⟩
    cases t with
    | own c => exact go.isb c ht _ (by simp)
    | _ => exact kit_b (by decide +kernel)
  | lst h r =>
    cases e
    refine ⟨_, sq_ty h.sq, ?_⟩
    cases t with
    | own c => exact go.isb c ht _ (by simp)
    | _ => exact kit_b (by decide +kernel)
  | dk h r =>
    cases e
    refine ⟨_, .base (.dK h), ?_⟩
    cases t with
    | own c => exact go.isb c ht _ (by simp)
    | _ => exact kit_b (by decide +kernel)
  | dt h r =>
    cases e
    refine ⟨_, .base (.dT h), ?_⟩
    cases t with
    | own c => exact go.isb c ht _ (by simp)
    | _ => exact kit_b (by decide +kernel)
  | ins hc h r =>
    cases e
    refine ⟨_, .base (.ins h (go.cls _ hc) (go.kc _ hc) go.kg go.kt (go.ko _ hc)), ?_⟩
    cases t with
    | own c => exact go.isa _ c hc ht
    | _ => exact go.isc _ hc _ (by simp [tyN])
  | cell _ _ => cases e
theorem vw_ty (go : G.Ok) {d : D} {v : V} (h : Vw G w d v) (e : hasTy d = true) : ∃ u, TyX G.K w.H v u ∧ ∀ c, c < G.nc → PySem.W.notFirst G.K (G.ca c) u = true := by
  cases h with
  | non => exact ⟨_, .base .non, fun c hc => go.nfb c hc _ (by simp)⟩
  | bl x => exact ⟨_, .base (.bl x), fun c hc => go.nfb c hc _ (by simp)⟩
  | int x => exact ⟨_, .base (.int x), fun c hc => go.nfb c hc _ (by simp)⟩
  | str x _ => exact ⟨_, .base (.str x), fun c hc => go.nfb c hc _ (by simp)⟩
  | tup h r => exact ⟨_, st_ty h, fun c hc => go.nfb c hc _ (by simp)⟩
  | lst h r => exact ⟨_, sq_ty h.sq, fun c hc => go.nfb c hc _ (by simp)⟩
  | dk h r => exact ⟨_, .base (.dK h), fun c hc => go.nfb c hc _ (by simp)⟩
  | dt h r => exact ⟨_, .base (.dT h), fun c hc => go.nfb c hc _ (by simp)⟩
  | ins hc h r => exact ⟨_, .base (.ins h (go.cls _ hc) (go.kc _ hc) go.kg go.kt (go.ko _ hc)), fun c hc' => go.nf c _ hc' hc⟩
  | cell _ _ => cases e
end
end Rf
set_option Elab.async false
set_option linter.all false
set_option maxRecDepth 100000
set_option maxHeartbeats 4000000
/-! G6b: methods and new instances, the class known when the object is -/
namespace Rf
open PySem L2 PySem.Spec PyProof.Rows
theorem nosup_base {o : Expr} {m : Str} {env : Env} {whole : Sem Value} (h : (match o with | .Call (.Name x _) [] [] _ => x != "super" | _ => true) = true) : attributeBase o m env whole = whole := by
  unfold attributeBase
  split
  · rename_i x q pos
    have hx : (x != "super") = true := h
    rw [hx]
    rfl
  · rfl
def plainObj (o : Expr) (env : Env) : Sem Bool := do return (← importBound o env).getD true
/-- a method call on one row, without stars and keywords -/
theorem mcall_row {o : Expr} {m : Str} {apos pos : Pos} {env : Env} {es : List Expr} (hb : attributeBase o m env (eval o env) = eval o env)
    (hs : (backTo pos (starEach es env)).any (·.1) = false) (hn : es.length < 30) (hl : (apos.endLine == pos.line) = true) :
    eval (.Call (.Attribute o m apos) es [] pos) env = (do
      let ov ← eval o env
      standAt apos.atName
      let (f, first) ← holding [ov] (getMethod ov m (plainObj o env))
      callWith pos f first (backTo pos (starEach es env)) (backToKw pos (keywordEach [] env))) := by
  have hf : methodCallForm (es.length + ([] : List Keyword).length) (backTo pos (starEach es env)) (backToKw pos (keywordEach [] env)) = true := by
    have h1 : (backTo pos (starEach es env)).all (!·.1) = true := by
      rw [List.all_eq_true]
      intro x hx
      rw [List.any_eq_false] at hs
      have := hs x hx
      simpa using this
    unfold methodCallForm
    rw [h1]
    show (true && true && decide (es.length + 0 + 0 < 30)) = true
    simpa using hn
  rw [arm_eval_Call, hb]
  have e : ∀ ov, methodCall o m apos pos env ov (es.length + ([] : List Keyword).length) (backTo pos (starEach es env)) (backToKw pos (keywordEach [] env)) = (do
      let (f, first) ← holding [ov] (getMethod ov m (plainObj o env))
      callWith pos f first (backTo pos (starEach es env)) (backToKw pos (keywordEach [] env))) := fun ov => by
    have e1 : calleeOf true o env ov m = getMethod ov m (plainObj o env) := rfl
    have e2 : methodCallPos true o env apos pos = pure pos := if_pos (by rw [hl, Bool.or_true])
    unfold methodCall
    rw [hf, e1, e2]
    first | rfl | simp only [pure_bind]
  congr 1
  funext ov
  congr 1
  funext _
  exact e ov
section
variable {X : Cx} {CX : CXT} {k : Nat} {f : Addr} {sp : Sp} {E : L2.St → XK} {x : Str} {p pos : Pos} {e : Expr} {es : List Expr} {t : TA}
theorem run_fnRS {pins : List (Addr × Obj)} {σ : L2.St} {H : Hp} {s : Shared} {Q : VK} {us : List Value} {vs : List V} (F : FnR X.prog X.w X.K X.mg X.base CX k f sp) (hr : Room k X.A) (hx : PassesAt CX X σ (E σ))
    (I : Inv X pins σ H s) (r : Vals vs us) (h : sp vs H Q (E σ)) : wpAny (model X.prog X.w) X.A (call (.ref f) us) (EP X pins σ Q) X.xe s := by
  refine wpAny_call (codeAny_mono (F X.A X.stack s H us vs Q (E σ) hr I.env0 r h) fun r s' hq => ?_)
  cases r with
  | error e => exact hx pins H s e s' I hq
  | ok fl =>
    cases fl with
    | ret u => exact I.after hq
    | next => exact False.elim hq
    | brk => exact False.elim hq
    | cont => exact False.elim hq
theorem pe_callRS (F : FnR X.prog X.w X.K X.mg X.base CX k f sp) (hr : Room k X.A) (hg : Gl X x) (hm : X.mg x = some (.ref f)) (hk : PySem.W.keepIn X.K (.ref f) = true) (hx : ∀ σ, PassesAt CX X σ (E σ))
    (ha : PA X (e :: es) t) (hdb : (x == ("__debug__" : Str)) = false) (he : starEach (e :: es) X.env = (false, eval e X.env) :: starEach es X.env) (hpl : (backTo pos (starEach es X.env)).any (·.1) = false) :
    PE X (.Call (.Name x p) (e :: es) [] pos) (tCallS sp E t) := by
  refine ⟨fun pins s σ H Q I h => ?_⟩
  refine wpAny_Call_Name_kw (ld_glob I hg hm ?_ hdb)
  refine PySem.W.callWith_K (h₀ := X.base) I.ok.mod.kin hk (thn (ha.run pos pins s σ H _ I h) fun us s1 ⟨vs, H1, I1, r, q⟩ => ⟨I1.kIn, ?_⟩) he hpl
  exact run_fnRS F hr (hx σ) I1 r q
theorem pe_callRS0 (F : FnR X.prog X.w X.K X.mg X.base CX k f sp) (hr : Room k X.A) (hg : Gl X x) (hm : X.mg x = some (.ref f)) (hk : PySem.W.keepIn X.K (.ref f) = true) (hx : ∀ σ, PassesAt CX X σ (E σ))
    (hdb : (x == ("__debug__" : Str)) = false) : PE X (.Call (.Name x p) [] [] pos) (tCallS sp E tNil) := by
  refine ⟨fun pins s σ H Q I h => ?_⟩
  refine wpAny_Call_Name_kw (ld_glob I hg hm ?_ hdb)
  exact PySem.W.callWith_K0 I.kIn hk (run_fnRS (us := []) F hr (hx σ) I .nil h)
end
section
variable {X : Cx} {CX : CXT} {k : Nat} {o : Expr} {m : Str} {apos pos p : Pos} {e : Expr} {es : List Expr} {ta : TE} {t : TA} {E : L2.St → XK} {x : Str}
/-- o.m(..): the class at the object -/
def tMethD (X : Cx) (CX : CXT) (k : Nat) (m : Str) (E : L2.St → XK) (ta : TE) (t : TA) : TE := fun σ H Q => ta σ H fun x H1 => ∃ a C dx fs f sp, x = .ref a ∧ H1 a = some (.ins C dx fs) ∧ fs.lookup m = none ∧ Cls X.K C ∧ Meth X.K C m f ∧
  FnR X.prog X.w X.K X.mg X.base CX k f sp ∧ t σ H1 fun vs H2 => sp (x :: vs) H2 Q (E σ)
theorem pe_methD0 (he : PE X o ta) (hb : attributeBase o m X.env (eval o X.env) = eval o X.env) (hl : (apos.endLine == pos.line) = true) (hr : Room k X.A) (hx : ∀ σ, PassesAt CX X σ (E σ)) :
    PE X (.Call (.Attribute o m apos) [] [] pos) (tMethD X CX k m E ta tNil) := by
  refine ⟨fun pins s σ H Q I h => ?_⟩
  refine PySem.W.methodCall_KW (pl := plainObj o X.env) (thn (he.run pins s σ H _ I h) fun u s1 ⟨x, H1, I1, rx, a, C, dx, fs, f, sp, ex, ea, l, c, hm, F, q⟩ => ?_) (mcall_row hb rfl (by decide) hl)
  subst ex
  cases (show u = Value.ref a from rx)
  refine getmeth_ok I1 ea c hm l (PySem.W.callWith_K0 (first := [.ref a]) I1.kIn hm.kp ?_)
  exact run_fnRS (us := [.ref a]) (vs := [.ref a]) F hr (hx σ) I1 (.cons rfl .nil) q
theorem pe_methD (he : PE X o ta) (hb : attributeBase o m X.env (eval o X.env) = eval o X.env) (hl : (apos.endLine == pos.line) = true) (hr : Room k X.A) (hx : ∀ σ, PassesAt CX X σ (E σ)) (ha : PA X (e :: es) t) (hn : (e :: es).length < 30)
    (hst : starEach (e :: es) X.env = (false, eval e X.env) :: starEach es X.env) (hpl : (backTo pos (starEach es X.env)).any (·.1) = false) :
    PE X (.Call (.Attribute o m apos) (e :: es) [] pos) (tMethD X CX k m E ta t) := by
  have hall : (backTo pos (starEach (e :: es) X.env)).any (·.1) = false := by
    rw [hst]
    show (false || (backTo pos (starEach es X.env)).any (·.1)) = false
    rw [hpl]
    rfl
  refine ⟨fun pins s σ H Q I h => ?_⟩
  refine PySem.W.methodCall_KW (pl := plainObj o X.env) (thn (he.run pins s σ H _ I h) fun u s1 ⟨x, H1, I1, rx, a, C, dx, fs, f, sp, ex, ea, l, c, hm, F, q⟩ => ?_) (mcall_row hb hall hn hl)
  subst ex
  cases (show u = Value.ref a from rx)
  refine getmeth_ok I1 ea c hm l (PySem.W.callWith_K (first := [.ref a]) (h₀ := X.base) I.ok.mod.kin hm.kp (thn (ha.run pos pins s1 σ H1 _ I1 q) fun us s2 ⟨vs, H2, I2, r, q2⟩ => ⟨I2.kIn, ?_⟩) hst hpl)
  exact run_fnRS (us := .ref a :: us) (vs := .ref a :: vs) F hr (hx σ) I2 (.cons rfl r) q2
/-- C(..), what is raised wished for at the slots -/
def tMakeS (C : Addr) (sp : Sp) (E : L2.St → XK) (t : TA) : TE := fun σ H Q => t σ H fun vs H1 => ∀ x dx, H1 x = none → H1 dx = none → dx ≠ x →
  sp (.ref x :: vs) (upd (upd H1 dx (.own x)) x (.ins C dx [])) (fun v H2 => v = .non ∧ Q (.ref x) H2) (E σ)
theorem run_makeS {pins : List (Addr × Obj)} {σ : L2.St} {H : Hp} {s : Shared} {Q : VK} {us : List Value} {vs : List V} {C f : Addr} {sp : Sp} (M : Mk X.K C f) (F : FnR X.prog X.w X.K X.mg X.base CX k f sp) (hr : Room (k + 1) X.A)
    (hx : PassesAt CX X σ (E σ)) (I : Inv X pins σ H s) (r : Vals vs us)
    (h : ∀ x dx, H x = none → H dx = none → dx ≠ x → sp (.ref x :: vs) (upd (upd H dx (.own x)) x (.ins C dx [])) (fun v H2 => v = .non ∧ Q (.ref x) H2) (E σ)) :
    wpAny (model X.prog X.w) X.A (call (.ref C) us) (EP X pins σ Q) X.xe s := by
  have hq := h (s.heap.objs.size + 1) s.heap.objs.size (I.hok.fresh (Nat.le_succ _)) (I.hok.fresh (Nat.le_refl _)) (Nat.ne_of_lt (Nat.lt_succ_self _))
  have I2 := Inv.made (C := C) I
  have r2 : Vals (V.ref (s.heap.objs.size + 1) :: vs) (Value.ref (s.heap.objs.size + 1) :: us) := .cons rfl r
  refine wpAny_call (make_map (f := f) I.kIn M.makes M.init (beq_iff_eq.mp M.fn) (codeAny_mono (F _ X.stack _ _ (Value.ref (s.heap.objs.size + 1) :: us) _ _ (E σ) (hr.make C us [])
    (I2.env0.make C us []) r2 hq) fun r s' hq' => ?_))
  cases r with
  | error e => exact hx pins _ _ e s' I2 hq'
  | ok fl =>
    cases fl with
    | ret u =>
      obtain ⟨v, H', I3, rv, ev, q3⟩ := I2.after hq'
      subst ev
      exact ⟨rv, ⟨V.ref (s.heap.objs.size + 1), H', I3, rfl, q3⟩⟩
    | next => exact hq'.elim
    | brk => exact hq'.elim
    | cont => exact hq'.elim
theorem pe_makeS {C f : Addr} {sp : Sp} (M : Mk X.K C f) (F : FnR X.prog X.w X.K X.mg X.base CX k f sp) (hr : Room (k + 1) X.A) (hg : Gl X x) (hm : X.mg x = some (.ref C)) (hx : ∀ σ, PassesAt CX X σ (E σ))
    (ha : PA X (e :: es) t) (hdb : (x == ("__debug__" : Str)) = false) (he : starEach (e :: es) X.env = (false, eval e X.env) :: starEach es X.env) (hpl : (backTo pos (starEach es X.env)).any (·.1) = false) :
    PE X (.Call (.Name x p) (e :: es) [] pos) (tMakeS C sp E t) := by
  refine ⟨fun pins s σ H Q I h => ?_⟩
  refine wpAny_Call_Name_kw (ld_glob I hg hm ?_ hdb)
  refine PySem.W.callWith_K (h₀ := X.base) I.ok.mod.kin M.kp (thn (ha.run pos pins s σ H _ I h) fun us s1 ⟨vs, H1, I1, r, q⟩ => ⟨I1.kIn, ?_⟩) he hpl
  exact run_makeS M F hr (hx σ) I1 r q
theorem pe_makeS0 {C f : Addr} {sp : Sp} (M : Mk X.K C f) (F : FnR X.prog X.w X.K X.mg X.base CX k f sp) (hr : Room (k + 1) X.A) (hg : Gl X x) (hm : X.mg x = some (.ref C)) (hx : ∀ σ, PassesAt CX X σ (E σ))
    (hdb : (x == ("__debug__" : Str)) = false) : PE X (.Call (.Name x p) [] [] pos) (tMakeS C sp E tNil) := by
  refine ⟨fun pins s σ H Q I h => ?_⟩
  refine wpAny_Call_Name_kw (ld_glob I hg hm ?_ hdb)
  exact PySem.W.callWith_K0 I.kIn M.kp (run_makeS (us := []) M F hr (hx σ) I .nil h)
/-- a raw call with keywords -/
def FnRk (P : Program) (w : World) (K : PySem.W.Frag) (mg : Str → Option Value) (base : Heap) (CX : CXT) (k : Nat) (f : Addr) (n : Nat) (ks : List Str) (sp : List V → List V → Hp → VK → XK → Prop) : Prop :=
  ∀ (A : Around) (outer : List Env) (s : Shared) (H : Hp) (us ws : List Value) (vs zs : List V) (Q : VK) (E : XK), Room k A → Env0 P w K mg base A outer s H → Vals vs us → Vals zs ws → vs.length = n → zs.length = ks.length → sp vs zs H Q E →
    codeAny (model P w) A (.call (.ref f) ⟨us, ks.zip ws⟩) (CR CX outer P w H s Q E) s
theorem FnRk.imp {P : Program} {w : World} {K : PySem.W.Frag} {mg : Str → Option Value} {base : Heap} {CX : CXT} {k : Nat} {f : Addr} {n : Nat} {ks : List Str} {sp sp' : List V → List V → Hp → VK → XK → Prop} (F : FnRk P w K mg base CX k f n ks sp)
    (h : ∀ vs zs H Q E, sp' vs zs H Q E → sp vs zs H Q E) : FnRk P w K mg base CX k f n ks sp' := fun A outer s H us ws vs zs Q E hr e0 r1 r2 l1 l2 hs => F A outer s H us ws vs zs Q E hr e0 r1 r2 l1 l2 (h _ _ _ _ _ hs)
theorem FnRk.of {P : Program} {w : World} {K : PySem.W.Frag} {mg : Str → Option Value} {base : Heap} {CX : CXT} {k : Nat} {f : Addr} {fd : FuncData} {ps : List Str} {n : Nat} {ks : List Str} {sp : Sp} {g : List Value → List Value → List Value} {gV : List V → List V → List V}
    (F : FnOk P w K mg base CX k f fd ps sp) (hb : KBn K fd ps n ks g gV) : FnRk P w K mg base CX k f n ks (fun vs zs H Q E => sp (gV vs zs) H Q E) :=
  fun A outer s H us ws vs zs Q E hr e0 r1 r2 l1 l2 hs => F.run A outer s H ⟨us, ks.zip ws⟩ (g us ws) (gV vs zs) Q E hr e0 (hb.to s us ws (e0.mod.kin.keeps fun b o e => (e0.bs b o e).1) (r1.length.symm.trans l1) (r2.length.symm.trans l2)) (hb.rel r1 r2) hs
/-- C(.., k = v, ..) -/
def tMakeKS (C : Addr) (n m : Nat) (sp : List V → List V → Hp → VK → XK → Prop) (E : L2.St → XK) (t tk : TA) : TE := fun σ H Q => t σ H fun vs H1 => tk σ H1 fun zs H2 => vs.length = n ∧ zs.length = m ∧ ∀ x dx, H2 x = none → H2 dx = none → dx ≠ x →
  sp (.ref x :: vs) zs (upd (upd H2 dx (.own x)) x (.ins C dx [])) (fun v H3 => v = .non ∧ Q (.ref x) H3) (E σ)
theorem run_makeKS {pins : List (Addr × Obj)} {σ : L2.St} {H : Hp} {s : Shared} {Q : VK} {us ws : List Value} {vs zs : List V} {C f : Addr} {n : Nat} {ks : List Str} {sp : List V → List V → Hp → VK → XK → Prop} (M : Mk X.K C f) (F : FnRk X.prog X.w X.K X.mg X.base CX k f (n + 1) ks sp) (hr : Room (k + 1) X.A)
    (hx : PassesAt CX X σ (E σ)) (I : Inv X pins σ H s) (r : Vals vs us) (rz : Vals zs ws) (l1 : vs.length = n) (l2 : zs.length = ks.length)
    (h : ∀ x dx, H x = none → H dx = none → dx ≠ x → sp (.ref x :: vs) zs (upd (upd H dx (.own x)) x (.ins C dx [])) (fun v H2 => v = .non ∧ Q (.ref x) H2) (E σ)) :
    wpAny (model X.prog X.w) X.A (call (.ref C) us (ks.zip ws)) (EP X pins σ Q) X.xe s := by
  have hq := h (s.heap.objs.size + 1) s.heap.objs.size (I.hok.fresh (Nat.le_succ _)) (I.hok.fresh (Nat.le_refl _)) (Nat.ne_of_lt (Nat.lt_succ_self _))
  have I2 := Inv.made (C := C) I
  have r2 : Vals (V.ref (s.heap.objs.size + 1) :: vs) (Value.ref (s.heap.objs.size + 1) :: us) := .cons rfl r
  refine wpAny_call (make_map (f := f) I.kIn M.makes M.init (beq_iff_eq.mp M.fn) (codeAny_mono (F _ X.stack _ _ (Value.ref (s.heap.objs.size + 1) :: us) ws _ _ _ (E σ) (hr.make C us (ks.zip ws))
    (I2.env0.make C us (ks.zip ws)) r2 rz (by rw [List.length_cons, l1]) l2 hq) fun r s' hq' => ?_))
  cases r with
  | error e => exact hx pins _ _ e s' I2 hq'
  | ok fl =>
    cases fl with
    | ret u =>
      obtain ⟨v, H', I3, rv, ev, q3⟩ := I2.after hq'
      subst ev
      exact ⟨rv, ⟨V.ref (s.heap.objs.size + 1), H', I3, rfl, q3⟩⟩
    | next => exact hq'.elim
    | brk => exact hq'.elim
    | cont => exact hq'.elim
theorem pe_makeKS {C f : Addr} {n : Nat} {ks : List Str} {kws : List Keyword} {sp : List V → List V → Hp → VK → XK → Prop} {tk : TA} (M : Mk X.K C f) (F : FnRk X.prog X.w X.K X.mg X.base CX k f (n + 1) ks sp) (hr : Room (k + 1) X.A) (hg : Gl X x) (hm : X.mg x = some (.ref C)) (hx : ∀ σ, PassesAt CX X σ (E σ))
    (ha : PA X (e :: es) t) (hkw : PK X kws tk) (hall : (backToKw pos (keywordEach kws X.env)).all (·.1.isSome) = true) (hks : (backToKw pos (keywordEach kws X.env)).filterMap (·.1) = ks) (hdb : (x == ("__debug__" : Str)) = false)
    (he : starEach (e :: es) X.env = (false, eval e X.env) :: starEach es X.env) (hpl : ((backTo pos (starEach (e :: es) X.env)).any (·.1) || (backToKw pos (keywordEach kws X.env)).any (·.1.isNone)) = false) :
    PE X (.Call (.Name x p) (e :: es) kws pos) (tMakeKS C n ks.length sp E t tk) := by
  refine ⟨fun pins s σ H Q I h => ?_⟩
  refine wpAny_Call_Name_kw (ld_glob I hg hm ?_ hdb)
  refine PySem.W.callWith_KW (h₀ := X.base) I.ok.mod.kin M.kp hall (thn (ha.run pos pins s σ H _ I h) fun us s1 ⟨vs, H1, I1, r, q⟩ => ?_) hpl he
  refine thn (hkw.run pos pins s1 σ H1 _ I1 q) fun ws s2 ⟨zs, H2, I2, rz, l1, l2, q2⟩ => ⟨I2.kIn, ?_⟩
  rw [hks]
  exact run_makeKS M F hr (hx σ) I2 r rz l1 l2 q2
theorem pe_makeKS0 {C f : Addr} {ks : List Str} {kws : List Keyword} {sp : List V → List V → Hp → VK → XK → Prop} {tk : TA} (M : Mk X.K C f) (F : FnRk X.prog X.w X.K X.mg X.base CX k f 1 ks sp) (hr : Room (k + 1) X.A) (hg : Gl X x) (hm : X.mg x = some (.ref C)) (hx : ∀ σ, PassesAt CX X σ (E σ))
    (hkw : PK X kws tk) (hall : (backToKw pos (keywordEach kws X.env)).all (·.1.isSome) = true) (hks : (backToKw pos (keywordEach kws X.env)).filterMap (·.1) = ks) (hdb : (x == ("__debug__" : Str)) = false)
    (hpl : ((backTo pos (starEach [] X.env)).any (·.1) || (backToKw pos (keywordEach kws X.env)).any (·.1.isNone)) = false) :
    PE X (.Call (.Name x p) [] kws pos) (tMakeKS C 0 ks.length sp E tNil tk) := by
  refine ⟨fun pins s σ H Q I h => ?_⟩
  refine wpAny_Call_Name_kw (ld_glob I hg hm ?_ hdb)
  refine PySem.W.callWith_KW0 (h₀ := X.base) I.ok.mod.kin M.kp hall ?_ hpl
  refine thn (hkw.run pos pins s σ H _ I h) fun ws s2 ⟨zs, H2, I2, rz, l1, l2, q2⟩ => ⟨I2.kIn, ?_⟩
  rw [hks]
  exact run_makeKS (us := []) (vs := []) M F hr (hx σ) I2 .nil rz rfl l2 q2
/-- a property, read: what raises nothing -/
def tPropR (X : Cx) (CX : CXT) (k : Nat) (f : Str) (ta : TE) : TE := fun σ H Q => ta σ H fun x H1 => ∃ a C dx fs p g sp, x = .ref a ∧ H1 a = some (.ins C dx fs) ∧ Cls X.K C ∧ PropOf X.K C f p g ∧ FnR X.prog X.w X.K X.mg X.base CX k g sp ∧ sp [.ref a] H1 Q (fun _ _ _ => False)
theorem pe_propR {f : Str} {ta : TE} (he : PE X e ta) (hr : Room (k + 1) X.A) (hx : ∀ (σ : L2.St) (pins : List (Addr × Obj)) (H : Hp) (s : Shared) (e : Value) (s' : Shared), Inv X pins σ H s → CX X.stack H s (fun _ _ _ => False) e s' → False)
    (hab : attributeBase e f X.env (eval e X.env) = eval e X.env) : PE X (.Attribute e f pos) (tPropR X CX k f ta) := by
  refine ⟨fun pins s σ H Q I h => ?_⟩
  refine attr_of hab (thn (he.run pins s σ H _ I h) fun u s1 ⟨x, H1, I1, rx, a, C, dx, fs, pp, g, sp, ex, ea, c, hp, F, q⟩ => ?_)
  subst ex
  obtain rfl : u = Value.ref a := rx
  obtain ⟨mA, O, _, _, _, _⟩ := ins_get I1.hok ea
  obtain ⟨od, J, _⟩ := O.look
  obtain ⟨rest, hrec⟩ := hp.rec_
  have I2 := I1.tok (s1.toks + 1)
  have hc : (PySem.W.clsIn X.K C).isSome = true := by
    obtain ⟨cd, hc, _⟩ := PySem.W.any_some c.hd
    rw [hc]
    rfl
  refine PySem.W.get_bind I1.kIn J (PySem.W.plainGet_of (c.get f)).1 (PySem.W.findObj_data hc hp.at_ hp.get hp.tak) (PySem.W.plainGet_of (c.get f)).2 (wpAny_call (PySem.W.prop_get (s := { s1 with toks := s1.toks + 1 }) I1.kIn hrec ?_))
  refine codeAny_mono (F X.A.in1 X.stack { s1 with toks := s1.toks + 1 } H1 [.ref a] [.ref a] Q _ hr.in1 I2.env0.in1 (.cons rfl .nil) q) fun r s' hq => ?_
  cases r with
  | error er => exact (hx σ pins H1 { s1 with toks := s1.toks + 1 } er s' I2 hq).elim
  | ok fl =>
    cases fl with
    | ret u =>
      obtain ⟨v, H', I3, rv, q3⟩ := I2.after hq
      show wpAny _ _ (handedOut u) _ _ _
      rw [PySem.W.handedOut_of (handed_of rv)]
      exact wpAny_pure ⟨v, H', I3, rv, q3⟩
    | next => exact False.elim hq
    | brk => exact False.elim hq
    | cont => exact False.elim hq
end
end Rf
set_option Elab.async false
set_option linter.all false
set_option maxRecDepth 100000
set_option maxHeartbeats 4000000
/-! G6c: operators by own methods (layer lemmas) -/
namespace Rf
open PySem L2 PySem.Spec PyProof.Rows
/-- an operation whose exceptions are wished for at the slots -/
def OpSl (X : Cx) (f : Value → Value → Sem Value) (r : L2.St → V → V → Hp → VK → Prop) : Prop :=
  ∀ (pins : List (Addr × Obj)) (s : Shared) (σ : L2.St) (H : Hp) (x y : V) (v u : Value) (Q : VK), Inv X pins σ H s → RelV x v → RelV y u → r σ x y H Q → wpAny (model X.prog X.w) X.A (f v u) (EP X pins σ Q) X.xe s
section
variable {X : Cx} {a b : Expr} {ta tb : TE} {r r' : L2.St → V → V → Hp → VK → Prop} {pos : Pos} {f : Value → Value → Sem Value}
theorem OpR.sl {r0 : R2} (h : OpR X f r0) : OpSl X f (fun _ => r0) := fun pins s σ H x y v u Q I rx ry q => h pins s σ H x y v u Q I rx ry q
theorem OpSl.or (h : OpSl X f r) (h' : OpSl X f r') : OpSl X f (fun σ x y H Q => r σ x y H Q ∨ r' σ x y H Q) := fun pins s σ H x y v u Q I rx ry q => by
  rcases q with q | q
  · exact h pins s σ H x y v u Q I rx ry q
  · exact h' pins s σ H x y v u Q I rx ry q
theorem OpSl.ex {α : Type} {g : α → L2.St → V → V → Hp → VK → Prop} (h : ∀ a, OpSl X f (g a)) : OpSl X f (fun σ x y H Q => ∃ a, g a σ x y H Q) := fun pins s σ H x y v u Q I rx ry ⟨a, q⟩ => h a pins s σ H x y v u Q I rx ry q
/-- what an own operator wants: a method of the left one's class -/
structure OwnOp (X : Cx) (CX : CXT) (k : Nat) (C : Addr) (m : Str) (sp : Sp) : Prop where
  ex : ∃ f, PySem.W.findIn X.K (.ref C) m = some (some (.ref f)) ∧ PySem.W.isFn X.K (.ref f) = true ∧ FnR X.prog X.w X.K X.mg X.base CX k f sp
/-- what stands for a value is not NotImplemented -/
theorem cmp_back {pins : List (Addr × Obj)} {σ : L2.St} {Q : VK} {r : Value} {s' : Shared} (h : EP X pins σ Q r s') : PySem.W.CmpBack (EP X pins σ Q) r s' := by
  obtain ⟨v, H', I', rv, q⟩ := id h
  cases r <;> first | exact h | (cases v <;> first | (obtain ⟨_, e⟩ := rv; cases e; done) | (cases rv; done))
/-- x == y, x < y .. by an own method that does not answer NotImplemented -/
theorem cmp_own {op : CmpOp} {CX : CXT} {k : Nat} {E : L2.St → XK} (hr : Room k X.A) (hx : ∀ σ, PassesAt CX X σ (E σ)) :
    OpSl X (richCompare op) (fun σ x y H Q => ∃ a C dx fs sp, x = .ref a ∧ H a = some (.ins C dx fs) ∧ OwnOp X CX k C (cmpInfo op).2.1 sp ∧ (∀ (s : Shared) (pins : List (Addr × Obj)) (v u : Value), Inv X pins σ H s → RelV y u → ∃ tb, PySem.W.Looks (model X.prog X.w) s.heap (typeOf u) tb ∧ PySem.W.notFirst X.K C tb = true) ∧
      sp [x, y] H Q (E σ)) := by
  intro pins s σ H x y v u Q I rx ry q
  obtain ⟨ad, C, dx, fs, sp, rfl, ha, ⟨f, hs, hf, F⟩, ht, hsp⟩ := q
  cases (show v = Value.ref ad from rx)
  obtain ⟨mA, J, _⟩ := ins_get I.hok ha
  obtain ⟨od, J, _⟩ := J.look
  obtain ⟨m, hF⟩ := I.fr
  obtain ⟨tb, hl, hn⟩ := ht s pins (.ref ad) u I ry
  refine PySem.W.cmp_K (tb := tb) hr.units0 hF I.ok.mod.kin J hl hn hs hf ?_
  refine wpAny_mono (run_fnRS (us := [.ref ad, u]) (vs := [.ref ad, y]) F hr (hx σ) I (.cons rfl (.cons ry .nil)) hsp) (fun r s' z => ?_) fun _ _ z => z
  exact cmp_back z
/-- a call from within a builtin's -/
theorem run_fnR1 {CX : CXT} {k : Nat} {f : Addr} {sp : Sp} {E : L2.St → XK} {pins : List (Addr × Obj)} {σ : L2.St} {H : Hp} {s : Shared} {Q : VK} {us : List Value} {vs : List V} (F : FnR X.prog X.w X.K X.mg X.base CX k f sp) (hr : Room (k + 1) X.A) (hx : PassesAt CX X σ (E σ))
    (I : Inv X pins σ H s) (r : Vals vs us) (h : sp vs H Q (E σ)) : wpAny (model X.prog X.w) X.A.in1 (call (.ref f) us) (EP X pins σ Q) X.xe s := by
  refine wpAny_call (codeAny_mono (F X.A.in1 X.stack s H us vs Q (E σ) hr.in1 I.env0.in1 r h) fun r s' hq => ?_)
  cases r with
  | error e => exact hx pins H s e s' I hq
  | ok fl =>
    cases fl with
    | ret u => exact I.after hq
    | next => exact False.elim hq
    | brk => exact False.elim hq
    | cont => exact False.elim hq
theorem ne_slot : Slot "object" "__ne__" "object.__ne__" :=
  .of (owner := "object") (n := "__ne__") (by rw [typeLookup_type, builtinLookup_eq_fast]; kernel_rfl) (by decide +kernel) (by decide +kernel) (by decide +kernel) (.inl (by decide +kernel)) (by rw [isSubtype_type]; kernel_rfl)
/-- x != y, without an own __ne__: not x == y -/
theorem ne_own {CX : CXT} {k : Nat} {E : L2.St → XK} (hr : Room (k + 1) X.A) (hx : ∀ σ, PassesAt CX X σ (E σ)) :
    OpSl X (richCompare .NotEq) (fun σ x y H Q => ∃ a C dx fs sp, x = .ref a ∧ H a = some (.ins C dx fs) ∧ PySem.W.findIn X.K (.ref C) "__ne__" = some (some (.builtin "object.__ne__")) ∧ PySem.W.mroIn X.K C (.type "object") = some true ∧ OwnOp X CX k C "__eq__" sp ∧ (∀ (s : Shared) (pins : List (Addr × Obj)) (v u : Value), Inv X pins σ H s → RelV y u → ∃ tb, PySem.W.Looks (model X.prog X.w) s.heap (typeOf u) tb ∧ PySem.W.notFirst X.K C tb = true) ∧
      sp [x, y] H (fun v H' => ∃ b, v = .bl b ∧ Q (.bl (!b)) H') (E σ)) := by
  intro pins s σ H x y v u Q I rx ry q
  obtain ⟨ad, C, dx, fs, sp, rfl, ha, hne, hmo, ⟨f, hs, hf, F⟩, ht, hsp⟩ := q
  cases (show v = Value.ref ad from rx)
  obtain ⟨mA, J, _⟩ := ins_get I.hok ha
  obtain ⟨od, J, _⟩ := J.look
  obtain ⟨m, hF⟩ := I.fr
  obtain ⟨tb, hl, hn⟩ := ht s pins (.ref ad) u I ry
  have XK := I.kIn
  have hu := hr.units0
  have hu1 := hr.in1.units0
  have one : wpAny (model X.prog X.w) X.A (tryCompare (.ref ad) "__ne__" u) (fun r s' => ∃ v, r = some v ∧ EP X pins σ Q v s') X.xe s := by
    unfold tryCompare
    refine wpAny_bind ?_
    simp only [callSpecialIfBound?, bindSpecialIfBound?]
    refine wpAny_holding (wpAny_bind (wpAny_bind (wpAny_bind (J.type.here ((PySem.W.looks_findIn XK hne).here ?_)))))
    simp only [ne_slot.bind]
    refine wpAny_bind (wpAny_askSetting (wpAny_ite ?_))
    have t2 : PySem.W.Looks (model X.prog X.w) s.heap (isInstance (.ref ad) (.type "object")) true := J.type.andThen (PySem.W.looks_mroIn XK hmo)
    have body : wpAny (model X.prog X.w) X.A (call (.builtin "object.__ne__") [.ref ad, u]) (fun v s' => ∃ b, v = .bool b ∧ EP X pins σ Q (.bool b) s') X.xe s := by
      refine wpAny_call (codeAny_call_builtin ne_slot.plain PySem.F.cmpEntry_ne (PySem.W.check_slot PySem.F.cmpKind_ne PySem.F.cmpSplit_ne t2 (PySem.F.cmpArgs_ne _ _) ?_))
      have hcall : wpAny (model X.prog X.w) X.A.in1 (callSpecialIfBound? (.ref ad) (Str.ofString "__eq__") [u]) (fun r s' => ∃ b, r = some (.bool b) ∧ EP X pins σ Q (.bool (!b)) s') X.xe s := by
        refine PySem.W.ifBound_K XK J hs hf (wpAny_mono (run_fnR1 (us := [.ref ad, u]) (vs := [.ref ad, y]) (E := E) F hr (hx σ) I (.cons rfl (.cons ry .nil)) hsp) (fun r s' z => ?_) fun _ _ z => z)
        obtain ⟨z1, H', I', rz, b, rfl, qb⟩ := z
        cases (show r = Value.bool b from rz)
        exact ⟨b, rfl, .bl (!b), H', I', rfl, qb⟩
      unfold Builtin.«object.__ne__»
      repeat (first
        | with_reducible refine wpAny_cRoomFor hu1 ?_
        | (refine wpAny_bind (m := callSpecialIfBound? (.ref ad) (Str.ofString "__eq__") [u]) (wpAny_mono hcall (fun r s' hr => by
            obtain ⟨b, rfl, hq⟩ := hr
            repeat (first | exact ⟨_, rfl, hq⟩ | exact wpAny_pure ⟨_, rfl, hq⟩ | exact wpAny_truthy_bool ⟨_, rfl, hq⟩ | (refine wpAny_bind (m := truthy (.bool _)) (wpAny_truthy_bool ?_)) | wp_step)) fun _ _ e => e))
        | wp_step)
    have fin : wpAny (model X.prog X.w) X.A (call (.builtin "object.__ne__") ([.ref ad] ++ [u]) >>= fun v => pure (some v)) (fun a s' => wpAny (model X.prog X.w) X.A (match a with
        | some .notImplemented | none => pure none
        | some v => pure (some v)) (fun r s' => ∃ v, r = some v ∧ EP X pins σ Q v s') X.xe s') X.xe s := by
      refine wpAny_bind (wpAny_mono body (fun v s' h' => ?_) fun _ _ h' => h')
      obtain ⟨b, rfl, hq⟩ := h'
      exact wpAny_pure (wpAny_pure ⟨_, rfl, hq⟩)
    split
    · exact wpAny_bind (wpAny_pure (wpAny_pure fin))
    · exact wpAny_tryCatch (wpAny_bind (wpAny_pure (wpAny_pure fin)))
  unfold richCompare
  simp only [oneThing_ref]
  refine wpAny_holding (wpAny_bind (wpAny_cRoomFor hu ?_))
  refine wpAny_bind (J.type.here (wpAny_bind (hl.here ?_)))
  split
  · rename_i q
    have e : PySem.W.subIn X.K tb (.ref C) = some false := by
      rcases Bool.or_eq_true_iff.mp hn with e | e
      · rw [beq_iff_eq.mp e] at q; simp at q
      · exact beq_iff_eq.mp e
    refine wpAny_bind ((PySem.W.looks_subIn XK e).here ?_)
    simp only [Bool.false_eq_true, if_false]
    refine wpAny_bind (wpAny_mono one (fun r s' z => ?_) fun _ _ e => e)
    obtain ⟨v, rfl, hq⟩ := z
    exact wpAny_pure hq
  · refine wpAny_bind (wpAny_pure ?_)
    simp only [Bool.false_eq_true, if_false]
    refine wpAny_bind (wpAny_mono one (fun r s' z => ?_) fun _ _ e => e)
    obtain ⟨v, rfl, hq⟩ := z
    exact wpAny_pure hq
/-- x op y, both of one class, by its own method -/
theorem bin_own {op : Operator} {CX : CXT} {k : Nat} {E : L2.St → XK} (hr : Room k X.A) (hx : ∀ σ, PassesAt CX X σ (E σ)) :
    OpSl X (binaryOp op) (fun σ x y H Q => ∃ a C dx fs sp b dy gs, x = .ref a ∧ H a = some (.ins C dx fs) ∧ y = .ref b ∧ H b = some (.ins C dy gs) ∧ PySem.W.selfFirst X.K C = true ∧ OwnOp X CX k C (PySem.dunder op.info.2) sp ∧ sp [x, y] H Q (E σ)) := by
  intro pins s σ H x y v u Q I rx ry q
  obtain ⟨ad, C, dx, fs, sp, bd, dy, gs, rfl, ha, rfl, hb', hc, ⟨f, hs, hf, F⟩, hsp⟩ := q
  cases (show v = Value.ref ad from rx)
  cases (show u = Value.ref bd from ry)
  obtain ⟨mA, J, _⟩ := ins_get I.hok ha
  obtain ⟨mB, J', _⟩ := ins_get I.hok hb'
  obtain ⟨od, J, _⟩ := J.look
  obtain ⟨od', J', _⟩ := J'.look
  obtain ⟨m, hF⟩ := I.fr
  refine PySem.W.binop_K hF I.ok.mod.kin J J'.type hc hs hf ?_
  refine wpAny_mono (run_fnRS (us := [.ref ad, .ref bd]) (vs := [.ref ad, .ref bd]) F hr (hx σ) I (.cons rfl (.cons rfl .nil)) hsp) (fun r s' z => ?_) fun _ _ z => z
  exact cmp_back z
/-- x in o, by o's own __contains__ that answers a truth value -/
theorem in_own {CX : CXT} {k : Nat} {E : L2.St → XK} (hr : Room k X.A) (hx : ∀ σ, PassesAt CX X σ (E σ)) :
    OpSl X (compareOp .In) (fun σ x y H Q => ∃ a C dx fs sp, y = .ref a ∧ H a = some (.ins C dx fs) ∧ OwnOp X CX k C "__contains__" sp ∧ sp [y, x] H (fun v H' => ∃ b, v = .bl b ∧ Q (.bl b) H') (E σ)) := by
  intro pins s σ H x y v u Q I rx ry q
  obtain ⟨ad, C, dx, fs, sp, rfl, ha, ⟨f, hs, hf, F⟩, hsp⟩ := q
  cases (show u = Value.ref ad from ry)
  obtain ⟨mA, J, _⟩ := ins_get I.hok ha
  obtain ⟨od, J, _⟩ := J.look
  obtain ⟨m, hF⟩ := I.fr
  refine PySem.W.in_K hF I.ok.mod.kin J hs hf ?_
  refine wpAny_mono (run_fnRS (us := [.ref ad, v]) (vs := [.ref ad, x]) F hr (hx σ) I (.cons rfl (.cons rx .nil)) hsp) (fun r s' z => ?_) fun _ _ z => z
  obtain ⟨z1, H', I', rz, b, rfl, qb⟩ := z
  cases (show r = Value.bool b from rz)
  exact wpAny_truthy_bool ⟨.bl b, H', I', rfl, qb⟩
/-- x not in o -/
theorem notin_own {CX : CXT} {k : Nat} {E : L2.St → XK} (hr : Room k X.A) (hx : ∀ σ, PassesAt CX X σ (E σ)) :
    OpSl X (compareOp .NotIn) (fun σ x y H Q => ∃ a C dx fs sp, y = .ref a ∧ H a = some (.ins C dx fs) ∧ OwnOp X CX k C "__contains__" sp ∧ sp [y, x] H (fun v H' => ∃ b, v = .bl b ∧ Q (.bl (!b)) H') (E σ)) := by
  intro pins s σ H x y v u Q I rx ry q
  obtain ⟨ad, C, dx, fs, sp, rfl, ha, ⟨f, hs, hf, F⟩, hsp⟩ := q
  cases (show u = Value.ref ad from ry)
  obtain ⟨mA, J, _⟩ := ins_get I.hok ha
  obtain ⟨od, J, _⟩ := J.look
  obtain ⟨m, hF⟩ := I.fr
  refine PySem.W.notIn_K hF I.ok.mod.kin J hs hf ?_
  refine wpAny_mono (run_fnRS (us := [.ref ad, v]) (vs := [.ref ad, x]) F hr (hx σ) I (.cons rfl (.cons rx .nil)) hsp) (fun r s' z => ?_) fun _ _ z => z
  obtain ⟨z1, H', I', rz, b, rfl, qb⟩ := z
  cases (show r = Value.bool b from rz)
  exact wpAny_truthy_bool ⟨.bl (!b), H', I', rfl, qb⟩
theorem pe_opS {op : Operator} (ho : OpSl X (binaryOp op) r) (ha : PE X a ta) (hb : PE X b tb) : PE X (.BinOp a op b pos) (fun σ H Q => ta σ H fun x H1 => tb σ H1 fun y H2 => r σ x y H2 Q) := by
  refine ⟨fun pins s σ H Q I h => ?_⟩
  exact wpAny_BinOp (binT ha hb I h fun v u s2 x y H2 I2 rx ry q => ho pins s2 σ H2 x y v u Q I2 rx ry q)
theorem pe_cmpS {op : CmpOp} (ho : OpSl X (compareOp op) r) (ha : PE X a ta) (hb : PE X b tb) (hm : behindInMarks op b = false) : PE X (.Compare a [op] [b] pos) (fun σ H Q => ta σ H fun x H1 => tb σ H1 fun y H2 => r σ x y H2 Q) := by
  refine ⟨fun pins s σ H Q I h => ?_⟩
  exact wpAny_Compare1 (binT ha hb I h fun v u s2 x y H2 I2 rx ry q => ho pins s2 σ H2 x y v u Q I2 rx ry q) hm
theorem pt_cmpS {op : CmpOp} (ho : OpSl X (compareOp op) r) (ha : PE X a ta) (hb : PE X b tb) (hm : behindInMarks op b = false) : PT X (.Compare a [op] [b] pos) (fun σ H Q => ta σ H fun x H1 => tb σ H1 fun y H2 => r σ x y H2 fun z H3 => ∃ k, TruV X.K z H3 k ∧ Q k H3) := by
  refine ⟨fun pins s σ H Q I h => ?_⟩
  refine wpAny_isTrue_Compare1 (thn (ha.run pins s σ H _ I h) fun v s1 ⟨x, H1, I1, r1, q1⟩ => thn (hb.run pins s1 σ H1 _ I1 q1) fun u s2 ⟨y, H2, I2, r2, q2⟩ =>
    thn (ho pins s2 σ H2 x y v u _ I2 r1 r2 q2) fun c s3 ⟨z, H3, I3, r3, k, e, q3⟩ => ?_) hm
  exact tru_ok pins s3 σ H3 z c Q I3 r3 ⟨k, e, q3⟩
end
end Rf
set_option Elab.async false
set_option linter.all false
set_option maxRecDepth 100000
set_option maxHeartbeats 4000000
/-! set comprehensions, whatever the set holds -/
namespace Rf
open PySem L2 PySem.Spec PyProof.Rows PpSet
/-- what a new set is as it stands empty -/
abbrev set0 (w : World) : Obj := { cls := .type "set", dict := none, data := .set #[] 0 (.fresh 0 0 (!w.params.followText "set-order")) }
/-- a family of sets: how they stand, what is put in, what then stands -/
structure SetFam (P : Program) (w : World) (K : PySem.W.Frag) where
  α : Type
  β : Type
  O : Addr → α → HO
  e0 : α
  ok : β → α → Hp → V → Prop
  nxt : β → α → α → Prop
  new : ∀ {H : Hp} {h : Heap} {D : Addr}, h.get? D = some (set0 w) → ObjOk P w H h D (O D e0)
  put : ∀ {X : Cx} {pins : List (Addr × Obj)} {s : Shared} {σ : L2.St} {H : Hp} {D : Addr} {a : α} {b : β} {y : V} {u : Value} {Q : VK}, X.prog = P → X.w = w → X.K = K → X.calm = true → Inv X pins σ H s → H D = some (O D a) → ok b a H y → RelV y u → (∀ a', nxt b a a' → Q .non (upd H D (O D a'))) →
    wpAny (model X.prog X.w) X.A (call (.builtin "set.add") [.ref D, u]) (EP X pins σ Q) X.xe s
section
variable {X : Cx}
def tGs {P : Program} {w : World} {K : PySem.W.Frag} (Fm : SetFam P w K) (wi : TI) (g : TG) (tt : TT) (te : TE) (vs : List Nat) : TE := fun σ H Q => wi σ H fun J H1 => ∀ D, H1 D = none → ∃ W : Nat → Nat → Hp → Prop, (∃ m, W 0 m (upd H1 D (Fm.O D Fm.e0))) ∧ ∀ i m H, W i m H →
  (J.stop i H ∧ Q (.ref D) H) ∨ (J.go i H ∧ ∃ Nx : Hp → Prop, (∀ H', Nx H' → ∃ m', m' < m ∧ W (i + 1) m' H') ∧ ∀ x H', J.yld i H x H' → g x (wipe σ vs) H' fun σ2 H2 => wipe σ2 vs = wipe σ vs ∧ tt σ2 H2 fun b H3 =>
    if b = true then te σ2 H3 fun y H4 => ∃ (a : Fm.α) (bb : Fm.β), H4 D = some (Fm.O D a) ∧ Fm.ok bb a H4 y ∧ ∀ a', Fm.nxt bb a a' → Nx (upd H4 D (Fm.O D a')) else Nx H3)
/-- {elt for tg in iter if ..} -/
theorem pe_gs {elt tg iter : Expr} {ifs : List Expr} {scope : Scope} {own : List (PySem.Str × Nat)} {pos : Pos} {wi : TI} {g : TG} {tt : TT} {te : TE} (Fm : SetFam X.prog X.w X.K) (hc : X.calm = true) (hN : X.N.Nodup) (hi : PI X tg iter wi) (ok : BlkOk X.N X.env.scope scope own)
    (hg : ∀ (s : Shared) (H : Hp) (C : Addr) (cl : List (PySem.Str × Addr)) (fp : List Addr), PG (X.blk s H scope (compEnvC scope cl C X.env) fp) tg g) (ht : ∀ (s : Shared) (H : Hp) (C : Addr) (cl : List (PySem.Str × Addr)) (fp : List Addr), PTs (X.blk s H scope (compEnvC scope cl C X.env) fp) ifs tt)
    (he : ∀ (s : Shared) (H : Hp) (C : Addr) (cl : List (PySem.Str × Addr)) (fp : List Addr), PE (X.blk s H scope (compEnvC scope cl C X.env) fp) elt te) (hs : ∀ x, foldedSetIterable iter X.env x = pure x) :
    PE X (.SetComp elt [⟨tg, iter, ifs, 0⟩] scope pos) (tGs Fm wi g tt te (own.map (·.2))) := by
  refine ⟨fun pins s σ H Q I h => ?_⟩
  rw [eval_SetComp]
  have cell : ∀ y ∈ scope.names, y.2 = .free → ∃ c, X.env.cells.lookup y.1 = some c := fun y hy e => (ok.free y hy e).elim (fun k => I.ok.has _ (.inl k)) (fun k => I.ok.has _ (.inr k))
  refine wpAny_comprehension_free (use := none) rfl hs (closure_ok cell) ok.kind (fun y hy e => (ok.uniq y hy).trans (congrArg some e)) (thn (hi.run pins s σ H _ I h) fun xv sa ha => thn ha fun itv sb hb => ?_)
  obtain ⟨it, fp, tn, J, Hb, rfl, Ib, T, stb, fb, q⟩ := hb
  refine newSet_ok (newEnv_comp ?_)
  obtain ⟨D, hD⟩ : ∃ D, sb.heap.objs.size = D := ⟨_, rfl⟩
  rw [hD]
  obtain ⟨W, ⟨m0, w0⟩, turn⟩ := q D (Ib.hok.fresh (Nat.le_of_eq hD))
  -- the set stands
  obtain ⟨sc, hsc⟩ : ∃ sc : Shared, sc = { sb with heap := sb.heap.push (set0 X.w) } := ⟨_, rfl⟩
  have hch : sc.heap = sb.heap.push (set0 X.w) := by rw [hsc]
  have Ic : Inv X pins σ (upd Hb D (Fm.O D Fm.e0)) sc := by
    rw [hsc]
    exact Ib.laid (t' := sb.toks) (fun b o e => Heap.get?_push_of_some _ e) (Nat.le_of_eq hD) (Fm.new (by rw [← hD]; exact Heap.get?_push_size _ rfl))
  have small : ∀ b ∈ fp, b < sb.heap.objs.size := fun b hb => by
    obtain ⟨o, e, _⟩ := T.obj _ _ stb b hb
    exact Heap.lt_size e
  have fc : ∀ b ∈ fp, FpOk X pins (upd Hb D (Fm.O D Fm.e0)) b ∧ b < sc.heap.objs.size := fun b hb => by
    have lt := small b hb
    exact ⟨⟨by rw [upd_ne (by rw [← hD]; exact Nat.ne_of_lt lt)]; exact (fb b hb).1, (fb b hb).2⟩, by rw [hch, Heap.size_push]; exact Nat.lt_succ_of_lt lt⟩
  have stc : tn 0 sc.heap := T.keep _ _ _ stb fun b _ o e => by rw [hch]; exact Heap.get?_push_of_some _ e
  have Id := block_start Ic ok hN fc
  have pg := hg sc (upd Hb D (Fm.O D Fm.e0)) sc.heap.objs.size (cellsFrom (sc.heap.objs.size + 1) scope.names (cloFrom X.env.cells scope.names [])) fp
  have pt := ht sc (upd Hb D (Fm.O D Fm.e0)) sc.heap.objs.size (cellsFrom (sc.heap.objs.size + 1) scope.names (cloFrom X.env.cells scope.names [])) fp
  have pe := he sc (upd Hb D (Fm.O D Fm.e0)) sc.heap.objs.size (cellsFrom (sc.heap.objs.size + 1) scope.names (cloFrom X.env.cells scope.names [])) fp
  rw [← hsc]
  show codeAny _ _ (.compStart (.SetComp elt [⟨tg, iter, ifs, 0⟩] scope pos) 0 (.ref it) (.ref D) (compEnvC scope (cellsFrom (sc.heap.objs.size + 1) scope.names (cloFrom X.env.cells scope.names [])) sc.heap.objs.size X.env)) (compPost (model X.prog X.w) X.A X.xe none (EP X pins σ Q) (.ref D) sc.heap.objs.size) { sc with heap := pushCells (sc.heap.push { cls := .type "dict", data := .dict #[] }) scope.names }
  obtain ⟨ce, hce⟩ : ∃ ce, compEnvC scope (cellsFrom (sc.heap.objs.size + 1) scope.names (cloFrom X.env.cells scope.names [])) sc.heap.objs.size X.env = ce := ⟨_, rfl⟩
  rw [hce] at Id pg pt pe ⊢
  have cL : ce.locals = sc.heap.objs.size := by rw [← hce]; rfl
  have none_fp : ∀ b ∈ fp, (upd Hb D (Fm.O D Fm.e0)) b = none := fun b hb => (fc b hb).1.1
  obtain ⟨Hc, hHc⟩ : ∃ Hc, upd Hb D (Fm.O D Fm.e0) = Hc := ⟨_, rfl⟩
  rw [hHc] at Ic Id pg pt pe w0 none_fp fc
  obtain ⟨sd, hsd⟩ : ∃ sd : Shared, sd = { sc with heap := pushCells (sc.heap.push { cls := .type "dict", data := .dict #[] }) scope.names } := ⟨_, rfl⟩
  rw [← hsd] at Id ⊢
  have std : tn 0 sd.heap := T.keep _ _ _ stc fun b _ o e => by rw [hsd]; exact pushCells_keeps _ _ _ _ (Heap.get?_push_of_some _ e)
  have stat : ∀ {σ' : L2.St} {H' : Hp} {s' : Shared}, Inv (X.blk sc Hc scope ce fp) [] σ' H' s' → (∀ b ∈ fp, H' b = none) → ∀ b ∈ fp, FpOk (X.blk sc Hc scope ce fp) [] H' b := fun {σ' H' s'} I' hn b hb =>
    ⟨hn b hb, (I'.ok.exf b hb).1, I'.ok.exfs b hb, .inl hb, fun x c e => (I'.ok.exf b hb).2 x c e, fun p hp => by cases hp⟩
  have loop : codeAny (model X.prog X.w) X.A (.compLoop (.SetComp elt [⟨tg, iter, ifs, 0⟩] scope pos) 0 (.ref it) (.ref D) ce) (compPost (model X.prog X.w) X.A X.xe none (EP X pins σ Q) (.ref D) sc.heap.objs.size) sd := by
    refine compLoopS_any (fun k s' => ∃ i H', Inv (X.blk sc Hc scope ce fp) [] (wipe σ (own.map (·.2))) H' s' ∧ tn i s'.heap ∧ (∀ b ∈ fp, H' b = none) ∧ W i k H') ?_ m0 ⟨0, Hc, Id, std, none_fp, w0⟩
    rintro k se ⟨i, He, Ie, ste, ne, we⟩
    rcases turn i k He we with ⟨stop, fin⟩ | ⟨go, Nx, hNx, step⟩
    · -- it is over: back where we were
      refine thnF (T.done (X.blk sc Hc scope ce fp) rfl rfl rfl hc i [] se _ He (fun _ _ => False) Ie (stat Ie ne) ste stop) fun r sf ⟨hr, If⟩ => ?_
      subst hr
      have Ig : Inv X pins σ He sf := Ic.call' (ch := fp) If.os If.base If.hok If.bare fun b hb => ⟨(fc b hb).1.2.2.2.1, (fc b hb).1.2.1, (fc b hb).1.2.2.2.2.1, (fc b hb).1.2.2.2.2.2⟩
      have nC : He sc.heap.objs.size = none := cL ▸ If.free
      obtain ⟨m, hn, _⟩ := If.loc
      have hn : sf.heap.Ns ce.locals m := hn
      rw [cL] at hn
      obtain ⟨f0, f1, f2, f3, f4, f5⟩ := Ic.fpOk (Nat.le_refl _) nC
      exact ⟨m, hn, fun h2 sb => ⟨.ref D, He, Ig.turned (t' := sf.toks) (fun b o hb e => (sb.2 b hb).trans e) f0 f1 f3 f4 f5, rfl, fin⟩⟩
    · -- one turn more
      refine thnF (T.item (X.blk sc Hc scope ce fp) rfl rfl rfl hc i [] se _ He (fun _ _ => False) Ie (stat Ie ne) ste go) fun r sf ⟨u, hr, hf⟩ => ?_
      subst hr
      refine thnF hf fun _ sg ⟨x, Hg, Ig, rg, yg, stg, ng⟩ => ?_
      have Ig' := Ig.pinned (stat Ig ng) (T.obj _ _ stg)
      refine thnF (pg.run _ sg _ Hg x u _ Ig' rg (step x Hg yg)) fun _ sh ⟨σh, Hh, Ih, wh, qh⟩ => ?_
      refine thnF (pt.run _ sh σh Hh _ Ih qh) fun b sj ⟨Hj, Ij, qj⟩ => ?_
      have back : ∀ {s' : Shared} {H' : Hp}, Inv (X.blk sc Hc scope ce fp) ([] ++ pinsAt fp sg.heap) σh H' s' → Nx H' → ∃ m, m < k ∧ ∃ i H', Inv (X.blk sc Hc scope ce fp) [] (wipe σ (own.map (·.2))) H' s' ∧ tn i s'.heap ∧ (∀ b ∈ fp, H' b = none) ∧ W i m H' := fun {s' H'} I' nx => by
        obtain ⟨m', lt, w'⟩ := hNx H' nx
        have kept : ∀ b ∈ fp, ∀ o, sg.heap.get? b = some o → s'.heap.get? b = some o ∧ H' b = none := fun b hb o e => by
          have z := I'.pin (b, o) (List.mem_append_right _ (List.mem_append_right _ (mem_pinsAt hb e)))
          exact ⟨z.1, z.2.1⟩
        refine ⟨m', lt, i + 1, H', (I'.unpinned (pins := [])).weak (by rw [← wh, wipe_length]) (fun j v e => ?_), T.keep _ _ _ stg fun b hb o e => (kept b hb o e).1, fun b hb => ?_, w'⟩
        · rw [← wh] at e
          exact (wipe_some e).1
        · obtain ⟨o, e, _⟩ := T.obj _ _ stg b hb
          exact (kept b hb o e).2
      cases b with
      | false => exact back Ij qj
      | true =>
        refine thnF (pe.run _ sj σh Hj _ Ij qj) fun z sk ⟨yv, Hk, Ik, rk, a, bb, hDk, okk, nx⟩ => ?_
        refine thnF (Fm.put (X := X.blk sc Hc scope ce fp) (Q := fun y H' => y = .non ∧ Nx H') rfl rfl rfl hc Ik hDk okk rk fun a' ha' => ⟨rfl, nx a' ha'⟩) fun _ sl ⟨_, Hl, Il, _, _, nl⟩ => back Il nl
  exact codeAny_compStart_set loop (T.self X.A 0 _ _ _ std loop)
end
/-! ### ints -/
def famI (P : Program) (w : World) (K : PySem.W.Frag) : SetFam P w K where
  α := (Int → Bool) × Nat
  β := Int
  O := fun D a => SetO w D a.1 a.2
  e0 := (fun _ => false, 0)
  ok := fun k a _ y => y = .int k ∧ a.2 + 1 < scanBound
  nxt := fun k a a' => a' = (fun j => a.1 j || decide (j = k), if a.1 k = true then a.2 else a.2 + 1)
  new := fun {H h D} e => by
    refine setO_new ?_
    have z := setR_new_at (w := w) (ns := []) e
    exact z.congr fun k => by simp
  put := fun {X pins s σ H D a b y u Q} hP hw hK hc I hD ho r q => by
    subst hP hw
    obtain ⟨rfl, hb⟩ := ho
    exact mt_sadd pins s σ H (.ref D) [.int b] (.ref D) [u] Q I rfl (.cons r .nil) ⟨D, b, a.1, a.2, rfl, rfl, hD, hb, q _ rfl⟩
end Rf
set_option Elab.async false
set_option linter.all false
set_option maxRecDepth 100000
set_option maxHeartbeats 4000000
/-! G7: the check of a text, what its expressions read as -/
namespace Rf
open PySem L2 PySem.Spec PyProof.Rows

/-! ### weaker: what is frozen stays -/
structure Le (w w' : W) : Prop where
  z : ∀ a, w.Z a → w'.Z a
  ι : ∀ i, i < w.h.length → w'.ι i = w.ι i
  len : w.h.length ≤ w'.h.length
  kz : ∀ a o, w.Z a → w.H a = some o → w'.H a = some o
  kn : ∀ a o, ¬ Soft o → w.H a = some o → w'.H a = some o
theorem Le.refl (w : W) : Le w w := ⟨fun _ h => h, fun _ _ => rfl, Nat.le_refl _, fun _ _ _ h => h, fun _ _ _ h => h⟩
theorem Le.trans {w w1 w2 : W} (a : Le w w1) (b : Le w1 w2) : Le w w2 :=
  ⟨fun x h => b.z x (a.z x h), fun i hi => (b.ι i (Nat.lt_of_lt_of_le hi a.len)).trans (a.ι i hi), Nat.le_trans a.len b.len, fun x o z h => b.kz x o (a.z x z) (a.kz x o z h), fun x o n h => b.kn x o n (a.kn x o n h)⟩
theorem Ext.le {G : Gm} {w w' : W} (ok : WOk G w) (e : Ext w w') : Le w w' :=
  ⟨e.z, e.ι, e.len, fun _ _ z h => e.zkeep ok z h, fun _ _ n h => e.frz ok h n⟩
section
variable {G : Gm} {w w' : W}
theorem Le.tup (e : Le w w') {a : Addr} {vs : List V} (h : SqT G.K w.H a vs) : SqT G.K w'.H a vs := by
  rcases h with (h | ⟨o, h⟩) | h
  · exact .inl (.inl (e.kn _ _ (fun z => z) h))
  · exact .inl (.inr ⟨o, e.kn _ _ (fun z => z) h⟩)
  · exact .inr h
theorem Le.fzl (e : Le w w') {a : Addr} {vs : List V} (h : FzL G.K w a vs) : FzL G.K w' a vs := by
  rcases h with ⟨z, h⟩ | ⟨o, h⟩ | h
  · exact .inl ⟨e.z a z, e.kz _ _ z h⟩
  · exact .inr (.inl ⟨o, e.kn _ _ (fun z => z) h⟩)
  · exact .inr (.inr h)
mutual
theorem Rep.le (e : Le w w') : ∀ {d : D} {v : V}, Rep G w d v → Rep G w' d v
  | _, _, .non => .non
  | _, _, .bl b => .bl b
  | _, _, .int i => .int i
  | _, _, .str x hx => .str x hx
  | _, _, .tup h r => .tup (e.tup h) (Reps.le e r)
  | _, _, .lst h r => .lst (e.fzl h) (Reps.le e r)
  | _, _, .dk z h r => .dk (e.z _ z) (e.kz _ _ z h) (RepK.le e r)
  | _, _, .dt z h r => .dt (e.z _ z) (e.kz _ _ z h) (RepT.le e r)
  | _, _, .ins hc z h r => .ins hc (e.z _ z) (e.kz _ _ z h) (RepF.le e r)
  | _, _, .cell i hi => by
    have h := Rep.cell (G := G) (w := w') i (Nat.lt_of_lt_of_le hi e.len)
    rw [e.ι i hi] at h
    exact h
theorem Reps.le (e : Le w w') : ∀ {ds : List D} {vs : List V}, Reps G w ds vs → Reps G w' ds vs
  | _, _, .nil => .nil
  | _, _, .cons h r => .cons (Rep.le e h) (Reps.le e r)
theorem RepK.le (e : Le w w') : ∀ {ds : List (Key × D)} {vs : List (Key × V)}, RepK G w ds vs → RepK G w' ds vs
  | _, _, .nil => .nil
  | _, _, .cons h r => .cons (Rep.le e h) (RepK.le e r)
theorem RepT.le (e : Le w w') : ∀ {ds : List (List Key × D)} {vs : List (List Key × V)}, RepT G w ds vs → RepT G w' ds vs
  | _, _, .nil => .nil
  | _, _, .cons h r => .cons (Rep.le e h) (RepT.le e r)
theorem RepF.le (e : Le w w') : ∀ {ds : List (Nat × D)} {vs : List (Str × V)}, RepF G w ds vs → RepF G w' ds vs
  | _, _, .nil => .nil
  | _, _, .cons h r => .cons (Rep.le e h) (RepF.le e r)
end
end

/-! ### the check -/
structure Tab where
  fns : List (Str × Option Str)
  cls : List Str
  exc : List Str
  gn : List Str
  fld : List Str
  mks : List Nat
  rai : List Nat
  kfs : List (Nat × Nat × List Str) := []
structure Ck where
  T : Tab
  N : List Str
  calm : Bool
def names0 : List Str := ["len", "int", "bool", "str", "list", "tuple", "abs", "max", "min", "sum", "sorted", "all", "any", "range", "isinstance", "dict", "enumerate", "ValueError", "set", "iter"]
def isGl (sc : Scope) (x : Str) : Bool := sc.names.lookup x == some .globalImplicit && !(x == ("__debug__" : Str))
def isVis (sc : Scope) (x : Str) : Bool := (match sc.names.lookup x with | some .local => true | some .cell => true | some .free => true | _ => false) && !(x == ("__debug__" : Str)) && !(x == ("__classdict__" : Str))
def isLoc (sc : Scope) (x : Str) : Bool := match sc.names.lookup x with | some .local => true | some .cell => true | _ => false
def plainB : Expr → Bool
  | .Starred .. => false
  | .Slice .. => false
  | .Set .. => false
  | _ => true
/-- a test that is plain truth -/
def tstB : Expr → Bool
  | .UnaryOp .Not _ _ => false
  | .BoolOp .. => false
  | .IfExp .. => false
  | .Compare .. => false
  | _ => true
def ckBop : BOp → Operator → Bool
  | .add, .Add | .sub, .Sub | .mul, .Mult | .fdiv, .FloorDiv | .mod, .Mod | .pow, .Pow => true
  | _, _ => false
def ckCop : COp → CmpOp → Bool
  | .eq, .Eq | .ne, .NotEq | .lt, .Lt | .le, .LtE | .gt, .Gt | .ge, .GtE | .is, .Is | .isnot, .IsNot | .isin, .In | .notin, .NotIn => true
  | _, _ => false
def ckTy (T : Tab) : Ty → Str → Bool
  | .own c, x => T.cls[c]? == some x
  | .int, x => x == "int" | .bool, x => x == "bool" | .str, x => x == "str" | .list, x => x == "list" | .tuple, x => x == "tuple" | .dict, x => x == "dict"
def ckXt (T : Tab) : Xt → Str → Bool
  | .own c, x => decide (T.cls.length ≤ c) && (T.cls ++ T.exc)[c]? == some x
  | .val, x => x == "ValueError"
def ckNm (C : Ck) (sc : Scope) (i : Nat) : Expr → Bool
  | .Name x _ => C.N[i]? == some x && isLoc sc x
  | _ => false
def ckNms (C : Ck) (sc : Scope) : List Nat → List Expr → Bool
  | [], [] => true
  | i :: is, e :: es => ckNm C sc i e && ckNms C sc is es
  | _, _ => false
def ckTg (C : Ck) (sc : Scope) : Tg → Expr → Bool
  | .name i, e => ckNm C sc i e
  | .tup is, e => match e with
    | .Tuple es _ _ => C.calm && ckNms C sc is es
    | _ => false
/-- a target's slots are the comprehension's own -/
def tgIn : Tg → List Nat → Bool
  | .name i, own => own.contains i
  | .tup is, own => is.all own.contains
def ownOf (N : List Str) (own : List Nat) : List (Str × Nat) := own.map fun i => (N.getD i "", i)
def blkB (N : List Str) (sc scope : Scope) (own : List Nat) : Bool :=
  scope.kind == .function && (scope.names.all fun y => scope.names.lookup y.1 == some y.2) && (own.all fun i => decide (i < N.length)) &&
  (scope.names.all fun y => if y.2 == .free then (match sc.names.lookup y.1 with | some .cell => true | some .free => true | _ => false) else true) &&
  (scope.names.all fun y => if y.2 == .local || y.2 == .cell then ((own.map fun i => N.getD i "").contains y.1 || !(N.contains y.1)) else true)
def noSup : Expr → Bool
  | .Call (.Name x _) [] [] _ => x != "super"
  | _ => true
def rglN : Bool → Str
  | true => "tuple"
  | false => "list"
def isRng : CI → Bool
  | .of _ => false
  | .ownI _ => false
  | _ => true
mutual
def ckE (C : Ck) (sc : Scope) : CE → Expr → Bool
  | .cst k, e => match e with
    | .Constant c _ _ => (match k, c with
      | .non, .none => true
      | .bl b, .bool c => b == c
      | .int i, .int j => i == j
      | .str x, .str y => x == y && decide (x.length ≤ LIM)
      | _, _ => false)
    | _ => false
  | .var i, e => match e with
    | .Name x _ => C.N[i]? == some x && isVis sc x
    | _ => false
  | .glob g, e => match e with
    | .Name x _ => C.T.gn[g]? == some x && isGl sc x
    | _ => false
  | .bin op a b, e => match e with
    | .BinOp l o r _ => ckBop op o && ckE C sc a l && ckE C sc b r
    | _ => false
  | .neg a, e => match e with
    | .UnaryOp .USub l _ => ckE C sc a l
    | _ => false
  | .cmp op a b, e => match e with
    | .Compare l [o] [r] _ => ckCop op o && ckE C sc a l && ckE C sc b r && plainB r
    | _ => false
  | .chain op op' a b c, e => match e with
    | .Compare l [o, o'] [m, r] _ => ckCop op o && ckCop op' o' && ckE C sc a l && ckE C sc b m && ckE C sc c r && plainB m && plainB r
    | _ => false
  | .and as, e => match e with
    | .BoolOp .And vs _ => ckL C sc as vs
    | _ => false
  | .or as, e => match e with
    | .BoolOp .Or vs _ => ckL C sc as vs
    | _ => false
  | .not a, e => match e with
    | .UnaryOp .Not l _ => ckE C sc a l
    | _ => false
  | .ife t a b, e => match e with
    | .IfExp x y z _ => ckE C sc t x && ckE C sc a y && ckE C sc b z && ckT C sc t
    | _ => false
  | .tup as, e => match e with
    | .Tuple es _ _ => ckEs C sc as es
    | _ => false
  | .lst as, e => match e with
    | .List es _ => ckEs C sc as es
    | _ => false
  | .sub a i, e => match e with
    | .Subscript l s _ => ckE C sc a l && ckE C sc i s && plainB s
    | _ => false
  | .slice a lo hi, e => match e with
    | .Subscript l (.Slice u v none _) _ => ckE C sc a l && ckO C sc lo u && ckO C sc hi v
    | _ => false
  | .call f as, e => match e with
    | .Call (.Name x _) es [] _ => C.calm && C.T.fns[f]? == some (x, none) && isGl sc x && ckEs C sc as es && !(es.any fun e => !plainB e)
    | _ => false
  | .blt b as, e => match e with
    | .Call (.Name x _) es [] _ => C.calm && x == bnm b && isGl sc x && ckEs C sc as es && !(es.any fun e => !plainB e) && !es.isEmpty
    | _ => false
  | .bm m o as, e => match e with
    | .Call (.Attribute l x p2) es [] p => x == bmNm m && noSup l && p2.endLine == p.line && ckE C sc o l && ckEs C sc as es && (match es with
      | [] => true
      | [e] => plainB e
      | _ => false)
    | _ => false
  | .meth o m as, e => match e with
    | .Call (.Attribute l x p2) es [] p => C.calm && C.T.fld[m]? == some x && noSup l && p2.endLine == p.line && ckE C sc o l && ckEs C sc as es && !(es.any fun e => !plainB e) && decide (es.length < 30)
    | _ => false
  | .attr o f, e => match e with
    | .Attribute l x _ => C.T.fld[f]? == some x && noSup l && ckE C sc o l
    | _ => false
  | .make c as, e => match e with
    | .Call (.Name x _) es [] _ => C.calm && C.T.mks.contains c && C.T.cls[c]? == some x && isGl sc x && ckEs C sc as es && !(es.any fun e => !plainB e)
    | _ => false
  | .isi a t, e => match e with
    | .Call (.Name x _) [l, .Name y _] [] _ => x == "isinstance" && isGl sc x && ckE C sc a l && plainB l && ckTy C.T t y && isGl sc y
    | _ => false
  | .lc elt own t src cond, e => match e with
    | .ListComp el [⟨tg, it, ifs, 0⟩] scope _ => C.calm && ckI C sc src it && plainB it && blkB C.N sc scope own && tgIn t own && ckTg C scope t tg && ckE C (relS scope sc) elt el && ckC C (relS scope sc) cond ifs
    | _ => false
  | .newc as, e => match e with
    | .List es _ => ckEs C sc as es
    | _ => false
  | .callb f as, e => match e with
    | .Call (.Name x _) es [] _ => C.calm && C.T.fns[f]? == some (x, none) && isGl sc x && ckEs C sc as es && !(es.any fun e => !plainB e)
    | _ => false
  | .makeb c as, e => match e with
    | .Call (.Name x _) es [] _ => C.calm && C.T.mks.contains c && C.T.cls[c]? == some x && isGl sc x && ckEs C sc as es && !(es.any fun e => !plainB e)
    | _ => false
  | .makek k as ks, e => match e with
    | .Call (.Name x _) es kws _ => C.calm && (match C.T.kfs[k]? with
      | some (c, n, ns) => C.T.cls[c]? == some x && isGl sc x && ckEs C sc as es && !(es.any fun e => !plainB e) && !es.isEmpty && decide (kws.map (·.arg) = ns.map some) && ckKs C sc ks kws
      | none => false)
    | _ => false
  | .prop o m, e => match e with
    | .Attribute l x _ => C.calm && C.T.fld[m]? == some x && noSup l && ckE C sc o l
    | _ => false
  | .rgl t src, e => match e with
    | .Call (.Name x _) [l] [] _ => C.calm && x == rglN t && isGl sc x && plainB l && isRng src && ckI C sc src l
    | _ => false
  | .rev a, e => match e with
    | .Subscript l (.Slice none none (some (.UnaryOp .USub (.Constant (.int 1) _ _) _)) _) _ => ckE C sc a l
    | _ => false
  | .lset a, e => match e with
    | .Call (.Name x _) [.Call (.Name y _) [l] [] _] [] _ => C.calm && x == "len" && isGl sc x && y == "set" && isGl sc y && plainB l && ckE C sc a l
    | _ => false
  | .ssc elt own t src cond, e => match e with
    | .Call (.Name x _) [.SetComp el [⟨tg, it, ifs, 0⟩] scope _] [] _ => C.calm && x == "sorted" && isGl sc x && ckI C sc src it && plainB it && blkB C.N sc scope own && tgIn t own && ckTg C scope t tg && ckE C (relS scope sc) elt el && ckC C (relS scope sc) cond ifs
    | _ => false
  | .cval c f, e => match e with
    | .Attribute (.Name x _) y _ => C.T.cls[c]? == some x && isGl sc x && C.T.fld[f]? == some y && x != "super"
    | _ => false
  | .inD neg k d, e => match e with
    | .Compare (.Name x _) [o] [.Name y _] _ => ckCop (if neg then .notin else .isin) o && C.N[k]? == some x && isVis sc x && C.N[d]? == some y && isVis sc y
    | _ => false
  | .lenO a, e => match e with
    | .Call (.Name x _) [l] [] _ => C.calm && x == "len" && isGl sc x && plainB l && ckE C sc a l
    | _ => false
  | .exIs i t, e => match e with
    | .Call (.Name x _) [.Name n _, .Name y _] [] _ => x == "isinstance" && isGl sc x && C.N[i]? == some n && isVis sc n && ckXt C.T t y && isGl sc y
    | _ => false
  | .exFld i f, e => match e with
    | .Attribute (.Name n _) x _ => C.T.fld[f]? == some x && C.N[i]? == some n && isVis sc n
    | _ => false
  | .lc2 elt own t src cond vs1 t1 src1 cond1, e => match e with
    | .ListComp el [⟨tg, it, ifs, 0⟩, ⟨tg1, it1, ifs1, 0⟩] scope _ => C.calm && ckI C sc src it && plainB it && blkB C.N sc scope own && tgIn t own && vs1.all own.contains && tgIn t1 vs1 && ckTg C scope t tg && ckTg C scope t1 tg1 &&
      ckE C (relS scope sc) elt el && ckC C (relS scope sc) cond ifs && ckI C (relS scope sc) src1 it1 && plainB it1 && ckC C (relS scope sc) cond1 ifs1
    | _ => false
/-- tests: nothing that the machine tests otherwise -/
def ckT (C : Ck) (sc : Scope) : CE → Bool
  | .ife _ _ _ => false
  | .and as => ckTs C sc as
  | .or as => ckTs C sc as
  | .not a => ckT C sc a
  | _ => true
def ckTs (C : Ck) (sc : Scope) : CEs → Bool
  | .nil => true
  | .cons a as => ckT C sc a && ckTs C sc as
  | .star _ _ => false
def ckEs (C : Ck) (sc : Scope) : CEs → List Expr → Bool
  | .nil, es => es.isEmpty
  | .cons a as, es => match es with
    | e :: es => plainB e && ckE C sc a e && ckEs C sc as es
    | [] => false
  | .star a as, es => match es with
    | .Starred e _ :: es => ckE C sc a e && ckEs C sc as es
    | _ => false
/-- keywords' values -/
def ckKs (C : Ck) (sc : Scope) : CEs → List Keyword → Bool
  | .nil, es => es.isEmpty
  | .cons a as, es => match es with
    | ⟨_, e, _⟩ :: es => ckE C sc a e && ckKs C sc as es
    | [] => false
  | .star _ _, _ => false
/-- operands of and, or -/
def ckL (C : Ck) (sc : Scope) : CEs → List Expr → Bool
  | .nil, _ => false
  | .star _ _, _ => false
  | .cons a .nil, es => match es with
    | [e] => ckE C sc a e
    | _ => false
  | .cons _ (.star _ _), _ => false
  | .cons a (.cons b bs), es => match es with
    | e :: e' :: es => ckE C sc a e && ckL C sc (.cons b bs) (e' :: es)
    | _ => false
def ckO (C : Ck) (sc : Scope) : CO → Option Expr → Bool
  | .none, e => e.isNone
  | .some a, e => match e with
    | some e => ckE C sc a e
    | none => false
def ckC (C : Ck) (sc : Scope) : CO → List Expr → Bool
  | .none, es => es.isEmpty
  | .some a, es => match es with
    | [e] => ckE C sc a e && ckT C sc a
    | _ => false
def ckI (C : Ck) (sc : Scope) : CI → Expr → Bool
  | .of a, e => ckE C sc a e
  | .rng1 a, e => match e with
    | .Call (.Name x _) [l] [] _ => x == "range" && isGl sc x && ckE C sc a l && plainB l
    | _ => false
  | .rng2 a b, e => match e with
    | .Call (.Name x _) [l, r] [] _ => x == "range" && isGl sc x && ckE C sc a l && ckE C sc b r && plainB l && plainB r
    | _ => false
  | .ownI a, e => C.calm && ckE C sc a e
end
end Rf
set_option Elab.async false
set_option linter.all false
set_option maxRecDepth 100000
set_option maxHeartbeats 4000000
/-! G8: expressions: what the check says is what the machine does -/
namespace Rf
open PySem L2 PySem.Spec PyProof.Rows

theorem PE.imp {X : Cx} {e : Expr} {t t' : TE} (h : PE X e t) (i : ∀ σ H Q, t' σ H Q → t σ H Q) : PE X e t' := ⟨fun pins s σ H Q I q => h.run pins s σ H Q I (i σ H Q q)⟩
theorem PT.imp {X : Cx} {e : Expr} {t t' : TT} (h : PT X e t) (i : ∀ σ H Q, t' σ H Q → t σ H Q) : PT X e t' := ⟨fun pins s σ H Q I q => h.run pins s σ H Q I (i σ H Q q)⟩
theorem PW.imp {X : Cx} {e : Expr} {t t' : TT} (h : PW X e t) (i : ∀ σ H Q, t' σ H Q → t σ H Q) : PW X e t' := ⟨fun wh pins s σ H Q I q => h.run wh pins s σ H Q I (i σ H Q q)⟩
theorem PA.imp {X : Cx} {es : List Expr} {t t' : TA} (h : PA X es t) (i : ∀ σ H Q, t' σ H Q → t σ H Q) : PA X es t' := ⟨fun p pins s σ H Q I q => h.run p pins s σ H Q I (i σ H Q q)⟩
theorem PO.imp {X : Cx} {e : Option Expr} {t t' : TO} (h : PO X e t) (i : ∀ σ H Q, t' σ H Q → t σ H Q) : PO X e t' := ⟨fun pins s σ H Q I q => h.run pins s σ H Q I (i σ H Q q)⟩
theorem PI.imp {X : Cx} {tg e : Expr} {t t' : TI} (h : PI X tg e t) (i : ∀ σ H Q, t' σ H Q → t σ H Q) : PI X tg e t' := ⟨fun pins s σ H Q I q => h.run pins s σ H Q I (i σ H Q q)⟩
theorem PG.imp {X : Cx} {e : Expr} {t t' : TG} (h : PG X e t) (i : ∀ v σ H Q, t' v σ H Q → t v σ H Q) : PG X e t' := ⟨fun pins s σ H v u Q I r q => h.run pins s σ H v u Q I r (i v σ H Q q)⟩
theorem PTs.imp {X : Cx} {es : List Expr} {t t' : TT} (h : PTs X es t) (i : ∀ σ H Q, t' σ H Q → t σ H Q) : PTs X es t' := ⟨fun pins s σ H Q I q => h.run pins s σ H Q I (i σ H Q q)⟩

/-! ### where one stands -/
abbrev PostF (G : Gm) (w : W) (r : Res D) (Q : VK) (E : XK) : Prop := Post G w r (fun d w' => ∀ v, Rep G w' d v → Q v w'.H) (fun x w' => ∀ cls dd, ExR G w' x cls dd → E cls dd w'.H)
/-- a def's promise: the table's answer -/
def spF (G : Gm) (F : FTab) (f : Nat) : Sp := fun vs H Q E => ∃ w ds, w.H = H ∧ WOk G w ∧ Reps G w ds vs ∧ PostF G w (F.call f ds w.h) Q E
/-- an __init__'s promise: the object stands empty, then with its fields -/
def spI (G : Gm) (F : FTab) (c : Nat) : Sp := fun vs H Q E => ∃ (w0 w : W) (ds : List D) (a dx : Addr) (vs' : List V), vs = .ref a :: vs' ∧ w.H = H ∧ WOk G w ∧ Ext w0 w ∧ w.h = w0.h ∧ c < G.nc ∧
  w.H a = some (.ins (G.ca c) dx []) ∧ ¬ w.Z a ∧ ¬ w.live a ∧ w0.H a = none ∧ Reps G w ds vs' ∧
  Post G w0 (F.ini c ds w0.h) (fun fs w' => ∀ dx' fvs, w'.H a = some (.ins (G.ca c) dx' fvs) → RepF G w' fs fvs → ¬ w'.Z a → ¬ w'.live a → Q .non w'.H) (fun x w' => ∀ cls dd, ExR G w' x cls dd → E cls dd w'.H)
/-- what is handed on: a datum, or an object of the caller's own -/
inductive ARep (G : Gm) (w : W) : Ar → V → Prop
  | d {x : D} {v : V} : Rep G w x v → ARep G w (.d x) v
  | b {o : Ob} {a : Addr} : ObAt G w a o → ¬ w.live a → ARep G w (.b o) (.ref a)
inductive AReps (G : Gm) (w : W) : List Ar → List V → Prop
  | nil : AReps G w [] []
  | cons {d : Ar} {ds : List Ar} {v : V} {vs : List V} : ARep G w d v → AReps G w ds vs → AReps G w (d :: ds) (v :: vs)
/-- a def's promise where objects are lent -/
def spFB (G : Gm) (F : FTab) (f : Nat) : Sp := fun vs H Q E => ∃ w as, w.H = H ∧ WOk G w ∧ AReps G w as vs ∧ PostF G w (F.callb f as w.h) Q E
def spIB (G : Gm) (F : FTab) (c : Nat) : Sp := fun vs H Q E => ∃ (w0 w : W) (as : List Ar) (a dx : Addr) (vs' : List V), vs = .ref a :: vs' ∧ w.H = H ∧ WOk G w0 ∧ WOk G w ∧ Ext w0 w ∧ w.h = w0.h ∧ c < G.nc ∧
  w.H a = some (.ins (G.ca c) dx []) ∧ ¬ w.Z a ∧ ¬ w.live a ∧ w0.H a = none ∧ AReps G w0 as vs' ∧
  Post G w0 (F.inib c as w0.h) (fun fs w' => ∀ dx' fvs, w'.H a = some (.ins (G.ca c) dx' fvs) → RepF G w' fs fvs → ¬ w'.Z a → ¬ w'.live a → Q .non w'.H) (fun x w' => ∀ cls dd, ExR G w' x cls dd → E cls dd w'.H)
/-- an __init__'s promise where keywords are written -/
def spKB (G : Gm) (F : FTab) (kf : KF) : List V → List V → Hp → VK → XK → Prop := fun vs zs H Q E => ∃ (w0 w : W) (as bs : List Ar) (a dx : Addr) (vs' : List V), vs = .ref a :: vs' ∧ w.H = H ∧ WOk G w0 ∧ WOk G w ∧ Ext w0 w ∧ w.h = w0.h ∧ kf.c < G.nc ∧
  w.H a = some (.ins (G.ca kf.c) dx []) ∧ ¬ w.Z a ∧ ¬ w.live a ∧ w0.H a = none ∧ AReps G w0 as vs' ∧ AReps G w0 bs zs ∧
  Post G w0 (F.inib kf.c (kf.app as bs) w0.h) (fun fs w' => ∀ dx' fvs, w'.H a = some (.ins (G.ca kf.c) dx' fvs) → RepF G w' fs fvs → ¬ w'.Z a → ¬ w'.live a → Q .non w'.H) (fun x w' => ∀ cls dd, ExR G w' x cls dd → E cls dd w'.H)
/-- exceptions' classes as values -/
def xtV (G : Gm) : Xt → Value
  | .own c => .ref (G.ca c)
  | .val => .type "ValueError"
/-- no exception is in hand, or the one that the suite holds -/
def HandB (X : Cx) (B : Bs) : Prop := B.xc = .none ∨ ∃ (X0 : Cx) (oe : Obj) (pn : List (Addr × Obj)), X = Cx.suite X0 B.xa ((B.xa, oe) :: pn) ∧ Zc B.xc B.xd oe ∧ ∃ vs, oe.data = .fields vs
structure TkB (X : Cx) (B : Bs) (Wx : WX) : Prop where
  tk : Takes X Wx
  hd : HandB X B
/-- a class's __iter__ that answers iter(self.fld) -/
def FnIt (G : Gm) (P : Program) (w : World) (K : PySem.W.Frag) (mg : Str → Option Value) (base : Heap) (CX : CXT) (k : Nat) (f : Addr) (c : Nat) (fld : Str) : Prop :=
  ∀ (A : Around) (outer : List Env) (s : Shared) (H : Hp) (a dx l : Addr) (fvs : List (Str × V)) (zs : List V) (Q : VK) (E : XK), Room k A → Env0 P w K mg base A outer s H → H a = some (.ins (G.ca c) dx fvs) → fvs.lookup fld = some (.ref l) → SqL K H l zs →
    (∀ it, H it = none → s.heap.objs.size ≤ it → Q (.ref it) (upd H it (ItO l it 0))) → codeAny (model P w) A (.call (.ref f) ⟨[.ref a], []⟩) (CR CX outer P w H s Q E) s
structure XOk (G : Gm) (C : Ck) (gl : Nat → Option D) (F : FTab) (n : Nat) (sc lsc : Scope) (X : Cx) : Prop where
  K : X.K = G.K
  N : X.N = C.N
  nd : C.N.Nodup
  hsc : X.env.scope = sc
  calm : C.calm = true → X.calm = true
  hu : X.A.units + 65 < cLine
  room : C.calm = true → Room (2 * n + 1) X.A
  fnl : ∀ x, isLoc lsc x = true → L2.Loc X.env.scope x ∧ (X.fn x = true ∨ X.env.scope.names.lookup x = some .local)
  glob : ∀ (g : Nat) (x : Str) (d : D), C.T.gn[g]? = some x → gl g = some d → ∃ v u, X.mg x = some u ∧ RelV v u ∧ ∀ w, Rep G w d v
  blt : ∀ x ∈ names0, X.mg x = none
  po : PassesOwn (model X.prog X.w) X.A X.env X.xe
  cls : ∀ (c : Nat) (x : Str), C.T.cls[c]? = some x → c < G.nc ∧ X.mg x = some (.ref (G.ca c))
  fn : ∀ (f : Nat) (x : Str), C.T.fns[f]? = some (x, none) → ∃ a, X.mg x = some (.ref a) ∧ PySem.W.keepIn X.K (.ref a) = true ∧ FnR X.prog X.w X.K X.mg X.base (L2.CX X.prog X.w) (2 * n) a (spF G F f)
  exc : ∀ (c : Nat) (x : Str), C.T.cls.length ≤ c → (C.T.cls ++ C.T.exc)[c]? = some x → X.mg x = some (.ref (G.ca c))
  rai : ∀ (c : Nat), C.T.rai.contains c = true → PySem.W.excIn G.K (G.ca c) He.veBase "ValueError.__new__" = true ∧ PySem.W.keepIn G.K (.ref (G.ca c)) = true ∧ PySem.W.subIn G.K (.ref (G.ca c)) (.type "BaseException") = some true ∧ PySem.W.typeIn G.K (.ref (G.ca c)) = some (.type "type")
  exm : ∀ c c' b, F.tb.sb c c' = some b → PySem.W.exmOne G.K (.ref (G.ca c)) (.ref (G.ca c')) = some b
  xi : ∀ c t b, F.tb.xi c t = some b → PySem.W.kitOne G.K (.ref (G.ca c)) (xtV G t) = some b ∧ ExcC G.K (G.ca c)
  xf : ∀ c f, F.tb.xf c f = true → XfC G.K (G.ca c) ∧ PySem.W.findIn G.K (.ref (G.ca c)) (G.sy f) = some none
  fnb : ∀ (f : Nat) (x : Str), C.T.fns[f]? = some (x, none) → ∃ a, X.mg x = some (.ref a) ∧ PySem.W.keepIn X.K (.ref a) = true ∧ FnR X.prog X.w X.K X.mg X.base (L2.CX X.prog X.w) (2 * n) a (spFB G F f)
  mkb : ∀ (c : Nat), C.T.mks.contains c = true → ∃ a, Mk G.K (G.ca c) a ∧ FnR X.prog X.w X.K X.mg X.base (L2.CX X.prog X.w) (2 * n) a (spIB G F c)
  kf : ∀ (k c nn : Nat) (ns : List Str), C.calm = true → C.T.kfs[k]? = some (c, nn, ns) → ∃ kf, F.tb.kf k = some kf ∧ kf.c = c ∧ kf.n = nn ∧ kf.ks = ns ∧ c < G.nc ∧ ∃ a, Mk G.K (G.ca c) a ∧ FnRk X.prog X.w X.K X.mg X.base (L2.CX X.prog X.w) (2 * n) a (nn + 1) ns (spKB G F kf)
  pt : ∀ c m f, F.tb.pt c m = some f → c < G.nc ∧ ∃ p g, PropOf G.K (G.ca c) (G.sy m) p g ∧ FnR X.prog X.w X.K X.mg X.base (L2.CX X.prog X.w) (2 * n) g (spF G F f)
  cv : ∀ c f d, F.tb.cv c f = some d → ∃ mc v u, ClX.CRead G.K (G.ca c) mc ∧ ClX.CVal G.K (G.ca c) mc (G.sy f) v u ∧ ∀ w, Rep G w d v
  itf : ∀ c f, F.tb.itf c = some f → C.calm = true ∧ c < G.nc ∧ ∃ a, PySem.W.findIn G.K (.ref (G.ca c)) "__iter__" = some (some (.ref a)) ∧ PySem.W.isFn G.K (.ref a) = true ∧ PySem.W.fnIn G.K a = true ∧ FnIt G X.prog X.w X.K X.mg X.base (L2.CX X.prog X.w) 1 a c (G.sy f)
  sy : ∀ (f : Nat) (x : Str), C.T.fld[f]? = some x → G.sy f = x
  ft : ∀ c f, F.tb.ft c f = true → c < G.nc ∧ NoAttr G.K (G.ca c) (G.sy f)
  mt : ∀ c m f, F.tb.mt c m = some f → c < G.nc ∧ ∃ a, Meth G.K (G.ca c) (G.sy m) a ∧ FnR X.prog X.w X.K X.mg X.base (L2.CX X.prog X.w) (2 * n) a (spF G F f)
  ot : ∀ c k f, F.tb.ot c k = some f → C.calm = true ∧ c < G.nc ∧ (k = .cmp .ne → PySem.W.findIn G.K (.ref (G.ca c)) "__ne__" = some (some (.builtin "object.__ne__"))) ∧ ∃ a, PySem.W.findIn G.K (.ref (G.ca c)) k.nm = some (some (.ref a)) ∧ PySem.W.isFn G.K (.ref a) = true ∧ PySem.W.fnIn G.K a = true ∧ FnR X.prog X.w X.K X.mg X.base (L2.CX X.prog X.w) (2 * n) a (spF G F f)
  mkr : ∀ (c : Nat), C.T.mks.contains c = true → ∃ a, Mk G.K (G.ca c) a ∧ FnR X.prog X.w X.K X.mg X.base (L2.CX X.prog X.w) (2 * n) a (spI G F c)
/-- the state: the slots stand for env -/
structure Stt (G : Gm) (B : Bs) (w : W) (env : En) (σ : List (Option V)) (ω : Nat → Addr) : Prop where
  ok : WOk G w
  be : Ext B.toW w
  eo : EnvOk G B w env σ ω
theorem Stt.ext {G : Gm} {B : Bs} {w w' : W} {env : En} {σ : List (Option V)} {ω : Nat → Addr} (s : Stt G B w env σ ω) (ok : WOk G w') (e : Ext w w') : Stt G B w' env σ ω := ⟨ok, s.be.trans e, s.eo.ext s.ok e⟩

def XP (G : Gm) (Wx : WX) (σ : L2.St) : Exn → W → Prop := fun x w' => ∀ cls dd, ExR G w' x cls dd → Wx cls dd σ w'.H
section
variable (G : Gm) (B : Bs) (Wx : WX) (F : FTab) (gl : Nat → Option D)
def tE (c : CE) : TE := fun σ H Q => ∃ w env ω, w.H = H ∧ Stt G B w env σ ω ∧ Post G w (evE F gl env c w.h) (fun d w' => ∀ v, Rep G w' d v → Q v w'.H) (XP G Wx σ)
def tBa (c : CE) : TE := fun σ H Q => ∃ w env ω, w.H = H ∧ Stt G B w env σ ω ∧ Post G w (based env c w.h (evE F gl env c w.h)) (fun d w' => ∀ v, BRep G w' d v → Q v w'.H) (XP G Wx σ)
/-- the same, and it is a datum where it is no object of our own -/
def tBo (c : CE) : TE := fun σ H Q => ∃ w env ω, w.H = H ∧ Stt G B w env σ ω ∧ Post G w (based env c w.h (evE F gl env c w.h)) (fun d w' => ∀ v, BRep G w' d v → (isOwn env c = false → Rep G w' d v) → Q v w'.H) (XP G Wx σ)
def tEs (cs : CEs) : TA := fun σ H Q => ∃ w env ω, w.H = H ∧ Stt G B w env σ ω ∧ Post G w (evEs F gl env cs w.h) (fun ds w' => ∀ vs, Reps G w' ds vs → Q vs w'.H) (XP G Wx σ)
inductive BReps (G : Gm) (w : W) : List D → List V → Prop
  | nil : BReps G w [] []
  | cons {d : D} {ds : List D} {v : V} {vs : List V} : BRep G w d v → BReps G w ds vs → BReps G w (d :: ds) (v :: vs)
def tBs (cs : CEs) : TA := fun σ H Q => ∃ w env ω, w.H = H ∧ Stt G B w env σ ω ∧ Post G w (evBs F gl env cs w.h) (fun ds w' => ∀ vs, BReps G w' ds vs → Q vs w'.H) (XP G Wx σ)
def tAs (cs : CEs) : TA := fun σ H Q => ∃ w env ω, w.H = H ∧ Stt G B w env σ ω ∧ Post G w (evAs F gl env cs w.h) (fun ds w' => ∀ vs, AReps G w' ds vs → Q vs w'.H) (XP G Wx σ)
def tO (c : CO) : TO := fun σ H Q => ∃ w env ω, w.H = H ∧ Stt G B w env σ ω ∧ Post G w (evO F gl env c w.h) (fun o w' => Q o w'.H) (XP G Wx σ)
def tT (c : CE) : TT := fun σ H Q => ∃ w env ω, w.H = H ∧ Stt G B w env σ ω ∧ Post G w (evE F gl env c w.h).test (fun b w' => Q b w'.H) (XP G Wx σ)
def tCn (c : CO) : TT := fun σ H Q => ∃ w env ω, w.H = H ∧ Stt G B w env σ ω ∧ Post G w (evC F gl env c w.h) (fun b w' => Q b w'.H) (XP G Wx σ)
def tL (r : CEs → En → Cells → Res D) (cs : CEs) : TE := fun σ H Q => ∃ w env ω, w.H = H ∧ Stt G B w env σ ω ∧ Post G w (r cs env w.h) (fun d w' => ∀ v, Rep G w' d v → Q v w'.H) (XP G Wx σ)
def tLT (r : CEs → En → Cells → Res D) (cs : CEs) : TT := fun σ H Q => ∃ w env ω, w.H = H ∧ Stt G B w env σ ω ∧ Post G w (r cs env w.h).test (fun b w' => Q b w'.H) (XP G Wx σ)
/-- an iterator over ds -/
def ItOk (G : Gm) (B : Bs) (w : W) (ds : List D) (J : It) : Prop := ∃ vs Gd, Reps G w ds vs ∧ Walk J vs.length Gd (YAt vs) ∧ ∀ w', Le w w' → Ext B.toW w' → Gd w'.H
def tI (c : CI) : TI := fun σ H R => ∃ w env ω, w.H = H ∧ Stt G B w env σ ω ∧ Post G w (evI F gl env c w.h) (fun ds w' => ∀ J, ItOk G B w' ds J → R J w'.H) (XP G Wx σ)
/-- a target takes a datum -/
def tTg (t : Tg) : TG := fun v σ H Q => ∃ w env ω d env', w.H = H ∧ Stt G B w env σ ω ∧ Rep G w d v ∧ bindT t d env = some env' ∧ ∀ σ', Stt G B w env' σ' ω → Q σ' w.H
end

section
variable {G : Gm} {B : Bs} {w w' : W} {Wx : WX} {F : FTab} {gl : Nat → Option D} {C : Ck} {n : Nat} {sc lsc : Scope} {X : Cx} {env : En} {σ : List (Option V)} {ω : Nat → Addr}
theorem BReps.ext {ds : List D} {vs : List V} (ok : WOk G w) (e : Ext w w') : BReps G w ds vs → BReps G w' ds vs
  | .nil => .nil
  | .cons h r => .cons (h.ext ok e) (r.ext ok e)
theorem ARep.ext {x : Ar} {v : V} (h : ARep G w x v) (ok : WOk G w) (e : Ext w w') : ARep G w' x v := by
  cases h with
  | d h => exact .d (h.ext ok e)
  | b h nl =>
    refine .b (h.ext ok nl e) fun l => ?_
    obtain ⟨u, hu, _⟩ := h.soft
    rcases e.live_back l with l | l
    · exact nl l
    · rw [hu] at l; cases l
theorem AReps.ext {ds : List Ar} {vs : List V} (ok : WOk G w) (e : Ext w w') : AReps G w ds vs → AReps G w' ds vs
  | .nil => .nil
  | .cons h r => .cons (h.ext ok e) (AReps.ext ok e r)
/-- an object lent stands as it stood -/
theorem EnvOk.borAt (x : EnvOk G B w env σ ω) (be : Ext B.toW w) {i : Nat} {o : Ob} (h : env[i]? = some (Sl.bor o)) : ∃ a, σ[i]? = some (some (.ref a)) ∧ ObAt G w a o ∧ ¬ w.live a := by
  obtain ⟨a, h1, h2, h3, h4⟩ := x.bor i o h
  refine ⟨a, h1, h3.ext h2 h4 be, fun l => ?_⟩
  obtain ⟨u, hu, _⟩ := h3.soft
  rcases be.live_back l with l | l
  · exact h4 l
  · rw [hu] at l; cases l
theorem BReps.vw {ds : List D} {vs : List V} (ok : WOk G w) : BReps G w ds vs → VwA G w (ds.map (see w.h)) vs
  | .nil => .nil
  | .cons h r => .cons (h.see ok) (r.vw ok)
/-- a slot stored -/
theorem EnvOk.set (x : EnvOk G B w env σ ω) {i : Nat} {d : D} {v : V} (r : Rep G w d v) : EnvOk G B w (env.set i (.val d)) (σ.set i (some v)) ω where
  len := by rw [List.length_set, List.length_set]; exact x.len
  vals := fun j d' h => by
    by_cases q : i = j
    · subst q
      by_cases hi : i < env.length
      · rw [List.getElem?_set_self hi] at h
        cases h
        exact ⟨v, by rw [List.getElem?_set_self (by rw [← x.len]; exact hi)], r⟩
      · rw [List.getElem?_eq_none (by rw [List.length_set]; omega)] at h
        cases h
    · rw [List.getElem?_set_ne q] at h
      rw [List.getElem?_set_ne q]
      exact x.vals j d' h
  own := fun j o h => by
    by_cases q : i = j
    · subst q
      by_cases hi : i < env.length
      · rw [List.getElem?_set_self hi] at h
        cases h
      · rw [List.getElem?_eq_none (by rw [List.length_set]; omega)] at h
        cases h
    · rw [List.getElem?_set_ne q] at h
      rw [List.getElem?_set_ne q]
      exact x.own j o h
  inj := fun j k o u h1 h2 => by
    by_cases q : i = j
    · subst q
      by_cases hi : i < env.length
      · rw [List.getElem?_set_self hi] at h1
        cases h1
      · rw [List.getElem?_eq_none (by rw [List.length_set]; omega)] at h1
        cases h1
    · by_cases q2 : i = k
      · subst q2
        by_cases hi : i < env.length
        · rw [List.getElem?_set_self hi] at h2
          cases h2
        · rw [List.getElem?_eq_none (by rw [List.length_set]; omega)] at h2
          cases h2
      · rw [List.getElem?_set_ne q] at h1
        rw [List.getElem?_set_ne q2] at h2
        exact x.inj j k o u h1 h2
  mine := fun j c fs h => by
    by_cases q : i = j
    · subst q
      by_cases hi : i < env.length
      · rw [List.getElem?_set_self hi] at h
        cases h
      · rw [List.getElem?_eq_none (by rw [List.length_set]; omega)] at h
        cases h
    · rw [List.getElem?_set_ne q] at h
      exact x.mine j c fs h
  bor := fun j o h => by
    obtain ⟨q, h⟩ := set_other h (fun z => nomatch z)
    obtain ⟨a, h1, h2⟩ := x.bor j o h
    exact ⟨a, by rw [List.getElem?_set_ne q]; exact h1, h2⟩
  ex := fun j z h => by
    obtain ⟨q, h⟩ := set_other h (fun z => nomatch z)
    obtain ⟨h1, h2⟩ := x.ex j z h
    exact ⟨by rw [List.getElem?_set_ne q]; exact h1, h2⟩
  key := fun j ks h => by
    obtain ⟨q, h⟩ := set_other h (fun z => nomatch z)
    obtain ⟨a, h1, h2⟩ := x.key j ks h
    exact ⟨a, by rw [List.getElem?_set_ne q]; exact h1, h2⟩
theorem EnvOk.drop1 (x : EnvOk G B w env σ ω) (i : Nat) : EnvOk G B w (env.set i .no) (σ.set i none) ω where
  len := by rw [List.length_set, List.length_set]; exact x.len
  vals := fun j d' h => by
    by_cases q : i = j
    · subst q
      by_cases hi : i < env.length
      · rw [List.getElem?_set_self hi] at h
        cases h
      · rw [List.getElem?_eq_none (by rw [List.length_set]; omega)] at h
        cases h
    · rw [List.getElem?_set_ne q] at h
      rw [List.getElem?_set_ne q]
      exact x.vals j d' h
  own := fun j o h => by
    by_cases q : i = j
    · subst q
      by_cases hi : i < env.length
      · rw [List.getElem?_set_self hi] at h
        cases h
      · rw [List.getElem?_eq_none (by rw [List.length_set]; omega)] at h
        cases h
    · rw [List.getElem?_set_ne q] at h
      rw [List.getElem?_set_ne q]
      exact x.own j o h
  inj := fun j k o u h1 h2 => by
    by_cases q : i = j
    · subst q
      by_cases hi : i < env.length
      · rw [List.getElem?_set_self hi] at h1
        cases h1
      · rw [List.getElem?_eq_none (by rw [List.length_set]; omega)] at h1
        cases h1
    · by_cases q2 : i = k
      · subst q2
        by_cases hi : i < env.length
        · rw [List.getElem?_set_self hi] at h2
          cases h2
        · rw [List.getElem?_eq_none (by rw [List.length_set]; omega)] at h2
          cases h2
      · rw [List.getElem?_set_ne q] at h1
        rw [List.getElem?_set_ne q2] at h2
        exact x.inj j k o u h1 h2
  mine := fun j c fs h => by
    by_cases q : i = j
    · subst q
      by_cases hi : i < env.length
      · rw [List.getElem?_set_self hi] at h
        cases h
      · rw [List.getElem?_eq_none (by rw [List.length_set]; omega)] at h
        cases h
    · rw [List.getElem?_set_ne q] at h
      exact x.mine j c fs h
  bor := fun j o h => by
    obtain ⟨q, h⟩ := set_other h (fun z => nomatch z)
    obtain ⟨a, h1, h2⟩ := x.bor j o h
    exact ⟨a, by rw [List.getElem?_set_ne q]; exact h1, h2⟩
  ex := fun j z h => by
    obtain ⟨q, h⟩ := set_other h (fun z => nomatch z)
    obtain ⟨h1, h2⟩ := x.ex j z h
    exact ⟨by rw [List.getElem?_set_ne q]; exact h1, h2⟩
  key := fun j ks h => by
    obtain ⟨q, h⟩ := set_other h (fun z => nomatch z)
    obtain ⟨a, h1, h2⟩ := x.key j ks h
    exact ⟨a, by rw [List.getElem?_set_ne q]; exact h1, h2⟩
theorem wipe_ok (x : EnvOk G B w env σ ω) : ∀ (own : List Nat), EnvOk G B w (wipeE env own) (L2.wipe σ own) ω
  | [] => x
  | i :: is => (wipe_ok x is).drop1 i
end
end Rf
set_option Elab.async false
set_option linter.all false
set_option maxRecDepth 100000
set_option maxHeartbeats 4000000
/-! G9: the constructs one by one -/
namespace Rf
open PySem L2 PySem.Spec PyProof.Rows

theorem star_one {e : Expr} (h : plainB e = true) (es : List Expr) (env : Env) : starEach (e :: es) env = (false, eval e env) :: starEach es env := by
  cases e <;> first | rfl | cases h
theorem star_none : ∀ {es : List Expr}, (es.any fun e => !plainB e) = false → ∀ (pos : Pos) (env : Env), (backTo pos (starEach es env)).any (·.1) = false
  | [], _, _, _ => rfl
  | e :: es, h, pos, env => by
    rw [List.any_cons, Bool.or_eq_false_iff] at h
    have he : plainB e = true := by simpa using h.1
    rw [star_one he]
    have ih := star_none h.2 pos env
    unfold backTo at ih ⊢
    rw [List.map_cons, List.any_cons, ih]
    rfl
theorem plain_ix {e : Expr} (h : plainB e = true) : PlainIx e := by
  cases e <;> first | (intro o i; rfl) | cases h
theorem plain_mark {e : Expr} (h : plainB e = true) (op : CmpOp) : behindInMarks op e = false := by
  cases e <;> first | rfl | cases h
theorem tst_plain {e : Expr} (h : tstB e = true) (env : Env) : ∀ whole, isTrue e env whole = (do let v ← whole; standAt e.pos; holding [v] (truthy v)) := by
  intro whole
  cases e <;> first | rfl | (rename_i o _ _; cases o <;> first | rfl | cases h) | cases h

section
variable {G : Gm} {B : Bs} {w w' : W} {Wx : WX} {F : FTab} {gl : Nat → Option D} {C : Ck} {n : Nat} {sc lsc : Scope} {X : Cx} {env : En} {σ : List (Option V)} {ω : Nat → Addr}
  {l m r e : Expr} {es : List Expr} {a b c : CE} {as : CEs} {pos p : Pos} {x : Str}
abbrev T1 (G : Gm) (B : Bs) (Wx : WX) (F : FTab) (gl : Nat → Option D) := tE G B Wx F gl

theorem gl_of (h : isGl sc x = true) (hs : X.env.scope = sc) : Gl X x ∧ (x == ("__debug__" : Str)) = false := by
  unfold isGl at h
  rw [Bool.and_eq_true, Bool.not_eq_true', beq_iff_eq] at h
  refine ⟨?_, h.2⟩
  unfold Gl Env.kindOf
  rw [hs]
  exact h.1
theorem vis_of (h : isVis sc x = true) (hs : X.env.scope = sc) : Vis X.env.scope x ∧ (x == ("__debug__" : Str)) = false ∧ (x == ("__classdict__" : Str)) = false := by
  unfold isVis at h
  rw [Bool.and_eq_true, Bool.and_eq_true, Bool.not_eq_true', Bool.not_eq_true'] at h
  refine ⟨?_, h.1.2, h.2⟩
  rw [hs]
  unfold Vis
  have q := h.1.1
  split at q
  · rename_i e; exact .inl e
  · rename_i e; exact .inr (.inl e)
  · rename_i e; exact .inr (.inr e)
  · cases q
theorem loc_of (h : isLoc sc x = true) (hs : X.env.scope = sc) : L2.Loc X.env.scope x := by
  unfold isLoc at h
  rw [hs]
  unfold L2.Loc
  split at h
  · rename_i e; exact .inl e
  · rename_i e; exact .inr e
  · cases h

theorem e_none {j} : PE X (.Constant .none j pos) (tE G B Wx F gl (.cst .non)) := PE.imp pe_non fun σ H Q ⟨w, env, ω, e, s, p⟩ => by
  subst e
  rw [evE] at p
  exact Post.now p s.ok _ .non
theorem e_bl {j b} : PE X (.Constant (.bool b) j pos) (tE G B Wx F gl (.cst (.bl b))) := PE.imp pe_bl fun σ H Q ⟨w, env, ω, e, s, p⟩ => by
  subst e
  rw [evE] at p
  exact Post.now p s.ok _ (.bl b)
theorem e_int {j i} : PE X (.Constant (.int i) j pos) (tE G B Wx F gl (.cst (.int i))) := PE.imp pe_int fun σ H Q ⟨w, env, ω, e, s, p⟩ => by
  subst e
  rw [evE] at p
  exact Post.now p s.ok _ (.int i)
theorem e_str {j z} (hz : z.length ≤ LIM) : PE X (.Constant (.str z) j pos) (tE G B Wx F gl (.cst (.str z))) := PE.imp pe_str fun σ H Q ⟨w, env, ω, e, s, p⟩ => by
  subst e
  rw [evE] at p
  exact Post.now p s.ok _ (.str z hz)
theorem e_var {i : Nat} (ok : XOk G C gl F n sc lsc X) (hi : C.N[i]? = some x) (hv : isVis sc x = true) : PE X (.Name x p) (tE G B Wx F gl (.var i)) := by
  obtain ⟨h1, h2, h3⟩ := vis_of hv ok.hsc
  refine PE.imp (pe_var (by rw [ok.N]; exact hi) h1 h2 h3) fun σ H Q ⟨w, env, ω, e, s, p⟩ => ?_
  subst e
  rw [evE] at p
  cases q : env[i]? with
  | none => rw [q] at p; exact p.elim
  | some sl => cases sl with
    | no => rw [q] at p; exact p.elim
    | own o => rw [q] at p; exact p.elim
    | bor o => rw [q] at p; exact p.elim
    | key o => rw [q] at p; exact p.elim
    | ex z => rw [q] at p; exact p.elim
    | val d =>
      rw [q] at p
      obtain ⟨v, hv, rv⟩ := s.eo.vals i d q
      exact ⟨v, hv, Post.now p s.ok v rv⟩
theorem b_var {i : Nat} (ok : XOk G C gl F n sc lsc X) (hi : C.N[i]? = some x) (hv : isVis sc x = true) : PE X (.Name x p) (tBa G B Wx F gl (.var i)) := by
  obtain ⟨h1, h2, h3⟩ := vis_of hv ok.hsc
  refine PE.imp (pe_var (by rw [ok.N]; exact hi) h1 h2 h3) fun σ H Q ⟨w, env, ω, e, s, p⟩ => ?_
  subst e
  unfold based at p
  rw [evE] at p
  cases q : env[i]? with
  | none => simp only [q] at p; exact p.elim
  | some sl => cases sl with
    | no => simp only [q] at p; exact p.elim
    | own o =>
      simp only [q] at p
      obtain ⟨h1, h2, h3, h4, h5⟩ := s.eo.own i o q
      exact ⟨_, h1, Post.now p s.ok _ (.inr ⟨_, o, rfl, rfl, h2, h4⟩)⟩
    | bor o =>
      simp only [q] at p
      obtain ⟨a, h1, h2, h4⟩ := s.eo.borAt s.be q
      exact ⟨_, h1, Post.now p s.ok _ (.inr ⟨_, o, rfl, rfl, h2, h4⟩)⟩
    | ex z => simp only [q] at p; exact p.elim
    | key z => simp only [q] at p; exact p.elim
    | val d =>
      simp only [q] at p
      obtain ⟨v, hv, rv⟩ := s.eo.vals i d q
      exact ⟨v, hv, Post.now p s.ok v (.inl rv)⟩
theorem o_var {i : Nat} (ok : XOk G C gl F n sc lsc X) (hi : C.N[i]? = some x) (hv : isVis sc x = true) : PE X (.Name x p) (tBo G B Wx F gl (.var i)) := by
  obtain ⟨h1, h2, h3⟩ := vis_of hv ok.hsc
  refine PE.imp (pe_var (by rw [ok.N]; exact hi) h1 h2 h3) fun σ H Q ⟨w, env, ω, e, s, p⟩ => ?_
  subst e
  unfold based at p
  rw [evE] at p
  cases q : env[i]? with
  | none => simp only [q] at p; exact p.elim
  | some sl => cases sl with
    | no => simp only [q] at p; exact p.elim
    | own o =>
      simp only [q] at p
      obtain ⟨h1, h2, h3, h4, h5⟩ := s.eo.own i o q
      have hio : isOwn env (.var i) = true := by simp only [isOwn, q]
      exact ⟨_, h1, Post.now p s.ok _ (.inr ⟨_, o, rfl, rfl, h2, h4⟩) (fun z => by rw [hio] at z; cases z)⟩
    | bor o =>
      simp only [q] at p
      obtain ⟨a, h1, h2, h4⟩ := s.eo.borAt s.be q
      have hio : isOwn env (.var i) = true := by simp only [isOwn, q]
      exact ⟨_, h1, Post.now p s.ok _ (.inr ⟨_, o, rfl, rfl, h2, h4⟩) (fun z => by rw [hio] at z; cases z)⟩
    | ex z => simp only [q] at p; exact p.elim
    | key z => simp only [q] at p; exact p.elim
    | val d =>
      simp only [q] at p
      obtain ⟨v, hv, rv⟩ := s.eo.vals i d q
      exact ⟨v, hv, Post.now p s.ok v (.inl rv) (fun _ => rv)⟩
theorem o_other (hn : ∀ i, c ≠ .var i) (h : PE X e (tE G B Wx F gl c)) : PE X e (tBo G B Wx F gl c) := PE.imp h fun σ H Q ⟨w, env, ω, e, s, p⟩ => by
  have q : based env c w.h (evE F gl env c w.h) = evE F gl env c w.h := by
    unfold based
    split
    · exact absurd rfl (hn _)
    · rfl
  rw [q] at p
  exact ⟨w, env, ω, e, s, p.mono (fun d w' _ _ h v r => h v (.inl r) (fun _ => r)) fun _ _ _ _ h => h⟩
/-- a base that is no name of ours -/
theorem b_other (hn : ∀ i, c ≠ .var i) (h : PE X e (tE G B Wx F gl c)) : PE X e (tBa G B Wx F gl c) := PE.imp h fun σ H Q ⟨w, env, ω, e, s, p⟩ => by
  have q : based env c w.h (evE F gl env c w.h) = evE F gl env c w.h := by
    unfold based
    split
    · exact absurd rfl (hn _)
    · rfl
  rw [q] at p
  exact ⟨w, env, ω, e, s, p.mono (fun d w' _ _ h v r => h v (.inl r)) fun _ _ _ _ h => h⟩
theorem e_glob {g : Nat} (ok : XOk G C gl F n sc lsc X) (hi : C.T.gn[g]? = some x) (hg : isGl sc x = true) : PE X (.Name x p) (tE G B Wx F gl (.glob g)) := by
  obtain ⟨h1, h2⟩ := gl_of hg ok.hsc
  cases q : gl g with
  | none => exact ⟨fun pins s σ H Q I ⟨w, env, ω, e, st, p⟩ => by
      rw [evE, q] at p
      exact p.elim⟩
  | some d =>
    obtain ⟨v, u, hm, rv, rep⟩ := ok.glob g x d hi q
    refine PE.imp (pe_glob h1 hm rv h2) fun σ H Q ⟨w, env, ω, e, s, p⟩ => ?_
    subst e
    rw [evE, q] at p
    exact Post.now p s.ok v (rep w)
/-! ### operators, own ones too -/
theorem XOk.own {k : Nat} {c : Nat} {d : Dn} {f : Nat} (ok : XOk G C gl F n sc lsc X) (h : F.tb.ot c d = some f) : Room (2 * n) X.A ∧ c < G.nc ∧ OwnOp X (L2.CX X.prog X.w) (2 * n) (G.ca c) d.nm (spF G F f) := by
  obtain ⟨hc, h1, _, a, h2, h3, _, h4⟩ := ok.ot c d f h
  rw [← ok.K] at h2 h3
  exact ⟨(ok.room hc).mono (Nat.le_succ _), h1, ⟨a, h2, h3, h4⟩⟩
/-- a call's promise as an answer's -/
theorem spF_of {f : Nat} {ds : List D} {vs : List V} {Q : VK} {E : XK} (ok : WOk G w) (r : Reps G w ds vs) (h : PostF G w (F.call f ds w.h) Q E) : spF G F f vs w.H Q E := ⟨w, ds, rfl, ok, r, h⟩
def rBinS (G : Gm) (F : FTab) (Wx : WX) (op : BOp) (own : Bool) : L2.St → V → V → Hp → VK → Prop := fun σ x y H Q => ∃ w d1 d2, w.H = H ∧ WOk G w ∧ BRep G w d1 x ∧ BRep G w d2 y ∧ (own = false → Rep G w d1 x ∧ Rep G w d2 y) ∧ Post G w (binR F op own w.h d1 d2) (fun d w' => ∀ v, Rep G w' d v → Q v w'.H) (XP G Wx σ)
theorem binS_ok (ok : XOk G C gl F n sc lsc X) (go : G.Ok) (tk : Takes X Wx) (op : BOp) (own : Bool) : OpSl X (binaryOp (bop op)) (rBinS G F Wx op own) := by
  intro pins s σ H x y v u Q I rx ry q
  obtain ⟨w, d1, d2, rfl, okw, r1, r2, r12, p⟩ := q
  unfold binR at p
  cases ho : opB op (see w.h d1) (see w.h d2) with
  | some d3 =>
    rw [ho] at p
    exact opB_ok ok.K op pins s σ _ _ _ v u Q I rx ry ⟨w, _, _, d3, rfl, okw, r1.see okw, r2.see okw, ho, fun w' v eh ok e r => p w' eh ok e v r⟩
  | none =>
    rw [ho] at p
    simp only at p
    cases own with
    | true => exact p.elim
    | false =>
    obtain ⟨r1, r2⟩ := r12 rfl
    simp only [Bool.false_eq_true, if_false] at p
    have v1 := r1.see okw
    have v2 := r2.see okw
    split at p
    rotate_left
    · exact p.elim
    rename_i f c fs c' fs' hf e1 e2
    rw [e1] at v1 hf
    rw [e2] at v2
    split at p
    rotate_left
    · exact p.elim
    rename_i ecc
    subst ecc
    obtain ⟨hr, hc, ho'⟩ := ok.own (k := 0) (show F.tb.ot c (.bin op) = some f from hf)
    have hnm : (Dn.bin op).nm = PySem.dunder (bop op).info.2 := by cases op <;> rfl
    rw [hnm] at ho'
    cases v1 with | ins _ ha _ =>
    cases v2 with | ins _ hb _ =>
    refine bin_own (k := 2 * n) (E := WE Wx) hr (fun σ => passAt tk σ) pins s σ _ _ _ v u Q I rx ry ⟨_, _, _, _, _, _, _, _, rfl, ha, rfl, hb, ?_, ho', spF_of okw (.cons r1 (.cons r2 .nil)) p⟩
    rw [ok.K]
    exact go.sf c hc
theorem e_bin {op : BOp} (ok : XOk G C gl F n sc lsc X) (go : G.Ok) (tk : Takes X Wx) (ha : PE X l (tBo G B Wx F gl a)) (hb : PE X r (tBo G B Wx F gl b)) : PE X (.BinOp l (bop op) r pos) (tE G B Wx F gl (.bin op a b)) := by
  refine PE.imp (pe_opS (OpSl.ex fun own => binS_ok ok go tk op own) ha hb) fun σ H Q ⟨w, env, ω, e, s, p⟩ => ?_
  subst e
  rw [evE] at p
  refine ⟨w, env, ω, rfl, s, p.bind.mono (fun d1 w1 ok1 e1 p2 v1 r1 r1' => ?_) fun _ _ _ _ h => h⟩
  have s1 := s.ext ok1 e1
  refine ⟨w1, env, ω, rfl, s1, p2.bind.mono (fun d2 w2 ok2 e2 p3 v2 r2 r2' => ?_) fun _ _ _ _ h => h⟩
  refine ⟨_, w2, _, _, rfl, ok2, r1.ext ok1 e2, r2, fun z => ?_, p3⟩
  rw [Bool.or_eq_false_iff] at z
  exact ⟨(r1' z.1).ext ok1 e2, r2' z.2⟩
def rCmpS (G : Gm) (F : FTab) (Wx : WX) (op : COp) (own : Bool) : L2.St → V → V → Hp → VK → Prop := fun σ x y H Q => ∃ w d1 d2, w.H = H ∧ WOk G w ∧ BRep G w d1 x ∧ BRep G w d2 y ∧ (own = false → Rep G w d1 x ∧ Rep G w d2 y) ∧ Post G w (cmpR F op own w.h d1 d2) (fun d w' => ∀ v, Rep G w' d v → Q v w'.H) (XP G Wx σ)
theorem boolR_ok {neg : Bool} {d : D} {v : V} {K : V → Hp → Prop} (r : Rep G w d v) (p : Post G w (boolR neg d w.h) (fun d w' => ∀ v, Rep G w' d v → K v w'.H) (XP G Wx σ)) (ok : WOk G w) : ∃ b, v = .bl b ∧ K (.bl (if neg then !b else b)) w.H := by
  cases r with
  | bl b => exact ⟨b, rfl, Post.now p ok _ (.bl _)⟩
  | _ => exact p.elim
theorem cmpS_ok (ok : XOk G C gl F n sc lsc X) (go : G.Ok) (tk : Takes X Wx) (op : COp) (own : Bool) : OpSl X (compareOp (cop op)) (rCmpS G F Wx op own) := by
  intro pins s σ H x y v u Q I rx ry q
  obtain ⟨w, d1, d2, rfl, okw, r1, r2, r2', p⟩ := q
  unfold cmpR at p
  cases ho : opC op (see w.h d1) (see w.h d2) with
  | some d3 =>
    rw [ho] at p
    exact opC_ok ok.K ok.hu op pins s σ _ _ _ v u Q I rx ry ⟨w, _, _, d3, rfl, okw, r1.see okw, r2.see okw, ho, Post.now p okw _ (.bl _)⟩
  | none =>
    rw [ho] at p
    simp only at p
    have hin : ∀ (neg : Bool), inR F neg own w.h d1 d2 = cmpOwn F op own w.h d1 d2 → ∃ f a C dx fs, own = false ∧ y = .ref a ∧ w.H a = some (.ins C dx fs) ∧ Room (2 * n) X.A ∧ OwnOp X (L2.CX X.prog X.w) (2 * n) C "__contains__" (spF G F f) ∧ Post G w ((F.call f [d2, d1] w.h).bind (boolR neg)) (fun d w' => ∀ v, Rep G w' d v → Q v w'.H) (XP G Wx σ) := fun neg e => by
      rw [← e] at p
      unfold inR at p
      cases own with
      | true => exact p.elim
      | false =>
        simp only [Bool.false_eq_true, if_false] at p
        split at p
        rotate_left
        · exact p.elim
        rename_i f hf
        have v2 := (r2' rfl).2.see okw
        revert hf v2
        generalize see w.h d2 = z
        intro hf v2
        cases v2 with
        | ins hc ha hrf =>
          rename_i a dx c fvs fs
          obtain ⟨hr, hc, ho'⟩ := ok.own (k := 0) (show F.tb.ot c .has = some f from hf)
          exact ⟨f, _, _, _, _, rfl, rfl, ha, hr, ho', p⟩
        | _ => cases hf
    have hcm : ∀ (op' : CmpOp), compareOp (cop op) = richCompare op' → (Dn.cmp op).nm = (cmpInfo op').2.1 → cmpOwn F op own w.h d1 d2 = (if own || !hasTy (see w.h d2) then .bad else match ownF F.tb (.cmp op) (see w.h d1) with
        | some f => F.call f [d1, d2] w.h
        | none => .bad) → wpAny (model X.prog X.w) X.A (compareOp (cop op) v u) (EP X pins σ Q) X.xe s := fun op' e1 e2 e3 => by
      rw [e3] at p
      split at p
      · exact p.elim
      rename_i hno
      rw [Bool.or_eq_true, not_or, Bool.not_eq_true, Bool.not_eq_true', Bool.not_eq_false] at hno
      split at p
      rotate_left
      · exact p.elim
      rename_i f hf
      have v1 := r1.see okw
      revert hf v1
      generalize see w.h d1 = z
      intro hf v1
      cases v1 with
      | ins hc ha hrf =>
        rename_i a dx c fvs fs
        obtain ⟨hr, hc, ho'⟩ := ok.own (k := 0) (show F.tb.ot c (.cmp op) = some f from hf)
        rw [e2] at ho'
        rw [e1]
        refine cmp_own (k := 2 * n) (E := WE Wx) hr (fun σ => passAt tk σ) pins s σ _ _ _ v u Q I rx ry ⟨_, _, _, _, _, rfl, ha, ho', fun s' pins' v' u' I' ry' => ?_, spF_of okw (.cons (r2' hno.1).1 (.cons (r2' hno.1).2 .nil)) p⟩
        obtain ⟨ty, hty, hnf⟩ := vw_ty go ((r2' hno.1).2.see okw) hno.2
        rw [← ok.K] at hty
        obtain ⟨P, k1, k2, _⟩ := kit_of I' ry' hty
        refine ⟨ty, k1.ty _ _ I'.kIn k2, ?_⟩
        rw [ok.K]
        exact hnf c hc
      | _ => cases hf
    cases op with
    | eq => exact hcm .Eq rfl rfl rfl
    | ne =>
      have p : Post G w (if own || !hasTy (see w.h d2) then .bad else match ownF F.tb (.cmp .ne) (see w.h d1) with
        | some f => (F.call f [d1, d2] w.h).bind (boolR true)
        | none => .bad) (fun d w' => ∀ v, Rep G w' d v → Q v w'.H) (XP G Wx σ) := p
      split at p
      · exact p.elim
      rename_i hno
      rw [Bool.or_eq_true, not_or, Bool.not_eq_true, Bool.not_eq_true', Bool.not_eq_false] at hno
      split at p
      rotate_left
      · exact p.elim
      rename_i f hf
      have v1 := r1.see okw
      revert hf v1
      generalize see w.h d1 = z
      intro hf v1
      cases v1 with
      | ins hc ha hrf =>
        rename_i a dx c fvs fs
        obtain ⟨hcm, hc, hne, _⟩ := ok.ot c (.cmp .ne) f (show F.tb.ot c (.cmp .ne) = some f from hf)
        obtain ⟨_, _, ho'⟩ := ok.own (k := 0) (show F.tb.ot c (.cmp .ne) = some f from hf)
        refine ne_own (k := 2 * n) (E := WE Wx) (ok.room hcm) (fun σ => passAt tk σ) pins s σ _ _ _ v u Q I rx ry ⟨_, _, _, _, _, rfl, ha, by rw [ok.K]; exact hne rfl, by rw [ok.K]; exact go.ko c hc, ho', fun s' pins' v' u' I' ry' => ?_, spF_of okw (.cons (r2' hno.1).1 (.cons (r2' hno.1).2 .nil)) (p.bind.mono (fun d w1 ok1 e1 p2 v rv => ?_) fun _ _ _ _ h => h)⟩
        · obtain ⟨ty, hty, hnf⟩ := vw_ty go ((r2' hno.1).2.see okw) hno.2
          rw [← ok.K] at hty
          obtain ⟨P, k1, k2, _⟩ := kit_of I' ry' hty
          refine ⟨ty, k1.ty _ _ I'.kIn k2, ?_⟩
          rw [ok.K]
          exact hnf c hc
        · exact boolR_ok (neg := true) rv p2 ok1
      | _ => cases hf
    | lt => exact hcm .Lt rfl rfl rfl
    | le => exact hcm .LtE rfl rfl rfl
    | gt => exact hcm .Gt rfl rfl rfl
    | ge => exact hcm .GtE rfl rfl rfl
    | is => exact p.elim
    | isnot => exact p.elim
    | isin =>
      obtain ⟨f, a, C', dx, fs, e1, rfl, ha, hr, ho', p'⟩ := hin false rfl
      refine in_own (k := 2 * n) (E := WE Wx) hr (fun σ => passAt tk σ) pins s σ _ _ _ v u Q I rx ry ⟨_, _, _, _, _, rfl, ha, ho', spF_of okw (.cons (r2' e1).2 (.cons (r2' e1).1 .nil)) (p'.bind.mono (fun d w1 ok1 e1 p2 v rv => ?_) fun _ _ _ _ h => h)⟩
      exact boolR_ok (neg := false) rv p2 ok1
    | notin =>
      obtain ⟨f, a, C', dx, fs, e1, rfl, ha, hr, ho', p'⟩ := hin true rfl
      refine notin_own (k := 2 * n) (E := WE Wx) hr (fun σ => passAt tk σ) pins s σ _ _ _ v u Q I rx ry ⟨_, _, _, _, _, rfl, ha, ho', spF_of okw (.cons (r2' e1).2 (.cons (r2' e1).1 .nil)) (p'.bind.mono (fun d w1 ok1 e1 p2 v rv => ?_) fun _ _ _ _ h => h)⟩
      exact boolR_ok (neg := true) rv p2 ok1
theorem e_neg (ha : PE X l (tE G B Wx F gl a)) : PE X (.UnaryOp .USub l pos) (tE G B Wx F gl (.neg a)) := by
  refine PE.imp (pe_un un_neg ha) fun σ H Q ⟨w, env, ω, e, s, p⟩ => ?_
  subst e
  rw [evE] at p
  refine ⟨w, env, ω, rfl, s, p.bind.mono (fun d1 w1 ok1 e1 p2 v1 r1 => ?_) fun _ _ _ _ h => h⟩
  cases r1 with
  | int i => exact ⟨i, rfl, (p2.at (a := D.int (-i)) rfl ok1) _ (.int _)⟩
  | _ => exact p2.elim
theorem e_cmp {op : COp} (ok : XOk G C gl F n sc lsc X) (go : G.Ok) (tk : Takes X Wx) (ha : PE X l (tBo G B Wx F gl a)) (hb : PE X r (tBo G B Wx F gl b)) (hr : plainB r = true) : PE X (.Compare l [cop op] [r] pos) (tE G B Wx F gl (.cmp op a b)) := by
  refine PE.imp (pe_cmpS (OpSl.ex fun own => cmpS_ok ok go tk op own) ha hb (plain_mark hr _)) fun σ H Q ⟨w, env, ω, e, s, p⟩ => ?_
  subst e
  rw [evE] at p
  refine ⟨w, env, ω, rfl, s, p.bind.mono (fun d1 w1 ok1 e1 p2 v1 r1 r1' => ?_) fun _ _ _ _ h => h⟩
  have s1 := s.ext ok1 e1
  refine ⟨w1, env, ω, rfl, s1, p2.bind.mono (fun d2 w2 ok2 e2 p3 v2 r2 r2' => ?_) fun _ _ _ _ h => h⟩
  refine ⟨_, w2, _, _, rfl, ok2, r1.ext ok1 e2, r2, fun z => ?_, p3⟩
  rw [Bool.or_eq_false_iff] at z
  exact ⟨(r1' z.1).ext ok1 e2, r2' z.2⟩
theorem t_cmp {op : COp} (ok : XOk G C gl F n sc lsc X) (go : G.Ok) (tk : Takes X Wx) (ha : PE X l (tBo G B Wx F gl a)) (hb : PE X r (tBo G B Wx F gl b)) (hr : plainB r = true) : PT X (.Compare l [cop op] [r] pos) (tT G B Wx F gl (.cmp op a b)) := by
  refine PT.imp (pt_cmpS (OpSl.ex fun own => cmpS_ok ok go tk op own) ha hb (plain_mark hr _)) fun σ H Q ⟨w, env, ω, e, s, p⟩ => ?_
  subst e
  have p := p.bind
  rw [evE] at p
  refine ⟨w, env, ω, rfl, s, p.bind.mono (fun d1 w1 ok1 e1 p2 v1 r1 r1' => ?_) fun _ _ _ _ h => h⟩
  have s1 := s.ext ok1 e1
  refine ⟨w1, env, ω, rfl, s1, p2.bind.mono (fun d2 w2 ok2 e2 p3 v2 r2 r2' => ?_) fun _ _ _ _ h => h⟩
  refine ⟨_, w2, _, _, rfl, ok2, r1.ext ok1 e2, r2, fun z => (by rw [Bool.or_eq_false_iff] at z; exact ⟨(r1' z.1).ext ok1 e2, r2' z.2⟩), p3.mono (fun d3 w3 ok3 e3 p4 v3 r3 => ?_) fun _ _ _ _ h => h⟩
  obtain ⟨b, hb, k⟩ := p4.lifted
  refine ⟨b, ?_, k w3 rfl ok3 (Ext.refl _)⟩
  rw [ok.K]
  exact truth_v (r3.see ok3) hb
theorem e_chain {op op' : COp} (hK : X.K = G.K) (hu : X.A.units + 65 < cLine) (ha : PE X l (tE G B Wx F gl a)) (hb : PE X m (tE G B Wx F gl b)) (hc : PE X r (tE G B Wx F gl c)) (hr : plainB r = true) :
    PE X (.Compare l [cop op, cop op'] [m, r] pos) (tE G B Wx F gl (.chain op op' a b c)) := by
  refine PE.imp (pe_chain (opC_ok hK hu op) (opC_ok hK hu op') ha hb hc (plain_mark hr _)) fun σ H Q ⟨w, env, ω, e, s, p⟩ => ?_
  subst e
  rw [evE] at p
  refine ⟨w, env, ω, rfl, s, p.bind.mono (fun d1 w1 ok1 e1 p2 v1 r1 => ?_) fun _ _ _ _ h => h⟩
  have s1 := s.ext ok1 e1
  refine ⟨w1, env, ω, rfl, s1, p2.bind.mono (fun d2 w2 ok2 e2 p3 v2 r2 => ?_) fun _ _ _ _ h => h⟩
  obtain ⟨k, hk, p4⟩ := p3.bind.lifted
  have p5 := p4 w2 rfl ok2 (Ext.refl _)
  refine ⟨w2, _, _, k, rfl, ok2, (r1.ext ok1 e2).see ok2, r2.see ok2, hk, k, rfl, ?_⟩
  cases k with
  | false => exact iteF ((Post.at (a := D.bl false) p5 rfl ok2) _ (.bl _))
  | true =>
    refine iteT ?_
    have s2 := s1.ext ok2 e2
    refine ⟨w2, env, ω, rfl, s2, (Post.bind (r := evE F gl env c w2.h) p5).mono (fun d3 w3 ok3 e3 p6 v3 r3 => ?_) fun _ _ _ _ h => h⟩
    obtain ⟨d4, h4, k4⟩ := p6.lifted
    obtain ⟨b, hb, rfl⟩ := Option.map_eq_some_iff.mp h4
    exact ⟨w3, _, _, b, rfl, ok3, (r2.ext ok2 e3).see ok3, r3.see ok3, hb, k4 w3 rfl ok3 (Ext.refl _) _ (.bl b)⟩
theorem t_chain {op op' : COp} (hK : X.K = G.K) (hu : X.A.units + 65 < cLine) (ha : PE X l (tE G B Wx F gl a)) (hb : PE X m (tE G B Wx F gl b)) (hc : PE X r (tE G B Wx F gl c)) (hr : plainB r = true) :
    PT X (.Compare l [cop op, cop op'] [m, r] pos) (tT G B Wx F gl (.chain op op' a b c)) := by
  refine PT.imp (pt_chain (opC_ok hK hu op) (opC_ok hK hu op') ha hb hc (plain_mark hr _)) fun σ H Q ⟨w, env, ω, e, s, p⟩ => ?_
  subst e
  have p := p.bind
  rw [evE] at p
  refine ⟨w, env, ω, rfl, s, p.bind.mono (fun d1 w1 ok1 e1 p2 v1 r1 => ?_) fun _ _ _ _ h => h⟩
  have s1 := s.ext ok1 e1
  refine ⟨w1, env, ω, rfl, s1, p2.bind.mono (fun d2 w2 ok2 e2 p3 v2 r2 => ?_) fun _ _ _ _ h => h⟩
  obtain ⟨k, hk, p4⟩ := p3.bind.lifted
  have p5 := p4 w2 rfl ok2 (Ext.refl _)
  refine ⟨w2, _, _, k, rfl, ok2, (r1.ext ok1 e2).see ok2, r2.see ok2, hk, k, rfl, ?_⟩
  cases k with
  | false => exact iteF ⟨false, rfl, Post.at (a := false) (Post.at (a := D.bl false) p5 rfl ok2) rfl ok2⟩
  | true =>
    refine iteT ?_
    have s2 := s1.ext ok2 e2
    refine ⟨w2, env, ω, rfl, s2, (Post.bind (r := evE F gl env c w2.h) p5).mono (fun d3 w3 ok3 e3 p6 v3 r3 => ?_) fun _ _ _ _ h => h⟩
    obtain ⟨d4, h4, k4⟩ := p6.lifted
    obtain ⟨b, hb, rfl⟩ := Option.map_eq_some_iff.mp h4
    exact ⟨w3, _, _, b, rfl, ok3, (r2.ext ok2 e3).see ok3, r3.see ok3, hb, b, rfl, Post.at (a := b) (k4 w3 rfl ok3 (Ext.refl _)) rfl ok3⟩
/-- plain truth -/
theorem t_truth (hK : X.K = G.K) (ht : tstB e = true) (h : PE X e (tE G B Wx F gl a)) : PT X e (tT G B Wx F gl a) := by
  refine PT.imp (pt_truth h (tst_plain ht _)) fun σ H Q ⟨w, env, ω, e, s, p⟩ => ?_
  subst e
  refine ⟨w, env, ω, rfl, s, p.bind.mono (fun d1 w1 ok1 e1 p2 v1 r1 => ?_) fun _ _ _ _ h => h⟩
  obtain ⟨b, hb, k⟩ := p2.lifted
  refine ⟨b, ?_, k w1 rfl ok1 (Ext.refl _)⟩
  rw [hK]
  exact truth_v (r1.see ok1) hb
theorem e_not (hK : X.K = G.K) (h : PE X l (tE G B Wx F gl a)) : PE X (.UnaryOp .Not l pos) (tE G B Wx F gl (.not a)) := by
  refine PE.imp (pe_notT h) fun σ H Q ⟨w, env, ω, e, s, p⟩ => ?_
  subst e
  rw [evE] at p
  refine ⟨w, env, ω, rfl, s, p.bind.bind.mono (fun d1 w1 ok1 e1 p2 v1 r1 => ?_) fun _ _ _ _ h => h⟩
  obtain ⟨b, hb, k⟩ := p2.lifted
  refine ⟨b, ?_, (Post.at (a := D.bl (!b)) (k w1 rfl ok1 (Ext.refl _)) rfl ok1) _ (.bl _)⟩
  rw [hK]
  exact truth_v (r1.see ok1) hb
theorem t_not (h : PT X l (tT G B Wx F gl a)) : PT X (.UnaryOp .Not l pos) (tT G B Wx F gl (.not a)) := by
  refine PT.imp (pt_not h) fun σ H Q ⟨w, env, ω, e, s, p⟩ => ?_
  subst e
  have p := p.bind
  rw [evE] at p
  refine ⟨w, env, ω, rfl, s, p.bind.mono (fun b w1 ok1 e1 p2 => ?_) fun _ _ _ _ h => h⟩
  exact Post.at (a := !b) (Post.at (a := D.bl (!b)) p2 rfl ok1) rfl ok1
theorem e_ife (ht : PT X l (tT G B Wx F gl a)) (h1 : PE X m (tE G B Wx F gl b)) (h2 : PE X r (tE G B Wx F gl c)) : PE X (.IfExp l m r pos) (tE G B Wx F gl (.ife a b c)) := by
  refine PE.imp (pe_ifExp ht h1 h2) fun σ H Q ⟨w, env, ω, e, s, p⟩ => ?_
  subst e
  rw [evE] at p
  refine ⟨w, env, ω, rfl, s, p.bind.mono (fun k w1 ok1 e1 p2 => ?_) fun _ _ _ _ h => h⟩
  cases k with
  | true => exact iteT ⟨w1, env, ω, rfl, s.ext ok1 e1, p2⟩
  | false => exact iteF ⟨w1, env, ω, rfl, s.ext ok1 e1, p2⟩
theorem e_tup {j} (h : PA X es (tEs G B Wx F gl as)) : PE X (.Tuple es j pos) (tE G B Wx F gl (.tup as)) := by
  refine PE.imp (pe_tup h) fun σ H Q ⟨w, env, ω, e, s, p⟩ => ?_
  subst e
  rw [evE] at p
  refine ⟨w, env, ω, rfl, s, p.bind.mono (fun ds w1 ok1 e1 p2 vs rs => ?_) fun _ _ _ _ h => h⟩
  by_cases hz : ds.length ≤ LIM
  · simp only [hz, if_true] at p2
    exact ⟨by rw [← rs.length]; exact hz, Ends1.tup (fun w' v eh ok e r => p2 w' eh ok e v r) ok1 rs⟩
  · simp only [hz, if_false] at p2
    exact p2.elim
theorem e_lst (h : PA X es (tEs G B Wx F gl as)) : PE X (.List es pos) (tE G B Wx F gl (.lst as)) := by
  refine PE.imp (pe_lst h) fun σ H Q ⟨w, env, ω, e, s, p⟩ => ?_
  subst e
  rw [evE] at p
  refine ⟨w, env, ω, rfl, s, p.bind.mono (fun ds w1 ok1 e1 p2 vs rs => ?_) fun _ _ _ _ h => h⟩
  by_cases hz : ds.length ≤ LIM
  · simp only [hz, if_true] at p2
    exact ⟨by rw [← rs.length]; exact hz, Ends1.lst (fun w' v eh ok e r => p2 w' eh ok e v r) ok1 rs⟩
  · simp only [hz, if_false] at p2
    exact p2.elim
theorem e_sub (hK : X.K = G.K) (ha : PE X l (tBa G B Wx F gl a)) (hb : PE X r (tE G B Wx F gl b)) (hr : plainB r = true) : PE X (.Subscript l r pos) (tE G B Wx F gl (.sub a b)) := by
  refine PE.imp (pe_ix (sub_ok hK) ha hb (plain_ix hr)) fun σ H Q ⟨w, env, ω, e, s, p⟩ => ?_
  subst e
  rw [evE] at p
  refine ⟨w, env, ω, rfl, s, p.bind.mono (fun d1 w1 ok1 e1 p2 v1 r1 => ?_) fun _ _ _ _ h => h⟩
  have s1 := s.ext ok1 e1
  refine ⟨w1, env, ω, rfl, s1, p2.bind.mono (fun d2 w2 ok2 e2 p3 v2 r2 => ?_) fun _ _ _ _ h => h⟩
  obtain ⟨d3, h3, k⟩ := p3.lifted
  have r2' := r2.see ok2
  refine ⟨w2, _, d2, d3, rfl, ok2, (r1.ext ok1 e2).see ok2, ?_, h3, fun w' v eh ok e r => k w' eh ok e v r⟩
  cases r2 with
  | int i => exact .int i
  | _ => exfalso; revert h3; unfold subD; split <;> simp_all
theorem e_slice (hK : X.K = G.K) {lo hi : CO} {u v : Option Expr} {p2 : Pos} (ha : PE X l (tBa G B Wx F gl a)) (h1 : PO X u (tO G B Wx F gl lo)) (h2 : PO X v (tO G B Wx F gl hi)) :
    PE X (.Subscript l (.Slice u v none p2) pos) (tE G B Wx F gl (.slice a lo hi)) := by
  refine PE.imp (pe_slice (slice_ok hK) ha h1 h2) fun σ H Q ⟨w, env, ω, e, s, p⟩ => ?_
  subst e
  rw [evE] at p
  refine ⟨w, env, ω, rfl, s, p.bind.mono (fun d1 w1 ok1 e1 p2 v1 r1 => ?_) fun _ _ _ _ h => h⟩
  have s1 := s.ext ok1 e1
  refine ⟨w1, env, ω, rfl, s1, p2.bind.mono (fun l w2 ok2 e2 p3 => ?_) fun _ _ _ _ h => h⟩
  have s2 := s1.ext ok2 e2
  refine ⟨w2, env, ω, rfl, s2, p3.bind.mono (fun u w3 ok3 e3 p4 => ?_) fun _ _ _ _ h => h⟩
  obtain ⟨d3, h3, k⟩ := p4.lifted
  exact ⟨w3, _, d3, rfl, ok3, ((r1.ext ok1 e2).ext ok2 e3).see ok3, h3, fun w' v eh ok e r => k w' eh ok e v r⟩
theorem o_none : PO X none (tO G B Wx F gl .none) := PO.imp po_none fun σ H Q ⟨w, env, ω, e, s, p⟩ => by
  subst e
  rw [evO] at p
  exact Post.now p s.ok
theorem o_some (h : PE X e (tE G B Wx F gl a)) : PO X (some e) (tO G B Wx F gl (.some a)) := PO.imp (po_some h) fun σ H Q ⟨w, env, ω, e, s, p⟩ => by
  subst e
  rw [evO] at p
  refine ⟨w, env, ω, rfl, s, p.bind.mono (fun d1 w1 ok1 e1 p2 v1 r1 => ?_) fun _ _ _ _ h => h⟩
  cases r1 with
  | int i => exact ⟨i, rfl, Post.at (a := some i) p2 rfl ok1⟩
  | _ => exact p2.elim
theorem a_nil : PA X [] (tEs G B Wx F gl .nil) := PA.imp pa_nil fun σ H Q ⟨w, env, ω, e, s, p⟩ => by
  subst e
  rw [evEs] at p
  exact Post.now p s.ok _ .nil
theorem a_cons (hp : plainB e = true) (h : PE X e (tE G B Wx F gl a)) (hs : PA X es (tEs G B Wx F gl as)) : PA X (e :: es) (tEs G B Wx F gl (.cons a as)) := PA.imp (pa_cons h hs (star_one hp _ _)) fun σ H Q ⟨w, env, ω, e, s, p⟩ => by
  subst e
  rw [evEs] at p
  refine ⟨w, env, ω, rfl, s, p.bind.mono (fun d1 w1 ok1 e1 p2 v1 r1 => ?_) fun _ _ _ _ h => h⟩
  have s1 := s.ext ok1 e1
  refine ⟨w1, env, ω, rfl, s1, p2.bind.mono (fun ds w2 ok2 e2 p3 vs rs => ?_) fun _ _ _ _ h => h⟩
  exact (Post.at (a := d1 :: ds) p3 rfl ok2) _ (.cons (r1.ext ok1 e2) rs)
theorem a_star (hK : X.K = G.K) (h : PE X e (tE G B Wx F gl a)) (hs : PA X es (tEs G B Wx F gl as)) : PA X (.Starred e p :: es) (tEs G B Wx F gl (.star a as)) := PA.imp (StX.pa_star h hs) fun σ H Q ⟨w, env, ω, e, s, p⟩ => by
  subst e
  rw [evEs] at p
  refine ⟨w, env, ω, rfl, s, p.bind.mono (fun d1 w1 ok1 e1 p2 v1 r1 => ?_) fun _ _ _ _ h => h⟩
  have s1 := s.ext ok1 e1
  obtain ⟨ds, hd, p3⟩ := p2.bind.lifted
  have p3 := p3 w1 rfl ok1 (Ext.refl _)
  have q := r1.see ok1
  revert hd q
  generalize see w1.h d1 = z
  intro hd q
  have fin : ∀ (a : Addr) (vs : List V), v1 = .ref a → (SqT X.K w1.H a vs ∨ SqL X.K w1.H a vs) → Reps G w1 ds vs → ∃ p xs, v1 = V.ref p ∧ (SqT X.K w1.H p xs ∨ SqL X.K w1.H p xs) ∧ tEs G B Wx F gl as σ w1.H fun ys H2 => Q (xs ++ ys) H2 := by
    intro a vs e1 hs rs
    refine ⟨a, vs, e1, hs, w1, env, ω, rfl, s1, (Post.bind p3).mono (fun ds2 w2 ok2 e2 p4 vs2 rs2 => ?_) fun _ _ _ _ h => h⟩
    exact (Post.at (a := ds ++ ds2) p4 rfl ok2) _ ((rs.ext ok1 e2).append rs2)
  cases q with
  | lst h r => cases hd; rw [← hK] at h; exact fin _ _ rfl (.inr h.sq) r
  | tup h r => cases hd; rw [← hK] at h; exact fin _ _ rfl (.inl h) r
  | _ => cases hd
theorem bs_nil : PA X [] (tBs G B Wx F gl .nil) := PA.imp pa_nil fun σ H Q ⟨w, env, ω, e, s, p⟩ => by
  subst e
  rw [evBs] at p
  exact Post.now p s.ok _ .nil
theorem bs_cons (hp : plainB e = true) (h : PE X e (tBa G B Wx F gl a)) (hs : PA X es (tBs G B Wx F gl as)) : PA X (e :: es) (tBs G B Wx F gl (.cons a as)) := PA.imp (pa_cons h hs (star_one hp _ _)) fun σ H Q ⟨w, env, ω, e, s, p⟩ => by
  subst e
  rw [evBs] at p
  refine ⟨w, env, ω, rfl, s, p.bind.mono (fun d1 w1 ok1 e1 p2 v1 r1 => ?_) fun _ _ _ _ h => h⟩
  have s1 := s.ext ok1 e1
  refine ⟨w1, env, ω, rfl, s1, p2.bind.mono (fun ds w2 ok2 e2 p3 vs rs => ?_) fun _ _ _ _ h => h⟩
  exact (Post.at (a := d1 :: ds) p3 rfl ok2) _ (.cons (r1.ext ok1 e2) rs)
/-- arguments, some of them lent -/
theorem l_var {i : Nat} (ok : XOk G C gl F n sc lsc X) (hi : C.N[i]? = some x) (hv : isVis sc x = true) : PE X (.Name x p) (fun σ H Q => ∃ w env ω, w.H = H ∧ Stt G B w env σ ω ∧ Post G w (lent env (.var i) w.h (evE F gl env (.var i) w.h)) (fun d w' => ∀ v, ARep G w' d v → Q v w'.H) (XP G Wx σ)) := by
  obtain ⟨h1, h2, h3⟩ := vis_of hv ok.hsc
  refine PE.imp (pe_var (by rw [ok.N]; exact hi) h1 h2 h3) fun σ H Q ⟨w, env, ω, e, s, p⟩ => ?_
  subst e
  unfold lent at p
  rw [evE] at p
  cases q : env[i]? with
  | none => simp only [q] at p; exact p.elim
  | some sl => cases sl with
    | no => simp only [q] at p; exact p.elim
    | own o =>
      simp only [q] at p
      obtain ⟨h1, h2, h3, h4, h5⟩ := s.eo.own i o q
      exact ⟨_, h1, Post.now p s.ok _ (.b h2 h4)⟩
    | bor o =>
      simp only [q] at p
      obtain ⟨a, h1, h2, h4⟩ := s.eo.borAt s.be q
      exact ⟨_, h1, Post.now p s.ok _ (.b h2 h4)⟩
    | ex z => simp only [q] at p; exact p.elim
    | key z => simp only [q] at p; exact p.elim
    | val d =>
      simp only [q] at p
      obtain ⟨v, hv, rv⟩ := s.eo.vals i d q
      exact ⟨v, hv, Post.now (a := Ar.d d) p s.ok v (.d rv)⟩
theorem l_other (hn : ∀ i, c ≠ .var i) (h : PE X e (tE G B Wx F gl c)) : PE X e (fun σ H Q => ∃ w env ω, w.H = H ∧ Stt G B w env σ ω ∧ Post G w (lent env c w.h (evE F gl env c w.h)) (fun d w' => ∀ v, ARep G w' d v → Q v w'.H) (XP G Wx σ)) := PE.imp h fun σ H Q ⟨w, env, ω, e, s, p⟩ => by
  have q : lent env c w.h (evE F gl env c w.h) = (evE F gl env c w.h).bind fun d h => .ok (.d d) h := by
    unfold lent
    split
    · exact absurd rfl (hn _)
    · rfl
  rw [q] at p
  exact ⟨w, env, ω, e, s, p.bind.mono (fun d w' ok' _ h v r => Post.now (a := Ar.d d) h ok' v (.d r)) fun _ _ _ _ h => h⟩
theorem as_nil : PA X [] (tAs G B Wx F gl .nil) := PA.imp pa_nil fun σ H Q ⟨w, env, ω, e, s, p⟩ => by
  subst e
  rw [evAs] at p
  exact Post.now p s.ok _ .nil
theorem as_cons (hp : plainB e = true) (h : PE X e (fun σ H Q => ∃ w env ω, w.H = H ∧ Stt G B w env σ ω ∧ Post G w (lent env a w.h (evE F gl env a w.h)) (fun d w' => ∀ v, ARep G w' d v → Q v w'.H) (XP G Wx σ))) (hs : PA X es (tAs G B Wx F gl as)) : PA X (e :: es) (tAs G B Wx F gl (.cons a as)) := PA.imp (pa_cons h hs (star_one hp _ _)) fun σ H Q ⟨w, env, ω, e, s, p⟩ => by
  subst e
  rw [evAs] at p
  refine ⟨w, env, ω, rfl, s, p.bind.mono (fun d1 w1 ok1 e1 p2 v1 r1 => ?_) fun _ _ _ _ h => h⟩
  have s1 := s.ext ok1 e1
  refine ⟨w1, env, ω, rfl, s1, p2.bind.mono (fun ds w2 ok2 e2 p3 vs rs => ?_) fun _ _ _ _ h => h⟩
  exact (Post.at (a := d1 :: ds) p3 rfl ok2) _ (.cons (r1.ext ok1 e2) rs)
/-- xs[::-1] -/
theorem e_rev {j : Nat} {p2 p3 p4 : Pos} (hK : X.K = G.K) (h : PE X l (tBa G B Wx F gl a)) : PE X (.Subscript l (.Slice none none (some (.UnaryOp .USub (.Constant (.int 1) j p3) p4)) p2) pos) (tE G B Wx F gl (.rev a)) := by
  refine PE.imp (pe_rev (G := G) hK h) fun σ H Q ⟨w, env, ω, e, s, p⟩ => ?_
  subst e
  rw [evE] at p
  refine ⟨w, env, ω, rfl, s, p.bind.mono (fun d1 w1 ok1 e1 p2 v1 r1 => ?_) fun _ _ _ _ h => h⟩
  obtain ⟨d3, h3, k⟩ := p2.lifted
  exact ⟨w1, _, d3, rfl, ok1, r1.see ok1, h3, fun w' v eh ok e r => k w' eh ok e v r⟩
/-- isinstance(e, X), e the exception in hand -/
theorem e_exIs {i : Nat} {t : Xt} {nm y : Str} {p1 p3 p4 : Pos} (ok : XOk G C gl F n sc lsc X) (hd : HandB X B) (hg : isGl sc "isinstance" = true) (hi : C.N[i]? = some nm) (hv : isVis sc nm = true) (ht : ckXt C.T t y = true) (hgy : isGl sc y = true) :
    PE X (.Call (.Name "isinstance" p1) [.Name nm p3, .Name y p4] [] pos) (tE G B Wx F gl (.exIs i t)) := by
  have hno : B.xc = .none → ∀ σ H Q, ¬ tE G B Wx F gl (.exIs i t) σ H Q := fun hx σ H Q ⟨w, env, ω, e, s, p⟩ => by
    rw [evE] at p
    split at p
    · rename_i z hz
      obtain ⟨_, h2, _⟩ := s.eo.ex i z hz
      rw [hx] at h2
      cases h2
    · exact p.elim
  rcases hd with hd | ⟨X0, oe, pn, rfl, hz, hf⟩
  · exact ⟨fun pins s σ H Q I h => (hno hd σ H Q h).elim⟩
  obtain ⟨g1, g2⟩ := gl_of hg ok.hsc
  obtain ⟨k1, k2⟩ := gl_of hgy ok.hsc
  obtain ⟨h1, h2, h3⟩ := vis_of hv ok.hsc
  have hm := ok.blt "isinstance" (by decide)
  -- the class
  obtain ⟨cv, hcv, hpe⟩ : ∃ cv : V, (∀ u, RelV cv u → u = xtV G t) ∧ PE (Cx.suite X0 B.xa ((B.xa, oe) :: pn)) (.Name y p4) (tC cv) := by
    cases t with
    | own c =>
      have h' : (decide (C.T.cls.length ≤ c) && (C.T.cls ++ C.T.exc)[c]? == some y) = true := ht
      rw [Bool.and_eq_true, decide_eq_true_eq, beq_iff_eq] at h'
      have e1 := ok.exc c y h'.1 h'.2
      exact ⟨.ref (G.ca c), fun u r => r, pe_glob k1 e1 rfl k2⟩
    | val =>
      have e : y = "ValueError" := beq_iff_eq.mp ht
      subst e
      exact ⟨.ty "ValueError", fun u r => r, pe_bltn k1 (ok.blt _ (by decide)) (by decide +kernel) rfl⟩
  by_cases hc : ∃ c, B.xc = .ref (G.ca c) ∧ B.xd = none ∧ ExcC G.K (G.ca c)
  · obtain ⟨c, ec, ed, hC⟩ := hc
    rw [ec, ed] at hz
    rw [← ok.K] at hC
    refine PE.imp (pe_callB (call_isE hC hz hf) g1 hm (by decide +kernel) (pa_cons (pe_var (by rw [ok.N]; exact hi) h1 h2 h3) (pa_cons hpe pa_nil (star_one rfl _ _)) (star_one rfl _ _)) (by decide) g2 (star_one rfl _ _) (star_none (es := [.Name y p4]) rfl _ _)) fun σ H Q ⟨w, env, ω, e, s, p⟩ => ?_
    subst e
    rw [evE] at p
    split at p
    rotate_left
    · exact p.elim
    rename_i z hz2
    obtain ⟨j1, j2, _⟩ := s.eo.ex i z hz2
    split at p
    rotate_left
    · exact p.elim
    obtain ⟨d, hd, k⟩ := p.lifted
    obtain ⟨bb, hb, rfl⟩ := Option.map_eq_some_iff.mp hd
    obtain ⟨hk, _⟩ := ok.xi z.c t bb hb
    have ez : (Value.ref (G.ca z.c)) = .ref (G.ca c) := by rw [← j2, ec]
    refine ⟨_, j1, _, _, _, rfl, hcv, ?_, k w rfl s.ok (Ext.refl _) _ (.bl bb)⟩
    rw [← ez, ok.K]
    exact hk
  · refine ⟨fun pins s σ H Q I ⟨w, env, ω, e, st, p⟩ => ?_⟩
    rw [evE] at p
    split at p
    rotate_left
    · exact p.elim
    rename_i z hz2
    obtain ⟨j1, j2, j3⟩ := st.eo.ex i z hz2
    split at p
    rotate_left
    · exact p.elim
    rename_i he
    rw [List.isEmpty_iff] at he
    obtain ⟨d, hd, k⟩ := p.lifted
    obtain ⟨bb, hb, rfl⟩ := Option.map_eq_some_iff.mp hd
    rcases j3 with ⟨_, j3⟩ | ⟨j3, _⟩
    · exact (hc ⟨z.c, j2, j3, (ok.xi z.c t bb hb).2⟩).elim
    · exact (j3 he).elim
/-- e.f, e the exception in hand -/
theorem e_exFld {i f : Nat} {nm y : Str} {p3 : Pos} (ok : XOk G C gl F n sc lsc X) (hd : HandB X B) (hf : C.T.fld[f]? = some y) (hi : C.N[i]? = some nm) (hv : isVis sc nm = true) (go : G.Ok) (look : ∀ {w : W} {fs : List (Nat × D)} {fvs : List (Str × V)} {d : D}, RepF G w fs fvs → fs.lookup f = some d → ∃ v, fvs.lookup (G.sy f) = some v ∧ Rep G w d v) :
    PE X (.Attribute (.Name nm p3) y pos) (tE G B Wx F gl (.exFld i f)) := by
  have hno : B.xc = .none → ∀ σ H Q, ¬ tE G B Wx F gl (.exFld i f) σ H Q := fun hx σ H Q ⟨w, env, ω, e, s, p⟩ => by
    rw [evE] at p
    split at p
    · rename_i z hz
      obtain ⟨_, h2, _⟩ := s.eo.ex i z hz
      rw [hx] at h2
      cases h2
    · exact p.elim
  rcases hd with hd | ⟨X0, oe, pn, rfl, hz, hfl⟩
  · exact ⟨fun pins s σ H Q I h => (hno hd σ H Q h).elim⟩
  obtain ⟨h1, h2, h3⟩ := vis_of hv ok.hsc
  by_cases hc : ∃ c, B.xc = .ref (G.ca c) ∧ XfC G.K (G.ca c) ∧ PySem.W.findIn G.K (.ref (G.ca c)) (G.sy f) = some none
  · obtain ⟨c, ec, hX, hn⟩ := hc
    rw [← ok.K] at hX hn
    rw [ok.sy f y hf] at hn
    refine PE.imp (pe_xf (n := y) hX hn hz hfl (pe_var (by rw [ok.N]; exact hi) h1 h2 h3) rfl) fun σ H Q ⟨w, env, ω, e, s, p⟩ => ?_
    subst e
    rw [evE] at p
    split at p
    rotate_left
    · exact p.elim
    rename_i z hz2
    obtain ⟨j1, j2, j3⟩ := s.eo.ex i z hz2
    split at p
    rotate_left
    · exact p.elim
    obtain ⟨d, hd, k⟩ := p.lifted
    rcases j3 with ⟨j3, _⟩ | ⟨_, dd, fvs, k1, k2, k3⟩
    · rw [j3] at hd; cases hd
    obtain ⟨v, hv, rv⟩ := look k3 hd
    rw [ok.sy f y hf] at hv
    exact ⟨_, j1, rfl, ec, dd, fvs, v, k1, k2, hv, k w rfl s.ok (Ext.refl _) v rv⟩
  · refine ⟨fun pins s σ H Q I ⟨w, env, ω, e, st, p⟩ => ?_⟩
    rw [evE] at p
    split at p
    rotate_left
    · exact p.elim
    rename_i z hz2
    obtain ⟨j1, j2, j3⟩ := st.eo.ex i z hz2
    split at p
    rotate_left
    · exact p.elim
    rename_i hxf
    exact (hc ⟨z.c, j2, ok.xf z.c f hxf⟩).elim
end
end Rf
set_option Elab.async false
set_option linter.all false
set_option maxRecDepth 100000
set_option maxHeartbeats 4000000
/-! G10: calls, comprehensions -/
namespace Rf
open PySem L2 PySem.Spec PyProof.Rows
section
variable {G : Gm} {B : Bs} {w w1 w' : W} {a : Addr} {o u : HO}
/-- an object that is ours alone is changed -/
def W.mut (w : W) (a : Addr) (o : HO) : W := ⟨w.Z, w.ι, w.h, upd w.H a o⟩
theorem W.mut_le (nz : ¬ w.Z a) (h : w.H a = some u) (su : Soft u) : Le w (w.mut a o) where
  z := fun _ z => z
  ι := fun _ _ => rfl
  len := Nat.le_refl _
  kz := fun b x z hb => by
    show upd w.H a o b = some x
    rw [upd_ne (fun q : b = a => nz (by rw [← q]; exact z))]
    exact hb
  kn := fun b x ns hb => by
    show upd w.H a o b = some x
    rw [upd_ne (fun q => by rw [q, h] at hb; cases hb; exact ns su)]
    exact hb
theorem ObAt.le_ne {b : Addr} {ob : Ob} (h : ObAt G w b ob) (le : Le w w') (e : w'.H b = w.H b) : ObAt G w' b ob := by
  cases h with
  | lst h r => exact .lst (e.trans h) (r.le le)
  | dk h r => exact .dk (e.trans h) (r.le le)
  | dt h r => exact .dt (e.trans h) (r.le le)
  | ins hc h r => exact .ins hc (e.trans h) (r.le le)
theorem W.mut_ok (ok : WOk G w) (nz : ¬ w.Z a) (nl : ¬ w.live a) (h : w.H a = some u) (su : Soft u) : WOk G (w.mut a o) := by
  refine ⟨fun i ob hi => ?_, ok.inj, fun b z => ?_⟩
  · obtain ⟨h1, h2⟩ := ok.cell i ob hi
    have ne : w.ι i ≠ a := fun q => nl ⟨i, ob, hi, q⟩
    exact ⟨h1.le_ne (W.mut_le nz h su) (by show upd w.H a o (w.ι i) = _; rw [upd_ne ne] <;> rfl), h2⟩
  · obtain ⟨x, hx⟩ := ok.zin b z
    exact ⟨x, by show upd w.H a o b = some x; rw [upd_ne (fun q : b = a => nz (by rw [← q]; exact z))]; exact hx⟩
theorem W.mut_ext {B : W} (be : Ext B w) (hb : B.H a = none) : Ext B (w.mut a o) where
  z := be.z
  zn := be.zn
  ι := be.ι
  len := be.len
  lv := be.lv
  fresh := be.fresh
  keep := fun b x h nl => by
    show upd w.H a o b = some x
    rw [upd_ne (ne_of_none h hb)]
    exact be.keep b x h nl
  dom := fun b h => by
    have h' : upd w.H a o b = none := h
    by_cases q : b = a
    · rw [q]; exact hb
    · rw [upd_ne q] at h'; exact be.dom b h'
/-- an object of ours is frozen -/
def W.fz (w : W) (a : Addr) : W := ⟨fun b => w.Z b ∨ b = a, w.ι, w.h, w.H⟩
theorem W.fz_le : Le w (w.fz a) := ⟨fun _ z => .inl z, fun _ _ => rfl, Nat.le_refl _, fun _ _ _ h => h, fun _ _ _ h => h⟩
theorem W.fz_ok (ok : WOk G w) (nl : ¬ w.live a) (h : w.H a = some u) : WOk G (w.fz a) := by
  refine ⟨fun i ob hi => ?_, ok.inj, fun b z => ?_⟩
  · obtain ⟨h1, h2⟩ := ok.cell i ob hi
    refine ⟨h1.le_ne W.fz_le rfl, fun z => ?_⟩
    rcases z with z | z
    · exact h2 z
    · exact nl ⟨i, ob, hi, z⟩
  · rcases z with z | rfl
    · exact ok.zin b z
    · exact ⟨u, h⟩
theorem W.fz_ext {B : W} (be : Ext B w) (hb : B.H a = none) : Ext B (w.fz a) where
  z := fun b z => .inl (be.z b z)
  zn := fun b z => by
    rcases z with z | rfl
    · exact be.zn b z
    · exact .inr (.inl hb)
  ι := be.ι
  len := be.len
  lv := be.lv
  fresh := be.fresh
  keep := be.keep
  dom := be.dom
/-- a new tracked object that is ours -/
theorem W.new_ok (ok : WOk G w) (h : w.H a = none) : WOk G (w.mut a o) ∧ Ext w (w.mut a o) ∧ ¬ w.Z a ∧ ¬ w.live a := by
  have nz : ¬ w.Z a := fun z => by
    obtain ⟨x, hx⟩ := ok.zin a z
    rw [h] at hx; cases hx
  have nl : ¬ w.live a := fun l => by
    obtain ⟨⟨u, hu, _⟩, _⟩ := ok.soft l
    rw [h] at hu; cases hu
  have ex : Ext w (w.mut a o) := W.mut_ext (Ext.refl w) h
  refine ⟨⟨fun i ob hi => ?_, ok.inj, fun b z => ?_⟩, ex, nz, nl⟩
  · obtain ⟨h1, h2⟩ := ok.cell i ob hi
    exact ⟨h1.le_ne (ex.le ok) (by show upd w.H a o (w.ι i) = _; rw [upd_ne (fun q => nl ⟨i, ob, hi, q⟩)] <;> rfl), h2⟩
  · obtain ⟨x, hx⟩ := ok.zin b z
    exact ⟨x, by show upd w.H a o b = some x; rw [upd_ne (fun q : b = a => nz (by rw [← q]; exact z))]; exact hx⟩
theorem EnvOk.le {env : En} {σ : List (Option V)} {ω : Nat → Addr} (x : EnvOk G B w env σ ω) (le : Le w w') (hk : ∀ (i : Nat) (ob : Ob), env[i]? = some (Sl.own ob) → w'.H (ω i) = w.H (ω i) ∧ ¬ w'.Z (ω i) ∧ ¬ w'.live (ω i)) : EnvOk G B w' env σ ω where
  len := x.len
  vals := fun i d h => by
    obtain ⟨v, hv, r⟩ := x.vals i d h
    exact ⟨v, hv, r.le le⟩
  own := fun i ob h => by
    obtain ⟨h1, h2, h3, h4, h5⟩ := x.own i ob h
    obtain ⟨k1, k2, k3⟩ := hk i ob h
    exact ⟨h1, h2.le_ne le k1, k2, k3, h5⟩
  inj := x.inj
  mine := x.mine
  bor := x.bor
  ex := fun i z h => by
    obtain ⟨h1, h2, h3⟩ := x.ex i z h
    refine ⟨h1, h2, ?_⟩
    rcases h3 with h3 | ⟨k0, d, fvs, k1, k2, k3⟩
    · exact .inl h3
    · exact .inr ⟨k0, d, fvs, k1, le.kn _ _ (fun z => z) k2, k3.le le⟩
  key := fun i ks h => by
    obtain ⟨a, h1, h2⟩ := x.key i ks h
    exact ⟨a, h1, le.kn _ _ (fun z => z) h2⟩
/-- slots beside an object of ours -/
theorem Stt.mut {env : En} {σ : List (Option V)} {ω : Nat → Addr} (s : Stt G B w env σ ω) (nz : ¬ w.Z a) (nl : ¬ w.live a) (h : w.H a = some u) (su : Soft u) (hb : B.H a = none) (hn : ∀ (i : Nat) (ob : Ob), env[i]? = some (Sl.own ob) → ω i ≠ a) : Stt G B (w.mut a o) env σ ω :=
  ⟨W.mut_ok s.ok nz nl h su, W.mut_ext s.be hb, s.eo.le (W.mut_le nz h su) fun i ob hi => by
    obtain ⟨h1, h2, h3, h4, h5⟩ := s.eo.own i ob hi
    exact ⟨by show upd w.H a o (ω i) = _; rw [upd_ne (hn i ob hi)], h3, h4⟩⟩
end

/-! ### targets -/
def setsV (σ : List (Option V)) : List Nat → List V → List (Option V)
  | i :: is, v :: vs => setsV (σ.set i (some v)) is vs
  | _, _ => σ
def gTg (K : PySem.W.Frag) : Tg → TG
  | .name i => gName i
  | .tup is => fun v σ H Q => ∃ a vs, v = .ref a ∧ SqT K H a vs ∧ vs.length = is.length ∧ Q (setsV σ is vs) H
section
variable {G : Gm} {B : Bs} {w w' : W} {Wx : WX} {F : FTab} {gl : Nat → Option D} {C : Ck} {n : Nat} {sc lsc : Scope} {X : Cx} {env env' : En} {σ : List (Option V)} {ω : Nat → Addr}
  {l m r e : Expr} {es : List Expr} {a b c : CE} {as : CEs} {pos p : Pos} {x : Str}
theorem g_name {i : Nat} (ok : XOk G C gl F n sc lsc X) (h : ckNm C lsc i e = true) : PG X e (gName i) ∧ (∀ env, assignEach (e :: es) env = (false, assign e env) :: assignEach es env) := by
  cases e <;> first | cases h | skip
  rename_i x p
  have h' : (C.N[i]? == some x && isLoc lsc x) = true := h
  rw [Bool.and_eq_true, beq_iff_eq] at h'
  refine ⟨pg_name (by rw [ok.N]; exact ok.nd) (by rw [ok.N]; exact h'.1) (ok.fnl x h'.2).1 (ok.fnl x h'.2).2, fun _ => rfl⟩
theorem g_names (ok : XOk G C gl F n sc lsc X) : ∀ {is : List Nat} {es : List Expr}, ckNms C lsc is es = true → PGs X es (fun vs σ H Q => vs.length = is.length ∧ Q (setsV σ is vs) H) ∧
    (assignEach es X.env).length = is.length ∧ (assignEach es X.env).findIdx? (·.1) = none
  | [], [], _ => ⟨⟨fun pins s σ H vs us Q I r h => pgs_nil.run pins s σ H vs us Q I r ⟨List.length_eq_zero_iff.mp h.1, by
      have e := List.length_eq_zero_iff.mp h.1
      subst e
      exact h.2⟩⟩, rfl, rfl⟩
  | [], _ :: _, h => by cases h
  | _ :: _, [], h => by cases h
  | i :: is, e :: es, h => by
    have h' : (ckNm C lsc i e && ckNms C lsc is es) = true := h
    rw [Bool.and_eq_true] at h'
    obtain ⟨h1, h2⟩ := g_name (es := es) ok h'.1
    obtain ⟨k1, k2, k3⟩ := g_names ok h'.2
    refine ⟨⟨fun pins s σ H vs us Q I r q => (pgs_cons h1 k1 (by rw [h2]; rfl)).run pins s σ H vs us Q I r ?_⟩, by rw [h2, List.length_cons, k2, List.length_cons], by
      rw [h2, List.findIdx?_cons, k3]
      rfl⟩
    obtain ⟨q1, q2⟩ := q
    cases vs with
    | nil => cases q1
    | cons v vs => exact ⟨v, vs, rfl, by simpa using q1, q2⟩
theorem g_tg {t : Tg} (ok : XOk G C gl F n sc lsc X) (h : ckTg C lsc t e = true) : PG X e (gTg G.K t) := by
  cases t with
  | name i => exact (g_name (es := []) ok h).1
  | tup is =>
    cases e <;> first | cases h | skip
    rename_i es j pos
    have h' : (C.calm && ckNms C lsc is es) = true := h
    rw [Bool.and_eq_true] at h'
    obtain ⟨k1, k2, k3⟩ := g_names ok h'.2
    refine PG.imp (pg_tup (ok.calm h'.1) k1 k2 k3) fun v σ H Q q => ?_
    obtain ⟨a, vs, e1, e2, e3, e4⟩ := q
    rw [ok.K]
    exact ⟨a, vs, e1, e2, e3, e3, e4⟩
/-- the target's data -/
theorem sets_ok : ∀ {is : List Nat} {ds : List D} {vs : List V} {env : En} {σ : List (Option V)}, Reps G w ds vs → EnvOk G B w env σ ω → EnvOk G B w ((is.zip ds).foldl (fun e p => e.set p.1 (.val p.2)) env) (setsV σ is vs) ω
  | [], _, _, _, _, _, x => by
    rw [List.zip_nil_left]
    unfold setsV
    exact x
  | i :: is, [], _, _, _, .nil, x => x
  | i :: is, d :: ds, v :: vs, env, σ, .cons r rs, x => by
    rw [List.zip_cons_cons, List.foldl_cons]
    exact sets_ok rs (x.set r)
theorem bind_ok {t : Tg} {d : D} {v : V} (x : EnvOk G B w env σ ω) (r : Rep G w d v) (h : bindT t d env = some env') {Q : List (Option V) → Hp → Prop} (q : ∀ σ', EnvOk G B w env' σ' ω → (match t with | .name i => σ' = σ.set i (some v) | .tup is => ∃ vs, σ' = setsV σ is vs) → Q σ' w.H) : gTg G.K t v σ w.H Q := by
  cases t with
  | name i =>
    cases h
    exact q _ (x.set r) rfl
  | tup is =>
    unfold bindT at h
    cases r with
    | tup hs rs =>
      rename_i a vs ds
      simp only at h
      split at h
      · rename_i hl
        cases h
        rw [beq_iff_eq] at hl
        exact ⟨a, vs, rfl, hs, by rw [← rs.length]; exact hl, q _ (sets_ok rs x) ⟨vs, rfl⟩⟩
      · cases h
    | _ => cases h
theorem wipe_get (σ : List (Option V)) : ∀ (own : List Nat) (j : Nat), (L2.wipe σ own)[j]? = if j ∈ own then σ[j]?.map (fun _ => none) else σ[j]?
  | [], j => by simp [L2.wipe]
  | i :: is, j => by
    unfold L2.wipe
    rw [List.getElem?_set, wipe_get σ is j]
    by_cases q : i = j
    · subst q
      have hl : (L2.wipe σ is).length = σ.length := L2.wipe_length σ is
      simp only [if_true, List.mem_cons, true_or]
      by_cases hi : i < σ.length
      · rw [if_pos (by rw [hl]; exact hi)]
        simp [List.getElem?_eq_getElem hi]
      · rw [if_neg (by rw [hl]; exact hi)]
        simp [List.getElem?_eq_none (Nat.le_of_not_lt hi)]
    · rw [if_neg q]
      by_cases h : j ∈ is
      · simp [h]
      · simp [h, Ne.symm q]
theorem wipe_set {own : List Nat} {i : Nat} {v : Option V} (σ : List (Option V)) (h : i ∈ own) : L2.wipe (σ.set i v) own = L2.wipe σ own := by
  apply List.ext_getElem?
  intro j
  rw [wipe_get, wipe_get]
  by_cases hj : j ∈ own
  · rw [if_pos hj, if_pos hj, List.getElem?_set]
    by_cases q : i = j
    · subst q
      rw [if_pos rfl]
      by_cases hi : i < σ.length
      · simp [hi]
      · simp [hi]
    · rw [if_neg q]
  · rw [if_neg hj, if_neg hj, List.getElem?_set_ne (fun q : i = j => hj (by rw [← q]; exact h))]
theorem wipe_idem (σ : List (Option V)) (own : List Nat) : L2.wipe (L2.wipe σ own) own = L2.wipe σ own := by
  apply List.ext_getElem?
  intro j
  rw [wipe_get, wipe_get]
  by_cases hj : j ∈ own
  · simp [hj, Function.comp_def]
  · simp [hj]
theorem wipe_sets {own : List Nat} : ∀ {is : List Nat} {vs : List V} {σ : List (Option V)}, (∀ i ∈ is, i ∈ own) → L2.wipe (setsV σ is vs) own = L2.wipe σ own
  | [], vs, σ, _ => by unfold setsV; rfl
  | i :: is, [], σ, _ => by unfold setsV; rfl
  | i :: is, v :: vs, σ, h => by
    unfold setsV
    rw [wipe_sets fun j hj => h j (List.mem_cons_of_mem _ hj), wipe_set _ (h i List.mem_cons_self)]
end
end Rf
set_option Elab.async false
set_option linter.all false
set_option maxRecDepth 100000
set_option maxHeartbeats 4000000
/-! G11: iterators, comprehensions, calls, and/or -/
namespace Rf
open PySem L2 PySem.Spec PyProof.Rows
section
variable {G : Gm} {B : Bs} {w w1 w' : W} {Wx : WX} {F : FTab} {gl : Nat → Option D} {C : Ck} {n : Nat} {sc lsc : Scope} {X : Cx} {env env' : En} {σ : List (Option V)} {ω : Nat → Addr}
  {l m r e tg : Expr} {es : List Expr} {a b c : CE} {as : CEs} {pos p : Pos} {x : Str}
/-! ### iterators -/
def iSeq (K : PySem.W.Frag) (tl : TE) : TI := fun σ H R => tl σ H fun x H1 => (∃ z, x = .str z ∧ R (Its z) H1) ∨ ∃ a, x = .ref a ∧ (((∃ xs, SqL K H1 a xs) ∧ R (Itl K a) H1) ∨ ((∃ xs, SqT K H1 a xs) ∧ R (Itt K a) H1))
theorem pi_seq {l : Expr} {tl : TE} (hl : PE X l tl) : PI X tg l (iSeq X.K tl) := by
  refine ⟨fun pins s σ H R I h => ?_⟩
  refine thn (hl.run pins s σ H _ I h) fun v s1 ⟨x, H1, I1, r1, q1⟩ => ?_
  rcases q1 with ⟨z, ez, q⟩ | ⟨a, e, ⟨⟨xs, hq⟩, q⟩ | ⟨⟨xs, hq⟩, q⟩⟩
  · subst ez
    obtain ⟨t, rfl⟩ := r1
    cases ha : z.cps.all (· < 128)
    · exact wpAny_pyIter_wide ha (pi_one (tk := s1.toks) I1 _ (turn_str _ z t "str_iterator" (.inr rfl)) ⟨_, Heap.get?_push_size _ rfl, rfl, rfl⟩ q)
    · exact wpAny_pyIter_ascii ha (pi_one (tk := s1.toks) I1 _ (turn_str _ z t "str_ascii_iterator" (.inl rfl)) ⟨_, Heap.get?_push_size _ rfl, rfl, rfl⟩ q)
  · subst e
    cases r1
    obtain ⟨its, rv, p, hz⟩ := I1.list hq
    refine wpAny_pyIter_list p.isList ?_
    refine ⟨s1.heap.objs.size, [s1.heap.objs.size], _, _, H1, rfl, I1.kept (t' := s1.toks) fun b o e => Heap.get?_push_of_some _ e, turn_list a _, ⟨_, Heap.get?_push_size _ rfl, rfl, rfl⟩, fun b hb => ?_, q⟩
    have e : b = s1.heap.objs.size := by simpa using hb
    subst e
    exact I1.fpOk (Nat.le_refl _) (I1.hok.fresh (Nat.le_refl _))
  · subst e
    cases r1
    obtain ⟨its, rv, p, hz⟩ := I1.tuple hq
    refine wpAny_pyIter_tuple (show s1.heap.IsTuple a its.toArray from p) ?_
    refine ⟨s1.heap.objs.size, [s1.heap.objs.size], _, _, H1, rfl, I1.kept (t' := s1.toks) fun b o e => Heap.get?_push_of_some _ e, turn_tuple a _, ⟨_, Heap.get?_push_size _ rfl, rfl, rfl⟩, fun b hb => ?_, q⟩
    have e : b = s1.heap.objs.size := by simpa using hb
    subst e
    exact I1.fpOk (Nat.le_refl _) (I1.hok.fresh (Nat.le_refl _))
/-- what is walked -/
def tWa (G : Gm) (B : Bs) (Wx : WX) (F : FTab) (gl : Nat → Option D) (c : CE) : TE := fun σ H Q => ∃ w env ω, w.H = H ∧ Stt G B w env σ ω ∧ Post G w (walked env c w.h (evE F gl env c w.h)) (fun d w' => ∀ v, (Rep G w' d v ∨ ∃ a o, v = .ref a ∧ d = obD o ∧ WOk G B.toW ∧ ObAt G B.toW a o ∧ ¬ B.live a ∧ Ext B.toW w') → Q v w'.H) (XP G Wx σ)
theorem w_var {i : Nat} (ok : XOk G C gl F n sc lsc X) (hi : C.N[i]? = some x) (hv : isVis sc x = true) : PE X (.Name x p) (tWa G B Wx F gl (.var i)) := by
  obtain ⟨h1, h2, h3⟩ := vis_of hv ok.hsc
  refine PE.imp (pe_var (by rw [ok.N]; exact hi) h1 h2 h3) fun σ H Q ⟨w, env, ω, e, s, p⟩ => ?_
  subst e
  unfold walked at p
  rw [evE] at p
  cases q : env[i]? with
  | none => simp only [q] at p; exact p.elim
  | some sl => cases sl with
    | no => simp only [q] at p; exact p.elim
    | own o => simp only [q] at p; exact p.elim
    | ex z => simp only [q] at p; exact p.elim
    | key z => simp only [q] at p; exact p.elim
    | bor o =>
      simp only [q] at p
      obtain ⟨a, h1, h2, h3, h4⟩ := s.eo.bor i o q
      exact ⟨_, h1, Post.now p s.ok _ (.inr ⟨a, o, rfl, rfl, h2, h3, h4, s.be⟩)⟩
    | val d =>
      simp only [q] at p
      obtain ⟨v, hv, rv⟩ := s.eo.vals i d q
      exact ⟨v, hv, Post.now p s.ok v (.inl rv)⟩
theorem w_other (hn : ∀ i, c ≠ .var i) (h : PE X e (tE G B Wx F gl c)) : PE X e (tWa G B Wx F gl c) := PE.imp h fun σ H Q ⟨w, env, ω, e, s, p⟩ => by
  have q : walked env c w.h (evE F gl env c w.h) = evE F gl env c w.h := by
    unfold walked
    split
    · exact absurd rfl (hn _)
    · rfl
  rw [q] at p
  exact ⟨w, env, ω, e, s, p.mono (fun d w' _ _ h v r => h v (.inl r)) fun _ _ _ _ h => h⟩
theorem i_of (hK : X.K = G.K) (h : PE X l (tWa G B Wx F gl a)) : PI X tg l (tI G B Wx F gl (.of a)) := PI.imp (pi_seq h) fun σ H R ⟨w, env, ω, e, s, p⟩ => by
  subst e
  rw [evI] at p
  refine ⟨w, env, ω, rfl, s, p.bind.mono (fun d1 w1 ok1 e1 p2 v1 r1 => ?_) fun _ _ _ _ h => h⟩
  obtain ⟨ds, hd, k⟩ := p2.lifted
  have k := k w1 rfl ok1 (Ext.refl _)
  rcases r1 with r1 | ⟨ad, o, rfl, rfl, okB, hB, nlB, be⟩
  · cases r1 with
    | lst h r =>
      cases hd
      rename_i ad vs
      refine .inr ⟨_, rfl, .inl ⟨⟨_, by rw [hK]; exact h.sq⟩, k _ ⟨vs, _, r, walk_list, fun w' le _ => by rw [hK]; exact (le.fzl h).sq⟩⟩⟩
    | tup h r =>
      cases hd
      rename_i ad vs
      refine .inr ⟨_, rfl, .inr ⟨⟨_, by rw [hK]; exact h⟩, k _ ⟨vs, _, r, walk_tup, fun w' le _ => by rw [hK]; exact le.tup h⟩⟩⟩
    | str z hz =>
      cases hd
      refine .inl ⟨z, rfl, k _ ⟨z.cps.toList.map fun c => V.str ⟨#[c]⟩, fun _ => True, signs_rep _, ?_, fun _ _ _ => trivial⟩⟩
      have wk := walk_str (z := z)
      rw [List.length_map, Array.length_toList]
      refine wk.mono (fun _ h => h) fun i H x H' hi _ y => ⟨y.1, ?_⟩
      obtain ⟨_, c, hc, ev⟩ := y
      rw [List.getElem?_map, Array.getElem?_toList, hc, ev]
      rfl
    | _ => cases hd
  · cases hB with
    | lst h r =>
      cases hd
      rename_i vs
      have hb : ∀ w' : W, Ext B.toW w' → SqL X.K w'.H ad vs := fun w' e => .inl (.inl (e.keep ad _ h nlB))
      exact .inr ⟨_, rfl, .inl ⟨⟨_, hb w1 be⟩, k _ ⟨vs, _, r.ext okB be, walk_list, fun w' _ e => hb w' e⟩⟩⟩
    | _ => cases hd
theorem reps_ints (f : Nat → Int) : ∀ l : List Nat, Reps G w (l.map fun k => D.int (f k)) (l.map fun k => V.int (f k))
  | [] => .nil
  | k :: l => .cons (.int _) (reps_ints f l)
theorem rng_it {lo hi : Int} {ds : List D} (h : rngD lo hi = some ds) : (-(2 ^ 62) ≤ lo ∧ lo < 2 ^ 62 ∧ -(2 ^ 62) ≤ hi ∧ hi < 2 ^ 62) ∧ ∀ B, ItOk G B w ds (Itr lo (hi - lo).toNat) := by
  unfold rngD at h
  split at h
  · rename_i hb
    cases h
    simp only [Bool.and_eq_true, decide_eq_true_eq] at hb
    refine ⟨by omega, fun B => ⟨(List.range (hi - lo).toNat).map (fun (k : Nat) => V.int (lo + k)), fun _ => True, reps_ints (fun k => lo + k) _, ?_, fun _ _ _ => trivial⟩⟩
    have wk := walk_range (lo := lo) (n := (hi - lo).toNat)
    rw [show ((List.range (hi - lo).toNat).map (fun (k : Nat) => V.int (lo + k))).length = (hi - lo).toNat by simp]
    exact wk.mono (fun _ h => h) fun i H x H' hi _ y => ⟨y.1, by rw [y.2]; simp [hi]⟩
  · cases h
theorem i_rng1 (ok : XOk G C gl F n sc lsc X) (hg : isGl sc "range" = true) (hp : plainB l = true) (h : PE X l (tE G B Wx F gl a)) : PI X tg (.Call (.Name "range" p) [l] [] pos) (tI G B Wx F gl (.rng1 a)) := by
  obtain ⟨g1, g2⟩ := gl_of hg ok.hsc
  refine PI.imp (pi_range1 g1 (ok.blt _ (by simp [names0])) (pa_cons h pa_nil (star_one hp _ _)) (star_one hp _ _)) fun σ H R ⟨w, env, ω, e, s, p⟩ => ?_
  subst e
  rw [evI] at p
  refine ⟨w, env, ω, rfl, s, p.bind.mono (fun d1 w1 ok1 e1 p2 v1 r1 => ?_) fun _ _ _ _ h => h⟩
  cases r1 with
  | int j =>
    obtain ⟨ds, hd, k⟩ := p2.lifted
    obtain ⟨hb, it⟩ := rng_it (G := G) (w := w1) hd
    refine ⟨j, rfl, hb.2.2.1, hb.2.2.2, ?_⟩
    have q := k w1 rfl ok1 (Ext.refl _) _ (it B)
    rw [Int.sub_zero] at q
    exact q
  | _ => exact p2.elim
theorem i_rng2 (ok : XOk G C gl F n sc lsc X) (hg : isGl sc "range" = true) (hp : plainB l = true) (hp2 : plainB r = true) (h : PE X l (tE G B Wx F gl a)) (h2 : PE X r (tE G B Wx F gl b)) : PI X tg (.Call (.Name "range" p) [l, r] [] pos) (tI G B Wx F gl (.rng2 a b)) := by
  obtain ⟨g1, g2⟩ := gl_of hg ok.hsc
  refine PI.imp (pi_range2 g1 (ok.blt _ (by simp [names0])) (pa_cons h (pa_cons h2 pa_nil (star_one hp2 _ _)) (star_one hp _ _)) (by rw [star_one hp, star_one hp2]; rfl) (star_one hp2 _ _)) fun σ H R ⟨w, env, ω, e, s, p⟩ => ?_
  subst e
  rw [evI] at p
  refine ⟨w, env, ω, rfl, s, p.bind.mono (fun d1 w1 ok1 e1 p2 v1 r1 => ?_) fun _ _ _ _ h => h⟩
  refine ⟨w1, env, ω, rfl, s.ext ok1 e1, p2.bind.mono (fun d2 w2 ok2 e2 p3 v2 r2 => ?_) fun _ _ _ _ h => h⟩
  cases r1 with
  | int i =>
    cases r2 with
    | int j =>
      obtain ⟨ds, hd, k⟩ := p3.lifted
      obtain ⟨hb, it⟩ := rng_it (G := G) (w := w2) hd
      exact ⟨i, j, rfl, hb, k w2 rfl ok2 (Ext.refl _) _ (it B)⟩
    | _ => exact p3.elim
  | _ => cases r2 <;> exact p3.elim

/-! ### a list comprehension -/
def lcF (F : FTab) (gl : Nat → Option D) (env : En) (own : List Nat) (t : Tg) (elt : CE) (cond : CO) : D → Cells → Res (Option D) := fun d h => match bindT t d (wipeE env own) with
  | some env' => (evC F gl env' cond h).bind fun b h => if b then (evE F gl env' elt h).bind fun x h => .ok (some x) h else .ok none h
  | none => .bad
def lcPut (o : Option D) (r : List D) : List D := match o with
  | some x => x :: r
  | none => r
theorem lcGo_cons {f : D → Cells → Res (Option D)} {d : D} {ds r : List D} {h h' : Cells} (q : lcGo f (d :: ds) h = .ok r h') : ∃ o h3 r4, f d h = .ok o h3 ∧ lcGo f ds h3 = .ok r4 h' ∧ r = lcPut o r4 := by
  unfold lcGo at q
  cases hfd : f d h with
  | bad => rw [hfd] at q; cases q
  | exc x h => rw [hfd] at q; cases q
  | ok o h3 =>
    rw [hfd] at q
    cases h4 : lcGo f ds h3 with
    | bad => simp only [h4] at q; cases q
    | exc x h => simp only [h4] at q; cases q
    | ok r4 hh =>
      simp only [h4] at q
      cases q
      exact ⟨o, h3, r4, rfl, h4, rfl⟩
theorem lcGo_exc {f : D → Cells → Res (Option D)} {x : Exn} {h' : Cells} : ∀ {ds : List D} {h : Cells}, lcGo f ds h ≠ .exc x h'
  | [], h, q => by cases q
  | d :: ds, h, q => by
    unfold lcGo at q
    cases hfd : f d h with
    | bad => rw [hfd] at q; cases q
    | exc x h => rw [hfd] at q; cases q
    | ok o h3 =>
      rw [hfd] at q
      cases h4 : lcGo f ds h3 with
      | bad => simp only [h4] at q; cases q
      | exc x h => simp only [h4] at q; cases q
      | ok r4 hh => simp only [h4] at q; cases q
/-- a new list that is ours -/
def PostN (G : Gm) (w : W) (r : Res D) (Q : VK) (E : Exn → W → Prop) : Prop := match r with
  | .ok (.lst rr) h' => ∀ w2 D0 acc, w2.h = h' → WOk G w2 → Ext w w2 → w.H D0 = none → w2.H D0 = some (.lst acc) → Reps G w2 rr acc → ¬ w2.Z D0 → ¬ w2.live D0 → Q (.ref D0) w2.H
  | .ok _ _ => False
  | .exc x h' => ∀ w', w'.h = h' → WOk G w' → Ext w w' → E x w'
  | .bad => False
/-- .. frozen at once -/
theorem PostN.of {r : Res D} {Q : VK} {E : Exn → W → Prop} (p : Post G w r (fun d w' => ∀ v, Rep G w' d v → Q v w'.H) E) (hr : ∀ d h, r = .ok d h → ∃ rr, d = .lst rr) : PostN G w r Q E := by
  cases r with
  | bad => exact p
  | exc x h => exact p
  | ok d h =>
    obtain ⟨rr, rfl⟩ := hr d h rfl
    intro w2 D0 acc eh ok2 e2 hD hacc racc nz nl
    exact p (w2.fz D0) eh (W.fz_ok ok2 nl hacc) (W.fz_ext e2 hD) _ (.lst (.inl ⟨.inr rfl, hacc⟩) (racc.le W.fz_le))
theorem lc_read {elt : CE} {own : List Nat} {t : Tg} {src : CI} {cond : CO} {Q : VK} (hin : tgIn t own = true) (s : Stt G B w env σ ω)
    (p : PostN G w (evE F gl env (.lc elt own t src cond) w.h) Q (XP G Wx σ)) :
    tLc (tI G B Wx F gl src) (gTg G.K t) (tCn G B (fun _ _ _ _ => False) F gl cond) (tE G B (fun _ _ _ _ => False) F gl elt) own σ w.H Q := by
  rw [evE] at p
  refine ⟨w, env, ω, rfl, s, ?_⟩
  cases hI : evI F gl env src w.h with
  | bad => rw [hI] at p; exact p.elim
  | exc x h => rw [hI] at p; exact p
  | ok ds h1 =>
    rw [hI] at p
    intro w1 eh1 ok1 e1 J hJ D0 hD
    subst eh1
    have p2 : PostN G w (if ds.length ≤ LIM then (lcGo (lcF F gl env own t elt cond) ds w1.h).bind fun r h2 => .ok (D.lst r) h2 else .bad) Q (XP G Wx σ) := p
    have s1 := s.ext ok1 e1
    by_cases hlim : ds.length ≤ LIM
    rotate_left
    · rw [if_neg hlim] at p2
      exact p2.elim
    rw [if_pos hlim] at p2
    obtain ⟨vs, Gd, rs, wk, hgd⟩ := hJ
    cases hgo : lcGo (lcF F gl env own t elt cond) ds w1.h with
    | bad => rw [hgo] at p2; exact p2.elim
    | exc x h => exact (lcGo_exc hgo).elim
    | ok rr hh =>
      rw [hgo] at p2
      have fin : ∀ w2 D0 acc, w2.h = hh → WOk G w2 → Ext w w2 → w.H D0 = none → w2.H D0 = some (.lst acc) → Reps G w2 rr acc → ¬ w2.Z D0 → ¬ w2.live D0 → Q (.ref D0) w2.H := p2
      -- the invariant
      refine lc_it wk (fun i H => ∃ (w2 : W) (acc : List V) (dacc rest : List D), w2.H = H ∧ Stt G B w2 env σ ω ∧ Ext w1 w2 ∧ H D0 = some (.lst acc) ∧ Reps G w2 dacc acc ∧ ¬ w2.Z D0 ∧ ¬ w2.live D0 ∧
        lcGo (lcF F gl env own t elt cond) (ds.drop i) w2.h = .ok rest hh ∧ dacc ++ rest = rr ∧ acc.length ≤ i) ?_ ?_ ?_ ?_
      · obtain ⟨k1, k2, k3, k4⟩ := W.new_ok (o := .lst []) ok1 hD
        refine ⟨w1.mut D0 (.lst []), [], [], rr, rfl, s1.ext k1 k2, k2, upd_same, .nil, k3, k4, by rw [List.drop_zero]; exact hgo, List.nil_append _, Nat.zero_le _⟩
      · rintro i H _ ⟨w2, acc, dacc, rest, rfl, s2, e2, _⟩
        exact hgd w2 (e2.le ok1) s2.be
      · rintro i x H H' hi ⟨w2, acc, dacc, rest, rfl, s2, e2, hacc, racc, nz, nl, hgo2, happ, hlen⟩ ⟨rfl, hx⟩
        have hids : i < ds.length := by rw [rs.length]; exact hi
        have hdrop : ds.drop i = ds[i] :: ds.drop (i + 1) := List.drop_eq_getElem_cons hids
        rw [hdrop] at hgo2
        obtain ⟨v', hv', rv⟩ := rs.get (List.getElem?_eq_getElem hids)
        rw [hx] at hv'
        cases hv'
        have rv2 := rv.le (e2.le ok1)
        obtain ⟨o, h3, r4, hfd, hgo4, hrest⟩ := lcGo_cons hgo2
        subst hrest
        -- the turn
        unfold lcF at hfd
        cases hbind : bindT t ds[i] (wipeE env own) with
        | none => rw [hbind] at hfd; cases hfd
        | some env' =>
        rw [hbind] at hfd
        have hfd : ((evC F gl env' cond w2.h).bind fun b h => if b then (evE F gl env' elt h).bind fun x h => .ok (some x) h else .ok none h) = .ok o h3 := hfd
        have hD2 : w2.H D0 = some (.lst acc) := hacc
        have nown : ∀ (j : Nat) (ob : Ob), env[j]? = some (Sl.own ob) → ω j ≠ D0 := fun j ob hj q => by
          obtain ⟨_, h2, _⟩ := s1.eo.own j ob hj
          obtain ⟨u, hu, _⟩ := h2.soft
          rw [q, hD] at hu
          cases hu
        refine bind_ok (wipe_ok s2.eo own) rv2 hbind fun σ2 eo2 hσ2 => ⟨?_, ?_⟩
        · cases t with
          | name i =>
            rw [hσ2, wipe_set _ (by simpa [tgIn] using hin), wipe_idem]
          | tup is =>
            obtain ⟨vs2, rfl⟩ := hσ2
            rw [wipe_sets (fun j hj => by simpa using List.all_eq_true.mp (show is.all own.contains = true from hin) j hj), wipe_idem]
        · cases hcn : evC F gl env' cond w2.h with
          | bad => rw [hcn] at hfd; cases hfd
          | exc x h => rw [hcn] at hfd; cases hfd
          | ok bb hb2 =>
            rw [hcn] at hfd
            refine ⟨w2, env', ω, rfl, ⟨s2.ok, s2.be, eo2⟩, ?_⟩
            rw [hcn]
            intro w3 eh3 ok3 e3
            have hD3 : w3.H D0 = some (.lst acc) := e3.keep _ _ hD2 nl
            have nl3 : ¬ w3.live D0 := fun q => by
              rcases e3.live_back q with q | q
              · exact nl q
              · rw [hD2] at q; cases q
            have nz3 : ¬ w3.Z D0 := fun q => by
              rcases e3.zn _ q with q | q | q
              · exact nz q
              · rw [hD2] at q; cases q
              · exact nl q
            have s3 := s2.ext ok3 e3
            cases bb with
            | false =>
              have hfd' : Res.ok (none : Option D) hb2 = .ok o h3 := hfd
              cases hfd'
              have happ : dacc ++ r4 = rr := happ
              refine iteF ⟨w3, acc, dacc, r4, rfl, s3, e2.trans e3, hD3, racc.ext s2.ok e3, nz3, nl3, by rw [eh3]; exact hgo4, happ, Nat.le_succ_of_le hlen⟩
            | true =>
              refine iteT ?_
              have hfd' : (evE F gl env' elt hb2).bind (fun x h => Res.ok (some x) h) = .ok o h3 := hfd
              cases hev : evE F gl env' elt hb2 with
              | bad => rw [hev] at hfd'; cases hfd'
              | exc x h => rw [hev] at hfd'; cases hfd'
              | ok dv h5 =>
                rw [hev] at hfd'
                cases hfd'
                refine ⟨w3, env', ω, rfl, ⟨ok3, s3.be, eo2.ext s2.ok e3⟩, ?_⟩
                rw [eh3, hev]
                intro w4 eh4 ok4 e4 v4 r4'
                have hD4 : w4.H D0 = some (.lst acc) := e4.keep _ _ hD3 nl3
                have nl4 : ¬ w4.live D0 := fun q => by
                  rcases e4.live_back q with q | q
                  · exact nl3 q
                  · rw [hD3] at q; cases q
                have nz4 : ¬ w4.Z D0 := fun q => by
                  rcases e4.zn _ q with q | q | q
                  · exact nz3 q
                  · rw [hD3] at q; cases q
                  · exact nl3 q
                have s4 := s3.ext ok4 e4
                have lm : LIM = sizeLine := lim_size
                refine ⟨acc, hD4, by rw [← lm]; omega, w4.mut D0 (.lst (acc ++ [v4])), acc ++ [v4], dacc ++ [dv], r4, rfl, s4.mut nz4 nl4 hD4 trivial (s1.be.dom _ hD) nown, W.mut_ext ((e2.trans e3).trans e4) hD, upd_same, ?_, nz4, nl4, by rw [show (w4.mut D0 (.lst (acc ++ [v4]))).h = w4.h from rfl, eh4]; exact hgo4, ?_, ?_⟩
                · exact ((racc.ext s2.ok e3).ext ok3 e4 |>.le (W.mut_le nz4 hD4 trivial)).append (.cons (r4'.le (W.mut_le nz4 hD4 trivial)) .nil)
                · rw [List.append_assoc]; exact happ
                · rw [List.length_append, List.length_singleton]; omega
      · rintro H ⟨w2, acc, dacc, rest, rfl, s2, e2, hacc, racc, nz, nl, hgo2, happ, hlen⟩
        rw [← rs.length, List.drop_length] at hgo2
        cases hgo2
        rw [List.append_nil] at happ
        subst happ
        exact fin w2 D0 acc rfl s2.ok (e1.trans e2) (e1.dom _ hD) hacc racc nz nl
theorem lc_lst {elt : CE} {own : List Nat} {t : Tg} {src : CI} {cond : CO} {h h' : Cells} {d : D} (e : evE F gl env (.lc elt own t src cond) h = .ok d h') : ∃ rr, d = .lst rr := by
  rw [evE] at e
  cases hI : evI F gl env src h with
  | bad => rw [hI] at e; cases e
  | exc x h => rw [hI] at e; cases e
  | ok ds h1 =>
    rw [hI] at e
    have e : (if ds.length ≤ LIM then (lcGo (lcF F gl env own t elt cond) ds h1).bind fun r h2 => .ok (D.lst r) h2 else .bad) = .ok d h' := e
    split at e
    · cases hgo : lcGo (lcF F gl env own t elt cond) ds h1 with
      | bad => rw [hgo] at e; cases e
      | exc x h => rw [hgo] at e; cases e
      | ok r h => rw [hgo] at e; cases e; exact ⟨_, rfl⟩
    · cases e
theorem own_map (N : List Str) (own : List Nat) : (ownOf N own).map (·.2) = own := by
  unfold ownOf
  rw [List.map_map]
  simp [Function.comp_def]
theorem fold_plain {it : Expr} (hs : plainB it = true) (env : Env) : ∀ x, foldedSetIterable it env x = pure x := by
  intro x
  cases it <;> first | rfl | cases hs
theorem e_lc {el it : Expr} {ifs : List Expr} {scope : Scope} {elt : CE} {own : List Nat} {t : Tg} {src : CI} {cond : CO} (ok : XOk G C gl F n sc lsc X) (hc : C.calm = true)
    (hi : PI X tg it (tI G B Wx F gl src)) (hb : BlkOk X.N X.env.scope scope (ownOf C.N own)) (hin : tgIn t own = true)
    (hg : ∀ (s : Shared) (H : Hp) (Ca : Addr) (cl : List (Str × Addr)) (fp : List Addr), PG (X.blk s H scope (compEnvC scope cl Ca X.env) fp) tg (gTg G.K t))
    (ht : ∀ (s : Shared) (H : Hp) (Ca : Addr) (cl : List (Str × Addr)) (fp : List Addr), PTs (X.blk s H scope (compEnvC scope cl Ca X.env) fp) ifs (tCn G B (fun _ _ _ _ => False) F gl cond))
    (he : ∀ (s : Shared) (H : Hp) (Ca : Addr) (cl : List (Str × Addr)) (fp : List Addr), PE (X.blk s H scope (compEnvC scope cl Ca X.env) fp) el (tE G B (fun _ _ _ _ => False) F gl elt))
    (hs : plainB it = true) : PE X (.ListComp el [⟨tg, it, ifs, 0⟩] scope pos) (tE G B Wx F gl (.lc elt own t src cond)) := by
  refine PE.imp (pe_lc (ok.calm hc) (by rw [ok.N]; exact ok.nd) hi hb hg ht he (fold_plain hs _)) fun σ H Q ⟨w, env, ω, e, s, p⟩ => ?_
  subst e
  rw [own_map]
  exact lc_read hin s (PostN.of p fun _ _ e => lc_lst e)

/-! ### two clauses -/
theorem wipe_own {j : Nat} {ob : Ob} : ∀ {own : List Nat}, (wipeE env own)[j]? = some (Sl.own ob) → env[j]? = some (Sl.own ob)
  | [], h => h
  | i :: is, h => wipe_own (own := is) (set_other (env := wipeE env is) h (fun z => nomatch z)).2
theorem bind_own {t : Tg} {d : D} {j : Nat} {ob : Ob} (h : bindT t d env = some env') (q : env'[j]? = some (Sl.own ob)) : env[j]? = some (Sl.own ob) := by
  cases t with
  | name i =>
    cases h
    exact (set_other q (fun z => nomatch z)).2
  | tup is =>
    unfold bindT at h
    cases d <;> first | cases h | skip
    rename_i ds
    simp only at h
    split at h
    · cases h
      have key : ∀ (l : List (Nat × D)) (e : En), (l.foldl (fun e p => e.set p.1 (.val p.2)) e)[j]? = some (Sl.own ob) → e[j]? = some (Sl.own ob) := by
        intro l
        induction l with
        | nil => exact fun e h => h
        | cons p l ih => exact fun e h => (set_other (ih _ h) (fun z => nomatch z)).2
      exact key _ _ q
    · cases h
/-- the list that is being made -/
structure AccI (G : Gm) (w1 : W) (D0 : Addr) (w2 : W) (dacc : List D) (acc : List V) : Prop where
  ex : Ext w1 w2
  at_ : w2.H D0 = some (.lst acc)
  r : Reps G w2 dacc acc
  nz : ¬ w2.Z D0
  nl : ¬ w2.live D0
theorem AccI.ext {D0 : Addr} {w2 w3 : W} {dacc : List D} {acc : List V} (a : AccI G w1 D0 w2 dacc acc) (ok : WOk G w2) (e : Ext w2 w3) : AccI G w1 D0 w3 dacc acc :=
  ⟨a.ex.trans e, e.keep _ _ a.at_ a.nl, a.r.ext ok e, fun q => by
    rcases e.zn _ q with q | q | q
    · exact a.nz q
    · rw [a.at_] at q; cases q
    · exact a.nl q, fun q => by
    rcases e.live_back q with q | q
    · exact a.nl q
    · rw [a.at_] at q; cases q⟩
theorem AccI.app {D0 : Addr} {w2 : W} {dacc : List D} {acc : List V} {d : D} {v : V} (a : AccI G w1 D0 w2 dacc acc) (hD : w1.H D0 = none) (r : Rep G w2 d v) : AccI G w1 D0 (w2.mut D0 (.lst (acc ++ [v]))) (dacc ++ [d]) (acc ++ [v]) :=
  ⟨W.mut_ext a.ex hD, upd_same, (a.r.le (W.mut_le a.nz a.at_ trivial)).append (.cons (r.le (W.mut_le a.nz a.at_ trivial)) .nil), a.nz, a.nl⟩
def lc2F (F : FTab) (gl : Nat → Option D) (env : En) (own : List Nat) (t : Tg) (elt : CE) (cond : CO) (vs1 : List Nat) (t1 : Tg) (src1 : CI) (cond1 : CO) : D → Cells → Res (List D) := fun d h => match bindT t d (wipeE env own) with
  | some env' => (evC F gl env' cond h).bind fun b h => if b then (evI F gl env' src1 h).bind fun ds1 h => lcGo (lcF F gl env' vs1 t1 elt cond1) ds1 h else .ok [] h
  | none => .bad
theorem lc2Go_cons {f : D → Cells → Res (List D)} {d : D} {ds r : List D} {h h' : Cells} (q : lc2Go f (d :: ds) h = .ok r h') : ∃ o h3 r4, f d h = .ok o h3 ∧ lc2Go f ds h3 = .ok r4 h' ∧ r = o ++ r4 := by
  unfold lc2Go at q
  cases hfd : f d h with
  | bad => rw [hfd] at q; cases q
  | exc x h => rw [hfd] at q; cases q
  | ok o h3 =>
    rw [hfd] at q
    cases h4 : lc2Go f ds h3 with
    | bad => simp only [h4] at q; cases q
    | exc x h => simp only [h4] at q; cases q
    | ok r4 hh =>
      simp only [h4] at q
      cases q
      exact ⟨o, h3, r4, rfl, h4, rfl⟩
theorem lc2Go_exc {f : D → Cells → Res (List D)} {x : Exn} {h' : Cells} : ∀ {ds : List D} {h : Cells}, lc2Go f ds h ≠ .exc x h'
  | [], h, q => by cases q
  | d :: ds, h, q => by
    unfold lc2Go at q
    cases hfd : f d h with
    | bad => rw [hfd] at q; cases q
    | exc x h => rw [hfd] at q; cases q
    | ok o h3 =>
      rw [hfd] at q
      cases h4 : lc2Go f ds h3 with
      | bad => simp only [h4] at q; cases q
      | exc x h => simp only [h4] at q; cases q
      | ok r4 hh => simp only [h4] at q; cases q
abbrev NX : WX := fun _ _ _ _ => False
/-- the inner loop -/
theorem lc2_in {elt : CE} {vs1 : List Nat} {t1 : Tg} {cond1 : CO} {D0 : Addr} {J : It} {ds1 r3 r4 rr dacc0 : List D} {acc0 : List V} {w4 : W} {h6 : Cells} {env0 : En} {σ0 : List (Option V)} {NxT : Hp → Prop}
    (hin1 : tgIn t1 vs1 = true) (hD1 : w1.H D0 = none) (hDB : B.H D0 = none) (hlim : rr.length ≤ LIM)
    (s0 : Stt G B w4 env0 σ0 ω) (s2 : Stt G B w4 env' σ ω) (n0 : ∀ (j : Nat) (ob : Ob), env0[j]? = some (Sl.own ob) → ω j ≠ D0) (n2 : ∀ (j : Nat) (ob : Ob), env'[j]? = some (Sl.own ob) → ω j ≠ D0)
    (ha : AccI G w1 D0 w4 dacc0 acc0) (hJ : ItOk G B w4 ds1 J) (hgo : lcGo (lcF F gl env' vs1 t1 elt cond1) ds1 w4.h = .ok r3 h6) (happ : dacc0 ++ r3 ++ r4 = rr)
    (hN : ∀ w5 acc, w5.h = h6 → Stt G B w5 env0 σ0 ω → AccI G w1 D0 w5 (dacc0 ++ r3) acc → NxT w5.H) :
    ∃ W1 : Nat → Nat → Hp → Prop, (∃ m, W1 0 m w4.H) ∧ ∀ j k H, W1 j k H →
      (J.stop j H ∧ NxT H) ∨ (J.go j H ∧ ∃ Nx1 : Hp → Prop, (∀ H', Nx1 H' → ∃ k', k' < k ∧ W1 (j + 1) k' H') ∧ ∀ x H', J.yld j H x H' → gTg G.K t1 x (L2.wipe σ vs1) H' fun σ3 H5 => L2.wipe σ3 vs1 = L2.wipe σ vs1 ∧ tCn G B NX F gl cond1 σ3 H5 fun b H6 =>
        if b = true then tE G B NX F gl elt σ3 H6 fun y H7 => ∃ acc, H7 D0 = some (.lst acc) ∧ acc.length < sizeLine ∧ Nx1 (upd H7 D0 (.lst (acc ++ [y]))) else Nx1 H6) := by
  obtain ⟨vs, Gd, rs, wk, hgd⟩ := hJ
  refine ⟨fun j k H => k = vs.length - j ∧ j ≤ vs.length ∧ ∃ (w5 : W) (acc : List V) (dacc rest : List D), w5.H = H ∧ Stt G B w5 env0 σ0 ω ∧ Stt G B w5 env' σ ω ∧ Le w4 w5 ∧ AccI G w1 D0 w5 dacc acc ∧ lcGo (lcF F gl env' vs1 t1 elt cond1) (ds1.drop j) w5.h = .ok rest h6 ∧ dacc ++ rest = dacc0 ++ r3,
    ⟨_, rfl, Nat.zero_le _, w4, acc0, dacc0, r3, rfl, s0, s2, Le.refl _, ha, by rw [List.drop_zero]; exact hgo, rfl⟩, ?_⟩
  rintro j k H ⟨rfl, hj, w5, acc, dacc, rest, rfl, s05, s25, e45, a5, hgo5, happ5⟩
  have hG := hgd w5 e45 s05.be
  by_cases hlt : j < vs.length
  rotate_left
  · have e : j = vs.length := by omega
    subst e
    rw [← rs.length, List.drop_length] at hgo5
    have hgo5 : Res.ok ([] : List D) w5.h = .ok rest h6 := hgo5
    cases hgo5
    rw [List.append_nil] at happ5
    subst happ5
    exact .inl ⟨wk.stops _ hG, hN w5 acc rfl s05 a5⟩
  refine .inr ⟨wk.goes j _ hlt hG, fun H' => ∃ (w5 : W) (acc : List V) (dacc rest : List D), w5.H = H' ∧ Stt G B w5 env0 σ0 ω ∧ Stt G B w5 env' σ ω ∧ Le w4 w5 ∧ AccI G w1 D0 w5 dacc acc ∧ lcGo (lcF F gl env' vs1 t1 elt cond1) (ds1.drop (j + 1)) w5.h = .ok rest h6 ∧ dacc ++ rest = dacc0 ++ r3, fun H' h => ⟨vs.length - (j + 1), by omega, rfl, hlt, h⟩, fun x H' y => ?_⟩
  obtain ⟨rfl, hx⟩ := wk.yields j _ x H' hlt hG y
  have hids : j < ds1.length := by rw [rs.length]; exact hlt
  have hdrop : ds1.drop j = ds1[j] :: ds1.drop (j + 1) := List.drop_eq_getElem_cons hids
  rw [hdrop] at hgo5
  obtain ⟨v', hv', rv⟩ := rs.get (List.getElem?_eq_getElem hids)
  rw [hx] at hv'
  cases hv'
  have rv5 := rv.le e45
  obtain ⟨o, h3, r5, hfd, hgo6, hrest⟩ := lcGo_cons hgo5
  subst hrest
  unfold lcF at hfd
  cases hbind : bindT t1 ds1[j] (wipeE env' vs1) with
  | none => rw [hbind] at hfd; cases hfd
  | some env2 =>
  rw [hbind] at hfd
  have hfd : ((evC F gl env2 cond1 w5.h).bind fun b h => if b then (evE F gl env2 elt h).bind fun x h => .ok (some x) h else .ok none h) = .ok o h3 := hfd
  refine bind_ok (wipe_ok s25.eo vs1) rv5 hbind fun σ3 eo3 hσ3 => ⟨?_, ?_⟩
  · cases t1 with
    | name i => rw [hσ3, wipe_set _ (by simpa [tgIn] using hin1), wipe_idem]
    | tup is =>
      obtain ⟨vs2, rfl⟩ := hσ3
      rw [wipe_sets (fun j hj => by simpa using List.all_eq_true.mp (show is.all vs1.contains = true from hin1) j hj), wipe_idem]
  cases hcn : evC F gl env2 cond1 w5.h with
  | bad => rw [hcn] at hfd; cases hfd
  | exc x h => rw [hcn] at hfd; cases hfd
  | ok bb hb2 =>
    rw [hcn] at hfd
    refine ⟨w5, env2, ω, rfl, ⟨s25.ok, s25.be, eo3⟩, ?_⟩
    rw [hcn]
    intro w6 eh6 ok6 e6
    have a6 := a5.ext s05.ok e6
    cases bb with
    | false =>
      have hfd' : Res.ok (none : Option D) hb2 = .ok o h3 := hfd
      cases hfd'
      exact iteF ⟨w6, acc, dacc, r5, rfl, s05.ext ok6 e6, s25.ext ok6 e6, e45.trans (e6.le s05.ok), a6, by rw [eh6]; exact hgo6, happ5⟩
    | true =>
      refine iteT ?_
      have hfd' : (evE F gl env2 elt hb2).bind (fun x h => Res.ok (some x) h) = .ok o h3 := hfd
      cases hev : evE F gl env2 elt hb2 with
      | bad => rw [hev] at hfd'; cases hfd'
      | exc x h => rw [hev] at hfd'; cases hfd'
      | ok dv h5 =>
        rw [hev] at hfd'
        cases hfd'
        refine ⟨w6, env2, ω, rfl, ⟨ok6, (s05.ext ok6 e6).be, eo3.ext s05.ok e6⟩, ?_⟩
        rw [eh6, hev]
        intro w7 eh7 ok7 e7 v7 r7
        have a7 := a6.ext ok6 e7
        have s07 := (s05.ext ok6 e6).ext ok7 e7
        have s27 := (s25.ext ok6 e6).ext ok7 e7
        have happ7 : dacc ++ dv :: r5 = dacc0 ++ r3 := happ5
        have hlen : acc.length < LIM := by
          rw [← a7.r.length]
          have e := congrArg List.length happ7
          have e2 := congrArg List.length happ
          rw [List.length_append, List.length_cons] at e
          rw [List.length_append] at e2
          omega
        have lm : LIM = sizeLine := lim_size
        refine ⟨acc, a7.at_, by rw [← lm]; exact hlen, w7.mut D0 (.lst (acc ++ [v7])), acc ++ [v7], dacc ++ [dv], r5, rfl, s07.mut a7.nz a7.nl a7.at_ trivial hDB n0, s27.mut a7.nz a7.nl a7.at_ trivial hDB n2, ?_, a7.app hD1 r7, by rw [show (w7.mut D0 (.lst (acc ++ [v7]))).h = w7.h from rfl, eh7]; exact hgo6, ?_⟩
        · exact (e45.trans (e6.le s05.ok)).trans ((e7.le ok6).trans (W.mut_le a7.nz a7.at_ trivial))
        · rw [List.append_assoc]; exact happ7

theorem lc2_read {elt : CE} {own vs1 : List Nat} {t t1 : Tg} {src src1 : CI} {cond cond1 : CO} {Q : VK} (hin : tgIn t own = true) (hin1 : tgIn t1 vs1 = true) (s : Stt G B w env σ ω)
    (p : PostN G w (evE F gl env (.lc2 elt own t src cond vs1 t1 src1 cond1) w.h) Q (XP G Wx σ)) :
    tLc2 (tI G B Wx F gl src) (gTg G.K t) (tCn G B NX F gl cond) (tI G B NX F gl src1) (gTg G.K t1) (tCn G B NX F gl cond1) (tE G B NX F gl elt) own vs1 σ w.H Q := by
  rw [evE] at p
  refine ⟨w, env, ω, rfl, s, ?_⟩
  cases hI : evI F gl env src w.h with
  | bad => rw [hI] at p; exact p.elim
  | exc x h => rw [hI] at p; exact p
  | ok ds h1 =>
    rw [hI] at p
    intro w1 eh1 ok1 e1 J hJ D0 hD
    subst eh1
    have p2 : PostN G w (if ds.length ≤ LIM then (lc2Go (lc2F F gl env own t elt cond vs1 t1 src1 cond1) ds w1.h).bind fun r h2 => if r.length ≤ LIM then .ok (D.lst r) h2 else .bad else .bad) Q (XP G Wx σ) := p
    have s1 := s.ext ok1 e1
    by_cases hlim : ds.length ≤ LIM
    rotate_left
    · rw [if_neg hlim] at p2
      exact p2.elim
    rw [if_pos hlim] at p2
    obtain ⟨vs, Gd, rs, wk, hgd⟩ := hJ
    cases hgo : lc2Go (lc2F F gl env own t elt cond vs1 t1 src1 cond1) ds w1.h with
    | bad => rw [hgo] at p2; exact p2.elim
    | exc x h => exact (lc2Go_exc hgo).elim
    | ok rr hh =>
      rw [hgo] at p2
      have p2 : PostN G w (if rr.length ≤ LIM then .ok (D.lst rr) hh else .bad) Q (XP G Wx σ) := p2
      by_cases hrr : rr.length ≤ LIM
      rotate_left
      · rw [if_neg hrr] at p2
        exact p2.elim
      rw [if_pos hrr] at p2
      have fin : ∀ w2 D0 acc, w2.h = hh → WOk G w2 → Ext w w2 → w.H D0 = none → w2.H D0 = some (.lst acc) → Reps G w2 rr acc → ¬ w2.Z D0 → ¬ w2.live D0 → Q (.ref D0) w2.H := p2
      have hDB : B.H D0 = none := s1.be.dom _ hD
      have nown : ∀ (j : Nat) (ob : Ob), env[j]? = some (Sl.own ob) → ω j ≠ D0 := fun j ob hj q => by
        obtain ⟨_, h2, _⟩ := s1.eo.own j ob hj
        obtain ⟨u, hu, _⟩ := h2.soft
        rw [q, hD] at hu
        cases hu
      refine ⟨fun i m H => m = vs.length - i ∧ i ≤ vs.length ∧ ∃ (w2 : W) (acc : List V) (dacc rest : List D), w2.H = H ∧ Stt G B w2 env σ ω ∧ Le w1 w2 ∧ AccI G w1 D0 w2 dacc acc ∧ lc2Go (lc2F F gl env own t elt cond vs1 t1 src1 cond1) (ds.drop i) w2.h = .ok rest hh ∧ dacc ++ rest = rr, ⟨_, rfl, Nat.zero_le _, ?_⟩, ?_⟩
      · obtain ⟨k1, k2, k3, k4⟩ := W.new_ok (o := .lst []) ok1 hD
        exact ⟨w1.mut D0 (.lst []), [], [], rr, rfl, s1.ext k1 k2, k2.le ok1, ⟨k2, upd_same, .nil, k3, k4⟩, by rw [List.drop_zero]; exact hgo, List.nil_append _⟩
      rintro i m H ⟨rfl, hi, w2, acc, dacc, rest, rfl, s2, e2, a2, hgo2, happ⟩
      have hG := hgd w2 e2 s2.be
      by_cases hlt : i < vs.length
      rotate_left
      · have e : i = vs.length := by omega
        subst e
        rw [← rs.length, List.drop_length] at hgo2
        have hgo2 : Res.ok ([] : List D) w2.h = .ok rest hh := hgo2
        cases hgo2
        rw [List.append_nil] at happ
        subst happ
        exact .inl ⟨wk.stops _ hG, fin w2 D0 acc rfl s2.ok (e1.trans a2.ex) (e1.dom _ hD) a2.at_ a2.r a2.nz a2.nl⟩
      refine .inr ⟨wk.goes i _ hlt hG, fun H' => ∃ (w2 : W) (acc : List V) (dacc rest : List D), w2.H = H' ∧ Stt G B w2 env σ ω ∧ Le w1 w2 ∧ AccI G w1 D0 w2 dacc acc ∧ lc2Go (lc2F F gl env own t elt cond vs1 t1 src1 cond1) (ds.drop (i + 1)) w2.h = .ok rest hh ∧ dacc ++ rest = rr, fun H' h => ⟨vs.length - (i + 1), by omega, rfl, hlt, h⟩, fun x H' y => ?_⟩
      obtain ⟨rfl, hx⟩ := wk.yields i _ x H' hlt hG y
      have hids : i < ds.length := by rw [rs.length]; exact hlt
      have hdrop : ds.drop i = ds[i] :: ds.drop (i + 1) := List.drop_eq_getElem_cons hids
      rw [hdrop] at hgo2
      obtain ⟨v', hv', rv⟩ := rs.get (List.getElem?_eq_getElem hids)
      rw [hx] at hv'
      cases hv'
      have rv2 := rv.le e2
      obtain ⟨r3, h3, r4, hfd, hgo4, hrest⟩ := lc2Go_cons hgo2
      subst hrest
      unfold lc2F at hfd
      cases hbind : bindT t ds[i] (wipeE env own) with
      | none => rw [hbind] at hfd; cases hfd
      | some env' =>
      rw [hbind] at hfd
      have hfd : ((evC F gl env' cond w2.h).bind fun b h => if b then (evI F gl env' src1 h).bind fun ds1 h => lcGo (lcF F gl env' vs1 t1 elt cond1) ds1 h else .ok [] h) = .ok r3 h3 := hfd
      have n2 : ∀ (j : Nat) (ob : Ob), env'[j]? = some (Sl.own ob) → ω j ≠ D0 := fun j ob hj => nown j ob (wipe_own (bind_own hbind hj))
      refine bind_ok (wipe_ok s2.eo own) rv2 hbind fun σ2 eo2 hσ2 => ⟨?_, ?_⟩
      · cases t with
        | name i =>
          rw [hσ2, wipe_set _ (by simpa [tgIn] using hin), wipe_idem]
        | tup is =>
          obtain ⟨vs2, rfl⟩ := hσ2
          rw [wipe_sets (fun j hj => by simpa using List.all_eq_true.mp (show is.all own.contains = true from hin) j hj), wipe_idem]
      · cases hcn : evC F gl env' cond w2.h with
        | bad => rw [hcn] at hfd; cases hfd
        | exc x h => rw [hcn] at hfd; cases hfd
        | ok bb hb2 =>
          rw [hcn] at hfd
          refine ⟨w2, env', ω, rfl, ⟨s2.ok, s2.be, eo2⟩, ?_⟩
          rw [hcn]
          intro w3 eh3 ok3 e3
          have a3 := a2.ext s2.ok e3
          have s3 := s2.ext ok3 e3
          have le3 := e2.trans (e3.le s2.ok)
          cases bb with
          | false =>
            have hfd' : Res.ok ([] : List D) hb2 = .ok r3 h3 := hfd
            cases hfd'
            exact iteF ⟨w3, acc, dacc, r4, rfl, s3, le3, a3, by rw [eh3]; exact hgo4, happ⟩
          | true =>
            refine iteT ?_
            have hfd' : ((evI F gl env' src1 hb2).bind fun ds1 h => lcGo (lcF F gl env' vs1 t1 elt cond1) ds1 h) = .ok r3 h3 := hfd
            cases hsr : evI F gl env' src1 hb2 with
            | bad => rw [hsr] at hfd'; cases hfd'
            | exc x h => rw [hsr] at hfd'; cases hfd'
            | ok ds1 h5 =>
              rw [hsr] at hfd'
              have hfd' : lcGo (lcF F gl env' vs1 t1 elt cond1) ds1 h5 = .ok r3 h3 := hfd'
              have s32 : Stt G B w3 env' σ2 ω := ⟨ok3, s3.be, eo2.ext s2.ok e3⟩
              refine ⟨w3, env', ω, rfl, s32, ?_⟩
              rw [eh3, hsr]
              intro w4 eh4 ok4 e4 J1 hJ1
              subst eh4
              have a4 := a3.ext ok3 e4
              refine lc2_in hin1 hD hDB hrr (s3.ext ok4 e4) (s32.ext ok4 e4) nown n2 a4 hJ1 hfd' (r4 := r4) (by rw [List.append_assoc]; exact happ) fun w5 acc5 eh5 s5 a5 => ?_
              exact ⟨w5, acc5, dacc ++ r3, r4, rfl, s5, a5.ex.le ok1, a5, by rw [eh5]; exact hgo4, by rw [List.append_assoc]; exact happ⟩
theorem lc2_lst {elt : CE} {own vs1 : List Nat} {t t1 : Tg} {src src1 : CI} {cond cond1 : CO} {h h' : Cells} {d : D} (e : evE F gl env (.lc2 elt own t src cond vs1 t1 src1 cond1) h = .ok d h') : ∃ rr, d = .lst rr := by
  rw [evE] at e
  cases hI : evI F gl env src h with
  | bad => rw [hI] at e; cases e
  | exc x h => rw [hI] at e; cases e
  | ok ds h1 =>
    rw [hI] at e
    have e : (if ds.length ≤ LIM then (lc2Go (lc2F F gl env own t elt cond vs1 t1 src1 cond1) ds h1).bind fun r h2 => if r.length ≤ LIM then .ok (D.lst r) h2 else .bad else .bad) = .ok d h' := e
    split at e
    · cases hgo : lc2Go (lc2F F gl env own t elt cond vs1 t1 src1 cond1) ds h1 with
      | bad => rw [hgo] at e; cases e
      | exc x h => rw [hgo] at e; cases e
      | ok r h =>
        rw [hgo] at e
        have e : (if r.length ≤ LIM then .ok (D.lst r) h else .bad) = Res.ok d h' := e
        split at e
        · cases e; exact ⟨_, rfl⟩
        · cases e
    · cases e
theorem e_lc2 {el it it1 tg1 : Expr} {ifs ifs1 : List Expr} {scope : Scope} {elt : CE} {own vs1 : List Nat} {t t1 : Tg} {src src1 : CI} {cond cond1 : CO} (ok : XOk G C gl F n sc lsc X) (hc : C.calm = true)
    (hi : PI X tg it (tI G B Wx F gl src)) (hb : BlkOk X.N X.env.scope scope (ownOf C.N own)) (hin : tgIn t own = true) (hv : vs1.all own.contains = true) (hin1 : tgIn t1 vs1 = true)
    (hg : ∀ (s : Shared) (H : Hp) (Ca : Addr) (cl : List (Str × Addr)) (fp : List Addr), PG (X.blk s H scope (compEnvC scope cl Ca X.env) fp) tg (gTg G.K t))
    (ht : ∀ (s : Shared) (H : Hp) (Ca : Addr) (cl : List (Str × Addr)) (fp : List Addr), PTs (X.blk s H scope (compEnvC scope cl Ca X.env) fp) ifs (tCn G B NX F gl cond))
    (hi1 : ∀ (s : Shared) (H : Hp) (Ca : Addr) (cl : List (Str × Addr)) (fp : List Addr), PI (X.blk s H scope (compEnvC scope cl Ca X.env) fp) tg1 it1 (tI G B NX F gl src1))
    (hg1 : ∀ (s : Shared) (H : Hp) (Ca : Addr) (cl : List (Str × Addr)) (fp : List Addr), PG (X.blk s H scope (compEnvC scope cl Ca X.env) fp) tg1 (gTg G.K t1))
    (ht1 : ∀ (s : Shared) (H : Hp) (Ca : Addr) (cl : List (Str × Addr)) (fp : List Addr), PTs (X.blk s H scope (compEnvC scope cl Ca X.env) fp) ifs1 (tCn G B NX F gl cond1))
    (he : ∀ (s : Shared) (H : Hp) (Ca : Addr) (cl : List (Str × Addr)) (fp : List Addr), PE (X.blk s H scope (compEnvC scope cl Ca X.env) fp) el (tE G B NX F gl elt))
    (hs : plainB it = true) (hs1 : plainB it1 = true) : PE X (.ListComp el [⟨tg, it, ifs, 0⟩, ⟨tg1, it1, ifs1, 0⟩] scope pos) (tE G B Wx F gl (.lc2 elt own t src cond vs1 t1 src1 cond1)) := by
  refine PE.imp (pe_lc2 (vs1 := vs1) (ok.calm hc) (by rw [ok.N]; exact ok.nd) hi hb (by
    rw [own_map]
    intro i h
    simpa using List.all_eq_true.mp hv i h) hg ht hi1 hg1 ht1 he (fold_plain hs _) (fold_plain hs1)) fun σ H Q ⟨w, env, ω, e, s, p⟩ => ?_
  subst e
  rw [own_map]
  exact lc2_read hin hin1 s (PostN.of p fun _ _ e => lc2_lst e)
end
end Rf
set_option Elab.async false
set_option linter.all false
set_option maxRecDepth 100000
set_option maxHeartbeats 4000000
/-! G12: calls, and/or; all expressions -/
namespace Rf
open PySem L2 PySem.Spec PyProof.Rows
section
variable {G : Gm} {B : Bs} {w w1 w' : W} {Wx : WX} {F : FTab} {gl : Nat → Option D} {C : Ck} {n : Nat} {sc lsc : Scope} {X : Cx} {env env' : En} {σ : List (Option V)} {ω : Nat → Addr}
  {l m r e e' tg : Expr} {es : List Expr} {a b c : CE} {as bs : CEs} {pos p : Pos} {x y : Str}
theorem e_call0 {f : Nat} (ok : XOk G C gl F n sc lsc X) (tk : Takes X Wx) (hc : C.calm = true) (hf : C.T.fns[f]? = some (x, none)) (hg : isGl sc x = true) :
    PE X (.Call (.Name x p) [] [] pos) (tE G B Wx F gl (.call f .nil)) := by
  obtain ⟨g1, g2⟩ := gl_of hg ok.hsc
  obtain ⟨fa, hm, hk, hok⟩ := ok.fn f x hf
  refine PE.imp (pe_callRS0 hok ((ok.room hc).mono (Nat.le_succ _)) g1 hm hk (fun σ => passAt tk σ) g2) fun σ H Q ⟨w, env, ω, e, s, p⟩ => ?_
  subst e
  rw [evE] at p
  have z := p.bind
  rw [evEs] at z
  exact ⟨w, [], rfl, s.ok, .nil, Post.now z s.ok⟩
theorem e_call {f : Nat} (ok : XOk G C gl F n sc lsc X) (tk : Takes X Wx) (hc : C.calm = true) (hf : C.T.fns[f]? = some (x, none)) (hg : isGl sc x = true) (hp : ((e :: es).any fun e => !plainB e) = false) (h : PA X (e :: es) (tEs G B Wx F gl as)) :
    PE X (.Call (.Name x p) (e :: es) [] pos) (tE G B Wx F gl (.call f as)) := by
  obtain ⟨g1, g2⟩ := gl_of hg ok.hsc
  obtain ⟨fa, hm, hk, hok⟩ := ok.fn f x hf
  rw [List.any_cons, Bool.or_eq_false_iff] at hp
  have he : plainB e = true := by simpa using hp.1
  refine PE.imp (pe_callRS hok ((ok.room hc).mono (Nat.le_succ _)) g1 hm hk (fun σ => passAt tk σ) h g2 (star_one he _ _) (star_none hp.2 _ _)) fun σ H Q ⟨w, env, ω, e, s, p⟩ => ?_
  subst e
  rw [evE] at p
  exact ⟨w, env, ω, rfl, s, p.bind.mono (fun ds w1 ok1 e1 p2 vs rs => ⟨w1, ds, rfl, ok1, rs, p2⟩) fun _ _ _ _ h => h⟩
theorem e_callb0 {f : Nat} (ok : XOk G C gl F n sc lsc X) (tk : Takes X Wx) (hc : C.calm = true) (hf : C.T.fns[f]? = some (x, none)) (hg : isGl sc x = true) :
    PE X (.Call (.Name x p) [] [] pos) (tE G B Wx F gl (.callb f .nil)) := by
  obtain ⟨g1, g2⟩ := gl_of hg ok.hsc
  obtain ⟨fa, hm, hk, hok⟩ := ok.fnb f x hf
  refine PE.imp (pe_callRS0 hok ((ok.room hc).mono (Nat.le_succ _)) g1 hm hk (fun σ => passAt tk σ) g2) fun σ H Q ⟨w, env, ω, e, s, p⟩ => ?_
  subst e
  rw [evE] at p
  have z := p.bind
  rw [evAs] at z
  exact ⟨w, [], rfl, s.ok, .nil, Post.now z s.ok⟩
theorem e_callb {f : Nat} (ok : XOk G C gl F n sc lsc X) (tk : Takes X Wx) (hc : C.calm = true) (hf : C.T.fns[f]? = some (x, none)) (hg : isGl sc x = true) (hp : ((e :: es).any fun e => !plainB e) = false) (h : PA X (e :: es) (tAs G B Wx F gl as)) :
    PE X (.Call (.Name x p) (e :: es) [] pos) (tE G B Wx F gl (.callb f as)) := by
  obtain ⟨g1, g2⟩ := gl_of hg ok.hsc
  obtain ⟨fa, hm, hk, hok⟩ := ok.fnb f x hf
  rw [List.any_cons, Bool.or_eq_false_iff] at hp
  have he : plainB e = true := by simpa using hp.1
  refine PE.imp (pe_callRS hok ((ok.room hc).mono (Nat.le_succ _)) g1 hm hk (fun σ => passAt tk σ) h g2 (star_one he _ _) (star_none hp.2 _ _)) fun σ H Q ⟨w, env, ω, e, s, p⟩ => ?_
  subst e
  rw [evE] at p
  exact ⟨w, env, ω, rfl, s, p.bind.mono (fun ds w1 ok1 e1 p2 vs rs => ⟨w1, ds, rfl, ok1, rs, p2⟩) fun _ _ _ _ h => h⟩
/-! ### list(range(..)), tuple(range(..)) -/
theorem rgl_end {t : Bool} {lo hi : Int} {w : W} {Q : VK} {E : Exn → W → Prop} (ok : WOk G w) (p : Post G w (lift (rngD lo hi) w.h) (fun ds w' => Post G w' (if ds.length ≤ LIM then Res.ok (if t then D.tup ds else D.lst ds) w'.h else .bad) (fun d w' => ∀ v, Rep G w' d v → Q v w'.H) E) E) :
    RgOk lo hi ∧ ∀ q, w.H q = none → Q (.ref q) (upd w.H q (if t then .tup (rgV lo hi) else .lst (rgV lo hi))) := by
  obtain ⟨ds, hd, k⟩ := p.lifted
  have k := k w rfl ok (Ext.refl _)
  have hd' := hd
  unfold rngD at hd
  split at hd
  · rename_i hb
    cases hd
    simp only [Bool.and_eq_true, decide_eq_true_eq] at hb
    have rr : Reps G w ((List.range (hi - lo).toNat).map fun (k : Nat) => D.int (lo + k)) (rgV lo hi) := reps_ints (fun k => lo + k) _
    by_cases hz : ((List.range (hi - lo).toNat).map fun (k : Nat) => D.int (lo + k)).length ≤ LIM
    · rw [if_pos hz] at k
      have hz' : (hi - lo).toNat ≤ 16777216 := by simpa using hz
      refine ⟨⟨by omega, by omega, by omega, by omega, by omega⟩, ?_⟩
      cases t with
      | true => exact Ends1.tup (fun w' v eh ok e r => k w' eh ok e v r) ok rr
      | false => exact Ends1.lst (fun w' v eh ok e r => k w' eh ok e v r) ok rr
    · rw [if_neg hz] at k
      exact k.elim
  · cases hd
theorem e_rgl {t : Bool} {src : CI} {te : L2.St → Hp → (Int → Int → Hp → Prop) → Prop} (ok : XOk G C gl F n sc lsc X) (hc : C.calm = true) (hg : isGl sc (rglN t) = true) (hp : plainB l = true) (h : PRg X l te)
    (i : ∀ σ H Q, tE G B Wx F gl (.rgl t src) σ H Q → te σ H fun a b H1 => RgOk a b ∧ ∀ q, H1 q = none → Q (.ref q) (upd H1 q (if t then .tup (rgV a b) else .lst (rgV a b)))) : PE X (.Call (.Name (rglN t) p) [l] [] pos) (tE G B Wx F gl (.rgl t src)) := by
  obtain ⟨g1, g2⟩ := gl_of hg ok.hsc
  cases t with
  | true => exact PE.imp (pe_tupRg (ok.calm hc) g1 (ok.blt _ (by simp [rglN, names0])) h (star_one hp _ _)) fun σ H Q q => i σ H Q q
  | false => exact PE.imp (pe_listRg (ok.calm hc) g1 (ok.blt _ (by simp [rglN, names0])) h (star_one hp _ _)) fun σ H Q q => i σ H Q q
theorem e_rgl1 {t : Bool} {p2 pos2 : Pos} (ok : XOk G C gl F n sc lsc X) (hc : C.calm = true) (hg : isGl sc (rglN t) = true) (hr : isGl sc "range" = true) (hp : plainB m = true) (h : PE X m (tE G B Wx F gl a)) : PE X (.Call (.Name (rglN t) p) [.Call (.Name "range" p2) [m] [] pos2] [] pos) (tE G B Wx F gl (.rgl t (.rng1 a))) := by
  obtain ⟨r1, r2⟩ := gl_of hr ok.hsc
  refine e_rgl ok hc hg rfl (prg_1 r1 (ok.blt _ (by simp [names0])) h (star_one hp _ _)) fun σ H Q ⟨w, env, ω, e, s, q⟩ => ?_
  subst e
  rw [evE, evI] at q
  refine ⟨w, env, ω, rfl, s, q.bind.bind.mono (fun d1 w1 ok1 e1 p2 v1 r1 => ?_) fun _ _ _ _ h => h⟩
  cases r1 with
  | int j => exact ⟨j, rfl, rgl_end ok1 p2⟩
  | _ => exact p2.elim
theorem e_rgl2 {t : Bool} {p2 pos2 : Pos} (ok : XOk G C gl F n sc lsc X) (hc : C.calm = true) (hg : isGl sc (rglN t) = true) (hr : isGl sc "range" = true) (hp : plainB m = true) (hp2 : plainB r = true) (h : PE X m (tE G B Wx F gl a)) (h2 : PE X r (tE G B Wx F gl b)) : PE X (.Call (.Name (rglN t) p) [.Call (.Name "range" p2) [m, r] [] pos2] [] pos) (tE G B Wx F gl (.rgl t (.rng2 a b))) := by
  obtain ⟨r1, r2⟩ := gl_of hr ok.hsc
  refine e_rgl ok hc hg rfl (prg_2 r1 (ok.blt _ (by simp [names0])) h h2 (star_one hp _ _) (star_one hp2 _ _) (by rw [star_one hp2]; rfl)) fun σ H Q ⟨w, env, ω, e, s, q⟩ => ?_
  subst e
  rw [evE, evI] at q
  refine ⟨w, env, ω, rfl, s, q.bind.bind.mono (fun d1 w1 ok1 e1 p2 v1 r1 => ?_) fun _ _ _ _ h => h⟩
  refine ⟨w1, env, ω, rfl, s.ext ok1 e1, p2.bind.mono (fun d2 w2 ok2 e2 p3 v2 r2 => ?_) fun _ _ _ _ h => h⟩
  cases r1 with
  | int i =>
    cases r2 with
    | int j => exact ⟨i, j, rfl, rfl, rgl_end ok2 p3⟩
    | _ => exact p3.elim
  | _ => cases r2 <;> exact p3.elim
theorem bnm_in (b : Blt) : bnm b ∈ names0 := by cases b <;> decide
theorem boot_b (b : Blt) : bootBuiltins (bnm b) = some (bval b) := by cases b <;> decide +kernel
theorem bnm_ne (b : Blt) : bnm b ≠ "__name__" := by cases b <;> decide
theorem e_blt {bt : Blt} (ok : XOk G C gl F n sc lsc X) (hc : C.calm = true) (hg : isGl sc (bnm bt) = true) (hp : ((e :: es).any fun e => !plainB e) = false) (h : PA X (e :: es) (tBs G B Wx F gl as)) :
    PE X (.Call (.Name (bnm bt) p) (e :: es) [] pos) (tE G B Wx F gl (.blt bt as)) := by
  obtain ⟨g1, g2⟩ := gl_of hg ok.hsc
  have hm := ok.blt _ (bnm_in bt)
  rw [List.any_cons, Bool.or_eq_false_iff] at hp
  have he : plainB e = true := by simpa using hp.1
  have key : ∀ σ H Q, tE G B Wx F gl (.blt bt as) σ H Q → tCB (rBlt G bt) (tBs G B Wx F gl as) σ H Q := fun σ H Q ⟨w, env, ω, e, s, p⟩ => by
    subst e
    rw [evE] at p
    refine ⟨w, env, ω, rfl, s, p.bind.mono (fun ds w1 ok1 e1 p2 vs rs => ?_) fun _ _ _ _ h => h⟩
    obtain ⟨d, hd, k⟩ := p2.lifted
    exact ⟨w1, _, d, rfl, ok1, rs.vw ok1, hd, fun w' v eh ok e r => k w' eh ok e v r⟩
  have hcr := blt_ok (X := X) (G := G) ok.K (ok.calm hc) bt
  have hbt := boot_b bt
  cases hv : bval bt with
  | builtin id =>
    rw [hv] at hcr hbt
    exact PE.imp (pe_callB hcr g1 hm hbt h (bnm_ne bt) g2 (star_one he _ _) (star_none hp.2 _ _)) key
  | type T =>
    rw [hv] at hcr hbt
    exact PE.imp (pe_callTy hcr g1 hm hbt h (bnm_ne bt) g2 (star_one he _ _) (star_none hp.2 _ _)) key
  | _ => cases bt <;> cases hv
theorem base_of {l : Expr} {m : Str} {env : Env} {whole : Sem Value} (h : noSup l = true) : attributeBase l m env whole = whole := by
  unfold attributeBase
  split
  · rename_i x q pos
    have hx : (x != "super") = true := h
    rw [hx]
    rfl
  · rfl
/-- a text's method -/
theorem e_bm {m : BM} {p2 : Pos} (ok : XOk G C gl F n sc lsc X) (hn : noSup l = true) (hl : (p2.endLine == p.line) = true) (ho : PE X l (tBa G B Wx F gl a)) (he : (es = [] ∧ as = .nil) ∨ ∃ e, es = [e] ∧ plainB e = true) (h : PA X es (tBs G B Wx F gl as)) :
    PE X (.Call (.Attribute l (bmNm m) p2) es [] p) (tE G B Wx F gl (.bm m a as)) := by
  have key : ∀ {w1 : W} {d : D} {v : V}, isStrD d = true → BRep G w1 d v → ∃ z, d = .str z ∧ v = .str z ∧ Vw G w1 d v := fun hd bv => by
    rename_i w1 d v
    cases d with
    | str z =>
      rcases bv with h | ⟨a, o, _, h, _⟩
      · cases h with | str _ hz => exact ⟨z, rfl, rfl, .str z hz⟩
      · cases o <;> cases h
    | _ => cases hd
  rcases he with ⟨rfl, rfl⟩ | ⟨e, rfl, he⟩
  · refine PE.imp (pe_bm0 PySem.F.plainAttrs_str (bm_slot m) (bm_ty m) (bm_ok (X := X) (G := G) ok.K m) ho (base_of hn) hl) fun σ H Q ⟨w, env, ω, e, s, q⟩ => ?_
    subst e
    rw [evE] at q
    refine ⟨w, env, ω, rfl, s, q.bind.mono (fun d w1 ok1 e1 q2 v bv => ?_) fun _ _ _ _ h => h⟩
    by_cases hd : isStrD d = true
    · rw [if_pos hd] at q2
      obtain ⟨z, rfl, rfl, vw⟩ := key hd bv
      rw [evBs] at q2
      obtain ⟨d3, h3, k⟩ := Post.lifted (show Post G w1 (lift (bmD m (.str z) ([] : List D)) w1.h) _ _ from q2)
      exact ⟨rfl, w1, _, [], d3, rfl, ok1, vw, .nil, h3, fun w' v eh ok e r => k w' eh ok e v r⟩
    · rw [if_neg hd] at q2; exact q2.elim
  · refine PE.imp (pe_bm PySem.F.plainAttrs_str (bm_slot m) (bm_ty m) (bm_ok (X := X) (G := G) ok.K m) ho h (base_of hn) (by rw [star_one he]; rfl) hl (star_one he _ _) rfl) fun σ H Q ⟨w, env, ω, e, s, q⟩ => ?_
    subst e
    rw [evE] at q
    refine ⟨w, env, ω, rfl, s, q.bind.mono (fun d w1 ok1 e1 q2 v bv => ?_) fun _ _ _ _ h => h⟩
    have s1 := s.ext ok1 e1
    by_cases hd : isStrD d = true
    · rw [if_pos hd] at q2
      obtain ⟨z, rfl, rfl, vw⟩ := key hd bv
      refine ⟨rfl, w1, env, ω, rfl, s1, q2.bind.mono (fun ds w2 ok2 e2 q3 vs bvs => ?_) fun _ _ _ _ h => h⟩
      obtain ⟨d3, hd, k⟩ := q3.lifted
      have vw2 : Vw G w2 (.str z) (.str z) := by
        cases vw with | str _ hz => exact .str z hz
      exact ⟨w2, _, _, d3, rfl, ok2, vw2, bvs.vw ok2, hd, fun w' v eh ok e r => k w' eh ok e v r⟩
    · rw [if_neg hd] at q2; exact q2.elim
/-- fields by their places and by their names -/
theorem RepF.look (go : G.Ok) {f : Nat} : ∀ {fs : List (Nat × D)} {fvs : List (Str × V)}, RepF G w fs fvs → (∀ d, fs.lookup f = some d → ∃ v, fvs.lookup (G.sy f) = some v ∧ Rep G w d v) ∧ (fs.lookup f = none → fvs.lookup (G.sy f) = none)
  | _, _, .nil => ⟨fun d h => (by cases h), fun _ => rfl⟩
  | _, _, .cons (k := k) (d := d0) (ds := ds) (v := v0) (vs := vs) r rs => by
    obtain ⟨h1, h2⟩ := RepF.look go (f := f) rs
    by_cases q : f = k
    · subst q
      refine ⟨fun d h => ?_, fun h => ?_⟩
      · rw [List.lookup_cons, beq_self_eq_true] at h
        cases h
        exact ⟨v0, by rw [List.lookup_cons, beq_self_eq_true], r⟩
      · rw [List.lookup_cons, beq_self_eq_true] at h
        cases h
    · have nb : (f == k) = false := by rw [beq_eq_false_iff_ne]; exact q
      have ns : (G.sy f == G.sy k) = false := by
        rw [beq_eq_false_iff_ne]
        intro e
        rcases Nat.lt_or_gt_of_ne q with l | l
        · exact go.sy f k l e
        · exact go.sy k f l e.symm
      refine ⟨fun d h => ?_, fun h => ?_⟩
      · rw [List.lookup_cons, nb] at h
        rw [List.lookup_cons, ns]
        exact h1 d h
      · rw [List.lookup_cons, nb] at h
        rw [List.lookup_cons, ns]
        exact h2 h
/-- a field -/
theorem e_attr {f : Nat} {p2 : Pos} (ok : XOk G C gl F n sc lsc X) (go : G.Ok) (hf : C.T.fld[f]? = some x) (hn : noSup l = true) (h : PE X l (tBa G B Wx F gl a)) : PE X (.Attribute l x p2) (tE G B Wx F gl (.attr a f)) := by
  refine PE.imp (pe_fld h (base_of hn)) fun σ H Q ⟨w, env, ω, e, s, q⟩ => ?_
  subst e
  rw [evE] at q
  refine ⟨w, env, ω, rfl, s, q.bind.mono (fun d w1 ok1 e1 q2 v bv => ?_) fun _ _ _ _ h => h⟩
  obtain ⟨d3, hd, k⟩ := q2.lifted
  have vw := bv.see ok1
  revert vw hd
  generalize see w1.h d = y
  intro hd vw
  cases vw with
  | ins hc hH rf =>
    rename_i ad dx c fvs fs
    have hd' : (if F.tb.ft c f then fs.lookup f else none) = some d3 := hd
    by_cases hft : F.tb.ft c f = true
    · rw [if_pos hft] at hd'
      obtain ⟨hc', hna⟩ := ok.ft c f hft
      obtain ⟨v3, hv3, r3⟩ := (RepF.look go rf).1 d3 hd'
      rw [ok.sy f x hf] at hv3 hna
      rw [ok.K]
      exact ⟨ad, G.ca c, dx, fvs, v3, rfl, hH, go.cls c hc, hna, hv3, k w1 rfl ok1 (Ext.refl _) v3 r3⟩
    · rw [if_neg hft] at hd'; cases hd'
  | _ => cases hd
theorem e_meth {m : Nat} {p2 : Pos} (ok : XOk G C gl F n sc lsc X) (go : G.Ok) (tk : Takes X Wx) (hc : C.calm = true) (hf : C.T.fld[m]? = some x) (hn : noSup l = true) (hl : (p2.endLine == p.line) = true) (ho : PE X l (tE G B Wx F gl a))
    (hp : (es.any fun e => !plainB e) = false) (h30 : es.length < 30) (h : PA X es (tEs G B Wx F gl as)) (hnil : es = [] → as = .nil) : PE X (.Call (.Attribute l x p2) es [] p) (tE G B Wx F gl (.meth a m as)) := by
  have key : ∀ (t : TA), (∀ (w1 : W) (env : En) (ω : Nat → Addr) (σ : L2.St) (K : List V → Hp → Prop), Stt G B w1 env σ ω → Post G w1 (evEs F gl env as w1.h) (fun ds w2 => ∀ vs, Reps G w2 ds vs → K vs w2.H) (XP G Wx σ) → t σ w1.H K) →
      ∀ σ H Q, tE G B Wx F gl (.meth a m as) σ H Q → tMethD X (L2.CX X.prog X.w) (2 * n) x (WE Wx) (tE G B Wx F gl a) t σ H Q := fun t ht σ H Q ⟨w, env, ω, e, s, q⟩ => by
    subst e
    rw [evE] at q
    refine ⟨w, env, ω, rfl, s, q.bind.mono (fun d w1 ok1 e1 q2 v rv => ?_) fun _ _ _ _ h => h⟩
    have s1 := s.ext ok1 e1
    have vw := rv.see ok1
    cases hmd : methD F.tb (see w1.h d) m with
    | none => simp only [hmd] at q2; exact q2.elim
    | some f =>
      simp only [hmd] at q2
      revert vw hmd
      generalize see w1.h d = y
      intro vw hmd
      cases vw with
      | ins hc' hH rf =>
        rename_i ad dx c fvs fs
        have hmd' : (if (fs.lookup m).isNone then F.tb.mt c m else none) = some f := hmd
        by_cases hno : (fs.lookup m).isNone = true
        · rw [if_pos hno] at hmd'
          obtain ⟨_, af, hM, hF⟩ := ok.mt c m f hmd'
          have hlk := (RepF.look go rf).2 (by simpa using hno)
          rw [ok.sy m x hf] at hM hlk
          refine ⟨ad, G.ca c, dx, fvs, af, _, rfl, hH, hlk, by rw [ok.K]; exact go.cls c hc', by rw [ok.K]; exact hM, hF, ht w1 env ω σ _ s1 (q2.bind.mono (fun ds w2 ok2 e2 q3 vs rs => ?_) fun _ _ _ _ h => h)⟩
          exact ⟨w2, d :: ds, rfl, ok2, .cons (rv.ext ok1 e2) rs, q3⟩
        · rw [if_neg hno] at hmd'; cases hmd'
      | _ => cases hmd
  cases es with
  | nil =>
    have e := hnil rfl
    subst e
    refine PE.imp (pe_methD0 ho (base_of hn) hl ((ok.room hc).mono (Nat.le_succ _)) (fun σ => passAt tk σ)) (key _ fun w1 env ω σ K s1 q => ?_)
    rw [evEs] at q
    exact Post.now q s1.ok [] .nil
  | cons e es =>
    rw [List.any_cons, Bool.or_eq_false_iff] at hp
    have he : plainB e = true := by simpa using hp.1
    exact PE.imp (pe_methD ho (base_of hn) hl ((ok.room hc).mono (Nat.le_succ _)) (fun σ => passAt tk σ) h h30 (star_one he _ _) (star_none hp.2 _ _)) (key _ fun w1 env ω σ K s1 q => ⟨w1, env, ω, rfl, s1, q⟩)
/-- a new instance -/
theorem e_make {c : Nat} (ok : XOk G C gl F n sc lsc X) (tk : Takes X Wx) (hc : C.calm = true) (hmk : C.T.mks.contains c = true) (hcl : C.T.cls[c]? = some x) (hg : isGl sc x = true) (hp : (es.any fun e => !plainB e) = false) (h : PA X es (tEs G B Wx F gl as)) (hnil : es = [] → as = .nil) :
    PE X (.Call (.Name x p) es [] pos) (tE G B Wx F gl (.make c as)) := by
  obtain ⟨g1, g2⟩ := gl_of hg ok.hsc
  obtain ⟨hlt, hm⟩ := ok.cls c x hcl
  obtain ⟨af, M, hF⟩ := ok.mkr c hmk
  rw [← ok.K] at M
  have key : ∀ (t : TA), (∀ (w1 : W) (env : En) (ω : Nat → Addr) (σ : L2.St) (K : List V → Hp → Prop), Stt G B w1 env σ ω → Post G w1 (evEs F gl env as w1.h) (fun ds w2 => ∀ vs, Reps G w2 ds vs → K vs w2.H) (XP G Wx σ) → t σ w1.H K) →
      ∀ σ H Q, tE G B Wx F gl (.make c as) σ H Q → tMakeS (G.ca c) (spI G F c) (WE Wx) t σ H Q := fun t ht σ H Q ⟨w, env, ω, e, s, q⟩ => by
    subst e
    rw [evE] at q
    refine ht w env ω σ _ s (q.bind.mono (fun ds w1 ok1 e1 q2 vs rs => fun xa dx hxa hdx hne => ?_) fun _ _ _ _ h => h)
    obtain ⟨k1, k2, k3, k4⟩ := W.new_ok (o := .own xa) ok1 hdx
    have hxa' : (w1.mut dx (.own xa)).H xa = none := by
      show upd w1.H dx (.own xa) xa = none
      rw [upd_ne (Ne.symm hne)]
      exact hxa
    obtain ⟨m1, m2, m3, m4⟩ := W.new_ok (o := .ins (G.ca c) dx []) k1 hxa'
    refine ⟨w1, (w1.mut dx (.own xa)).mut xa (.ins (G.ca c) dx []), ds, xa, dx, vs, rfl, rfl, m1, k2.trans m2, rfl, hlt, upd_same, m3, m4, hxa, rs.ext ok1 (k2.trans m2), ?_⟩
    cases hI : F.ini c ds w1.h with
    | bad => rw [hI] at q2; exact q2.elim
    | exc z h2 => rw [hI] at q2; exact q2
    | ok fs h2 =>
      rw [hI] at q2
      intro w' eh ok' e' dx' fvs hH' rf nz nl
      exact ⟨rfl, q2 (w'.fz xa) eh (W.fz_ok ok' nl hH') (W.fz_ext e' hxa) (.ref xa) (.ins hlt (.inr rfl) hH' (rf.le W.fz_le))⟩
  cases es with
  | nil =>
    have e := hnil rfl
    subst e
    refine PE.imp (pe_makeS0 M hF (ok.room hc) g1 hm (fun σ => passAt tk σ) g2) (key _ fun w1 env ω σ K s1 q => ?_)
    rw [evEs] at q
    exact Post.now q s1.ok [] .nil
  | cons e es =>
    rw [List.any_cons, Bool.or_eq_false_iff] at hp
    have he : plainB e = true := by simpa using hp.1
    exact PE.imp (pe_makeS M hF (ok.room hc) g1 hm (fun σ => passAt tk σ) h g2 (star_one he _ _) (star_none hp.2 _ _)) (key _ fun w1 env ω σ K s1 q => ⟨w1, env, ω, rfl, s1, q⟩)
/-- .. where objects are lent -/
theorem e_makeb {c : Nat} (ok : XOk G C gl F n sc lsc X) (tk : Takes X Wx) (hc : C.calm = true) (hmk : C.T.mks.contains c = true) (hcl : C.T.cls[c]? = some x) (hg : isGl sc x = true) (hp : (es.any fun e => !plainB e) = false) (h : PA X es (tAs G B Wx F gl as)) (hnil : es = [] → as = .nil) :
    PE X (.Call (.Name x p) es [] pos) (tE G B Wx F gl (.makeb c as)) := by
  obtain ⟨g1, g2⟩ := gl_of hg ok.hsc
  obtain ⟨hlt, hm⟩ := ok.cls c x hcl
  obtain ⟨af, M, hF⟩ := ok.mkb c hmk
  rw [← ok.K] at M
  have key : ∀ (t : TA), (∀ (w1 : W) (env : En) (ω : Nat → Addr) (σ : L2.St) (K : List V → Hp → Prop), Stt G B w1 env σ ω → Post G w1 (evAs F gl env as w1.h) (fun ds w2 => ∀ vs, AReps G w2 ds vs → K vs w2.H) (XP G Wx σ) → t σ w1.H K) →
      ∀ σ H Q, tE G B Wx F gl (.makeb c as) σ H Q → tMakeS (G.ca c) (spIB G F c) (WE Wx) t σ H Q := fun t ht σ H Q ⟨w, env, ω, e, s, q⟩ => by
    subst e
    rw [evE] at q
    refine ht w env ω σ _ s (q.bind.mono (fun ds w1 ok1 e1 q2 vs rs => fun xa dx hxa hdx hne => ?_) fun _ _ _ _ h => h)
    obtain ⟨k1, k2, k3, k4⟩ := W.new_ok (o := .own xa) ok1 hdx
    have hxa' : (w1.mut dx (.own xa)).H xa = none := by
      show upd w1.H dx (.own xa) xa = none
      rw [upd_ne (Ne.symm hne)]
      exact hxa
    obtain ⟨m1, m2, m3, m4⟩ := W.new_ok (o := .ins (G.ca c) dx []) k1 hxa'
    refine ⟨w1, (w1.mut dx (.own xa)).mut xa (.ins (G.ca c) dx []), ds, xa, dx, vs, rfl, rfl, ok1, m1, k2.trans m2, rfl, hlt, upd_same, m3, m4, hxa, rs, ?_⟩
    cases hI : F.inib c ds w1.h with
    | bad => rw [hI] at q2; exact q2.elim
    | exc z h2 => rw [hI] at q2; exact q2
    | ok fs h2 =>
      rw [hI] at q2
      intro w' eh ok' e' dx' fvs hH' rf nz nl
      exact ⟨rfl, q2 (w'.fz xa) eh (W.fz_ok ok' nl hH') (W.fz_ext e' hxa) (.ref xa) (.ins hlt (.inr rfl) hH' (rf.le W.fz_le))⟩
  cases es with
  | nil =>
    have e := hnil rfl
    subst e
    refine PE.imp (pe_makeS0 M hF (ok.room hc) g1 hm (fun σ => passAt tk σ) g2) (key _ fun w1 env ω σ K s1 q => ?_)
    rw [evAs] at q
    exact Post.now q s1.ok [] .nil
  | cons e es =>
    rw [List.any_cons, Bool.or_eq_false_iff] at hp
    have he : plainB e = true := by simpa using hp.1
    exact PE.imp (pe_makeS M hF (ok.room hc) g1 hm (fun σ => passAt tk σ) h g2 (star_one he _ _) (star_none hp.2 _ _)) (key _ fun w1 env ω σ K s1 q => ⟨w1, env, ω, rfl, s1, q⟩)
/-- keywords' values -/
theorem k_nil : PK X [] (tAs G B Wx F gl .nil) := ⟨fun pos pins s σ H Q I ⟨w, env, ω, e, st, p⟩ => by
  subst e
  rw [evAs] at p
  exact pk_nil.run pos pins s σ _ Q I (Post.now p st.ok _ .nil)⟩
theorem k_cons {nm : Option Str} {kpos : Pos} {kws : List Keyword} (h : PE X e (fun σ H Q => ∃ w env ω, w.H = H ∧ Stt G B w env σ ω ∧ Post G w (lent env a w.h (evE F gl env a w.h)) (fun d w' => ∀ v, ARep G w' d v → Q v w'.H) (XP G Wx σ))) (hs : PK X kws (tAs G B Wx F gl as)) : PK X (⟨nm, e, kpos⟩ :: kws) (tAs G B Wx F gl (.cons a as)) := ⟨fun pos pins s σ H Q I q => (pk_cons h hs).run pos pins s σ H Q I (by
  obtain ⟨w, env, ω, e, st, p⟩ := q
  subst e
  rw [evAs] at p
  refine ⟨w, env, ω, rfl, st, p.bind.mono (fun d1 w1 ok1 e1 p2 v1 r1 => ?_) fun _ _ _ _ h => h⟩
  have s1 := st.ext ok1 e1
  refine ⟨w1, env, ω, rfl, s1, p2.bind.mono (fun ds w2 ok2 e2 p3 vs rs => ?_) fun _ _ _ _ h => h⟩
  exact (Post.at (a := d1 :: ds) p3 rfl ok2) _ (.cons (r1.ext ok1 e2) rs))⟩
theorem kw_all {env : Env} (pos : Pos) {ns : List Str} : ∀ {kws : List Keyword}, kws.map (·.arg) = ns.map some → (backToKw pos (keywordEach kws env)).all (·.1.isSome) = true ∧ (backToKw pos (keywordEach kws env)).filterMap (·.1) = ns ∧ (backToKw pos (keywordEach kws env)).any (·.1.isNone) = false := by
  induction ns with
  | nil =>
    intro kws h
    have e : kws = [] := by simpa using h
    subst e
    exact ⟨rfl, rfl, rfl⟩
  | cons x ns ih =>
    intro kws h
    cases kws with
    | nil => cases h
    | cons k kws =>
      rw [List.map_cons, List.map_cons] at h
      obtain ⟨h1, h2⟩ := List.cons.inj h
      obtain ⟨a1, a2, a3⟩ := ih h2
      obtain ⟨nm, v, kp⟩ := k
      simp only at h1
      subst h1
      have e : backToKw pos (keywordEach (⟨some x, v, kp⟩ :: kws) env) = (some x, do let y ← eval v env; standAt pos; pure y) :: backToKw pos (keywordEach kws env) := rfl
      rw [e]
      refine ⟨?_, ?_, ?_⟩
      · rw [List.all_cons, a1]; rfl
      · rw [List.filterMap_cons, a2]
      · rw [List.any_cons, a3]; rfl
theorem AReps.lenA {ds : List Ar} : ∀ {vs : List V}, AReps G w ds vs → ds.length = vs.length := by
  intro vs h
  induction h with
  | nil => rfl
  | cons _ _ ih => rw [List.length_cons, List.length_cons, ih]
/-- a new instance, with keywords -/
theorem e_makek {k c nn : Nat} {ns : List Str} {ks : CEs} {kws : List Keyword} (ok : XOk G C gl F n sc lsc X) (tk : Takes X Wx) (hc : C.calm = true) (hkf : C.T.kfs[k]? = some (c, nn, ns)) (hcl : C.T.cls[c]? = some x) (hg : isGl sc x = true) (hp : (es.any fun e => !plainB e) = false) (h : PA X es (tAs G B Wx F gl as)) (hne0 : es ≠ [])
    (hkn : kws.map (·.arg) = ns.map some) (hk : PK X kws (tAs G B Wx F gl ks)) :
    PE X (.Call (.Name x p) es kws pos) (tE G B Wx F gl (.makek k as ks)) := by
  obtain ⟨g1, g2⟩ := gl_of hg ok.hsc
  obtain ⟨hlt, hm⟩ := ok.cls c x hcl
  obtain ⟨kf, hq, rfl, rfl, rfl, hlt', af, M, hF⟩ := ok.kf k c nn ns hc hkf
  rw [← ok.K] at M
  obtain ⟨b1, b2, b3⟩ := kw_all (env := X.env) pos hkn
  have key : ∀ (t : TA), (∀ (w1 : W) (env : En) (ω : Nat → Addr) (σ : L2.St) (K : List V → Hp → Prop), Stt G B w1 env σ ω → Post G w1 (evAs F gl env as w1.h) (fun ds w2 => ∀ vs, AReps G w2 ds vs → K vs w2.H) (XP G Wx σ) → t σ w1.H K) →
      ∀ σ H Q, tE G B Wx F gl (.makek k as ks) σ H Q → tMakeKS (G.ca kf.c) kf.n kf.ks.length (spKB G F kf) (WE Wx) t (tAs G B Wx F gl ks) σ H Q := fun t ht σ H Q ⟨w, env, ω, e, s, q⟩ => by
    subst e
    rw [evE] at q
    refine ht w env ω σ _ s (q.bind.mono (fun ds w1 ok1 e1 q2 vs rs => ?_) fun _ _ _ _ h => h)
    refine ⟨w1, env, ω, rfl, s.ext ok1 e1, q2.bind.mono (fun zs w2 ok2 e2 q3 us ru => ?_) fun _ _ _ _ h => h⟩
    simp only [hq] at q3
    split at q3
    rotate_left
    · exact q3.elim
    rename_i hl
    refine ⟨by rw [← rs.lenA]; exact hl.1, by rw [← ru.lenA]; exact hl.2, fun xa dx hxa hdx hne => ?_⟩
    obtain ⟨k1, k2, k3, k4⟩ := W.new_ok (o := .own xa) ok2 hdx
    have hxa' : (w2.mut dx (.own xa)).H xa = none := by
      show upd w2.H dx (.own xa) xa = none
      rw [upd_ne (Ne.symm hne)]
      exact hxa
    obtain ⟨m1, m2, m3, m4⟩ := W.new_ok (o := .ins (G.ca kf.c) dx []) k1 hxa'
    refine ⟨w2, (w2.mut dx (.own xa)).mut xa (.ins (G.ca kf.c) dx []), ds, zs, xa, dx, vs, rfl, rfl, ok2, m1, k2.trans m2, rfl, hlt, upd_same, m3, m4, hxa, rs.ext ok1 e2, ru, ?_⟩
    cases hI : F.inib kf.c (kf.app ds zs) w2.h with
    | bad => rw [hI] at q3; exact q3.elim
    | exc z h2 => rw [hI] at q3; exact q3
    | ok fs h2 =>
      rw [hI] at q3
      intro w' eh ok' e' dx' fvs hH' rf nz nl
      exact ⟨rfl, q3 (w'.fz xa) eh (W.fz_ok ok' nl hH') (W.fz_ext e' hxa) (.ref xa) (.ins hlt (.inr rfl) hH' (rf.le W.fz_le))⟩
  cases es with
  | nil => exact absurd rfl hne0
  | cons e es =>
    rw [List.any_cons, Bool.or_eq_false_iff] at hp
    have he : plainB e = true := by simpa using hp.1
    have hpl : ((backTo pos (starEach (e :: es) X.env)).any (·.1) || (backToKw pos (keywordEach kws X.env)).any (·.1.isNone)) = false := by
      rw [b3, Bool.or_false]
      exact star_none (by rw [List.any_cons, he, hp.2]; rfl) _ _
    exact PE.imp (pe_makeKS M hF (ok.room hc) g1 hm (fun σ => passAt tk σ) h hk b1 b2 g2 (star_one he _ _) hpl) (key _ fun w1 env ω σ K s1 q => ⟨w1, env, ω, rfl, s1, q⟩)
/-- a property -/
theorem e_prop {m : Nat} {p2 : Pos} (ok : XOk G C gl F n sc lsc X) (go : G.Ok) (hc : C.calm = true) (hf : C.T.fld[m]? = some x) (hn : noSup l = true) (ho : PE X l (tE G B Wx F gl a)) : PE X (.Attribute l x p2) (tE G B Wx F gl (.prop a m)) := by
  refine PE.imp (pe_propR (CX := L2.CX X.prog X.w) (k := 2 * n) ho (ok.room hc) (fun σ pins H s e s' I z => ?_) (base_of hn)) fun σ H Q ⟨w, env, ω, e, s, q⟩ => ?_
  · obtain ⟨_, _, _, _, _, _, _, _, _, _, _, _, z⟩ := z
    exact z
  · subst e
    rw [evE] at q
    refine ⟨w, env, ω, rfl, s, q.bind.mono (fun d w1 ok1 e1 q2 v rv => ?_) fun _ _ _ _ h => h⟩
    have vw := rv.see ok1
    cases hpd : propD F.tb (see w1.h d) m with
    | none => simp only [hpd] at q2; exact q2.elim
    | some f =>
      simp only [hpd] at q2
      revert vw hpd
      generalize see w1.h d = y
      intro vw hpd
      cases vw with
      | ins hc' hH rf =>
        rename_i ad dx c fvs fs
        obtain ⟨hlt, pp, g, hP, hF⟩ := ok.pt c m f hpd
        rw [ok.sy m x hf, ← ok.K] at hP
        refine ⟨ad, G.ca c, dx, fvs, pp, g, _, rfl, hH, by rw [ok.K]; exact go.cls c hc', hP, hF, w1, [d], rfl, ok1, .cons rv .nil, ?_⟩
        cases hr : F.call f [d] w1.h with
        | ok d2 h2 => rw [hr] at q2; exact q2
        | exc z h2 => rw [hr] at q2; exact q2.elim
        | bad => rw [hr] at q2; exact q2.elim
      | _ => cases hpd
/-- isinstance -/
theorem e_isi {t : Ty} {p3 : Pos} (ok : XOk G C gl F n sc lsc X) (go : G.Ok) (hg : isGl sc "isinstance" = true) (hgy : isGl sc y = true) (hp : plainB l = true) (ht : ckTy C.T t y = true) (h : PE X l (tE G B Wx F gl a)) :
    PE X (.Call (.Name "isinstance" p) [l, .Name y p3] [] pos) (tE G B Wx F gl (.isi a t)) := by
  obtain ⟨g1, g2⟩ := gl_of hg ok.hsc
  obtain ⟨k1, k2⟩ := gl_of hgy ok.hsc
  have hm := ok.blt "isinstance" (by decide)
  -- the class as a value
  have hcls : tyOk G t ∧ ∃ cv, (ClsV cv (tyV G t)) ∧ PE X (.Name y p3) (tC cv) := by
    cases t with
    | own c =>
      have h' : (C.T.cls[c]? == some y) = true := ht
      rw [beq_iff_eq] at h'
      obtain ⟨h1, h2⟩ := ok.cls c y h'
      exact ⟨h1, _, ClsV.own (G.ca c), pe_glob k1 h2 rfl k2⟩
    | int => 
      have e : y = "int" := beq_iff_eq.mp ht
      subst e
      exact ⟨trivial, _, ClsV.ty "int", pe_bltn k1 (ok.blt _ (by decide)) (by decide +kernel) rfl⟩
    | bool => 
      have e : y = "bool" := beq_iff_eq.mp ht
      subst e
      exact ⟨trivial, _, ClsV.ty "bool", pe_bltn k1 (ok.blt _ (by decide)) (by decide +kernel) rfl⟩
    | str => 
      have e : y = "str" := beq_iff_eq.mp ht
      subst e
      exact ⟨trivial, _, ClsV.ty "str", pe_bltn k1 (ok.blt _ (by decide)) (by decide +kernel) rfl⟩
    | list => 
      have e : y = "list" := beq_iff_eq.mp ht
      subst e
      exact ⟨trivial, _, ClsV.ty "list", pe_bltn k1 (ok.blt _ (by decide)) (by decide +kernel) rfl⟩
    | tuple => 
      have e : y = "tuple" := beq_iff_eq.mp ht
      subst e
      exact ⟨trivial, _, ClsV.ty "tuple", pe_bltn k1 (ok.blt _ (by decide)) (by decide +kernel) rfl⟩
    | dict => 
      have e : y = "dict" := beq_iff_eq.mp ht
      subst e
      exact ⟨trivial, _, ClsV.ty "dict", pe_bltn k1 (ok.blt _ (by decide)) (by decide +kernel) rfl⟩
  obtain ⟨hto, cv, hcv, hpe⟩ := hcls
  have hK := ok.K
  refine PE.imp (pe_callB call_isi g1 hm (by decide +kernel) (pa_cons h (pa_cons hpe pa_nil (star_one rfl _ _)) (star_one hp _ _)) (by decide) g2 (star_one hp _ _) (star_none (es := [.Name y p3]) rfl _ _)) fun σ H Q ⟨w, env, ω, e, s, p⟩ => ?_
  subst e
  rw [evE] at p
  refine ⟨w, env, ω, rfl, s, p.bind.mono (fun d1 w1 ok1 e1 p2 v1 r1 => ?_) fun _ _ _ _ h => h⟩
  obtain ⟨d, hd, k⟩ := p2.lifted
  obtain ⟨bb, hb, rfl⟩ := Option.map_eq_some_iff.mp hd
  obtain ⟨u, hu, hk⟩ := ty_kit go (r1.see ok1) hto hb
  rw [← hK] at hu hk
  exact ⟨v1, cv, u, tyV G t, bb, rfl, hcv, hu, hk, k w1 rfl ok1 (Ext.refl _) _ (.bl bb)⟩
/-- a new live list -/
def W.newc (w : W) (p : Addr) (ob : Ob) (o : HO) : W := ⟨w.Z, fun i => if i = w.h.length then p else w.ι i, w.h ++ [some ob], upd w.H p o⟩
theorem newc_ok (ok : WOk G w) {p : Addr} {ds : List D} {vs : List V} (r : Reps G w ds vs) (hp : w.H p = none) : WOk G (w.newc p (.lst ds) (.lst vs)) ∧ Ext w (w.newc p (.lst ds) (.lst vs)) := by
  obtain ⟨k1, k2, nz, nl⟩ := W.new_ok (o := .lst vs) ok hp
  have ex : Ext w (w.newc p (.lst ds) (.lst vs)) := {
    z := fun _ z => z
    zn := fun _ z => .inl z
    ι := fun i hi => by
      show (if i = w.h.length then p else w.ι i) = w.ι i
      rw [if_neg (Nat.ne_of_lt hi)]
    len := by show w.h.length ≤ (w.h ++ [_]).length; simp
    lv := fun i o hi h => by
      have h' : (w.h ++ [some (Ob.lst ds)])[i]? = some (some o) := h
      rw [List.getElem?_append_left hi] at h'
      exact ⟨o, h'⟩
    fresh := fun i o hi h => by
      have h' : (w.h ++ [some (Ob.lst ds)])[i]? = some (some o) := h
      rw [List.getElem?_append_right hi] at h'
      have e : i = w.h.length := by
        cases q : i - w.h.length with
        | zero => omega
        | succ k => rw [q] at h'; simp at h'
      show w.H (if i = w.h.length then p else w.ι i) = none
      rw [if_pos e]
      exact hp
    keep := k2.keep
    dom := k2.dom }
  refine ⟨⟨fun i o h => ?_, fun i j o u h1 h2 he => ?_, k1.zin⟩, ex⟩
  · have h' : (w.h ++ [some (Ob.lst ds)])[i]? = some (some o) := h
    by_cases hi : i < w.h.length
    · rw [List.getElem?_append_left hi] at h'
      obtain ⟨q1, q2⟩ := ok.cell i o h'
      have ei : (w.newc p (.lst ds) (.lst vs)).ι i = w.ι i := ex.ι i hi
      rw [ei]
      refine ⟨q1.le_ne (ex.le ok) ?_, q2⟩
      show upd w.H p _ (w.ι i) = _
      rw [upd_ne (fun q => nl ⟨i, o, h', q⟩)]
    · rw [List.getElem?_append_right (Nat.le_of_not_lt hi)] at h'
      have e : i = w.h.length := by
        cases q : i - w.h.length with
        | zero => omega
        | succ k => rw [q] at h'; simp at h'
      subst e
      rw [Nat.sub_self] at h'
      have h2 : some (Ob.lst ds) = some o := by simpa using h'
      cases h2
      have ei : (w.newc p (.lst ds) (.lst vs)).ι w.h.length = p := if_pos rfl
      rw [ei]
      exact ⟨.lst upd_same (r.ext ok ex), nz⟩
  · have key : ∀ i o, (w.newc p (.lst ds) (.lst vs)).h[i]? = some (some o) → (i < w.h.length ∧ w.h[i]? = some (some o) ∧ (w.newc p (.lst ds) (.lst vs)).ι i = w.ι i) ∨ (i = w.h.length ∧ (w.newc p (.lst ds) (.lst vs)).ι i = p) := fun i o h => by
      have h' : (w.h ++ [some (Ob.lst ds)])[i]? = some (some o) := h
      by_cases hi : i < w.h.length
      · rw [List.getElem?_append_left hi] at h'
        exact .inl ⟨hi, h', ex.ι i hi⟩
      · rw [List.getElem?_append_right (Nat.le_of_not_lt hi)] at h'
        have e : i = w.h.length := by
          cases q : i - w.h.length with
          | zero => omega
          | succ k => rw [q] at h'; simp at h'
        exact .inr ⟨e, if_pos e⟩
    rcases key i o h1 with ⟨a1, a2, a3⟩ | ⟨a1, a3⟩ <;> rcases key j u h2 with ⟨b1, b2, b3⟩ | ⟨b1, b3⟩
    · rw [a3, b3] at he
      exact ok.inj i j o u a2 b2 he
    · rw [a3, b3] at he
      exact (nl ⟨i, o, a2, he⟩).elim
    · rw [a3, b3] at he
      exact (nl ⟨j, u, b2, he.symm⟩).elim
    · rw [a1, b1]
theorem e_newc (h : PA X es (tEs G B Wx F gl as)) : PE X (.List es pos) (tE G B Wx F gl (.newc as)) := by
  refine PE.imp (pe_lst h) fun σ H Q ⟨w, env, ω, e, s, p⟩ => ?_
  subst e
  rw [evE] at p
  refine ⟨w, env, ω, rfl, s, p.bind.mono (fun ds w1 ok1 e1 p2 vs rs => ?_) fun _ _ _ _ h => h⟩
  by_cases hz : ds.length ≤ LIM
  · simp only [hz, if_true] at p2
    refine ⟨by rw [← rs.length]; exact hz, fun p hp => ?_⟩
    obtain ⟨k1, k2⟩ := newc_ok ok1 rs hp
    have q := p2 (w1.newc p (.lst ds) (.lst vs)) rfl k1 k2 (.ref p) ?_
    · exact q
    · have r := Rep.cell (G := G) (w := w1.newc p (.lst ds) (.lst vs)) w1.h.length (by show _ < (w1.h ++ [_]).length; simp)
      have ei : (w1.newc p (.lst ds) (.lst vs)).ι w1.h.length = p := if_pos rfl
      rw [ei] at r
      exact r
  · simp only [hz, if_false] at p2
    exact p2.elim

/-! ### and, or -/
abbrev tAn (G : Gm) (B : Bs) (Wx : WX) (F : FTab) (gl : Nat → Option D) (as : CEs) := tL G B Wx (fun as env h => evAnd F gl env as h) as
abbrev tOr' (G : Gm) (B : Bs) (Wx : WX) (F : FTab) (gl : Nat → Option D) (as : CEs) := tL G B Wx (fun as env h => evOr F gl env as h) as
abbrev tAnT (G : Gm) (B : Bs) (Wx : WX) (F : FTab) (gl : Nat → Option D) (as : CEs) := tLT G B Wx (fun as env h => evAnd F gl env as h) as
abbrev tOrT' (G : Gm) (B : Bs) (Wx : WX) (F : FTab) (gl : Nat → Option D) (as : CEs) := tLT G B Wx (fun as env h => evOr F gl env as h) as
theorem and_one (h : PE X e (tE G B Wx F gl a)) {op} : PE X (.BoolOp op [e] pos) (tAn G B Wx F gl (.cons a .nil)) := PE.imp (pe_one h) fun σ H Q ⟨w, env, ω, e, s, p⟩ => ⟨w, env, ω, e, s, by
  have p : Post G w (evAnd F gl env (.cons a .nil) w.h) _ _ := p
  rw [evAnd] at p
  exact p⟩
theorem or_one (h : PE X e (tE G B Wx F gl a)) {op} : PE X (.BoolOp op [e] pos) (tOr' G B Wx F gl (.cons a .nil)) := PE.imp (pe_one h) fun σ H Q ⟨w, env, ω, e, s, p⟩ => ⟨w, env, ω, e, s, by
  have p : Post G w (evOr F gl env (.cons a .nil) w.h) _ _ := p
  rw [evOr] at p
  exact p⟩
theorem and_cons (hK : X.K = G.K) (h : PE X e (tE G B Wx F gl a)) (h2 : PE X (.BoolOp .And (e' :: es) pos) (tAn G B Wx F gl (.cons b bs))) : PE X (.BoolOp .And (e :: e' :: es) pos) (tAn G B Wx F gl (.cons a (.cons b bs))) := by
  refine PE.imp (pe_andT h h2) fun σ H Q ⟨w, env, ω, e, s, p⟩ => ?_
  subst e
  have p : Post G w (evAnd F gl env (.cons a (.cons b bs)) w.h) _ _ := p
  rw [evAnd] at p
  refine ⟨w, env, ω, rfl, s, p.bind.mono (fun d1 w1 ok1 e1 p2 v1 r1 => ?_) fun _ _ _ _ h => h⟩
  obtain ⟨k, hk, p3⟩ := p2.bind.lifted
  have p3 := p3 w1 rfl ok1 (Ext.refl _)
  refine ⟨k, by rw [hK]; exact truth_v (r1.see ok1) hk, ?_⟩
  cases k with
  | true => exact iteT ⟨w1, env, ω, rfl, s.ext ok1 e1, p3⟩
  | false => exact iteF (Post.at (a := d1) p3 rfl ok1 v1 r1)
theorem or_cons (hK : X.K = G.K) (h : PE X e (tE G B Wx F gl a)) (h2 : PE X (.BoolOp .Or (e' :: es) pos) (tOr' G B Wx F gl (.cons b bs))) : PE X (.BoolOp .Or (e :: e' :: es) pos) (tOr' G B Wx F gl (.cons a (.cons b bs))) := by
  refine PE.imp (pe_orT h h2) fun σ H Q ⟨w, env, ω, e, s, p⟩ => ?_
  subst e
  have p : Post G w (evOr F gl env (.cons a (.cons b bs)) w.h) _ _ := p
  rw [evOr] at p
  refine ⟨w, env, ω, rfl, s, p.bind.mono (fun d1 w1 ok1 e1 p2 v1 r1 => ?_) fun _ _ _ _ h => h⟩
  obtain ⟨k, hk, p3⟩ := p2.bind.lifted
  have p3 := p3 w1 rfl ok1 (Ext.refl _)
  refine ⟨k, by rw [hK]; exact truth_v (r1.see ok1) hk, ?_⟩
  cases k with
  | false => exact iteF ⟨w1, env, ω, rfl, s.ext ok1 e1, p3⟩
  | true => exact iteT (Post.at (a := d1) p3 rfl ok1 v1 r1)
theorem andT_one (h : PT X e (tT G B Wx F gl a)) : PW X (.BoolOp .And [e] pos) (tAnT G B Wx F gl (.cons a .nil)) := PW.imp (pw_and1 h) fun σ H Q ⟨w, env, ω, e, s, p⟩ => ⟨w, env, ω, e, s, by
  have p : Post G w (evAnd F gl env (.cons a .nil) w.h).test _ _ := p
  rw [evAnd] at p
  exact p⟩
theorem orT_one (h : PT X e (tT G B Wx F gl a)) : PW X (.BoolOp .Or [e] pos) (tOrT' G B Wx F gl (.cons a .nil)) := PW.imp (pw_or1 h) fun σ H Q ⟨w, env, ω, e, s, p⟩ => ⟨w, env, ω, e, s, by
  have p : Post G w (evOr F gl env (.cons a .nil) w.h).test _ _ := p
  rw [evOr] at p
  exact p⟩
theorem andT_cons (h : PT X e (tT G B Wx F gl a)) (h2 : PW X (.BoolOp .And (e' :: es) pos) (tAnT G B Wx F gl (.cons b bs))) : PW X (.BoolOp .And (e :: e' :: es) pos) (tAnT G B Wx F gl (.cons a (.cons b bs))) := by
  refine PW.imp (pw_and h h2) fun σ H Q ⟨w, env, ω, e, s, p⟩ => ?_
  subst e
  have p : Post G w (evAnd F gl env (.cons a (.cons b bs)) w.h).test _ _ := p
  rw [evAnd] at p
  refine ⟨w, env, ω, rfl, s, ?_⟩
  unfold Res.test at p ⊢
  cases q1 : evE F gl env a w.h with
  | bad => rw [q1] at p; exact p.elim
  | exc x h => rw [q1] at p; exact p
  | ok d1 h1 =>
    rw [q1] at p
    cases q2 : truth (see h1 d1) with
    | none => simp only [Res.bind, q2, lift] at p; exact p.elim
    | some k =>
      simp only [Res.bind, q2, lift]
      intro w1 eh ok1 e1
      subst eh
      cases k with
      | true =>
        refine iteT ⟨w1, env, ω, rfl, s.ext ok1 e1, ?_⟩
        simp only [Res.bind, q2, lift, if_true] at p
        exact Post.later p e1
      | false =>
        simp only [Res.bind, q2, lift, Bool.false_eq_true, if_false] at p
        have p' : Post G w (.ok false w1.h) _ _ := p
        exact iteF (p' w1 rfl ok1 e1)
theorem orT_cons (h : PT X e (tT G B Wx F gl a)) (h2 : PW X (.BoolOp .Or (e' :: es) pos) (tOrT' G B Wx F gl (.cons b bs))) : PW X (.BoolOp .Or (e :: e' :: es) pos) (tOrT' G B Wx F gl (.cons a (.cons b bs))) := by
  refine PW.imp (pw_or h h2) fun σ H Q ⟨w, env, ω, e, s, p⟩ => ?_
  subst e
  have p : Post G w (evOr F gl env (.cons a (.cons b bs)) w.h).test _ _ := p
  rw [evOr] at p
  refine ⟨w, env, ω, rfl, s, ?_⟩
  unfold Res.test at p ⊢
  cases q1 : evE F gl env a w.h with
  | bad => rw [q1] at p; exact p.elim
  | exc x h => rw [q1] at p; exact p
  | ok d1 h1 =>
    rw [q1] at p
    cases q2 : truth (see h1 d1) with
    | none => simp only [Res.bind, q2, lift] at p; exact p.elim
    | some k =>
      simp only [Res.bind, q2, lift]
      intro w1 eh ok1 e1
      subst eh
      cases k with
      | false =>
        refine iteF ⟨w1, env, ω, rfl, s.ext ok1 e1, ?_⟩
        simp only [Res.bind, q2, lift] at p
        exact Post.later p e1
      | true =>
        simp only [Res.bind, q2, lift, if_true] at p
        have p' : Post G w (.ok true w1.h) _ _ := p
        exact iteT (p' w1 rfl ok1 e1)
end
end Rf
set_option Elab.async false
set_option linter.all false
set_option maxRecDepth 100000
set_option maxHeartbeats 4000000
/-! G12b: set(x), sorted({..}), constants of classes, own len and iter, dicts asked -/
namespace Rf
open PySem L2 PySem.Spec PyProof.Rows
section
variable {G : Gm} {B : Bs} {w w1 w' : W} {Wx : WX} {F : FTab} {gl : Nat → Option D} {C : Ck} {n : Nat} {sc lsc : Scope} {X : Cx} {env env' : En} {σ : List (Option V)} {ω : Nat → Addr}
  {l m r e e' tg : Expr} {es : List Expr} {a b c : CE} {as bs : CEs} {pos p q p2 : Pos} {x y : Str}
/-- len(set(x)) -/
theorem e_lset (ok : XOk G C gl F n sc lsc X) (hc : C.calm = true) (hg : isGl sc "len" = true) (hg2 : isGl sc "set" = true) (hp : plainB l = true) (h : PE X l (tE G B Wx F gl a)) :
    PE X (.Call (.Name "len" p) [.Call (.Name "set" p2) [l] [] q] [] pos) (tE G B Wx F gl (.lset a)) := by
  obtain ⟨g1, g2⟩ := gl_of hg ok.hsc
  obtain ⟨g3, g4⟩ := gl_of hg2 ok.hsc
  refine PE.imp (pe_lenSetS (ok.calm hc) g1 (ok.blt _ (by simp [names0])) g3 (ok.blt _ (by simp [names0])) h (star_one hp _ _)) fun σ H Q ⟨w, env, ω, e, s, p⟩ => ?_
  subst e
  rw [evE] at p
  refine ⟨w, env, ω, rfl, s, p.bind.mono (fun d w1 ok1 e1 p2 v rv => ?_) fun _ _ _ _ h => h⟩
  cases rv with
  | str z hz =>
    simp only at p2
    by_cases hu : unlike z = true
    · rw [if_pos hu] at p2
      unfold unlike at hu
      simp only [Bool.and_eq_true, decide_eq_true_eq] at hu
      exact ⟨z, rfl, hu.1.1, hu.1.2, Nat.lt_of_lt_of_le hu.2 (by decide), Post.now p2 ok1 _ (.int _)⟩
    · rw [if_neg hu] at p2
      exact p2.elim
  | _ => exact p2.elim
/-- C.f, a constant of the class -/
theorem e_cval {k f : Nat} (ok : XOk G C gl F n sc lsc X) (hcl : C.T.cls[k]? = some x) (hg : isGl sc x = true) (hf : C.T.fld[f]? = some y) (hx : (x != "super") = true) : PE X (.Attribute (.Name x p) y pos) (tE G B Wx F gl (.cval k f)) := by
  obtain ⟨g1, g2⟩ := gl_of hg ok.hsc
  obtain ⟨hlt, hm⟩ := ok.cls k x hcl
  have hy := ok.sy f y hf
  refine PE.imp (ClX.pe_cval (pe_glob (v := V.ref (G.ca k)) g1 hm rfl g2) (base_of (l := .Name x p) rfl)) fun σ H Q ⟨w, env, ω, e, s, q⟩ => ?_
  subst e
  rw [evE] at q
  obtain ⟨d, hd, kq⟩ := q.lifted
  obtain ⟨mc, v, u, h1, h2, h3⟩ := ok.cv k f d hd
  rw [hy, ← ok.K] at h2
  rw [← ok.K] at h1
  exact ⟨G.ca k, mc, v, u, rfl, h1, h2, kq w rfl s.ok (Ext.refl _) v (h3 w)⟩
theorem has_rep : ∀ {kvs : List (List Key × D)} {vks : List (List Key × V)}, RepT G w kvs vks → ∀ ks, (valV vks ks).isSome = hasK ks kvs
  | _, _, .nil, ks => rfl
  | _, _, .cons (k := k0) r rs, ks => by
    have ih := has_rep rs ks
    unfold hasK valV at *
    rw [Option.isSome_map] at *
    rw [List.find?_cons, List.any_cons]
    by_cases q : k0 = ks
    · simp [q]
    · simp only [q, decide_false, Bool.false_or]
      exact ih
/-- k in d, k not in d: a tuple of ours, a dict of ours -/
theorem inD_key {neg : Bool} {k d : Nat} : ∀ σ H Q, tE G B Wx F gl (.inD neg k d) σ H Q → tVar k σ H fun y1 H1 => tVar d σ H1 fun x2 H2 => ∃ a o, x2 = .ref a ∧ DGet H2 a y1 o ∧ Q (.bl (if neg then !o.isSome else o.isSome)) H2 := fun σ H Q ⟨w, env, ω, e, s, q⟩ => by
    subst e
    rw [evE] at q
    cases e1 : env[k]? with
    | none => simp only [e1] at q; exact q.elim
    | some s1 => cases s1 with
      | key ks =>
        cases e2 : env[d]? with
        | none => simp only [e1, e2] at q; exact q.elim
        | some s2 => cases s2 with
          | own ob => cases ob with
            | dt kvs =>
              simp only [e1, e2] at q
              obtain ⟨a, j1, j2⟩ := s.eo.key k ks e1
              obtain ⟨m1, m2, m3, m4, m5⟩ := s.eo.own d _ e2
              cases m2 with | dt hH rH =>
              rename_i vks
              refine ⟨_, j1, _, m1, _, valV vks ks, rfl, .t hH j2, ?_⟩
              have e3 : (valV vks ks).isSome = hasK ks kvs := has_rep rH ks
              rw [e3]
              exact Post.now q s.ok _ (.bl _)
            | _ => simp only [e1, e2] at q; exact q.elim
          | _ => simp only [e1, e2] at q; exact q.elim
      | _ => simp only [e1] at q; exact q.elim
theorem c_inD {neg : Bool} {k d : Nat} (ok : XOk G C gl F n sc lsc X) (hk : C.N[k]? = some x) (hv : isVis sc x = true) (hd : C.N[d]? = some y) (hv2 : isVis sc y = true) : PC X (if neg then .NotIn else .In) (.Name x p) (.Name y p2) (tE G B Wx F gl (.inD neg k d)) := by
  obtain ⟨h1, h2, h3⟩ := vis_of hv ok.hsc
  obtain ⟨k1, k2, k3⟩ := vis_of hv2 ok.hsc
  have hu : X.A.units + 1 < cLine := Nat.lt_of_le_of_lt (by omega) ok.hu
  cases neg with
  | false => exact ⟨fun pins s σ H Q I q => (pc_din hu (pe_var (by rw [ok.N]; exact hk) h1 h2 h3) (pe_var (by rw [ok.N]; exact hd) k1 k2 k3)).run pins s σ H Q I (inD_key σ H Q q)⟩
  | true => exact ⟨fun pins s σ H Q I q => (pc_dnotin hu (pe_var (by rw [ok.N]; exact hk) h1 h2 h3) (pe_var (by rw [ok.N]; exact hd) k1 k2 k3)).run pins s σ H Q I (inD_key σ H Q q)⟩
theorem e_inD {neg : Bool} {k d : Nat} (ok : XOk G C gl F n sc lsc X) (hk : C.N[k]? = some x) (hv : isVis sc x = true) (hd : C.N[d]? = some y) (hv2 : isVis sc y = true) : PE X (.Compare (.Name x p) [if neg then .NotIn else .In] [.Name y p2] pos) (tE G B Wx F gl (.inD neg k d)) := pe_cmp (c_inD ok hk hv hd hv2) (by cases neg <;> rfl)
theorem t_inD {neg : Bool} {k d : Nat} (ok : XOk G C gl F n sc lsc X) (hk : C.N[k]? = some x) (hv : isVis sc x = true) (hd : C.N[d]? = some y) (hv2 : isVis sc y = true) : PT X (.Compare (.Name x p) [if neg then .NotIn else .In] [.Name y p2] pos) (tT G B Wx F gl (.inD neg k d)) := by
  refine PT.imp (pt_cmp (c_inD (B := B) (Wx := Wx) (F := F) (gl := gl) ok hk hv hd hv2) (by cases neg <;> rfl)) fun σ H Q ⟨w, env, ω, e, s, q⟩ => ⟨w, env, ω, e, s, ?_⟩
  cases hr : evE F gl env (.inD neg k d) w.h with
  | bad => rw [hr] at q; exact q.elim
  | exc x h => rw [hr] at q; exact q
  | ok d1 h1 =>
    have hb : ∃ b, d1 = .bl b := by
      rw [evE] at hr
      split at hr
      · cases hr; exact ⟨_, rfl⟩
      · cases hr
    obtain ⟨b, rfl⟩ := hb
    rw [hr] at q
    have q2 : Post G w (Res.ok b h1) (fun b w' => Q b w'.H) (XP G Wx σ) := q
    exact fun w' eh ok' e' v rv => by
      cases rv
      exact ⟨b, rfl, q2 w' eh ok' e'⟩
/-! ### len(o), o's own __len__ -/
def rLenO (X : Cx) (n : Nat) : List V → Hp → VK → Prop := fun vs H Q => ∃ a C dx fs sp, vs = [V.ref a] ∧ H a = some (.ins C dx fs) ∧ OwnOp X (L2.CX X.prog X.w) (2 * n) C "__len__" sp ∧ sp [.ref a] H (fun v H' => ∃ i : Int, v = .int i ∧ 0 ≤ i ∧ i < 2 ^ 63 ∧ Q (.int i) H') (fun _ _ _ => False)
theorem cr_lenO (hr : Room (2 * n + 1) X.A) : CallR X (.builtin "len") (rLenO X n) := by
  intro pins s σ H xs us Q I r h
  obtain ⟨ad, C, dx, fs, sp, rfl, ha, ⟨f, hs, hf, F⟩, hsp⟩ := h
  rw [Vals.ref1 r]
  obtain ⟨mA, J, _⟩ := ins_get I.hok ha
  obtain ⟨od, J, _⟩ := J.look
  obtain ⟨m, hF⟩ := I.fr
  refine PySem.W.len_K hF I.ok.mod.kin J hs hf ?_
  refine wpAny_mono (run_fnR1 (E := fun _ _ _ _ => False) (us := [.ref ad]) (vs := [.ref ad]) F hr (fun pins H s e s' I z => by
    obtain ⟨_, _, _, _, _, _, _, _, _, _, _, _, z⟩ := z
    exact z.elim) I (.cons rfl .nil) hsp) (fun r s' z => ?_) fun _ _ z => z
  obtain ⟨z1, H', I', rz, i, rfl, h0, h1, qb⟩ := z
  obtain ⟨t, rfl⟩ := rz
  exact ⟨⟨h0, h1⟩, .int i, H', I'.tok _, ⟨_, rfl⟩, qb⟩
theorem e_lenO (ok : XOk G C gl F n sc lsc X) (hc : C.calm = true) (hg : isGl sc "len" = true) (hp : plainB l = true) (h : PE X l (tE G B Wx F gl a)) : PE X (.Call (.Name "len" p) [l] [] pos) (tE G B Wx F gl (.lenO a)) := by
  obtain ⟨g1, g2⟩ := gl_of hg ok.hsc
  refine PE.imp (pe_callB (cr_lenO (n := n) (ok.room hc)) g1 (ok.blt _ (by simp [names0])) boot_len (pa_cons h pa_nil (star_one hp _ _)) (by decide) g2 (star_one hp _ _) rfl) fun σ H Q ⟨w, env, ω, e, s, q⟩ => ?_
  subst e
  rw [evE] at q
  refine ⟨w, env, ω, rfl, s, q.bind.mono (fun d w1 ok1 e1 q2 v rv => ?_) fun _ _ _ _ h => h⟩
  have vw := rv.see ok1
  cases ho : ownF F.tb .len (see w1.h d) with
  | none => simp only [ho] at q2; exact q2.elim
  | some f =>
    simp only [ho] at q2
    revert vw ho
    generalize see w1.h d = y
    intro vw ho
    cases vw with
    | ins hc' hH rf =>
      rename_i ad dx c fvs fs
      obtain ⟨hr, hlt, ow⟩ := ok.own (k := 0) ho
      refine ⟨ad, G.ca c, dx, fvs, _, rfl, hH, ow, spF_of ok1 (.cons rv .nil) ?_⟩
      cases hr2 : F.call f [d] w1.h with
      | bad => rw [hr2] at q2; exact q2.elim
      | exc z h2 => rw [hr2] at q2; exact q2.elim
      | ok d2 h2 =>
        rw [hr2] at q2
        have q3 : Post G w1 (natR d2 h2) (fun d w' => ∀ v, Rep G w' d v → Q v w'.H) (XP G Wx σ) := q2
        intro w2 eh ok2 e2 v2 rv2
        cases rv2 with
        | int i =>
          have q3 : Post G w1 (if (0 ≤ i && i < 2 ^ 40) = true then Res.ok (D.int i) h2 else .bad) (fun d w' => ∀ v, Rep G w' d v → Q v w'.H) (XP G Wx σ) := q3
          by_cases hb : (0 ≤ i && i < 2 ^ 40) = true
          · rw [if_pos hb] at q3
            rw [Bool.and_eq_true, decide_eq_true_eq, decide_eq_true_eq] at hb
            exact ⟨i, rfl, hb.1, by omega, q3 w2 eh ok2 e2 _ (.int _)⟩
          · rw [if_neg hb] at q3; exact q3.elim
        | _ => exact q3.elim
    | _ => cases ho
/-! ### sorted({elt for ..}), ints -/
theorem intsD_app : ∀ {a b : List D} {is : List Int}, intsD (a ++ b) = some is → ∃ i1 i2, intsD a = some i1 ∧ intsD b = some i2 ∧ is = i1 ++ i2
  | [], b, is, h => ⟨[], is, rfl, h, rfl⟩
  | .int i :: a, b, is, h => by
    have h' : (intsD (a ++ b)).map (i :: ·) = some is := h
    obtain ⟨js, hj, rfl⟩ := Option.map_eq_some_iff.mp h'
    obtain ⟨i1, i2, h1, h2, rfl⟩ := intsD_app hj
    exact ⟨i :: i1, i2, by show (intsD a).map (i :: ·) = _; rw [h1]; rfl, h2, rfl⟩
  | .non :: _, _, _, h => by cases h
  | .bl _ :: _, _, _, h => by cases h
  | .str _ :: _, _, _, h => by cases h
  | .tup _ :: _, _, _, h => by cases h
  | .lst _ :: _, _, _, h => by cases h
  | .dk _ :: _, _, _, h => by cases h
  | .dt _ :: _, _, _, h => by cases h
  | .ins _ _ :: _, _, _, h => by cases h
  | .cell _ :: _, _, _, h => by cases h
def setI (X : Cx) (D0 : Addr) (is : List Int) : HO := SetO X.w D0 (fun j => decide (j ∈ is)) (usort is).length
theorem setI_step (X : Cx) (D0 : Addr) (is : List Int) (k : Int) : SetO X.w D0 (fun j => decide (j ∈ is) || decide (j = k)) (if decide (k ∈ is) = true then (usort is).length else (usort is).length + 1) = setI X D0 (is ++ [k]) := by
  unfold setI
  rw [usort_step]
  have e1 : (fun j => decide (j ∈ is) || decide (j = k)) = (fun j => decide (j ∈ is ++ [k])) := by
    funext j
    simp [List.mem_append]
  rw [e1]
  simp
theorem usort_le (l : List Int) : (usort l).length ≤ l.length := by
  have key : ∀ n (l : List Int), l.length = n → (usort l).length ≤ l.length := by
    intro n
    induction n with
    | zero => intro l h; have e := List.length_eq_zero_iff.mp h; subst e; exact Nat.le_refl _
    | succ n ih =>
      intro l h
      have hne : l ≠ [] := fun e => by rw [e] at h; cases h
      have e := List.dropLast_concat_getLast hne
      rw [← e, usort_step]
      have hl : l.dropLast.length = n := by rw [List.length_dropLast, h]; rfl
      have := ih l.dropLast hl
      rw [List.length_append, List.length_singleton]
      split <;> omega
  exact key _ l rfl
theorem ssc_read {elt : CE} {own : List Nat} {t : Tg} {src : CI} {cond : CO} {Q : VK} (hX : X.K = G.K) (hin : tgIn t own = true) (s : Stt G B w env σ ω)
    (p : Post G w (evE F gl env (.ssc elt own t src cond) w.h) (fun d w' => ∀ v, Rep G w' d v → Q v w'.H) (XP G Wx σ)) :
    tGs (famI X.prog X.w X.K) (tI G B Wx F gl src) (gTg G.K t) (tCn G B NX F gl cond) (tE G B NX F gl elt) own σ w.H fun x H1 => rSortedSet X.w [x] H1 Q := by
  rw [evE] at p
  refine ⟨w, env, ω, rfl, s, ?_⟩
  cases hI : evI F gl env src w.h with
  | bad => rw [hI] at p; exact p.elim
  | exc x h => rw [hI] at p; exact p
  | ok ds h1 =>
    rw [hI] at p
    intro w1 eh1 ok1 e1 J hJ D0 hD
    subst eh1
    have p2 : Post G w (if ds.length ≤ 1000 then (lcGo (lcF F gl env own t elt cond) ds w1.h).bind setR else .bad) (fun d w' => ∀ v, Rep G w' d v → Q v w'.H) (XP G Wx σ) := p
    have s1 := s.ext ok1 e1
    by_cases hlim : ds.length ≤ 1000
    rotate_left
    · rw [if_neg hlim] at p2
      exact p2.elim
    rw [if_pos hlim] at p2
    obtain ⟨vs, Gd, rs, wk, hgd⟩ := hJ
    cases hgo : lcGo (lcF F gl env own t elt cond) ds w1.h with
    | bad => rw [hgo] at p2; exact p2.elim
    | exc x h => exact (lcGo_exc hgo).elim
    | ok rr hh =>
      rw [hgo] at p2
      have p3 : Post G w (setR rr hh) (fun d w' => ∀ v, Rep G w' d v → Q v w'.H) (XP G Wx σ) := p2
      have p3 : Post G w (match intsD rr with | some is => if (usort is).length < 64 then Res.ok (D.lst ((usort is).map .int)) hh else .bad | none => .bad) (fun d w' => ∀ v, Rep G w' d v → Q v w'.H) (XP G Wx σ) := p3
      cases hii : intsD rr with
      | none => rw [hii] at p3; exact p3.elim
      | some is =>
      rw [hii] at p3
      simp only at p3
      by_cases h64 : (usort is).length < 64
      rotate_left
      · rw [if_neg h64] at p3; exact p3.elim
      rw [if_pos h64] at p3
      have fin : ∀ w2 : W, w2.h = hh → WOk G w2 → Ext w w2 → w2.H D0 = some (setI X D0 is) → rSortedSet X.w [V.ref D0] w2.H Q := fun w2 eh ok2 e2 hs => by
        refine ⟨D0, _, _, rfl, hs, h64, fun ns pp h1 h2 h3 hp => ?_⟩
        have en : ns = usort is := usort_is h1 fun x => by rw [h2 x]; simp
        subst en
        obtain ⟨ok', e'⟩ := new_frozen (o := .lst ((usort is).map V.int)) ok2 hp
        exact p3 (w2.put pp (.lst ((usort is).map V.int))) eh ok' (e2.trans e') (.ref pp) (.lst (.inl ⟨.inr rfl, upd_same⟩) (reps_intL _))
      have hDB : B.H D0 = none := s1.be.dom _ hD
      have nown : ∀ (j : Nat) (ob : Ob), env[j]? = some (Sl.own ob) → ω j ≠ D0 := fun j ob hj q => by
        obtain ⟨_, h2, _⟩ := s1.eo.own j ob hj
        obtain ⟨u, hu, _⟩ := h2.soft
        rw [q, hD] at hu
        cases hu
      have e0 : (famI X.prog X.w X.K).O D0 (famI X.prog X.w X.K).e0 = setI X D0 [] := by
        unfold setI
        show SetO X.w D0 (fun _ => false) 0 = _
        congr 1
      refine ⟨fun i m H => m = vs.length - i ∧ i ≤ vs.length ∧ ∃ (w2 : W) (ii : List Int) (dacc rest : List D), w2.H = H ∧ Stt G B w2 env σ ω ∧ Ext w1 w2 ∧ w2.H D0 = some (setI X D0 ii) ∧ ¬ w2.Z D0 ∧ ¬ w2.live D0 ∧ intsD dacc = some ii ∧ lcGo (lcF F gl env own t elt cond) (ds.drop i) w2.h = .ok rest hh ∧ dacc ++ rest = rr ∧ ii.length ≤ i, ⟨_, rfl, Nat.zero_le _, ?_⟩, ?_⟩
      · obtain ⟨k1, k2, k3, k4⟩ := W.new_ok (o := setI X D0 []) ok1 hD
        rw [e0]
        exact ⟨w1.mut D0 (setI X D0 []), [], [], rr, rfl, s1.ext k1 k2, k2, upd_same, k3, k4, rfl, by rw [List.drop_zero]; exact hgo, List.nil_append _, Nat.zero_le _⟩
      rintro i m H ⟨rfl, hi, w2, ii, dacc, rest, rfl, s2, e2, hacc, nz, nl, hdi, hgo2, happ, hlen⟩
      have hG := hgd w2 (e2.le ok1) s2.be
      by_cases hlt : i < vs.length
      rotate_left
      · have e : i = vs.length := by omega
        subst e
        rw [← rs.length, List.drop_length] at hgo2
        have hgo2 : Res.ok ([] : List D) w2.h = .ok rest hh := hgo2
        cases hgo2
        rw [List.append_nil] at happ
        subst happ
        rw [hdi] at hii
        cases hii
        exact .inl ⟨wk.stops _ hG, fin w2 rfl s2.ok (e1.trans e2) hacc⟩
      refine .inr ⟨wk.goes i _ hlt hG, fun H' => ∃ (w2 : W) (ii : List Int) (dacc rest : List D), w2.H = H' ∧ Stt G B w2 env σ ω ∧ Ext w1 w2 ∧ w2.H D0 = some (setI X D0 ii) ∧ ¬ w2.Z D0 ∧ ¬ w2.live D0 ∧ intsD dacc = some ii ∧ lcGo (lcF F gl env own t elt cond) (ds.drop (i + 1)) w2.h = .ok rest hh ∧ dacc ++ rest = rr ∧ ii.length ≤ i + 1, fun H' h => ⟨vs.length - (i + 1), by omega, rfl, hlt, h⟩, fun x H' y => ?_⟩
      obtain ⟨rfl, hx⟩ := wk.yields i _ x H' hlt hG y
      have hids : i < ds.length := by rw [rs.length]; exact hlt
      have hdrop : ds.drop i = ds[i] :: ds.drop (i + 1) := List.drop_eq_getElem_cons hids
      rw [hdrop] at hgo2
      obtain ⟨v', hv', rv⟩ := rs.get (List.getElem?_eq_getElem hids)
      rw [hx] at hv'
      cases hv'
      have rv2 := rv.le (e2.le ok1)
      obtain ⟨o, h3, r4, hfd, hgo4, hrest⟩ := lcGo_cons hgo2
      subst hrest
      unfold lcF at hfd
      cases hbind : bindT t ds[i] (wipeE env own) with
      | none => rw [hbind] at hfd; cases hfd
      | some env' =>
      rw [hbind] at hfd
      have hfd : ((evC F gl env' cond w2.h).bind fun b h => if b then (evE F gl env' elt h).bind fun x h => .ok (some x) h else .ok none h) = .ok o h3 := hfd
      refine bind_ok (wipe_ok s2.eo own) rv2 hbind fun σ2 eo2 hσ2 => ⟨?_, ?_⟩
      · cases t with
        | name i =>
          rw [hσ2, wipe_set _ (by simpa [tgIn] using hin), wipe_idem]
        | tup is =>
          obtain ⟨vs2, rfl⟩ := hσ2
          rw [wipe_sets (fun j hj => by simpa using List.all_eq_true.mp (show is.all own.contains = true from hin) j hj), wipe_idem]
      cases hcn : evC F gl env' cond w2.h with
      | bad => rw [hcn] at hfd; cases hfd
      | exc x h => rw [hcn] at hfd; cases hfd
      | ok bb hb2 =>
        rw [hcn] at hfd
        refine ⟨w2, env', ω, rfl, ⟨s2.ok, s2.be, eo2⟩, ?_⟩
        rw [hcn]
        intro w3 eh3 ok3 e3
        have hD3 : w3.H D0 = some (setI X D0 ii) := e3.keep _ _ hacc nl
        have nl3 : ¬ w3.live D0 := fun q => by
          rcases e3.live_back q with q | q
          · exact nl q
          · rw [hacc] at q; cases q
        have nz3 : ¬ w3.Z D0 := fun q => by
          rcases e3.zn _ q with q | q | q
          · exact nz q
          · rw [hacc] at q; cases q
          · exact nl q
        have s3 := s2.ext ok3 e3
        cases bb with
        | false =>
          have hfd' : Res.ok (none : Option D) hb2 = .ok o h3 := hfd
          cases hfd'
          have happ : dacc ++ r4 = rr := happ
          exact iteF ⟨w3, ii, dacc, r4, rfl, s3, e2.trans e3, hD3, nz3, nl3, hdi, by rw [eh3]; exact hgo4, happ, Nat.le_succ_of_le hlen⟩
        | true =>
          refine iteT ?_
          have hfd' : (evE F gl env' elt hb2).bind (fun x h => Res.ok (some x) h) = .ok o h3 := hfd
          cases hev : evE F gl env' elt hb2 with
          | bad => rw [hev] at hfd'; cases hfd'
          | exc x h => rw [hev] at hfd'; cases hfd'
          | ok dv h5 =>
            rw [hev] at hfd'
            cases hfd'
            have happ : dacc ++ dv :: r4 = rr := happ
            obtain ⟨i1, i2, g1, g2, g3⟩ := intsD_app (a := dacc) (b := dv :: r4) (by rw [happ]; exact hii)
            obtain ⟨i3, i4, g4, g5, g6⟩ := intsD_app (a := [dv]) (b := r4) g2
            refine ⟨w3, env', ω, rfl, ⟨ok3, s3.be, eo2.ext s2.ok e3⟩, ?_⟩
            rw [eh3, hev]
            intro w4 eh4 ok4 e4 v4 r4'
            have hD4 : w4.H D0 = some (setI X D0 ii) := e4.keep _ _ hD3 nl3
            have nl4 : ¬ w4.live D0 := fun q => by
              rcases e4.live_back q with q | q
              · exact nl3 q
              · rw [hD3] at q; cases q
            have nz4 : ¬ w4.Z D0 := fun q => by
              rcases e4.zn _ q with q | q | q
              · exact nz3 q
              · rw [hD3] at q; cases q
              · exact nl3 q
            have s4 := s3.ext ok4 e4
            have hk : ∃ k, dv = .int k := by
              cases dv <;> first | exact ⟨_, rfl⟩ | cases g4
            obtain ⟨k, rfl⟩ := hk
            cases r4'
            refine ⟨(fun j => decide (j ∈ ii), (usort ii).length), k, hD4, ⟨rfl, ?_⟩, fun a' ha' => ?_⟩
            · have := usort_le ii
              exact Nat.lt_of_le_of_lt (show (usort ii).length + 1 ≤ 1001 by omega) (by decide)
            · have ea : a' = (fun j => decide (j ∈ ii) || decide (j = k), if decide (k ∈ ii) = true then (usort ii).length else (usort ii).length + 1) := ha'
              subst ea
              have es : (famI X.prog X.w X.K).O D0 (fun j => decide (j ∈ ii) || decide (j = k), if decide (k ∈ ii) = true then (usort ii).length else (usort ii).length + 1) = setI X D0 (ii ++ [k]) := setI_step X D0 ii k
              rw [es]
              refine ⟨w4.mut D0 (setI X D0 (ii ++ [k])), ii ++ [k], dacc ++ [.int k], r4, rfl, s4.mut nz4 nl4 hD4 trivial hDB nown, W.mut_ext ((e2.trans e3).trans e4) hD, upd_same, nz4, nl4, ?_, by rw [show (w4.mut D0 (setI X D0 (ii ++ [k]))).h = w4.h from rfl, eh4]; exact hgo4, by rw [List.append_assoc]; exact happ, by rw [List.length_append, List.length_singleton]; omega⟩
              have key : ∀ {a : List D} {js : List Int}, intsD a = some js → intsD (a ++ [.int k]) = some (js ++ [k]) := by
                intro a
                induction a with
                | nil => intro js h; cases h; rfl
                | cons x a ih =>
                  intro js h
                  cases x <;> first | (cases h; done) | skip
                  rename_i z
                  have h' : (intsD a).map (z :: ·) = some js := h
                  obtain ⟨js', hj, rfl⟩ := Option.map_eq_some_iff.mp h'
                  show (intsD (a ++ [.int k])).map (z :: ·) = _
                  rw [ih hj]
                  rfl
              exact key hdi
theorem e_ssc {el it tg : Expr} {ifs : List Expr} {scope : Scope} {elt : CE} {own : List Nat} {t : Tg} {src : CI} {cond : CO} (ok : XOk G C gl F n sc lsc X) (hc : C.calm = true) (hgs : isGl sc "sorted" = true)
    (hi : PI X tg it (tI G B Wx F gl src)) (hb : BlkOk X.N X.env.scope scope (ownOf C.N own)) (hin : tgIn t own = true)
    (hg : ∀ (s : Shared) (H : Hp) (Ca : Addr) (cl : List (Str × Addr)) (fp : List Addr), PG (X.blk s H scope (compEnvC scope cl Ca X.env) fp) tg (gTg G.K t))
    (ht : ∀ (s : Shared) (H : Hp) (Ca : Addr) (cl : List (Str × Addr)) (fp : List Addr), PTs (X.blk s H scope (compEnvC scope cl Ca X.env) fp) ifs (tCn G B NX F gl cond))
    (he : ∀ (s : Shared) (H : Hp) (Ca : Addr) (cl : List (Str × Addr)) (fp : List Addr), PE (X.blk s H scope (compEnvC scope cl Ca X.env) fp) el (tE G B NX F gl elt))
    (hs : plainB it = true) : PE X (.Call (.Name "sorted" p) [.SetComp el [⟨tg, it, ifs, 0⟩] scope p2] [] pos) (tE G B Wx F gl (.ssc elt own t src cond)) := by
  obtain ⟨g1, g2⟩ := gl_of hgs ok.hsc
  refine PE.imp (pe_callB (cr_sortedSet (ok.calm hc)) g1 (ok.blt _ (by simp [names0])) boot_sorted (pa_cons (pe_gs (famI X.prog X.w X.K) (ok.calm hc) (by rw [ok.N]; exact ok.nd) hi hb hg ht he (fold_plain hs _)) pa_nil rfl) (by decide) g2 rfl rfl) fun σ H Q ⟨w, env, ω, e, s, q⟩ => ?_
  subst e
  have z := ssc_read (X := X) ok.K hin s q
  rw [own_map]
  exact z
/-! ### an own __iter__ that answers a list's iterator -/
theorem i_own (ok : XOk G C gl F n sc lsc X) (go : G.Ok) (hc : C.calm = true) (h : PE X l (tE G B Wx F gl a)) : PI X tg l (tI G B Wx F gl (.ownI a)) := by
  refine ⟨fun pins s σ H R I q => ?_⟩
  obtain ⟨w, env, ω, e, st, q⟩ := q
  subst e
  rw [evI] at q
  refine thn (h.run pins s σ w.H (fun v H1 => ∃ w1 : W, w1.H = H1 ∧ WOk G w1 ∧ ∃ ad dx c fvs l1 zs f, v = V.ref ad ∧ w1.H ad = some (.ins (G.ca c) dx fvs) ∧ F.tb.itf c = some f ∧ fvs.lookup (G.sy f) = some (.ref l1) ∧ FzL G.K w1 l1 zs ∧ R (Itl X.K l1) H1) I ⟨w, env, ω, rfl, st, q.bind.mono (fun d w1 ok1 e1 q2 v rv => ?_) fun _ _ _ _ h => h⟩) fun v s1 ⟨x, H1, I1, r1, w1, e1, ok1, ad, dx, c, fvs, l1, zs, f, ex, ha, hf, hl, hz, hR⟩ => ?_
  · obtain ⟨ds, hd, k⟩ := q2.lifted
    have k := k w1 rfl ok1 (Ext.refl _)
    have vw := rv.see ok1
    refine ⟨w1, rfl, ok1, ?_⟩
    revert vw hd
    generalize see w1.h d = y
    intro hd vw
    cases vw with
    | ins hc' hH rf =>
      rename_i ad dx c fvs fs
      have hd' : (match F.tb.itf c with | some f => (match fs.lookup f with | some (.lst ds) => some ds | _ => none) | none => none) = some ds := hd
      cases hi : F.tb.itf c with
      | none => rw [hi] at hd'; cases hd'
      | some f =>
        rw [hi] at hd'
        simp only at hd'
        split at hd'
        rotate_left
        · cases hd'
        rename_i ds' hlk
        cases hd'
        obtain ⟨v3, hv3, r3⟩ := (RepF.look go rf).1 _ hlk
        cases r3 with
        | lst hz rz => exact ⟨ad, dx, c, fvs, _, _, f, rfl, hH, hi, hv3, hz, k _ ⟨_, _, rz, walk_list, fun w' le _ => by rw [ok.K]; exact (le.fzl hz).sq⟩⟩
    | _ => cases hd
  · subst e1 ex
    cases r1
    obtain ⟨_, hlt, fa, h1, h2, h3, hF⟩ := ok.itf c f hf
    rw [← ok.K] at h1 h2
    obtain ⟨mA, J, _⟩ := ins_get I1.hok ha
    obtain ⟨od, J, _⟩ := J.look
    obtain ⟨m, hFr⟩ := I1.fr
    refine PySem.W.owit_iter hFr I1.ok.mod.kin J h1 h2 ?_
    refine wpAny_mono (Q := EP X pins σ (fun v H' => ∃ it, v = .ref it ∧ w1.H it = none ∧ X.s_0.heap.objs.size ≤ it ∧ H' = upd w1.H it (ItO l1 it 0))) (wpAny_call (codeAny_mono (hF X.A X.stack s1 w1.H ad dx l1 fvs zs (fun v H' => ∃ it, v = .ref it ∧ w1.H it = none ∧ X.s_0.heap.objs.size ≤ it ∧ H' = upd w1.H it (ItO l1 it 0)) (fun _ _ _ => False) ((ok.room hc).mono (by omega)) I1.env0 ha hl (by rw [ok.K]; exact hz.sq) fun it hn hs => ⟨it, rfl, hn, Nat.le_trans I1.sz hs, rfl⟩) fun r s' hq => ?_)) (fun r s' z => ?_) fun _ _ z => z
    · cases r with
      | error e =>
        obtain ⟨_, _, _, _, _, _, _, _, _, _, _, _, z⟩ := hq
        exact z.elim
      | ok fl =>
        cases fl with
        | ret u => exact I1.after hq
        | next => exact False.elim hq
        | brk => exact False.elim hq
        | cont => exact False.elim hq
    · obtain ⟨v, H', I', rz, it, rfl, hn, hs, rfl⟩ := z
      cases rz
      have hit := itO_get I' (upd_same)
      have hT : s'.TypeIs (.ref it) "list_iterator" := ⟨_, hit, rfl⟩
      refine wpAny_specialOf hT slot_listiter_next.lookup ?_
      have I2 := ItX.inv_drop I' (φ := _) upd_same
      have fp := ItX.inv_fp I' (u := _) upd_same hs
      rw [ItX.dropH_upd hn] at I2 fp
      exact ⟨it, [it], _, _, w1.H, rfl, I2, turn_list l1 it, ⟨_, hit, rfl, rfl⟩, fun b hb => by
        rw [List.mem_singleton.mp hb]
        exact fp, hR⟩
end
end Rf
set_option Elab.async false
set_option linter.all false
set_option maxRecDepth 100000
set_option maxHeartbeats 8000000
/-! G13: all expressions -/
namespace Rf
open PySem L2 PySem.Spec PyProof.Rows
theorem blk_ok {N : List Str} {sc scope : Scope} {own : List Nat} (h : blkB N sc scope own = true) : BlkOk N sc scope (ownOf N own) := by
  unfold blkB at h
  simp only [Bool.and_eq_true] at h
  obtain ⟨⟨⟨⟨h1, h2⟩, h3⟩, h4⟩, h5⟩ := h
  refine ⟨by simpa using h1, fun y hy => by simpa using List.all_eq_true.mp h2 y hy, fun p hp => ?_, fun y hy hf => ?_, fun y hy hf => ?_⟩
  · unfold ownOf at hp
    obtain ⟨i, hi, rfl⟩ := List.mem_map.mp hp
    have q := List.all_eq_true.mp h3 i hi
    have hl : i < N.length := by simpa using q
    show N[i]? = some (N.getD i "")
    rw [List.getD_eq_getElem?_getD, List.getElem?_eq_getElem hl]
    rfl
  · have q := List.all_eq_true.mp h4 y hy
    rw [if_pos (by rw [hf]; rfl)] at q
    split at q
    · rename_i e; exact .inl e
    · rename_i e; exact .inr e
    · cases q
  · have q := List.all_eq_true.mp h5 y hy
    rw [if_pos (by rcases hf with e | e <;> rw [e] <;> rfl), Bool.or_eq_true] at q
    rcases q with q | q
    · left
      unfold ownOf
      rw [List.map_map]
      have q' : y.1 ∈ own.map (fun i => N.getD i "") := by simpa using q
      exact q'
    · right
      simpa using q
section
variable {G : Gm} {B : Bs} {w w1 w' : W} {Wx : WX} {F : FTab} {gl : Nat → Option D} {C : Ck} {n : Nat} {sc lsc : Scope} {X : Cx}
theorem XOk.blk {scope : Scope} {own : List Nat} (ok : XOk G C gl F n sc lsc X) (hb : blkB C.N sc scope own = true) (s : Shared) (H : Hp) (Ca : Addr) (cl : List (Str × Addr)) (fp : List Addr) :
    XOk G C gl F n (relS scope sc) scope (X.blk s H scope (compEnvC scope cl Ca X.env) fp) where
  K := ok.K
  N := ok.N
  nd := ok.nd
  hsc := by
    have e := ok.hsc
    subst e
    rfl
  calm := ok.calm
  hu := ok.hu
  room := ok.room
  fnl := fun x hx => by
    have e := ok.hsc
    subst e
    unfold isLoc at hx
    split at hx
    · rename_i q
      have q2 : (relS scope X.env.scope).names.lookup x = some .local := lookup_relS_keep (by decide) q
      exact ⟨.inl q2, .inr q2⟩
    · rename_i q
      have q2 : (relS scope X.env.scope).names.lookup x = some .cell := lookup_relS_keep (by decide) q
      refine ⟨.inr q2, .inl ?_⟩
      show (scope.names.lookup x == some NameKind.cell) = true
      rw [q]
      rfl
    · cases hx
  glob := ok.glob
  blt := ok.blt
  po := PassesOwn.never
  cls := ok.cls
  fn := ok.fn
  exc := ok.exc
  rai := ok.rai
  exm := ok.exm
  xi := ok.xi
  xf := ok.xf
  kf := ok.kf
  pt := ok.pt
  fnb := ok.fnb
  mkb := ok.mkb
  ot := ok.ot
  cv := ok.cv
  itf := ok.itf
  sy := ok.sy
  ft := ok.ft
  mt := ok.mt
  mkr := ok.mkr
theorem TkB.none {Y : Cx} (tk : TkB X B Wx) (hc : X.calm = true) : HandB Y B := by
  rcases tk.hd with h | ⟨X0, oe, pn, rfl, _⟩
  · exact .inl h
  · cases hc
theorem TkB.blk {Y : Cx} (tk : TkB X B Wx) (hc : X.calm = true) : TkB Y B NX := ⟨takes0, by
  rcases tk.hd with h | ⟨X0, oe, pn, rfl, _⟩
  · exact .inl h
  · cases hc⟩
theorem bopOk {op : BOp} {o : Operator} (h : ckBop op o = true) : o = bop op := by
  cases op <;> cases o <;> first | rfl | cases h
theorem copOk {op : COp} {o : CmpOp} (h : ckCop op o = true) : o = cop op := by
  cases op <;> cases o <;> first | rfl | cases h
theorem b_of {e : Expr} {c : CE} (ok : XOk G C gl F n sc lsc X) (h : ckE C sc c e = true) (he : PE X e (tE G B Wx F gl c)) : PE X e (tBa G B Wx F gl c) := by
  cases c with
  | var i =>
    unfold ckE at h
    split at h
    · rw [Bool.and_eq_true, beq_iff_eq] at h
      exact b_var ok h.1 h.2
    · cases h
  | _ => exact b_other (fun _ q => by cases q) he
theorem o_of {e : Expr} {c : CE} (ok : XOk G C gl F n sc lsc X) (h : ckE C sc c e = true) (he : PE X e (tE G B Wx F gl c)) : PE X e (tBo G B Wx F gl c) := by
  cases c with
  | var i =>
    unfold ckE at h
    split at h
    · rw [Bool.and_eq_true, beq_iff_eq] at h
      exact o_var ok h.1 h.2
    · cases h
  | _ => exact o_other (fun _ q => by cases q) he
theorem w_of {e : Expr} {c : CE} (ok : XOk G C gl F n sc lsc X) (h : ckE C sc c e = true) (he : PE X e (tE G B Wx F gl c)) : PE X e (tWa G B Wx F gl c) := by
  cases c with
  | var i =>
    unfold ckE at h
    split at h
    · rw [Bool.and_eq_true, beq_iff_eq] at h
      exact w_var ok h.1 h.2
    · cases h
  | _ => exact w_other (fun _ q => by cases q) he
theorem l_of {e : Expr} {c : CE} (ok : XOk G C gl F n sc lsc X) (h : ckE C sc c e = true) (he : PE X e (tE G B Wx F gl c)) : PE X e (fun σ H Q => ∃ w env ω, w.H = H ∧ Stt G B w env σ ω ∧ Post G w (lent env c w.h (evE F gl env c w.h)) (fun d w' => ∀ v, ARep G w' d v → Q v w'.H) (XP G Wx σ)) := by
  cases c with
  | var i =>
    unfold ckE at h
    split at h
    · rw [Bool.and_eq_true, beq_iff_eq] at h
      exact l_var ok h.1 h.2
    · cases h
  | _ => exact l_other (fun _ q => by cases q) he
mutual
theorem okE (go : G.Ok) : ∀ (c : CE) {sc lsc : Scope} {X : Cx} {Wx : WX} {e : Expr}, XOk G C gl F n sc lsc X → TkB X B Wx → ckE C sc c e = true → PE X e (tE G B Wx F gl c)
  | .cst k, sc, lsc, X, Wx, e, ok, tk, h => by
    unfold ckE at h
    split at h
    rotate_left
    · cases h
    split at h
    · exact e_none
    · rw [beq_iff_eq] at h; subst h; exact e_bl
    · rw [beq_iff_eq] at h; subst h; exact e_int
    · rw [Bool.and_eq_true, beq_iff_eq] at h
      obtain ⟨h1, h2⟩ := h
      subst h1
      exact e_str (by simpa using h2)
    · cases h
  | .var i, sc, lsc, X, Wx, e, ok, tk, h => by
    unfold ckE at h
    split at h
    rotate_left
    · cases h
    rw [Bool.and_eq_true, beq_iff_eq] at h
    exact e_var ok h.1 h.2
  | .glob g, sc, lsc, X, Wx, e, ok, tk, h => by
    unfold ckE at h
    split at h
    rotate_left
    · cases h
    rw [Bool.and_eq_true, beq_iff_eq] at h
    exact e_glob ok h.1 h.2
  | .bin op a b, sc, lsc, X, Wx, e, ok, tk, h => by
    unfold ckE at h
    split at h
    rotate_left
    · cases h
    simp only [Bool.and_eq_true] at h
    rw [bopOk h.1.1]
    exact e_bin ok go tk.tk (o_of ok h.1.2 (okE go a ok tk h.1.2)) (o_of ok h.2 (okE go b ok tk h.2))
  | .neg a, sc, lsc, X, Wx, e, ok, tk, h => by
    unfold ckE at h
    split at h
    rotate_left
    · cases h
    exact e_neg (okE go a ok tk h)
  | .cmp op a b, sc, lsc, X, Wx, e, ok, tk, h => by
    unfold ckE at h
    split at h
    rotate_left
    · cases h
    simp only [Bool.and_eq_true] at h
    rw [copOk h.1.1.1]
    exact e_cmp ok go tk.tk (o_of ok h.1.1.2 (okE go a ok tk h.1.1.2)) (o_of ok h.1.2 (okE go b ok tk h.1.2)) h.2
  | .chain op op' a b c, sc, lsc, X, Wx, e, ok, tk, h => by
    unfold ckE at h
    split at h
    rotate_left
    · cases h
    simp only [Bool.and_eq_true] at h
    obtain ⟨⟨⟨⟨⟨⟨h1, h2⟩, h3⟩, h4⟩, h5⟩, h6⟩, h7⟩ := h
    rw [copOk h1, copOk h2]
    exact e_chain ok.K ok.hu (okE go a ok tk h3) (okE go b ok tk h4) (okE go c ok tk h5) h7
  | .and as, sc, lsc, X, Wx, e, ok, tk, h => by
    unfold ckE at h
    split at h
    rotate_left
    · cases h
    refine PE.imp (okAnd go as ok tk h) fun σ H Q ⟨w, env, ω, e, s, p⟩ => ⟨w, env, ω, e, s, ?_⟩
    rw [evE] at p
    exact p
  | .or as, sc, lsc, X, Wx, e, ok, tk, h => by
    unfold ckE at h
    split at h
    rotate_left
    · cases h
    refine PE.imp (okOr go as ok tk h) fun σ H Q ⟨w, env, ω, e, s, p⟩ => ⟨w, env, ω, e, s, ?_⟩
    rw [evE] at p
    exact p
  | .not a, sc, lsc, X, Wx, e, ok, tk, h => by
    unfold ckE at h
    split at h
    rotate_left
    · cases h
    exact e_not ok.K (okE go a ok tk h)
  | .ife t a b, sc, lsc, X, Wx, e, ok, tk, h => by
    unfold ckE at h
    split at h
    rotate_left
    · cases h
    simp only [Bool.and_eq_true] at h
    exact e_ife (okT go t ok tk h.1.1.1 h.2) (okE go a ok tk h.1.1.2) (okE go b ok tk h.1.2)
  | .tup as, sc, lsc, X, Wx, e, ok, tk, h => by
    unfold ckE at h
    split at h
    rotate_left
    · cases h
    exact e_tup (okEs go as ok tk h)
  | .lst as, sc, lsc, X, Wx, e, ok, tk, h => by
    unfold ckE at h
    split at h
    rotate_left
    · cases h
    exact e_lst (okEs go as ok tk h)
  | .sub a i, sc, lsc, X, Wx, e, ok, tk, h => by
    unfold ckE at h
    split at h
    rotate_left
    · cases h
    simp only [Bool.and_eq_true] at h
    exact e_sub ok.K (b_of ok h.1.1 (okE go a ok tk h.1.1)) (okE go i ok tk h.1.2) h.2
  | .slice a lo hi, sc, lsc, X, Wx, e, ok, tk, h => by
    unfold ckE at h
    split at h
    rotate_left
    · cases h
    simp only [Bool.and_eq_true] at h
    exact e_slice ok.K (b_of ok h.1.1 (okE go a ok tk h.1.1)) (okO go lo ok tk h.1.2) (okO go hi ok tk h.2)
  | .call f as, sc, lsc, X, Wx, e, ok, tk, h => by
    unfold ckE at h
    split at h
    rotate_left
    · cases h
    rename_i x p es pos
    simp only [Bool.and_eq_true, beq_iff_eq, Bool.not_eq_true'] at h
    obtain ⟨⟨⟨⟨h1, h2⟩, h3⟩, h4⟩, h5⟩ := h
    cases es with
    | nil =>
      cases as with
      | nil => exact e_call0 ok tk.tk h1 h2 h3
      | cons a as => unfold ckEs at h4; cases h4
      | star a as => unfold ckEs at h4; cases h4
    | cons e es => exact e_call ok tk.tk h1 h2 h3 h5 (okEs go as ok tk h4)
  | .blt b as, sc, lsc, X, Wx, e, ok, tk, h => by
    unfold ckE at h
    split at h
    rotate_left
    · cases h
    rename_i x p es pos
    simp only [Bool.and_eq_true, beq_iff_eq, Bool.not_eq_true'] at h
    obtain ⟨⟨⟨⟨⟨h1, h2⟩, h3⟩, h4⟩, h5⟩, h6⟩ := h
    subst h2
    cases es with
    | nil => cases h6
    | cons e es => exact e_blt ok h1 h3 h5 (okBs go as ok tk h4)
  | .bm m o as, sc, lsc, X, Wx, e, ok, tk, h => by
    unfold ckE at h
    split at h
    rotate_left
    · cases h
    simp only [Bool.and_eq_true, beq_iff_eq] at h
    obtain ⟨⟨⟨⟨⟨h1, h2⟩, h3⟩, h4⟩, h5⟩, h6⟩ := h
    subst h1
    refine e_bm ok h2 (by rw [h3]; exact beq_self_eq_true _) (b_of ok h4 (okE go o ok tk h4)) ?_ (okBs go as ok tk h5)
    split at h6
    · cases as with
      | nil => exact .inl ⟨rfl, rfl⟩
      | cons a as => unfold ckEs at h5; cases h5
      | star a as => unfold ckEs at h5; cases h5
    · exact .inr ⟨_, rfl, h6⟩
    · cases h6
  | .meth o m as, sc, lsc, X, Wx, e, ok, tk, h => by
    unfold ckE at h
    split at h
    rotate_left
    · cases h
    rename_i l x p2 es p
    simp only [Bool.and_eq_true, beq_iff_eq, Bool.not_eq_true', decide_eq_true_eq] at h
    obtain ⟨⟨⟨⟨⟨⟨⟨h1, h2⟩, h3⟩, h4⟩, h5⟩, h6⟩, h7⟩, h8⟩ := h
    exact e_meth ok go tk.tk h1 h2 h3 (by rw [h4]; exact beq_self_eq_true _) (okE go o ok tk h5) h7 h8 (okEs go as ok tk h6) (fun e => by subst e; cases as <;> first | rfl | (unfold ckEs at h6; cases h6))
  | .attr o f, sc, lsc, X, Wx, e, ok, tk, h => by
    unfold ckE at h
    split at h
    rotate_left
    · cases h
    simp only [Bool.and_eq_true, beq_iff_eq] at h
    obtain ⟨⟨h1, h2⟩, h3⟩ := h
    exact e_attr ok go h1 h2 (b_of ok h3 (okE go o ok tk h3))
  | .make c as, sc, lsc, X, Wx, e, ok, tk, h => by
    unfold ckE at h
    split at h
    rotate_left
    · cases h
    simp only [Bool.and_eq_true, beq_iff_eq, Bool.not_eq_true'] at h
    obtain ⟨⟨⟨⟨⟨h1, h0⟩, h2⟩, h3⟩, h4⟩, h5⟩ := h
    exact e_make ok tk.tk h1 (by simpa using h0) h2 h3 h5 (okEs go as ok tk h4) (fun e => by subst e; cases as <;> first | rfl | (unfold ckEs at h4; cases h4))
  | .isi a t, sc, lsc, X, Wx, e, ok, tk, h => by
    unfold ckE at h
    split at h
    rotate_left
    · cases h
    simp only [Bool.and_eq_true, beq_iff_eq] at h
    obtain ⟨⟨⟨⟨⟨h1, h2⟩, h3⟩, h4⟩, h5⟩, h6⟩ := h
    subst h1
    exact e_isi ok go h2 h6 h4 h5 (okE go a ok tk h3)
  | .lc elt own t src cond, sc, lsc, X, Wx, e, ok, tk, h => by
    unfold ckE at h
    split at h
    rotate_left
    · cases h
    simp only [Bool.and_eq_true] at h
    obtain ⟨⟨⟨⟨⟨⟨⟨h1, h2⟩, h3⟩, h4⟩, h5⟩, h6⟩, h7⟩, h8⟩ := h
    exact e_lc ok h1 (okI go src ok tk h2) (by rw [ok.N, ok.hsc]; exact blk_ok h4) h5
      (fun s H Ca cl fp => g_tg (ok.blk h4 s H Ca cl fp) h6)
      (fun s H Ca cl fp => okC go cond (ok.blk h4 s H Ca cl fp) (tk.blk (ok.calm h1)) h8)
      (fun s H Ca cl fp => okE go elt (ok.blk h4 s H Ca cl fp) (tk.blk (ok.calm h1)) h7) h3
  | .newc as, sc, lsc, X, Wx, e, ok, tk, h => by
    unfold ckE at h
    split at h
    rotate_left
    · cases h
    exact e_newc (okEs go as ok tk h)
  | .callb f as, sc, lsc, X, Wx, e, ok, tk, h => by
    unfold ckE at h
    split at h
    rotate_left
    · cases h
    rename_i x p es pos
    simp only [Bool.and_eq_true, beq_iff_eq, Bool.not_eq_true'] at h
    obtain ⟨⟨⟨⟨h1, h2⟩, h3⟩, h4⟩, h5⟩ := h
    cases es with
    | nil =>
      cases as with
      | nil => exact e_callb0 ok tk.tk h1 h2 h3
      | cons a as => unfold ckEs at h4; cases h4
      | star a as => unfold ckEs at h4; cases h4
    | cons e es => exact e_callb ok tk.tk h1 h2 h3 h5 (okAs go as ok tk h4)
  | .makeb c as, sc, lsc, X, Wx, e, ok, tk, h => by
    unfold ckE at h
    split at h
    rotate_left
    · cases h
    simp only [Bool.and_eq_true, beq_iff_eq, Bool.not_eq_true'] at h
    obtain ⟨⟨⟨⟨⟨h1, h0⟩, h2⟩, h3⟩, h4⟩, h5⟩ := h
    exact e_makeb ok tk.tk h1 (by simpa using h0) h2 h3 h5 (okAs go as ok tk h4) (fun e => by subst e; cases as <;> first | rfl | (unfold ckEs at h4; cases h4))
  | .makek k as ks, sc, lsc, X, Wx, e, ok, tk, h => by
    unfold ckE at h
    split at h
    rotate_left
    · cases h
    rw [Bool.and_eq_true] at h
    obtain ⟨h1, h⟩ := h
    split at h
    rotate_left
    · cases h
    rename_i hT
    simp only [Bool.and_eq_true, beq_iff_eq, Bool.not_eq_true', decide_eq_true_eq] at h
    obtain ⟨⟨⟨⟨⟨⟨h2, h3⟩, h4⟩, h5⟩, h0⟩, h6⟩, h7⟩ := h
    exact e_makek ok tk.tk h1 hT h2 h3 h5 (okAs go as ok tk h4) (fun e => by subst e; cases h0) h6 (okKs go ks ok tk h7)
  | .prop o m, sc, lsc, X, Wx, e, ok, tk, h => by
    unfold ckE at h
    split at h
    rotate_left
    · cases h
    simp only [Bool.and_eq_true, beq_iff_eq] at h
    obtain ⟨⟨⟨h1, h2⟩, h3⟩, h4⟩ := h
    exact e_prop ok go h1 h2 h3 (okE go o ok tk h4)
  | .rgl t (.of a), sc, lsc, X, Wx, e, ok, tk, h => by
    unfold ckE at h
    split at h
    rotate_left
    · cases h
    simp only [Bool.and_eq_true] at h
    cases h.1.2
  | .rgl t (.ownI a), sc, lsc, X, Wx, e, ok, tk, h => by
    unfold ckE at h
    split at h
    rotate_left
    · cases h
    simp only [Bool.and_eq_true] at h
    cases h.1.2
  | .rgl t (.rng1 a), sc, lsc, X, Wx, e, ok, tk, h => by
    unfold ckE at h
    split at h
    rotate_left
    · cases h
    simp only [Bool.and_eq_true, beq_iff_eq] at h
    obtain ⟨⟨⟨⟨⟨h1, h2⟩, h3⟩, h4⟩, h5⟩, h6⟩ := h
    subst h2
    unfold ckI at h6
    split at h6
    rotate_left
    · cases h6
    simp only [Bool.and_eq_true, beq_iff_eq] at h6
    obtain ⟨⟨⟨k1, k2⟩, k3⟩, k4⟩ := h6
    subst k1
    exact e_rgl1 ok h1 h3 k2 k4 (okE go a ok tk k3)
  | .rgl t (.rng2 a b), sc, lsc, X, Wx, e, ok, tk, h => by
    unfold ckE at h
    split at h
    rotate_left
    · cases h
    simp only [Bool.and_eq_true, beq_iff_eq] at h
    obtain ⟨⟨⟨⟨⟨h1, h2⟩, h3⟩, h4⟩, h5⟩, h6⟩ := h
    subst h2
    unfold ckI at h6
    split at h6
    rotate_left
    · cases h6
    simp only [Bool.and_eq_true, beq_iff_eq] at h6
    obtain ⟨⟨⟨⟨⟨k1, k2⟩, k3⟩, k4⟩, k5⟩, k6⟩ := h6
    subst k1
    exact e_rgl2 ok h1 h3 k2 k5 k6 (okE go a ok tk k3) (okE go b ok tk k4)
  | .rev a, sc, lsc, X, Wx, e, ok, tk, h => by
    unfold ckE at h
    split at h
    rotate_left
    · cases h
    exact e_rev ok.K (b_of ok h (okE go a ok tk h))
  | .lset a, sc, lsc, X, Wx, e, ok, tk, h => by
    unfold ckE at h
    split at h
    rotate_left
    · cases h
    simp only [Bool.and_eq_true, beq_iff_eq] at h
    obtain ⟨⟨⟨⟨⟨⟨h1, h2⟩, h3⟩, h4⟩, h5⟩, h6⟩, h7⟩ := h
    subst h2 h4
    exact e_lset ok h1 h3 h5 h6 (okE go a ok tk h7)
  | .ssc elt own t src cond, sc, lsc, X, Wx, e, ok, tk, h => by
    unfold ckE at h
    split at h
    rotate_left
    · cases h
    simp only [Bool.and_eq_true, beq_iff_eq] at h
    obtain ⟨⟨⟨⟨⟨⟨⟨⟨⟨h1, h0⟩, h9⟩, h2⟩, h3⟩, h4⟩, h5⟩, h6⟩, h7⟩, h8⟩ := h
    subst h0
    exact e_ssc ok h1 h9 (okI go src ok tk h2) (by rw [ok.N, ok.hsc]; exact blk_ok h4) h5
      (fun s H Ca cl fp => g_tg (ok.blk h4 s H Ca cl fp) h6)
      (fun s H Ca cl fp => okC go cond (ok.blk h4 s H Ca cl fp) (tk.blk (ok.calm h1)) h8)
      (fun s H Ca cl fp => okE go elt (ok.blk h4 s H Ca cl fp) (tk.blk (ok.calm h1)) h7) h3
  | .cval c f, sc, lsc, X, Wx, e, ok, tk, h => by
    unfold ckE at h
    split at h
    rotate_left
    · cases h
    simp only [Bool.and_eq_true, beq_iff_eq] at h
    obtain ⟨⟨⟨h1, h2⟩, h3⟩, h4⟩ := h
    exact e_cval ok h1 h2 h3 h4
  | .inD neg k d, sc, lsc, X, Wx, e, ok, tk, h => by
    unfold ckE at h
    split at h
    rotate_left
    · cases h
    simp only [Bool.and_eq_true, beq_iff_eq] at h
    obtain ⟨⟨⟨⟨h1, h2⟩, h3⟩, h4⟩, h5⟩ := h
    have e := copOk h1
    have e2 : cop (if neg = true then COp.notin else COp.isin) = if neg = true then CmpOp.NotIn else CmpOp.In := by cases neg <;> rfl
    rw [e2] at e
    subst e
    exact e_inD ok h2 h3 h4 h5
  | .lenO a, sc, lsc, X, Wx, e, ok, tk, h => by
    unfold ckE at h
    split at h
    rotate_left
    · cases h
    simp only [Bool.and_eq_true, beq_iff_eq] at h
    obtain ⟨⟨⟨⟨h1, h2⟩, h3⟩, h4⟩, h5⟩ := h
    subst h2
    exact e_lenO ok h1 h3 h4 (okE go a ok tk h5)
  | .exIs i t, sc, lsc, X, Wx, e, ok, tk, h => by
    unfold ckE at h
    split at h
    rotate_left
    · cases h
    simp only [Bool.and_eq_true, beq_iff_eq] at h
    obtain ⟨⟨⟨⟨⟨h1, h2⟩, h3⟩, h4⟩, h5⟩, h6⟩ := h
    subst h1
    exact e_exIs ok tk.hd h2 h3 h4 h5 h6
  | .exFld i f, sc, lsc, X, Wx, e, ok, tk, h => by
    unfold ckE at h
    split at h
    rotate_left
    · cases h
    simp only [Bool.and_eq_true, beq_iff_eq] at h
    obtain ⟨⟨h1, h2⟩, h3⟩ := h
    exact e_exFld ok tk.hd h1 h2 h3 go (fun r e => (RepF.look go r).1 _ e)
  | .lc2 elt own t src cond vs1 t1 src1 cond1, sc, lsc, X, Wx, e, ok, tk, h => by
    unfold ckE at h
    split at h
    rotate_left
    · cases h
    simp only [Bool.and_eq_true] at h
    obtain ⟨⟨⟨⟨⟨⟨⟨⟨⟨⟨⟨⟨⟨h1, h2⟩, h3⟩, h4⟩, h5⟩, h6⟩, h7⟩, h8⟩, h9⟩, h10⟩, h11⟩, h12⟩, h13⟩, h14⟩ := h
    exact e_lc2 ok h1 (okI go src ok tk h2) (by rw [ok.N, ok.hsc]; exact blk_ok h4) h5 h6 h7
      (fun s H Ca cl fp => g_tg (ok.blk h4 s H Ca cl fp) h8)
      (fun s H Ca cl fp => okC go cond (ok.blk h4 s H Ca cl fp) (tk.blk (ok.calm h1)) h11)
      (fun s H Ca cl fp => okI go src1 (ok.blk h4 s H Ca cl fp) (tk.blk (ok.calm h1)) h12)
      (fun s H Ca cl fp => g_tg (ok.blk h4 s H Ca cl fp) h9)
      (fun s H Ca cl fp => okC go cond1 (ok.blk h4 s H Ca cl fp) (tk.blk (ok.calm h1)) h14)
      (fun s H Ca cl fp => okE go elt (ok.blk h4 s H Ca cl fp) (tk.blk (ok.calm h1)) h10) h3 h13
theorem okT (go : G.Ok) : ∀ (c : CE) {sc lsc : Scope} {X : Cx} {Wx : WX} {e : Expr}, XOk G C gl F n sc lsc X → TkB X B Wx → ckE C sc c e = true → ckT C sc c = true → PT X e (tT G B Wx F gl c)
  | .and as, sc, lsc, X, Wx, e, ok, tk, h, ht => by
    unfold ckE at h
    unfold ckT at ht
    split at h
    rotate_left
    · cases h
    refine PT.imp (okAndT go as ok tk h ht).pt fun σ H Q ⟨w, env, ω, e, s, p⟩ => ⟨w, env, ω, e, s, ?_⟩
    rw [evE] at p
    exact p
  | .or as, sc, lsc, X, Wx, e, ok, tk, h, ht => by
    unfold ckE at h
    unfold ckT at ht
    split at h
    rotate_left
    · cases h
    refine PT.imp (okOrT go as ok tk h ht).pt fun σ H Q ⟨w, env, ω, e, s, p⟩ => ⟨w, env, ω, e, s, ?_⟩
    rw [evE] at p
    exact p
  | .not a, sc, lsc, X, Wx, e, ok, tk, h, ht => by
    unfold ckE at h
    unfold ckT at ht
    split at h
    rotate_left
    · cases h
    exact t_not (okT go a ok tk h ht)
  | .cmp op a b, sc, lsc, X, Wx, e, ok, tk, h, ht => by
    unfold ckE at h
    split at h
    rotate_left
    · cases h
    simp only [Bool.and_eq_true] at h
    rw [copOk h.1.1.1]
    exact t_cmp ok go tk.tk (o_of ok h.1.1.2 (okE go a ok tk h.1.1.2)) (o_of ok h.1.2 (okE go b ok tk h.1.2)) h.2
  | .chain op op' a b c, sc, lsc, X, Wx, e, ok, tk, h, ht => by
    unfold ckE at h
    split at h
    rotate_left
    · cases h
    simp only [Bool.and_eq_true] at h
    obtain ⟨⟨⟨⟨⟨⟨h1, h2⟩, h3⟩, h4⟩, h5⟩, h6⟩, h7⟩ := h
    rw [copOk h1, copOk h2]
    exact t_chain ok.K ok.hu (okE go a ok tk h3) (okE go b ok tk h4) (okE go c ok tk h5) h7
  | .ife _ _ _, _, _, _, _, _, _, _, _, ht => by unfold ckT at ht; cases ht
  | .cst k, sc, lsc, X, Wx, e, ok, tk, h, _ => t_truth ok.K (by unfold ckE at h; split at h; rfl; cases h) (okE go (.cst k) ok tk h)
  | .var i, sc, lsc, X, Wx, e, ok, tk, h, _ => t_truth ok.K (by unfold ckE at h; split at h; rfl; cases h) (okE go (.var i) ok tk h)
  | .glob i, sc, lsc, X, Wx, e, ok, tk, h, _ => t_truth ok.K (by unfold ckE at h; split at h; rfl; cases h) (okE go (.glob i) ok tk h)
  | .bin o a b, sc, lsc, X, Wx, e, ok, tk, h, _ => t_truth ok.K (by unfold ckE at h; split at h; rfl; cases h) (okE go (.bin o a b) ok tk h)
  | .neg a, sc, lsc, X, Wx, e, ok, tk, h, _ => t_truth ok.K (by unfold ckE at h; split at h; rfl; cases h) (okE go (.neg a) ok tk h)
  | .tup a, sc, lsc, X, Wx, e, ok, tk, h, _ => t_truth ok.K (by unfold ckE at h; split at h; rfl; cases h) (okE go (.tup a) ok tk h)
  | .lst a, sc, lsc, X, Wx, e, ok, tk, h, _ => t_truth ok.K (by unfold ckE at h; split at h; rfl; cases h) (okE go (.lst a) ok tk h)
  | .sub a b, sc, lsc, X, Wx, e, ok, tk, h, _ => t_truth ok.K (by unfold ckE at h; split at h; rfl; cases h) (okE go (.sub a b) ok tk h)
  | .slice a b c, sc, lsc, X, Wx, e, ok, tk, h, _ => t_truth ok.K (by unfold ckE at h; split at h; rfl; cases h) (okE go (.slice a b c) ok tk h)
  | .call a b, sc, lsc, X, Wx, e, ok, tk, h, _ => t_truth ok.K (by unfold ckE at h; split at h; rfl; cases h) (okE go (.call a b) ok tk h)
  | .blt a b, sc, lsc, X, Wx, e, ok, tk, h, _ => t_truth ok.K (by unfold ckE at h; split at h; rfl; cases h) (okE go (.blt a b) ok tk h)
  | .isi a b, sc, lsc, X, Wx, e, ok, tk, h, _ => t_truth ok.K (by unfold ckE at h; split at h; rfl; cases h) (okE go (.isi a b) ok tk h)
  | .lc a b c d f, sc, lsc, X, Wx, e, ok, tk, h, _ => t_truth ok.K (by unfold ckE at h; split at h; rfl; cases h) (okE go (.lc a b c d f) ok tk h)
  | .bm a b c, sc, lsc, X, Wx, e, ok, tk, h, _ => t_truth ok.K (by unfold ckE at h; split at h; rfl; cases h) (okE go (.bm a b c) ok tk h)
  | .meth a b c, sc, lsc, X, Wx, e, ok, tk, h, _ => t_truth ok.K (by unfold ckE at h; split at h; rfl; cases h) (okE go (.meth a b c) ok tk h)
  | .attr a b, sc, lsc, X, Wx, e, ok, tk, h, _ => t_truth ok.K (by unfold ckE at h; split at h; rfl; cases h) (okE go (.attr a b) ok tk h)
  | .make a b, sc, lsc, X, Wx, e, ok, tk, h, _ => t_truth ok.K (by unfold ckE at h; split at h; rfl; cases h) (okE go (.make a b) ok tk h)
  | .newc as, sc, lsc, X, Wx, e, ok, tk, h, _ => t_truth ok.K (by unfold ckE at h; split at h; rfl; cases h) (okE go (.newc as) ok tk h)
  | .callb a b, sc, lsc, X, Wx, e, ok, tk, h, _ => t_truth ok.K (by unfold ckE at h; split at h; rfl; cases h) (okE go (.callb a b) ok tk h)
  | .makeb a b, sc, lsc, X, Wx, e, ok, tk, h, _ => t_truth ok.K (by unfold ckE at h; split at h; rfl; cases h) (okE go (.makeb a b) ok tk h)
  | .rev a, sc, lsc, X, Wx, e, ok, tk, h, _ => t_truth ok.K (by unfold ckE at h; split at h; rfl; cases h) (okE go (.rev a) ok tk h)
  | .exIs a b, sc, lsc, X, Wx, e, ok, tk, h, _ => t_truth ok.K (by unfold ckE at h; split at h; rfl; cases h) (okE go (.exIs a b) ok tk h)
  | .exFld a b, sc, lsc, X, Wx, e, ok, tk, h, _ => t_truth ok.K (by unfold ckE at h; split at h; rfl; cases h) (okE go (.exFld a b) ok tk h)
  | .lc2 a b c d f g i j k, sc, lsc, X, Wx, e, ok, tk, h, _ => t_truth ok.K (by unfold ckE at h; split at h; rfl; cases h) (okE go (.lc2 a b c d f g i j k) ok tk h)
  | .makek a b c, sc, lsc, X, Wx, e, ok, tk, h, _ => t_truth ok.K (by unfold ckE at h; split at h; rfl; cases h) (okE go (.makek a b c) ok tk h)
  | .rgl a b, sc, lsc, X, Wx, e, ok, tk, h, _ => t_truth ok.K (by unfold ckE at h; split at h; rfl; cases h) (okE go (.rgl a b) ok tk h)
  | .prop a b, sc, lsc, X, Wx, e, ok, tk, h, _ => t_truth ok.K (by unfold ckE at h; split at h; rfl; cases h) (okE go (.prop a b) ok tk h)
  | .lset a, sc, lsc, X, Wx, e, ok, tk, h, _ => t_truth ok.K (by unfold ckE at h; split at h; rfl; cases h) (okE go (.lset a) ok tk h)
  | .ssc a b c d f, sc, lsc, X, Wx, e, ok, tk, h, _ => t_truth ok.K (by unfold ckE at h; split at h; rfl; cases h) (okE go (.ssc a b c d f) ok tk h)
  | .cval a b, sc, lsc, X, Wx, e, ok, tk, h, _ => t_truth ok.K (by unfold ckE at h; split at h; rfl; cases h) (okE go (.cval a b) ok tk h)
  | .lenO a, sc, lsc, X, Wx, e, ok, tk, h, _ => t_truth ok.K (by unfold ckE at h; split at h; rfl; cases h) (okE go (.lenO a) ok tk h)
  | .inD neg k d, sc, lsc, X, Wx, e, ok, tk, h, _ => by
    unfold ckE at h
    split at h
    rotate_left
    · cases h
    simp only [Bool.and_eq_true, beq_iff_eq] at h
    obtain ⟨⟨⟨⟨h1, h2⟩, h3⟩, h4⟩, h5⟩ := h
    have e := copOk h1
    have e2 : cop (if neg = true then COp.notin else COp.isin) = if neg = true then CmpOp.NotIn else CmpOp.In := by cases neg <;> rfl
    rw [e2] at e
    subst e
    exact t_inD ok h2 h3 h4 h5
theorem okEs (go : G.Ok) : ∀ (cs : CEs) {sc lsc : Scope} {X : Cx} {Wx : WX} {es : List Expr}, XOk G C gl F n sc lsc X → TkB X B Wx → ckEs C sc cs es = true → PA X es (tEs G B Wx F gl cs)
  | .nil, sc, lsc, X, Wx, es, ok, tk, h => by
    unfold ckEs at h
    rw [List.isEmpty_iff] at h
    subst h
    exact a_nil
  | .cons a as, sc, lsc, X, Wx, es, ok, tk, h => by
    unfold ckEs at h
    split at h
    rotate_left
    · cases h
    simp only [Bool.and_eq_true] at h
    exact a_cons h.1.1 (okE go a ok tk h.1.2) (okEs go as ok tk h.2)
  | .star a as, sc, lsc, X, Wx, es, ok, tk, h => by
    unfold ckEs at h
    split at h
    rotate_left
    · cases h
    simp only [Bool.and_eq_true] at h
    exact a_star ok.K (okE go a ok tk h.1) (okEs go as ok tk h.2)
theorem okBs (go : G.Ok) : ∀ (cs : CEs) {sc lsc : Scope} {X : Cx} {Wx : WX} {es : List Expr}, XOk G C gl F n sc lsc X → TkB X B Wx → ckEs C sc cs es = true → PA X es (tBs G B Wx F gl cs)
  | .nil, sc, lsc, X, Wx, es, ok, tk, h => by
    unfold ckEs at h
    rw [List.isEmpty_iff] at h
    subst h
    exact bs_nil
  | .cons a as, sc, lsc, X, Wx, es, ok, tk, h => by
    unfold ckEs at h
    split at h
    rotate_left
    · cases h
    simp only [Bool.and_eq_true] at h
    exact bs_cons h.1.1 (b_of ok h.1.2 (okE go a ok tk h.1.2)) (okBs go as ok tk h.2)
  | .star a as, sc, lsc, X, Wx, es, ok, tk, h => by
    unfold ckEs at h
    split at h
    rotate_left
    · cases h
    exact ⟨fun p pins s σ H Q I ⟨w, env, ω, e, st, q⟩ => by
      rw [evBs] at q
      exact q.elim⟩
theorem okAs (go : G.Ok) : ∀ (cs : CEs) {sc lsc : Scope} {X : Cx} {Wx : WX} {es : List Expr}, XOk G C gl F n sc lsc X → TkB X B Wx → ckEs C sc cs es = true → PA X es (tAs G B Wx F gl cs)
  | .nil, sc, lsc, X, Wx, es, ok, tk, h => by
    unfold ckEs at h
    rw [List.isEmpty_iff] at h
    subst h
    exact as_nil
  | .cons a as, sc, lsc, X, Wx, es, ok, tk, h => by
    unfold ckEs at h
    split at h
    rotate_left
    · cases h
    simp only [Bool.and_eq_true] at h
    exact as_cons h.1.1 (l_of ok h.1.2 (okE go a ok tk h.1.2)) (okAs go as ok tk h.2)
  | .star a as, sc, lsc, X, Wx, es, ok, tk, h => by
    unfold ckEs at h
    split at h
    rotate_left
    · cases h
    exact ⟨fun p pins s σ H Q I ⟨w, env, ω, e, st, q⟩ => by
      rw [evAs] at q
      exact q.elim⟩
theorem okKs (go : G.Ok) : ∀ (cs : CEs) {sc lsc : Scope} {X : Cx} {Wx : WX} {kws : List Keyword}, XOk G C gl F n sc lsc X → TkB X B Wx → ckKs C sc cs kws = true → PK X kws (tAs G B Wx F gl cs)
  | .nil, sc, lsc, X, Wx, es, ok, tk, h => by
    unfold ckKs at h
    rw [List.isEmpty_iff] at h
    subst h
    exact k_nil
  | .cons a as, sc, lsc, X, Wx, es, ok, tk, h => by
    unfold ckKs at h
    split at h
    rotate_left
    · cases h
    rw [Bool.and_eq_true] at h
    exact k_cons (l_of ok h.1 (okE go a ok tk h.1)) (okKs go as ok tk h.2)
  | .star a as, sc, lsc, X, Wx, es, ok, tk, h => by
    unfold ckKs at h
    cases h
theorem okAnd (go : G.Ok) : ∀ (cs : CEs) {sc lsc : Scope} {X : Cx} {Wx : WX} {es : List Expr} {pos : Pos}, XOk G C gl F n sc lsc X → TkB X B Wx → ckL C sc cs es = true → PE X (.BoolOp .And es pos) (tAn G B Wx F gl cs)
  | .nil, _, _, _, _, _, _, _, _, h => by unfold ckL at h; cases h
  | .star _ _, _, _, _, _, _, _, _, _, h => by unfold ckL at h; cases h
  | .cons a .nil, sc, lsc, X, Wx, es, pos, ok, tk, h => by
    unfold ckL at h
    split at h
    · exact and_one (okE go a ok tk h)
    · cases h
  | .cons a (.star _ _), sc, lsc, X, Wx, es, pos, ok, tk, h => by
    unfold ckL at h
    cases h
  | .cons a (.cons b bs), sc, lsc, X, Wx, es, pos, ok, tk, h => by
    unfold ckL at h
    split at h
    · rw [Bool.and_eq_true] at h
      exact and_cons ok.K (okE go a ok tk h.1) (okAnd go (.cons b bs) ok tk h.2)
    · cases h
theorem okOr (go : G.Ok) : ∀ (cs : CEs) {sc lsc : Scope} {X : Cx} {Wx : WX} {es : List Expr} {pos : Pos}, XOk G C gl F n sc lsc X → TkB X B Wx → ckL C sc cs es = true → PE X (.BoolOp .Or es pos) (tOr' G B Wx F gl cs)
  | .nil, _, _, _, _, _, _, _, _, h => by unfold ckL at h; cases h
  | .star _ _, _, _, _, _, _, _, _, _, h => by unfold ckL at h; cases h
  | .cons a .nil, sc, lsc, X, Wx, es, pos, ok, tk, h => by
    unfold ckL at h
    split at h
    · exact or_one (okE go a ok tk h)
    · cases h
  | .cons a (.star _ _), sc, lsc, X, Wx, es, pos, ok, tk, h => by
    unfold ckL at h
    cases h
  | .cons a (.cons b bs), sc, lsc, X, Wx, es, pos, ok, tk, h => by
    unfold ckL at h
    split at h
    · rw [Bool.and_eq_true] at h
      exact or_cons ok.K (okE go a ok tk h.1) (okOr go (.cons b bs) ok tk h.2)
    · cases h
theorem okAndT (go : G.Ok) : ∀ (cs : CEs) {sc lsc : Scope} {X : Cx} {Wx : WX} {es : List Expr} {pos : Pos}, XOk G C gl F n sc lsc X → TkB X B Wx → ckL C sc cs es = true → ckTs C sc cs = true → PW X (.BoolOp .And es pos) (tAnT G B Wx F gl cs)
  | .nil, _, _, _, _, _, _, _, _, h, _ => by unfold ckL at h; cases h
  | .star _ _, _, _, _, _, _, _, _, _, h, _ => by unfold ckL at h; cases h
  | .cons a .nil, sc, lsc, X, Wx, es, pos, ok, tk, h, ht => by
    unfold ckL at h
    unfold ckTs at ht
    rw [Bool.and_eq_true] at ht
    split at h
    · exact andT_one (okT go a ok tk h ht.1)
    · cases h
  | .cons a (.star _ _), sc, lsc, X, Wx, es, pos, ok, tk, h, _ => by
    unfold ckL at h
    cases h
  | .cons a (.cons b bs), sc, lsc, X, Wx, es, pos, ok, tk, h, ht => by
    unfold ckL at h
    unfold ckTs at ht
    rw [Bool.and_eq_true] at ht
    split at h
    · rw [Bool.and_eq_true] at h
      exact andT_cons (okT go a ok tk h.1 ht.1) (okAndT go (.cons b bs) ok tk h.2 ht.2)
    · cases h
theorem okOrT (go : G.Ok) : ∀ (cs : CEs) {sc lsc : Scope} {X : Cx} {Wx : WX} {es : List Expr} {pos : Pos}, XOk G C gl F n sc lsc X → TkB X B Wx → ckL C sc cs es = true → ckTs C sc cs = true → PW X (.BoolOp .Or es pos) (tOrT' G B Wx F gl cs)
  | .nil, _, _, _, _, _, _, _, _, h, _ => by unfold ckL at h; cases h
  | .star _ _, _, _, _, _, _, _, _, _, h, _ => by unfold ckL at h; cases h
  | .cons a .nil, sc, lsc, X, Wx, es, pos, ok, tk, h, ht => by
    unfold ckL at h
    unfold ckTs at ht
    rw [Bool.and_eq_true] at ht
    split at h
    · exact orT_one (okT go a ok tk h ht.1)
    · cases h
  | .cons a (.star _ _), sc, lsc, X, Wx, es, pos, ok, tk, h, _ => by
    unfold ckL at h
    cases h
  | .cons a (.cons b bs), sc, lsc, X, Wx, es, pos, ok, tk, h, ht => by
    unfold ckL at h
    unfold ckTs at ht
    rw [Bool.and_eq_true] at ht
    split at h
    · rw [Bool.and_eq_true] at h
      exact orT_cons (okT go a ok tk h.1 ht.1) (okOrT go (.cons b bs) ok tk h.2 ht.2)
    · cases h
theorem okO (go : G.Ok) : ∀ (c : CO) {sc lsc : Scope} {X : Cx} {Wx : WX} {e : Option Expr}, XOk G C gl F n sc lsc X → TkB X B Wx → ckO C sc c e = true → PO X e (tO G B Wx F gl c)
  | .none, sc, lsc, X, Wx, e, ok, tk, h => by
    unfold ckO at h
    rw [Option.isNone_iff_eq_none] at h
    subst h
    exact o_none
  | .some a, sc, lsc, X, Wx, e, ok, tk, h => by
    unfold ckO at h
    split at h
    rotate_left
    · cases h
    exact o_some (okE go a ok tk h)
theorem okC (go : G.Ok) : ∀ (c : CO) {sc lsc : Scope} {X : Cx} {Wx : WX} {es : List Expr}, XOk G C gl F n sc lsc X → TkB X B Wx → ckC C sc c es = true → PTs X es (tCn G B Wx F gl c)
  | .none, sc, lsc, X, Wx, e, ok, tk, h => by
    unfold ckC at h
    rw [List.isEmpty_iff] at h
    subst h
    exact PTs.imp pts_nil fun σ H Q ⟨w, env, ω, e, s, p⟩ => by
      subst e
      rw [evC] at p
      exact Post.now p s.ok
  | .some a, sc, lsc, X, Wx, es, ok, tk, h => by
    unfold ckC at h
    split at h
    rotate_left
    · cases h
    rw [Bool.and_eq_true] at h
    exact PTs.imp (pts_one (okT go a ok tk h.1 h.2)) fun σ H Q ⟨w, env, ω, e, s, p⟩ => ⟨w, env, ω, e, s, by
      rw [evC] at p
      exact p⟩
theorem okI (go : G.Ok) : ∀ (c : CI) {sc lsc : Scope} {X : Cx} {Wx : WX} {e tg : Expr}, XOk G C gl F n sc lsc X → TkB X B Wx → ckI C sc c e = true → PI X tg e (tI G B Wx F gl c)
  | .of a, sc, lsc, X, Wx, e, tg, ok, tk, h => by
    unfold ckI at h
    exact i_of ok.K (w_of ok h (okE go a ok tk h))
  | .rng1 a, sc, lsc, X, Wx, e, tg, ok, tk, h => by
    unfold ckI at h
    split at h
    rotate_left
    · cases h
    simp only [Bool.and_eq_true, beq_iff_eq] at h
    obtain ⟨⟨⟨h1, h2⟩, h3⟩, h4⟩ := h
    subst h1
    exact i_rng1 ok h2 h4 (okE go a ok tk h3)
  | .rng2 a b, sc, lsc, X, Wx, e, tg, ok, tk, h => by
    unfold ckI at h
    split at h
    rotate_left
    · cases h
    simp only [Bool.and_eq_true, beq_iff_eq] at h
    obtain ⟨⟨⟨⟨⟨h1, h2⟩, h3⟩, h4⟩, h5⟩, h6⟩ := h
    subst h1
    exact i_rng2 ok h2 h5 h6 (okE go a ok tk h3) (okE go b ok tk h4)
  | .ownI a, sc, lsc, X, Wx, e, tg, ok, tk, h => by
    unfold ckI at h
    rw [Bool.and_eq_true] at h
    exact i_own ok go h.1 (okE go a ok tk h.2)
end
end
end Rf
set_option Elab.async false
set_option linter.all false
set_option maxRecDepth 100000
set_option maxHeartbeats 8000000
/-! G14: statements -/
namespace Rf
open PySem L2 PySem.Spec PyProof.Rows

theorem PS.imp {X : Cx} {e : Stmt} {t t' : TS} (h : PS X e t) (i : ∀ D σ H, t' D σ H → t D σ H) : PS X e t' := ⟨fun pins s σ H D I q => h.run pins s σ H D I (i D σ H q)⟩
theorem PSs.imp {X : Cx} {e : List Stmt} {t t' : TS} (h : PSs X e t) (i : ∀ D σ H, t' D σ H → t D σ H) : PSs X e t' := ⟨fun pins s σ H D I q => h.run pins s σ H D I (i D σ H q)⟩

def SPost (G : Gm) (B : Bs) (Wx : WX) (D : Ends) (w : W) (o : Out) : Prop := match o with
  | .next env' h' => ∀ w' σ' ω', w'.h = h' → Stt G B w' env' σ' ω' → Le w w' → D.nx σ' w'.H
  | .brk env' h' => ∀ w' σ' ω', w'.h = h' → Stt G B w' env' σ' ω' → Le w w' → D.bk σ' w'.H
  | .cont env' h' => ∀ w' σ' ω', w'.h = h' → Stt G B w' env' σ' ω' → Le w w' → D.ct σ' w'.H
  | .ret d h' => ∀ w' v, w'.h = h' → WOk G w' → Ext B.toW w' → Le w w' → Rep G w' d v → D.rt v w'.H
  | .exc x env' h' => ∀ w' σ' ω', w'.h = h' → Stt G B w' env' σ' ω' → Le w w' → XP G Wx σ' x w'
  | .bad => False
section
variable {G : Gm} {B : Bs} {w w1 w' : W} {Wx : WX} {F : FTab} {gl : Nat → Option D} {C : Ck} {n : Nat} {sc lsc : Scope} {X : Cx} {env env' : En} {σ : List (Option V)} {ω : Nat → Addr}
  {l m r e e' tg : Expr} {es : List Expr} {a b c : CE} {as bs : CEs} {pos p : Pos} {x y : Str} {Dn : Ends} {o : Out} {α : Type}
theorem SPost.later (h : SPost G B Wx Dn w o) (e : Le w w1) : SPost G B Wx Dn w1 o := by
  cases o with
  | next env' h' => exact fun w' σ' ω' eh s le => h w' σ' ω' eh s (e.trans le)
  | brk env' h' => exact fun w' σ' ω' eh s le => h w' σ' ω' eh s (e.trans le)
  | cont env' h' => exact fun w' σ' ω' eh s le => h w' σ' ω' eh s (e.trans le)
  | ret d h' => exact fun w' v eh ok be le r => h w' v eh ok be (e.trans le) r
  | exc x env' h' => exact fun w' σ' ω' eh s le => h w' σ' ω' eh s (e.trans le)
  | bad => exact h
theorem SPost.out {r : Res α} {k : α → Cells → Out} (s : Stt G B w env σ ω) (h : SPost G B Wx Dn w (r.out env k)) : Post G w r (fun a w1 => SPost G B Wx Dn w1 (k a w1.h)) (XP G Wx σ) := by
  cases r with
  | ok a h' =>
    intro w1 eh ok1 e1
    subst eh
    exact SPost.later (show SPost G B Wx Dn w (k a w1.h) from h) (e1.le s.ok)
  | exc x h' => exact fun w1 eh ok1 e1 => h w1 σ ω eh (s.ext ok1 e1) (e1.le s.ok)
  | bad => exact h

def tS (G : Gm) (B : Bs) (Wx : WX) (F : FTab) (gl : Nat → Option D) (c : CS) : TS := fun D σ H => ∃ w env ω, w.H = H ∧ Stt G B w env σ ω ∧ SPost G B Wx D w (evS F gl c env w.h)
def tSs (G : Gm) (B : Bs) (Wx : WX) (F : FTab) (gl : Nat → Option D) (c : CSs) : TS := fun D σ H => ∃ w env ω, w.H = H ∧ Stt G B w env σ ω ∧ SPost G B Wx D w (evSs F gl c env w.h)
/-- a new list, ours -/
def tNw (G : Gm) (B : Bs) (Wx : WX) (F : FTab) (gl : Nat → Option D) (c : CE) : TE := fun σ H Q => ∃ w env ω, w.H = H ∧ Stt G B w env σ ω ∧ PostN G w (evE F gl env c w.h) Q (XP G Wx σ)

/-! ### objects of ours in the slots -/
theorem Stt.setOwn {a : Addr} {ob : Ob} {i : Nat} (s : Stt G B w env σ ω) (h : ObAt G w a ob) (nz : ¬ w.Z a) (nl : ¬ w.live a) (hb : B.H a = none) (hn : ∀ (j : Nat) (u : Ob), env[j]? = some (Sl.own u) → ω j ≠ a) (hm : ∀ c fs, ob = .ins c fs → a = B.me) :
    Stt G B w (env.set i (.own ob)) (σ.set i (some (.ref a))) (fun j => if j = i then a else ω j) := by
  refine ⟨s.ok, s.be, ⟨by rw [List.length_set, List.length_set]; exact s.eo.len, fun j d hj => ?_, fun j u hj => ?_, fun j k u v hj hk e => ?_, fun j c fs hj => ?_, fun j u hj => (by
      obtain ⟨q, hj⟩ := set_other hj (fun z => nomatch z)
      rw [List.getElem?_set_ne q]
      exact s.eo.bor j u hj), fun j u hj => (by
      obtain ⟨q, hj⟩ := set_other hj (fun z => nomatch z)
      rw [List.getElem?_set_ne q]
      exact s.eo.ex j u hj), fun j u hj => (by
      obtain ⟨q, hj⟩ := set_other hj (fun z => nomatch z)
      rw [List.getElem?_set_ne q]
      exact s.eo.key j u hj)⟩⟩
  · by_cases q : i = j
    · subst q
      by_cases hi : i < env.length
      · rw [List.getElem?_set_self hi] at hj; cases hj
      · rw [List.getElem?_eq_none (by rw [List.length_set]; omega)] at hj; cases hj
    · rw [List.getElem?_set_ne q] at hj ⊢
      exact s.eo.vals j d hj
  · by_cases q : i = j
    · subst q
      by_cases hi : i < env.length
      · rw [List.getElem?_set_self hi] at hj
        cases hj
        refine ⟨?_, ?_, ?_, ?_, ?_⟩
        · rw [List.getElem?_set_self (by rw [← s.eo.len]; exact hi), if_pos rfl]
        all_goals rw [if_pos rfl]; assumption
      · rw [List.getElem?_eq_none (by rw [List.length_set]; omega)] at hj; cases hj
    · rw [List.getElem?_set_ne q] at hj
      rw [List.getElem?_set_ne q, if_neg (Ne.symm q)]
      exact s.eo.own j u hj
  · have key : ∀ (j : Nat) (u : Ob), (env.set i (Sl.own ob))[j]? = some (Sl.own u) → j = i ∨ (j ≠ i ∧ env[j]? = some (Sl.own u)) := fun j u hj => by
      by_cases q : i = j
      · exact .inl q.symm
      · rw [List.getElem?_set_ne q] at hj
        exact .inr ⟨Ne.symm q, hj⟩
    rcases key j u hj with rfl | ⟨q1, h1⟩ <;> rcases key k v hk with q2 | ⟨q2, h2⟩
    · exact q2.symm
    · simp only [if_true, if_neg q2] at e
      exact (hn k v h2 e.symm).elim
    · subst q2
      simp only [if_true, if_neg q1] at e
      exact (hn j u h1 e).elim
    · simp only [if_neg q1, if_neg q2] at e
      exact s.eo.inj j k u v h1 h2 e
  · by_cases q : i = j
    · subst q
      by_cases hi : i < env.length
      · rw [List.getElem?_set_self hi] at hj
        cases hj
        rw [if_pos rfl]
        exact hm c fs rfl
      · rw [List.getElem?_eq_none (by rw [List.length_set]; omega)] at hj; cases hj
    · rw [List.getElem?_set_ne q] at hj
      rw [if_neg (Ne.symm q)]
      exact s.eo.mine j c fs hj
/-- our object in slot i is changed -/
theorem Stt.mutOwn {ob ob' : Ob} {o : HO} {i : Nat} (s : Stt G B w env σ ω) (hi : env[i]? = some (Sl.own ob)) (new : ObAt G (w.mut (ω i) o) (ω i) ob') (hm : ∀ c fs, ob' = .ins c fs → ω i = B.me) : Stt G B (w.mut (ω i) o) (env.set i (.own ob')) σ ω ∧ Le w (w.mut (ω i) o) := by
  obtain ⟨h1, h2, h3, h4, h5⟩ := s.eo.own i ob hi
  obtain ⟨u, hu, su⟩ := h2.soft
  have le : Le w (w.mut (ω i) o) := W.mut_le h3 hu su
  have hil : i < env.length := (List.getElem?_eq_some_iff.mp hi).1
  refine ⟨⟨W.mut_ok s.ok h3 h4 hu su, W.mut_ext s.be h5, ⟨by rw [List.length_set]; exact s.eo.len, fun j d hj => ?_, fun j v hj => ?_, fun j k u v hj hk e => ?_, fun j c fs hj => ?_, fun j u hj => (by
      obtain ⟨q, hj⟩ := set_other hj (fun z => nomatch z)
      exact s.eo.bor j u hj), fun j u hj => (by
      obtain ⟨q, hj⟩ := set_other hj (fun z => nomatch z)
      obtain ⟨h1, h2, h3⟩ := s.eo.ex j u hj
      refine ⟨h1, h2, ?_⟩
      rcases h3 with h3 | ⟨k0, d, fvs, k1, k2, k3⟩
      · exact .inl h3
      · exact .inr ⟨k0, d, fvs, k1, le.kn _ _ (fun z => z) k2, k3.le le⟩), fun j u hj => (by
      obtain ⟨q, hj⟩ := set_other hj (fun z => nomatch z)
      obtain ⟨a, h1, h2⟩ := s.eo.key j u hj
      exact ⟨a, h1, le.kn _ _ (fun z => z) h2⟩)⟩⟩, le⟩
  · by_cases q : i = j
    · subst q
      rw [List.getElem?_set_self hil] at hj; cases hj
    · rw [List.getElem?_set_ne q] at hj
      obtain ⟨z, hz, rz⟩ := s.eo.vals j d hj
      exact ⟨z, hz, rz.le le⟩
  · by_cases q : i = j
    · subst q
      rw [List.getElem?_set_self hil] at hj
      cases hj
      exact ⟨h1, new, h3, h4, h5⟩
    · rw [List.getElem?_set_ne q] at hj
      obtain ⟨k1, k2, k3, k4, k5⟩ := s.eo.own j v hj
      have ne : ω j ≠ ω i := fun z => q (s.eo.inj j i v ob hj hi z).symm
      exact ⟨k1, k2.le_ne le (by show upd w.H (ω i) o (ω j) = _; rw [upd_ne ne]), k3, k4, k5⟩
  · have key : ∀ (j : Nat) (u : Ob), (env.set i (Sl.own ob'))[j]? = some (Sl.own u) → ∃ u', env[j]? = some (Sl.own u') := fun j u hj => by
      by_cases q : i = j
      · subst q; exact ⟨ob, hi⟩
      · rw [List.getElem?_set_ne q] at hj; exact ⟨u, hj⟩
    obtain ⟨u', hu'⟩ := key j u hj
    obtain ⟨v', hv'⟩ := key k v hk
    exact s.eo.inj j k u' v' hu' hv' e
  · by_cases q : i = j
    · subst q
      rw [List.getElem?_set_self hil] at hj
      cases hj
      exact hm c fs rfl
    · rw [List.getElem?_set_ne q] at hj
      exact s.eo.mine j c fs hj
/-- our object in slot i is frozen -/
theorem Stt.frz {ob : Ob} {i : Nat} (s : Stt G B w env σ ω) (hi : env[i]? = some (Sl.own ob)) : Stt G B (w.fz (ω i)) (env.set i (.val (obD ob))) σ ω := by
  obtain ⟨h1, h2, h3, h4, h5⟩ := s.eo.own i ob hi
  obtain ⟨u, hu, su⟩ := h2.soft
  have le : Le w (w.fz (ω i)) := W.fz_le
  have hil : i < env.length := (List.getElem?_eq_some_iff.mp hi).1
  refine ⟨W.fz_ok s.ok h4 hu, W.fz_ext s.be h5, ⟨by rw [List.length_set]; exact s.eo.len, fun j d hj => ?_, fun j v hj => ?_, fun j k u v hj hk e => ?_, fun j c fs hj => ?_, fun j u hj => (by
      obtain ⟨q, hj⟩ := set_other hj (fun z => nomatch z)
      exact s.eo.bor j u hj), fun j u hj => (by
      obtain ⟨q, hj⟩ := set_other hj (fun z => nomatch z)
      obtain ⟨h1, h2, h3⟩ := s.eo.ex j u hj
      refine ⟨h1, h2, ?_⟩
      rcases h3 with h3 | ⟨k0, d, fvs, k1, k2, k3⟩
      · exact .inl h3
      · exact .inr ⟨k0, d, fvs, k1, le.kn _ _ (fun z => z) k2, k3.le le⟩), fun j u hj => (by
      obtain ⟨q, hj⟩ := set_other hj (fun z => nomatch z)
      obtain ⟨a, h1, h2⟩ := s.eo.key j u hj
      exact ⟨a, h1, le.kn _ _ (fun z => z) h2⟩)⟩⟩
  · by_cases q : i = j
    · subst q
      rw [List.getElem?_set_self hil] at hj
      cases hj
      refine ⟨_, h1, ?_⟩
      cases h2 with
      | lst h r => exact .lst (.inl ⟨.inr rfl, h⟩) (r.le le)
      | dk h r => exact .dk (.inr rfl) h (r.le le)
      | dt h r => exact .dt (.inr rfl) h (r.le le)
      | ins hc h r => exact .ins hc (.inr rfl) h (r.le le)
    · rw [List.getElem?_set_ne q] at hj
      obtain ⟨z, hz, rz⟩ := s.eo.vals j d hj
      exact ⟨z, hz, rz.le le⟩
  · by_cases q : i = j
    · subst q
      rw [List.getElem?_set_self hil] at hj; cases hj
    · rw [List.getElem?_set_ne q] at hj
      obtain ⟨k1, k2, k3, k4, k5⟩ := s.eo.own j v hj
      have ne : ω j ≠ ω i := fun z => q (s.eo.inj j i v ob hj hi z).symm
      exact ⟨k1, k2.le_ne le rfl, fun z => z.elim k3 ne, k4, k5⟩
  · have key : ∀ (j : Nat) (u : Ob), (env.set i (Sl.val (obD ob)))[j]? = some (Sl.own u) → env[j]? = some (Sl.own u) := fun j u hj => by
      by_cases q : i = j
      · subst q
        rw [List.getElem?_set_self hil] at hj; cases hj
      · rw [List.getElem?_set_ne q] at hj; exact hj
    exact s.eo.inj j k u v (key j u hj) (key k v hk) e
  · by_cases q : i = j
    · subst q
      rw [List.getElem?_set_self hil] at hj
      cases hj
    · rw [List.getElem?_set_ne q] at hj
      exact s.eo.mine j c fs hj
/-- a live object is changed -/
theorem cell_mutG {k : Nat} {ob ob' : Ob} {o' : HO} (ok : WOk G w) (hk : w.h[k]? = some (some ob)) (mk : ∀ w', Ext w w' → w'.H (w.ι k) = some o' → ObAt G w' (w.ι k) ob') :
    let w' : W := ⟨w.Z, w.ι, w.h.set k (some ob'), upd w.H (w.ι k) o'⟩; WOk G w' ∧ Ext w w' := by
  intro w'
  obtain ⟨h2, h3⟩ := ok.cell k _ hk
  obtain ⟨u, hu, su⟩ := h2.soft
  have hkl : k < w.h.length := (List.getElem?_eq_some_iff.mp hk).1
  have live : w.live (w.ι k) := ⟨k, _, hk, rfl⟩
  have ex : Ext w w' := {
    z := fun _ z => z
    zn := fun _ z => .inl z
    ι := fun _ _ => rfl
    len := by show w.h.length ≤ (w.h.set k _).length; rw [List.length_set]; exact Nat.le_refl _
    lv := fun i o hi h => by
      have h' : (w.h.set k (some ob'))[i]? = some (some o) := h
      by_cases q : k = i
      · subst q; exact ⟨_, hk⟩
      · rw [List.getElem?_set_ne q] at h'; exact ⟨o, h'⟩
    fresh := fun i o hi h => by
      have h' : (w.h.set k (some ob'))[i]? = some (some o) := h
      rw [List.getElem?_eq_none (by rw [List.length_set]; exact hi)] at h'
      cases h'
    keep := fun a o h nl => by
      show upd w.H (w.ι k) _ a = some o
      rw [upd_ne (fun q : a = w.ι k => nl (by rw [q]; exact live))]
      exact h
    dom := fun a h => by
      have h' : upd w.H (w.ι k) _ a = none := h
      by_cases q : a = w.ι k
      · rw [q, upd_same] at h'; cases h'
      · rw [upd_ne q] at h'; exact h' }
  refine ⟨⟨fun i o h => ?_, fun i j a b h1 h2' e => ?_, fun a z => ?_⟩, ex⟩
  · have h' : (w.h.set k (some ob'))[i]? = some (some o) := h
    by_cases q : k = i
    · subst q
      rw [List.getElem?_set_self hkl] at h'
      cases h'
      exact ⟨mk w' ex upd_same, h3⟩
    · rw [List.getElem?_set_ne q] at h'
      obtain ⟨k1, k2⟩ := ok.cell i o h'
      have ne : w.ι i ≠ w.ι k := fun z => q (ok.inj i k o _ h' hk z).symm
      exact ⟨k1.le_ne (ex.le ok) (by show upd w.H (w.ι k) _ (w.ι i) = _; rw [upd_ne ne]), k2⟩
  · have key : ∀ (i : Nat) (o : Ob), (w.h.set k (some ob'))[i]? = some (some o) → ∃ o', w.h[i]? = some (some o') := fun i o h => by
      by_cases q : k = i
      · subst q; exact ⟨_, hk⟩
      · rw [List.getElem?_set_ne q] at h; exact ⟨o, h⟩
    obtain ⟨a', ha⟩ := key i a h1
    obtain ⟨b', hb⟩ := key j b h2'
    exact ok.inj i j a' b' ha hb e
  · obtain ⟨x, hx⟩ := ok.zin a z
    refine ⟨x, ?_⟩
    show upd w.H (w.ι k) _ a = some x
    rw [upd_ne (fun q : a = w.ι k => h3 (by rw [← q]; exact z))]
    exact hx
/-- a live list is changed -/
theorem cell_mut {k : Nat} {ds ds' : List D} {vs' : List V} (ok : WOk G w) (hk : w.h[k]? = some (some (.lst ds))) (r : Reps G w ds' vs') :
    let w' : W := ⟨w.Z, w.ι, w.h.set k (some (.lst ds')), upd w.H (w.ι k) (.lst vs')⟩; WOk G w' ∧ Ext w w' :=
  cell_mutG ok hk fun w' e hh => .lst hh (r.ext ok e)
end
end Rf
set_option Elab.async false
set_option linter.all false
set_option maxRecDepth 100000
set_option maxHeartbeats 8000000
/-! G15: statements, one by one -/
namespace Rf
open PySem L2 PySem.Spec PyProof.Rows
/-- the value is no comprehension -/
def noComp : Expr → Bool
  | .ListComp .. => false
  | .SetComp .. => false
  | .DictComp .. => false
  | _ => true
def noDisp : Expr → Bool
  | .Tuple .. => false
  | .List .. => false
  | _ => true
theorem swaps_none {v : Expr} (h : noComp v = true) (t : Option Expr) (n : Nat) (env : Env) : swapsWith v t n env = pure false := by
  cases v <;> first | rfl | cases h
/-- name = [..] on one line -/
def swapB (sc : Scope) (x : Str) (px : Pos) (scope : Scope) (vp : Pos) : Bool :=
  sc.names.lookup x == some .local && px.line == vp.line && !(scope.names.any fun y => y.1 == x && (y.2 == .local || y.2 == .cell))
section
variable {G : Gm} {B : Bs} {w w1 w' : W} {Wx : WX} {F : FTab} {gl : Nat → Option D} {C : Ck} {n : Nat} {sc lsc : Scope} {X : Cx} {env env' : En} {σ : List (Option V)} {ω : Nat → Addr}
  {l m r e e' v it el : Expr} {es : List Expr} {a b c : CE} {as bs : CEs} {pos p : Pos} {x y : Str} {Dn : Ends} {i : Nat}
theorem swaps_lc (hk : X.env.scope.kind = .function) (ln : Nat) {scope : Scope} {gs : List Comprehension} : swapsWith (.ListComp el gs scope pos) (some (.Name x p)) ln X.env = pure (swapB X.env.scope x p scope pos) := by
  unfold swapsWith swapB Env.blockKind Env.kindOf
  rw [hk]
  rfl
theorem s_set (hN : C.N.Nodup) (ok : XOk G C gl F n sc lsc X) (hi : C.N[i]? = some x) (hl : isLoc lsc x = true) (hv : PE X v (tE G B Wx F gl c)) (hs : swapsWith v (some (.Name x p)) pos.line X.env = pure false) :
    PS X (.Assign [.Name x p] v pos) (tS G B Wx F gl (.set i c)) := by
  obtain ⟨h1, h2⟩ := ok.fnl x hl
  refine PS.imp (ps_set (by rw [ok.N]; exact hN) (by rw [ok.N]; exact hi) h1 hv hs h2) fun D σ H ⟨w, env, ω, e, s, p⟩ => ?_
  subst e
  rw [evS] at p
  refine ⟨w, env, ω, rfl, s, (SPost.out s p).mono (fun d w1 ok1 e1 q v r => ?_) fun _ _ _ _ h => h⟩
  have s1 := s.ext ok1 e1
  exact q w1 _ ω rfl ⟨ok1, s1.be, s1.eo.set r⟩ (Le.refl _)
/-- the same for a comprehension on one line -/
theorem s_setLc {tg : Expr} {ifs : List Expr} {scope : Scope} {elt : CE} {own : List Nat} {t : Tg} {src : CI} {cond : CO} (ok : XOk G C gl F n sc lsc X) (hc : C.calm = true) (hi : C.N[i]? = some x)
    (hsw : swapB X.env.scope x p scope pos = true)
    (hit : PI X tg it (tI G B Wx F gl src)) (hb : BlkOk X.N X.env.scope scope (ownOf C.N own)) (hin : tgIn t own = true)
    (hg : ∀ (s : Shared) (H : Hp) (Ca : Addr) (cl : List (Str × Addr)) (fp : List Addr), PG (X.blk s H scope (compEnvC scope cl Ca X.env) fp) tg (gTg G.K t))
    (ht : ∀ (s : Shared) (H : Hp) (Ca : Addr) (cl : List (Str × Addr)) (fp : List Addr), PTs (X.blk s H scope (compEnvC scope cl Ca X.env) fp) ifs (tCn G B (fun _ _ _ _ => False) F gl cond))
    (he : ∀ (s : Shared) (H : Hp) (Ca : Addr) (cl : List (Str × Addr)) (fp : List Addr), PE (X.blk s H scope (compEnvC scope cl Ca X.env) fp) el (tE G B (fun _ _ _ _ => False) F gl elt))
    (hs : plainB it = true) (hk : X.env.scope.kind = .function) {pos2 : Pos}
    {ct : CS} (hct : ∀ D σ H, tS G B Wx F gl ct D σ H → tAsg (tNw G B Wx F gl (.lc elt own t src cond)) (gName i) D σ H) :
    PS X (.Assign [.Name x p] (.ListComp el [⟨tg, it, ifs, 0⟩] scope pos) pos2) (tS G B Wx F gl ct) := by
  have hl : X.env.scope.names.lookup x = some .local := by
    unfold swapB at hsw
    simp only [Bool.and_eq_true, beq_iff_eq] at hsw
    exact hsw.1.1
  refine PS.imp (ps_setLc (ok.calm hc) (by rw [ok.N]; exact ok.nd) (by rw [ok.N]; exact hi) hl (by rw [swaps_lc hk, hsw]) hit hb hg ht he (fold_plain hs _)) fun D σ H q => ?_
  obtain ⟨w, env, ω, e, s, p⟩ := hct D σ H q
  subst e
  rw [own_map]
  exact lc_read hin s p
theorem s_setLc2 {tg tg1 it1 : Expr} {ifs ifs1 : List Expr} {scope : Scope} {elt : CE} {own vs1 : List Nat} {t t1 : Tg} {src src1 : CI} {cond cond1 : CO} (ok : XOk G C gl F n sc lsc X) (hc : C.calm = true) (hi : C.N[i]? = some x)
    (hsw : swapB X.env.scope x p scope pos = true)
    (hit : PI X tg it (tI G B Wx F gl src)) (hb : BlkOk X.N X.env.scope scope (ownOf C.N own)) (hin : tgIn t own = true) (hv : vs1.all own.contains = true) (hin1 : tgIn t1 vs1 = true)
    (hg : ∀ (s : Shared) (H : Hp) (Ca : Addr) (cl : List (Str × Addr)) (fp : List Addr), PG (X.blk s H scope (compEnvC scope cl Ca X.env) fp) tg (gTg G.K t))
    (ht : ∀ (s : Shared) (H : Hp) (Ca : Addr) (cl : List (Str × Addr)) (fp : List Addr), PTs (X.blk s H scope (compEnvC scope cl Ca X.env) fp) ifs (tCn G B NX F gl cond))
    (hi1 : ∀ (s : Shared) (H : Hp) (Ca : Addr) (cl : List (Str × Addr)) (fp : List Addr), PI (X.blk s H scope (compEnvC scope cl Ca X.env) fp) tg1 it1 (tI G B NX F gl src1))
    (hg1 : ∀ (s : Shared) (H : Hp) (Ca : Addr) (cl : List (Str × Addr)) (fp : List Addr), PG (X.blk s H scope (compEnvC scope cl Ca X.env) fp) tg1 (gTg G.K t1))
    (ht1 : ∀ (s : Shared) (H : Hp) (Ca : Addr) (cl : List (Str × Addr)) (fp : List Addr), PTs (X.blk s H scope (compEnvC scope cl Ca X.env) fp) ifs1 (tCn G B NX F gl cond1))
    (he : ∀ (s : Shared) (H : Hp) (Ca : Addr) (cl : List (Str × Addr)) (fp : List Addr), PE (X.blk s H scope (compEnvC scope cl Ca X.env) fp) el (tE G B NX F gl elt))
    (hs : plainB it = true) (hs1 : plainB it1 = true) (hk : X.env.scope.kind = .function) {pos2 : Pos} :
    PS X (.Assign [.Name x p] (.ListComp el [⟨tg, it, ifs, 0⟩, ⟨tg1, it1, ifs1, 0⟩] scope pos) pos2) (tS G B Wx F gl (.set i (.lc2 elt own t src cond vs1 t1 src1 cond1))) := by
  have hl : X.env.scope.names.lookup x = some .local := by
    unfold swapB at hsw
    simp only [Bool.and_eq_true, beq_iff_eq] at hsw
    exact hsw.1.1
  refine PS.imp (ps_setLc2 (vs1 := vs1) (ok.calm hc) (by rw [ok.N]; exact ok.nd) (by rw [ok.N]; exact hi) hl (by rw [swaps_lc hk, hsw]) hit hb (by
    rw [own_map]
    intro i h
    simpa using List.all_eq_true.mp hv i h) hg ht hi1 hg1 ht1 he (fold_plain hs _) (fold_plain hs1)) fun D σ H ⟨w, env, ω, e, s, p⟩ => ?_
  subst e
  rw [own_map]
  rw [evS] at p
  refine lc2_read hin hin1 s (PostN.of ((SPost.out s p).mono (fun d w1 ok1 e1 q v r => ?_) fun _ _ _ _ h => h) fun d h e => lc2_lst e)
  have s1 := s.ext ok1 e1
  exact q w1 _ ω rfl ⟨ok1, s1.be, s1.eo.set r⟩ (Le.refl _)
theorem nw_of {D : Ends} {H : Hp} (hc : ∃ elt own t src cond, c = .lc elt own t src cond) : tS G B Wx F gl (.set i c) D σ H → tAsg (tNw G B Wx F gl c) (gName i) D σ H := fun ⟨w, env, ω, e, s, p⟩ => by
  subst e
  rw [evS] at p
  obtain ⟨elt, own, t, src, cond, rfl⟩ := hc
  refine ⟨w, env, ω, rfl, s, PostN.of ((SPost.out s p).mono (fun d w1 ok1 e1 q v r => ?_) fun _ _ _ _ h => h) fun d h e => lc_lst e⟩
  have s1 := s.ext ok1 e1
  exact q w1 _ ω rfl ⟨ok1, s1.be, s1.eo.set r⟩ (Le.refl _)
theorem nw_own {D : Ends} {H : Hp} : tS G B Wx F gl (.setN i c) D σ H → tAsg (tNw G B Wx F gl c) (gName i) D σ H := fun ⟨w, env, ω, e, s, p⟩ => by
  subst e
  rw [evS] at p
  refine ⟨w, env, ω, rfl, s, ?_⟩
  cases hev : evE F gl env c w.h with
  | bad => rw [hev] at p; exact p.elim
  | exc x h =>
    rw [hev] at p
    exact fun w' eh ok' e' => p w' σ ω eh (s.ext ok' e') (e'.le s.ok)
  | ok d h =>
    rw [hev] at p
    have p : SPost G B Wx D w (if fresh c then (match newOb d with | some o => .next (env.set i (.own o)) h | none => .bad) else .bad) := p
    by_cases hf : fresh c = true
    rotate_left
    · rw [if_neg hf] at p; exact p.elim
    rw [if_pos hf] at p
    cases d with
    | lst rr =>
      intro w2 D0 acc eh ok2 e2 hD hacc racc nz nl
      have s2 := s.ext ok2 e2
      refine p w2 _ _ eh (s2.setOwn (.lst hacc racc) nz nl (s.be.dom _ hD) (fun j u hj q => ?_) fun _ _ e => nomatch e) (e2.le s.ok)
      obtain ⟨_, h2, _⟩ := s.eo.own j u hj
      obtain ⟨z, hz, _⟩ := h2.soft
      rw [q, hD] at hz
      cases hz
    | _ => exact p.elim
theorem s_setN (hN : C.N.Nodup) (ok : XOk G C gl F n sc lsc X) (hi : C.N[i]? = some x) (hl : isLoc lsc x = true) (hv : PE X v (tNw G B Wx F gl c)) (hs : swapsWith v (some (.Name x p)) pos.line X.env = pure false) :
    PS X (.Assign [.Name x p] v pos) (tS G B Wx F gl (.setN i c)) := by
  obtain ⟨h1, h2⟩ := ok.fnl x hl
  exact PS.imp (ps_set (by rw [ok.N]; exact hN) (by rw [ok.N]; exact hi) h1 hv hs h2) fun D σ H q => nw_own q
/-- a new list's own -/
theorem n_lst (h : PA X es (tEs G B Wx F gl as)) : PE X (.List es pos) (tNw G B Wx F gl (.lst as)) := by
  refine PE.imp (pe_lst h) fun σ H Q ⟨w, env, ω, e, s, p⟩ => ?_
  subst e
  rw [evE] at p
  refine ⟨w, env, ω, rfl, s, ?_⟩
  cases hev : evEs F gl env as w.h with
  | bad => rw [hev] at p; exact p.elim
  | exc x h => rw [hev] at p; exact p
  | ok ds h =>
    rw [hev] at p
    intro w1 eh ok1 e1 vs rs
    have p : PostN G w (if ds.length ≤ LIM then .ok (.lst ds) h else .bad) Q (XP G Wx σ) := p
    by_cases hz : ds.length ≤ LIM
    · rw [if_pos hz] at p
      refine ⟨by rw [← rs.length]; exact hz, fun p0 hp0 => ?_⟩
      obtain ⟨k1, k2, k3, k4⟩ := W.new_ok (o := .lst vs) ok1 hp0
      exact p (w1.mut p0 (.lst vs)) p0 vs eh k1 (e1.trans k2) (e1.dom _ hp0) upd_same (rs.ext ok1 k2) k3 k4
    · rw [if_neg hz] at p; exact p.elim
theorem n_lc {tg : Expr} {ifs : List Expr} {scope : Scope} {elt : CE} {own : List Nat} {t : Tg} {src : CI} {cond : CO} (ok : XOk G C gl F n sc lsc X) (hc : C.calm = true)
    (hi : PI X tg it (tI G B Wx F gl src)) (hb : BlkOk X.N X.env.scope scope (ownOf C.N own)) (hin : tgIn t own = true)
    (hg : ∀ (s : Shared) (H : Hp) (Ca : Addr) (cl : List (Str × Addr)) (fp : List Addr), PG (X.blk s H scope (compEnvC scope cl Ca X.env) fp) tg (gTg G.K t))
    (ht : ∀ (s : Shared) (H : Hp) (Ca : Addr) (cl : List (Str × Addr)) (fp : List Addr), PTs (X.blk s H scope (compEnvC scope cl Ca X.env) fp) ifs (tCn G B (fun _ _ _ _ => False) F gl cond))
    (he : ∀ (s : Shared) (H : Hp) (Ca : Addr) (cl : List (Str × Addr)) (fp : List Addr), PE (X.blk s H scope (compEnvC scope cl Ca X.env) fp) el (tE G B (fun _ _ _ _ => False) F gl elt))
    (hs : plainB it = true) : PE X (.ListComp el [⟨tg, it, ifs, 0⟩] scope pos) (tNw G B Wx F gl (.lc elt own t src cond)) := by
  refine PE.imp (pe_lc (ok.calm hc) (by rw [ok.N]; exact ok.nd) hi hb hg ht he (fold_plain hs _)) fun σ H Q ⟨w, env, ω, e, s, p⟩ => ?_
  subst e
  rw [own_map]
  exact lc_read hin s p
theorem n_list (ok : XOk G C gl F n sc lsc X) (hc : C.calm = true) (hg : isGl sc "list" = true) (hp : plainB e = true) (h : PE X e (tBa G B Wx F gl a)) : PE X (.Call (.Name "list" p) [e] [] pos) (tNw G B Wx F gl (.blt .list (.cons a .nil))) := by
  obtain ⟨g1, g2⟩ := gl_of hg ok.hsc
  have hm := ok.blt "list" (by decide)
  refine PE.imp (pe_callTy (CallR.or call_list_of (call_listS (ok.calm hc))) g1 hm (by decide +kernel) (bs_cons hp h bs_nil) (by decide) g2 (star_one hp _ _) rfl) fun σ H Q ⟨w, env, ω, e, s, p⟩ => ?_
  subst e
  rw [evE] at p
  refine ⟨w, env, ω, rfl, s, ?_⟩
  cases hev : evBs F gl env (.cons a .nil) w.h with
  | bad => rw [hev] at p; exact p.elim
  | exc x h => rw [hev] at p; exact p
  | ok ds h =>
    rw [hev] at p
    intro w1 eh ok1 e1 vs rs
    have p : PostN G w (lift (bltD .list (ds.map (see h))) h) Q (XP G Wx σ) := p
    subst eh
    have va := rs.vw ok1
    revert p va
    generalize ds.map (see w1.h) = zs
    intro p va
    have fin : ∀ (ad : Addr) (us : List V) (dd : List D), (SqL X.K w1.H ad us ∨ SqT X.K w1.H ad us) → Reps G w1 dd us → vs = [.ref ad] → PostN G w (.ok (.lst dd) w1.h) Q (XP G Wx σ) →
        ∃ p ys, vs = [.ref p] ∧ (SqL X.K w1.H p ys ∨ SqT X.K w1.H p ys) ∧ ∀ l, w1.H l = none → Q (.ref l) (upd w1.H l (.lst ys)) := fun ad us dd hs rr ev pp => by
      refine ⟨ad, us, ev, hs, fun p0 hp0 => ?_⟩
      obtain ⟨k1, k2, k3, k4⟩ := W.new_ok (o := .lst us) ok1 hp0
      exact pp (w1.mut p0 (.lst us)) p0 us rfl k1 (e1.trans k2) (e1.dom _ hp0) upd_same (rr.ext ok1 k2) k3 k4
    cases va with
    | nil => exact p.elim
    | cons v1 va =>
      cases va with
      | cons _ _ =>
        exfalso
        revert p
        unfold bltD
        split <;> intro p <;> first | exact p.elim | simp_all
      | nil =>
        cases v1 with
        | lst hl rl => exact .inl (fin _ _ _ (.inl (by rw [ok.K]; exact hl.sq)) rl rfl p)
        | tup hl rl => exact .inl (fin _ _ _ (.inr (by rw [ok.K]; exact hl)) rl rfl p)
        | str z hz =>
          refine .inr ⟨z, rfl, hz, fun p0 hp0 => ?_⟩
          obtain ⟨k1, k2, k3, k4⟩ := W.new_ok (o := .lst (z.cps.toList.map fun c => V.str ⟨#[c]⟩)) ok1 hp0
          have p' : PostN G w (.ok (.lst (z.cps.toList.map fun c => .str ⟨#[c]⟩)) w1.h) Q (XP G Wx σ) := p
          exact p' (w1.mut p0 _) p0 _ rfl k1 (e1.trans k2) (e1.dom _ hp0) upd_same (signs_rep _) k3 k4
        | _ => exact p.elim
theorem n_rgl1 {p2 pos2 : Pos} (ok : XOk G C gl F n sc lsc X) (hc : C.calm = true) (hg : isGl sc "list" = true) (hr : isGl sc "range" = true) (hp : plainB m = true) (h : PE X m (tE G B Wx F gl a)) : PE X (.Call (.Name "list" p) [.Call (.Name "range" p2) [m] [] pos2] [] pos) (tNw G B Wx F gl (.rgl false (.rng1 a))) := by
  obtain ⟨g1, g2⟩ := gl_of hg ok.hsc
  obtain ⟨r1, r2⟩ := gl_of hr ok.hsc
  refine PE.imp (pe_listRg (ok.calm hc) g1 (ok.blt _ (by simp [names0])) (prg_1 r1 (ok.blt _ (by simp [names0])) h (star_one hp _ _)) rfl) fun σ H Q ⟨w, env, ω, e, s, q⟩ => ?_
  subst e
  rw [evE, evI] at q
  refine ⟨w, env, ω, rfl, s, ?_⟩
  cases hev : evE F gl env a w.h with
  | bad => rw [hev] at q; exact q.elim
  | exc x h => rw [hev] at q; exact q
  | ok d h =>
    rw [hev] at q
    intro w1 eh ok1 e1 v1 rv
    cases rv with
    | int j =>
      have q : PostN G w ((lift (rngD 0 j) h).bind fun ds h1 => if ds.length ≤ LIM then Res.ok (if false = true then D.tup ds else D.lst ds) h1 else .bad) Q (XP G Wx σ) := q
      refine ⟨j, rfl, ?_⟩
      cases hd : rngD 0 j with
      | none => rw [hd] at q; exact q.elim
      | some ds =>
        rw [hd] at q
        have q : PostN G w (if ds.length ≤ LIM then Res.ok (if false = true then D.tup ds else D.lst ds) h else .bad) Q (XP G Wx σ) := q
        by_cases hz : ds.length ≤ LIM
        rotate_left
        · rw [if_neg hz] at q; exact q.elim
        rw [if_pos hz] at q
        have hd' := hd
        unfold rngD at hd
        split at hd
        · rename_i hb
          cases hd
          simp only [Bool.and_eq_true, decide_eq_true_eq] at hb
          have rr : Reps G w1 ((List.range (j - 0).toNat).map fun (k : Nat) => D.int (0 + k)) (rgV 0 j) := reps_ints (fun k => 0 + k) _
          have hz' : (j - 0).toNat ≤ 16777216 := by simpa using hz
          refine ⟨⟨by omega, by omega, by omega, by omega, by omega⟩, fun p0 hp0 => ?_⟩
          obtain ⟨k1, k2, k3, k4⟩ := W.new_ok (o := .lst (rgV 0 j)) ok1 hp0
          exact q (w1.mut p0 (.lst (rgV 0 j))) p0 _ eh k1 (e1.trans k2) (e1.dom _ hp0) upd_same (rr.ext ok1 k2) k3 k4
        · cases hd
    | _ => exact q.elim
/-- a, b = e -/
theorem s_setT {is : List Nat} {j : Nat} (ok : XOk G C gl F n sc lsc X) (hc : C.calm = true) (hn : ckNms C lsc is es = true) (hv : PE X v (tE G B Wx F gl c)) (h1 : noComp v = true) (h2 : noDisp v = true) :
    PS X (.Assign [.Tuple es j p] v pos) (tS G B Wx F gl (.setT is c)) := by
  have hg : PG X (.Tuple es j p) (gTg G.K (.tup is)) := g_tg ok (show (C.calm && ckNms C lsc is es) = true by rw [hc, hn]; rfl)
  refine PS.imp (ps_asg hv hg (by unfold swapsWithSole; exact swaps_none h1 _ _ _) (by cases v <;> first | rfl | cases h2) rfl) fun D σ H ⟨w, env, ω, e, s, p⟩ => ?_
  subst e
  rw [evS] at p
  refine ⟨w, env, ω, rfl, s, (SPost.out s p).mono (fun d w1 ok1 e1 q v r => ?_) fun _ _ _ _ h => h⟩
  have s1 := s.ext ok1 e1
  cases hb : bindT (.tup is) d env with
  | none => simp only [hb] at q; exact q.elim
  | some env' =>
    simp only [hb] at q
    exact bind_ok s1.eo r hb fun σ' eo' _ => q w1 σ' ω rfl ⟨ok1, s1.be, eo'⟩ (Le.refl _)
theorem s_ex (hv : PE X v (tE G B Wx F gl c)) (h1 : noComp v = true) : PS X (.Expr v pos) (tS G B Wx F gl (.ex c)) := by
  refine PS.imp (ps_expr hv (swaps_none h1 _ _ _)) fun D σ H ⟨w, env, ω, e, s, p⟩ => ?_
  subst e
  rw [evS] at p
  exact ⟨w, env, ω, rfl, s, (SPost.out s p).mono (fun d w1 ok1 e1 q v r => q w1 σ ω rfl (s.ext ok1 e1) (Le.refl _)) fun _ _ _ _ h => h⟩
theorem s_ret (hv : PE X v (tE G B Wx F gl c)) : PS X (.Return (some v) pos) (tS G B Wx F gl (.ret c)) := by
  refine PS.imp (ps_ret hv) fun D σ H ⟨w, env, ω, e, s, p⟩ => ?_
  subst e
  rw [evS] at p
  exact ⟨w, env, ω, rfl, s, (SPost.out s p).mono (fun d w1 ok1 e1 q v r => q w1 v rfl ok1 (s.be.trans e1) (Le.refl _) r) fun _ _ _ _ h => h⟩
theorem s_retN : PS X (.Return none pos) (tS G B Wx F gl .retN) := by
  refine PS.imp ps_retN fun D σ H ⟨w, env, ω, e, s, p⟩ => ?_
  subst e
  rw [evS] at p
  exact p w .non rfl s.ok s.be (Le.refl _) .non
theorem s_pass : PS X (.Pass pos) (tS G B Wx F gl .pass) := PS.imp ps_pass fun D σ H ⟨w, env, ω, e, s, p⟩ => by
  subst e
  rw [evS] at p
  exact p w σ ω rfl s (Le.refl _)
theorem s_brk : PS X (.Break pos) (tS G B Wx F gl .brk) := PS.imp ps_break fun D σ H ⟨w, env, ω, e, s, p⟩ => by
  subst e
  rw [evS] at p
  exact p w σ ω rfl s (Le.refl _)
theorem s_cont : PS X (.Continue pos) (tS G B Wx F gl .cont) := PS.imp ps_continue fun D σ H ⟨w, env, ω, e, s, p⟩ => by
  subst e
  rw [evS] at p
  exact p w σ ω rfl s (Le.refl _)
theorem s_ite {b1 b2 : List Stmt} {c1 c2 : CSs} (hc : PT X e (tT G B Wx F gl c)) (h1 : PSs X b1 (tSs G B Wx F gl c1)) (h2 : PSs X b2 (tSs G B Wx F gl c2)) : PS X (.If e b1 b2 pos) (tS G B Wx F gl (.ite c c1 c2)) := by
  refine PS.imp (ps_if hc h1 h2) fun D σ H ⟨w, env, ω, e, s, p⟩ => ?_
  subst e
  rw [evS] at p
  refine ⟨w, env, ω, rfl, s, (SPost.out s p).mono (fun k w1 ok1 e1 q => ?_) fun _ _ _ _ h => h⟩
  have s1 := s.ext ok1 e1
  cases k with
  | true => exact iteT ⟨w1, env, ω, rfl, s1, q⟩
  | false => exact iteF ⟨w1, env, ω, rfl, s1, q⟩
theorem ss_nil : PSs X [] (tSs G B Wx F gl .nil) := PSs.imp pss_nil fun D σ H ⟨w, env, ω, e, s, p⟩ => by
  subst e
  rw [evSs] at p
  exact p w σ ω rfl s (Le.refl _)
theorem ss_cons {st : Stmt} {sts : List Stmt} {c : CS} {cs : CSs} (h1 : PS X st (tS G B Wx F gl c)) (h2 : PSs X sts (tSs G B Wx F gl cs)) : PSs X (st :: sts) (tSs G B Wx F gl (.cons c cs)) := by
  refine PSs.imp (pss_cons h1 h2) fun D σ H ⟨w, env, ω, e, s, p⟩ => ?_
  subst e
  rw [evSs] at p
  refine ⟨w, env, ω, rfl, s, ?_⟩
  cases q : evS F gl c env w.h with
  | next env' h' =>
    rw [q] at p
    intro w' σ' ω' eh s' le
    subst eh
    exact ⟨w', env', ω', rfl, s', SPost.later p le⟩
  | ret d h => rw [q] at p; exact p
  | brk env' h => rw [q] at p; exact p
  | cont env' h => rw [q] at p; exact p
  | exc x env' h => rw [q] at p; exact p
  | bad => rw [q] at p; exact p
/-- ghost: freeze -/
theorem ss_frz {sts : List Stmt} {cs : CSs} (h2 : PSs X sts (tSs G B Wx F gl cs)) : PSs X sts (tSs G B Wx F gl (.cons (.frz i) cs)) := by
  refine PSs.imp h2 fun D σ H ⟨w, env, ω, e, s, p⟩ => ?_
  subst e
  rw [evSs, evS] at p
  cases hi : env[i]? with
  | none => simp only [hi] at p; exact p.elim
  | some sl => cases sl with
    | no => simp only [hi] at p; exact p.elim
    | bor _ => simp only [hi] at p; exact p.elim
    | key _ => simp only [hi] at p; exact p.elim
    | ex _ => simp only [hi] at p; exact p.elim
    | val d => simp only [hi] at p; exact p.elim
    | own ob =>
      simp only [hi] at p
      exact ⟨w.fz (ω i), _, ω, rfl, s.frz hi, SPost.later p W.fz_le⟩
end
end Rf
set_option Elab.async false
set_option linter.all false
set_option maxRecDepth 100000
set_option maxHeartbeats 8000000
/-! G16: append, items stored, loops; all statements -/
namespace Rf
open PySem L2 PySem.Spec PyProof.Rows
section
variable {G : Gm} {B : Bs} {w w1 w' : W} {Wx : WX} {F : FTab} {gl : Nat → Option D} {C : Ck} {n : Nat} {sc lsc : Scope} {X : Cx} {env env' : En} {σ : List (Option V)} {ω : Nat → Addr}
  {l m r e e' v it el tg : Expr} {es : List Expr} {a b c : CE} {as bs : CEs} {pos p p2 : Pos} {x y : Str} {Dn : Ends} {i : Nat} {m' : Pos}
/-- x.append(e) -/
theorem s_app (ok : XOk G C gl F n sc lsc X) (hi : C.N[i]? = some x) (hv : isVis sc x = true) (hp : plainB v = true) (hl : (p2.endLine == p.line) = true) (h : PE X v (tE G B Wx F gl c)) :
    PS X (.Expr (.Call (.Attribute (.Name x pos) "append" p2) [v] [] p) m') (tS G B Wx F gl (.app i c)) := by
  obtain ⟨h1, h2, h3⟩ := vis_of hv ok.hsc
  have hb : PE X (.Call (.Attribute (.Name x pos) "append" p2) [v] [] p) (tBM X.K "list" rAppend (tVar i) (tCons (tE G B Wx F gl c) tNil)) :=
    pe_bm PySem.F.plainAttrs_list PySem.F.slot_list_append PySem.F.type_list_append mt_append (pe_var (by rw [ok.N]; exact hi) h1 h2 h3) (pa_cons h pa_nil (star_one hp _ _)) rfl (by rw [star_one hp]; rfl) hl (star_one hp _ _) rfl
  refine PS.imp (ps_expr hb rfl) fun D σ H ⟨w, env, ω, e, s, p⟩ => ?_
  subst e
  rw [evS] at p
  cases q : env[i]? with
  | none => simp only [q] at p; exact p.elim
  | some sl => cases sl with
    | no => simp only [q] at p; exact p.elim
    | bor _ => simp only [q] at p; exact p.elim
    | key _ => simp only [q] at p; exact p.elim
    | ex _ => simp only [q] at p; exact p.elim
    | own ob =>
      cases ob with
      | lst ds =>
        simp only [q] at p
        obtain ⟨k1, k2, k3, k4, k5⟩ := s.eo.own i _ q
        cases k2 with | lst hH rH =>
        refine ⟨_, k1, .inl ⟨rfl, _, SqL.of hH⟩, w, env, ω, rfl, s, (SPost.out s p).mono (fun d w1 ok1 e1 q2 v1 r1 => ?_) fun _ _ _ _ h => h⟩
        have s1 := s.ext ok1 e1
        obtain ⟨j1, j2, j3, j4, j5⟩ := s1.eo.own i _ q
        cases j2 with | lst hH1 rH1 =>
        by_cases hz : ds.length < LIM
        · rw [if_pos hz] at q2
          refine ⟨_, _, v1, rfl, rfl, hH1, by rw [← rH1.length]; exact hz, ?_⟩
          rename_i vs1
          have new : ObAt G (w1.mut (ω i) (.lst (vs1 ++ [v1]))) (ω i) (.lst (ds ++ [d])) := by
            have le := W.mut_le (o := .lst (vs1 ++ [v1])) j3 hH1 trivial
            exact .lst upd_same ((rH1.le le).append (.cons (r1.le le) .nil))
          obtain ⟨t1, t2⟩ := s1.mutOwn q new fun _ _ e => nomatch e
          exact q2 (w1.mut (ω i) (.lst (vs1 ++ [v1]))) σ ω rfl t1 t2
        · rw [if_neg hz] at q2; exact q2.elim
      | dk _ => simp only [q] at p; exact p.elim
      | dt _ => simp only [q] at p; exact p.elim
      | ins _ _ => simp only [q] at p; exact p.elim
    | val d =>
      cases d with
      | cell k =>
        simp only [q] at p
        obtain ⟨v0, k1, k2⟩ := s.eo.vals i _ q
        cases k2 with | cell _ hk =>
        cases hk0 : w.h[k]? with
        | none => simp only [hk0] at p; exact p.elim
        | some o0 => cases o0 with
          | none => simp only [hk0] at p; exact p.elim
          | some ob => cases ob with
            | lst ds0 =>
              simp only [hk0] at p
              obtain ⟨h2, h3⟩ := s.ok.cell k _ hk0
              cases h2 with | lst hH rH =>
              refine ⟨_, k1, .inl ⟨rfl, _, SqL.of hH⟩, w, env, ω, rfl, s, (SPost.out s p).mono (fun d w1 ok1 e1 q2 v1 r1 => ?_) fun _ _ _ _ h => h⟩
              have s1 := s.ext ok1 e1
              have ek : w1.ι k = w.ι k := e1.ι k hk
              cases hk1 : w1.h[k]? with
              | none => simp only [hk1] at q2; exact q2.elim
              | some o1 => cases o1 with
                | none => simp only [hk1] at q2; exact q2.elim
                | some ob1 => cases ob1 with
                  | lst ds =>
                    simp only [hk1] at q2
                    obtain ⟨j2, j3⟩ := ok1.cell k _ hk1
                    cases j2 with | lst hH1 rH1 =>
                    by_cases hz : ds.length < LIM
                    · rw [if_pos hz] at q2
                      obtain ⟨t1, t2⟩ := cell_mut ok1 hk1 (rH1.append (.cons r1 .nil))
                      rw [ek] at hH1
                      refine ⟨_, _, v1, rfl, rfl, hH1, by rw [← rH1.length]; exact hz, ?_⟩
                      rw [← ek]
                      exact q2 ⟨w1.Z, w1.ι, w1.h.set k (some (.lst (ds ++ [d]))), upd w1.H (w1.ι k) (.lst _)⟩ σ ω rfl (s1.ext t1 t2) (t2.le ok1)
                    · rw [if_neg hz] at q2; exact q2.elim
                  | _ => simp only [hk1] at q2; exact q2.elim
            | _ => simp only [hk0] at p; exact p.elim
      | _ => simp only [q] at p; exact p.elim
theorem ixN_len {α β : Type} {xs : List α} {ys : List β} (h : xs.length = ys.length) (j : Int) : ixN xs.length j = ixN ys.length j := by rw [h]
/-- x[e] = v, x a name -/
theorem s_sub (ok : XOk G C gl F n sc lsc X) (hi : C.N[i]? = some x) (hvs : isVis sc x = true) (hp : plainB e = true) (h1 : noComp v = true) (hv : PE X v (tE G B Wx F gl c)) (he : PE X e (tE G B Wx F gl a)) :
    PS X (.Assign [.Subscript (.Name x pos) e p] v p2) (tS G B Wx F gl (.setSub (.var i) a c)) := by
  obtain ⟨g1, g2, g3⟩ := vis_of hvs ok.hsc
  have hg : PG X (.Subscript (.Name x pos) e p) (gSub (tVar i) (tE G B Wx F gl a) rSetL) := pg_sub (pe_var (by rw [ok.N]; exact hi) g1 g2 g3) he set_list (by
    intro v
    cases e <;> first | rfl | cases hp)
  refine PS.imp (ps_asg hv hg (by unfold swapsWithSole; exact swaps_none h1 _ _ _) (by cases v <;> rfl) rfl) fun D σ H ⟨w, env, ω, ew, s, p⟩ => ?_
  subst ew
  rw [evS] at p
  refine ⟨w, env, ω, rfl, s, (SPost.out s p).mono (fun d w1 ok1 e1 q2 v1 r1 => ?_) fun _ _ _ _ h => h⟩
  have s1 := s.ext ok1 e1
  cases q : env[i]? with
  | none => simp only [q] at q2; exact q2.elim
  | some sl => cases sl with
    | no => simp only [q] at q2; exact q2.elim
    | bor _ => simp only [q] at q2; exact q2.elim
    | key _ => simp only [q] at q2; exact q2.elim
    | ex _ => simp only [q] at q2; exact q2.elim
    | own ob =>
      cases ob with
      | lst ds =>
        simp only [q] at q2
        obtain ⟨k1, k2, k3, k4, k5⟩ := s1.eo.own i _ q
        refine ⟨_, k1, w1, env, ω, rfl, s1, (SPost.out s1 q2).mono (fun y w2 ok2 e2 q3 vy ry => ?_) fun _ _ _ _ h => h⟩
        have s2 := s1.ext ok2 e2
        obtain ⟨j1, j2, j3, j4, j5⟩ := s2.eo.own i _ q
        cases j2 with | lst hH rH =>
        rename_i vs
        cases ry with
        | int j =>
          simp only at q3
          cases hx : ixN ds.length j with
          | none => simp only [hx] at q3; exact q3.elim
          | some n0 =>
            simp only [hx] at q3
            refine ⟨_, _, j, n0, rfl, rfl, hH, by rw [← rH.length]; exact hx, ?_⟩
            have le := W.mut_le (o := .lst (vs.set n0 v1)) j3 hH trivial
            have r1' := (r1.ext ok1 e2).le le
            obtain ⟨t1, t2⟩ := s2.mutOwn (ob' := .lst (ds.set n0 d)) q (.lst upd_same (Reps.set r1' n0 (rH.le le))) fun _ _ e => nomatch e
            exact q3 (w2.mut (ω i) (.lst (vs.set n0 v1))) σ ω rfl t1 t2
        | _ => exact q3.elim
      | _ => simp only [q] at q2; exact q2.elim
    | val dd =>
      cases dd with
      | cell k =>
        simp only [q] at q2
        obtain ⟨v0, k1, k2⟩ := s1.eo.vals i _ q
        cases k2 with | cell _ hk =>
        refine ⟨_, k1, w1, env, ω, rfl, s1, (SPost.out s1 q2).mono (fun y w2 ok2 e2 q3 vy ry => ?_) fun _ _ _ _ h => h⟩
        have s2 := s1.ext ok2 e2
        have ek : w2.ι k = w1.ι k := e2.ι k hk
        cases ry with
        | int j =>
          cases hk2 : w2.h[k]? with
          | none => simp only [hk2] at q3; exact q3.elim
          | some o1 => cases o1 with
            | none => simp only [hk2] at q3; exact q3.elim
            | some ob1 => cases ob1 with
              | lst ds =>
                simp only [hk2] at q3
                obtain ⟨j2, j3⟩ := ok2.cell k _ hk2
                cases j2 with | lst hH rH =>
                cases hx : ixN ds.length j with
                | none => simp only [hx] at q3; exact q3.elim
                | some n0 =>
                  simp only [hx] at q3
                  rw [ek] at hH
                  refine ⟨_, _, j, n0, rfl, rfl, hH, by rw [← rH.length]; exact hx, ?_⟩
                  obtain ⟨t1, t2⟩ := cell_mut ok2 hk2 (Reps.set (r1.ext ok1 e2) n0 rH)
                  rw [← ek]
                  exact q3 ⟨w2.Z, w2.ι, w2.h.set k (some (.lst (ds.set n0 d))), upd w2.H (w2.ι k) (.lst _)⟩ σ ω rfl (s2.ext t1 t2) (t2.le ok2)
              | _ => simp only [hk2] at q3; exact q3.elim
        | _ => exact q3.elim
      | _ => simp only [q] at q2; exact q2.elim
theorem RepF.length : ∀ {fs : List (Nat × D)} {fvs : List (Str × V)}, RepF G w fs fvs → fs.length = fvs.length
  | _, _, .nil => rfl
  | _, _, .cons _ r => by rw [List.length_cons, List.length_cons, RepF.length r]
theorem RepF.put (go : G.Ok) {f : Nat} {d : D} {z : V} (rz : Rep G w d z) : ∀ {fs : List (Nat × D)} {fvs : List (Str × V)}, RepF G w fs fvs → RepF G w (putD f d fs) (putF (G.sy f) z fvs)
  | _, _, .nil => .cons rz .nil
  | _, _, .cons (k := k) (d := d0) (ds := ds) (v := v0) (vs := vs) r rs => by
    unfold putD putF
    by_cases q : k = f
    · subst q
      rw [if_pos rfl, if_pos rfl]
      exact .cons rz rs
    · have ns : G.sy k ≠ G.sy f := fun e => by
        rcases Nat.lt_or_gt_of_ne q with l | l
        · exact go.sy k f l e
        · exact go.sy f k l e.symm
      rw [if_neg q, if_neg ns]
      exact .cons r (RepF.put go rz rs)
/-- x.f = v, x a name -/
theorem s_attr {f : Nat} {y : Str} (ok : XOk G C gl F n sc lsc X) (go : G.Ok) (hi : C.N[i]? = some x) (hvs : isVis sc x = true) (hf : C.T.fld[f]? = some y) (h1 : noComp v = true) (hv : PE X v (tE G B Wx F gl c)) :
    PS X (.Assign [.Attribute (.Name x pos) y p] v p2) (tS G B Wx F gl (.setAttr (.var i) f c)) := by
  obtain ⟨g1, g2, g3⟩ := vis_of hvs ok.hsc
  refine PS.imp (ps_fld (pe_var (by rw [ok.N]; exact hi) g1 g2 g3) hv (swaps_none h1 _ _ _)) fun D σ H ⟨w, env, ω, e, s, q⟩ => ?_
  subst e
  rw [evS] at q
  refine ⟨w, env, ω, rfl, s, (SPost.out s q).mono (fun d w1 ok1 e1 q2 z rz => ?_) fun _ _ _ _ h => h⟩
  have s1 := s.ext ok1 e1
  cases hq : env[i]? with
  | none => simp only [hq] at q2; exact q2.elim
  | some sl => cases sl with
    | no => simp only [hq] at q2; exact q2.elim
    | bor _ => simp only [hq] at q2; exact q2.elim
    | key _ => simp only [hq] at q2; exact q2.elim
    | ex _ => simp only [hq] at q2; exact q2.elim
    | own ob =>
      cases ob with
      | ins k fs =>
        simp only [hq] at q2
        obtain ⟨j1, j2, j3, j4, j5⟩ := s1.eo.own i _ hq
        have jm := s1.eo.mine i k fs hq
        cases j2 with
        | ins hc hH rf =>
          rename_i dx fvs
          by_cases hg : (F.tb.ft k f && decide (fs.length < 900)) = true
          · rw [if_pos hg] at q2
            rw [Bool.and_eq_true, decide_eq_true_eq] at hg
            obtain ⟨_, hna⟩ := ok.ft k f hg.1
            have hy := ok.sy f y hf
            refine ⟨_, j1, ω i, G.ca k, dx, fvs, rfl, hH, by rw [ok.K]; exact go.cls k hc, by rw [ok.K, ← hy]; exact hna, by rw [← rf.length]; omega, ?_⟩
            have le := W.mut_le (o := .ins (G.ca k) dx (putF y z fvs)) j3 hH trivial
            have new : ObAt G (w1.mut (ω i) (.ins (G.ca k) dx (putF y z fvs))) (ω i) (.ins k (putD f d fs)) := .ins hc upd_same (by rw [← hy]; exact RepF.put go (rz.le (hy ▸ le)) (rf.le (hy ▸ le)))
            obtain ⟨t1, t2⟩ := s1.mutOwn hq new fun _ _ _ => jm
            exact q2 (w1.mut (ω i) (.ins (G.ca k) dx (putF y z fvs))) σ ω rfl t1 t2
          · rw [if_neg hg] at q2; exact q2.elim
      | lst _ => simp only [hq] at q2; exact q2.elim
      | dk _ => simp only [hq] at q2; exact q2.elim
      | dt _ => simp only [hq] at q2; exact q2.elim
    | val dd =>
      cases dd with
      | cell k =>
        simp only [hq] at q2
        obtain ⟨v0, j1, j2⟩ := s1.eo.vals i _ hq
        cases j2 with | cell _ hk =>
        cases hk0 : w1.h[k]? with
        | none => simp only [hk0] at q2; exact q2.elim
        | some o0 => cases o0 with
          | none => simp only [hk0] at q2; exact q2.elim
          | some ob => cases ob with
            | ins kk fs =>
              simp only [hk0] at q2
              obtain ⟨hO, hZ⟩ := ok1.cell k _ hk0
              cases hO with
              | ins hc hH rf =>
                rename_i dx fvs
                by_cases hg : (F.tb.ft kk f && decide (fs.length < 900)) = true
                · rw [if_pos hg] at q2
                  rw [Bool.and_eq_true, decide_eq_true_eq] at hg
                  obtain ⟨_, hna⟩ := ok.ft kk f hg.1
                  have hy := ok.sy f y hf
                  refine ⟨_, j1, w1.ι k, G.ca kk, dx, fvs, rfl, hH, by rw [ok.K]; exact go.cls kk hc, by rw [ok.K, ← hy]; exact hna, by rw [← rf.length]; omega, ?_⟩
                  obtain ⟨t1, t2⟩ := cell_mutG (ob' := .ins kk (putD f d fs)) (o' := .ins (G.ca kk) dx (putF y z fvs)) ok1 hk0 fun w' e hh => .ins hc hh (by rw [← hy]; exact RepF.put go (rz.ext ok1 e) (rf.ext ok1 e))
                  exact q2 ⟨w1.Z, w1.ι, w1.h.set k (some (.ins kk (putD f d fs))), upd w1.H (w1.ι k) (.ins (G.ca kk) dx (putF y z fvs))⟩ σ ω rfl (s1.ext t1 t2) (t2.le ok1)
                · rw [if_neg hg] at q2; exact q2.elim
            | lst _ => simp only [hk0] at q2; exact q2.elim
            | dk _ => simp only [hk0] at q2; exact q2.elim
            | dt _ => simp only [hk0] at q2; exact q2.elim
      | _ => simp only [hq] at q2; exact q2.elim
/-- raise X('..') -/
theorem s_raise {k : Nat} {msg : Str} {j : Nat} {p3 : Pos} (ok : XOk G C gl F n sc lsc X) (tk : Takes X Wx) (hc : C.calm = true) (hr : C.T.rai.contains k = true) (hl : C.T.cls.length ≤ k) (hx : (C.T.cls ++ C.T.exc)[k]? = some x) (hg : isGl sc x = true) :
    PS X (.Raise (some (.Call (.Name x p) [.Constant (.str msg) j p2] [] p3)) none pos) (tS G B Wx F gl (.raise_ k)) := by
  obtain ⟨g1, g2⟩ := gl_of hg ok.hsc
  have e1 := ok.exc k x hl hx
  obtain ⟨e2, e3, e4, e5⟩ := ok.rai k hr
  rw [← ok.K] at e2 e3 e4 e5
  refine PS.imp (ps_raise (ok.calm hc) tk (pmk_own PySem.F.excBase_ValueError e2 e1 e3 (raises_own e4 e5) g1 g2)) fun D σ H ⟨w, env, ω, e, s, q⟩ => ?_
  subst e
  rw [evS] at q
  exact q w σ ω rfl s (Le.refl _) (.ref (G.ca k)) none ⟨rfl, .inl ⟨rfl, rfl⟩⟩
theorem XOk.tr (ok : XOk G C gl F n sc lsc X) {pn : List (Addr × Obj)} {xe : Value → Shared → Prop} (hp : PassesOwn (model X.prog X.w) X.A X.env xe) : XOk G C gl F n sc lsc (X.tr pn xe) where
  K := ok.K
  N := ok.N
  nd := ok.nd
  hsc := ok.hsc
  calm := ok.calm
  hu := ok.hu
  room := ok.room
  fnl := ok.fnl
  glob := ok.glob
  blt := ok.blt
  po := hp
  cls := ok.cls
  fn := ok.fn
  exc := ok.exc
  rai := ok.rai
  exm := ok.exm
  xi := ok.xi
  xf := ok.xf
  kf := ok.kf
  pt := ok.pt
  fnb := ok.fnb
  mkb := ok.mkb
  ot := ok.ot
  cv := ok.cv
  itf := ok.itf
  sy := ok.sy
  ft := ok.ft
  mt := ok.mt
  mkr := ok.mkr
/-- a suite: nothing that calls -/
def Ck.hot (C : Ck) : Ck := ⟨C.T, C.N, false⟩
theorem spF_hot {f : Nat} {vs : List V} {H : Hp} {Q : VK} {E : XK} (s : spF G F.hot f vs H Q E) : False := by
  obtain ⟨w, ds, _, _, _, p⟩ := s
  exact p
theorem spI_hot {c : Nat} {vs : List V} {H : Hp} {Q : VK} {E : XK} (s : spI G F.hot c vs H Q E) : False := by
  obtain ⟨w0, w, ds, a, dx, vs', _, _, _, _, _, _, _, _, _, _, _, p⟩ := s
  exact p
theorem spFB_hot {f : Nat} {vs : List V} {H : Hp} {Q : VK} {E : XK} (s : spFB G F.hot f vs H Q E) : False := by
  obtain ⟨w, ds, _, _, _, p⟩ := s
  exact p
theorem spIB_hot {c : Nat} {vs : List V} {H : Hp} {Q : VK} {E : XK} (s : spIB G F.hot c vs H Q E) : False := by
  obtain ⟨w0, w, ds, a, dx, vs', _, _, _, _, _, _, _, _, _, _, _, _, p⟩ := s
  exact p
theorem XOk.suite (ok : XOk G C gl F n sc lsc X) (a : Addr) (pn : List (Addr × Obj)) : XOk G C.hot gl F.hot n sc lsc (X.suite a pn) where
  K := ok.K
  N := ok.N
  nd := ok.nd
  hsc := ok.hsc
  calm := fun e => nomatch e
  hu := ok.hu
  room := fun e => nomatch e
  fnl := ok.fnl
  glob := ok.glob
  blt := ok.blt
  po := PassesOwn.never
  cls := ok.cls
  fn := fun f x h => by
    obtain ⟨a, h1, h2, h3⟩ := ok.fn f x h
    exact ⟨a, h1, h2, h3.imp fun vs H Q E z => (spF_hot z).elim⟩
  exc := ok.exc
  rai := ok.rai
  exm := ok.exm
  xi := ok.xi
  xf := ok.xf
  kf := fun _ _ _ _ e => nomatch e
  pt := fun _ _ _ e => nomatch e
  fnb := fun f x h => by
    obtain ⟨a, h1, h2, h3⟩ := ok.fnb f x h
    exact ⟨a, h1, h2, h3.imp fun vs H Q E z => (spFB_hot z).elim⟩
  mkb := fun c h => by
    obtain ⟨a, h1, h3⟩ := ok.mkb c h
    exact ⟨a, h1, h3.imp fun vs H Q E z => (spIB_hot z).elim⟩
  ot := fun c k f h => nomatch h
  cv := ok.cv
  itf := fun c f h => nomatch h
  sy := ok.sy
  ft := ok.ft
  mt := fun c m f h => by
    obtain ⟨h0, a, h1, h3⟩ := ok.mt c m f h
    exact ⟨h0, a, h1, h3.imp fun vs H Q E z => (spF_hot z).elim⟩
  mkr := fun c h => by
    obtain ⟨a, h1, h3⟩ := ok.mkr c h
    exact ⟨a, h1, h3.imp fun vs H Q E z => (spI_hot z).elim⟩
/-- try .. except X -/
theorem s_try {body suite : List Stmt} {b0 : Stmt} {cb ch : CSs} {k : Nat} {np pos' : Pos} (ok : XOk G C gl F n sc lsc X) (tk : Takes X Wx) (hs : X.stack = X.env :: X.outer) (hf : X.env.frame = some X.env.locals) (hl : C.T.cls.length ≤ k) (hx : (C.T.cls ++ C.T.exc)[k]? = some x) (hg : isGl sc x = true)
    (hb : ∀ (W : WX) (pn : List (Addr × Obj)) (xe : Value → Shared → Prop), Takes (X.tr pn xe) W → PassesOwn (model X.prog X.w) X.A X.env xe → PSs (X.tr pn xe) body (tSs G B W F gl cb))
    (hsu : ∀ (a : Addr) (pn : List (Addr × Obj)), PSs (X.suite a pn) (b0 :: suite) (tSs G B (fun _ _ _ _ => False) F.hot gl ch)) :
    PS X (.Try body [.ExceptHandler (some (.Name x np)) none (b0 :: suite) pos'] [] [] pos) (tS G B Wx F gl (.try_ cb k ch)) := by
  obtain ⟨g1, g2⟩ := gl_of hg ok.hsc
  have e1 := ok.exc k x hl hx
  refine PS.imp (ps_try_only (ts := fun _ _ _ => tSs G B (fun _ _ _ _ => False) F.hot gl ch) hs hf ⟨g1, g2, .inl e1⟩ tk hb (fun a oe cls d pn _ _ => hsu a _)) fun D σ H ⟨w, env, ω, e, s, q⟩ => ?_
  subst e
  rw [evS] at q
  refine ⟨w, env, ω, rfl, s, ?_⟩
  cases hr : evSs F gl cb env w.h with
  | next env' h' => rw [hr] at q; exact q
  | brk env' h' => rw [hr] at q; exact q
  | cont env' h' => rw [hr] at q; exact q
  | ret d h' => rw [hr] at q; exact q
  | bad => rw [hr] at q; exact q.elim
  | exc z env' h' =>
    rw [hr] at q
    simp only at q
    intro w' σ' ω' eh s' le cls dd hE
    obtain ⟨ec, _⟩ := id hE
    subst ec
    cases hb' : F.tb.sb z.c k with
    | none => simp only [hb'] at q; exact q.elim
    | some b =>
      have em := ok.exm z.c k b hb'
      rw [← ok.K] at em
      refine ⟨b, em, fun eb a _ => ?_, fun eb => ?_⟩
      · subst eb
        simp only [hb'] at q
        subst eh
        refine ⟨w', env', ω', rfl, s', ?_⟩
        cases hh : evSs F.hot gl ch env' w'.h with
        | exc z2 env2 h2 => rw [hh] at q; exact q.elim
        | next env2 h2 => rw [hh] at q; exact SPost.later (o := .next env2 h2) (Wx := fun _ _ _ _ => False) q le
        | brk env2 h2 => rw [hh] at q; exact SPost.later (o := .brk env2 h2) (Wx := fun _ _ _ _ => False) q le
        | cont env2 h2 => rw [hh] at q; exact SPost.later (o := .cont env2 h2) (Wx := fun _ _ _ _ => False) q le
        | ret d2 h2 => rw [hh] at q; exact SPost.later (o := .ret d2 h2) (Wx := fun _ _ _ _ => False) q le
        | bad => rw [hh] at q; exact q.elim
      · subst eb
        simp only [hb'] at q
        exact q w' σ' ω' eh s' le _ dd hE
theorem clr_get {env : En} {j : Nat} {s : Sl} (h : (clrEx env)[j]? = some s) (hs : s ≠ .no) : env[j]? = some s ∧ ∀ x, s ≠ .ex x := by
  unfold clrEx at h
  rw [List.getElem?_map] at h
  cases q : env[j]? with
  | none => rw [q] at h; cases h
  | some t =>
    rw [q] at h
    cases t with
    | ex z => cases h; exact absurd rfl hs
    | _ => cases h; exact ⟨rfl, fun x e => nomatch e⟩
/-- the exception in hand -/
def Bs.hand (B : Bs) (a : Addr) (cls : Value) (d : Option Addr) : Bs := { B with xa := a, xd := d, xc := cls }
theorem Stt.hand {i : Nat} {x : Exn} {a : Addr} {cls : Value} {d : Option Addr} (s : Stt G B w env σ ω) (h : ExR G w x cls d) : Stt G (B.hand a cls d) w ((clrEx env).set i (.ex x)) (σ.set i (some (.ref a))) ω := by
  refine ⟨s.ok, s.be, ?_⟩
  have key : ∀ {j : Nat} {t : Sl}, ((clrEx env).set i (.ex x))[j]? = some t → t ≠ .no → (∀ z, t ≠ .ex z) → i ≠ j ∧ env[j]? = some t := fun {j t} h hn hx => by
    obtain ⟨q, h⟩ := set_other h (fun e => hx x e.symm)
    exact ⟨q, (clr_get h hn).1⟩
  exact {
    len := by rw [List.length_set, List.length_set]; unfold clrEx; rw [List.length_map]; exact s.eo.len
    vals := fun j d h => by
      obtain ⟨q, h⟩ := key h (fun e => nomatch e) (fun _ e => nomatch e)
      rw [List.getElem?_set_ne q]
      exact s.eo.vals j d h
    own := fun j o h => by
      obtain ⟨q, h⟩ := key h (fun e => nomatch e) (fun _ e => nomatch e)
      rw [List.getElem?_set_ne q]
      exact s.eo.own j o h
    inj := fun j k o u h1 h2 e => by
      obtain ⟨_, h1⟩ := key h1 (fun e => nomatch e) (fun _ e => nomatch e)
      obtain ⟨_, h2⟩ := key h2 (fun e => nomatch e) (fun _ e => nomatch e)
      exact s.eo.inj j k o u h1 h2 e
    mine := fun j c fs h => by
      obtain ⟨_, h⟩ := key h (fun e => nomatch e) (fun _ e => nomatch e)
      exact s.eo.mine j c fs h
    bor := fun j o h => by
      obtain ⟨q, h⟩ := key h (fun e => nomatch e) (fun _ e => nomatch e)
      rw [List.getElem?_set_ne q]
      exact s.eo.bor j o h
    key := fun j o h => by
      obtain ⟨q, h⟩ := key h (fun e => nomatch e) (fun _ e => nomatch e)
      rw [List.getElem?_set_ne q]
      exact s.eo.key j o h
    ex := fun j z hj => by
      by_cases q : i = j
      · subst q
        by_cases hi : i < (clrEx env).length
        · rw [List.getElem?_set_self hi] at hj
          cases hj
          have hi' : i < σ.length := by
            rw [← s.eo.len]
            unfold clrEx at hi
            rw [List.length_map] at hi
            exact hi
          rw [List.getElem?_set_self hi']
          exact ⟨rfl, h.1, h.2⟩
        · rw [List.getElem?_eq_none (by rw [List.length_set]; omega)] at hj
          cases hj
      · rw [List.getElem?_set_ne q] at hj
        exact absurd rfl ((clr_get hj (fun e => nomatch e)).2 z) }
theorem Stt.unhand {i : Nat} {a : Addr} {cls : Value} {d : Option Addr} (s : Stt G (B.hand a cls d) w env σ ω) : Stt G B w ((clrEx env).set i .no) (σ.set i none) ω := by
  refine ⟨s.ok, s.be, ?_⟩
  have key : ∀ {j : Nat} {t : Sl}, ((clrEx env).set i .no)[j]? = some t → t ≠ .no → i ≠ j ∧ env[j]? = some t ∧ ∀ z, t ≠ .ex z := fun {j t} h hn => by
    obtain ⟨q, h⟩ := set_other h (fun e => hn e.symm)
    exact ⟨q, clr_get h hn⟩
  exact {
    len := by rw [List.length_set, List.length_set]; unfold clrEx; rw [List.length_map]; exact s.eo.len
    vals := fun j d h => by
      obtain ⟨q, h, _⟩ := key h (fun e => nomatch e)
      rw [List.getElem?_set_ne q]
      exact s.eo.vals j d h
    own := fun j o h => by
      obtain ⟨q, h, _⟩ := key h (fun e => nomatch e)
      rw [List.getElem?_set_ne q]
      exact s.eo.own j o h
    inj := fun j k o u h1 h2 e => by
      obtain ⟨_, h1, _⟩ := key h1 (fun e => nomatch e)
      obtain ⟨_, h2, _⟩ := key h2 (fun e => nomatch e)
      exact s.eo.inj j k o u h1 h2 e
    mine := fun j c fs h => by
      obtain ⟨_, h, _⟩ := key h (fun e => nomatch e)
      exact s.eo.mine j c fs h
    bor := fun j o h => by
      obtain ⟨q, h, _⟩ := key h (fun e => nomatch e)
      rw [List.getElem?_set_ne q]
      exact s.eo.bor j o h
    key := fun j o h => by
      obtain ⟨q, h, _⟩ := key h (fun e => nomatch e)
      rw [List.getElem?_set_ne q]
      exact s.eo.key j o h
    ex := fun j z hj => by
      obtain ⟨_, _, h⟩ := key hj (fun e => nomatch e)
      exact absurd rfl (h z) }
/-- try .. except X as e -/
theorem s_tryAs {body suite : List Stmt} {b0 : Stmt} {cb ch : CSs} {k i : Nat} {nm : Str} {np pos' : Pos} (ok : XOk G C gl F n sc lsc X) (tk : Takes X Wx) (hs : X.stack = X.env :: X.outer) (hf : X.env.frame = some X.env.locals) (hl : C.T.cls.length ≤ k) (hx : (C.T.cls ++ C.T.exc)[k]? = some x) (hg : isGl sc x = true)
    (hi : C.N[i]? = some nm) (hln : sc.names.lookup nm = some .local)
    (hb : ∀ (W : WX) (pn : List (Addr × Obj)) (xe : Value → Shared → Prop), Takes (X.tr pn xe) W → PassesOwn (model X.prog X.w) X.A X.env xe → PSs (X.tr pn xe) body (tSs G B W F gl cb))
    (hsu : ∀ (a : Addr) (oe : Obj) (cls : Value) (d : Option Addr) (pn : List (Addr × Obj)), Zc cls d oe → (∃ vs, oe.data = .fields vs) → PSs (X.suite a ((a, oe) :: pn)) (b0 :: suite) (tSs G (B.hand a cls d) NX F.hot gl ch)) :
    PS X (.Try body [.ExceptHandler (some (.Name x np)) (some nm) (b0 :: suite) pos'] [] [] pos) (tS G B Wx F gl (.tryAs cb k i ch)) := by
  obtain ⟨g1, g2⟩ := gl_of hg ok.hsc
  have e1 := ok.exc k x hl hx
  have hloc : X.env.kindOf nm = some .local := by
    unfold Env.kindOf
    rw [ok.hsc]
    exact hln
  refine PS.imp (ps_try_as (ts := fun a cls d => tSs G (B.hand a cls d) NX F.hot gl ch) hs hf (by rw [ok.N]; exact ok.nd) (by rw [ok.N]; exact hi) hloc ⟨g1, g2, .inl e1⟩ tk hb hsu) fun D σ H ⟨w, env, ω, e, s, q⟩ => ?_
  subst e
  rw [evS] at q
  refine ⟨w, env, ω, rfl, s, ?_⟩
  cases hr : evSs F gl cb env w.h with
  | next env' h' => rw [hr] at q; exact q
  | brk env' h' => rw [hr] at q; exact q
  | cont env' h' => rw [hr] at q; exact q
  | ret d h' => rw [hr] at q; exact q
  | bad => rw [hr] at q; exact q.elim
  | exc z env' h' =>
    rw [hr] at q
    simp only at q
    intro w' σ' ω' eh s' le cls dd hE
    obtain ⟨ec, _⟩ := id hE
    subst ec
    cases hb' : F.tb.sb z.c k with
    | none => simp only [hb'] at q; exact q.elim
    | some b =>
      have em := ok.exm z.c k b hb'
      rw [← ok.K] at em
      refine ⟨b, em, fun eb a _ => ?_, fun eb => ?_⟩
      · subst eb
        simp only [hb'] at q
        subst eh
        refine ⟨w', _, ω', rfl, s'.hand hE, ?_⟩
        cases hh : evSs F.hot gl ch ((clrEx env').set i (.ex z)) w'.h with
        | exc z2 env2 h2 => rw [hh] at q; exact q.elim
        | next env2 h2 =>
          rw [hh] at q
          exact fun w3 σ3 ω3 eh s3 le3 => q w3 (σ3.set i none) ω3 eh s3.unhand (le.trans le3)
        | brk env2 h2 =>
          rw [hh] at q
          exact fun w3 σ3 ω3 eh s3 le3 => q w3 (σ3.set i none) ω3 eh s3.unhand (le.trans le3)
        | cont env2 h2 =>
          rw [hh] at q
          exact fun w3 σ3 ω3 eh s3 le3 => q w3 (σ3.set i none) ω3 eh s3.unhand (le.trans le3)
        | ret d2 h2 =>
          rw [hh] at q
          exact fun w3 v eh ok3 be le3 r => q w3 v eh ok3 be (le.trans le3) r
        | bad => rw [hh] at q; exact q.elim
      · subst eb
        simp only [hb'] at q
        exact q w' σ' ω' eh s' le _ dd hE
/-- for -/
theorem s_for {src : CI} {t : Tg} {body : List Stmt} {cb : CSs} (ok : XOk G C gl F n sc lsc X) (hc : C.calm = true) (hi : PI X tg it (tI G B Wx F gl src)) (hg : PG X tg (gTg G.K t)) (hb : PSs X body (tSs G B Wx F gl cb)) (hs : plainB it = true) :
    PS X (.For tg it body [] pos) (tS G B Wx F gl (.for_ t src cb)) := by
  refine PS.imp (ps_for ok.po (ok.calm hc) hi hg hb (fold_plain hs _)) fun D σ H ⟨w, env, ω, e, s, p⟩ => ?_
  subst e
  rw [evS] at p
  refine ⟨w, env, ω, rfl, s, (SPost.out s p).mono (fun ds w1 ok1 e1 q J hJ => ?_) fun _ _ _ _ h => h⟩
  have s1 := s.ext ok1 e1
  obtain ⟨vs, Gd, rs, wk, hgd⟩ := hJ
  refine for_it wk (fun i σ H => ∃ w2 env2 ω2, w2.H = H ∧ Stt G B w2 env2 σ ω2 ∧ Le w1 w2 ∧ SPost G B Wx D w2 (forGo t (evSs F gl cb) (ds.drop i) env2 w2.h)) ?_ ?_ ?_ ?_
  · exact ⟨w1, env, ω, rfl, s1, Le.refl _, by rw [List.drop_zero]; exact q⟩
  · rintro i σ H _ ⟨w2, env2, ω2, rfl, s2, le, _⟩
    exact hgd w2 le s2.be
  · rintro i x σ H H' hi ⟨w2, env2, ω2, rfl, s2, le, q2⟩ ⟨rfl, hx⟩
    have hids : i < ds.length := by rw [rs.length]; exact hi
    rw [List.drop_eq_getElem_cons hids] at q2
    obtain ⟨v', hv', rv⟩ := rs.get (List.getElem?_eq_getElem hids)
    rw [hx] at hv'
    cases hv'
    unfold forGo at q2
    cases hbind : bindT t ds[i] env2 with
    | none => simp only [hbind] at q2; exact q2.elim
    | some env3 =>
      simp only [hbind] at q2
      refine bind_ok s2.eo (rv.le le) hbind fun σ2 eo2 _ => ⟨w2, env3, ω2, rfl, ⟨s2.ok, s2.be, eo2⟩, ?_⟩
      cases hf : evSs F gl cb env3 w2.h with
      | next e4 h4 =>
        simp only [hf] at q2
        intro w' σ' ω' eh s' le'
        subst eh
        exact ⟨w', e4, ω', rfl, s', le.trans le', SPost.later q2 le'⟩
      | cont e4 h4 =>
        simp only [hf] at q2
        intro w' σ' ω' eh s' le'
        subst eh
        exact ⟨w', e4, ω', rfl, s', le.trans le', SPost.later q2 le'⟩
      | brk e4 h4 => simp only [hf] at q2; exact q2
      | ret d h => simp only [hf] at q2; exact q2
      | exc x e4 h => simp only [hf] at q2; exact q2
      | bad => simp only [hf] at q2; exact q2
  · rintro σ H ⟨w2, env2, ω2, rfl, s2, le, q2⟩
    rw [← rs.length, List.drop_length] at q2
    unfold forGo at q2
    exact q2 w2 σ ω2 rfl s2 (Le.refl _)
theorem s_while {body : List Stmt} {cb : CSs} {fuel : Nat} (ok : XOk G C gl F n sc lsc X) (hc : PT X e (tT G B Wx F gl c)) (hb : PSs X body (tSs G B Wx F gl cb)) :
    PS X (.While e body [] pos) (tS G B Wx F gl (.while_ fuel c cb)) := by
  refine PS.imp (ps_while ok.po hc hb) fun D σ H ⟨w, env, ω, e, s, p⟩ => ?_
  subst e
  rw [evS] at p
  refine ⟨fun m σ H => ∃ w2 env2 ω2, w2.H = H ∧ Stt G B w2 env2 σ ω2 ∧ SPost G B Wx D w2 (whileGo (fun env h => (evE F gl env c h).test) (evSs F gl cb) m env2 w2.h), ⟨fuel, w, env, ω, rfl, s, p⟩, ?_⟩
  rintro m σ H ⟨w2, env2, ω2, rfl, s2, q⟩
  cases m with
  | zero => exact q.elim
  | succ m =>
    unfold whileGo at q
    refine ⟨w2, env2, ω2, rfl, s2, (SPost.out s2 q).mono (fun k w3 ok3 e3 q3 => ?_) fun _ _ _ _ h => h⟩
    have s3 := s2.ext ok3 e3
    cases k with
    | false => exact iteF (q3 w3 σ ω2 rfl s3 (Le.refl _))
    | true =>
      refine iteT ⟨fun σ' H' => ∃ w4 env4 ω4, w4.H = H' ∧ Stt G B w4 env4 σ' ω4 ∧ SPost G B Wx D w4 (whileGo (fun env h => (evE F gl env c h).test) (evSs F gl cb) m env4 w4.h), fun σ' H' h => ⟨m, Nat.lt_succ_self m, h⟩, w3, env2, ω2, rfl, s3, ?_⟩
      simp only [if_true] at q3
      cases hf : evSs F gl cb env2 w3.h with
      | next e4 h4 =>
        simp only [hf] at q3
        intro w' σ' ω' eh s' le'
        subst eh
        exact ⟨w', e4, ω', rfl, s', SPost.later q3 le'⟩
      | cont e4 h4 =>
        simp only [hf] at q3
        intro w' σ' ω' eh s' le'
        subst eh
        exact ⟨w', e4, ω', rfl, s', SPost.later q3 le'⟩
      | brk e4 h4 => simp only [hf] at q3; exact q3
      | ret d h => simp only [hf] at q3; exact q3
      | exc x e4 h => simp only [hf] at q3; exact q3
      | bad => simp only [hf] at q3; exact q3
end
end Rf
set_option Elab.async false
set_option linter.all false
set_option maxRecDepth 100000
set_option maxHeartbeats 8000000
/-! G16b: dicts with tuples as keys, append of a pop, enumerate -/
namespace Rf
open PySem L2 PySem.Spec PyProof.Rows
section
variable {G : Gm} {B : Bs} {w w1 w' : W} {Wx : WX} {F : FTab} {gl : Nat → Option D} {C : Ck} {n : Nat} {sc lsc : Scope} {X : Cx} {env env' : En} {σ : List (Option V)} {ω : Nat → Addr}
  {l m r e e' v it el tg : Expr} {es : List Expr} {a b c : CE} {as bs : CEs} {pos p p2 p3 p4 p5 : Pos} {x y : Str} {Dn : Ends} {i : Nat} {m' : Pos}
theorem own_ne {ad : Addr} {ob : Ob} {j : Nat} (s : Stt G B w env σ ω) (hn : w.H ad = none) (h : env[j]? = some (Sl.own ob)) : ω j ≠ ad := fun q => by
  obtain ⟨_, h2, _⟩ := s.eo.own j ob h
  obtain ⟨z, hz, _⟩ := h2.soft
  rw [q, hn] at hz
  cases hz
/-- x = {} -/
theorem s_newD (hN : C.N.Nodup) (ok : XOk G C gl F n sc lsc X) (hi : C.N[i]? = some x) (hl : isLoc lsc x = true) : PS X (.Assign [.Name x p] (.Dict [] [] p2) pos) (tS G B Wx F gl (.newD i)) := by
  obtain ⟨h1, h2⟩ := ok.fnl x hl
  refine PS.imp (ps_set (by rw [ok.N]; exact hN) (by rw [ok.N]; exact hi) h1 (pe_dnewT (X := X)) rfl h2) fun D σ H ⟨w, env, ω, e, s, q⟩ => ?_
  subst e
  rw [evS] at q
  intro a ha
  obtain ⟨k1, k2, k3, k4⟩ := W.new_ok (o := .dT []) s.ok ha
  have s2 := s.ext k1 k2
  have at2 : ObAt G (w.mut a (.dT [])) a (.dt []) := .dt upd_same .nil
  refine q (w.mut a (.dT [])) _ _ rfl (s2.setOwn at2 k3 k4 (s.be.dom _ ha) (fun j u hj => own_ne s ha hj) fun _ _ e => nomatch e) (k2.le s.ok)
theorem keys_reps : ∀ {ds : List D} {vs : List V} {ks : List Key}, Reps G w ds vs → keysD ds = some ks → vs = ks.map kV
  | _, _, _, .nil, h => by cases h; rfl
  | _, _, _, .cons (d := d) (ds := ds) r rs, h => by
    cases r with
    | int i =>
      have h' : (keysD ds).map (.inl i :: ·) = some _ := h
      obtain ⟨ks, hk, rfl⟩ := Option.map_eq_some_iff.mp h'
      rw [keys_reps rs hk]
      rfl
    | str z hz =>
      have h' : (keysD ds).map (.inr z :: ·) = some _ := h
      obtain ⟨ks, hk, rfl⟩ := Option.map_eq_some_iff.mp h'
      rw [keys_reps rs hk]
      rfl
    | _ => cases h
theorem EnvOk.setKey {ad : Addr} {ks : List Key} (x : EnvOk G B w env σ ω) (h : w.H ad = some (.tup (ks.map kV))) : EnvOk G B w (env.set i (.key ks)) (σ.set i (some (.ref ad))) ω where
  len := by rw [List.length_set, List.length_set]; exact x.len
  vals := fun j d h => by
    obtain ⟨q, h⟩ := set_other h (fun z => nomatch z)
    obtain ⟨v, h1, h2⟩ := x.vals j d h
    exact ⟨v, by rw [List.getElem?_set_ne q]; exact h1, h2⟩
  own := fun j o h => by
    obtain ⟨q, h⟩ := set_other h (fun z => nomatch z)
    obtain ⟨h1, h2⟩ := x.own j o h
    exact ⟨by rw [List.getElem?_set_ne q]; exact h1, h2⟩
  inj := fun j k o u h1 h2 => by
    obtain ⟨_, h1⟩ := set_other h1 (fun z => nomatch z)
    obtain ⟨_, h2⟩ := set_other h2 (fun z => nomatch z)
    exact x.inj j k o u h1 h2
  mine := fun j c fs h => by
    obtain ⟨_, h⟩ := set_other h (fun z => nomatch z)
    exact x.mine j c fs h
  bor := fun j o h => by
    obtain ⟨q, h⟩ := set_other h (fun z => nomatch z)
    obtain ⟨a, h1, h2⟩ := x.bor j o h
    exact ⟨a, by rw [List.getElem?_set_ne q]; exact h1, h2⟩
  ex := fun j z h => by
    obtain ⟨q, h⟩ := set_other h (fun z => nomatch z)
    obtain ⟨h1, h2⟩ := x.ex j z h
    exact ⟨by rw [List.getElem?_set_ne q]; exact h1, h2⟩
  key := fun j us hj => by
    by_cases q : i = j
    · subst q
      by_cases hi : i < env.length
      · rw [List.getElem?_set_self hi] at hj
        cases hj
        exact ⟨ad, by rw [List.getElem?_set_self (by rw [← x.len]; exact hi)], h⟩
      · rw [List.getElem?_eq_none (by rw [List.length_set]; omega)] at hj; cases hj
    · rw [List.getElem?_set_ne q] at hj
      obtain ⟨a, h1, h2⟩ := x.key j us hj
      exact ⟨a, by rw [List.getElem?_set_ne q]; exact h1, h2⟩
/-- x = (e, ..), a key of ours -/
theorem s_setK {j} (hN : C.N.Nodup) (ok : XOk G C gl F n sc lsc X) (hi : C.N[i]? = some x) (hl : isLoc lsc x = true) (h : PA X es (tEs G B Wx F gl as)) : PS X (.Assign [.Name x p] (.Tuple es j p2) pos) (tS G B Wx F gl (.setK i as)) := by
  obtain ⟨h1, h2⟩ := ok.fnl x hl
  refine PS.imp (ps_set (by rw [ok.N]; exact hN) (by rw [ok.N]; exact hi) h1 (pe_tup h) rfl h2) fun D σ H ⟨w, env, ω, e, s, q⟩ => ?_
  subst e
  rw [evS] at q
  refine ⟨w, env, ω, rfl, s, (SPost.out s q).mono (fun ds w1 ok1 e1 q2 vs rs => ?_) fun _ _ _ _ h => h⟩
  cases hk : keysD ds with
  | none => simp only [hk] at q2; exact q2.elim
  | some ks =>
    simp only [hk] at q2
    by_cases hz : ds.length < 100
    · rw [if_pos hz] at q2
      have ev := keys_reps rs hk
      refine ⟨by rw [← rs.length]; exact Nat.le_trans (Nat.le_of_lt hz) (by decide), fun a ha => ?_⟩
      obtain ⟨ok2, e2⟩ := new_frozen (o := .tup vs) ok1 ha
      have s2 := (s.ext ok1 e1).ext ok2 e2
      have hH : (w1.put a (.tup vs)).H a = some (.tup (ks.map kV)) := by
        rw [← ev]
        exact upd_same
      exact q2 (w1.put a (.tup vs)) _ ω rfl ⟨s2.ok, s2.be, s2.eo.setKey hH⟩ (e2.le ok1)
    · rw [if_neg hz] at q2; exact q2.elim
theorem RepT.any {ks : List Key} : ∀ {kvs : List (List Key × D)} {vks : List (List Key × V)}, RepT G w kvs vks → (vks.any fun kv => decide (kv.1 = ks)) = hasK ks kvs
  | _, _, .nil => rfl
  | _, _, .cons (k := k0) r rs => by
    have ih := RepT.any (ks := ks) rs
    unfold hasK at *
    rw [List.any_cons, List.any_cons, ih]
theorem RepT.repl {ks : List Key} {d : D} {v : V} (rv : Rep G w d v) : ∀ {kvs : List (List Key × D)} {vks : List (List Key × V)}, RepT G w kvs vks → RepT G w (kvs.map fun kv => if kv.1 = ks then (kv.1, d) else kv) (vks.map fun kv => if kv.1 = ks then (kv.1, v) else kv)
  | _, _, .nil => .nil
  | _, _, .cons (k := k0) r rs => by
    have ih := RepT.repl rv (ks := ks) rs
    rw [List.map_cons, List.map_cons]
    by_cases q : k0 = ks
    · simp only [q, if_true]
      exact .cons rv ih
    · simp only [q, if_false]
      exact .cons r ih
theorem RepT.snoc {ks : List Key} {d : D} {v : V} (rv : Rep G w d v) : ∀ {kvs : List (List Key × D)} {vks : List (List Key × V)}, RepT G w kvs vks → RepT G w (kvs ++ [(ks, d)]) (vks ++ [(ks, v)])
  | _, _, .nil => .cons rv .nil
  | _, _, .cons r rs => .cons r (RepT.snoc rv rs)
theorem RepT.put {ks : List Key} {d : D} {v : V} (rv : Rep G w d v) {kvs : List (List Key × D)} {vks : List (List Key × V)} (r : RepT G w kvs vks) : RepT G w (putKD kvs ks d) (putK vks ks v) := by
  unfold putKD putK
  rw [r.any]
  cases hasK ks kvs with
  | true =>
    simp only [if_true]
    exact r.repl rv
  | false =>
    simp only [Bool.false_eq_true, if_false]
    exact r.snoc rv
theorem RepT.le' (le : Le w w') {kvs : List (List Key × D)} {vks : List (List Key × V)} (r : RepT G w kvs vks) : RepT G w' kvs vks := RepT.le le r
theorem RepT.len : ∀ {kvs : List (List Key × D)} {vks : List (List Key × V)}, RepT G w kvs vks → kvs.length = vks.length
  | _, _, .nil => rfl
  | _, _, .cons _ r => by rw [List.length_cons, List.length_cons, RepT.len r]
/-- d[k] = e -/
theorem s_putD {q k : Nat} (ok : XOk G C gl F n sc lsc X) (hq : C.N[q]? = some x) (hv1 : isVis sc x = true) (hk : C.N[k]? = some y) (hv2 : isVis sc y = true) (hn : noComp v = true) (h : PE X v (tE G B Wx F gl c)) :
    PS X (.Assign [.Subscript (.Name x p3) (.Name y p4) p] v pos) (tS G B Wx F gl (.putD q k c)) := by
  obtain ⟨g1, g2, g3⟩ := vis_of hv1 ok.hsc
  obtain ⟨k1, k2, k3⟩ := vis_of hv2 ok.hsc
  have hu : X.A.units + 1 < cLine := Nat.lt_of_le_of_lt (by omega) ok.hu
  refine PS.imp (ps_dput hu (pe_var (by rw [ok.N]; exact hq) g1 g2 g3) (pe_var (by rw [ok.N]; exact hk) k1 k2 k3) h (swaps_none hn _ _ _)) fun D σ H ⟨w, env, ω, e, s, z⟩ => ?_
  subst e
  rw [evS] at z
  refine ⟨w, env, ω, rfl, s, (SPost.out s z).mono (fun d w1 ok1 e1 z2 v1 r1 => ?_) fun _ _ _ _ h => h⟩
  have s1 := s.ext ok1 e1
  cases h1 : env[q]? with
  | none => simp only [h1] at z2; exact z2.elim
  | some sl => cases sl with
    | own ob => cases ob with
      | dt kvs =>
        cases h2 : env[k]? with
        | none => simp only [h1, h2] at z2; exact z2.elim
        | some sl2 => cases sl2 with
          | key ks =>
            simp only [h1, h2] at z2
            by_cases hz : kvs.length < LIM
            · rw [if_pos hz] at z2
              obtain ⟨m1, m2, m3, m4, m5⟩ := s1.eo.own q _ h1
              obtain ⟨ad, j1, j2⟩ := s1.eo.key k ks h2
              cases m2 with | dt hH rH =>
              rename_i vks
              refine ⟨_, m1, _, j1, _, _, rfl, .t hH j2 (by rw [← rH.len]; exact hz), ?_⟩
              have le := W.mut_le (o := .dT (putK vks ks v1)) m3 hH trivial
              have new : ObAt G (w1.mut (ω q) (.dT (putK vks ks v1))) (ω q) (.dt (putKD kvs ks d)) := .dt upd_same (RepT.put (r1.le le) (RepT.le le rH))
              obtain ⟨t1, t2⟩ := s1.mutOwn h1 new fun _ _ e => nomatch e
              exact z2 (w1.mut (ω q) (.dT (putK vks ks v1))) σ ω rfl t1 t2
            · rw [if_neg hz] at z2; exact z2.elim
          | _ => simp only [h1, h2] at z2; exact z2.elim
      | _ => simp only [h1] at z2; exact z2.elim
    | _ => simp only [h1] at z2; exact z2.elim
theorem Reps.eraseIdx : ∀ {ds : List D} {vs : List V} (i : Nat), Reps G w ds vs → Reps G w (ds.eraseIdx i) (vs.eraseIdx i)
  | _, _, _, .nil => .nil
  | _, _, 0, .cons _ rs => rs
  | _, _, i + 1, .cons r rs => .cons r (Reps.eraseIdx i rs)
/-- x.append(y.pop(e)) -/
theorem s_appPop {q k : Nat} (ok : XOk G C gl F n sc lsc X) (hq : C.N[q]? = some x) (hv1 : isVis sc x = true) (hk : C.N[k]? = some y) (hv2 : isVis sc y = true) (hp : plainB v = true) (hl : (p2.endLine == p.line) = true) (hl2 : (p4.endLine == p5.line) = true) (h : PE X v (tE G B Wx F gl c)) :
    PS X (.Expr (.Call (.Attribute (.Name x pos) "append" p2) [.Call (.Attribute (.Name y p3) "pop" p4) [v] [] p5] [] p) m') (tS G B Wx F gl (.appPop q k c)) := by
  obtain ⟨g1, g2, g3⟩ := vis_of hv1 ok.hsc
  obtain ⟨k1, k2, k3⟩ := vis_of hv2 ok.hsc
  have hb1 : PE X (.Call (.Attribute (.Name y p3) "pop" p4) [v] [] p5) (tBM X.K "list" rPopAt (tVar k) (tCons (tE G B Wx F gl c) tNil)) :=
    pe_bm PySem.F.plainAttrs_list PySem.F.slot_list_pop PySem.F.type_list_pop mt_popAt (pe_var (by rw [ok.N]; exact hk) k1 k2 k3) (pa_cons h pa_nil (star_one hp _ _)) rfl (by rw [star_one hp]; rfl) hl2 (star_one hp _ _) rfl
  have hb : PE X (.Call (.Attribute (.Name x pos) "append" p2) [.Call (.Attribute (.Name y p3) "pop" p4) [v] [] p5] [] p) (tBM X.K "list" rAppend (tVar q) (tCons (tBM X.K "list" rPopAt (tVar k) (tCons (tE G B Wx F gl c) tNil)) tNil)) :=
    pe_bm PySem.F.plainAttrs_list PySem.F.slot_list_append PySem.F.type_list_append mt_append (pe_var (by rw [ok.N]; exact hq) g1 g2 g3) (pa_cons hb1 pa_nil rfl) rfl rfl hl rfl rfl
  refine PS.imp (ps_expr hb rfl) fun D σ H ⟨w, env, ω, e, s, z⟩ => ?_
  subst e
  rw [evS] at z
  cases h1 : env[q]? with
  | none => simp only [h1] at z; exact z.elim
  | some sl => cases sl with
    | own ob => cases ob with
      | lst xs0 =>
        cases h2 : env[k]? with
        | none => simp only [h1, h2] at z; exact z.elim
        | some sl2 => cases sl2 with
          | own ob2 => cases ob2 with
            | lst ds0 =>
              simp only [h1, h2] at z
              by_cases hne : q = k
              · rw [if_pos hne] at z; exact z.elim
              rw [if_neg hne] at z
              obtain ⟨m1, m2, m3, m4, m5⟩ := s.eo.own q _ h1
              obtain ⟨j1, j2, j3, j4, j5⟩ := s.eo.own k _ h2
              cases m2 with | lst hH rH =>
              cases j2 with | lst hH2 rH2 =>
              refine ⟨_, m1, .inl ⟨rfl, _, SqL.of hH⟩, _, j1, .inl ⟨rfl, _, SqL.of hH2⟩, w, env, ω, rfl, s, (SPost.out s z).mono (fun d w1 ok1 e1 z2 v1 r1 => ?_) fun _ _ _ _ h => h⟩
              have s1 := s.ext ok1 e1
              cases r1 with
              | int j =>
                simp only at z2
                cases hx : ixN ds0.length j with
                | none => simp only [hx] at z2; exact z2.elim
                | some n0 =>
                  simp only [hx] at z2
                  by_cases hz : xs0.length < LIM ∧ ds0.length < LIM
                  rotate_left
                  · rw [if_neg hz] at z2; exact z2.elim
                  rw [if_pos hz] at z2
                  obtain ⟨m1, m2, m3, m4, m5⟩ := s1.eo.own q _ h1
                  obtain ⟨j1, j2, j3, j4, j5⟩ := s1.eo.own k _ h2
                  cases m2 with | lst hH rH =>
                  rename_i vx
                  cases j2 with | lst hH2 rH2 =>
                  rename_i vd
                  obtain ⟨i1, i2, i3, i4⟩ := ixN_seq hx
                  have hlen : ds0.length = vd.length := rH2.length
                  have hg : ds0[n0]? = some (ds0.getD n0 .non) := by
                    rw [List.getD_eq_getElem?_getD, List.getElem?_eq_getElem i2]
                    rfl
                  obtain ⟨vy, hy, ry⟩ := rH2.get hg
                  have hsz : ds0.length < 16777216 := hz.2
                  refine ⟨_, vd, j, n0, vy, rfl, rfl, hH2, by omega, by omega, by rw [← hlen]; exact i1, hy, ?_⟩
                  -- what is left
                  have le := W.mut_le (o := .lst (vd.eraseIdx n0)) j3 hH2 trivial
                  obtain ⟨t1, t2⟩ := s1.mutOwn (ob' := .lst (ds0.eraseIdx n0)) h2 (.lst upd_same ((Reps.eraseIdx n0 rH2).le le)) fun _ _ e => nomatch e
                  have hne2 : ω q ≠ ω k := fun e => hne (s1.eo.inj q k _ _ h1 h2 e)
                  have h1' : (env.set k (Sl.own (.lst (ds0.eraseIdx n0))))[q]? = some (Sl.own (.lst xs0)) := by
                    rw [List.getElem?_set_ne (Ne.symm hne)]
                    exact h1
                  obtain ⟨n1, n2, n3, n4, n5⟩ := t1.eo.own q _ h1'
                  cases n2 with | lst hH3 rH3 =>
                  rename_i vx'
                  have ry' := ry.le le
                  refine ⟨_, vx', vy, rfl, rfl, hH3, by rw [← rH3.length]; exact hz.1, ?_⟩
                  have le2 := W.mut_le (w := w1.mut (ω k) (.lst (vd.eraseIdx n0))) (o := .lst (vx' ++ [vy])) n3 hH3 trivial
                  obtain ⟨u1, u2⟩ := t1.mutOwn (ob' := .lst (xs0 ++ [ds0.getD n0 .non])) h1' (.lst upd_same ((rH3.le le2).append (.cons (ry'.le le2) .nil))) fun _ _ e => nomatch e
                  exact z2 ((w1.mut (ω k) (.lst (vd.eraseIdx n0))).mut (ω q) (.lst (vx' ++ [vy]))) σ ω rfl u1 (t2.trans u2)
              | _ => exact z2.elim
            | _ => simp only [h1, h2] at z; exact z.elim
          | _ => simp only [h1, h2] at z; exact z.elim
      | _ => simp only [h1] at z; exact z.elim
    | _ => simp only [h1] at z; exact z.elim
theorem enum_drop {ds : List D} {i : Nat} (h : i < ds.length) : enumD i (ds.drop i) = .tup [.int i, ds[i]] :: enumD (i + 1) (ds.drop (i + 1)) := by
  rw [List.drop_eq_getElem_cons h]
  rfl
/-- for i, x in enumerate(e) -/
theorem s_enum {i1 i2 j : Nat} {tgs : List Expr} {body : List Stmt} {cb : CSs} (ok : XOk G C gl F n sc lsc X) (hc : C.calm = true) (hge : isGl sc "enumerate" = true) (hp : plainB it = true) (h : PE X it (tWa G B Wx F gl c)) (hg : PG X (.Tuple tgs j p2) (gTg G.K (.tup [i1, i2]))) (hb : PSs X body (tSs G B Wx F gl cb)) :
    PS X (.For (.Tuple tgs j p2) (.Call (.Name "enumerate" p) [it] [] p3) body [] pos) (tS G B Wx F gl (.forE i1 i2 c cb)) := by
  obtain ⟨g1, g2⟩ := gl_of hge ok.hsc
  refine PS.imp (ps_for ok.po (ok.calm hc) (pi_enum g1 (ok.blt _ (by simp [names0])) (pa_cons h pa_nil (star_one hp _ _)) (star_one hp _ _)) hg hb (fun _ => rfl)) fun D σ H ⟨w, env, ω, e, s, p⟩ => ?_
  subst e
  rw [evS] at p
  refine ⟨w, env, ω, rfl, s, (SPost.out s p).mono (fun d w1 ok1 e1 q v r => ?_) fun _ _ _ _ h => h⟩
  have s1 := s.ext ok1 e1
  have key : ∀ ds, d = .lst ds → ∃ a vs, v = .ref a ∧ Reps G w1 ds vs ∧ ∀ w', Le w1 w' → Ext B.toW w' → SqL X.K w'.H a vs := fun ds ed => by
    rcases r with r | ⟨a, o, rfl, e2, okB, hO, nlB, be⟩
    · subst ed
      cases r with
      | lst hz rr => exact ⟨_, _, rfl, rr, fun w' le _ => by rw [ok.K]; exact (le.fzl hz).sq⟩
    · rw [e2] at ed
      cases hO with
      | lst hh rr =>
        cases ed
        exact ⟨a, _, rfl, rr.ext okB be, fun w' _ e => .inl (.inl (e.keep a _ hh nlB))⟩
      | _ => cases ed
  cases d with
  | lst ds =>
    simp only at q
    obtain ⟨a, vs, rfl, rs, hS⟩ := key ds rfl
    refine ⟨a, vs, rfl, hS w1 (Le.refl _) s1.be, ?_⟩
    refine for_it (walk_enum (K := X.K) (a := a) (xs := vs)) (fun i σ H => ∃ w2 env2 ω2, w2.H = H ∧ Stt G B w2 env2 σ ω2 ∧ Le w1 w2 ∧ SPost G B Wx D w2 (forGo (.tup [i1, i2]) (evSs F gl cb) (enumD i (ds.drop i)) env2 w2.h)) ?_ ?_ ?_ ?_
    · exact ⟨w1, env, ω, rfl, s1, Le.refl _, by rw [List.drop_zero]; exact q⟩
    · rintro i σ H _ ⟨w2, env2, ω2, rfl, s2, le, _⟩
      exact hS w2 le s2.be
    · rintro i x σ H H' hi ⟨w2, env2, ω2, rfl, s2, le, q2⟩ ⟨T, y1, y2, rfl, hT, rfl, hy1, hy2⟩
      cases hy1
      have hids : i < ds.length := by rw [rs.length]; exact hi
      rw [enum_drop hids] at q2
      obtain ⟨v', hv', rv⟩ := rs.get (List.getElem?_eq_getElem hids)
      have hy2' : vs[i]? = some y2 := hy2
      rw [hy2'] at hv'
      cases hv'
      obtain ⟨ok3, e3⟩ := new_frozen (o := .tup [V.int (i : Nat), y2]) s2.ok hT
      have s3 := s2.ext ok3 e3
      have le3 := e3.le s2.ok
      have rt : Rep G (w2.put T (.tup [V.int (i : Nat), y2])) (.tup [.int i, ds[i]]) (.ref T) := .tup (.inl (.inl upd_same)) (.cons (.int _) (.cons ((rv.le le).le le3) .nil))
      have q3 : SPost G B Wx D (w2.put T (.tup [V.int (i : Nat), y2])) (forGo (.tup [i1, i2]) (evSs F gl cb) (.tup [.int i, ds[i]] :: enumD (i + 1) (ds.drop (i + 1))) env2 w2.h) := SPost.later q2 le3
      unfold forGo at q3
      cases hbind : bindT (.tup [i1, i2]) (.tup [.int i, ds[i]]) env2 with
      | none => simp only [hbind] at q3; exact q3.elim
      | some env3 =>
        simp only [hbind] at q3
        refine bind_ok s3.eo rt hbind fun σ2 eo2 _ => ⟨w2.put T (.tup [V.int (i : Nat), y2]), env3, ω2, rfl, ⟨s3.ok, s3.be, eo2⟩, ?_⟩
        show SPost G B Wx _ _ (evSs F gl cb env3 w2.h)
        cases hf : evSs F gl cb env3 w2.h with
        | next e4 h4 =>
          simp only [hf] at q3
          intro w' σ' ω' eh s' le'
          subst eh
          exact ⟨w', e4, ω', rfl, s', (le.trans le3).trans le', SPost.later q3 le'⟩
        | cont e4 h4 =>
          simp only [hf] at q3
          intro w' σ' ω' eh s' le'
          subst eh
          exact ⟨w', e4, ω', rfl, s', (le.trans le3).trans le', SPost.later q3 le'⟩
        | brk e4 h4 => simp only [hf] at q3; exact q3
        | ret d h => simp only [hf] at q3; exact q3
        | exc x e4 h => simp only [hf] at q3; exact q3
        | bad => simp only [hf] at q3; exact q3
    · rintro σ H ⟨w2, env2, ω2, rfl, s2, le, q2⟩
      rw [← rs.length, List.drop_length] at q2
      have q3 : SPost G B Wx D w2 (.next env2 w2.h) := q2
      exact q3 w2 σ ω2 rfl s2 (Le.refl _)
  | _ => exact q.elim
end
end Rf
set_option Elab.async false
set_option linter.all false
set_option maxRecDepth 100000
set_option maxHeartbeats 8000000
/-! G17: the check of statements; all statements -/
namespace Rf
open PySem L2 PySem.Spec PyProof.Rows
def isLC : Expr → Bool
  | .ListComp .. => true
  | _ => false
mutual
def ckS (C : Ck) (sc : Scope) : CS → Stmt → Bool
  | .set i c, s => match s with
    | .Assign [.Name x p] v pos => C.N[i]? == some x && isLoc sc x && ckE C sc c v && (noComp v || isLC v)
    | _ => false
  | .setN i c, s => match s with
    | .Assign [.Name x p] v pos => C.N[i]? == some x && isLoc sc x && ckE C sc c v && (match c with
      | .lst _ => true
      | .lc _ _ _ _ _ => true
      | .blt .list (.cons _ .nil) => true
      | .rgl false (.rng1 _) => true
      | _ => false)
    | _ => false
  | .setT is c, s => match s with
    | .Assign [.Tuple es j p] v pos => C.calm && ckNms C sc is es && ckE C sc c v && noComp v && noDisp v
    | _ => false
  | .setSub a c d, s => match s with
    | .Assign [.Subscript (.Name x q) e p] v pos => (match a with
      | .var i => C.N[i]? == some x && isVis sc x
      | _ => false) && plainB e && noComp v && ckE C sc d v && ckE C sc c e
    | _ => false
  | .setAttr a f c, s => match s with
    | .Assign [.Attribute (.Name x q) y p] v pos => (match a with
      | .var i => C.N[i]? == some x && isVis sc x
      | _ => false) && C.T.fld[f]? == some y && noComp v && ckE C sc c v
    | _ => false
  | .app i c, s => match s with
    | .Expr (.Call (.Attribute (.Name x q) m p2) [v] [] p) _ => m == "append" && C.N[i]? == some x && isVis sc x && plainB v && p2.endLine == p.line && ckE C sc c v
    | _ => false
  | .ex c, s => match s with
    | .Expr v _ => ckE C sc c v && noComp v
    | _ => false
  | .ret c, s => match s with
    | .Return (some v) _ => ckE C sc c v
    | _ => false
  | .retN, s => match s with
    | .Return none _ => true
    | _ => false
  | .ite t a b, s => match s with
    | .If e x y _ => ckE C sc t e && ckT C sc t && ckSs C sc a x && ckSs C sc b y
    | _ => false
  | .for_ t src b, s => match s with
    | .For tg it body [] _ => C.calm && ckI C sc src it && plainB it && ckTg C sc t tg && ckSs C sc b body
    | _ => false
  | .while_ _ t b, s => match s with
    | .While e body [] _ => ckE C sc t e && ckT C sc t && ckSs C sc b body
    | _ => false
  | .pass, s => match s with
    | .Pass _ => true
    | _ => false
  | .brk, s => match s with
    | .Break _ => true
    | _ => false
  | .cont, s => match s with
    | .Continue _ => true
    | _ => false
  | .dead, _ => true
  | .newD i, s => match s with
    | .Assign [.Name x p] (.Dict [] [] _) pos => C.N[i]? == some x && isLoc sc x
    | _ => false
  | .setK i as, s => match s with
    | .Assign [.Name x p] (.Tuple es _ _) pos => C.N[i]? == some x && isLoc sc x && ckEs C sc as es
    | _ => false
  | .putD q k c, s => match s with
    | .Assign [.Subscript (.Name x _) (.Name y _) _] v _ => C.N[q]? == some x && isVis sc x && C.N[k]? == some y && isVis sc y && noComp v && ckE C sc c v
    | _ => false
  | .appPop q k c, s => match s with
    | .Expr (.Call (.Attribute (.Name x _) m p2) [.Call (.Attribute (.Name y _) m2 p4) [v] [] p5] [] p) _ => m == "append" && m2 == "pop" && C.N[q]? == some x && isVis sc x && C.N[k]? == some y && isVis sc y && plainB v && p2.endLine == p.line && p4.endLine == p5.line && ckE C sc c v
    | _ => false
  | .forE i x c b, s => match s with
    | .For (.Tuple tgs j p2) (.Call (.Name y _) [it] [] _) body [] _ => C.calm && y == "enumerate" && isGl sc y && plainB it && ckE C sc c it && ckTg C sc (.tup [i, x]) (.Tuple tgs j p2) && ckSs C sc b body
    | _ => false
  | .frz _, _ => false
  | .tryAs cb k i ch, s => match s with
    | .Try body [.ExceptHandler (some (.Name x _)) (some nm) (b0 :: suite) _] [] [] _ => C.calm && C.N[i]? == some nm && sc.names.lookup nm == some .local && decide (C.T.cls.length ≤ k) && (C.T.cls ++ C.T.exc)[k]? == some x && isGl sc x && ckSs C sc cb body && ckSs C.hot sc ch (b0 :: suite)
    | _ => false
  | .try_ cb k ch, s => match s with
    | .Try body [.ExceptHandler (some (.Name x _)) none (b0 :: suite) _] [] [] _ => C.calm && decide (C.T.cls.length ≤ k) && (C.T.cls ++ C.T.exc)[k]? == some x && isGl sc x && ckSs C sc cb body && ckSs C.hot sc ch (b0 :: suite)
    | _ => false
  | .raise_ k, s => match s with
    | .Raise (some (.Call (.Name x p) [.Constant (.str msg) _ _] [] _)) none _ => C.calm && decide (C.T.cls.length ≤ k) && (C.T.cls ++ C.T.exc)[k]? == some x && isGl sc x && C.T.rai.contains k
    | _ => false
def ckSs (C : Ck) (sc : Scope) : CSs → List Stmt → Bool
  | .nil, ss => ss.isEmpty
  | .cons (.frz _) cs, ss => ckSs C sc cs ss
  | .cons c cs, ss => match ss with
    | s :: ss => ckS C sc c s && ckSs C sc cs ss
    | [] => false
end
section
variable {G : Gm} {B : Bs} {w w1 w' : W} {Wx : WX} {F : FTab} {gl : Nat → Option D} {C : Ck} {n : Nat} {sc : Scope} {X : Cx}
/-- what is not reached -/
theorem s_dead {s : Stmt} : PS X s (tS G B Wx F gl .dead) := ⟨fun pins s σ H Q I ⟨w, env, ω, e, st, q⟩ => by
  rw [evS] at q
  exact q.elim⟩
theorem swaps_lc' {v : Expr} {x : Str} {p : Pos} {ln : Nat} {env : Env} (hk : env.scope.kind = .function) (h : isLC v = true) : ∃ el gs scope pos, v = .ListComp el gs scope pos ∧ ∀ X : Cx, X.env = env → swapsWith v (some (.Name x p)) ln X.env = pure (swapB X.env.scope x p scope pos) := by
  cases v <;> first | cases h | skip
  exact ⟨_, _, _, _, rfl, fun X e => swaps_lc (by rw [e]; exact hk) ln⟩
/-- a def's own frame -/
def Top (X : Cx) : Prop := X.stack = X.env :: X.outer ∧ X.env.frame = some X.env.locals
theorem set_ok (go : G.Ok) {i : Nat} {c : CE} {s : Stmt} (ok : XOk G C gl F n sc sc X) (tk : TkB X B Wx) (hk : sc.kind = .function) (h : ckS C sc (.set i c) s = true) : PS X s (tS G B Wx F gl (.set i c)) := by
  unfold ckS at h
  split at h
  rotate_left
  · cases h
  rename_i x p v pos
  simp only [Bool.and_eq_true, Bool.or_eq_true, beq_iff_eq] at h
  obtain ⟨⟨⟨h1, h2⟩, h3⟩, h4⟩ := h
  rcases h4 with h4 | h4
  · exact s_set ok.nd ok h1 h2 (okE go c ok tk h3) (swaps_none h4 _ _ _)
  · have hk2 : X.env.scope.kind = .function := by rw [ok.hsc]; exact hk
    cases v <;> first | cases h4 | skip
    rename_i el gs scope vp
    cases q : swapB X.env.scope x p scope vp with
    | false => exact s_set ok.nd ok h1 h2 (okE go c ok tk h3) (by rw [swaps_lc hk2, q])
    | true =>
      cases c with
      | lc elt own t src cond =>
        unfold ckE at h3
        split at h3
        rotate_left
        · cases h3
        rename_i heq
        cases heq
        simp only [Bool.and_eq_true] at h3
        obtain ⟨⟨⟨⟨⟨⟨⟨h1', h2'⟩, h3'⟩, h4'⟩, h5⟩, h6⟩, h7⟩, h8⟩ := h3
        exact s_setLc ok h1' h1 q (okI go src ok tk h2') (by rw [ok.N, ok.hsc]; exact blk_ok h4') h5
          (fun s H Ca cl fp => g_tg (ok.blk h4' s H Ca cl fp) h6)
          (fun s H Ca cl fp => okC go cond (ok.blk h4' s H Ca cl fp) (tk.blk (ok.calm h1')) h8)
          (fun s H Ca cl fp => okE go elt (ok.blk h4' s H Ca cl fp) (tk.blk (ok.calm h1')) h7) h3' hk2 (fun D σ H q => nw_of (H := H) ⟨_, _, _, _, _, rfl⟩ q)
      | lc2 elt own t src cond vs1 t1 src1 cond1 =>
        unfold ckE at h3
        split at h3
        rotate_left
        · cases h3
        rename_i heq
        cases heq
        simp only [Bool.and_eq_true] at h3
        obtain ⟨⟨⟨⟨⟨⟨⟨⟨⟨⟨⟨⟨⟨h1', h2'⟩, h3'⟩, h4'⟩, h5⟩, h6⟩, h7⟩, h8⟩, h9⟩, h10⟩, h11⟩, h12⟩, h13⟩, h14⟩ := h3
        exact s_setLc2 ok h1' h1 q (okI go src ok tk h2') (by rw [ok.N, ok.hsc]; exact blk_ok h4') h5 h6 h7
          (fun s H Ca cl fp => g_tg (ok.blk h4' s H Ca cl fp) h8)
          (fun s H Ca cl fp => okC go cond (ok.blk h4' s H Ca cl fp) (tk.blk (ok.calm h1')) h11)
          (fun s H Ca cl fp => okI go src1 (ok.blk h4' s H Ca cl fp) (tk.blk (ok.calm h1')) h12)
          (fun s H Ca cl fp => g_tg (ok.blk h4' s H Ca cl fp) h9)
          (fun s H Ca cl fp => okC go cond1 (ok.blk h4' s H Ca cl fp) (tk.blk (ok.calm h1')) h14)
          (fun s H Ca cl fp => okE go elt (ok.blk h4' s H Ca cl fp) (tk.blk (ok.calm h1')) h10) h3' h13 hk2
      | _ => unfold ckE at h3; first | cases h3 | (split at h3 <;> first | cases h3 | (rename_i heq; cases heq))
theorem setN_ok (go : G.Ok) {i : Nat} {c : CE} {s : Stmt} (ok : XOk G C gl F n sc sc X) (tk : TkB X B Wx) (hk : sc.kind = .function) (h : ckS C sc (.setN i c) s = true) : PS X s (tS G B Wx F gl (.setN i c)) := by
  unfold ckS at h
  split at h
  rotate_left
  · cases h
  rename_i x p v pos
  simp only [Bool.and_eq_true, beq_iff_eq] at h
  obtain ⟨⟨⟨h1, h2⟩, h3⟩, h4⟩ := h
  have hk2 : X.env.scope.kind = .function := by rw [ok.hsc]; exact hk
  split at h4
  · unfold ckE at h3
    split at h3
    rotate_left
    · cases h3
    exact s_setN ok.nd ok h1 h2 (n_lst (okEs go _ ok tk h3)) (swaps_none rfl _ _ _)
  · rename_i elt own t src cond
    unfold ckE at h3
    split at h3
    rotate_left
    · cases h3
    rename_i el tg it ifs scope vp
    simp only [Bool.and_eq_true] at h3
    obtain ⟨⟨⟨⟨⟨⟨⟨h1', h2'⟩, h3'⟩, h4'⟩, h5⟩, h6⟩, h7⟩, h8⟩ := h3
    cases q : swapB X.env.scope x p scope vp with
    | false =>
      exact s_setN ok.nd ok h1 h2 (n_lc ok h1' (okI go src ok tk h2') (by rw [ok.N, ok.hsc]; exact blk_ok h4') h5
        (fun s H Ca cl fp => g_tg (ok.blk h4' s H Ca cl fp) h6)
        (fun s H Ca cl fp => okC go cond (ok.blk h4' s H Ca cl fp) (tk.blk (ok.calm h1')) h8)
        (fun s H Ca cl fp => okE go elt (ok.blk h4' s H Ca cl fp) (tk.blk (ok.calm h1')) h7) h3') (by rw [swaps_lc hk2, q])
    | true =>
      exact s_setLc ok h1' h1 q (okI go src ok tk h2') (by rw [ok.N, ok.hsc]; exact blk_ok h4') h5
        (fun s H Ca cl fp => g_tg (ok.blk h4' s H Ca cl fp) h6)
        (fun s H Ca cl fp => okC go cond (ok.blk h4' s H Ca cl fp) (tk.blk (ok.calm h1')) h8)
        (fun s H Ca cl fp => okE go elt (ok.blk h4' s H Ca cl fp) (tk.blk (ok.calm h1')) h7) h3' hk2 (fun D σ H q => nw_own (H := H) q)
  · unfold ckE at h3
    split at h3
    rotate_left
    · cases h3
    rename_i y q es r
    simp only [Bool.and_eq_true, beq_iff_eq, Bool.not_eq_true'] at h3
    obtain ⟨⟨⟨⟨⟨h1', h2'⟩, h3'⟩, h4'⟩, h5⟩, h6⟩ := h3
    subst h2'
    cases es with
    | nil => cases h6
    | cons e es =>
      cases es with
      | cons e' es => unfold ckEs at h4'; simp only [Bool.and_eq_true] at h4'; have := h4'.2; unfold ckEs at this; cases this
      | nil =>
        unfold ckEs at h4'
        simp only [Bool.and_eq_true] at h4'
        exact s_setN ok.nd ok h1 h2 (n_list ok h1' h3' h4'.1.1 (b_of ok h4'.1.2 (okE go _ ok tk h4'.1.2))) (swaps_none rfl _ _ _)
  · unfold ckE at h3
    split at h3
    rotate_left
    · cases h3
    simp only [Bool.and_eq_true, beq_iff_eq] at h3
    obtain ⟨⟨⟨⟨⟨k1, k2⟩, k3⟩, k4⟩, k5⟩, k6⟩ := h3
    subst k2
    unfold ckI at k6
    split at k6
    rotate_left
    · cases k6
    simp only [Bool.and_eq_true, beq_iff_eq] at k6
    obtain ⟨⟨⟨j1, j2⟩, j3⟩, j4⟩ := k6
    subst j1
    exact s_setN ok.nd ok h1 h2 (n_rgl1 ok k1 k3 j2 j4 (okE go _ ok tk j3)) (swaps_none rfl _ _ _)
  · cases h4
mutual
theorem okS (go : G.Ok) (hk : sc.kind = .function) : ∀ (c : CS) {B : Bs} {F : FTab} {C : Ck} {X : Cx} {Wx : WX} {s : Stmt}, XOk G C gl F n sc sc X → TkB X B Wx → Top X → ckS C sc c s = true → PS X s (tS G B Wx F gl c)
  | .set i c, B, F, C, X, Wx, s, ok, tk, tp, h => set_ok go ok tk hk h
  | .setN i c, B, F, C, X, Wx, s, ok, tk, tp, h => setN_ok go ok tk hk h
  | .setT is c, B, F, C, X, Wx, s, ok, tk, tp, h => by
    unfold ckS at h
    split at h
    rotate_left
    · cases h
    simp only [Bool.and_eq_true] at h
    obtain ⟨⟨⟨⟨h1, h2⟩, h3⟩, h4⟩, h5⟩ := h
    exact s_setT ok h1 h2 (okE go c ok tk h3) h4 h5
  | .setSub a c d, B, F, C, X, Wx, s, ok, tk, tp, h => by
    unfold ckS at h
    split at h
    rotate_left
    · cases h
    simp only [Bool.and_eq_true] at h
    obtain ⟨⟨⟨⟨h1, h2⟩, h3⟩, h4⟩, h5⟩ := h
    cases a with
    | var i =>
      simp only [Bool.and_eq_true, beq_iff_eq] at h1
      exact s_sub ok h1.1 h1.2 h2 h3 (okE go d ok tk h4) (okE go c ok tk h5)
    | _ => cases h1
  | .setAttr a f c, B, F, C, X, Wx, s, ok, tk, tp, h => by
    unfold ckS at h
    split at h
    rotate_left
    · cases h
    simp only [Bool.and_eq_true, beq_iff_eq] at h
    obtain ⟨⟨⟨h1, h2⟩, h3⟩, h4⟩ := h
    cases a with
    | var i =>
      simp only [Bool.and_eq_true, beq_iff_eq] at h1
      exact s_attr ok go h1.1 h1.2 h2 h3 (okE go c ok tk h4)
    | _ => cases h1
  | .app i c, B, F, C, X, Wx, s, ok, tk, tp, h => by
    unfold ckS at h
    split at h
    rotate_left
    · cases h
    simp only [Bool.and_eq_true, beq_iff_eq] at h
    obtain ⟨⟨⟨⟨⟨h1, h2⟩, h3⟩, h4⟩, h5⟩, h6⟩ := h
    subst h1
    exact s_app ok h2 h3 h4 (by rw [h5]; exact beq_self_eq_true _) (okE go c ok tk h6)
  | .ex c, B, F, C, X, Wx, s, ok, tk, tp, h => by
    unfold ckS at h
    split at h
    rotate_left
    · cases h
    simp only [Bool.and_eq_true] at h
    exact s_ex (okE go c ok tk h.1) h.2
  | .ret c, B, F, C, X, Wx, s, ok, tk, tp, h => by
    unfold ckS at h
    split at h
    rotate_left
    · cases h
    exact s_ret (okE go c ok tk h)
  | .retN, B, F, C, X, Wx, s, ok, tk, tp, h => by
    unfold ckS at h
    split at h
    rotate_left
    · cases h
    exact s_retN
  | .ite t a b, B, F, C, X, Wx, s, ok, tk, tp, h => by
    unfold ckS at h
    split at h
    rotate_left
    · cases h
    simp only [Bool.and_eq_true] at h
    exact s_ite (okT go t ok tk h.1.1.1 h.1.1.2) (okSs go hk a ok tk tp h.1.2) (okSs go hk b ok tk tp h.2)
  | .for_ t src b, B, F, C, X, Wx, s, ok, tk, tp, h => by
    unfold ckS at h
    split at h
    rotate_left
    · cases h
    simp only [Bool.and_eq_true] at h
    obtain ⟨⟨⟨⟨h1, h2⟩, h3⟩, h4⟩, h5⟩ := h
    exact s_for ok h1 (okI go src ok tk h2) (g_tg ok h4) (okSs go hk b ok tk tp h5) h3
  | .while_ m t b, B, F, C, X, Wx, s, ok, tk, tp, h => by
    unfold ckS at h
    split at h
    rotate_left
    · cases h
    simp only [Bool.and_eq_true] at h
    exact s_while ok (okT go t ok tk h.1.1 h.1.2) (okSs go hk b ok tk tp h.2)
  | .pass, B, F, C, X, Wx, s, ok, tk, tp, h => by
    unfold ckS at h
    split at h
    rotate_left
    · cases h
    exact s_pass
  | .brk, B, F, C, X, Wx, s, ok, tk, tp, h => by
    unfold ckS at h
    split at h
    rotate_left
    · cases h
    exact s_brk
  | .cont, B, F, C, X, Wx, s, ok, tk, tp, h => by
    unfold ckS at h
    split at h
    rotate_left
    · cases h
    exact s_cont
  | .frz _, B, F, C, X, Wx, s, ok, tk, tp, h => by unfold ckS at h; cases h
  | .dead, B, F, C, X, Wx, s, ok, tk, tp, h => s_dead
  | .newD i, B, F, C, X, Wx, s, ok, tk, tp, h => by
    unfold ckS at h
    split at h
    rotate_left
    · cases h
    simp only [Bool.and_eq_true, beq_iff_eq] at h
    exact s_newD ok.nd ok h.1 h.2
  | .setK i as, B, F, C, X, Wx, s, ok, tk, tp, h => by
    unfold ckS at h
    split at h
    rotate_left
    · cases h
    simp only [Bool.and_eq_true, beq_iff_eq] at h
    exact s_setK ok.nd ok h.1.1 h.1.2 (okEs go as ok tk h.2)
  | .putD q k c, B, F, C, X, Wx, s, ok, tk, tp, h => by
    unfold ckS at h
    split at h
    rotate_left
    · cases h
    simp only [Bool.and_eq_true, beq_iff_eq] at h
    obtain ⟨⟨⟨⟨⟨h1, h2⟩, h3⟩, h4⟩, h5⟩, h6⟩ := h
    exact s_putD ok h1 h2 h3 h4 h5 (okE go c ok tk h6)
  | .appPop q k c, B, F, C, X, Wx, s, ok, tk, tp, h => by
    unfold ckS at h
    split at h
    rotate_left
    · cases h
    simp only [Bool.and_eq_true, beq_iff_eq] at h
    obtain ⟨⟨⟨⟨⟨⟨⟨⟨⟨h1, h2⟩, h3⟩, h4⟩, h5⟩, h6⟩, h7⟩, h8⟩, h9⟩, h10⟩ := h
    subst h1 h2
    exact s_appPop ok h3 h4 h5 h6 h7 (by rw [h8]; exact beq_self_eq_true _) (by rw [h9]; exact beq_self_eq_true _) (okE go c ok tk h10)
  | .forE i x c b, B, F, C, X, Wx, s, ok, tk, tp, h => by
    unfold ckS at h
    split at h
    rotate_left
    · cases h
    simp only [Bool.and_eq_true, beq_iff_eq] at h
    obtain ⟨⟨⟨⟨⟨⟨h1, h2⟩, h3⟩, h4⟩, h5⟩, h6⟩, h7⟩ := h
    subst h2
    exact s_enum ok h1 h3 h4 (w_of ok h5 (okE go c ok tk h5)) (g_tg ok h6) (okSs go hk b ok tk tp h7)
  | .try_ cb k ch, B, F, C, X, Wx, s, ok, tk, tp, h => by
    unfold ckS at h
    split at h
    rotate_left
    · cases h
    simp only [Bool.and_eq_true, beq_iff_eq, decide_eq_true_eq] at h
    obtain ⟨⟨⟨⟨⟨h0, h1⟩, h2⟩, h3⟩, h4⟩, h5⟩ := h
    exact s_try ok tk.tk tp.1 tp.2 h1 h2 h3 (fun W pn xe tk' po' => okSs go hk cb (ok.tr po') ⟨tk', tk.none (ok.calm h0)⟩ tp h4) (fun a pn => okSs go hk ch (ok.suite a pn) ⟨takes0, tk.none (ok.calm h0)⟩ tp h5)
  | .tryAs cb k i ch, B, F, C, X, Wx, s, ok, tk, tp, h => by
    unfold ckS at h
    split at h
    rotate_left
    · cases h
    simp only [Bool.and_eq_true, beq_iff_eq, decide_eq_true_eq] at h
    obtain ⟨⟨⟨⟨⟨⟨⟨h0, hi⟩, hln⟩, h1⟩, h2⟩, h3⟩, h4⟩, h5⟩ := h
    exact s_tryAs ok tk.tk tp.1 tp.2 h1 h2 h3 hi hln (fun W pn xe tk' po' => okSs go hk cb (ok.tr po') ⟨tk', tk.none (ok.calm h0)⟩ tp h4) (fun a oe cls d pn hz hv => okSs go hk ch (ok.suite a _) ⟨takes0, .inr ⟨X, oe, pn, rfl, hz, hv⟩⟩ tp h5)
  | .raise_ k, B, F, C, X, Wx, s, ok, tk, tp, h => by
    unfold ckS at h
    split at h
    rotate_left
    · cases h
    simp only [Bool.and_eq_true, beq_iff_eq, decide_eq_true_eq] at h
    exact s_raise ok tk.tk h.1.1.1.1 h.2 h.1.1.1.2 h.1.1.2 h.1.2
theorem okSs (go : G.Ok) (hk : sc.kind = .function) : ∀ (c : CSs) {B : Bs} {F : FTab} {C : Ck} {X : Cx} {Wx : WX} {ss : List Stmt}, XOk G C gl F n sc sc X → TkB X B Wx → Top X → ckSs C sc c ss = true → PSs X ss (tSs G B Wx F gl c)
  | .nil, B, F, C, X, Wx, ss, ok, tk, tp, h => by
    unfold ckSs at h
    rw [List.isEmpty_iff] at h
    subst h
    exact ss_nil
  | .cons c cs, B, F, C, X, Wx, ss, ok, tk, tp, h => by
    cases c with
    | frz i =>
      unfold ckSs at h
      exact ss_frz (okSs go hk cs ok tk tp h)
    | _ =>
      unfold ckSs at h
      split at h
      · rw [Bool.and_eq_true] at h
        exact ss_cons (okS go hk _ ok tk tp h.1) (okSs go hk cs ok tk tp h.2)
      · cases h
end
end
end Rf
set_option Elab.async false
set_option linter.all false
set_option maxRecDepth 100000
set_option maxHeartbeats 8000000
/-! G18: functions, the program -/
namespace Rf
open PySem L2 PySem.Spec PyProof.Rows
/-- a def of the program: its place, its text; its names, its core -/
structure PFn where
  d : He.DefD
  N : List Str
  fn : Fn
  pr : Bool := false
def PFn.ps (p : PFn) : List Str := p.d.params.args.map (·.arg) ++ p.d.params.kwonlyargs.map (·.arg)
/-- has it keyword-only parameters? -/
def PFn.kwo (p : PFn) : Bool := !p.d.params.kwonlyargs.isEmpty
/-- what is left over -/
def PFn.pv (p : PFn) : Option Str := p.d.params.vararg.map (·.arg)
def PFn.all (p : PFn) : List Str := p.ps ++ p.pv.toList
def chkFn (T : Tab) (p : PFn) : Bool :=
  p.fn.np == p.all.length && p.fn.nn == p.N.length && decide p.N.Nodup && p.N.take p.all.length == p.all &&
  p.d.scope.kind == .function && !p.d.scope.isCoroutine && !p.d.scope.isGenerator &&
  (p.all.all fun x => p.d.scope.names.lookup x == some .local || p.d.scope.names.lookup x == some .cell) && (p.d.scope.names.all fun y => !(y.2 == .free)) &&
  p.d.dfl.isEmpty && (p.d.kwd.isEmpty || p.kwo) && ckSs ⟨T, p.N, true⟩ p.d.scope p.fn.body p.d.body && p.fn.va == p.pv.isSome
theorem FnScope.of {T : Tab} {p : PFn} (h : chkFn T p = true) : FnScope p.N p.all p.d.scope ∧ p.fn.np = p.all.length ∧ p.fn.nn = p.N.length ∧ p.d.dfl = [] ∧ True ∧ ckSs ⟨T, p.N, true⟩ p.d.scope p.fn.body p.d.body = true ∧ p.fn.va = p.pv.isSome := by
  unfold chkFn at h
  simp only [Bool.and_eq_true, Bool.not_eq_true', beq_iff_eq, decide_eq_true_eq, List.isEmpty_iff] at h
  obtain ⟨⟨⟨⟨⟨⟨⟨⟨⟨⟨⟨⟨h1, h2⟩, h3⟩, h4⟩, h5⟩, h6⟩, h7⟩, h8⟩, h9⟩, h10⟩, h11⟩, h12⟩, h13⟩ := h
  refine ⟨⟨h5, h6, h7, h3, h4, fun x hx => ?_, fun y hy e => ?_⟩, h1, h2, h10, trivial, h12, h13⟩
  · have q := List.all_eq_true.mp h8 x hx
    simpa [Bool.or_eq_true] using q
  · have q := List.all_eq_true.mp h9 y hy
    rw [e] at q
    cases q
/-- how it binds -/
def BOk (K : PySem.W.Frag) (p : PFn) (fd : FuncData) : Prop := p.kwo = false ∧ match p.pv with
  | none => Binds K fd p.ps []
  | some pv => ∀ us rest : List Value, us.length = p.ps.length → bindArgs fd ⟨us ++ rest, []⟩ = (newTuple rest >>= fun t => pure (p.ps.zip us ++ [(pv, t)]))
/-- how it binds where keywords are written -/
def KOk (G : Gm) (p : PFn) (fd : FuncData) (kf : KF) : Prop := ∃ (mv : List Value) (mvV : List V), KBn G.K fd p.ps (kf.n + 1) kf.ks (fun us ws => us ++ selP kf.sel mv ws) (fun vs zs => vs ++ selP kf.sel mvV zs) ∧ ∀ w, Reps G w (kf.ms.map (·.2)) mvV
section
variable {G : Gm} {B : Bs} {w w' : W} {ds : List D} {vs : List V}
theorem AReps.d_of {ds : List D} : ∀ {vs : List V}, Reps G w ds vs → AReps G w (ds.map .d) vs := by
  induction ds with
  | nil => intro vs h; cases h; exact .nil
  | cons d ds ih => intro vs h; cases h with | cons r rs => exact .cons (.d r) (ih rs)
theorem AReps.app2 {as bs : List Ar} : ∀ {us vs : List V}, AReps G w as us → AReps G w bs vs → AReps G w (as ++ bs) (us ++ vs) := by
  induction as with
  | nil => intro us vs h1 h2; cases h1; exact h2
  | cons a as ih => intro us vs h1 h2; cases h1 with | cons r rs => exact .cons r (ih rs h2)
theorem AReps.look : ∀ {as : List Ar} {vs : List V} (i : Nat), AReps G w as vs → (∃ x v, as[i]? = some x ∧ vs[i]? = some v ∧ ARep G w x v) ∨ (as[i]? = none ∧ vs[i]? = none)
  | _, _, i, .nil => .inr ⟨by simp, by simp⟩
  | _, _, 0, .cons (d := d) (v := v) r _ => .inl ⟨d, v, by simp, by simp, r⟩
  | _, _, i + 1, .cons r rs => by
    rcases AReps.look i rs with ⟨x, v, h1, h2, h3⟩ | ⟨h1, h2⟩
    · exact .inl ⟨x, v, by simpa using h1, by simpa using h2, h3⟩
    · exact .inr ⟨by simpa using h1, by simpa using h2⟩
theorem AReps.sel {ms zs : List Ar} {mv us : List V} (hm : AReps G w ms mv) (hz : AReps G w zs us) : ∀ (sel : List (Nat ⊕ Nat)), AReps G w (selP sel ms zs) (selP sel mv us)
  | [] => .nil
  | .inl i :: r => by
    unfold selP
    rcases hz.look i with ⟨x, v, h1, h2, h3⟩ | ⟨h1, h2⟩
    · rw [h1, h2]; exact .cons h3 (AReps.sel hm hz r)
    · rw [h1, h2]; exact AReps.sel hm hz r
  | .inr i :: r => by
    unfold selP
    rcases hm.look i with ⟨x, v, h1, h2, h3⟩ | ⟨h1, h2⟩
    · rw [h1, h2]; exact .cons h3 (AReps.sel hm hz r)
    · rw [h1, h2]; exact AReps.sel hm hz r
theorem Reps.at (r : Reps G w ds vs) (n : Nat) (m : Addr) : EnvOk G (Bs.of w m) w (start n ds) (vs.map some ++ List.replicate (n - ds.length) none) (fun _ => 0) where
  len := by unfold start; rw [List.length_append, List.length_append, List.length_map, List.length_map, List.length_replicate, List.length_replicate, r.length]
  vals := fun i d h => by
    unfold start at h
    by_cases hi : i < ds.length
    · rw [List.getElem?_append_left (by rw [List.length_map]; exact hi), List.getElem?_map] at h
      rw [List.getElem?_append_left (by rw [List.length_map, ← r.length]; exact hi), List.getElem?_map]
      cases q : ds[i]? with
      | none => rw [q] at h; cases h
      | some d' =>
        rw [q] at h
        cases h
        obtain ⟨v, hv, rv⟩ := r.get q
        exact ⟨v, by rw [hv]; rfl, rv⟩
    · rw [List.getElem?_append_right (by rw [List.length_map]; omega), List.getElem?_replicate] at h
      split at h <;> cases h
  own := fun i o h => by
    unfold start at h
    by_cases hi : i < ds.length
    · rw [List.getElem?_append_left (by rw [List.length_map]; exact hi), List.getElem?_map] at h
      cases q : ds[i]? <;> rw [q] at h <;> cases h
    · rw [List.getElem?_append_right (by rw [List.length_map]; omega), List.getElem?_replicate] at h
      split at h <;> cases h
  inj := fun i j o u h1 h2 e => by
    unfold start at h1
    by_cases hi : i < ds.length
    · rw [List.getElem?_append_left (by rw [List.length_map]; exact hi), List.getElem?_map] at h1
      cases q : ds[i]? <;> rw [q] at h1 <;> cases h1
    · rw [List.getElem?_append_right (by rw [List.length_map]; omega), List.getElem?_replicate] at h1
      split at h1 <;> cases h1
  mine := fun i c fs h => by
    unfold start at h
    by_cases hi : i < ds.length
    · rw [List.getElem?_append_left (by rw [List.length_map]; exact hi), List.getElem?_map] at h
      cases q : ds[i]? <;> rw [q] at h <;> cases h
    · rw [List.getElem?_append_right (by rw [List.length_map]; omega), List.getElem?_replicate] at h
      split at h <;> cases h
  bor := fun i o h => by
    unfold start at h
    by_cases hi : i < ds.length
    · rw [List.getElem?_append_left (by rw [List.length_map]; exact hi), List.getElem?_map] at h
      cases q : ds[i]? <;> rw [q] at h <;> cases h
    · rw [List.getElem?_append_right (by rw [List.length_map]; omega), List.getElem?_replicate] at h
      split at h <;> cases h
  ex := fun i o h => by
    unfold start at h
    by_cases hi : i < ds.length
    · rw [List.getElem?_append_left (by rw [List.length_map]; exact hi), List.getElem?_map] at h
      cases q : ds[i]? <;> rw [q] at h <;> cases h
    · rw [List.getElem?_append_right (by rw [List.length_map]; omega), List.getElem?_replicate] at h
      split at h <;> cases h
  key := fun i o h => by
    unfold start at h
    by_cases hi : i < ds.length
    · rw [List.getElem?_append_left (by rw [List.length_map]; exact hi), List.getElem?_map] at h
      cases q : ds[i]? <;> rw [q] at h <;> cases h
    · rw [List.getElem?_append_right (by rw [List.length_map]; omega), List.getElem?_replicate] at h
      split at h <;> cases h
theorem AReps.length {as : List Ar} : ∀ {vs : List V}, AReps G w as vs → as.length = vs.length
  | _, .nil => rfl
  | _, .cons _ r => by rw [List.length_cons, List.length_cons, AReps.length r]
theorem AReps.get : ∀ {as : List Ar} {vs : List V} {i : Nat} {x : Ar}, AReps G w as vs → as[i]? = some x → ∃ v, vs[i]? = some v ∧ ARep G w x v
  | _, _, _, _, .nil, h => by simp at h
  | _, _, 0, _, .cons r _, h => by
    simp at h
    subst h
    exact ⟨_, rfl, r⟩
  | _, _, i + 1, _, .cons _ r, h => by
    obtain ⟨v, h1, h2⟩ := AReps.get r (i := i) (by simpa using h)
    exact ⟨v, by simpa using h1, h2⟩
theorem startB_get {n : Nat} {as : List Ar} {i : Nat} {s : Sl} (h : (startB n as)[i]? = some s) (hs : s ≠ .no) : ∃ x, as[i]? = some x ∧ s = x.sl := by
  unfold startB at h
  by_cases hi : i < as.length
  · rw [List.getElem?_append_left (by rw [List.length_map]; exact hi), List.getElem?_map] at h
    cases q : as[i]? with
    | none => rw [q] at h; cases h
    | some x => rw [q] at h; cases h; exact ⟨x, rfl, rfl⟩
  · rw [List.getElem?_append_right (by rw [List.length_map]; omega), List.getElem?_replicate] at h
    split at h
    · cases h; exact absurd rfl hs
    · cases h
theorem AReps.at {as : List Ar} (ok : WOk G w) (r : AReps G w as vs) (n : Nat) (m : Addr) : EnvOk G (Bs.of w m) w (startB n as) (vs.map some ++ List.replicate (n - as.length) none) (fun _ => 0) where
  len := by unfold startB; rw [List.length_append, List.length_append, List.length_map, List.length_map, List.length_replicate, List.length_replicate, r.length]
  vals := fun i d h => by
    obtain ⟨x, hx, e⟩ := startB_get h (fun e => nomatch e)
    obtain ⟨v, hv, rv⟩ := r.get hx
    cases rv with
    | d rv =>
      cases e
      refine ⟨v, ?_, rv⟩
      rw [List.getElem?_append_left (by rw [List.length_map]; exact (List.getElem?_eq_some_iff.mp hv).1), List.getElem?_map, hv]
      rfl
    | b _ _ => cases e
  own := fun i o h => by
    obtain ⟨x, hx, e⟩ := startB_get h (fun e => nomatch e)
    cases x <;> cases e
  inj := fun i j o u h _ _ => by
    obtain ⟨x, hx, e⟩ := startB_get h (fun e => nomatch e)
    cases x <;> cases e
  mine := fun i c fs h => by
    obtain ⟨x, hx, e⟩ := startB_get h (fun e => nomatch e)
    cases x <;> cases e
  bor := fun i o h => by
    obtain ⟨x, hx, e⟩ := startB_get h (fun e => nomatch e)
    obtain ⟨v, hv, rv⟩ := r.get hx
    cases rv with
    | d rv => cases e
    | b ho nl =>
      cases e
      rename_i a
      refine ⟨a, ?_, ok, ho, nl⟩
      rw [List.getElem?_append_left (by rw [List.length_map]; exact (List.getElem?_eq_some_iff.mp hv).1), List.getElem?_map, hv]
      rfl
  ex := fun i o h => by
    obtain ⟨x, hx, e⟩ := startB_get h (fun e => nomatch e)
    cases x <;> cases e
  key := fun i o h => by
    obtain ⟨x, hx, e⟩ := startB_get h (fun e => nomatch e)
    cases x <;> cases e
/-- the body's end is the call's -/
theorem fin_ok {m : Addr} {Q : VK} {E : XK} {o : Out} (h : PostF G w o.fin Q E) : SPost G (Bs.of w m) (fun cls d _ H => E cls d H) { nx := fun _ H' => Q .non H', rt := Q } w o := by
  cases o with
  | next env' h' => exact fun w' σ' ω' eh s le => h w' eh s.ok s.be .non .non
  | brk env' h' => exact h.elim
  | cont env' h' => exact h.elim
  | ret d h' => exact fun w' v eh ok be le r => h w' eh ok be v r
  | exc x env' h' => exact fun w' σ' ω' eh s le => h w' eh s.ok s.be
  | bad => exact h.elim
end
theorem start_own {n : Nat} {ds : List D} {i : Nat} {o : Ob} (h : (start n ds)[i]? = some (Sl.own o)) : False := by
  unfold start at h
  by_cases hi : i < ds.length
  · rw [List.getElem?_append_left (by rw [List.length_map]; exact hi), List.getElem?_map] at h
    cases q : ds[i]? <;> rw [q] at h <;> cases h
  · rw [List.getElem?_append_right (by rw [List.length_map]; omega), List.getElem?_replicate] at h
    split at h <;> cases h
/-- an __init__'s end -/
theorem fini_ok {G : Gm} {w0 w1 : W} {x : Addr} {c : Nat} {Q : VK} {E : XK} {o : Out}
    (h : Post G w0 (o.fini c) (fun fs w' => ∀ dx' fvs, w'.H x = some (.ins (G.ca c) dx' fvs) → RepF G w' fs fvs → ¬ w'.Z x → ¬ w'.live x → Q .non w'.H) (fun z w' => ∀ cls dd, ExR G w' z cls dd → E cls dd w'.H)) :
    SPost G (Bs.of w0 x) (fun cls d _ H => E cls d H) { nx := fun _ H' => Q .non H', rt := Q } w1 o := by
  cases o with
  | next env' h' =>
    intro w' σ' ω' eh s le
    unfold Out.fini at h
    split at h
    · rename_i k fs rest h2 heq
      cases heq
      split at h
      · rename_i ek
        subst ek
        obtain ⟨j1, j2, j3, j4, j5⟩ := s.eo.own 0 _ rfl
        have jm : ω' 0 = x := s.eo.mine 0 k fs rfl
        rw [jm] at j2 j3 j4
        cases j2 with
        | ins hc hH rf => exact h w' eh s.ok s.be _ _ hH rf j3 j4
      · exact h.elim
    · rename_i heq
      cases heq
    · exact h.elim
  | brk env' h' => exact h.elim
  | cont env' h' => exact h.elim
  | ret d h' => exact h.elim
  | exc z env' h' => exact fun w' σ' ω' eh s le => h w' eh s.ok s.be
  | bad => exact h.elim
/-- return iter(self.fld) -/
def itB (p : PFn) (fld : Str) : Bool := p.pv.isNone && (match p.ps, p.d.body with
  | [x], [.Return (some (.Call (.Name y _) [.Attribute (.Name z _) g _] [] _)) _] => y == "iter" && z == x && g == fld && isGl p.d.scope "iter" && isVis p.d.scope x
  | _, _ => false)
/-- what the program's facts are -/
structure POk (G : Gm) (P : Program) (w : World) (mg : Str → Option Value) (base : Heap) (T : Tab) (tb : Tb) (L : List PFn) (gl : Nat → Option D) : Prop where
  go : G.Ok
  fns : ∀ (f : Nat) (x : Str), T.fns[f]? = some (x, none) → ∃ p a fd, L[f]? = some p ∧ mg x = some (.ref a) ∧ FunD G.K p.d.name p.d.qual p.d.params p.d.body p.d.scope (p.d.dvs G.K) (p.d.kws G.K) a fd ∧ BOk G.K p fd
  chk : ∀ p ∈ L, chkFn T p = true
  glob : ∀ (g : Nat) (x : Str) (d : D), T.gn[g]? = some x → gl g = some d → ∃ v u, mg x = some u ∧ RelV v u ∧ ∀ w, Rep G w d v
  blt : ∀ x ∈ names0, mg x = none
  cls : ∀ (c : Nat) (x : Str), T.cls[c]? = some x → c < G.nc ∧ mg x = some (.ref (G.ca c))
  exc : ∀ (c : Nat) (x : Str), T.cls.length ≤ c → (T.cls ++ T.exc)[c]? = some x → mg x = some (.ref (G.ca c))
  rai : ∀ (c : Nat), T.rai.contains c = true → PySem.W.excIn G.K (G.ca c) He.veBase "ValueError.__new__" = true ∧ PySem.W.keepIn G.K (.ref (G.ca c)) = true ∧ PySem.W.subIn G.K (.ref (G.ca c)) (.type "BaseException") = some true ∧ PySem.W.typeIn G.K (.ref (G.ca c)) = some (.type "type")
  exm : ∀ c c' b, tb.sb c c' = some b → PySem.W.exmOne G.K (.ref (G.ca c)) (.ref (G.ca c')) = some b
  xi : ∀ c t b, tb.xi c t = some b → PySem.W.kitOne G.K (.ref (G.ca c)) (xtV G t) = some b ∧ ExcC G.K (G.ca c)
  xf : ∀ c f, tb.xf c f = true → XfC G.K (G.ca c) ∧ PySem.W.findIn G.K (.ref (G.ca c)) (G.sy f) = some none
  kf : ∀ (k c n : Nat) (ns : List Str), T.kfs[k]? = some (c, n, ns) → ∃ kf f p a fd, tb.kf k = some kf ∧ kf.c = c ∧ kf.n = n ∧ kf.ks = ns ∧ c < G.nc ∧ tb.it c = some f ∧ L[f]? = some p ∧ p.pv = none ∧ Mk G.K (G.ca c) a ∧ FunD G.K p.d.name p.d.qual p.d.params p.d.body p.d.scope (p.d.dvs G.K) (p.d.kws G.K) a fd ∧ KOk G p fd kf
  pt : ∀ c m f, tb.pt c m = some f → c < G.nc ∧ ∃ p pp g fd, L[f]? = some p ∧ PropOf G.K (G.ca c) (G.sy m) pp g ∧ FunD G.K p.d.name p.d.qual p.d.params p.d.body p.d.scope (p.d.dvs G.K) (p.d.kws G.K) g fd ∧ BOk G.K p fd
  sy : ∀ (f : Nat) (x : Str), T.fld[f]? = some x → G.sy f = x
  ft : ∀ c f, tb.ft c f = true → c < G.nc ∧ NoAttr G.K (G.ca c) (G.sy f)
  mt : ∀ c m f, tb.mt c m = some f → c < G.nc ∧ ∃ p a fd, L[f]? = some p ∧ Meth G.K (G.ca c) (G.sy m) a ∧ FunD G.K p.d.name p.d.qual p.d.params p.d.body p.d.scope (p.d.dvs G.K) (p.d.kws G.K) a fd ∧ BOk G.K p fd
  ot : ∀ c k f, tb.ot c k = some f → c < G.nc ∧ (k = .cmp .ne → PySem.W.findIn G.K (.ref (G.ca c)) "__ne__" = some (some (.builtin "object.__ne__"))) ∧ ∃ p a fd, L[f]? = some p ∧ PySem.W.findIn G.K (.ref (G.ca c)) k.nm = some (some (.ref a)) ∧ PySem.W.isFn G.K (.ref a) = true ∧ FunD G.K p.d.name p.d.qual p.d.params p.d.body p.d.scope (p.d.dvs G.K) (p.d.kws G.K) a fd ∧ BOk G.K p fd
  cv : ∀ c f d, tb.cv c f = some d → ∃ mc v u, ClX.CRead G.K (G.ca c) mc ∧ ClX.CVal G.K (G.ca c) mc (G.sy f) v u ∧ ∀ w, Rep G w d v
  itf : ∀ c f, tb.itf c = some f → c < G.nc ∧ NoAttr G.K (G.ca c) (G.sy f) ∧ ∃ p a fd, PySem.W.findIn G.K (.ref (G.ca c)) "__iter__" = some (some (.ref a)) ∧ PySem.W.isFn G.K (.ref a) = true ∧ chkFn T p = true ∧ itB p (G.sy f) = true ∧ FunD G.K p.d.name p.d.qual p.d.params p.d.body p.d.scope (p.d.dvs G.K) (p.d.kws G.K) a fd ∧ BOk G.K p fd
  mkr : ∀ (c : Nat), T.mks.contains c = true → ∃ f p a fd, tb.it c = some f ∧ L[f]? = some p ∧ p.pv = none ∧ Mk G.K (G.ca c) a ∧ FunD G.K p.d.name p.d.qual p.d.params p.d.body p.d.scope (p.d.dvs G.K) (p.d.kws G.K) a fd ∧ BOk G.K p fd
def fnsOf (L : List PFn) (i : Nat) : Option Fn := L[i]?.map (·.fn)
section
variable {G : Gm} {P : Program} {w : World} {mg : Str → Option Value} {base : Heap} {T : Tab} {tb : Tb} {L : List PFn} {gl : Nat → Option D}
theorem spF_bad {F : FTab} {f : Nat} (h : ∀ ds h, F.call f ds h = .bad) {vs : List V} {H : Hp} {Q : VK} {E : XK} (s : spF G F f vs H Q E) : False := by
  obtain ⟨w, ds, _, _, _, p⟩ := s
  rw [h] at p
  exact p
theorem spI_bad {F : FTab} {c : Nat} (h : ∀ ds h, F.ini c ds h = .bad) {vs : List V} {H : Hp} {Q : VK} {E : XK} (s : spI G F c vs H Q E) : False := by
  obtain ⟨w0, w, ds, a, dx, vs', _, _, _, _, _, _, _, _, _, _, _, p⟩ := s
  rw [h] at p
  exact p
theorem spFB_bad {F : FTab} {f : Nat} (h : ∀ ds h, F.callb f ds h = .bad) {vs : List V} {H : Hp} {Q : VK} {E : XK} (s : spFB G F f vs H Q E) : False := by
  obtain ⟨w, ds, _, _, _, p⟩ := s
  rw [h] at p
  exact p
theorem spIB_bad {F : FTab} {c : Nat} (h : ∀ ds h, F.inib c ds h = .bad) {vs : List V} {H : Hp} {Q : VK} {E : XK} (s : spIB G F c vs H Q E) : False := by
  obtain ⟨w0, w, ds, a, dx, vs', _, _, _, _, _, _, _, _, _, _, _, _, p⟩ := s
  rw [h] at p
  exact p
theorem isLoc_of {sc : Scope} {x : Str} (hx : isLoc sc x = true) : L2.Loc sc x := by
  unfold isLoc at hx
  split at hx
  · rename_i q; exact .inl q
  · rename_i q; exact .inr q
  · cases hx
/-- the defs and the __init__s, so deep -/
abbrev FnK (G : Gm) (P : Program) (w : World) (mg : Str → Option Value) (base : Heap) (tb : Tb) (L : List PFn) (gl : Nat → Option D) (k : Nat) : Prop :=
  (∀ (f : Nat) (p : PFn) (a : Addr) (fd : FuncData), L[f]? = some p → FunD G.K p.d.name p.d.qual p.d.params p.d.body p.d.scope (p.d.dvs G.K) (p.d.kws G.K) a fd → BOk G.K p fd → FnR P w G.K mg base (L2.CX P w) (2 * k) a (spF G (calls gl (fnsOf L) tb k) f)) ∧
  (∀ (c f : Nat) (p : PFn) (a : Addr) (fd : FuncData), tb.it c = some f → L[f]? = some p → FunD G.K p.d.name p.d.qual p.d.params p.d.body p.d.scope (p.d.dvs G.K) (p.d.kws G.K) a fd → p.pv = none → BOk G.K p fd → FnR P w G.K mg base (L2.CX P w) (2 * k) a (spI G (calls gl (fnsOf L) tb k) c)) ∧
  (∀ (f : Nat) (p : PFn) (a : Addr) (fd : FuncData), L[f]? = some p → FunD G.K p.d.name p.d.qual p.d.params p.d.body p.d.scope (p.d.dvs G.K) (p.d.kws G.K) a fd → BOk G.K p fd → FnR P w G.K mg base (L2.CX P w) (2 * k) a (spFB G (calls gl (fnsOf L) tb k) f)) ∧
  (∀ (c f : Nat) (p : PFn) (a : Addr) (fd : FuncData), tb.it c = some f → L[f]? = some p → FunD G.K p.d.name p.d.qual p.d.params p.d.body p.d.scope (p.d.dvs G.K) (p.d.kws G.K) a fd → p.pv = none → BOk G.K p fd → FnR P w G.K mg base (L2.CX P w) (2 * k) a (spIB G (calls gl (fnsOf L) tb k) c)) ∧
  ∀ (kk : Nat) (kf : KF) (f : Nat) (p : PFn) (a : Addr) (fd : FuncData), tb.kf kk = some kf → tb.it kf.c = some f → L[f]? = some p → FunD G.K p.d.name p.d.qual p.d.params p.d.body p.d.scope (p.d.dvs G.K) (p.d.kws G.K) a fd → p.pv = none → KOk G p fd kf → FnRk P w G.K mg base (L2.CX P w) (2 * k) a (kf.n + 1) kf.ks (spKB G (calls gl (fnsOf L) tb k) kf)
/-- an own __iter__ -/
theorem fn_it (po : POk G P w mg base T tb L gl) {c : Nat} {fld : Str} {p : PFn} {f : Addr} {fd : FuncData} (hc : c < G.nc) (hna : NoAttr G.K (G.ca c) fld) (hck : chkFn T p = true) (hit : itB p fld = true) (hF : FunD G.K p.d.name p.d.qual p.d.params p.d.body p.d.scope (p.d.dvs G.K) (p.d.kws G.K) f fd) (hB : BOk G.K p fd) : FnIt G P w G.K mg base (L2.CX P w) 1 f c fld := by
  intro A outer s H ad dx l fvs zs Q E hr e0 ha hl hz hq
  obtain ⟨S, h1, h2, h3, h4, h5, h6⟩ := FnScope.of hck
  unfold itB at hit
  rw [Bool.and_eq_true, Option.isNone_iff_eq_none] at hit
  obtain ⟨hpv, hit⟩ := hit
  split at hit
  rotate_left
  · cases hit
  rename_i x y p1 z p2 g p3 p4 p5 hps hbody
  simp only [Bool.and_eq_true, beq_iff_eq] at hit
  obtain ⟨⟨⟨⟨rfl, rfl⟩, rfl⟩, hg⟩, hv⟩ := hit
  have hall : p.all = [z] := by unfold PFn.all; rw [hpv, hps]; rfl
  rw [hall] at S
  have hb := hB.2
  rw [hpv] at hb
  simp only at hb
  rw [hps] at hb
  obtain ⟨oc, od, dV, kV, doc, pm, an, cdv, ct, osl, rfl, lk, hcd, _, _⟩ := hF.ex
  have KX : G.K.In s.heap := e0.mod.kin.keeps fun b o e => (e0.bs b o e).1
  have lim : s.heap.NoLimit := e0.mod.nolimit.keeps fun b o e => (e0.bs b o e).1
  have hkind : ∀ y ∈ [z].zip [Value.ref ad], p.d.scope.names.lookup y.1 = some .local ∨ (p.d.scope.names.lookup y.1 = some .cell ∧ ((cellsFrom (s.heap.objs.size + 1) p.d.scope.names []).lookup y.1).isSome = true) := fun ⟨n, v⟩ hy => by
    rcases S.par n (List.of_mem_zip hy).1 with q | q
    · exact .inl q
    · exact .inr ⟨q, PySem.W.cellsFrom_some _ _ _ (.inl q)⟩
  refine codeAny_call_function hr.depth (KX _ _ lk) rfl S.co S.gen rfl (PySem.W.codeRec_of KX hcd) (hb s [.ref ad] KX (by rfl) _ _ _ _ ?_)
  refine wpAny_newFunctionEnv_cells S.kind hkind fun env he s1 xx => ?_
  subst he
  refine ⟨lim.keeps xx.toInCall.keep, codeAny_func ?_⟩
  have I : Inv (cxOf (L2.CX P w) P w G.K mg base p.N p.d.qual p.d.scope f cdv A outer s H E) [] (L2.start p.N [.ref ad]) H s1 := inv_start S hr.hd e0 rfl (.cons rfl .nil) xx
  have hN0 : p.N[0]? = some z := by
    have q := S.pre
    cases hN : p.N with
    | nil => rw [hN] at q; cases q
    | cons a r =>
      rw [hN] at q
      simp at q
      rw [q]
      rfl
  obtain ⟨g1, g2⟩ := gl_of (X := cxOf (L2.CX P w) P w G.K mg base p.N p.d.qual p.d.scope f cdv A outer s H E) hg rfl
  obtain ⟨v1, v2, v3⟩ := vis_of (X := cxOf (L2.CX P w) P w G.K mg base p.N p.d.qual p.d.scope f cdv A outer s H E) hv rfl
  have ht := pss_one (ps_ret (pos := p5) (pe_callB (X := cxOf (L2.CX P w) P w G.K mg base p.N p.d.qual p.d.scope f cdv A outer s H E) (p := p1) (pos := p4) ItX.call_iterN g1 (po.blt _ (by simp [names0])) boot_iter (pa_cons (pe_fld (f := g) (pos := p3) (pe_var (pos := p2) hN0 v1 v2 v3) (base_of (l := .Name z p2) rfl)) pa_nil rfl) (by decide) g2 rfl rfl))
  rw [hbody]
  refine wpAny_mono (ht.run [] s1 (L2.start p.N [.ref ad]) H { nx := fun _ H' => Q .non H', rt := Q } I ?_) (fun fl s' hs => ?_) fun e s' hs => hs
  · refine ⟨.ref ad, rfl, ad, G.ca c, dx, fvs, .ref l, rfl, ha, po.go.cls c hc, hna, hl, ?_⟩
    exact ⟨l, zs, rfl, hz, fun it hn hle => hq it hn hle⟩
  have fin : ∀ {σ' : L2.St} {H' : Hp} {v : V} {u : Value}, Inv (cxOf (L2.CX P w) P w G.K mg base p.N p.d.qual p.d.scope f cdv A outer s H E) [] σ' H' s' → RelV v u → Q v H' → L2.CE outer P w H s Q u s' :=
    fun {σ' H' v u} J rv q => ⟨v, H', J.os, J.bare, J.base, J.hok, rv, q⟩
  cases fl with
  | ret u =>
    obtain ⟨v, σ', H', J, rv, q⟩ := hs
    exact fin J rv q
  | next =>
    obtain ⟨σ', H', J, q⟩ := hs
    exact fin (v := V.non) (u := Value.none) J rfl q
  | brk =>
    obtain ⟨_, _, _, q⟩ := hs
    exact False.elim q
  | cont =>
    obtain ⟨_, _, _, q⟩ := hs
    exact False.elim q
theorem xok_of (po : POk G P w mg base T tb L gl) {k : Nat} (ih : FnK G P w mg base tb L gl k) {p : PFn} {ps : List Str} (S : FnScope p.N ps p.d.scope) {a : Addr} {cdv : Value} {A : Around} {outer : List Env} {s : Shared} {H : Hp} {E : XK}
    (hr : Room (2 * k + 1) (A.deeper (envOfC p.d.qual p.d.scope s.heap.objs.size a cdv))) : XOk G ⟨T, p.N, true⟩ gl (calls gl (fnsOf L) tb k) k p.d.scope p.d.scope (cxOf (L2.CX P w) P w G.K mg base p.N p.d.qual p.d.scope a cdv A outer s H E) where
  K := rfl
  N := rfl
  nd := S.nd
  hsc := rfl
  calm := fun _ => rfl
  hu := Nat.lt_of_le_of_lt (Nat.add_le_add_left (by omega : 65 ≤ 16 * (2 * k + 1) + 200) _) (by have := hr.un; rw [Nat.add_assoc] at this; exact this)
  room := fun _ => hr
  fnl := fun x hx => ⟨isLoc_of hx, .inl rfl⟩
  glob := po.glob
  blt := po.blt
  po := passes_of rfl
  cls := po.cls
  fn := fun f' x hf => by
    obtain ⟨p', a', fd', g1, g2, g3, g4⟩ := po.fns f' x hf
    exact ⟨a', g2, g3.kp, ih.1 f' p' a' fd' g1 g3 g4⟩
  exc := po.exc
  rai := po.rai
  exm := fun c c' b h => po.exm c c' b (by cases k <;> exact h)
  xi := fun c t b h => po.xi c t b (by cases k <;> exact h)
  xf := fun c f h => po.xf c f (by cases k <;> exact h)
  kf := fun k' c n ns _ h => by
    obtain ⟨kf, f', p', a', fd', g0, rfl, rfl, rfl, g1, g2, g3, g4, g5, g6, g7⟩ := po.kf k' c n ns h
    exact ⟨kf, by cases k <;> exact g0, rfl, rfl, rfl, g1, a', g5, ih.2.2.2.2 k' kf f' p' a' fd' g0 g2 g3 g6 g4 g7⟩
  pt := fun c m f h => by
    obtain ⟨h1, p', pp, g', fd', g1, g2, g3, g4⟩ := po.pt c m f (by cases k <;> exact h)
    exact ⟨h1, pp, g', g2, ih.1 f p' g' fd' g1 g3 g4⟩
  fnb := fun f' x hf => by
    obtain ⟨p', a', fd', g1, g2, g3, g4⟩ := po.fns f' x hf
    exact ⟨a', g2, g3.kp, ih.2.2.1 f' p' a' fd' g1 g3 g4⟩
  mkb := fun c h => by
    obtain ⟨f', p', a', fd', g0, g1, g1', g2, g3, g4⟩ := po.mkr c h
    exact ⟨a', g2, ih.2.2.2.1 c f' p' a' fd' g0 g1 g3 g1' g4⟩
  sy := po.sy
  ft := fun c f h => po.ft c f (by cases k <;> exact h)
  mt := fun c m f h => by
    obtain ⟨h1, p', a', fd', g1, g2, g3, g4⟩ := po.mt c m f (by cases k <;> exact h)
    exact ⟨h1, a', g2, ih.1 f p' a' fd' g1 g3 g4⟩
  ot := fun c m f h => by
    obtain ⟨h1, hne, p', a', fd', g1, g2, g2', g3, g4⟩ := po.ot c m f (by cases k <;> exact h)
    refine ⟨rfl, h1, hne, a', g2, g2', ?_, ih.1 f p' a' fd' g1 g3 g4⟩
    obtain ⟨oc, od, dV, kV, doc, pm, an, cdv, ct, osl, e, lk, _⟩ := g3.ex
    unfold PySem.W.fnIn
    rw [lk]
  cv := fun c f d h => po.cv c f d (by cases k <;> exact h)
  itf := fun c f h => by
    obtain ⟨h1, h2, p', a', fd', g1, g2, g3, g4, g5, g6⟩ := po.itf c f (by cases k <;> exact h)
    refine ⟨rfl, h1, a', g1, g2, ?_, fn_it po h1 h2 g3 g4 g5 g6⟩
    obtain ⟨oc, od, dV, kV, doc, pm, an, cdv, ct, osl, e, lk, _⟩ := g5.ex
    unfold PySem.W.fnIn
    rw [lk]
  mkr := fun c h => by
    obtain ⟨f', p', a', fd', g0, g1, g1', g2, g3, g4⟩ := po.mkr c h
    exact ⟨a', g2, ih.2.1 c f' p' a' fd' g0 g1 g3 g1' g4⟩
/-- a body's promise -/
def spB (G : Gm) (F : FTab) (gl : Nat → Option D) (N : List Str) (f : Fn) : Sp := fun vs H Q E => ∃ w env, w.H = H ∧ WOk G w ∧ EnvOk G (Bs.of w 0) w env (L2.start N vs) (fun _ => 0) ∧ PostF G w (evSs F gl f.body env w.h).fin Q E
theorem body_ok (po : POk G P w mg base T tb L gl) {k : Nat} (ih : FnK G P w mg base tb L gl k) {p : PFn} (hc : chkFn T p = true) {a : Addr} {cdv : Value} (A : Around) (outer : List Env) (s : Shared) (H : Hp) (vs : List V) (Q : VK) (E : XK)
    (hr : Room (2 * k + 1) (A.deeper (envOfC p.d.qual p.d.scope s.heap.objs.size a cdv))) (hsp : spB G (calls gl (fnsOf L) tb k) gl p.N p.fn vs H Q E) :
    ∃ t, PSs (cxOf (L2.CX P w) P w G.K mg base p.N p.d.qual p.d.scope a cdv A outer s H E) p.d.body t ∧ t { nx := fun _ H' => Q .non H', rt := Q } (L2.start p.N vs) H := by
  obtain ⟨S, h1, h2, h3, h4, h5, h6⟩ := FnScope.of hc
  obtain ⟨w0, env, e, ok0, eo, q⟩ := hsp
  subst e
  exact ⟨tSs G (Bs.of w0 0) (fun cls d _ H => E cls d H) (calls gl (fnsOf L) tb k) gl p.fn.body, okSs (n := k) (C := ⟨T, p.N, true⟩) (sc := p.d.scope) po.go S.kind p.fn.body (xok_of po ih S hr) ⟨takes_of rfl rfl rfl rfl, .inl rfl⟩ ⟨rfl, rfl⟩ h5, w0, env, fun _ => 0, rfl, ⟨ok0, Ext.refl _, eo⟩, fin_ok q⟩
theorem call_at {k f : Nat} {p : PFn} (hp : L[f]? = some p) (ds : List D) (h : Cells) : (calls gl (fnsOf L) tb (k + 1)).call f ds h = runFn (calls gl (fnsOf L) tb k) gl p.fn ds h := by
  have hfs : fnsOf L f = some p.fn := by unfold fnsOf; rw [hp]; rfl
  show (match fnsOf L f with | some fn => runFn (calls gl (fnsOf L) tb k) gl fn ds h | none => .bad) = _
  rw [hfs]
theorem callb_at {k f : Nat} {p : PFn} (hp : L[f]? = some p) (ds : List Ar) (h : Cells) : (calls gl (fnsOf L) tb (k + 1)).callb f ds h = runFnB (calls gl (fnsOf L) tb k) gl p.fn ds h := by
  have hfs : fnsOf L f = some p.fn := by unfold fnsOf; rw [hp]; rfl
  show (match fnsOf L f with | some fn => runFnB (calls gl (fnsOf L) tb k) gl fn ds h | none => .bad) = _
  rw [hfs]
/-- the entry's slots -/
theorem Reps.atN {wd : W} {ds : List D} {vs : List V} {p : PFn} (r : Reps G wd ds vs) (h2 : p.fn.nn = p.N.length) : EnvOk G (Bs.of wd 0) wd (start p.fn.nn ds) (L2.start p.N vs) (fun _ => 0) := by
  have := r.at p.fn.nn 0
  rw [h2] at this ⊢
  rw [r.length] at this
  exact this
theorem AReps.atN {wd : W} {ds : List Ar} {vs : List V} {p : PFn} (ok : WOk G wd) (r : AReps G wd ds vs) (h2 : p.fn.nn = p.N.length) : EnvOk G (Bs.of wd 0) wd (startB p.fn.nn ds) (L2.start p.N vs) (fun _ => 0) := by
  have := r.at ok p.fn.nn 0
  rw [h2] at this ⊢
  rw [r.length] at this
  exact this
/-- a def without a star -/
theorem fn_plain (po : POk G P w mg base T tb L gl) {k : Nat} (ih : FnK G P w mg base tb L gl k) {f : Nat} {p : PFn} {a : Addr} {fd : FuncData} (hp : L[f]? = some p) (hF : FunD G.K p.d.name p.d.qual p.d.params p.d.body p.d.scope (p.d.dvs G.K) (p.d.kws G.K) a fd) (hv : p.pv = none) : FnOk P w G.K mg base (L2.CX P w) (2 * (k + 1)) a fd p.ps (spF G (calls gl (fnsOf L) tb (k + 1)) f) := by
  have hc := po.chk p (List.mem_of_getElem? hp)
  obtain ⟨S, h1, h2, h3, h4, h5, h6⟩ := FnScope.of hc
  have hall : p.all = p.ps := by unfold PFn.all; rw [hv]; exact List.append_nil _
  rw [hv] at h6
  rw [hall] at S h1
  have key : ∀ vs H Q E, spF G (calls gl (fnsOf L) tb (k + 1)) f vs H Q E → spB G (calls gl (fnsOf L) tb k) gl p.N p.fn vs H Q E ∧ vs.length = p.fn.np := fun vs H Q E ⟨w0, ds, e, ok0, r, q⟩ => by
    rw [call_at hp] at q
    unfold runFn packV at q
    rw [h6] at q
    simp only [Option.isSome_none, Bool.false_eq_true, if_false] at q
    by_cases hl : ds.length = p.fn.np
    · rw [if_pos hl] at q
      exact ⟨⟨w0, _, e, ok0, r.atN h2, q⟩, by rw [← r.length]; exact hl⟩
    · rw [if_neg hl] at q
      exact q.elim
  exact hF.ok S (fun vs H Q E z => (key _ _ _ _ z).2.trans h1) (k := 2 * k + 1) fun cdv A outer s H vs Q E hr hsp => body_ok po ih hc A outer s H vs Q E hr (key _ _ _ _ hsp).1
theorem fnB_plain (po : POk G P w mg base T tb L gl) {k : Nat} (ih : FnK G P w mg base tb L gl k) {f : Nat} {p : PFn} {a : Addr} {fd : FuncData} (hp : L[f]? = some p) (hF : FunD G.K p.d.name p.d.qual p.d.params p.d.body p.d.scope (p.d.dvs G.K) (p.d.kws G.K) a fd) (hv : p.pv = none) : FnOk P w G.K mg base (L2.CX P w) (2 * (k + 1)) a fd p.ps (spFB G (calls gl (fnsOf L) tb (k + 1)) f) := by
  have hc := po.chk p (List.mem_of_getElem? hp)
  obtain ⟨S, h1, h2, h3, h4, h5, h6⟩ := FnScope.of hc
  have hall : p.all = p.ps := by unfold PFn.all; rw [hv]; exact List.append_nil _
  rw [hall] at S h1
  have key : ∀ vs H Q E, spFB G (calls gl (fnsOf L) tb (k + 1)) f vs H Q E → spB G (calls gl (fnsOf L) tb k) gl p.N p.fn vs H Q E ∧ vs.length = p.fn.np := fun vs H Q E ⟨w0, ds, e, ok0, r, q⟩ => by
    rw [callb_at hp] at q
    unfold runFnB at q
    split at q
    · rename_i hl
      exact ⟨⟨w0, _, e, ok0, r.atN ok0 h2, q⟩, by rw [← r.length]; exact hl.2⟩
    · exact q.elim
  exact hF.ok S (fun vs H Q E z => (key _ _ _ _ z).2.trans h1) (k := 2 * k + 1) fun cdv A outer s H vs Q E hr hsp => body_ok po ih hc A outer s H vs Q E hr (key _ _ _ _ hsp).1
theorem fnR_plain {CX : CXT} {k : Nat} {f : Addr} {fd : FuncData} {ps : List Str} {sp : Sp} (F : FnOk P w G.K mg base CX k f fd ps sp) (hb : Binds G.K fd ps []) : FnR P w G.K mg base CX k f sp :=
  (F.raw hb .nil).imp fun vs H Q E z => by rw [List.append_nil]; exact z
theorem W.put_reps {w : W} {ds : List D} {vs : List V} {a : Addr} (ok : WOk G w) (r : Reps G w ds vs) (ha : w.H a = none) (n : Nat) : WOk G (w.put a (.tup (vs.drop n))) ∧ Ext w (w.put a (.tup (vs.drop n))) ∧ Reps G (w.put a (.tup (vs.drop n))) (ds.take n ++ [.tup (ds.drop n)]) (vs.take n ++ [V.ref a]) := by
  obtain ⟨ok', e⟩ := new_frozen (o := .tup (vs.drop n)) ok ha
  exact ⟨ok', e, ((r.take n).ext ok e).append (.cons (.tup (.inl (.inl upd_same)) ((r.drop n).ext ok e)) .nil)⟩
/-- a def with a star -/
theorem fn_starred (po : POk G P w mg base T tb L gl) {k : Nat} (ih : FnK G P w mg base tb L gl k) {f : Nat} {p : PFn} {a : Addr} {fd : FuncData} {pv : Str} (hp : L[f]? = some p) (hF : FunD G.K p.d.name p.d.qual p.d.params p.d.body p.d.scope (p.d.dvs G.K) (p.d.kws G.K) a fd) (hv : p.pv = some pv) (hb : BOk G.K p fd) : FnR P w G.K mg base (L2.CX P w) (2 * (k + 1)) a (spF G (calls gl (fnsOf L) tb (k + 1)) f) := by
  have hc := po.chk p (List.mem_of_getElem? hp)
  obtain ⟨S, h1, h2, h3, h4, h5, h6⟩ := FnScope.of hc
  have hall : p.all = p.ps ++ [pv] := by unfold PFn.all; rw [hv]; rfl
  rw [hv] at h6
  rw [hall] at S h1
  have hb := hb.2
  rw [hv] at hb
  simp only at hb
  obtain ⟨oc, od, dV, kV, doc, pm, an, cdv, ct, osl, e, lk, hcd, _, _⟩ := hF.ex
  subst e
  refine FnR.imp (StX.fn_star (k := 2 * k + 1) (sp := spB G (calls gl (fnsOf L) tb k) gl p.N p.fn) lk hcd S StX.cxUp hb fun A outer s H vs Q E hr hsp => body_ok po ih hc A outer s H vs Q E hr hsp) fun vs H Q E ⟨w0, ds, e, ok0, r, q⟩ => ?_
  subst e
  rw [call_at hp] at q
  unfold runFn packV at q
  rw [h6] at q
  simp only [Option.isSome_some, if_true] at q
  have hn : p.fn.np - 1 = p.ps.length := by rw [h1, List.length_append]; rfl
  by_cases hl : p.fn.np ≤ ds.length + 1 ∧ ds.length ≤ LIM
  · rw [if_pos hl, hn] at q
    have hnp : p.fn.np = p.ps.length + 1 := by rw [h1, List.length_append]; rfl
    have hle : p.ps.length ≤ vs.length := by rw [← r.length]; omega
    refine ⟨vs.take p.ps.length, vs.drop p.ps.length, (List.take_append_drop _ _).symm, by rw [List.length_take]; omega, ?_, fun x hx => ?_⟩
    · rw [List.length_drop, ← r.length]
      have := hl.2
      show _ ≤ 16777216
      have e : LIM = 16777216 := rfl
      omega
    · obtain ⟨ok', ex, r'⟩ := W.put_reps ok0 r hx p.ps.length
      exact ⟨w0.put x (.tup (vs.drop p.ps.length)), _, rfl, ok', r'.atN h2, Post.later q ex⟩
  · rw [if_neg hl] at q
    exact q.elim
/-- an __init__'s slots: the new object, then what is handed on -/
theorem EnvOk.ini {w0 w1 : W} {c : Nat} {x dx : Addr} {env : En} {σ : List (Option V)} (len : env.length = σ.length) (vals : ∀ (i : Nat) (d : D), env[i]? = some (Sl.val d) → ∃ v, σ[i]? = some (some v) ∧ Rep G w1 d v)
    (no : ∀ (i : Nat) (o : Ob), env[i]? ≠ some (Sl.own o)) (nex : ∀ (i : Nat) (z : Exn), env[i]? ≠ some (Sl.ex z)) (nky : ∀ (i : Nat) (z : List Key), env[i]? ≠ some (Sl.key z))
    (bor : ∀ (i : Nat) (o : Ob), env[i]? = some (Sl.bor o) → ∃ a, σ[i]? = some (some (.ref a)) ∧ WOk G w0 ∧ ObAt G w0 a o ∧ ¬ w0.live a)
    (hc : c < G.nc) (hH : w1.H x = some (.ins (G.ca c) dx [])) (nz : ¬ w1.Z x) (nl : ¬ w1.live x) (hn : w0.H x = none) : EnvOk G (Bs.of w0 x) w1 (.own (.ins c []) :: env) (some (V.ref x) :: σ) (fun _ => x) where
  len := by rw [List.length_cons, List.length_cons, len]
  vals := fun i d h => by
    cases i with
    | zero => cases h
    | succ i => exact vals i d h
  own := fun i o h => by
    cases i with
    | zero => cases h; exact ⟨rfl, .ins hc hH .nil, nz, nl, hn⟩
    | succ i => exact (no i o h).elim
  inj := fun i j o u h1 h2 e => by
    cases i with
    | zero => cases j with
      | zero => rfl
      | succ j => exact (no j u h2).elim
    | succ i => exact (no i o h1).elim
  mine := fun i c' fs h => rfl
  bor := fun i o h => by
    cases i with
    | zero => cases h
    | succ i => exact bor i o h
  ex := fun i z h => by
    cases i with
    | zero => cases h
    | succ i => exact (nex i z h).elim
  key := fun i z h => by
    cases i with
    | zero => cases h
    | succ i => exact (nky i z h).elim
theorem ini_at {k c f : Nat} {p : PFn} (hit : tb.it c = some f) (hp : L[f]? = some p) (ds : List D) (h : Cells) : (calls gl (fnsOf L) tb (k + 1)).ini c ds h = runIni (calls gl (fnsOf L) tb k) gl p.fn c ds h := by
  have hfs : fnsOf L f = some p.fn := by unfold fnsOf; rw [hp]; rfl
  show (match tb.it c with
    | some f => (match fnsOf L f with
      | some fn => runIni (calls gl (fnsOf L) tb k) gl fn c ds h
      | none => .bad)
    | none => .bad) = _
  rw [hit]
  simp only [hfs]
theorem inib_at {k c f : Nat} {p : PFn} (hit : tb.it c = some f) (hp : L[f]? = some p) (ds : List Ar) (h : Cells) : (calls gl (fnsOf L) tb (k + 1)).inib c ds h = runIniB (calls gl (fnsOf L) tb k) gl p.fn c ds h := by
  have hfs : fnsOf L f = some p.fn := by unfold fnsOf; rw [hp]; rfl
  show (match tb.it c with
    | some f => (match fnsOf L f with
      | some fn => runIniB (calls gl (fnsOf L) tb k) gl fn c ds h
      | none => .bad)
    | none => .bad) = _
  rw [hit]
  simp only [hfs]
/-- an __init__'s promise, by its slots -/
def spJ (G : Gm) (F : FTab) (gl : Nat → Option D) (N : List Str) (f : Fn) (c : Nat) : Sp := fun vs H Q E => ∃ (w0 w : W) (env : En) (a : Addr), w.H = H ∧ WOk G w ∧ Ext w0 w ∧ EnvOk G (Bs.of w0 a) w env (L2.start N vs) (fun _ => a) ∧
  Post G w0 ((evSs F gl f.body env w.h).fini c) (fun fs w' => ∀ dx' fvs, w'.H a = some (.ins (G.ca c) dx' fvs) → RepF G w' fs fvs → ¬ w'.Z a → ¬ w'.live a → Q .non w'.H) (fun x w' => ∀ cls dd, ExR G w' x cls dd → E cls dd w'.H)
theorem ini_ok0 (po : POk G P w mg base T tb L gl) {k : Nat} (ih : FnK G P w mg base tb L gl k) {c f : Nat} {p : PFn} {a : Addr} {fd : FuncData} {sp : Sp} (hp : L[f]? = some p) (hF : FunD G.K p.d.name p.d.qual p.d.params p.d.body p.d.scope (p.d.dvs G.K) (p.d.kws G.K) a fd) (hpv : p.pv = none)
    (hsp : ∀ vs H Q E, sp vs H Q E → vs.length = p.fn.np ∧ spJ G (calls gl (fnsOf L) tb k) gl p.N p.fn c vs H Q E) : FnOk P w G.K mg base (L2.CX P w) (2 * (k + 1)) a fd p.ps sp := by
  obtain ⟨S, h1, h2, h3, h4, h5, h6⟩ := FnScope.of (po.chk p (List.mem_of_getElem? hp))
  have hall : p.all = p.ps := by unfold PFn.all; rw [hpv]; exact List.append_nil _
  rw [hall] at S h1
  refine (hF.ok S (fun vs H Q E z => (hsp _ _ _ _ z).1.trans h1) (k := 2 * k + 1) fun cdv A outer s H vs Q E hr z => ?_)
  obtain ⟨w0, w1, env, x, e, ok1, ext, eo, q⟩ := (hsp _ _ _ _ z).2
  subst e
  exact ⟨tSs G (Bs.of w0 x) (fun cls d _ H => E cls d H) (calls gl (fnsOf L) tb k) gl p.fn.body, okSs (n := k) (C := ⟨T, p.N, true⟩) (sc := p.d.scope) po.go S.kind p.fn.body (xok_of po ih S hr) ⟨takes_of rfl rfl rfl rfl, .inl rfl⟩ ⟨rfl, rfl⟩ h5,
    w1, env, fun _ => x, rfl, ⟨ok1, ext, eo⟩, fini_ok q⟩
theorem ini_fn (po : POk G P w mg base T tb L gl) {k : Nat} (ih : FnK G P w mg base tb L gl k) {c f : Nat} {p : PFn} {a : Addr} {fd : FuncData} {sp : Sp} (hp : L[f]? = some p) (hF : FunD G.K p.d.name p.d.qual p.d.params p.d.body p.d.scope (p.d.dvs G.K) (p.d.kws G.K) a fd) (hpv : p.pv = none) (hbb : BOk G.K p fd)
    (hsp : ∀ vs H Q E, sp vs H Q E → vs.length = p.fn.np ∧ spJ G (calls gl (fnsOf L) tb k) gl p.N p.fn c vs H Q E) : FnR P w G.K mg base (L2.CX P w) (2 * (k + 1)) a sp := by
  have hbb := hbb.2
  rw [hpv] at hbb
  exact fnR_plain (ini_ok0 (c := c) po ih hp hF hpv hsp) hbb
theorem start_ini {p : PFn} {x : Addr} {vs' : List V} {n : Nat} (h2 : p.fn.nn = p.N.length) (hn : n = vs'.length) : L2.start p.N (V.ref x :: vs') = some (V.ref x) :: (vs'.map some ++ List.replicate (p.fn.nn - 1 - n) none) := by
  show some (V.ref x) :: (vs'.map some) ++ List.replicate (p.N.length - (V.ref x :: vs').length) none = _
  rw [List.length_cons, ← h2, hn, Nat.sub_sub, Nat.add_comm 1]
  rfl
theorem ib_sp (po : POk G P w mg base T tb L gl) {k c f : Nat} {p : PFn} (hit : tb.it c = some f) (hp : L[f]? = some p) : ∀ vs H Q E, spIB G (calls gl (fnsOf L) tb (k + 1)) c vs H Q E → vs.length = p.fn.np ∧ spJ G (calls gl (fnsOf L) tb k) gl p.N p.fn c vs H Q E := fun vs H Q E z => by
  obtain ⟨S, h1, h2, h3, h4, h5, h6⟩ := FnScope.of (po.chk p (List.mem_of_getElem? hp))
  obtain ⟨w0, w1, ds, x, dx, vs', rfl, e, ok0, ok1, ext, hh, hc, hH, nz, nl, hn, r, q⟩ := z
  rw [inib_at hit hp] at q
  unfold runIniB at q
  split at q
  rotate_left
  · exact q.elim
  rename_i hl
  refine ⟨by rw [List.length_cons, ← r.length]; exact hl, w0, w1, _, x, e, ok1, ext, ?_, by rw [← hh] at q; exact q⟩
  have this := (r.at ok0 (p.fn.nn - 1) x).ext ok0 ext
  rw [start_ini (n := ds.length) h2 r.length]
  refine EnvOk.ini this.len this.vals (fun i o h => ?_) (fun i z h => ?_) (fun i z h => ?_) this.bor hc hH nz nl hn
  · obtain ⟨x, hx, e⟩ := startB_get h (fun e => nomatch e)
    cases x <;> cases e
  · obtain ⟨x, hx, e⟩ := startB_get h (fun e => nomatch e)
    cases x <;> cases e
  · obtain ⟨x, hx, e⟩ := startB_get h (fun e => nomatch e)
    cases x <;> cases e
theorem fnk (po : POk G P w mg base T tb L gl) : ∀ k, FnK G P w mg base tb L gl k
  | 0 => ⟨fun f p a fd hp hF hb A outer s H us vs Q E _ _ _ q => (spF_bad (fun _ _ => rfl) q).elim,
      fun c f p a fd _ hp hF _ hb A outer s H us vs Q E _ _ _ q => (spI_bad (fun _ _ => rfl) q).elim,
      fun f p a fd hp hF hb A outer s H us vs Q E _ _ _ q => (spFB_bad (fun _ _ => rfl) q).elim,
      fun c f p a fd _ hp hF _ hb A outer s H us vs Q E _ _ _ q => (spIB_bad (fun _ _ => rfl) q).elim,
      fun kk kf f p a fd _ _ hp hF _ hb A outer s H us ws vs zs Q E _ _ _ _ _ _ q => by
        obtain ⟨w0, w, as, bs, a, dx, vs', _, _, _, _, _, _, _, _, _, _, _, _, _, q⟩ := q
        exact q.elim⟩
  | k + 1 => by
    have ih := fnk po k
    refine ⟨fun f p a fd hp hF hb => ?_, fun c f p a fd hit hp hF hpv hbb => ?_, fun f p a fd hp hF hb => ?_, fun c f p a fd hit hp hF hpv hbb => ?_, fun kk kf f p a fd hkf hit hp hF hpv hK => ?_⟩
    · cases hv : p.pv with
      | none =>
        have hb := hb.2
        rw [hv] at hb
        exact fnR_plain (fn_plain po ih hp hF hv) hb
      | some pv => exact fn_starred po ih hp hF hv hb
    · obtain ⟨S, h1, h2, h3, h4, h5, h6⟩ := FnScope.of (po.chk p (List.mem_of_getElem? hp))
      refine ini_fn (c := c) po ih hp hF hpv hbb fun vs H Q E z => ?_
      obtain ⟨w0, w1, ds, x, dx, vs', rfl, e, ok1, ext, hh, hc, hH, nz, nl, hn, r, q⟩ := z
      rw [ini_at hit hp] at q
      unfold runIni at q
      split at q
      rotate_left
      · exact q.elim
      rename_i hl
      refine ⟨by rw [List.length_cons, ← r.length]; exact hl, w0, w1, _, x, e, ok1, ext, ?_, by rw [← hh] at q; exact q⟩
      have this := r.at (p.fn.nn - 1) x
      rw [start_ini (n := ds.length) h2 r.length]
      refine EnvOk.ini this.len this.vals (fun i o h => start_own h) (fun i z h => ?_) (fun i z h => ?_) (fun i o h => ?_) hc hH nz nl hn
      · have := this.ex i z h
        cases this.2.1
      · exfalso
        unfold start at h
        by_cases hi : i < ds.length
        · rw [List.getElem?_append_left (by rw [List.length_map]; exact hi), List.getElem?_map] at h
          cases q : ds[i]? <;> rw [q] at h <;> cases h
        · rw [List.getElem?_append_right (by rw [List.length_map]; omega), List.getElem?_replicate] at h
          split at h <;> cases h
      · exfalso
        unfold start at h
        by_cases hi : i < ds.length
        · rw [List.getElem?_append_left (by rw [List.length_map]; exact hi), List.getElem?_map] at h
          cases q : ds[i]? <;> rw [q] at h <;> cases h
        · rw [List.getElem?_append_right (by rw [List.length_map]; omega), List.getElem?_replicate] at h
          split at h <;> cases h
    · cases hv : p.pv with
      | none =>
        have hb := hb.2
        rw [hv] at hb
        exact fnR_plain (fnB_plain po ih hp hF hv) hb
      | some pv =>
        refine (fn_starred po ih hp hF hv hb).imp fun vs H Q E z => ?_
        exfalso
        obtain ⟨w0, ds, e, ok0, r, q⟩ := z
        obtain ⟨_, _, _, _, _, _, h6⟩ := FnScope.of (po.chk p (List.mem_of_getElem? hp))
        rw [callb_at hp] at q
        unfold runFnB at q
        rw [hv] at h6
        rw [h6] at q
        simp only [Option.isSome_some, Bool.true_eq_false, false_and, if_false] at q
        exact q.elim
    · exact ini_fn (c := c) po ih hp hF hpv hbb (ib_sp po hit hp)
    · obtain ⟨mv, mvV, hB, hM⟩ := hK
      refine (FnRk.of (ini_ok0 (c := kf.c) po ih hp hF hpv (ib_sp po hit hp)) hB).imp fun vs zs H Q E z => ?_
      obtain ⟨w0, w1, as, bs, a, dx, vs', rfl, e, ok0, ok1, ext, hh, hc, hH, nz, nl, hn, r, rz, q⟩ := z
      refine ⟨w0, w1, kf.app as bs, a, dx, vs' ++ selP kf.sel mvV zs, rfl, e, ok0, ok1, ext, hh, hc, hH, nz, nl, hn, ?_, q⟩
      have hm : AReps G w0 (kf.ms.map fun q => .d q.2) mvV := by
        have := AReps.d_of (hM w0)
        rw [List.map_map] at this
        exact this
      exact r.app2 (AReps.sel hm rz kf.sel)
end
end Rf
set_option Elab.async false
set_option linter.all false
set_option maxRecDepth 100000
set_option maxHeartbeats 8000000
/-! G19: the head: what the top leaves, as Bool checks over the written part -/
namespace Rf
open PySem L2 PySem.Spec PyProof.Rows
/-! ### constants -/
mutual
def repB (K : PySem.W.Frag) : D → Value → Bool
  | .non, u => match u with | .none => true | _ => false
  | .bl b, u => match u with | .bool c => b == c | _ => false
  | .int i, u => match u with | .int j _ => i == j | _ => false
  | .str x, u => match u with | .str y _ => x == y && decide (x.length ≤ sizeLine) | _ => false
  | .tup ds, u => match u with
    | .ref a => (match K.lookup a with
      | some ⟨.type c, _, .seq its _, _⟩ => c == "tuple" && decide (its.size ≤ sizeLine) && repsB K ds its.toList
      | _ => false)
    | _ => false
  | .lst ds, u => match u with
    | .ref a => (match K.lookup a with
      | some ⟨.type c, none, .seq its _, sl⟩ => c == "list" && decide (its.size ≤ sizeLine) && sl.isEmpty && repsB K ds its.toList
      | _ => false)
    | _ => false
  | _, _ => false
def repsB (K : PySem.W.Frag) : List D → List Value → Bool
  | [], us => us.isEmpty
  | d :: ds, us => match us with
    | u :: us => repB K d u && repsB K ds us
    | [] => false
end
mutual
theorem repB_ok {G : Gm} : ∀ (d : D) {u : Value}, repB G.K d u = true → ∃ v, RelV v u ∧ ∀ w, Rep G w d v
  | .non, u, h => by
    unfold repB at h
    split at h
    · exact ⟨.non, rfl, fun _ => .non⟩
    · cases h
  | .bl b, u, h => by
    unfold repB at h
    split at h
    · rw [beq_iff_eq] at h; subst h; exact ⟨.bl b, rfl, fun _ => .bl b⟩
    · cases h
  | .int i, u, h => by
    unfold repB at h
    split at h
    · rw [beq_iff_eq] at h; subst h; exact ⟨.int i, ⟨_, rfl⟩, fun _ => .int i⟩
    · cases h
  | .str x, u, h => by
    unfold repB at h
    split at h
    · rw [Bool.and_eq_true, beq_iff_eq, decide_eq_true_eq] at h
      obtain ⟨rfl, h2⟩ := h
      exact ⟨.str x, ⟨_, rfl⟩, fun _ => .str x h2⟩
    · cases h
  | .tup ds, u, h => by
    unfold repB at h
    split at h
    rotate_left
    · cases h
    rename_i a
    split at h
    rotate_left
    · cases h
    rename_i c od its n sl q
    simp only [Bool.and_eq_true, beq_iff_eq, decide_eq_true_eq] at h
    obtain ⟨⟨rfl, h2⟩, h3⟩ := h
    obtain ⟨vs, r, hr⟩ := repsB_ok ds h3
    exact ⟨.ref a, rfl, fun w => .tup (.inr ⟨_, its, n, q, rfl, rfl, h2, r⟩) (hr w)⟩
  | .lst ds, u, h => by
    unfold repB at h
    split at h
    rotate_left
    · cases h
    rename_i a
    split at h
    rotate_left
    · cases h
    rename_i c its n sl q
    simp only [Bool.and_eq_true, beq_iff_eq, decide_eq_true_eq] at h
    obtain ⟨⟨⟨rfl, h2⟩, h4⟩, h3⟩ := h
    obtain ⟨vs, r, hr⟩ := repsB_ok ds h3
    exact ⟨.ref a, rfl, fun w => .lst (.inr (.inr ⟨_, its, n, q, rfl, rfl, rfl, h2, r, by simpa using h4⟩)) (hr w)⟩
  | .dk _, u, h => by unfold repB at h; cases h
  | .dt _, u, h => by unfold repB at h; cases h
  | .ins _ _, u, h => by unfold repB at h; cases h
  | .cell _, u, h => by unfold repB at h; cases h
theorem repsB_ok {G : Gm} : ∀ (ds : List D) {us : List Value}, repsB G.K ds us = true → ∃ vs, Vals vs us ∧ ∀ w, Reps G w ds vs
  | [], us, h => by
    unfold repsB at h
    rw [List.isEmpty_iff] at h
    subst h
    exact ⟨[], .nil, fun _ => .nil⟩
  | d :: ds, us, h => by
    unfold repsB at h
    split at h
    rotate_left
    · cases h
    rw [Bool.and_eq_true] at h
    obtain ⟨v, r, hr⟩ := repB_ok d h.1
    obtain ⟨vs, rs, hrs⟩ := repsB_ok ds h.2
    exact ⟨v :: vs, .cons r rs, fun w => .cons (hr w) (hrs w)⟩
end
/-! ### the program, all of it -/
/-- T's classes: nc own ones, then exceptions; sy: the fields' names; gv the constants -/
structure Pr where
  T : Tab
  L : List PFn
  gv : List D
  ftl : List (Nat × Nat) := []
  mtl : List ((Nat × Nat) × Nat) := []
  itl : List (Nat × Nat) := []
  sbl : List ((Nat × Nat) × Bool) := []
  otl : List ((Nat × Dn) × Nat) := []
  xil : List ((Nat × Xt) × Bool) := []
  xfl : List (Nat × Nat) := []
  kfl : List KF := []
  ptl : List ((Nat × Nat) × Nat) := []
  cvl : List ((Nat × Nat) × D) := []
  ifl : List ((Nat × Nat) × Nat) := []
/-- a keyword-only default's object -/
def kwAd (at_ : Str × Option Str) (x : Str) (K : PySem.W.Frag) : Addr := match K.lookup (He.fAd K at_) with
  | some ⟨_, _, .func fd, _⟩ => (match fd.kwdefaults with
    | .ref D => (match PySem.W.nsIn K D x with
      | some (some (.ref a)) => a
      | _ => 0)
    | _ => 0)
  | _ => 0
/-- a property's getter -/
def wfA (K : PySem.W.Frag) (C : Addr) (m : Str) : Addr := match PySem.W.recIn K (He.ma K C m) "property" with
  | some (.ref g :: _) => g
  | _ => 0
/-- where a def stands -/
def PFn.ad (q : PFn) (K : PySem.W.Frag) : Addr := match q.d.at_ with
  | (c, some m) => if q.pr then wfA K (He.ga K c) m else He.fAd K q.d.at_
  | _ => He.fAd K q.d.at_
def PFn.da (q : PFn) : He5.DefA := ⟨q.ad, q.d.name, q.d.qual, q.d.params, q.d.body, q.d.scope, q.d.dfl, q.d.kwd⟩
/-- the table's key -/
def PFn.key (q : PFn) : Str × Option Str := if q.kwo then (q.d.at_.1, some (q.d.at_.2.getD "")) else q.d.at_
/-- a property's facts -/
def propB (K : PySem.W.Frag) (C : Addr) (m : Str) (g : Addr) : Bool :=
  He.eqO (PySem.W.findIn K (.ref C) m) (some (some (.ref (He.ma K C m)))) && He.eqO (PySem.W.specialIn K (.ref (He.ma K C m)) "__get__") (some (some (.builtin "property.__get__"))) &&
  decide (PySem.W.takesIn K (.ref (He.ma K C m)) = some true) && (match PySem.W.recIn K (He.ma K C m) "property" with
    | some (.ref g' :: _) => decide (g' = g)
    | _ => false)
theorem propB_ok {K : PySem.W.Frag} {C : Addr} {m : Str} {g : Addr} (h : propB K C m g = true) : PropOf K C m (He.ma K C m) g := by
  unfold propB at h
  simp only [Bool.and_eq_true, decide_eq_true_eq] at h
  obtain ⟨⟨⟨h1, h2⟩, h3⟩, h4⟩ := h
  refine ⟨He.eqO_ok h1, He.eqO_ok h2, h3, ?_⟩
  split at h4
  · rename_i g' r e
    rw [decide_eq_true_eq] at h4
    subst h4
    exact ⟨r, e⟩
  · cases h4
/-- a default as a datum -/
def dvB (K : PySem.W.Frag) (d : D) : He.Dv → Bool
  | .adr p => repB K d (.ref (p K))
  | .int i => (match d with | .int j => i == j | _ => false)
  | .non => (match d with | .non => true | _ => false)
  | .bl b => (match d with | .bl c => b == c | _ => false)
  | .str x => (match d with | .str y => x == y && decide (x.length ≤ sizeLine) | _ => false)
  | _ => false
theorem dvB_ok {G : Gm} {d : D} {v : He.Dv} (h : dvB G.K d v = true) (w : W) : Rep G w d (v.v G.K) := by
  cases v with
  | adr p =>
    obtain ⟨x, r, hr⟩ := repB_ok (G := G) d h
    cases x with
    | ref a =>
      have e : Value.ref (p G.K) = .ref a := r
      cases e
      exact hr w
    | _ => first | (obtain ⟨_, e⟩ := r; cases e; done) | (cases r; done)
  | int i =>
    cases d with
    | int j => have : (i == j) = true := h; rw [beq_iff_eq] at this; subst this; exact .int i
    | _ => cases h
  | non => cases d with | non => exact .non | _ => cases h
  | bl b =>
    cases d with
    | bl c => have : (b == c) = true := h; rw [beq_iff_eq] at this; subst this; exact .bl b
    | _ => cases h
  | str x =>
    cases d with
    | str y =>
      have : (x == y && decide (x.length ≤ sizeLine)) = true := h
      rw [Bool.and_eq_true, beq_iff_eq, decide_eq_true_eq] at this
      obtain ⟨rfl, h2⟩ := this
      exact .str x h2
    | _ => cases h
  | _ => cases h
/-- the defaults that lack -/
def PFn.dv (q : PFn) (x : Str) : He.Dv := (q.d.kwd.lookup x).getD .non
def msB (K : PySem.W.Frag) (q : PFn) (kf : KF) : Bool := kf.ms.all fun m => (q.d.kwd.lookup m.1).isSome && dvB K m.2 (q.dv m.1)
/-- how keywords bind -/
def BindK (q : PFn) (kf : KF) : Prop := ∀ (D : Addr) (doc pm : Value) (an : Option Addr) (cdv ct : Value) (us mv ws : List Value), us.length = kf.n + 1 → mv.length = kf.ms.length → ws.length = kf.ks.length →
  KwChain D ((kf.ms.map (·.1)).zip mv) (bindArgs (PySem.W.fnOf q.d.name q.d.qual q.d.params q.d.body q.d.scope .none (.ref D) doc pm an cdv ct) ⟨us, kf.ks.zip ws⟩) (q.ps.zip (us ++ selP kf.sel mv ws))
def Pr.tb (p : Pr) : Tb := ⟨fun c f => p.ftl.contains (c, f), fun c m => p.mtl.lookup (c, m), fun c => p.itl.lookup c, fun c c' => p.sbl.lookup (c, c'), fun c k => p.otl.lookup (c, k), fun c t => p.xil.lookup (c, t), fun c f => p.xfl.contains (c, f), fun k => p.kfl[k]?, fun c m => p.ptl.lookup (c, m), fun c f => p.cvl.lookup (c, f), fun c => (p.ifl.find? fun q => q.1.1 == c).map (·.1.2)⟩
/-- fields' names: beyond the table, names of no field -/
def syOf (fld : List Str) (i : Nat) : Str := match fld[i]? with
  | some x => x
  | none => ⟨(List.replicate i 0).toArray⟩
def fldB (fld : List Str) : Bool := decide fld.Nodup && fld.all fun x => match x.cps.toList with
  | c :: _ => c != 0
  | [] => false
theorem syOf_inj {fld : List Str} (h : fldB fld = true) : ∀ i j, i < j → syOf fld i = syOf fld j → False := by
  unfold fldB at h
  rw [Bool.and_eq_true, decide_eq_true_eq] at h
  obtain ⟨nd, al⟩ := h
  intro i j hij e
  unfold syOf at e
  have key : ∀ (x : Str) (n : Nat), x ∈ fld → x = ⟨(List.replicate n 0).toArray⟩ → False := fun x n hx ex => by
    have q := List.all_eq_true.mp al x hx
    subst ex
    cases n with
    | zero => cases q
    | succ n =>
      simp [List.replicate_succ] at q
  cases hi : fld[i]? with
  | none =>
    have hl : fld.length ≤ i := by simpa using hi
    have hj : fld[j]? = none := by simpa using (by omega : fld.length ≤ j)
    simp only [hi, hj] at e
    have := congrArg (fun s : Str => s.cps.toList.length) e
    simp at this
    omega
  | some x =>
    cases hj : fld[j]? with
    | none =>
      simp only [hi, hj] at e
      exact key x j (List.mem_of_getElem? hi) e
    | some y =>
      simp only [hi, hj] at e
      subst e
      have := (List.getElem?_inj (by exact (List.getElem?_eq_some_iff.mp hi).1) nd).mp (hi.trans hj.symm)
      omega
/-- a class's name, a symbol's -/
abbrev Pr.cn (p : Pr) (c : Nat) : Str := (p.T.cls ++ p.T.exc).getD c ""
abbrev Pr.nc (p : Pr) : Nat := p.T.cls.length
abbrev Pr.G (p : Pr) (K : PySem.W.Frag) : Gm := ⟨K, syOf p.T.fld, fun c => He.ga K ((p.T.cls ++ p.T.exc).getD c ""), p.nc⟩
def Pr.gl (p : Pr) (g : Nat) : Option D := p.gv[g]?
def conB (K : PySem.W.Frag) (x : Str) (d : D) : Bool := match PySem.W.nsIn K mainGlobals x with
  | some (some u) => repB K d u
  | _ => false
def clsB (p : Pr) (K : PySem.W.Frag) : Bool :=
  ((List.range p.nc).all fun c => (He.Fa.cls ((p.T.cls ++ p.T.exc).getD c "")).ok K && He.eqO (PySem.W.findIn K (.ref ((p.G K).ca c)) "__class__") (some (some (.builtin "object.__class__"))) &&
    decide (PySem.W.mroIn K ((p.G K).ca c) (.type "object") = some true) &&
    ((List.range p.nc).all fun c' => decide (PySem.W.kitOne K (.ref ((p.G K).ca c)) (.ref ((p.G K).ca c')) = some (c == c'))) &&
    ((List.range p.nc).all fun c' => PySem.W.notFirst K ((p.G K).ca c) (.ref ((p.G K).ca c'))) &&
    (["NoneType", "bool", "int", "str", "list", "tuple", "dict"].all fun n => PySem.W.notFirst K ((p.G K).ca c) (.type n)) && PySem.W.selfFirst K ((p.G K).ca c) &&
    (["NoneType", "bool", "int", "str", "list", "tuple", "dict"].all fun n => decide (PySem.W.kitOne K (.type n) (.ref ((p.G K).ca c)) = some false)) &&
    (["bool", "int", "str", "list", "tuple", "dict"].all fun n => decide (PySem.W.kitOne K (.ref ((p.G K).ca c)) (.type n) = some false))) &&
  He.eqO (PySem.W.specialIn K (.builtin "object.__class__") "__get__") (some (some (.builtin "getset_descriptor.__get__"))) &&
  decide (PySem.W.takesIn K (.builtin "object.__class__") = some true)
theorem clsB_ok {p : Pr} {K : PySem.W.Frag} (h : clsB p K = true) (hf : fldB p.T.fld = true) : (p.G K).Ok := by
  unfold clsB at h
  rw [Bool.and_eq_true, Bool.and_eq_true] at h
  obtain ⟨⟨h1, h2⟩, h3⟩ := h
  have key := fun c (hc : c < p.nc) => List.all_eq_true.mp h1 c (List.mem_range.mpr hc)
  simp only [Bool.and_eq_true, decide_eq_true_eq] at key
  exact {
    cls := fun c hc => He.cls_ok (key c hc).1.1.1.1.1.1.1.1
    kc := fun c hc => He.eqO_ok (key c hc).1.1.1.1.1.1.1.2
    kg := He.eqO_ok h2
    kt := of_decide_eq_true h3
    ko := fun c hc => (key c hc).1.1.1.1.1.1.2
    isa := fun c c' hc hc' => by
      have := List.all_eq_true.mp (key c hc).1.1.1.1.1.2 c' (List.mem_range.mpr hc')
      exact of_decide_eq_true this
    nf := fun c c' hc hc' => List.all_eq_true.mp (key c hc).1.1.1.1.2 c' (List.mem_range.mpr hc')
    nfb := fun c hc n hn => List.all_eq_true.mp (key c hc).1.1.1.2 n hn
    sf := fun c hc => (key c hc).1.1.2
    isb := fun c hc n hn => of_decide_eq_true (List.all_eq_true.mp (key c hc).1.2 n hn)
    isc := fun c hc n hn => of_decide_eq_true (List.all_eq_true.mp (key c hc).2 n hn)
    sy := syOf_inj hf }
def xcB (K : PySem.W.Frag) (D : Addr) : Bool :=
  decide (PySem.W.findIn K (.ref D) "__getattribute__" = some (some (.builtin "BaseException.__getattribute__"))) && decide (PySem.W.findIn K (.ref D) "__getattr__" = some none) &&
  decide (PySem.W.subIn K (.ref D) (.type "BaseException") = some true) && PySem.W.hasDictIn K D && decide (PySem.W.findIn K (.ref D) "__class__" = some (some (.builtin "object.__class__"))) &&
  decide (PySem.W.specialIn K (.builtin "object.__class__") "__get__" = some (some (.builtin "getset_descriptor.__get__"))) && decide (PySem.W.takesIn K (.builtin "object.__class__") = some true) &&
  decide (PySem.W.mroIn K D (.type "object") = some true)
theorem xcB_ok {K : PySem.W.Frag} {D : Addr} (h : xcB K D = true) : ExcC K D := by
  unfold xcB at h
  simp only [Bool.and_eq_true, decide_eq_true_eq] at h
  obtain ⟨⟨⟨⟨⟨⟨⟨h1, h2⟩, h3⟩, h4⟩, h5⟩, h6⟩, h7⟩, h8⟩ := h
  exact ⟨h1, h2, h3, h4, h5, h6, h7, h8⟩
/-- a class's constant -/
def cvB (K : PySem.W.Frag) (C : Addr) (f : Str) (d : D) : Bool :=
  PySem.W.readsIn K C (.type "type") && He.eqO (PySem.W.specialIn K (.ref C) "__getattribute__") (some (some (.builtin "type.__getattribute__"))) && (match PySem.W.findCls K (.ref C) (.type "type") f with
    | some (.val u) => repB K d u
    | _ => false)
theorem cvB_ok {G : Gm} {C : Addr} {f : Str} {d : D} (h : cvB G.K C f d = true) : ∃ mc v u, ClX.CRead G.K C mc ∧ ClX.CVal G.K C mc f v u ∧ ∀ w, Rep G w d v := by
  unfold cvB at h
  simp only [Bool.and_eq_true] at h
  obtain ⟨⟨h1, h2⟩, h3⟩ := h
  split at h3
  · rename_i u e
    obtain ⟨v, r, hr⟩ := repB_ok d h3
    exact ⟨_, v, u, ⟨h1, He.eqO_ok h2⟩, ⟨e, r⟩, hr⟩
  · cases h3
/-- the facts that the top leaves -/
def Pr.chk (p : Pr) (K : PySem.W.Frag) : Bool :=
  clsB p K && (names0.all fun x => (He.Fa.free x).ok K) && ((p.T.gn.zip p.gv).all fun q => conB K q.1 q.2) &&
  (p.T.fns.all fun q => match q with
    | (x, none) => (He.Fa.glo x).ok K
    | _ => true) && (p.T.cls.all fun x => (He.Fa.glo x).ok K) && (p.T.exc.all fun x => (He.Fa.glo x).ok K) && (p.T.rai.all fun c => (He.Fa.exc (p.cn c)).ok K) &&
  (p.ftl.all fun q => decide (q.1 < p.nc) && (He.Fa.noat (p.cn q.1) (syOf p.T.fld q.2)).ok K) &&
  (p.mtl.all fun q => decide (q.1.1 < p.nc) && (He.Fa.meth (p.cn q.1.1) (syOf p.T.fld q.1.2)).ok K && (match p.L[q.2]? with
    | some r => !r.kwo && decide (r.ad K = He.ma K (He.ga K (p.cn q.1.1)) (syOf p.T.fld q.1.2))
    | none => false)) &&
  (p.sbl.all fun q => (He.Fa.exm (p.cn q.1.1) (p.cn q.1.2) q.2).ok K) &&
  (p.xil.all fun q => decide (PySem.W.kitOne K (.ref ((p.G K).ca q.1.1)) (xtV (p.G K) q.1.2) = some q.2) && xcB K ((p.G K).ca q.1.1)) &&
  (p.xfl.all fun q => xfB K ((p.G K).ca q.1) && decide (PySem.W.findIn K (.ref ((p.G K).ca q.1)) (syOf p.T.fld q.2) = some none)) &&
  (p.otl.all fun q => decide (q.1.1 < p.nc) && (He.Fa.meth (p.cn q.1.1) q.1.2.nm).ok K && (match p.L[q.2]? with
    | some r => !r.kwo && decide (r.ad K = He.ma K (He.ga K (p.cn q.1.1)) q.1.2.nm) && (if q.1.2 = .cmp .ne then He.eqO (PySem.W.findIn K (.ref ((p.G K).ca q.1.1)) "__ne__") (some (some (.builtin "object.__ne__"))) else true)
    | none => false)) &&
  (p.ptl.all fun q => decide (q.1.1 < p.nc) && (match p.L[q.2]? with
    | some r => !r.kwo && propB K ((p.G K).ca q.1.1) (syOf p.T.fld q.1.2) (r.ad K)
    | none => false)) &&
  (p.kfl.all fun kf => decide (kf.c < p.nc) && (He.Fa.mkr (p.cn kf.c)).ok K && (match p.itl.lookup kf.c with
    | some f => (match p.L[f]? with
      | some r => r.pv.isNone && decide (r.ad K = He.ma K (He.ga K (p.cn kf.c)) "__init__") && !r.d.kwd.isEmpty && msB K r kf
      | none => false)
    | none => false)) &&
  (p.T.mks.all fun c => (He.Fa.mkr (p.cn c)).ok K && (match p.itl.lookup c with
    | some f => (match p.L[f]? with
      | some r => r.pv.isNone && !r.kwo && decide (r.ad K = He.ma K (He.ga K (p.cn c)) "__init__")
      | none => false)
    | none => false)) &&
  (p.cvl.all fun q => cvB K ((p.G K).ca q.1.1) (syOf p.T.fld q.1.2) q.2) &&
  (p.ifl.all fun q => decide (q.1.1 < p.nc) && (He.Fa.noat (p.cn q.1.1) (syOf p.T.fld q.1.2)).ok K && (He.Fa.meth (p.cn q.1.1) "__iter__").ok K && (match p.L[q.2]? with
    | some r => !r.kwo && decide (r.ad K = He.ma K (He.ga K (p.cn q.1.1)) "__iter__") && itB r (syOf p.T.fld q.1.2)
    | none => false))
/-- the text's own check -/
def Pr.txt (p : Pr) : Bool := (p.L.all fun q => chkFn p.T q) && decide (p.T.fns = p.L.map fun q => q.key) && decide (p.T.kfs = p.kfl.map fun kf => (kf.c, kf.n, kf.ks)) && decide (p.T.gn.length = p.gv.length) && fldB p.T.fld
theorem lookup_mem {α β : Type} [BEq α] [LawfulBEq α] {a : α} {b : β} : ∀ {l : List (α × β)}, l.lookup a = some b → (a, b) ∈ l
  | [], h => by cases h
  | (x, y) :: l, h => by
    rw [List.lookup_cons] at h
    split at h
    · rename_i e
      rw [beq_iff_eq] at e
      cases h
      rw [e]
      exact List.mem_cons_self ..
    · exact List.mem_cons_of_mem _ (lookup_mem h)
abbrev AlR : Type := Bool × List He.FnW
def obsR (p : Pr) (K : PySem.W.Frag) : AlR := (p.chk K && p.L.all fun d => d.da.ok K, p.L.map fun d => He5.fnA K (d.ad K))
def valR (p : Pr) : AlR := (true, p.L.map fun d => d.da.val)
def SaysR (p : Pr) (K : PySem.W.Frag) : Prop := obsR p K = valR p
def obsRG (n : Nat) (p : Pr) (g : Addr → Option Obj) : AlR := obsR p (He.frG g (He5.asA g n))
def hookR (n : Nat) (p : Pr) : PySem.W.Hook where
  α := AlR
  obs := fun s => obsRG n p s.heap.get?
  val := fun _ => valR p
  says := fun _ h => ∃ K : PySem.W.Frag, K.In h ∧ SaysR p K
  of := fun _ _ e => ⟨_, He.frG_in, e⟩
  keeps := fun _ _ _ ⟨K, hK, c⟩ k => ⟨K, PySem.W.Frag.In.keeps hK k, c⟩
theorem obsRG_eq {n : Nat} {p : Pr} {g : Addr → Option Obj} {s : Shared} (h : ∀ a, g a = s.heap.get? a) : obsRG n p g = (hookR n p).obs s := by
  have e : g = s.heap.get? := funext h
  rw [e] <;> rfl
section
variable {p : Pr} {K : PySem.W.Frag}
theorem SaysR.chk (c : SaysR p K) : p.chk K = true :=
  (He.ba (show (p.chk K && p.L.all fun d => d.da.ok K) = true from congrArg (fun z : AlR => z.1) c)).1
theorem SaysR.def_ (c : SaysR p K) {i : Nat} {q : PFn} (h : p.L[i]? = some q) : ∃ fd, FunD K q.d.name q.d.qual q.d.params q.d.body q.d.scope (q.d.dvs K) (q.d.kws K) (q.ad K) fd := by
  have c2 := (He.ba (show (p.chk K && p.L.all fun d => d.da.ok K) = true from congrArg (fun z : AlR => z.1) c)).2
  have e : p.L.map (fun d => He5.fnA K (d.ad K)) = p.L.map fun d => d.da.val := congrArg (fun z : AlR => z.2) c
  have e2 : (p.L.map fun d => He5.fnA K (d.ad K))[i]? = (p.L.map fun d => d.da.val)[i]? := by rw [e]
  rw [List.getElem?_map, List.getElem?_map, h] at e2
  exact He5.DefA.funD (d := q.da) (Option.some.inj e2) (List.all_eq_true.mp c2 q (List.mem_of_getElem? h))
/-- every parameter is written; what is left over goes into a tuple -/
def BindP (q : PFn) : Prop := q.kwo = false → ∀ (kV doc pm : Value) (an : Option Addr) (cdv ct : Value), match q.pv with
  | none => ∀ us : List Value, us.length = q.ps.length → bindArgs (PySem.W.fnOf q.d.name q.d.qual q.d.params q.d.body q.d.scope .none kV doc pm an cdv ct) ⟨us, []⟩ = pure (q.ps.zip us)
  | some pv => ∀ us rest : List Value, us.length = q.ps.length → bindArgs (PySem.W.fnOf q.d.name q.d.qual q.d.params q.d.body q.d.scope .none kV doc pm an cdv ct) ⟨us ++ rest, []⟩ = (newTuple rest >>= fun t => pure (q.ps.zip us ++ [(pv, t)]))
theorem BindP.kw {q : PFn} (h : q.kwo = true) : BindP q := fun e => by rw [h] at e; cases e
theorem BindP.no {q : PFn} (e : q.pv = none) (h : ∀ (kV doc pm : Value) (an : Option Addr) (cdv ct : Value) (us : List Value), us.length = q.ps.length → bindArgs (PySem.W.fnOf q.d.name q.d.qual q.d.params q.d.body q.d.scope .none kV doc pm an cdv ct) ⟨us, []⟩ = pure (q.ps.zip us)) : BindP q := by
  intro _ kV doc pm an cdv ct
  rw [e]
  exact h kV doc pm an cdv ct
theorem BindP.va {q : PFn} {pv : Str} (e : q.pv = some pv) (h : ∀ (kV doc pm : Value) (an : Option Addr) (cdv ct : Value) (us rest : List Value), us.length = q.ps.length → bindArgs (PySem.W.fnOf q.d.name q.d.qual q.d.params q.d.body q.d.scope .none kV doc pm an cdv ct) ⟨us ++ rest, []⟩ = (newTuple rest >>= fun t => pure (q.ps.zip us ++ [(pv, t)]))) : BindP q := by
  intro _ kV doc pm an cdv ct
  rw [e]
  exact h kV doc pm an cdv ct
theorem bok_of {K : PySem.W.Frag} {q : PFn} {kws : List (Str × V)} {f : Addr} {fd : FuncData} (F : FunD K q.d.name q.d.qual q.d.params q.d.body q.d.scope [] kws f fd) (hw : q.kwo = false) (hb : BindP q) : BOk K q fd := by
  refine ⟨hw, ?_⟩
  have hb := hb hw
  obtain ⟨oc, od, dV, kV, doc, pm, an, cdv, ct, osl, e, lk, hcd, hD, hK⟩ := id F.ex
  have h := hb kV doc pm an cdv ct
  cases hv : q.pv with
  | none =>
    simp only
    refine F.bindsN fun kV doc pm an cdv ct us hl => ?_
    have h := hb kV doc pm an cdv ct
    rw [hv] at h
    exact h us hl
  | some pv =>
    simp only
    intro us rest hl
    rw [hv] at h
    rcases hD with ⟨_, rfl⟩ | ⟨ne, _⟩
    · rw [e]
      exact h us rest hl
    · exact absurd rfl ne
theorem vals_sel {ms zs : List V} {mv us : List Value} (hm : Vals ms mv) (hz : Vals zs us) : ∀ (sel : List (Nat ⊕ Nat)), Vals (selP sel ms zs) (selP sel mv us)
  | [] => .nil
  | .inl i :: r => by
    unfold selP
    cases q : zs[i]? with
    | some x =>
      obtain ⟨u, hu, rr⟩ := hz.get q
      rw [hu]
      exact .cons rr (vals_sel hm hz r)
    | none =>
      have : us[i]? = none := by
        rw [List.getElem?_eq_none_iff] at q ⊢
        rw [← hz.length]; exact q
      rw [this]
      exact vals_sel hm hz r
  | .inr i :: r => by
    unfold selP
    cases q : ms[i]? with
    | some x =>
      obtain ⟨u, hu, rr⟩ := hm.get q
      rw [hu]
      exact .cons rr (vals_sel hm hz r)
    | none =>
      have : mv[i]? = none := by
        rw [List.getElem?_eq_none_iff] at q ⊢
        rw [← hm.length]; exact q
      rw [this]
      exact vals_sel hm hz r
theorem SaysR.pok {P : Program} {w : World} {mg : Str → Option Value} {base : Heap} {h : Heap} (c : SaysR p K) (X : K.In h) (G : h.Ns mainGlobals mg) (ht : p.txt = true) (hb : ∀ q ∈ p.L, BindP q) (hbk : ∀ kf ∈ p.kfl, ∀ f q, p.itl.lookup kf.c = some f → p.L[f]? = some q → BindK q kf) : POk (p.G K) P w mg base p.T p.tb p.L p.gl := by
  have ck := c.chk
  unfold Pr.chk at ck
  simp only [Bool.and_eq_true] at ck
  obtain ⟨⟨⟨⟨⟨⟨⟨⟨⟨⟨⟨⟨⟨⟨⟨⟨⟨c1, c2⟩, c3⟩, c4⟩, c5⟩, c5x⟩, c5r⟩, c6⟩, c7⟩, c7x⟩, c7i⟩, c7f⟩, c7o⟩, c7p⟩, c7k⟩, c8⟩, c9⟩, c10⟩ := ck
  unfold Pr.txt at ht
  simp only [Bool.and_eq_true, decide_eq_true_eq] at ht
  obtain ⟨⟨⟨⟨t1, t2⟩, t2k⟩, t3⟩, t4⟩ := ht
  -- a def of the table, at its place
  have fun_at : ∀ {f : Nat} {q : PFn}, p.L[f]? = some q → ∃ fd, FunD K q.d.name q.d.qual q.d.params q.d.body q.d.scope [] (q.d.kws K) (q.ad K) fd := fun {f q} hq => by
    obtain ⟨fd, F⟩ := c.def_ hq
    obtain ⟨_, _, _, hdf, hkw, _, _⟩ := FnScope.of (List.all_eq_true.mp t1 q (List.mem_of_getElem? hq))
    refine ⟨fd, ?_⟩
    have := F
    unfold He.DefD.dvs at this
    rw [hdf] at this
    exact this
  have dvs0 : ∀ {f : Nat} {q : PFn}, p.L[f]? = some q → q.d.dvs K = [] := fun {f q} hq => by
    obtain ⟨_, _, _, hdf, hkw, _, _⟩ := FnScope.of (List.all_eq_true.mp t1 q (List.mem_of_getElem? hq))
    unfold He.DefD.dvs
    rw [hdf]
    rfl
  have def_at : ∀ {f : Nat} {q : PFn}, p.L[f]? = some q → q.kwo = false → ∃ fd, FunD K q.d.name q.d.qual q.d.params q.d.body q.d.scope (q.d.dvs K) (q.d.kws K) (q.ad K) fd ∧ BOk K q fd := fun {f q} hq hw => by
    obtain ⟨fd, F⟩ := fun_at hq
    refine ⟨fd, ?_, bok_of F hw (hb q (List.mem_of_getElem? hq))⟩
    rw [dvs0 hq]
    exact F
  exact {
    go := clsB_ok c1 t4
    exc := fun k x hl hx => by
      have hm : x ∈ p.T.exc := by
        rw [List.getElem?_append_right hl] at hx
        exact List.mem_of_getElem? hx
      have q := List.all_eq_true.mp c5x x hm
      have e : (p.T.cls ++ p.T.exc).getD k "" = x := by rw [List.getD_eq_getElem?_getD, hx]; rfl
      show mg x = some (.ref (He.ga K ((p.T.cls ++ p.T.exc).getD k "")))
      rw [e]
      exact He.glo_ok X G q
    rai := fun k hk => by
      have hm : k ∈ p.T.rai := by simpa using hk
      exact He.exc_ok (List.all_eq_true.mp c5r k hm)
    exm := fun k k' b hf => He.exm_ok (List.all_eq_true.mp c7x ((k, k'), b) (lookup_mem (show p.sbl.lookup (k, k') = some b from hf)))
    xi := fun k t b hf => by
      have q := List.all_eq_true.mp c7i ((k, t), b) (lookup_mem (show p.xil.lookup (k, t) = some b from hf))
      rw [Bool.and_eq_true, decide_eq_true_eq] at q
      exact ⟨q.1, xcB_ok q.2⟩
    xf := fun k f hf => by
      have hm : (k, f) ∈ p.xfl := by
        have : p.xfl.contains (k, f) = true := hf
        simpa using this
      have q := List.all_eq_true.mp c7f _ hm
      rw [Bool.and_eq_true, decide_eq_true_eq] at q
      exact ⟨xfB_ok q.1, q.2⟩
    sy := fun f x hx => by
      show syOf p.T.fld f = x
      unfold syOf
      rw [hx]
    ft := fun k f hf => by
      have hm : (k, f) ∈ p.ftl := by
        have : p.ftl.contains (k, f) = true := hf
        simpa using this
      have q := List.all_eq_true.mp c6 _ hm
      rw [Bool.and_eq_true, decide_eq_true_eq] at q
      exact ⟨q.1, He.noat_ok q.2⟩
    mt := fun k m f hf => by
      have hm : ((k, m), f) ∈ p.mtl := lookup_mem (show p.mtl.lookup (k, m) = some f from hf)
      have q := List.all_eq_true.mp c7 _ hm
      rw [Bool.and_eq_true, Bool.and_eq_true, decide_eq_true_eq] at q
      obtain ⟨⟨q1, q2⟩, q3⟩ := q
      cases hq : p.L[f]? with
      | none => simp only [hq] at q3; cases q3
      | some r =>
        simp only [hq, Bool.and_eq_true, Bool.not_eq_true', decide_eq_true_eq] at q3
        obtain ⟨q0, q3⟩ := q3
        obtain ⟨fd, F, hB⟩ := def_at hq q0
        refine ⟨q1, r, _, fd, rfl, He.meth_ok q2, ?_, hB⟩
        rw [← q3]
        exact F
    pt := fun k m f hf => by
      have hm : ((k, m), f) ∈ p.ptl := lookup_mem (show p.ptl.lookup (k, m) = some f from hf)
      have q := List.all_eq_true.mp c7p _ hm
      rw [Bool.and_eq_true, decide_eq_true_eq] at q
      obtain ⟨q1, q3⟩ := q
      cases hq : p.L[f]? with
      | none => simp only [hq] at q3; cases q3
      | some r =>
        simp only [hq, Bool.and_eq_true, Bool.not_eq_true'] at q3
        obtain ⟨fd, F, hB⟩ := def_at hq q3.1
        exact ⟨q1, r, _, _, fd, rfl, propB_ok q3.2, F, hB⟩
    kf := fun k c' n' ns' hT => by
      rw [t2k, List.getElem?_map] at hT
      cases hk : p.kfl[k]? with
      | none => rw [hk] at hT; cases hT
      | some kf =>
        rw [hk] at hT
        have eT := Option.some.inj hT
        simp only [Prod.mk.injEq] at eT
        obtain ⟨rfl, rfl, rfl⟩ := eT
        have hmem := List.mem_of_getElem? hk
        have q := List.all_eq_true.mp c7k _ hmem
        rw [Bool.and_eq_true, Bool.and_eq_true, decide_eq_true_eq] at q
        obtain ⟨⟨q1, q2⟩, q3⟩ := q
        cases hi : p.itl.lookup kf.c with
        | none => simp only [hi] at q3; cases q3
        | some f =>
          simp only [hi] at q3
          cases hq : p.L[f]? with
          | none => simp only [hq] at q3; cases q3
          | some r =>
            simp only [hq, Bool.and_eq_true, Bool.not_eq_true', decide_eq_true_eq, Option.isNone_iff_eq_none] at q3
            obtain ⟨⟨⟨r1, r2⟩, r3⟩, r4⟩ := q3
            obtain ⟨fd, F⟩ := fun_at hq
            have hkw : r.d.kws K ≠ [] := by
              unfold He.DefD.kws
              intro e
              rw [List.map_eq_nil_iff] at e
              rw [e] at r3
              cases r3
            have hK : KOk (p.G K) r fd kf := by
              have ms := List.all_eq_true.mp r4
              obtain ⟨mv, hB⟩ := F.kbinds0 (ps := r.ps) (kf.n + 1) kf.ks (kf.ms.map fun m => (m.1, (r.dv m.1).v K)) (fun us mv ws => us ++ selP kf.sel mv ws) hkw (fun q hq => by
                obtain ⟨m, hm, rfl⟩ := List.mem_map.mp hq
                have h1 := ms m hm
                rw [Bool.and_eq_true] at h1
                unfold He.DefD.kws
                refine List.mem_map.mpr ⟨(m.1, r.dv m.1), ?_, rfl⟩
                unfold PFn.dv
                cases hl : r.d.kwd.lookup m.1 with
                | none => rw [hl] at h1; cases h1.1
                | some dv => exact lookup_mem hl) (fun h1 h2 h3 => h1.append (vals_sel h2 h3 kf.sel)) (fun D doc pm an cdv ct us mv ws l1 l2 l3 => by
                  have := hbk kf hmem f r hi hq D doc pm an cdv ct us mv ws l1 (by rw [l2, List.length_map]) l3
                  rw [List.map_map]
                  exact this)
              refine ⟨mv, _, hB, fun w => ?_⟩
              rw [List.map_map]
              have key : ∀ l : List (Str × D), (∀ m ∈ l, ((r.d.kwd.lookup m.1).isSome && dvB K m.2 (r.dv m.1)) = true) → Reps (p.G K) w (l.map (·.2)) (l.map (Prod.snd ∘ fun m => (m.1, (r.dv m.1).v K))) := by
                intro l
                induction l with
                | nil => intro _; exact .nil
                | cons m l ih =>
                  intro hl
                  have h1 := hl m (List.mem_cons_self ..)
                  rw [Bool.and_eq_true] at h1
                  exact .cons (dvB_ok (G := p.G K) h1.2 w) (ih fun x hx => hl x (List.mem_cons_of_mem _ hx))
              exact key kf.ms ms
            refine ⟨kf, f, r, _, fd, hk, rfl, rfl, rfl, q1, hi, hq, r1, He.mkr_ok q2, ?_, hK⟩
            rw [← r2, dvs0 hq]
            exact F
    mkr := fun k hk => by
      have hm : k ∈ p.T.mks := by simpa using hk
      have q := List.all_eq_true.mp c8 _ hm
      rw [Bool.and_eq_true] at q
      obtain ⟨q1, q2⟩ := q
      cases hi : p.itl.lookup k with
      | none => simp only [hi] at q2; cases q2
      | some f =>
        simp only [hi] at q2
        cases hq : p.L[f]? with
        | none => simp only [hq] at q2; cases q2
        | some r =>
          simp only [hq, Bool.and_eq_true, Bool.not_eq_true', decide_eq_true_eq, Option.isNone_iff_eq_none] at q2
          obtain ⟨⟨q3, q0⟩, q2⟩ := q2
          obtain ⟨fd, F, hB⟩ := def_at hq q0
          refine ⟨f, r, _, fd, hi, hq, q3, He.mkr_ok q1, ?_, hB⟩
          rw [← q2]
          exact F
    ot := fun k m f hf => by
      have hm : ((k, m), f) ∈ p.otl := lookup_mem (show p.otl.lookup (k, m) = some f from hf)
      have q := List.all_eq_true.mp c7o _ hm
      rw [Bool.and_eq_true, Bool.and_eq_true, decide_eq_true_eq] at q
      obtain ⟨⟨q1, q2⟩, q3⟩ := q
      cases hq : p.L[f]? with
      | none => simp only [hq] at q3; cases q3
      | some r =>
        simp only [hq, Bool.and_eq_true, Bool.not_eq_true', decide_eq_true_eq] at q3
        obtain ⟨⟨q0, q3⟩, qn⟩ := q3
        obtain ⟨fd, F, hB⟩ := def_at hq q0
        have hM := He.meth_ok q2
        refine ⟨q1, fun e => ?_, r, _, fd, rfl, hM.at_, hM.fn, ?_, hB⟩
        · subst e
          exact He.eqO_ok qn
        rw [← q3]
        exact F
    cv := fun k f d hf => cvB_ok (G := p.G K) (List.all_eq_true.mp c9 ((k, f), d) (lookup_mem (show p.cvl.lookup (k, f) = some d from hf)))
    itf := fun k f hf => by
      have hf' : (p.ifl.find? fun q => q.1.1 == k).map (·.1.2) = some f := hf
      obtain ⟨q0, hq0, rfl⟩ := Option.map_eq_some_iff.mp hf'
      have hk : q0.1.1 = k := by
        have := List.find?_some hq0
        simpa using this
      have q := List.all_eq_true.mp c10 q0 (List.mem_of_find?_eq_some hq0)
      rw [Bool.and_eq_true, Bool.and_eq_true, Bool.and_eq_true, decide_eq_true_eq] at q
      obtain ⟨⟨⟨q1, q2⟩, q2'⟩, q3⟩ := q
      rw [hk] at q1 q2 q2' q3
      cases hq : p.L[q0.2]? with
      | none => simp only [hq] at q3; cases q3
      | some r =>
        simp only [hq, Bool.and_eq_true, Bool.not_eq_true', decide_eq_true_eq] at q3
        obtain ⟨⟨q0', q3⟩, qn⟩ := q3
        obtain ⟨fd, F, hB⟩ := def_at hq q0'
        have hM := He.meth_ok q2'
        refine ⟨q1, He.noat_ok q2, r, _, fd, hM.at_, hM.fn, List.all_eq_true.mp t1 r (List.mem_of_getElem? hq), qn, ?_, hB⟩
        rw [← q3]
        exact F
    chk := fun q hq => List.all_eq_true.mp t1 q hq
    fns := fun f x hf => by
      have hx := List.all_eq_true.mp c4 _ (List.mem_of_getElem? hf)
      rw [t2, List.getElem?_map] at hf
      cases hq : p.L[f]? with
      | none => rw [hq] at hf; cases hf
      | some q =>
        rw [hq] at hf
        have ek : q.key = (x, none) := Option.some.inj hf
        unfold PFn.key at ek
        cases hw : q.kwo with
        | true => rw [hw] at ek; cases ek
        | false =>
          rw [hw] at ek
          have ea : q.d.at_ = (x, none) := ek
          obtain ⟨fd, F, hB⟩ := def_at hq hw
          refine ⟨q, _, fd, rfl, He.glo_ok X G hx, ?_, hB⟩
          have e : q.ad K = He.ga K x := by
            unfold PFn.ad
            rw [ea]
            rfl
          rw [← e]
          exact F
    glob := fun g x d hg hd => by
      have hd' : p.gv[g]? = some d := hd
      have hz : (x, d) ∈ p.T.gn.zip p.gv := List.mem_of_getElem? (i := g) (by rw [List.getElem?_zip_eq_some]; exact ⟨hg, hd'⟩)
      have q := List.all_eq_true.mp c3 _ hz
      unfold conB at q
      split at q
      · rename_i u hu
        obtain ⟨v, r, hr⟩ := repB_ok (G := p.G K) d q
        exact ⟨v, u, PySem.W.mg_of X G hu, r, hr⟩
      · cases q
    blt := fun x hx => He.free_ok X G (List.all_eq_true.mp c2 x hx)
    cls := fun k x hk => by
      have hg := List.all_eq_true.mp c5 x (List.mem_of_getElem? hk)
      have hl : k < p.T.cls.length := (List.getElem?_eq_some_iff.mp hk).1
      refine ⟨hl, ?_⟩
      have e : (p.T.cls ++ p.T.exc).getD k "" = x := by
        rw [List.getD_eq_getElem?_getD, List.getElem?_append_left hl, hk]
        rfl
      show mg x = some (.ref (He.ga K ((p.T.cls ++ p.T.exc).getD k "")))
      rw [e]
      exact He.glo_ok X G hg }
end
end Rf
set_option Elab.async false
set_option linter.all false
set_option maxRecDepth 100000
set_option maxHeartbeats 8000000
/-! G20: the law's end -/
namespace Rf
open PySem L2 PySem.Spec PyProof.Rows
/-- the script's list as a datum -/
theorem script_sp {G : Gm} {F : FTab} {li : Nat} {H : Hp} {a : Addr} {ns : List Int} (hS : SqL G.K H a (ns.map V.int)) (hk : ∀ o, G.K.lookup a = some o → o.slots = #[]) {c : Cells} (h : F.call li [.lst (ns.map .int)] [] = .ok (.bl true) c) : spF G F li [.ref a] H (fun v _ => v = .bl true) (fun _ _ _ => False) := by
  have hin : ∀ (w : W) (ns : List Int), Reps G w (ns.map .int) (ns.map V.int) := fun w ns => by
    induction ns with
    | nil => exact .nil
    | cons i r ih => exact .cons (.int i) ih
  let w : W := ⟨fun b => b = a ∧ ∃ vs, H a = some (.lst vs), fun _ => 0, [], H⟩
  have ok : WOk G w := {
    cell := fun i o e => nomatch (show ([] : Cells)[i]? = some (some o) from e)
    inj := fun i j o u e => nomatch (show ([] : Cells)[i]? = some (some o) from e)
    zin := fun b z => by
      obtain ⟨e, vs, h⟩ := z
      exact ⟨_, by rw [e]; exact h⟩ }
  have fz : FzL G.K w a (ns.map V.int) := by
    rcases hS with (e | ⟨o, e⟩) | ⟨o, its, m, e1, e2, e3, e4, e5, e6⟩
    · exact .inl ⟨⟨rfl, _, e⟩, e⟩
    · exact .inr (.inl ⟨o, e⟩)
    · exact .inr (.inr ⟨o, its, m, e1, e2, e3, e4, e5, e6, hk o e1⟩)
  refine ⟨w, [.lst (ns.map .int)], rfl, ok, .cons (.lst fz (hin w ns)) .nil, ?_⟩
  show PostF G w (F.call li [.lst (ns.map .int)] []) _ _
  rw [h]
  intro w' _ _ _ v r
  cases r
  rfl
/-- a law by its reading -/
theorem law_walk {l : PySem.W.OpenLaw} {n N li m : Nat} {p : Pr} {q : Program} {loose : List Str} {XP : (Str → Option Value) → Heap → Prop} {d : DefRec} {x : Str}
    (hn : l.most = some n) (hn2 : n ≤ sizeLine) (hdf : d.params.defaults = []) (hr : Room (2 * N) callerA) (ht : p.txt = true) (hb : ∀ q ∈ p.L, BindP q) (hbk : ∀ kf ∈ p.kfl, ∀ f q, p.itl.lookup kf.c = some f → p.L[f]? = some q → BindK q kf) (hli : p.T.fns[li]? = some (d.name, none)) (hps : ∀ q, p.L[li]? = some q → q.ps = [x] ∧ q.pv = none) (hN : 0 < N)
    (hev : ∀ ns : List Int, ns.length ≤ n → ∃ c, (calls p.gl (fnsOf p.L) p.tb N).call li [.lst (ns.map .int)] [] = .ok (.bl true) c) :
    PySem.W.WalkO q loose XP (hookR m p).says l.row.toRowW d [] (fun f vs => PySem.call f vs) := by
  refine Att.attach_call hn hdf fun w s0 s1 mg mb fa o pm cd doc a vs ns G Y ho hd hcd hmg hobj hints hlen hg => ?_
  obtain ⟨K, KX, c⟩ := Y
  obtain ⟨f, a', fd, h1, h2, h3, h4⟩ := (SaysR.pok (P := l.prog) (w := w) (base := s1.heap) c KX G.T.g ht hb hbk).fns li d.name hli
  rw [hmg] at h2
  cases h2
  obtain ⟨hx, hv⟩ := hps f h1
  have hw := h4.1
  have h4 := h4.2
  rw [hv] at h4
  simp only at h4
  obtain ⟨N, rfl⟩ : ∃ k, N = k + 1 := ⟨N - 1, by omega⟩
  refine law_call (CX := L2.CX l.prog w) (k := 2 * (N + 1)) (sp := spF (p.G K) (calls p.gl (fnsOf p.L) p.tb (N + 1)) li) KX G.T.g G.T.b G.T.builtins G.T.nolimit hg hobj hints (Nat.le_trans hlen hn2) hr
    (fun base bX bG => by
      have po := SaysR.pok (P := l.prog) (w := w) (base := base) c bX bG ht hb hbk
      rw [← hx]
      exact fn_plain po (fnk po N) h1 h3 hv) (fun s u => ?_) (fun H hO hS => ?_) fun H e s' z => ?_
  · obtain ⟨oc, od, dV, kV, dc, pm', an, cdv, ct, osl, e, lk, hcd', hD, hK⟩ := h3.ex
    obtain ⟨_, _, _, hdf', _, _, _⟩ := FnScope.of ((SaysR.pok (P := l.prog) (w := w) (base := s1.heap) c KX G.T.g ht hb hbk).chk f (List.mem_of_getElem? h1))
    subst e
    rcases hD with ⟨_, rfl⟩ | ⟨ne, _⟩
    · have := hb f (List.mem_of_getElem? h1) hw kV dc pm' an cdv ct
      rw [hv] at this
      have := this [u] (by rw [hx]; rfl)
      rw [hx] at this
      exact .of_eq this
    · unfold He.DefD.dvs at ne
      rw [hdf'] at ne
      exact absurd rfl ne
  · obtain ⟨c, hc⟩ := hev ns hlen
    exact script_sp (G := p.G K) hS (fun o e => by
      have q := KX a o e
      rw [hobj] at q
      cases q
      rfl) hc
  · obtain ⟨_, _, _, _, _, _, _, _, _, _, _, _, z⟩ := z
    exact z
end Rf
set_option Elab.async false
set_option linter.all false
set_option maxRecDepth 100000
set_option maxHeartbeats 8000000
/-! G21: reckoning with the evaluator; the laws' draws -/
namespace Rf
open PySem L2
@[simp] theorem see_int (h : Cells) (i : Int) : see h (.int i) = .int i := nd rfl
@[simp] theorem see_bl (h : Cells) (i : Bool) : see h (.bl i) = .bl i := nd rfl
@[simp] theorem see_str (h : Cells) (i : Str) : see h (.str i) = .str i := nd rfl
@[simp] theorem see_non (h : Cells) : see h .non = .non := nd rfl
@[simp] theorem see_tup (h : Cells) (i : List D) : see h (.tup i) = .tup i := nd rfl
@[simp] theorem see_lst (h : Cells) (i : List D) : see h (.lst i) = .lst i := nd rfl
@[simp] theorem truth_bl (b : Bool) : truth (.bl b) = some b := nd rfl
@[simp] theorem eqD_int (a b : Int) : eqD (.int a) (.int b) = some (decide (a = b)) := by
  unfold eqD py
  simp only [SeqAt.shaped, Bool.and_self, if_true]
  rfl
theorem atI_nat {α : Type} (xs : List α) (n : Nat) : L2.atI xs (n : Int) = xs[n]? := by
  unfold L2.atI L2.ixN
  rw [if_pos (Int.natCast_nonneg n)]
  by_cases h : n < xs.length
  · rw [if_pos (by omega)]
    rfl
  · rw [if_neg (by omega), List.getElem?_eq_none (by omega)]
    rfl
theorem atI_lit {α : Type} (xs : List α) (n : Nat) : L2.atI xs (no_index (@OfNat.ofNat Int n instOfNat)) = xs[n]? := atI_nat xs n
@[simp] theorem subL_lit (xs : List D) (n : Nat) : subD (.lst xs) (.int (no_index (@OfNat.ofNat Int n instOfNat))) = xs[n]? := atI_nat xs n
@[simp] theorem subT_lit (xs : List D) (n : Nat) : subD (.tup xs) (.int (no_index (@OfNat.ofNat Int n instOfNat))) = xs[n]? := atI_nat xs n
@[simp] theorem ixN_lit (m n : Nat) (h : n < m) : L2.ixN m (no_index (@OfNat.ofNat Int n instOfNat)) = some n := by
  show L2.ixN m (n : Int) = some n
  unfold L2.ixN
  rw [if_pos (Int.natCast_nonneg n), if_pos (by show (n : Int) < m; omega)]
  rfl
/-! ### reckoning: statements, with no step behind a state that is not known yet -/
def seqO (F : FTab) (gl : Nat → Option D) (o : Out) (ss : CSs) : Out := o.bind fun env h => evSs F gl ss env h
def iteO (F : FTab) (gl : Nat → Option D) (r : Res Bool) (a b : CSs) (env : En) : Out := r.out env fun r h1 => if r then evSs F gl a env h1 else evSs F gl b env h1
section
variable (F : FTab) (gl : Nat → Option D) (env : En) (h : Cells) (ss a b : CSs)
@[simp] theorem ss_nilE : evSs F gl .nil env h = .next env h := nd rfl
@[simp] theorem ss_consE (s : CS) : evSs F gl (.cons s ss) env h = seqO F gl (evS F gl s env h) ss := nd rfl
@[simp] theorem seq_next : seqO F gl (.next env h) ss = evSs F gl ss env h := nd rfl
@[simp] theorem seq_ret (d : D) : seqO F gl (.ret d h) ss = .ret d h := nd rfl
@[simp] theorem seq_brk : seqO F gl (.brk env h) ss = .brk env h := nd rfl
@[simp] theorem seq_cont : seqO F gl (.cont env h) ss = .cont env h := nd rfl
@[simp] theorem seq_exc (x : Exn) : seqO F gl (.exc x env h) ss = .exc x env h := nd rfl
theorem seq_bad : seqO F gl .bad ss = .bad := nd rfl
@[simp] theorem s_iteE (t : CE) : evS F gl (.ite t a b) env h = iteO F gl (evE F gl env t h).test a b env := nd rfl
@[simp] theorem ite_ok (r : Bool) : iteO F gl (.ok r h) a b env = if r then evSs F gl a env h else evSs F gl b env h := nd rfl
theorem ite_true : iteO F gl (.ok true h) a b env = evSs F gl a env h := nd rfl
theorem ite_false : iteO F gl (.ok false h) a b env = evSs F gl b env h := nd rfl
@[simp] theorem ite_exc (x : Exn) : iteO F gl (.exc x h) a b env = .exc x env h := nd rfl
@[simp] theorem s_setE (i : Nat) (e : CE) : evS F gl (.set i e) env h = (evE F gl env e h).out env fun d h1 => .next (env.set i (.val d)) h1 := nd rfl
@[simp] theorem s_setNE (i : Nat) (e : CE) : evS F gl (.setN i e) env h = (evE F gl env e h).out env fun d h1 => if fresh e then (match newOb d with
      | some o => .next (env.set i (.own o)) h1
      | none => .bad) else .bad := nd rfl
@[simp] theorem s_setTE (is : List Nat) (e : CE) : evS F gl (.setT is e) env h = (evE F gl env e h).out env fun d h1 => match bindT (.tup is) d env with
      | some env' => .next env' h1
      | none => .bad := nd rfl
@[simp] theorem s_exE (e : CE) : evS F gl (.ex e) env h = (evE F gl env e h).out env fun _ h1 => .next env h1 := nd rfl
@[simp] theorem s_retE (e : CE) : evS F gl (.ret e) env h = (evE F gl env e h).out env fun d h1 => .ret d h1 := nd rfl
@[simp] theorem s_retNE : evS F gl .retN env h = .ret .non h := nd rfl
theorem s_forE (t : Tg) (src : CI) : evS F gl (.for_ t src a) env h = (evI F gl env src h).out env fun ds h1 => forGo t (evSs F gl a) ds env h1 := nd rfl
theorem s_whileE (n : Nat) (t : CE) : evS F gl (.while_ n t a) env h = whileGo (fun env h => (evE F gl env t h).test) (evSs F gl a) n env h := nd rfl
@[simp] theorem s_passE : evS F gl .pass env h = .next env h := nd rfl
@[simp] theorem s_brkE : evS F gl .brk env h = .brk env h := nd rfl
@[simp] theorem s_contE : evS F gl .cont env h = .cont env h := nd rfl
@[simp] theorem s_frzE (i : Nat) : evS F gl (.frz i) env h = (match env[i]? with
      | some (.own o) => .next (env.set i (.val (obD o))) h
      | _ => .bad) := nd rfl
@[simp] theorem s_appE (i : Nat) (e : CE) : evS F gl (.app i e) env h = (match env[i]? with
      | some (.own (.lst ds)) => (evE F gl env e h).out env fun d h1 => if ds.length < LIM then .next (env.set i (.own (.lst (ds ++ [d])))) h1 else .bad
      | some (.val (.cell k)) => (match h[k]? with
        | some (some (.lst _)) => (evE F gl env e h).out env fun d h1 => (match h1[k]? with
          | some (some (.lst ds)) => if ds.length < LIM then .next env (h1.set k (some (.lst (ds ++ [d])))) else .bad
          | _ => .bad)
        | _ => .bad)
      | _ => .bad) := nd rfl
def setFldO (F : FTab) (q f : Nat) (env : En) (d : D) (h1 : Cells) : Out := match env[q]? with
        | some (.own (.ins c fs)) => if F.tb.ft c f && decide (fs.length < 900) then .next (env.set q (.own (.ins c (putD f d fs)))) h1 else .bad
        | some (.val (.cell k)) => (match h1[k]? with
          | some (some (.ins c fs)) => if F.tb.ft c f && decide (fs.length < 900) then .next env (h1.set k (some (.ins c (putD f d fs)))) else .bad
          | _ => .bad)
        | _ => .bad
@[simp] theorem s_setAttrE (q f : Nat) (e : CE) : evS F gl (.setAttr (.var q) f e) env h = (evE F gl env e h).out env fun d h1 => setFldO F q f env d h1 := nd rfl
theorem setFld_own {F : FTab} {env : En} {h : Cells} {q f c : Nat} {fs : List (Nat × D)} {d : D} (hq : env[q]? = some (.own (.ins c fs))) (hf : F.tb.ft c f = true) (hl : fs.length < 900) : setFldO F q f env d h = .next (env.set q (.own (.ins c (putD f d fs)))) h := by
  unfold setFldO
  rw [hq]
  show (if _ then _ else _) = _
  rw [if_pos (by rw [hf, decide_eq_true hl]; rfl)]
/-- a list's item is set -/
def setAtO (q : Nat) (env : En) (i : Res D) (d : D) : Out := match env[q]? with
        | some (.own (.lst ds)) => i.out env fun y h3 => (match y with
          | .int j => (match L2.ixN ds.length j with
            | some n => .next (env.set q (.own (.lst (ds.set n d)))) h3
            | none => .bad)
          | _ => .bad)
        | some (.val (.cell k)) => i.out env fun y h3 => (match y, h3[k]? with
          | .int j, some (some (.lst ds)) => (match L2.ixN ds.length j with
            | some n => .next env (h3.set k (some (.lst (ds.set n d))))
            | none => .bad)
          | _, _ => .bad)
        | _ => .bad
@[simp] theorem s_setSubE (q : Nat) (i e : CE) : evS F gl (.setSub (.var q) i e) env h = (evE F gl env e h).out env fun d h1 => setAtO q env (evE F gl env i h1) d := nd rfl
@[simp] theorem setAt_cell0 (os : Cells) (ds : List D) (j : Nat) (hj : j < ds.length) (d : D) (hq : env[ (0 : Nat) ]? = some (.val (.cell 0))) : setAtO 0 env (.ok (.int (no_index (@OfNat.ofNat Int j instOfNat))) (some (.lst ds) :: os)) d = .next env (some (.lst (ds.set j d)) :: os) := by
  unfold setAtO
  rw [hq]
  show (match L2.ixN ds.length (no_index (@OfNat.ofNat Int j instOfNat)) with
            | some n => Out.next env ((some (Ob.lst ds) :: os).set 0 (some (.lst (ds.set n d))))
            | none => .bad) = _
  rw [ixN_lit _ _ hj]
  rfl
theorem base_var (i : Nat) (r : Res D) : based env (.var i) h r = (match env[i]? with
      | some (.own o) => .ok (obD o) h
      | some (.bor o) => .ok (obD o) h
      | _ => r) := nd rfl
end
@[simp] theorem lt_int (a b : Int) : opC .lt (.int a) (.int b) = some (decide (a < b)) := nd rfl
@[simp] theorem le_int (a b : Int) : opC .le (.int a) (.int b) = some (decide (a ≤ b)) := nd rfl
@[simp] theorem gt_int (a b : Int) : opC .gt (.int a) (.int b) = some (decide (b < a)) := nd rfl
@[simp] theorem ge_int (a b : Int) : opC .ge (.int a) (.int b) = some (decide (b ≤ a)) := nd rfl
@[simp] theorem eq_D (a b : D) : opC .eq a b = eqD a b := by cases a <;> rfl
@[simp] theorem ne_D (a b : D) : opC .ne a b = (eqD a b).map (!·) := by cases a <;> rfl
@[simp] theorem is_non (a : D) : opC .is a .non = some (isNon a) := by cases a <;> rfl
@[simp] theorem isnot_non (a : D) : opC .isnot a .non = some (!isNon a) := by cases a <;> rfl
@[simp] theorem in_D (a b : D) : opC .isin a b = isIn a b := by cases a <;> rfl
@[simp] theorem notin_D (a b : D) : opC .notin a b = (isIn a b).map (!·) := by cases a <;> rfl
@[simp] theorem add_int (a b : Int) : opB .add (.int a) (.int b) = some (.int (a + b)) := nd rfl
@[simp] theorem sub_int (a b : Int) : opB .sub (.int a) (.int b) = some (.int (a - b)) := nd rfl
theorem mul_int {a b : Int} (h : a.natAbs < 2 ^ 63 ∨ b.natAbs < 2 ^ 63) : opB .mul (.int a) (.int b) = some (.int (a * b)) := by
  show (if _ then _ else _) = _
  rw [if_pos (by simpa using h)]
theorem mul_intl {a b : Int} (h : a.natAbs < 2 ^ 63) : opB .mul (.int a) (.int b) = some (.int (a * b)) := mul_int (.inl h)
theorem mul_intr {a b : Int} (h : b.natAbs < 2 ^ 63) : opB .mul (.int a) (.int b) = some (.int (a * b)) := mul_int (.inr h)
theorem fdiv_int {a b : Int} (h : 0 < b) (h2 : b.natAbs < 2 ^ 63) : opB .fdiv (.int a) (.int b) = some (.int (a / b)) := by
  show (if _ then _ else _) = _
  rw [if_pos (by simpa using ⟨h, h2⟩)]
theorem mod_int {a b : Int} (h : 0 < b) : opB .mod (.int a) (.int b) = some (.int (a % b)) := if_pos h
theorem add_lst {a b : List D} (h : a.length + b.length ≤ LIM) : opB .add (.lst a) (.lst b) = some (.lst (a ++ b)) := if_pos h
theorem add_tup {a b : List D} (h : a.length + b.length ≤ LIM) : opB .add (.tup a) (.tup b) = some (.tup (a ++ b)) := if_pos h
theorem add_str {a b : Str} (h : a.length + b.length ≤ LIM) : opB .add (.str a) (.str b) = some (.str (a ++ b)) := if_pos h
@[simp] theorem truth_int (i : Int) : truth (.int i) = some (i != 0) := nd rfl
@[simp] theorem truth_lst (i : List D) : truth (.lst i) = some (!i.isEmpty) := nd rfl
@[simp] theorem truth_str (i : Str) : truth (.str i) = some (i.length != 0) := nd rfl
@[simp] theorem len_lst (i : List D) : bltD .len [.lst i] = some (.int i.length) := nd rfl
@[simp] theorem len_tup (i : List D) : bltD .len [.tup i] = some (.int i.length) := nd rfl
@[simp] theorem len_str (i : Str) : bltD .len [.str i] = some (.int i.length) := nd rfl
@[simp] theorem int_int (i : Int) : bltD .int [.int i] = some (.int i) := nd rfl
@[simp] theorem list_lst (i : List D) : bltD .list [.lst i] = some (.lst i) := nd rfl
@[simp] theorem list_tup (i : List D) : bltD .list [.tup i] = some (.lst i) := nd rfl
@[simp] theorem tuple_lst (i : List D) : bltD .tuple [.lst i] = some (.tup i) := nd rfl
@[simp] theorem tuple_tup (i : List D) : bltD .tuple [.tup i] = some (.tup i) := nd rfl
/-- a cell, seen -/
@[simp] theorem see0 (o : Ob) (hs : Cells) : see (some o :: hs) (.cell 0) = obD o := by
  cases o <;> rfl
@[simp] theorem obD_lst (i : List D) : obD (.lst i) = .lst i := nd rfl
/-! ### operators, own ones too -/
def binK (F : FTab) (op : BOp) (own : Bool) (h : Cells) (x y : D) : Option D → Res D
  | some d => .ok d h
  | none => if own then .bad else match ownF F.tb (.bin op) (see h x), see h x, see h y with
    | some f, .ins c _, .ins c' _ => if c = c' then F.call f [x, y] h else .bad
    | _, _, _ => .bad
def cmpK (F : FTab) (op : COp) (own : Bool) (h : Cells) (x y : D) : Option Bool → Res D
  | some b => .ok (.bl b) h
  | none => cmpOwn F op own h x y
section
variable {F : FTab} {h : Cells} {x y d : D}
@[simp] theorem binK_some (op : BOp) (own : Bool) : binK F op own h x y (some d) = .ok d h := nd rfl
@[simp] theorem cmpK_some (op : COp) (own b : Bool) : cmpK F op own h x y (some b) = .ok (.bl b) h := nd rfl
theorem bin_ins {op : BOp} {own : Bool} {c f : Nat} {fs gs : List (Nat × D)} (hx : see h x = .ins c fs) (hy : see h y = .ins c gs) (hw : own = false) (ho : F.tb.ot c (.bin op) = some f) : binK F op own h x y (opB op (see h x) (see h y)) = F.call f [x, y] h := by
  subst hw
  have e : opB op (see h x) (see h y) = none := by rw [hx, hy]; cases op <;> rfl
  rw [e]
  show (match ownF F.tb (.bin op) (see h x), see h x, see h y with
    | some f, .ins c _, .ins c' _ => if c = c' then F.call f [x, y] h else .bad
    | _, _, _ => .bad) = _
  rw [hx, hy]
  have e2 : ownF F.tb (.bin op) (.ins c fs) = some f := ho
  rw [e2]
  exact if_pos rfl
/-- a comparison of an instance -/
theorem cmp_ins {op : COp} {own : Bool} {c f : Nat} {fs : List (Nat × D)} (hx : see h x = .ins c fs) (hop : op ∈ [.eq, .lt, .le, .gt, .ge]) (hw : own = false) (ht : hasTy (see h y) = true) (ho : F.tb.ot c (.cmp op) = some f) : cmpK F op own h x y (opC op (see h x) (see h y)) = F.call f [x, y] h := by
  subst hw
  have e : opC op (see h x) (see h y) = none := by
    rw [hx]
    simp only [List.mem_cons, List.not_mem_nil, or_false] at hop
    rcases hop with rfl | rfl | rfl | rfl | rfl <;> first | rfl | (cases see h y <;> rfl)
  have e2 : cmpOwn F op false h x y = (if false || !hasTy (see h y) then .bad else match ownF F.tb (.cmp op) (see h x) with
    | some f => F.call f [x, y] h
    | none => .bad) := by
    simp only [List.mem_cons, List.not_mem_nil, or_false] at hop
    rcases hop with rfl | rfl | rfl | rfl | rfl <;> rfl
  rw [e]
  show cmpOwn F op false h x y = _
  rw [e2, ht, hx]
  have e3 : ownF F.tb (.cmp op) (.ins c fs) = some f := ho
  rw [e3]
  rfl
theorem ne_ins {own : Bool} {c f : Nat} {fs : List (Nat × D)} (hx : see h x = .ins c fs) (hw : own = false) (ht : hasTy (see h y) = true) (ho : F.tb.ot c (.cmp .ne) = some f) : cmpK F .ne own h x y (opC .ne (see h x) (see h y)) = (F.call f [x, y] h).bind (boolR true) := by
  subst hw
  have e : opC .ne (see h x) (see h y) = none := by rw [hx]; rfl
  rw [e]
  show (if false || !hasTy (see h y) then Res.bad else match ownF F.tb (.cmp .ne) (see h x) with
    | some f => (F.call f [x, y] h).bind (boolR true)
    | none => .bad) = _
  rw [ht, hx]
  have e3 : ownF F.tb (.cmp .ne) (.ins c fs) = some f := ho
  rw [e3]
  rfl
@[simp] theorem boolR_bl (neg b : Bool) : boolR neg (.bl b) h = .ok (.bl (if neg then !b else b)) h := nd rfl
theorem run_fn {gl : Nat → Option D} {f : Fn} {ds : List D} (hv : f.va = false) (e : ds.length = f.np) : runFn F gl f ds h = (evSs F gl f.body (start f.nn ds) h).fin := by
  unfold runFn packV
  rw [hv, if_neg (by decide), if_pos e]
theorem run_va {gl : Nat → Option D} {f : Fn} {ds : List D} (hv : f.va = true) (e : f.np ≤ ds.length + 1) (e2 : ds.length ≤ LIM) : runFn F gl f ds h = (evSs F gl f.body (start f.nn (ds.take (f.np - 1) ++ [.tup (ds.drop (f.np - 1))])) h).fin := by
  unfold runFn packV
  rw [hv, if_pos rfl, if_pos ⟨e, e2⟩]
/-! ### exceptions -/
def noExc : Out → Out
  | .exc _ _ _ => .bad
  | o => o
def tryO (F : FTab) (gl : Nat → Option D) (c : Nat) (hd : CSs) : Out → Out
  | .exc x env' h' => (match F.tb.sb x.c c with
      | some true => (match evSs F.hot gl hd env' h' with
        | .exc _ _ _ => .bad
        | o => o)
      | some false => .exc x env' h'
      | none => .bad)
  | o => o
variable {gl : Nat → Option D} {b hd : CSs} {c : Nat} {env : En}
@[simp] theorem s_tryE : evS F gl (.try_ b c hd) env h = tryO F gl c hd (evSs F gl b env h) := by
  rw [evS]
  unfold tryO
  rfl
@[simp] theorem try_ret : tryO F gl c hd (.ret d h) = .ret d h := nd rfl
@[simp] theorem try_next : tryO F gl c hd (.next env h) = .next env h := nd rfl
theorem try_exc {z : Exn} (e : F.tb.sb z.c c = some true) : tryO F gl c hd (.exc z env h) = noExc (evSs F.hot gl hd env h) := by
  show (match F.tb.sb z.c c with
      | some true => (match evSs F.hot gl hd env h with
        | .exc _ _ _ => Out.bad
        | o => o)
      | some false => .exc z env h
      | none => .bad) = _
  rw [e]
  unfold noExc
  rfl
@[simp] theorem noExc_ret : noExc (.ret d h) = .ret d h := nd rfl
@[simp] theorem noExc_next : noExc (.next env h) = .next env h := nd rfl
def tryAsO (F : FTab) (gl : Nat → Option D) (c i : Nat) (hd : CSs) : Out → Out
  | .exc x env' h' => (match F.tb.sb x.c c with
      | some true => dropEx i (evSs F.hot gl hd ((clrEx env').set i (.ex x)) h')
      | some false => .exc x env' h'
      | none => .bad)
  | o => o
@[simp] theorem s_tryAsE {i : Nat} : evS F gl (.tryAs b c i hd) env h = tryAsO F gl c i hd (evSs F gl b env h) := by
  rw [evS]
  unfold tryAsO
  rfl
@[simp] theorem tryAs_ret {i : Nat} : tryAsO F gl c i hd (.ret d h) = .ret d h := nd rfl
@[simp] theorem tryAs_next {i : Nat} : tryAsO F gl c i hd (.next env h) = .next env h := nd rfl
theorem tryAs_exc {z : Exn} {i : Nat} (e : F.tb.sb z.c c = some true) : tryAsO F gl c i hd (.exc z env h) = dropEx i (evSs F.hot gl hd ((clrEx env).set i (.ex z)) h) := by
  show (match F.tb.sb z.c c with
      | some true => dropEx i (evSs F.hot gl hd ((clrEx env).set i (.ex z)) h)
      | some false => .exc z env h
      | none => .bad) = _
  rw [e]
@[simp] theorem dropEx_ret {i : Nat} : dropEx i (.ret d h) = .ret d h := nd rfl
@[simp] theorem dropEx_next {i : Nat} : dropEx i (.next env h) = .next ((clrEx env).set i .no) h := nd rfl
@[simp] theorem dropEx_cont {i : Nat} : dropEx i (.cont env h) = .cont ((clrEx env).set i .no) h := nd rfl
@[simp] theorem dropEx_brk {i : Nat} : dropEx i (.brk env h) = .brk ((clrEx env).set i .no) h := nd rfl
@[simp] theorem clr_nil : clrEx [] = [] := nd rfl
@[simp] theorem clr_val (env : En) : clrEx (.val d :: env) = .val d :: clrEx env := nd rfl
@[simp] theorem clr_no (env : En) : clrEx (.no :: env) = .no :: clrEx env := nd rfl
@[simp] theorem clr_own (o : Ob) (env : En) : clrEx (.own o :: env) = .own o :: clrEx env := nd rfl
@[simp] theorem clr_bor (o : Ob) (env : En) : clrEx (.bor o :: env) = .bor o :: clrEx env := nd rfl
@[simp] theorem clr_ex (z : Exn) (env : En) : clrEx (.ex z :: env) = .no :: clrEx env := nd rfl
theorem runB_fn {gl : Nat → Option D} {f : Fn} {ds : List Ar} (hv : f.va = false) (e : ds.length = f.np) : runFnB F gl f ds h = (evSs F gl f.body (startB f.nn ds) h).fin := by
  unfold runFnB
  rw [if_pos ⟨hv, e⟩]
@[simp] theorem walk_lstD (ds : List D) : walkD (.lst ds) = some ds := nd rfl
@[simp] theorem walk_tupD (ds : List D) : walkD (.tup ds) = some ds := nd rfl
@[simp] theorem walk_strD (x : Str) : walkD (.str x) = some (x.cps.toList.map fun c => .str ⟨#[c]⟩) := nd rfl
@[simp] theorem all_lst (ds : List D) : bltD .all [.lst ds] = (blsD ds).map fun bs => .bl (bs.all id) := nd rfl
@[simp] theorem any_lst (ds : List D) : bltD .any [.lst ds] = (blsD ds).map fun bs => .bl (bs.any id) := nd rfl
@[simp] theorem sum_lst (ds : List D) : bltD .sum [.lst ds] = (intsD ds).map fun is => .int is.sum := nd rfl
@[simp] theorem s_raiseE : evS F gl (.raise_ c) env h = .exc ⟨c, []⟩ env h := nd rfl
@[simp] theorem fin_exc (z : Exn) : (Out.exc z env h).fin = .exc z h := nd rfl
@[simp] theorem out_exc {α : Type} (z : Exn) (k : α → Cells → Out) : (Res.exc z h : Res α).out env k = .exc z env h := nd rfl
@[simp] theorem test_exc (z : Exn) : (Res.exc z h : Res D).test = .exc z h := nd rfl
end
@[simp] theorem out_ok {α : Type} (a : α) (h : Cells) (env : En) (k : α → Cells → Out) : (Res.ok a h).out env k = k a h := nd rfl
@[simp] theorem test_ok (d : D) (h : Cells) : (Res.ok d h).test = lift (truth (see h d)) h := nd rfl
section
variable (F : FTab) (gl : Nat → Option D) (env : En) (h : Cells) (a b c t : CE) (as bs : CEs)
@[simp] theorem e_nonE : evE F gl env (.cst .non) h = .ok .non h := nd rfl
@[simp] theorem e_blE (x : Bool) : evE F gl env (.cst (.bl x)) h = .ok (.bl x) h := nd rfl
@[simp] theorem e_intE (x : Int) : evE F gl env (.cst (.int x)) h = .ok (.int x) h := nd rfl
@[simp] theorem e_strE (x : Str) : evE F gl env (.cst (.str x)) h = .ok (.str x) h := nd rfl
def slR (h : Cells) : Option Sl → Res D
  | some (.val d) => .ok d h
  | _ => .bad
@[simp] theorem slR_val (d : D) : slR h (some (.val d)) = .ok d h := nd rfl
@[simp] theorem e_varE (i : Nat) : evE F gl env (.var i) h = slR h env[i]? := by
  rw [evE]
  unfold slR
  split <;> simp_all
@[simp] theorem e_globE (i : Nat) : evE F gl env (.glob i) h = lift (gl i) h := nd rfl
@[simp] theorem e_binE (op : BOp) : evE F gl env (.bin op a b) h = (based env a h (evE F gl env a h)).bind fun x h1 => (based env b h1 (evE F gl env b h1)).bind fun y h2 => binK F op (isOwn env a || isOwn env b) h2 x y (opB op (see h2 x) (see h2 y)) := nd rfl
def negR : D → Cells → Res D
  | .int i, h => .ok (.int (-i)) h
  | _, _ => .bad
@[simp] theorem negR_int (i : Int) : negR (.int i) h = .ok (.int (-i)) h := nd rfl
@[simp] theorem e_negE : evE F gl env (.neg a) h = (evE F gl env a h).bind negR := by
  rw [evE]
  congr 1
  funext x h1
  cases x <;> rfl
@[simp] theorem e_cmpE (op : COp) : evE F gl env (.cmp op a b) h = (based env a h (evE F gl env a h)).bind fun x h1 => (based env b h1 (evE F gl env b h1)).bind fun y h2 => cmpK F op (isOwn env a || isOwn env b) h2 x y (opC op (see h2 x) (see h2 y)) := nd rfl
@[simp] theorem e_chainE (op op' : COp) : evE F gl env (.chain op op' a b c) h = (evE F gl env a h).bind fun x h1 => (evE F gl env b h1).bind fun y h2 => (lift (opC op (see h2 x) (see h2 y)) h2).bind fun r h3 =>
      if r then (evE F gl env c h3).bind fun z h4 => lift ((opC op' (see h4 y) (see h4 z)).map .bl) h4 else .ok (.bl false) h3 := nd rfl
@[simp] theorem e_andE : evE F gl env (.and as) h = evAnd F gl env as h := nd rfl
@[simp] theorem e_orE : evE F gl env (.or as) h = evOr F gl env as h := nd rfl
@[simp] theorem e_notE : evE F gl env (.not a) h = ((evE F gl env a h).test).bind fun b h1 => .ok (.bl (!b)) h1 := nd rfl
@[simp] theorem e_ifeE : evE F gl env (.ife t a b) h = ((evE F gl env t h).test).bind fun r h1 => if r then evE F gl env a h1 else evE F gl env b h1 := nd rfl
@[simp] theorem e_tupE : evE F gl env (.tup as) h = (evEs F gl env as h).bind fun ds h1 => if ds.length ≤ LIM then .ok (.tup ds) h1 else .bad := nd rfl
@[simp] theorem e_lstE : evE F gl env (.lst as) h = (evEs F gl env as h).bind fun ds h1 => if ds.length ≤ LIM then .ok (.lst ds) h1 else .bad := nd rfl
@[simp] theorem e_subE : evE F gl env (.sub a b) h = (based env a h (evE F gl env a h)).bind fun x h1 => (evE F gl env b h1).bind fun y h2 => lift (subD (see h2 x) y) h2 := nd rfl
@[simp] theorem e_sliceE (lo hi : CO) : evE F gl env (.slice a lo hi) h = (based env a h (evE F gl env a h)).bind fun x h1 => (evO F gl env lo h1).bind fun l h2 => (evO F gl env hi h2).bind fun u h3 => lift (sliceD (see h3 x) l u) h3 := nd rfl
@[simp] theorem e_callE (f : Nat) : evE F gl env (.call f as) h = (evEs F gl env as h).bind fun ds h1 => F.call f ds h1 := nd rfl
@[simp] theorem e_bltE (m : Blt) : evE F gl env (.blt m as) h = (evBs F gl env as h).bind fun ds h1 => lift (bltD m (ds.map (see h1))) h1 := nd rfl
@[simp] theorem e_bmE (m : BM) : evE F gl env (.bm m a as) h = (based env a h (evE F gl env a h)).bind fun x h1 => if isStrD x then (evBs F gl env as h1).bind fun ys h2 => lift (bmD m x (ys.map (see h2))) h2 else .bad := nd rfl
def methR (F : FTab) (gl : Nat → Option D) (env : En) (as : CEs) (x : D) (h : Cells) : Option Nat → Res D
  | some f => (evEs F gl env as h).bind fun ds h2 => F.call f (x :: ds) h2
  | none => .bad
@[simp] theorem methR_some (x : D) (f : Nat) : methR F gl env as x h (some f) = (evEs F gl env as h).bind fun ds h2 => F.call f (x :: ds) h2 := nd rfl
@[simp] theorem e_methE (m : Nat) : evE F gl env (.meth a m as) h = (evE F gl env a h).bind fun x h1 => methR F gl env as x h1 (methD F.tb (see h1 x) m) := by
  rw [evE]
  rfl
@[simp] theorem e_attrE (f : Nat) : evE F gl env (.attr a f) h = (based env a h (evE F gl env a h)).bind fun x h1 => lift (attrD F.tb (see h1 x) f) h1 := nd rfl
@[simp] theorem e_makeE (c : Nat) : evE F gl env (.make c as) h = (evEs F gl env as h).bind fun ds h1 => (F.ini c ds h1).bind fun fs h2 => .ok (.ins c fs) h2 := nd rfl
@[simp] theorem e_isiE (y : Ty) : evE F gl env (.isi a y) h = (evE F gl env a h).bind fun x h1 => lift ((tyD (see h1 x) y).map .bl) h1 := nd rfl
def lcG (F : FTab) (gl : Nat → Option D) (env : En) (elt : CE) (own : List Nat) (t : Tg) (cond : CO) (d : D) (h : Cells) : Res (Option D) := match bindT t d (wipeE env own) with
        | some env' => (evC F gl env' cond h).bind fun b h => if b then (evE F gl env' elt h).bind fun x h => .ok (some x) h else .ok none h
        | none => .bad
theorem e_lcE (own : List Nat) (t : Tg) (src : CI) (cond : CO) : evE F gl env (.lc a own t src cond) h = (evI F gl env src h).bind fun ds h1 => if ds.length ≤ LIM then (lcGo (lcG F gl env a own t cond) ds h1).bind fun r h2 => .ok (.lst r) h2 else .bad := nd rfl
@[simp] theorem es_nilE : evEs F gl env .nil h = .ok [] h := nd rfl
@[simp] theorem es_consE : evEs F gl env (.cons a as) h = (evE F gl env a h).bind fun x h1 => (evEs F gl env as h1).bind fun xs h2 => .ok (x :: xs) h2 := nd rfl
@[simp] theorem es_starE : evEs F gl env (.star a as) h = (evE F gl env a h).bind fun x h1 => (lift (itemsD (see h1 x)) h1).bind fun ys h1 => (evEs F gl env as h1).bind fun xs h2 => .ok (ys ++ xs) h2 := nd rfl
@[simp] theorem bs_nilE : evBs F gl env .nil h = .ok [] h := nd rfl
@[simp] theorem bs_consE : evBs F gl env (.cons a as) h = (based env a h (evE F gl env a h)).bind fun x h1 => (evBs F gl env as h1).bind fun xs h2 => .ok (x :: xs) h2 := nd rfl
@[simp] theorem o_noneE : evO F gl env .none h = .ok none h := nd rfl
def intR : D → Cells → Res (Option Int)
  | .int i, h => .ok (some i) h
  | _, _ => .bad
@[simp] theorem intR_int (i : Int) : intR (.int i) h = .ok (some i) h := nd rfl
@[simp] theorem o_someE : evO F gl env (.some a) h = (evE F gl env a h).bind intR := by
  rw [evO]
  congr 1
  funext x h1
  cases x <;> rfl
@[simp] theorem c_noneE : evC F gl env .none h = .ok true h := nd rfl
@[simp] theorem c_someE : evC F gl env (.some a) h = (evE F gl env a h).test := nd rfl
@[simp] theorem and_oneE : evAnd F gl env (.cons a .nil) h = evE F gl env a h := nd rfl
@[simp] theorem and_consE : evAnd F gl env (.cons a (.cons b bs)) h = (evE F gl env a h).bind fun x h1 => (lift (truth (see h1 x)) h1).bind fun k h1 => if k then evAnd F gl env (.cons b bs) h1 else .ok x h1 := nd rfl
@[simp] theorem or_oneE : evOr F gl env (.cons a .nil) h = evE F gl env a h := nd rfl
@[simp] theorem or_consE : evOr F gl env (.cons a (.cons b bs)) h = (evE F gl env a h).bind fun x h1 => (lift (truth (see h1 x)) h1).bind fun k h1 => if k then .ok x h1 else evOr F gl env (.cons b bs) h1 := nd rfl
@[simp] theorem i_ofE : evI F gl env (.of a) h = (walked env a h (evE F gl env a h)).bind fun x h1 => lift (walkD x) h1 := nd rfl
def rngR1 : D → Cells → Res (List D)
  | .int j, h => lift (rngD 0 j) h
  | _, _ => .bad
def rngR2 : D → D → Cells → Res (List D)
  | .int i, .int j, h => lift (rngD i j) h
  | _, _, _ => .bad
@[simp] theorem rngR1_int (i : Int) : rngR1 (.int i) h = lift (rngD 0 i) h := nd rfl
@[simp] theorem rngR2_int (i j : Int) : rngR2 (.int i) (.int j) h = lift (rngD i j) h := nd rfl
@[simp] theorem i_rng1E : evI F gl env (.rng1 a) h = (evE F gl env a h).bind rngR1 := by
  rw [evI]
  congr 1
  funext x h1
  cases x <;> rfl
@[simp] theorem i_rng2E : evI F gl env (.rng2 a b) h = (evE F gl env a h).bind fun x h1 => (evE F gl env b h1).bind fun y h2 => rngR2 x y h2 := by
  rw [evI]
  congr 1
  funext x h1
  congr 1
  funext y h2
  cases x <;> first | rfl | (cases y <;> rfl)
theorem base_own (o : Ob) (r : Res D) (i : Nat) (e : env[i]? = some (.own o)) : based env (.var i) h r = .ok (obD o) h := by
  show (match env[i]? with
      | some (.own o) => Res.ok (obD o) h
      | some (.bor o) => Res.ok (obD o) h
      | _ => r) = _
  rw [e]
theorem base_val (d : D) (r : Res D) (i : Nat) (e : env[i]? = some (.val d)) : based env (.var i) h r = r := by
  show (match env[i]? with
      | some (.own o) => Res.ok (obD o) h
      | some (.bor o) => Res.ok (obD o) h
      | _ => r) = _
  rw [e]
def baseV (h : Cells) (r : Res D) : Option Sl → Res D
  | some (.own o) => .ok (obD o) h
  | some (.bor o) => .ok (obD o) h
  | _ => r
@[simp] theorem base_varK (r : Res D) (i : Nat) : based env (.var i) h r = baseV h r env[i]? := by
  unfold based baseV
  rfl
@[simp] theorem baseV_own (r : Res D) (o : Ob) : baseV h r (some (.own o)) = .ok (obD o) h := nd rfl
@[simp] theorem baseV_bor (r : Res D) (o : Ob) : baseV h r (some (.bor o)) = .ok (obD o) h := nd rfl
/-! .. what is walked, what is handed on -/
def walkV (h : Cells) (r : Res D) : Option Sl → Res D
  | some (.bor o) => .ok (obD o) h
  | _ => r
@[simp] theorem walk_varK (r : Res D) (i : Nat) : walked env (.var i) h r = walkV h r env[i]? := by
  unfold walked walkV
  rfl
@[simp] theorem walkV_bor (r : Res D) (o : Ob) : walkV h r (some (.bor o)) = .ok (obD o) h := nd rfl
@[simp] theorem walkV_val (r : Res D) (d : D) : walkV h r (some (.val d)) = r := nd rfl
def arD (r : Res D) : Res Ar := r.bind fun d h => .ok (.d d) h
@[simp] theorem arD_ok (d : D) : arD (.ok d h) = .ok (.d d) h := nd rfl
def lentV (h : Cells) (r : Res D) : Option Sl → Res Ar
  | some (.own o) => .ok (.b o) h
  | some (.bor o) => .ok (.b o) h
  | _ => arD r
@[simp] theorem lent_varK (r : Res D) (i : Nat) : lent env (.var i) h r = lentV h r env[i]? := by
  unfold lent lentV
  rfl
@[simp] theorem lentV_own (r : Res D) (o : Ob) : lentV h r (some (.own o)) = .ok (.b o) h := nd rfl
@[simp] theorem lentV_bor (r : Res D) (o : Ob) : lentV h r (some (.bor o)) = .ok (.b o) h := nd rfl
@[simp] theorem lentV_val (r : Res D) (d : D) : lentV h r (some (.val d)) = arD r := nd rfl
def ownS : Option Sl → Bool
  | some (.own _) => true
  | some (.bor _) => true
  | _ => false
@[simp] theorem own_var (i : Nat) : isOwn env (.var i) = ownS env[i]? := by
  unfold isOwn ownS
  rfl
@[simp] theorem ownS_val (d : D) : ownS (some (.val d)) = false := nd rfl
@[simp] theorem ownS_own (o : Ob) : ownS (some (.own o)) = true := nd rfl
@[simp] theorem ownS_bor (o : Ob) : ownS (some (.bor o)) = true := nd rfl
@[simp] theorem baseV_val (r : Res D) (d : D) : baseV h r (some (.val d)) = r := nd rfl
@[simp] theorem base_cst (r : Res D) (k : Cst) : based env (.cst k) h r = r := nd rfl
@[simp] theorem base_glob (r : Res D) (g : Nat) : based env (.glob g) h r = r := nd rfl
@[simp] theorem base_bin (r : Res D) (op : BOp) : based env (.bin op a b) h r = r := nd rfl
@[simp] theorem base_neg (r : Res D)  : based env (.neg a) h r = r := nd rfl
@[simp] theorem base_cmp (r : Res D) (op : COp) : based env (.cmp op a b) h r = r := nd rfl
@[simp] theorem base_chain (r : Res D) (op op' : COp) : based env (.chain op op' a b c) h r = r := nd rfl
@[simp] theorem base_and (r : Res D)  : based env (.and as) h r = r := nd rfl
@[simp] theorem base_or (r : Res D)  : based env (.or as) h r = r := nd rfl
@[simp] theorem base_not (r : Res D)  : based env (.not a) h r = r := nd rfl
@[simp] theorem base_ife (r : Res D)  : based env (.ife t a b) h r = r := nd rfl
@[simp] theorem base_tup (r : Res D)  : based env (.tup as) h r = r := nd rfl
@[simp] theorem base_lst (r : Res D)  : based env (.lst as) h r = r := nd rfl
@[simp] theorem base_sub (r : Res D)  : based env (.sub a b) h r = r := nd rfl
@[simp] theorem base_slice (r : Res D) (lo hi : CO) : based env (.slice a lo hi) h r = r := nd rfl
@[simp] theorem base_call (r : Res D) (f : Nat) : based env (.call f as) h r = r := nd rfl
@[simp] theorem base_blt (r : Res D) (m : Blt) : based env (.blt m as) h r = r := nd rfl
@[simp] theorem base_bm (r : Res D) (m : BM) : based env (.bm m a as) h r = r := nd rfl
@[simp] theorem base_attr (r : Res D) (m : Nat) : based env (.attr a m) h r = r := nd rfl
@[simp] theorem base_meth (r : Res D) (m : Nat) : based env (.meth a m as) h r = r := nd rfl
@[simp] theorem base_make (r : Res D) (m : Nat) : based env (.make m as) h r = r := nd rfl
@[simp] theorem base_isi (r : Res D) (y : Ty) : based env (.isi a y) h r = r := nd rfl
@[simp] theorem base_lc (r : Res D) (own : List Nat) (tg : Tg) (src : CI) (cond : CO) : based env (.lc a own tg src cond) h r = r := nd rfl
@[simp] theorem wkd_cst (r : Res D) (k : Cst) : walked env (.cst k) h r = r := nd rfl
@[simp] theorem lent_cst (r : Res D) (k : Cst) : lent env (.cst k) h r = arD r := nd rfl
@[simp] theorem own_cst (k : Cst) : isOwn env (.cst k) = false := nd rfl
@[simp] theorem wkd_glob (r : Res D) (g : Nat) : walked env (.glob g) h r = r := nd rfl
@[simp] theorem lent_glob (r : Res D) (g : Nat) : lent env (.glob g) h r = arD r := nd rfl
@[simp] theorem own_glob (g : Nat) : isOwn env (.glob g) = false := nd rfl
@[simp] theorem wkd_bin (r : Res D) (op : BOp) : walked env (.bin op a b) h r = r := nd rfl
@[simp] theorem lent_bin (r : Res D) (op : BOp) : lent env (.bin op a b) h r = arD r := nd rfl
@[simp] theorem own_bin (op : BOp) : isOwn env (.bin op a b) = false := nd rfl
@[simp] theorem wkd_neg (r : Res D)  : walked env (.neg a) h r = r := nd rfl
@[simp] theorem lent_neg (r : Res D)  : lent env (.neg a) h r = arD r := nd rfl
@[simp] theorem own_neg  : isOwn env (.neg a) = false := nd rfl
@[simp] theorem wkd_cmp (r : Res D) (op : COp) : walked env (.cmp op a b) h r = r := nd rfl
@[simp] theorem lent_cmp (r : Res D) (op : COp) : lent env (.cmp op a b) h r = arD r := nd rfl
@[simp] theorem own_cmp (op : COp) : isOwn env (.cmp op a b) = false := nd rfl
@[simp] theorem wkd_chain (r : Res D) (op op' : COp) : walked env (.chain op op' a b c) h r = r := nd rfl
@[simp] theorem lent_chain (r : Res D) (op op' : COp) : lent env (.chain op op' a b c) h r = arD r := nd rfl
@[simp] theorem own_chain (op op' : COp) : isOwn env (.chain op op' a b c) = false := nd rfl
@[simp] theorem wkd_and (r : Res D)  : walked env (.and as) h r = r := nd rfl
@[simp] theorem lent_and (r : Res D)  : lent env (.and as) h r = arD r := nd rfl
@[simp] theorem own_and  : isOwn env (.and as) = false := nd rfl
@[simp] theorem wkd_or (r : Res D)  : walked env (.or as) h r = r := nd rfl
@[simp] theorem lent_or (r : Res D)  : lent env (.or as) h r = arD r := nd rfl
@[simp] theorem own_or  : isOwn env (.or as) = false := nd rfl
@[simp] theorem wkd_not (r : Res D)  : walked env (.not a) h r = r := nd rfl
@[simp] theorem lent_not (r : Res D)  : lent env (.not a) h r = arD r := nd rfl
@[simp] theorem own_not  : isOwn env (.not a) = false := nd rfl
@[simp] theorem wkd_ife (r : Res D)  : walked env (.ife t a b) h r = r := nd rfl
@[simp] theorem lent_ife (r : Res D)  : lent env (.ife t a b) h r = arD r := nd rfl
@[simp] theorem own_ife  : isOwn env (.ife t a b) = false := nd rfl
@[simp] theorem wkd_tup (r : Res D)  : walked env (.tup as) h r = r := nd rfl
@[simp] theorem lent_tup (r : Res D)  : lent env (.tup as) h r = arD r := nd rfl
@[simp] theorem own_tup  : isOwn env (.tup as) = false := nd rfl
@[simp] theorem wkd_lst (r : Res D)  : walked env (.lst as) h r = r := nd rfl
@[simp] theorem lent_lst (r : Res D)  : lent env (.lst as) h r = arD r := nd rfl
@[simp] theorem own_lst  : isOwn env (.lst as) = false := nd rfl
@[simp] theorem wkd_sub (r : Res D)  : walked env (.sub a b) h r = r := nd rfl
@[simp] theorem lent_sub (r : Res D)  : lent env (.sub a b) h r = arD r := nd rfl
@[simp] theorem own_sub  : isOwn env (.sub a b) = false := nd rfl
@[simp] theorem wkd_slice (r : Res D) (lo hi : CO) : walked env (.slice a lo hi) h r = r := nd rfl
@[simp] theorem lent_slice (r : Res D) (lo hi : CO) : lent env (.slice a lo hi) h r = arD r := nd rfl
@[simp] theorem own_slice (lo hi : CO) : isOwn env (.slice a lo hi) = false := nd rfl
@[simp] theorem wkd_call (r : Res D) (f : Nat) : walked env (.call f as) h r = r := nd rfl
@[simp] theorem lent_call (r : Res D) (f : Nat) : lent env (.call f as) h r = arD r := nd rfl
@[simp] theorem own_call (f : Nat) : isOwn env (.call f as) = false := nd rfl
@[simp] theorem wkd_blt (r : Res D) (m : Blt) : walked env (.blt m as) h r = r := nd rfl
@[simp] theorem lent_blt (r : Res D) (m : Blt) : lent env (.blt m as) h r = arD r := nd rfl
@[simp] theorem own_blt (m : Blt) : isOwn env (.blt m as) = false := nd rfl
@[simp] theorem wkd_bm (r : Res D) (m : BM) : walked env (.bm m a as) h r = r := nd rfl
@[simp] theorem lent_bm (r : Res D) (m : BM) : lent env (.bm m a as) h r = arD r := nd rfl
@[simp] theorem own_bm (m : BM) : isOwn env (.bm m a as) = false := nd rfl
@[simp] theorem wkd_attr (r : Res D) (m : Nat) : walked env (.attr a m) h r = r := nd rfl
@[simp] theorem lent_attr (r : Res D) (m : Nat) : lent env (.attr a m) h r = arD r := nd rfl
@[simp] theorem own_attr (m : Nat) : isOwn env (.attr a m) = false := nd rfl
@[simp] theorem wkd_meth (r : Res D) (m : Nat) : walked env (.meth a m as) h r = r := nd rfl
@[simp] theorem lent_meth (r : Res D) (m : Nat) : lent env (.meth a m as) h r = arD r := nd rfl
@[simp] theorem own_meth (m : Nat) : isOwn env (.meth a m as) = false := nd rfl
@[simp] theorem wkd_make (r : Res D) (m : Nat) : walked env (.make m as) h r = r := nd rfl
@[simp] theorem lent_make (r : Res D) (m : Nat) : lent env (.make m as) h r = arD r := nd rfl
@[simp] theorem own_make (m : Nat) : isOwn env (.make m as) = false := nd rfl
@[simp] theorem wkd_isi (r : Res D) (y : Ty) : walked env (.isi a y) h r = r := nd rfl
@[simp] theorem lent_isi (r : Res D) (y : Ty) : lent env (.isi a y) h r = arD r := nd rfl
@[simp] theorem own_isi (y : Ty) : isOwn env (.isi a y) = false := nd rfl
@[simp] theorem wkd_lc (r : Res D) (own : List Nat) (tg : Tg) (src : CI) (cond : CO) : walked env (.lc a own tg src cond) h r = r := nd rfl
@[simp] theorem lent_lc (r : Res D) (own : List Nat) (tg : Tg) (src : CI) (cond : CO) : lent env (.lc a own tg src cond) h r = arD r := nd rfl
@[simp] theorem own_lc (own : List Nat) (tg : Tg) (src : CI) (cond : CO) : isOwn env (.lc a own tg src cond) = false := nd rfl
@[simp] theorem base_callb (r : Res D) (f : Nat) : based env (.callb f as) h r = r := nd rfl
@[simp] theorem wkd_callb (r : Res D) (f : Nat) : walked env (.callb f as) h r = r := nd rfl
@[simp] theorem lent_callb (r : Res D) (f : Nat) : lent env (.callb f as) h r = arD r := nd rfl
@[simp] theorem own_callb (f : Nat) : isOwn env (.callb f as) = false := nd rfl
@[simp] theorem base_makeb (r : Res D) (f : Nat) : based env (.makeb f as) h r = r := nd rfl
@[simp] theorem wkd_makeb (r : Res D) (f : Nat) : walked env (.makeb f as) h r = r := nd rfl
@[simp] theorem lent_makeb (r : Res D) (f : Nat) : lent env (.makeb f as) h r = arD r := nd rfl
@[simp] theorem own_makeb (f : Nat) : isOwn env (.makeb f as) = false := nd rfl
@[simp] theorem base_rev (r : Res D)  : based env (.rev a) h r = r := nd rfl
@[simp] theorem wkd_rev (r : Res D)  : walked env (.rev a) h r = r := nd rfl
@[simp] theorem lent_rev (r : Res D)  : lent env (.rev a) h r = arD r := nd rfl
@[simp] theorem own_rev  : isOwn env (.rev a) = false := nd rfl
@[simp] theorem base_exIs (r : Res D) (i : Nat) (x : Xt) : based env (.exIs i x) h r = r := nd rfl
@[simp] theorem wkd_exIs (r : Res D) (i : Nat) (x : Xt) : walked env (.exIs i x) h r = r := nd rfl
@[simp] theorem lent_exIs (r : Res D) (i : Nat) (x : Xt) : lent env (.exIs i x) h r = arD r := nd rfl
@[simp] theorem own_exIs (i : Nat) (x : Xt) : isOwn env (.exIs i x) = false := nd rfl
@[simp] theorem base_exFld (r : Res D) (i f : Nat) : based env (.exFld i f) h r = r := nd rfl
@[simp] theorem wkd_exFld (r : Res D) (i f : Nat) : walked env (.exFld i f) h r = r := nd rfl
@[simp] theorem lent_exFld (r : Res D) (i f : Nat) : lent env (.exFld i f) h r = arD r := nd rfl
@[simp] theorem own_exFld (i f : Nat) : isOwn env (.exFld i f) = false := nd rfl
@[simp] theorem base_lc2 (r : Res D) (own vs1 : List Nat) (tg t1 : Tg) (src src1 : CI) (cond cond1 : CO) : based env (.lc2 a own tg src cond vs1 t1 src1 cond1) h r = r := nd rfl
@[simp] theorem wkd_lc2 (r : Res D) (own vs1 : List Nat) (tg t1 : Tg) (src src1 : CI) (cond cond1 : CO) : walked env (.lc2 a own tg src cond vs1 t1 src1 cond1) h r = r := nd rfl
@[simp] theorem lent_lc2 (r : Res D) (own vs1 : List Nat) (tg t1 : Tg) (src src1 : CI) (cond cond1 : CO) : lent env (.lc2 a own tg src cond vs1 t1 src1 cond1) h r = arD r := nd rfl
@[simp] theorem own_lc2 (own vs1 : List Nat) (tg t1 : Tg) (src src1 : CI) (cond cond1 : CO) : isOwn env (.lc2 a own tg src cond vs1 t1 src1 cond1) = false := nd rfl
@[simp] theorem e_callbE (f : Nat) : evE F gl env (.callb f as) h = (evAs F gl env as h).bind fun ds h1 => F.callb f ds h1 := nd rfl
@[simp] theorem e_makebE (c : Nat) : evE F gl env (.makeb c as) h = (evAs F gl env as h).bind fun ds h1 => (F.inib c ds h1).bind fun fs h2 => .ok (.ins c fs) h2 := nd rfl
@[simp] theorem as_nilE : evAs F gl env .nil h = .ok [] h := nd rfl
@[simp] theorem as_consE : evAs F gl env (.cons a as) h = (lent env a h (evE F gl env a h)).bind fun x h1 => (evAs F gl env as h1).bind fun xs h2 => .ok (x :: xs) h2 := nd rfl
def makekR (F : FTab) (ds zs : List Ar) (h : Cells) : Option KF → Res D
  | some kf => if ds.length = kf.n ∧ zs.length = kf.ks.length then (F.inib kf.c (kf.app ds zs) h).bind fun fs h3 => .ok (.ins kf.c fs) h3 else .bad
  | none => .bad
@[simp] theorem e_makekE (k : Nat) (ks : CEs) : evE F gl env (.makek k as ks) h = (evAs F gl env as h).bind fun ds h1 => (evAs F gl env ks h1).bind fun zs h2 => makekR F ds zs h2 (F.tb.kf k) := by
  rw [evE]
  rfl
@[simp] theorem makekR_some (ds zs : List Ar) (kf : KF) : makekR F ds zs h (some kf) = if ds.length = kf.n ∧ zs.length = kf.ks.length then (F.inib kf.c (kf.app ds zs) h).bind fun fs h3 => .ok (.ins kf.c fs) h3 else .bad := nd rfl
def propR (F : FTab) (x : D) (h : Cells) : Option Nat → Res D
  | some f => (F.call f [x] h).sure
  | none => .bad
@[simp] theorem e_propE (m : Nat) : evE F gl env (.prop a m) h = (evE F gl env a h).bind fun x h1 => propR F x h1 (propD F.tb (see h1 x) m) := by
  rw [evE]
  rfl
@[simp] theorem propR_some (x : D) (f : Nat) : propR F x h (some f) = (F.call f [x] h).sure := nd rfl
@[simp] theorem sure_ok (d : D) : (Res.ok d h).sure = .ok d h := nd rfl
@[simp] theorem propD_ins (t : Tb) (c m : Nat) (fs : List (Nat × D)) : propD t (.ins c fs) m = t.pt c m := nd rfl
@[simp] theorem base_makek (r : Res D) (k : Nat) (ks : CEs) : based env (.makek k as ks) h r = r := nd rfl
@[simp] theorem wkd_makek (r : Res D) (k : Nat) (ks : CEs) : walked env (.makek k as ks) h r = r := nd rfl
@[simp] theorem lent_makek (r : Res D) (k : Nat) (ks : CEs) : lent env (.makek k as ks) h r = arD r := nd rfl
@[simp] theorem own_makek (k : Nat) (ks : CEs) : isOwn env (.makek k as ks) = false := nd rfl
@[simp] theorem base_prop (r : Res D) (m : Nat) : based env (.prop a m) h r = r := nd rfl
@[simp] theorem wkd_prop (r : Res D) (m : Nat) : walked env (.prop a m) h r = r := nd rfl
@[simp] theorem lent_prop (r : Res D) (m : Nat) : lent env (.prop a m) h r = arD r := nd rfl
@[simp] theorem own_prop (m : Nat) : isOwn env (.prop a m) = false := nd rfl
@[simp] theorem e_revE : evE F gl env (.rev a) h = (based env a h (evE F gl env a h)).bind fun x h1 => lift (revD (see h1 x)) h1 := nd rfl
@[simp] theorem rev_lst (ds : List D) : revD (.lst ds) = some (.lst ds.reverse) := nd rfl
def exIsR (F : FTab) (h : Cells) (t : Xt) : Option Sl → Res D
  | some (.ex x) => if x.fs.isEmpty then lift ((F.tb.xi x.c t).map .bl) h else .bad
  | _ => .bad
@[simp] theorem e_exIsE (i : Nat) (t : Xt) : evE F gl env (.exIs i t) h = exIsR F h t env[i]? := by
  rw [evE]
  unfold exIsR
  rfl
@[simp] theorem exIs_nil (t : Xt) (k : Nat) : exIsR F h t (some (.ex ⟨k, []⟩)) = lift ((F.tb.xi k t).map .bl) h := nd rfl
def exFldR (F : FTab) (h : Cells) (f : Nat) : Option Sl → Res D
  | some (.ex x) => if F.tb.xf x.c f then lift (x.fs.lookup f) h else .bad
  | _ => .bad
@[simp] theorem e_exFldE (i f : Nat) : evE F gl env (.exFld i f) h = exFldR F h f env[i]? := by
  rw [evE]
  unfold exFldR
  rfl
@[simp] theorem exFld_at (f k : Nat) (fs : List (Nat × D)) : exFldR F h f (some (.ex ⟨k, fs⟩)) = if F.tb.xf k f then lift (fs.lookup f) h else .bad := nd rfl
def lc2G (F : FTab) (gl : Nat → Option D) (env : En) (elt : CE) (own : List Nat) (t : Tg) (cond : CO) (vs1 : List Nat) (t1 : Tg) (src1 : CI) (cond1 : CO) (d : D) (h : Cells) : Res (List D) := match bindT t d (wipeE env own) with
        | some env' => (evC F gl env' cond h).bind fun b h => if b then (evI F gl env' src1 h).bind fun ds1 h => lcGo (lcG F gl env' elt vs1 t1 cond1) ds1 h else .ok [] h
        | none => .bad
theorem e_lc2E (own vs1 : List Nat) (t t1 : Tg) (src src1 : CI) (cond cond1 : CO) : evE F gl env (.lc2 a own t src cond vs1 t1 src1 cond1) h = (evI F gl env src h).bind fun ds h1 => if ds.length ≤ LIM then (lc2Go (lc2G F gl env a own t cond vs1 t1 src1 cond1) ds h1).bind fun r h2 => if r.length ≤ LIM then .ok (.lst r) h2 else .bad else .bad := nd rfl
@[simp] theorem e_rglE (t : Bool) (src : CI) : evE F gl env (.rgl t src) h = (evI F gl env src h).bind fun ds h1 => if ds.length ≤ LIM then .ok (if t then .tup ds else .lst ds) h1 else .bad := nd rfl
@[simp] theorem base_rgl (r : Res D) (t : Bool) (src : CI) : based env (.rgl t src) h r = r := nd rfl
@[simp] theorem wkd_rgl (r : Res D) (t : Bool) (src : CI) : walked env (.rgl t src) h r = r := nd rfl
@[simp] theorem lent_rgl (r : Res D) (t : Bool) (src : CI) : lent env (.rgl t src) h r = arD r := nd rfl
@[simp] theorem own_rgl (t : Bool) (src : CI) : isOwn env (.rgl t src) = false := nd rfl
@[simp] theorem sort_lst (ds : List D) : bltD .sorted [.lst ds] = (intsD ds).map fun is => .lst ((isort is).map .int) := nd rfl
@[simp] theorem sort_tup (ds : List D) : bltD .sorted [.tup ds] = (intsD ds).map fun is => .lst ((isort is).map .int) := nd rfl
@[simp] theorem base_lset (r : Res D)  : based env (.lset a) h r = r := nd rfl
@[simp] theorem wkd_lset (r : Res D)  : walked env (.lset a) h r = r := nd rfl
@[simp] theorem lent_lset (r : Res D)  : lent env (.lset a) h r = arD r := nd rfl
@[simp] theorem own_lset  : isOwn env (.lset a) = false := nd rfl
@[simp] theorem base_ssc (r : Res D) (own : List Nat) (tg : Tg) (src : CI) (cond : CO) : based env (.ssc a own tg src cond) h r = r := nd rfl
@[simp] theorem wkd_ssc (r : Res D) (own : List Nat) (tg : Tg) (src : CI) (cond : CO) : walked env (.ssc a own tg src cond) h r = r := nd rfl
@[simp] theorem lent_ssc (r : Res D) (own : List Nat) (tg : Tg) (src : CI) (cond : CO) : lent env (.ssc a own tg src cond) h r = arD r := nd rfl
@[simp] theorem own_ssc (own : List Nat) (tg : Tg) (src : CI) (cond : CO) : isOwn env (.ssc a own tg src cond) = false := nd rfl
@[simp] theorem base_cval (r : Res D) (k f : Nat) : based env (.cval k f) h r = r := nd rfl
@[simp] theorem wkd_cval (r : Res D) (k f : Nat) : walked env (.cval k f) h r = r := nd rfl
@[simp] theorem lent_cval (r : Res D) (k f : Nat) : lent env (.cval k f) h r = arD r := nd rfl
@[simp] theorem own_cval (k f : Nat) : isOwn env (.cval k f) = false := nd rfl
@[simp] theorem base_inD (r : Res D) (neg : Bool) (k d : Nat) : based env (.inD neg k d) h r = r := nd rfl
@[simp] theorem wkd_inD (r : Res D) (neg : Bool) (k d : Nat) : walked env (.inD neg k d) h r = r := nd rfl
@[simp] theorem lent_inD (r : Res D) (neg : Bool) (k d : Nat) : lent env (.inD neg k d) h r = arD r := nd rfl
@[simp] theorem own_inD (neg : Bool) (k d : Nat) : isOwn env (.inD neg k d) = false := nd rfl
@[simp] theorem base_lenO (r : Res D)  : based env (.lenO a) h r = r := nd rfl
@[simp] theorem wkd_lenO (r : Res D)  : walked env (.lenO a) h r = r := nd rfl
@[simp] theorem lent_lenO (r : Res D)  : lent env (.lenO a) h r = arD r := nd rfl
@[simp] theorem own_lenO  : isOwn env (.lenO a) = false := nd rfl
def lsetR : D → Cells → Res D
  | .str z, h => if unlike z then .ok (.int z.length) h else .bad
  | _, _ => .bad
@[simp] theorem lsetR_str (z : Str) : lsetR (.str z) h = if unlike z then .ok (.int z.length) h else .bad := nd rfl
@[simp] theorem e_lsetE : evE F gl env (.lset a) h = (evE F gl env a h).bind lsetR := by
  rw [evE]
  congr 1
  funext x h1
  cases x <;> rfl
theorem e_sscE (own : List Nat) (t : Tg) (src : CI) (cond : CO) : evE F gl env (.ssc a own t src cond) h = (evI F gl env src h).bind fun ds h1 => if ds.length ≤ 1000 then (lcGo (lcG F gl env a own t cond) ds h1).bind setR else .bad := nd rfl
@[simp] theorem e_cvalE (k f : Nat) : evE F gl env (.cval k f) h = lift (F.tb.cv k f) h := nd rfl
def inDR (neg : Bool) (h : Cells) : Option Sl → Option Sl → Res D
  | some (.key ks), some (.own (.dt kvs)) => .ok (.bl (if neg then !hasK ks kvs else hasK ks kvs)) h
  | _, _ => .bad
@[simp] theorem e_inDE (neg : Bool) (k d : Nat) : evE F gl env (.inD neg k d) h = inDR neg h env[k]? env[d]? := by
  rw [evE]
  unfold inDR
  rfl
@[simp] theorem inDR_at (neg : Bool) (ks : List Key) (kvs : List (List Key × D)) : inDR neg h (some (.key ks)) (some (.own (.dt kvs))) = .ok (.bl (if neg then !hasK ks kvs else hasK ks kvs)) h := nd rfl
def lenOR (F : FTab) (x : D) (h : Cells) : Option Nat → Res D
  | some f => (F.call f [x] h).sure.bind natR
  | none => .bad
@[simp] theorem e_lenOE : evE F gl env (.lenO a) h = (evE F gl env a h).bind fun x h1 => lenOR F x h1 (ownF F.tb .len (see h1 x)) := by
  rw [evE]
  rfl
@[simp] theorem lenOR_some (x : D) (f : Nat) : lenOR F x h (some f) = (F.call f [x] h).sure.bind natR := nd rfl
@[simp] theorem natR_int (i : Int) : natR (.int i) h = if 0 ≤ i && i < 2 ^ 40 then .ok (.int i) h else .bad := nd rfl
@[simp] theorem ownF_ins (t : Tb) (k : Dn) (c : Nat) (fs : List (Nat × D)) : ownF t k (.ins c fs) = t.ot c k := nd rfl
@[simp] theorem i_ownIE : evI F gl env (.ownI a) h = (evE F gl env a h).bind fun x h1 => lift (iterD F.tb (see h1 x)) h1 := nd rfl
theorem iter_ins {t : Tb} {c f : Nat} {fs : List (Nat × D)} {ds : List D} (e : t.itf c = some f) (e2 : fs.lookup f = some (.lst ds)) : iterD t (.ins c fs) = some ds := by
  show (match t.itf c with
    | some f => (match fs.lookup f with
      | some (.lst ds) => some ds
      | _ => none)
    | none => none) = _
  rw [e]
  show (match fs.lookup f with
      | some (.lst ds) => some ds
      | _ => none) = _
  rw [e2]
@[simp] theorem s_newDE (i : Nat) : evS F gl (.newD i) env h = .next (env.set i (.own (.dt []))) h := nd rfl
def setKO (i : Nat) (env : En) (n : Nat) (h1 : Cells) : Option (List Key) → Out
  | some ks => if n < 100 then .next (env.set i (.key ks)) h1 else .bad
  | none => .bad
@[simp] theorem s_setKE (i : Nat) : evS F gl (.setK i as) env h = (evEs F gl env as h).out env fun ds h1 => setKO i env ds.length h1 (keysD ds) := by
  rw [evS]
  rfl
@[simp] theorem setKO_some (i n : Nat) (ks : List Key) : setKO i env n h (some ks) = if n < 100 then .next (env.set i (.key ks)) h else .bad := nd rfl
def putDO (q : Nat) (env : En) (d : D) (h1 : Cells) : Option Sl → Option Sl → Out
  | some (.own (.dt kvs)), some (.key ks) => if kvs.length < LIM then .next (env.set q (.own (.dt (putKD kvs ks d)))) h1 else .bad
  | _, _ => .bad
@[simp] theorem s_putDE (q k : Nat) : evS F gl (.putD q k a) env h = (evE F gl env a h).out env fun d h1 => putDO q env d h1 env[q]? env[k]? := by
  rw [evS]
  rfl
@[simp] theorem putDO_at (q : Nat) (d : D) (kvs : List (List Key × D)) (ks : List Key) : putDO q env d h (some (.own (.dt kvs))) (some (.key ks)) = if kvs.length < LIM then .next (env.set q (.own (.dt (putKD kvs ks d)))) h else .bad := nd rfl
theorem appPop_at {q p n : Nat} {xs ds : List D} {j : Int} {h1 : Cells} (hq : env[q]? = some (.own (.lst xs))) (hp : env[p]? = some (.own (.lst ds))) (hne : q ≠ p) (he : evE F gl env a h = .ok (.int j) h1) (hx : L2.ixN ds.length j = some n) (hz : xs.length < LIM ∧ ds.length < LIM) :
    evS F gl (.appPop q p a) env h = .next ((env.set p (.own (.lst (ds.eraseIdx n)))).set q (.own (.lst (xs ++ [ds.getD n .non])))) h1 := by
  rw [evS, hq, hp]
  simp only [hne, if_false, he]
  rw [out_ok]
  show (match L2.ixN ds.length j with
          | some n => if xs.length < LIM ∧ ds.length < LIM then Out.next ((env.set p (.own (.lst (ds.eraseIdx n)))).set q (.own (.lst (xs ++ [ds.getD n .non])))) h1 else .bad
          | none => .bad) = _
  rw [hx]
  exact if_pos hz
theorem s_forEE (i x : Nat) (ss : CSs) : evS F gl (.forE i x a ss) env h = (walked env a h (evE F gl env a h)).out env fun d h1 => match d with
      | .lst ds => forGo (.tup [i, x]) (evSs F gl ss) (enumD 0 ds) env h1
      | _ => .bad := nd rfl
@[simp] theorem clr_key (ks : List Key) (env : En) : clrEx (.key ks :: env) = .key ks :: clrEx env := nd rfl
@[simp] theorem lt_strD (a b : Str) : opC .lt (.str a) (.str b) = some (decide (a.cps.toList < b.cps.toList)) := nd rfl
@[simp] theorem le_strD (a b : Str) : opC .le (.str a) (.str b) = some (!decide (b.cps.toList < a.cps.toList)) := nd rfl
@[simp] theorem gt_strD (a b : Str) : opC .gt (.str a) (.str b) = some (decide (b.cps.toList < a.cps.toList)) := nd rfl
@[simp] theorem ge_strD (a b : Str) : opC .ge (.str a) (.str b) = some (!decide (a.cps.toList < b.cps.toList)) := nd rfl
@[simp] theorem sort_str (x : Str) : bltD .sorted [.str x] = some (.lst ((csort x.cps.toList).map fun c => .str ⟨#[c]⟩)) := nd rfl
theorem bindT_name (i : Nat) (d : D) : bindT (.name i) d env = some (env.set i (.val d)) := nd rfl
@[simp] theorem fin_ret (d : D) : (Out.ret d h).fin = .ok d h := nd rfl
@[simp] theorem fin_next : (Out.next env h).fin = .ok .non h := nd rfl
end
@[simp] theorem lim_k (k : Nat) (h : k ≤ 16777216) : (k ≤ LIM) = True := eq_true h
@[simp] theorem cut_from1 (a : D) (r : List D) : cutD (a :: r) (some 1) none = r := by
  have e : HT.sIx (a :: r).length 0 (some 1) = 1 := by
    have := HT.sIx_nat (a :: r).length 0 1
    rw [show ((1 : Nat) : Int) = 1 from rfl] at this
    rw [this, List.length_cons]
    omega
  unfold cutD
  rw [e, HT.sIx_none]
  show r.take _ = r
  rw [List.length_cons, Nat.add_sub_cancel, List.take_length]
def CSs.hd : CSs → CS
  | .cons c _ => c
  | .nil => .pass
def CSs.tl : CSs → CSs
  | .cons _ c => c
  | .nil => .nil
def cStart : CSs := (.cons (.ret (.newc (.cons (.blt .list (.cons (.var 0) .nil)) (.cons (.cst (.int 0)) (.cons (.cst (.int 0)) (.cons (.cst (.int 0)) (.cons (.cst (.int 0)) (.cons (.cst (.bl false)) .nil)))))))) .nil)
def fStart : Fn := ⟨1, 1, cStart, false⟩
def cDraw : CSs := (.cons (.ite (.and (.cons (.cmp .eq (.sub (.var 0) (.cst (.int 3))) (.cst (.int 0))) (.cons (.cmp .lt (.sub (.var 0) (.cst (.int 1))) (.blt .len (.cons (.sub (.var 0) (.cst (.int 0))) .nil))) .nil))) (.cons (.setSub (.var 0) (.cst (.int 2)) (.blt .int (.cons (.sub (.sub (.var 0) (.cst (.int 0))) (.sub (.var 0) (.cst (.int 1)))) .nil))) (.cons (.setSub (.var 0) (.cst (.int 1)) (.bin .add (.sub (.var 0) (.cst (.int 1))) (.cst (.int 1)))) (.cons (.setSub (.var 0) (.cst (.int 3)) (.cst (.int 8))) (.cons (.setSub (.var 0) (.cst (.int 4)) (.cst (.int 0))) (.cons (.setSub (.var 0) (.cst (.int 5)) (.cmp .ge (.sub (.var 0) (.cst (.int 2))) (.bin .pow (.cst (.int 10)) (.cst (.int 18))))) (.cons (.ite (.sub (.var 0) (.cst (.int 5))) (.cons (.setSub (.var 0) (.cst (.int 3)) (.cst (.int 60))) .nil) .nil) .nil)))))) .nil) (.cons (.ite (.or (.cons (.cmp .eq (.sub (.var 0) (.cst (.int 3))) (.cst (.int 0))) (.cons (.cmp .lt (.var 1) (.cst (.int 2))) .nil))) (.cons (.ret (.cst (.int 0))) .nil) .nil) (.cons (.setSub (.var 0) (.cst (.int 3)) (.bin .sub (.sub (.var 0) (.cst (.int 3))) (.cst (.int 1)))) (.cons (.setSub (.var 0) (.cst (.int 4)) (.bin .add (.sub (.var 0) (.cst (.int 4))) (.cst (.int 1)))) (.cons (.ite (.sub (.var 0) (.cst (.int 5))) (.cons (.set 2 (.bin .mod (.blt .int (.cons (.sub (.var 0) (.cst (.int 2))) .nil)) (.var 1))) (.cons (.setSub (.var 0) (.cst (.int 2)) (.bin .fdiv (.blt .int (.cons (.sub (.var 0) (.cst (.int 2))) .nil)) (.var 1))) (.cons (.ite (.cmp .eq (.sub (.var 0) (.cst (.int 2))) (.cst (.int 0))) (.cons (.setSub (.var 0) (.cst (.int 3)) (.cst (.int 0))) .nil) .nil) (.cons (.ret (.var 2)) .nil)))) .nil) (.cons (.set 3 (.sub (.var 0) (.cst (.int 4)))) (.cons (.set 4 (.bin .mod (.blt .int (.cons (.bin .mul (.sub (.var 0) (.cst (.int 2))) (.cst (.int 48271))) .nil)) (.cst (.int 2147483647)))) (.cons (.set 4 (.bin .mod (.blt .int (.cons (.bin .mul (.var 4) (.bin .add (.bin .add (.bin .mul (.bin .mul (.cst (.int 69621)) (.var 3)) (.var 3)) (.bin .mul (.cst (.int 40014)) (.var 3))) (.cst (.int 1)))) .nil)) (.cst (.int 2147483399)))) (.cons (.ret (.bin .mod (.blt .int (.cons (.var 4) .nil)) (.var 1))) .nil)))))))))
def fDraw : Fn := ⟨2, 5, cDraw, false⟩
end Rf
set_option Elab.async false
set_option linter.all false
set_option maxRecDepth 100000
set_option maxHeartbeats 800000
/-! G22: the laws own draws -/
namespace Rf
open PySem L2
def drawCell (ns : List Int) (p c l k : Int) (wd : Bool) : Ob := .lst [.lst (ns.map .int), .int p, .int c, .int l, .int k, .bl wd]
structure DrawIn (p l k : Int) : Prop where
  hp : 0 ≤ p
  hl : 0 ≤ l
  hk : 0 ≤ k
  hs : l + k ≤ 60
section
variable (F : FTab) (gl : Nat → Option D)
theorem pow18 : opB .pow (.int 10) (.int 18) = some (.int 1000000000000000000) := rfl
def envDraw (lim : Int) : En := [.val (.cell 0), .val (.int lim), .no, .no, .no]
theorem refill {ns : List Int} {p c l k lim : Int} {wd : Bool} {hs : Cells} (q : DrawIn p l k) : ∃ p' c' l' k' wd', DrawIn p' l' k' ∧ evS F gl cDraw.hd (envDraw lim) (some (drawCell ns p c l k wd) :: hs) = .next (envDraw lim) (some (drawCell ns p' c' l' k' wd') :: hs) := by
  obtain ⟨q1, q2, q3, q4⟩ := q
  by_cases h0 : l = 0
  · subst h0
    by_cases hp : p < (ns.length : Int)
    · have hn : p.toNat < ns.length := by omega
      have hsub : subD (.lst (ns.map .int)) (.int p) = some (.int (ns[p.toNat])) := by
        have e : p = ((p.toNat : Nat) : Int) := by omega
        have e2 : subD (.lst (ns.map .int)) (.int p) = (ns.map D.int)[p.toNat]? := by
          conv => lhs; rw [e]
          exact atI_nat _ _
        rw [e2, List.getElem?_map, List.getElem?_eq_getElem hn]
        rfl
      by_cases hw : (1000000000000000000 : Int) ≤ ns[p.toNat]
      · refine ⟨p + 1, ns[p.toNat], 60, 0, true, ⟨by omega, by omega, by omega, by omega⟩, ?_⟩
        simp [cDraw, CSs.hd, envDraw, drawCell, hsub, hp, hw, pow18]
      · refine ⟨p + 1, ns[p.toNat], 8, 0, false, ⟨by omega, by omega, by omega, by omega⟩, ?_⟩
        simp [cDraw, CSs.hd, envDraw, drawCell, hsub, hp, hw, pow18]
    · refine ⟨p, c, 0, k, wd, ⟨by omega, by omega, by omega, by omega⟩, ?_⟩
      simp [cDraw, CSs.hd, envDraw, drawCell, hp]
  · refine ⟨p, c, l, k, wd, ⟨by omega, by omega, by omega, by omega⟩, ?_⟩
    simp [cDraw, CSs.hd, envDraw, drawCell, h0]
theorem rest0 {ns : List Int} {p c k lim l : Int} {wd : Bool} {hs : Cells} (h : l = 0 ∨ lim < 2) : evSs F gl cDraw.tl (envDraw lim) (some (drawCell ns p c l k wd) :: hs) = .ret (.int 0) (some (drawCell ns p c l k wd) :: hs) := by
  by_cases h0 : l = 0
  · simp [cDraw, CSs.tl, envDraw, drawCell, h0]
  · have h1 : lim < 2 := by omega
    simp [cDraw, CSs.tl, envDraw, drawCell, h0, h1]
theorem rest1 {ns : List Int} {p c k lim l : Int} {wd : Bool} {hs : Cells} (q : DrawIn p l k) (h : l ≠ 0) (h2 : 2 ≤ lim) (h3 : lim < 2 ^ 62) :
    ∃ v p' c' l' k' wd', DrawIn p' l' k' ∧ 0 ≤ v ∧ v < lim ∧ evSs F gl cDraw.tl (envDraw lim) (some (drawCell ns p c l k wd) :: hs) = .ret (.int v) (some (drawCell ns p' c' l' k' wd') :: hs) := by
  obtain ⟨q1, q2, q3, q4⟩ := q
  have e1 : ¬ lim < 2 := by omega
  have e2 : 0 < lim := by omega
  have e3 : lim.natAbs < 2 ^ 63 := by omega
  cases wd with
  | true =>
    have v1 := Int.emod_nonneg c (by omega : lim ≠ 0)
    have v2 := Int.emod_lt_of_pos c e2
    by_cases hz : c / lim = 0
    · refine ⟨c % lim, p, 0, 0, k + 1, true, ⟨by omega, by omega, by omega, by omega⟩, v1, v2, ?_⟩
      simp [cDraw, CSs.tl, envDraw, drawCell, h, e1, mod_int e2, fdiv_int e2 e3, hz]
    · refine ⟨c % lim, p, c / lim, l - 1, k + 1, true, ⟨by omega, by omega, by omega, by omega⟩, v1, v2, ?_⟩
      simp [cDraw, CSs.tl, envDraw, drawCell, h, e1, mod_int e2, fdiv_int e2 e3, hz]
  | false =>
    have m1 : opB .mul (.int c) (.int 48271) = some (.int (c * 48271)) := mul_intr (by decide)
    have m2 : ∀ a : Int, opB .mod (.int a) (.int 2147483647) = some (.int (a % 2147483647)) := fun a => mod_int (by decide)
    have m3 : ∀ a : Int, opB .mod (.int a) (.int 2147483399) = some (.int (a % 2147483399)) := fun a => mod_int (by decide)
    have m4 : opB .mul (.int 69621) (.int (k + 1)) = some (.int (69621 * (k + 1))) := mul_intl (by decide)
    have m5 : opB .mul (.int (69621 * (k + 1))) (.int (k + 1)) = some (.int (69621 * (k + 1) * (k + 1))) := mul_intr (by omega)
    have m6 : opB .mul (.int 40014) (.int (k + 1)) = some (.int (40014 * (k + 1))) := mul_intl (by decide)
    have m7 : ∀ b : Int, opB .mul (.int (c * 48271 % 2147483647)) (.int b) = some (.int (c * 48271 % 2147483647 * b)) := fun b => mul_intl (by omega)
    refine ⟨(c * 48271 % 2147483647 * (69621 * (k + 1) * (k + 1) + 40014 * (k + 1) + 1) % 2147483399) % lim, p, c, l - 1, k + 1, false, ⟨by omega, by omega, by omega, by omega⟩, Int.emod_nonneg _ (by omega : lim ≠ 0), Int.emod_lt_of_pos _ e2, ?_⟩
    simp [cDraw, CSs.tl, envDraw, drawCell, h, e1, mod_int e2, m1, m2, m3, m4, m5, m6, m7]
/-- a draw below lim -/
theorem draw_ok {ns : List Int} {p c l k lim : Int} {wd : Bool} {hs : Cells} (q : DrawIn p l k) (h2 : 1 ≤ lim) (h3 : lim < 2 ^ 62) :
    ∃ v p' c' l' k' wd', DrawIn p' l' k' ∧ 0 ≤ v ∧ v < lim ∧ runFn F gl fDraw [.cell 0, .int lim] (some (drawCell ns p c l k wd) :: hs) = .ok (.int v) (some (drawCell ns p' c' l' k' wd') :: hs) := by
  have e : ∀ h, runFn F gl fDraw [.cell 0, .int lim] h = (seqO F gl (evS F gl cDraw.hd (envDraw lim) h) cDraw.tl).fin := fun h => rfl
  rw [e]
  obtain ⟨p1, c1, l1, k1, w1, q1, e1⟩ := refill F gl (ns := ns) (c := c) (lim := lim) (wd := wd) (hs := hs) q
  rw [e1, seq_next]
  by_cases h : l1 = 0 ∨ lim < 2
  · refine ⟨0, p1, c1, l1, k1, w1, q1, by omega, by omega, ?_⟩
    rw [rest0 F gl h]
    rfl
  · obtain ⟨v, p2, c2, l2, k2, w2, q2, v1, v2, e2⟩ := rest1 F gl (ns := ns) (c := c1) (lim := lim) (wd := w1) (hs := hs) q1 (by omega) (by omega) h3
    refine ⟨v, p2, c2, l2, k2, w2, q2, v1, v2, ?_⟩
    rw [e2]
    rfl
theorem start_ok {ns : List Int} {hs : Cells} : runFn F gl fStart [.lst (ns.map .int)] [] = .ok (.cell 0) [some (drawCell ns 0 0 0 0 false)] := by
  rfl
end
end Rf
set_option Elab.async false
set_option linter.all false
set_option maxRecDepth 100000
set_option maxHeartbeats 800000
/-! G23: _law_same says yes of the same -/
namespace Rf
open PySem L2
def cSame (si : Nat) : CSs := (.cons (.ite (.cmp .is (.var 1) (.cst .non)) (.cons (.ret (.cmp .is (.var 0) (.cst .non))) .nil) .nil) (.cons (.ite (.isi (.var 1) .bool) (.cons (.ret (.and (.cons (.isi (.var 0) .bool) (.cons (.cmp .eq (.var 0) (.var 1)) .nil)))) .nil) .nil) (.cons (.ite (.isi (.var 1) .int) (.cons (.ret (.and (.cons (.isi (.var 0) .int) (.cons (.not (.isi (.var 0) .bool)) (.cons (.cmp .eq (.var 0) (.var 1)) .nil))))) .nil) .nil) (.cons (.ite (.isi (.var 1) .str) (.cons (.ret (.and (.cons (.isi (.var 0) .str) (.cons (.cmp .eq (.var 0) (.var 1)) .nil)))) .nil) .nil) (.cons (.ite (.isi (.var 1) .list) (.cons (.ite (.not (.isi (.var 0) .list)) (.cons (.ret (.cst (.bl false))) .nil) .nil) .nil) (.cons (.ite (.not (.isi (.var 0) .tuple)) (.cons (.ret (.cst (.bl false))) .nil) .nil) .nil)) (.cons (.ite (.cmp .ne (.blt .len (.cons (.var 0) .nil)) (.blt .len (.cons (.var 1) .nil))) (.cons (.ret (.cst (.bl false))) .nil) .nil) (.cons (.for_ (.name 2) (.rng1 (.blt .len (.cons (.var 1) .nil))) (.cons (.ite (.not (.call si (.cons (.sub (.var 0) (.var 2)) (.cons (.sub (.var 1) (.var 2)) .nil)))) (.cons (.ret (.cst (.bl false))) .nil) .nil) .nil)) (.cons (.ret (.cst (.bl true))) .nil))))))))
def fSame (si : Nat) : Fn := ⟨2, 3, cSame si, false⟩
/-- plain data, so deep -/
def plnD : Nat → D → Bool
  | _, .non => true
  | _, .bl _ => true
  | _, .int _ => true
  | _, .str x => SeqAt.shaped (.str x)
  | n + 1, .tup ds => decide (ds.length ≤ LIM) && ds.all (plnD n)
  | n + 1, .lst ds => decide (ds.length ≤ LIM) && ds.all (plnD n)
  | _, _ => false
theorem plnD_mono : ∀ {n m : Nat} {d : D}, plnD n d = true → n ≤ m → plnD m d = true
  | n, m, .non, _, _ => by cases m <;> rfl
  | n, m, .bl _, _, _ => by cases m <;> rfl
  | n, m, .int _, _, _ => by cases m <;> rfl
  | n, m, .str x, h, _ => by
    have e : ∀ k, plnD k (.str x) = SeqAt.shaped (.str x) := fun k => by cases k <;> rfl
    rw [e] at h ⊢
    exact h
  | n + 1, m + 1, .tup ds, h, l => by
    rw [plnD, Bool.and_eq_true] at h ⊢
    exact ⟨h.1, List.all_eq_true.mpr fun d hd => plnD_mono (List.all_eq_true.mp h.2 d hd) (by omega)⟩
  | n + 1, m + 1, .lst ds, h, l => by
    rw [plnD, Bool.and_eq_true] at h ⊢
    exact ⟨h.1, List.all_eq_true.mpr fun d hd => plnD_mono (List.all_eq_true.mp h.2 d hd) (by omega)⟩
  | 0, m, .tup ds, h, l => by cases h
  | 0, m, .lst ds, h, l => by cases h
  | 0, m, .dk ds, h, l => by cases h
  | 0, m, .dt ds, h, l => by cases h
  | 0, m, .ins _ _, h, l => by cases h
  | 0, m, .cell _, h, l => by cases h
  | n + 1, m, .dk ds, h, l => by cases h
  | n + 1, m, .dt ds, h, l => by cases h
  | n + 1, m, .ins _ _, h, l => by cases h
  | n + 1, m, .cell _, h, l => by cases h
/-- a loop whose turns only go on -/
theorem for_all {t : Tg} {f : En → Cells → Out} {h : Cells} (P : En → Prop) : ∀ {ds : List D} {env : En}, P env → (∀ d ∈ ds, ∀ env, P env → ∃ e1 e2, bindT t d env = some e1 ∧ f e1 h = .next e2 h ∧ P e2) → ∃ e', forGo t f ds env h = .next e' h ∧ P e'
  | [], env, hP, _ => ⟨env, rfl, hP⟩
  | d :: ds, env, hP, st => by
    obtain ⟨e1, e2, h1, h2, h3⟩ := st d (List.mem_cons_self ..) env hP
    obtain ⟨e', h4, h5⟩ := for_all P (ds := ds) h3 fun x hx => st x (List.mem_cons_of_mem _ hx)
    refine ⟨e', ?_, h5⟩
    unfold forGo
    simp only [h1, h2]
    exact h4
theorem eqD_bl (b : Bool) : eqD (.bl b) (.bl b) = some true := by cases b <;> rfl
theorem eqD_str {x y : Str} (h : SeqAt.shaped (.str x) = true) (h2 : SeqAt.shaped (.str y) = true) : eqD (.str x) (.str y) = some (x == y) := by
  show (if SeqAt.shaped (.str x) && SeqAt.shaped (.str y) then some _ else none) = _
  rw [h, h2]
  rfl
theorem rng_ok {n : Nat} (h : n ≤ LIM) : rngD 0 (n : Int) = some ((List.range n).map fun (k : Nat) => .int k) := by
  have h' : n ≤ 16777216 := h
  have c : (decide (-(2 ^ 40) ≤ (0 : Int)) && decide ((0 : Int) < 2 ^ 40) && decide (-(2 ^ 40) ≤ (n : Int)) && decide ((n : Int) < 2 ^ 40)) = true := by
    rw [Bool.and_eq_true, Bool.and_eq_true, Bool.and_eq_true]
    refine ⟨⟨⟨by decide, by decide⟩, decide_eq_true (by omega)⟩, decide_eq_true (by omega)⟩
  unfold rngD
  rw [if_pos c, Int.sub_zero, Int.toNat_natCast]
  simp only [Int.zero_add]
section
variable {F : FTab} {gl : Nat → Option D} {si : Nat}
def bSame (si : Nat) : CSs := .cons (.ite (.not (.call si (.cons (.sub (.var 0) (.var 2)) (.cons (.sub (.var 1) (.var 2)) .nil)))) (.cons (.ret (.cst (.bl false))) .nil) .nil) .nil
theorem same_turn {d x s : D} {k : Nat} {h : Cells} (hsee : see h d = d) (hs : subD d (.int k) = some x) (ih : F.call si [x, x] h = .ok (.bl true) h) : evSs F gl (bSame si) [.val d, .val d, .val (.int k)] h = .next [.val d, .val d, .val (.int k)] h := by
  simp [bSame, hsee, hs, ih]
theorem same_loop {ds : List D} {h : Cells} {d : D} (hsee : see h d = d) (hsub : ∀ k, subD d (.int (k : Nat)) = ds[k]?) (ih : ∀ x ∈ ds, F.call si [x, x] h = .ok (.bl true) h) (s : Sl) : ∃ s', forGo (.name 2) (evSs F gl (bSame si)) ((List.range ds.length).map fun (k : Nat) => .int k) [.val d, .val d, s] h = .next [.val d, .val d, s'] h := by
  obtain ⟨e', h1, s', rfl⟩ := for_all (t := .name 2) (f := evSs F gl (bSame si)) (h := h) (fun e => ∃ s, e = [.val d, .val d, s]) (ds := (List.range ds.length).map fun (k : Nat) => .int k) ⟨s, rfl⟩ fun x hx env ⟨s, e⟩ => by
    obtain ⟨k, hk, rfl⟩ := List.mem_map.mp hx
    have hk' : k < ds.length := List.mem_range.mp hk
    subst e
    have hs : subD d (.int k) = some ds[k] := by rw [hsub, List.getElem?_eq_getElem hk']
    exact ⟨_, _, rfl, same_turn (s := d) hsee hs (ih ds[k] (List.getElem_mem hk')), _, rfl⟩
  exact ⟨s', h1⟩
theorem out_to {α : Type} {r : Res α} {a : α} {h : Cells} {env : En} {k : α → Cells → Out} {o : Out} (e : r = .ok a h) (q : k a h = o) : r.out env k = o := by
  rw [e, out_ok, q]
theorem rng_len {n : Nat} {h : Cells} (hl : n ≤ LIM) : rngR1 (.int (n : Nat)) h = .ok ((List.range n).map fun (k : Nat) => .int k) h := by
  rw [rngR1_int, rng_ok hl, lift_some]
theorem same_for {ds : List D} {h : Cells} {d : D} {s : Sl} {e : En} (hlen : bltD .len [see h d] = some (.int ds.length)) (hl : ds.length ≤ LIM) (hs : forGo (.name 2) (evSs F gl (bSame si)) ((List.range ds.length).map fun (k : Nat) => .int k) [.val d, .val d, s] h = .next e h) :
    evS F gl (.for_ (.name 2) (.rng1 (.blt .len (.cons (.var 1) .nil))) (bSame si)) [.val d, .val d, s] h = .next e h := by
  have e0 : evE F gl [.val d, .val d, s] (.blt .len (.cons (.var 1) .nil)) h = .ok (.int ds.length) h := by
    simp only [e_bltE, bs_consE, bs_nilE, e_varE, base_var, List.getElem?_cons_zero, List.getElem?_cons_succ, slR_val, Res.bind_ok, List.map_cons, List.map_nil, hlen, lift_some]
  have e1 : evI F gl [.val d, .val d, s] (.rng1 (.blt .len (.cons (.var 1) .nil))) h = rngR1 (.int (ds.length : Nat)) h := by
    rw [i_rng1E, e0]
    exact Res.bind_ok _ _ _
  rw [s_forE]
  exact out_to (e1.trans (rng_len hl)) hs
theorem same_seq {ds : List D} {h : Cells} {d : D} (hd : d = .tup ds ∨ d = .lst ds) (hl : ds.length ≤ LIM) (ih : ∀ x ∈ ds, F.call si [x, x] h = .ok (.bl true) h) : runFn F gl (fSame si) [d, d] h = .ok (.bl true) h := by
  have hsee : see h d = d := by rcases hd with rfl | rfl <;> rfl
  have hsub : ∀ k, subD d (.int (k : Nat)) = ds[k]? := fun k => by rcases hd with rfl | rfl <;> exact atI_nat ds k
  obtain ⟨s', hs'⟩ := same_loop (gl := gl) hsee hsub ih .no
  have hf := same_for (by rcases hd with rfl | rfl <;> rfl) hl hs'
  have e : runFn F gl (fSame si) [d, d] h = (evSs F gl (cSame si) [.val d, .val d, .no] h).fin := rfl
  rw [e]
  unfold bSame at hf
  rcases hd with rfl | rfl
  · simp [cSame, isNon, tyD, hf]
  · simp [cSame, isNon, tyD, hf]
theorem same_flat {h : Cells} {d : D} (hd : d = .non ∨ (∃ b, d = .bl b) ∨ (∃ i, d = .int i) ∨ ∃ x, d = .str x ∧ SeqAt.shaped (.str x) = true) : runFn F gl (fSame si) [d, d] h = .ok (.bl true) h := by
  have e : runFn F gl (fSame si) [d, d] h = (evSs F gl (cSame si) [.val d, .val d, .no] h).fin := rfl
  rw [e]
  rcases hd with rfl | ⟨b, rfl⟩ | ⟨i, rfl⟩ | ⟨x, rfl, hx⟩
  · simp [cSame, isNon]
  · simp [cSame, isNon, tyD, eqD_bl]
  · simp [cSame, isNon, tyD]
  · simp [cSame, isNon, tyD, eqD_str hx hx]
end
section
variable {gl : Nat → Option D} {fs : Nat → Option Fn} {tb : Tb} {si : Nat}
theorem call_fn {n f : Nat} {fn : Fn} (h : fs f = some fn) (ds : List D) (c : Cells) : (calls gl fs tb (n + 1)).call f ds c = runFn (calls gl fs tb n) gl fn ds c := by
  show (match fs f with | some fn => runFn (calls gl fs tb n) gl fn ds c | none => .bad) = _
  rw [h]
theorem same_ok (hs : fs si = some (fSame si)) : ∀ (n : Nat) (d : D), plnD n d = true → ∀ h, (calls gl fs tb (n + 1)).call si [d, d] h = .ok (.bl true) h
  | n, .non, _, h => by rw [call_fn hs]; exact same_flat (.inl rfl)
  | n, .bl b, _, h => by rw [call_fn hs]; exact same_flat (.inr (.inl ⟨b, rfl⟩))
  | n, .int b, _, h => by rw [call_fn hs]; exact same_flat (.inr (.inr (.inl ⟨b, rfl⟩)))
  | n, .str b, hp, h => by rw [call_fn hs]; exact same_flat (.inr (.inr (.inr ⟨b, rfl, by cases n <;> exact hp⟩)))
  | n + 1, .tup ds, hp, h => by
    rw [plnD, Bool.and_eq_true, decide_eq_true_eq] at hp
    rw [call_fn hs]
    exact same_seq (.inl rfl) hp.1 fun x hx => same_ok hs n x (List.all_eq_true.mp hp.2 x hx) h
  | n + 1, .lst ds, hp, h => by
    rw [plnD, Bool.and_eq_true, decide_eq_true_eq] at hp
    rw [call_fn hs]
    exact same_seq (.inr rfl) hp.1 fun x hx => same_ok hs n x (List.all_eq_true.mp hp.2 x hx) h
  | 0, .tup ds, hp, h => by cases hp
  | 0, .lst ds, hp, h => by cases hp
  | 0, .dk _, hp, h => by cases hp
  | 0, .dt _, hp, h => by cases hp
  | 0, .ins _ _, hp, h => by cases hp
  | 0, .cell _, hp, h => by cases hp
  | n + 1, .dk _, hp, h => by cases hp
  | n + 1, .dt _, hp, h => by cases hp
  | n + 1, .ins _ _, hp, h => by cases hp
  | n + 1, .cell _, hp, h => by cases hp
theorem same_le {m n : Nat} {d : D} {h : Cells} (hs : fs si = some (fSame si)) (hp : plnD m d = true) (l : m < n) : (calls gl fs tb n).call si [d, d] h = .ok (.bl true) h := by
  obtain ⟨k, rfl⟩ : ∃ k, n = k + 1 := ⟨n - 1, by omega⟩
  exact same_ok hs k d (plnD_mono hp (by omega)) h
end
end Rf
set_option Elab.async false
set_option linter.all false
set_option maxRecDepth 100000
set_option maxHeartbeats 2000000
/-! G24: reckoning, the tools for a law -/
namespace Rf
open PySem L2
/-! ### classes -/
@[simp] theorem attr_ins (t : Tb) (c f : Nat) (fs : List (Nat × D)) : attrD t (.ins c fs) f = if t.ft c f then fs.lookup f else none := nd rfl
@[simp] theorem meth_ins (t : Tb) (c m : Nat) (fs : List (Nat × D)) : methD t (.ins c fs) m = if (fs.lookup m).isNone then t.mt c m else none := nd rfl
@[simp] theorem see_ins (h : Cells) (c : Nat) (fs : List (Nat × D)) : see h (.ins c fs) = .ins c fs := nd rfl
@[simp] theorem look_nil (a : Nat) : List.lookup a ([] : List (Nat × D)) = none := nd rfl
@[simp] theorem look_cons (a k : Nat) (b : D) (es : List (Nat × D)) : List.lookup a ((k, b) :: es) = if a = k then some b else es.lookup a := by
  rw [List.lookup_cons]
  by_cases h : a = k
  · subst h; simp
  · rw [if_neg h, beq_eq_false_iff_ne.mpr h]
@[simp] theorem obD_ins (c : Nat) (fs : List (Nat × D)) : obD (.ins c fs) = .ins c fs := nd rfl
theorem hasTy_ins (c : Nat) (fs : List (Nat × D)) : hasTy (.ins c fs) = true := nd rfl
def setFldK (F : FTab) (q f : Nat) (env : En) (d : D) (h1 : Cells) : Option Sl → Out
  | some (.own (.ins c fs)) => if F.tb.ft c f && decide (fs.length < 900) then .next (env.set q (.own (.ins c (putD f d fs)))) h1 else .bad
  | some (.val (.cell k)) => (match h1[k]? with
          | some (some (.ins c fs)) => if F.tb.ft c f && decide (fs.length < 900) then .next env (h1.set k (some (.ins c (putD f d fs)))) else .bad
          | _ => .bad)
  | _ => .bad
@[simp] theorem setFldE (F : FTab) (q f : Nat) (env : En) (d : D) (h1 : Cells) : setFldO F q f env d h1 = setFldK F q f env d h1 env[q]? := by
  unfold setFldO setFldK
  rfl
@[simp] theorem setFldK_own (F : FTab) (q f c : Nat) (env : En) (d : D) (h1 : Cells) (fs : List (Nat × D)) : setFldK F q f env d h1 (some (.own (.ins c fs))) = if F.tb.ft c f && decide (fs.length < 900) then .next (env.set q (.own (.ins c (putD f d fs)))) h1 else .bad := nd rfl
@[simp] theorem putD_nil (f : Nat) (d : D) : putD f d [] = [(f, d)] := nd rfl
@[simp] theorem putD_cons (f g : Nat) (d x : D) (r : List (Nat × D)) : putD f d ((g, x) :: r) = if g = f then (g, d) :: r else (g, x) :: putD f d r := nd rfl
@[simp] theorem fini_next (c k : Nat) (fs : List (Nat × D)) (r : En) (h : Cells) : (Out.next (.own (.ins k fs) :: r) h).fini c = if k = c then .ok fs h else .bad := nd rfl
@[simp] theorem fini_exc (c : Nat) (x : Exn) (env : En) (h : Cells) : (Out.exc x env h).fini c = .exc x h := nd rfl
section
variable {gl : Nat → Option D} {fs : Nat → Option Fn} {tb : Tb}
@[simp] theorem calls_tb (n : Nat) : (calls gl fs tb n).tb = tb := by cases n <;> rfl
theorem call_ini {n c f : Nat} {fn : Fn} (hi : tb.it c = some f) (hf : fs f = some fn) (ds : List D) (h : Cells) : (calls gl fs tb (n + 1)).ini c ds h = runIni (calls gl fs tb n) gl fn c ds h := by
  show (match tb.it c with
    | some f => (match fs f with
      | some fn => runIni (calls gl fs tb n) gl fn c ds h
      | none => .bad)
    | none => .bad) = _
  rw [hi]
  simp only [hf]
theorem run_ini {F : FTab} {f : Fn} {c : Nat} {ds : List D} {h : Cells} (e : ds.length + 1 = f.np) : runIni F gl f c ds h = (evSs F gl f.body (.own (.ins c []) :: start (f.nn - 1) ds) h).fini c := by
  unfold runIni
  rw [if_pos e]
theorem call_run {n f : Nat} {fn : Fn} {ds : List D} {h : Cells} (hf : fs f = some fn) (hv : fn.va = false) (e : ds.length = fn.np) : (calls gl fs tb (n + 1)).call f ds h = (evSs (calls gl fs tb n) gl fn.body (start fn.nn ds) h).fin := by
  rw [call_fn hf, run_fn hv e]
theorem call_va {n f : Nat} {fn : Fn} {ds : List D} {h : Cells} (hf : fs f = some fn) (hv : fn.va = true) (e : fn.np ≤ ds.length + 1) (e2 : ds.length ≤ LIM) : (calls gl fs tb (n + 1)).call f ds h = (evSs (calls gl fs tb n) gl fn.body (start fn.nn (ds.take (fn.np - 1) ++ [.tup (ds.drop (fn.np - 1))])) h).fin := by
  rw [call_fn hf, run_va hv e e2]
end
/-! ### slices -/
theorem cut_from (ds : List D) (k : Nat) : cutD ds (some (k : Int)) none = ds.drop k := by
  unfold cutD
  rw [HT.sIx_nat, HT.sIx_none]
  have e : ds.drop (min k ds.length) = ds.drop k := by
    by_cases h : k ≤ ds.length
    · rw [Nat.min_eq_left h]
    · rw [Nat.min_eq_right (by omega), List.drop_eq_nil_of_le (Nat.le_refl _), List.drop_eq_nil_of_le (by omega)]
  rw [e]
  apply List.take_of_length_le
  rw [List.length_drop]
  omega
theorem cut_to (ds : List D) (k : Nat) : cutD ds none (some (k : Int)) = ds.take k := by
  unfold cutD
  rw [HT.sIx_nat, HT.sIx_none, List.drop_zero, Nat.sub_zero]
  by_cases h : k ≤ ds.length
  · rw [Nat.min_eq_left h]
  · rw [Nat.min_eq_right (by omega), List.take_of_length_le (Nat.le_refl _), List.take_of_length_le (by omega)]
theorem slice_from (ds : List D) (k : Nat) : sliceD (.lst ds) (some (k : Int)) none = some (.lst (ds.drop k)) := congrArg (fun x => some (D.lst x)) (cut_from ds k)
theorem slice_to (ds : List D) (k : Nat) : sliceD (.lst ds) none (some (k : Int)) = some (.lst (ds.take k)) := congrArg (fun x => some (D.lst x)) (cut_to ds k)
@[simp] theorem slice_fromL (ds : List D) (k : Nat) : sliceD (.lst ds) (some (no_index (@OfNat.ofNat Int k instOfNat))) none = some (.lst (ds.drop k)) := slice_from ds k
@[simp] theorem slice_toL (ds : List D) (k : Nat) : sliceD (.lst ds) none (some (no_index (@OfNat.ofNat Int k instOfNat))) = some (.lst (ds.take k)) := slice_to ds k
theorem sub_nat (ds : List D) (k : Nat) : subD (.lst ds) (.int (k : Int)) = ds[k]? := atI_nat ds k
theorem subT_nat (ds : List D) (k : Nat) : subD (.tup ds) (.int (k : Int)) = ds[k]? := atI_nat ds k
theorem sub_int_at {ds : List D} {v : Int} (h0 : 0 ≤ v) : subD (.lst ds) (.int v) = ds[v.toNat]? := by
  have e : v = ((v.toNat : Nat) : Int) := by omega
  conv => lhs; rw [e]
  exact sub_nat ds _
/-! ### loops -/
/-- a loop by its invariant over what is gone through -/
theorem for_inv {t : Tg} {f : En → Cells → Out} (P : List D → En → Cells → Prop) : ∀ {ds pre : List D} {env : En} {h : Cells}, P pre env h → (∀ pre d post env h, pre ++ d :: post = pre ++ d :: post → P pre env h → d ∈ ds → ∃ e1 e2 h2, bindT t d env = some e1 ∧ (f e1 h = .next e2 h2 ∨ f e1 h = .cont e2 h2) ∧ P (pre ++ [d]) e2 h2) → ∃ e' h', forGo t f ds env h = .next e' h' ∧ P (pre ++ ds) e' h'
  | [], pre, env, h, hP, _ => ⟨env, h, rfl, by rw [List.append_nil]; exact hP⟩
  | d :: ds, pre, env, h, hP, st => by
    obtain ⟨e1, e2, h2, b1, b2, b3⟩ := st pre d ds env h rfl hP (List.mem_cons_self ..)
    obtain ⟨e', h', h4, h5⟩ := for_inv P (ds := ds) b3 fun pre x post env h _ hP hx => st pre x post env h rfl hP (List.mem_cons_of_mem _ hx)
    refine ⟨e', h', ?_, by rw [List.append_assoc] at h5; exact h5⟩
    unfold forGo
    rw [b1]
    rcases b2 with b2 | b2
    · simp only [b2]; exact h4
    · simp only [b2]; exact h4
/-- a comprehension whose elements leave the cells -/
theorem lc_map {f : D → Cells → Res (Option D)} {h : Cells} (g : D → Option D) : ∀ {ds : List D}, (∀ d ∈ ds, f d h = .ok (g d) h) → lcGo f ds h = .ok (ds.filterMap g) h
  | [], _ => rfl
  | d :: ds, hd => by
    have e1 := hd d (List.mem_cons_self ..)
    have e2 := lc_map g (ds := ds) fun x hx => hd x (List.mem_cons_of_mem _ hx)
    unfold lcGo
    simp only [e1, e2]
    cases q : g d with
    | none => rw [List.filterMap_cons_none q]
    | some x => rw [List.filterMap_cons_some q]
inductive All2 {α β : Type} (R : α → β → Prop) : List α → List β → Prop
  | nil : All2 R [] []
  | cons {a : α} {b : β} {as : List α} {bs : List β} : R a b → All2 R as bs → All2 R (a :: as) (b :: bs)
/-- a comprehension whose elements change the cells: each a datum -/
theorem lc_each {f : D → Cells → Res (Option D)} (S : Cells → Prop) (R : D → D → Prop) : ∀ {ds : List D} {h : Cells}, S h → (∀ d ∈ ds, ∀ h, S h → ∃ x h', f d h = .ok (some x) h' ∧ R d x ∧ S h') → ∃ xs h', lcGo f ds h = .ok xs h' ∧ S h' ∧ All2 R ds xs
  | [], h, hS, _ => ⟨[], h, rfl, hS, .nil⟩
  | d :: ds, h, hS, hd => by
    obtain ⟨x, h1, e1, r1, s1⟩ := hd d (List.mem_cons_self ..) h hS
    obtain ⟨xs, h2, e2, s2, r2⟩ := lc_each S R (ds := ds) s1 fun x hx => hd x (List.mem_cons_of_mem _ hx)
    refine ⟨x :: xs, h2, ?_, s2, .cons r1 r2⟩
    unfold lcGo
    simp only [e1, e2]
/-! ### the law -/
/-- the rest of the law says True -/
def RetT (F : FTab) (gl : Nat → Option D) (ss : CSs) (env : En) (h : Cells) : Prop := ∃ c, evSs F gl ss env h = .ret (.bl true) c
section
variable {F : FTab} {gl : Nat → Option D} {ss : CSs} {env : En} {h h' : Cells}
theorem RetT.step {s : CS} {env' : En} (he : evS F gl s env h = .next env' h') (k : RetT F gl ss env' h') : RetT F gl (.cons s ss) env h := by
  obtain ⟨c, hc⟩ := k
  refine ⟨c, ?_⟩
  rw [ss_consE, he, seq_next, hc]
theorem RetT.set {i : Nat} {e : CE} {d : D} (he : evE F gl env e h = .ok d h') (k : RetT F gl ss (env.set i (.val d)) h') : RetT F gl (.cons (.set i e) ss) env h := .step (by rw [s_setE, he, out_ok]) k
theorem RetT.for {b : CSs} {env' : En} {h2 : Cells} {t : Tg} {src : CI} {ds : List D} (he : evI F gl env src h = .ok ds h') (hf : forGo t (evSs F gl b) ds env h' = .next env' h2) (k : RetT F gl ss env' h2) : RetT F gl (.cons (.for_ t src b) ss) env h := .step (by rw [s_forE, he, out_ok, hf]) k
/-- if not .. : return False -/
theorem RetT.test {e : CE} {b : CSs} (he : (evE F gl env e h).test = .ok false h') (k : RetT F gl ss env h') : RetT F gl (.cons (.ite e b .nil) ss) env h := .step (by rw [s_iteE, he]; rfl) k
end
/-- the rest hands back -/
def RetP (F : FTab) (gl : Nat → Option D) (ss : CSs) (env : En) (h : Cells) (P : D → Cells → Prop) : Prop := ∃ d c, evSs F gl ss env h = .ret d c ∧ P d c
section
variable {F : FTab} {gl : Nat → Option D} {ss : CSs} {env : En} {h h' : Cells} {P : D → Cells → Prop}
theorem RetP.step {s : CS} {env' : En} (he : evS F gl s env h = .next env' h') (k : RetP F gl ss env' h' P) : RetP F gl (.cons s ss) env h P := by
  obtain ⟨d, c, hc, hp⟩ := k
  exact ⟨d, c, by rw [ss_consE, he, seq_next, hc], hp⟩
theorem RetP.ret {s : CS} {d : D} (he : evS F gl s env h = .ret d h') (k : P d h') : RetP F gl (.cons s ss) env h P := ⟨d, h', by rw [ss_consE, he, seq_ret], k⟩
theorem RetP.set {i : Nat} {e : CE} {d : D} (he : evE F gl env e h = .ok d h') (k : RetP F gl ss (env.set i (.val d)) h' P) : RetP F gl (.cons (.set i e) ss) env h P := .step (by rw [s_setE, he, out_ok]) k
theorem RetP.for {b : CSs} {env' : En} {h2 : Cells} {t : Tg} {src : CI} {ds : List D} (he : evI F gl env src h = .ok ds h') (hf : forGo t (evSs F gl b) ds env h' = .next env' h2) (k : RetP F gl ss env' h2 P) : RetP F gl (.cons (.for_ t src b) ss) env h P := .step (by rw [s_forE, he, out_ok, hf]) k
theorem RetP.test {e : CE} {b : CSs} (he : (evE F gl env e h).test = .ok false h') (k : RetP F gl ss env h' P) : RetP F gl (.cons (.ite e b .nil) ss) env h P := .step (by rw [s_iteE, he]; rfl) k
theorem RetP.fin {o : Out} (e : o = evSs F gl ss env h) (k : RetP F gl ss env h P) : ∃ d c, o.fin = .ok d c ∧ P d c := by
  obtain ⟨d, c, hc, hp⟩ := k
  exact ⟨d, c, by rw [e, hc]; rfl, hp⟩
end
/-- the draws' list -/
def DS (hs : Cells) (h : Cells) : Prop := ∃ ns p c l k wd, DrawIn p l k ∧ h = some (drawCell ns p c l k wd) :: hs
theorem draw {gl : Nat → Option D} {fs : Nat → Option Fn} {tb : Tb} {di : Nat} (hf : fs di = some fDraw) (n : Nat) {h hs : Cells} (q : DS hs h) {lim : Int} (h2 : 1 ≤ lim) (h3 : lim < 2 ^ 62) : ∃ v h', DS hs h' ∧ 0 ≤ v ∧ v < lim ∧ (calls gl fs tb (n + 1)).call di [.cell 0, .int lim] h = .ok (.int v) h' := by
  obtain ⟨ns, p, c, l, k, wd, q, rfl⟩ := q
  obtain ⟨v, p', c', l', k', wd', q', v0, v1, e⟩ := draw_ok (calls gl fs tb n) gl (ns := ns) (c := c) (wd := wd) (hs := hs) q h2 h3
  refine ⟨v, _, ⟨ns, p', c', l', k', wd', q', rfl⟩, v0, v1, ?_⟩
  rw [call_fn (fn := fDraw) hf]
  exact e
theorem start_at {gl : Nat → Option D} {fs : Nat → Option Fn} {tb : Tb} {si : Nat} (hf : fs si = some fStart) (n : Nat) (ns : List Int) : ∃ h', DS [] h' ∧ (calls gl fs tb (n + 1)).call si [.lst (ns.map .int)] [] = .ok (.cell 0) h' := by
  refine ⟨_, ⟨ns, 0, 0, 0, 0, false, ⟨by decide, by decide, by decide, by decide⟩, rfl⟩, ?_⟩
  rw [call_fn (fn := fStart) hf]
  exact start_ok (calls gl fs tb n) gl (hs := [])
theorem rng5 : rngD 0 5 = some [.int 0, .int 1, .int 2, .int 3, .int 4] := nd rfl
theorem rng6 : rngD 0 6 = some [.int 0, .int 1, .int 2, .int 3, .int 4, .int 5] := nd rfl
theorem cell_see0 {hs h : Cells} (q : DS hs h) : ∃ o, h = some o :: hs := by
  obtain ⟨_, _, _, _, _, _, _, e⟩ := q
  exact ⟨_, e⟩
@[simp] theorem lim_lt (k : Nat) (h : k < 16777216) : (k < LIM) = True := eq_true h
@[simp] theorem newOb_lst (ds : List D) : newOb (.lst ds) = some (.lst ds) := nd rfl
@[simp] theorem fresh_lst (as : CEs) : fresh (.lst as) = true := nd rfl
@[simp] theorem pow12 : opB .pow (.int 10) (.int 12) = some (.int 1000000000000) := rfl
@[simp] theorem max_ii (i j : Int) : bltD .max [.int i, .int j] = some (.int (if j > i then j else i)) := nd rfl
@[simp] theorem bool_bl (b : Bool) : bltD .bool [.bl b] = some (.bl b) := nd rfl
theorem lt_tt (a b : List D) : opC .lt (.tup a) (.tup b) = (match intsD a, intsD b with
    | some x, some y => some (HT.lexLt x y)
    | _, _ => none) := nd rfl
theorem ints2 (a b : Int) : intsD [.int a, .int b] = some [a, b] := nd rfl
end Rf
set_option Elab.async false
set_option linter.all false
set_option maxRecDepth 100000
set_option maxHeartbeats 2000000
/-! texts as lists of signs -/
namespace Rf
open PySem L2
def sL (l : List Nat) : Str := ⟨l.toArray⟩
theorem sL_eta (s : Str) : s = sL s.cps.toList := by
  obtain ⟨a⟩ := s
  simp [sL]
theorem cps_sL (l : List Nat) : (sL l).cps.toList = l := by simp [sL]
theorem len_sL (l : List Nat) : (sL l).length = l.length := by simp [sL, Str.length]
theorem cat_sL (a b : List Nat) : sL a ++ sL b = sL (a ++ b) := by
  show Str.append _ _ = _
  simp [Str.append, sL]
theorem sL_inj {a b : List Nat} : sL a = sL b ↔ a = b := by
  refine ⟨fun h => ?_, fun h => by rw [h]⟩
  have := congrArg (fun s : Str => s.cps.toList) h
  simpa [sL] using this
theorem cut_to_sL (l : List Nat) (k : Nat) : L2.cutS (sL l) none (some (k : Int)) = sL (l.take k) := by
  unfold L2.cutS
  rw [HT.sIx_nat, HT.sIx_none, cps_sL, len_sL, List.drop_zero, Nat.sub_zero]
  show sL _ = _
  rw [sL_inj]
  by_cases h : k ≤ l.length
  · rw [Nat.min_eq_left h]
  · rw [Nat.min_eq_right (by omega), List.take_of_length_le (Nat.le_refl _), List.take_of_length_le (by omega)]
theorem cut_from_sL (l : List Nat) (k : Nat) : L2.cutS (sL l) (some (k : Int)) none = sL (l.drop k) := by
  unfold L2.cutS
  rw [HT.sIx_nat, HT.sIx_none, cps_sL, len_sL]
  show sL _ = _
  rw [sL_inj]
  have e : l.drop (min k l.length) = l.drop k := by
    by_cases h : k ≤ l.length
    · rw [Nat.min_eq_left h]
    · rw [Nat.min_eq_right (by omega), List.drop_eq_nil_of_le (Nat.le_refl _), List.drop_eq_nil_of_le (by omega)]
  rw [e]
  apply List.take_of_length_le
  rw [List.length_drop]
  omega
theorem slice_to_sL (l : List Nat) (k : Nat) : sliceD (.str (sL l)) none (some (k : Int)) = some (.str (sL (l.take k))) := congrArg (fun x => some (D.str x)) (cut_to_sL l k)
theorem slice_from_sL (l : List Nat) (k : Nat) : sliceD (.str (sL l)) (some (k : Int)) none = some (.str (sL (l.drop k))) := congrArg (fun x => some (D.str x)) (cut_from_sL l k)
theorem slice_to_sLL (l : List Nat) (k : Nat) : sliceD (.str (sL l)) none (some (no_index (@OfNat.ofNat Int k instOfNat))) = some (.str (sL (l.take k))) := slice_to_sL l k
theorem slice_from_sLL (l : List Nat) (k : Nat) : sliceD (.str (sL l)) (some (no_index (@OfNat.ofNat Int k instOfNat))) none = some (.str (sL (l.drop k))) := slice_from_sL l k
theorem foldl_app (l : List Nat) : ∀ (n : Nat) (acc : Array Nat), ((List.replicate n l.toArray).foldl (· ++ ·) acc).toList = acc.toList ++ (List.replicate n l).flatten
  | 0, acc => by simp
  | n + 1, acc => by
    rw [List.replicate_succ, List.foldl_cons, foldl_app l n, List.replicate_succ, List.flatten_cons, Array.toList_append, List.append_assoc]
theorem mul_sL (l : List Nat) (n : Int) : Txt.mul (sL l) n = sL (List.replicate n.toNat l).flatten := by
  unfold Txt.mul
  split
  · rename_i h
    have e : n.toNat = 0 := by omega
    rw [e]
    rfl
  · rename_i h
    split
    · rename_i h2
      rw [Bool.or_eq_true, beq_iff_eq, beq_iff_eq, len_sL] at h2
      rcases h2 with h2 | h2
      · subst h2
        simp [List.replicate]
      · have e : l = [] := List.length_eq_zero_iff.mp h2
        subst e
        rw [sL_inj]
        simp
    · have := foldl_app l n.toNat #[]
      rw [sL_eta ⟨_⟩, sL_inj]
      show (List.foldl (· ++ ·) #[] (List.replicate n.toNat l.toArray)).toList = _
      rw [this]
      rfl
theorem mulS_sL (l : List Nat) {n : Int} (h0 : 0 ≤ n) (h1 : n ≤ 1000) (hl : l.length ≤ 1000) : opB .mul (.str (sL l)) (.int n) = some (.str (sL (List.replicate n.toNat l).flatten)) := by
  show (if _ then _ else _) = _
  rw [if_pos (by simp [h0, h1, len_sL, hl]), mul_sL]
theorem mulL_lst (l : List D) {n : Int} (h0 : 0 ≤ n) (h1 : n ≤ 1000) (hl : l.length ≤ 1000) : opB .mul (.lst l) (.int n) = some (.lst (List.replicate n.toNat l).flatten) := by
  show (if _ then _ else _) = _
  rw [if_pos (by simp [h0, h1, hl])]
theorem addS_sL {a b : List Nat} (h : a.length + b.length ≤ 16777216) : opB .add (.str (sL a)) (.str (sL b)) = some (.str (sL (a ++ b))) := by
  rw [add_str (by rw [len_sL, len_sL]; exact h), cat_sL]
def lowC (l : List Nat) : Bool := l.all fun c => decide (c < 1114112)
theorem shaped_sL {l : List Nat} (h : lowC l = true) : SeqAt.shaped (.str (sL l)) = true := by
  unfold SeqAt.shaped
  rw [PyData.canLay0, PyData.depth]
  simp only [lowC] at h
  simp [sL, PyData.strOk]
  simpa using h
theorem eq_sL {a b : List Nat} (ha : lowC a = true) (hb : lowC b = true) : eqD (.str (sL a)) (.str (sL b)) = some (decide (a = b)) := by
  unfold eqD
  rw [py, py]
  simp only [shaped_sL ha, shaped_sL hb, Bool.and_self, if_true, PyData.eqv]
  congr 1
  rw [Bool.eq_iff_iff, beq_iff_eq, decide_eq_true_eq, sL_inj]
theorem walk_sL (l : List Nat) : walkD (.str (sL l)) = some (l.map fun c => .str (sL [c])) := by
  rw [walk_strD, cps_sL]
  rfl
theorem sub_sL (l : List Nat) (k : Nat) : subD (.str (sL l)) (.int (k : Int)) = (l[k]?).map fun c => .str (sL [c]) := by
  show (atD (sL l).cps.toList (k : Int)).map (fun c => D.str ⟨#[c]⟩) = _
  rw [cps_sL]
  show (L2.atI l (k : Int)).map _ = _
  rw [atI_nat]
  rfl
theorem lenD_sL (l : List Nat) : bltD .len [.str (sL l)] = some (.int l.length) := by rw [len_str, len_sL]
theorem in_str (x y : Str) : isIn (.str x) (.str y) = some (!(Builtin.Str.occurrences y x 0 y.length 1).isEmpty) := nd rfl
/-- equal data, as data -/
theorem blsD_map (f : α → Bool) : ∀ l : List α, blsD (l.map fun x => .bl (f x)) = some (l.map f)
  | [] => rfl
  | a :: l => by
    show (blsD (l.map fun x => .bl (f x))).map (f a :: ·) = _
    rw [blsD_map f l]
    rfl
theorem intsD_map : ∀ l : List Int, intsD (l.map .int) = some l
  | [] => rfl
  | a :: l => by
    show (intsD (l.map .int)).map (a :: ·) = _
    rw [intsD_map l]
    rfl
/-- turns whose elements leave the cells, each a datum -/
theorem lc_all {f : D → Cells → Res (Option D)} {h : Cells} (g : α → D) (k : α → D) : ∀ {l : List α}, (∀ a ∈ l, f (g a) h = .ok (some (k a)) h) → lcGo f (l.map g) h = .ok (l.map k) h
  | [], _ => rfl
  | a :: l, hd => by
    rw [List.map_cons]
    unfold lcGo
    simp only [hd a (List.mem_cons_self ..), lc_all g k (l := l) fun x hx => hd x (List.mem_cons_of_mem _ hx)]
    rfl
/-- a comprehension that picks -/
theorem lc_filter {f : D → Cells → Res (Option D)} {h : Cells} (p : D → Bool) : ∀ {ds : List D}, (∀ d ∈ ds, f d h = .ok (if p d then some d else none) h) → lcGo f ds h = .ok (ds.filter p) h
  | [], _ => rfl
  | d :: ds, hd => by
    have e1 := hd d (List.mem_cons_self ..)
    have e2 := lc_filter p (ds := ds) fun x hx => hd x (List.mem_cons_of_mem _ hx)
    unfold lcGo
    simp only [e1, e2]
    cases q : p d with
    | true => rw [List.filter_cons_of_pos q]; rfl
    | false => rw [List.filter_cons_of_neg (by rw [q]; decide)]; rfl
theorem lc2_all {f : D → Cells → Res (List D)} {h : Cells} (g : α → D) (k : α → List D) : ∀ {l : List α}, (∀ a ∈ l, f (g a) h = .ok (k a) h) → lc2Go f (l.map g) h = .ok (l.map k).flatten h
  | [], _ => rfl
  | a :: l, hd => by
    rw [List.map_cons]
    unfold lc2Go
    simp only [hd a (List.mem_cons_self ..), lc2_all g k (l := l) fun x hx => hd x (List.mem_cons_of_mem _ hx)]
    rfl
theorem sliceL_to (ds : List D) (k : Nat) : sliceD (.lst ds) none (some (k : Int)) = some (.lst (ds.take k)) := slice_to ds k
theorem tup_tail (a : D) (ds : List D) : sliceD (.tup (a :: ds)) (some 1) none = some (.tup ds) := by
  show some (D.tup (cutD (a :: ds) (some 1) none)) = _
  rw [cut_from1]
theorem base_ok {env : En} {c : CE} {h : Cells} {d : D} (r : Res D) (e : r = .ok d h) (hc : ∀ i, c ≠ .var i) : based env c h r = .ok d h := by
  unfold based
  split
  · exact absurd rfl (hc _)
  · exact e
theorem rng_nat (k : Nat) (h : k < 1000000) : rngD 0 (k : Int) = some ((List.range k).map fun (j : Nat) => .int (j : Int)) := by
  unfold rngD
  rw [if_pos (by simp; omega)]
  simp
section
variable {gl : Nat → Option D} {fs : Nat → Option Fn} {tb : Tb}
theorem startB_d (n : Nat) (ds : List D) : startB n (ds.map .d) = start n ds := by
  unfold startB start
  rw [List.map_map, List.length_map]
  rfl
theorem callb_run {n f : Nat} {fn : Fn} {as : List Ar} {h : Cells} (hf : fs f = some fn) (hv : fn.va = false) (e : as.length = fn.np) : (calls gl fs tb (n + 1)).callb f as h = (evSs (calls gl fs tb n) gl fn.body (startB fn.nn as) h).fin := by
  show (match fs f with
    | some fn => runFnB (calls gl fs tb n) gl fn as h
    | none => .bad) = _
  rw [hf]
  exact runB_fn hv e
theorem inib_run {n c f : Nat} {fn : Fn} {as : List Ar} {h : Cells} (hi : tb.it c = some f) (hf : fs f = some fn) (e : as.length + 1 = fn.np) : (calls gl fs tb (n + 1)).inib c as h = (evSs (calls gl fs tb n) gl fn.body (.own (.ins c []) :: startB (fn.nn - 1) as) h).fini c := by
  show (match tb.it c with
    | some f => (match fs f with
      | some fn => runIniB (calls gl fs tb n) gl fn c as h
      | none => .bad)
    | none => .bad) = _
  rw [hi]
  simp only [hf]
  unfold runIniB
  rw [if_pos e]
end
/-- a loop whose turns go on or hand back x -/
theorem for_guard {t : Tg} {f : En → Cells → Out} {h : Cells} {x : D} (P : En → Prop) (p : D → Bool) : ∀ {ds : List D} {env : En}, P env → (∀ d ∈ ds, ∀ env, P env → ∃ e1, bindT t d env = some e1 ∧ (p d = true → ∃ e2, f e1 h = .next e2 h ∧ P e2) ∧ (p d = false → f e1 h = .ret x h)) → (ds.all p = true → ∃ e', forGo t f ds env h = .next e' h ∧ P e') ∧ (ds.all p = false → forGo t f ds env h = .ret x h)
  | [], env, hP, _ => ⟨fun _ => ⟨env, rfl, hP⟩, fun h => by cases h⟩
  | d :: ds, env, hP, st => by
    obtain ⟨e1, b1, b2, b3⟩ := st d (List.mem_cons_self ..) env hP
    cases q : p d with
    | true =>
      obtain ⟨e2, b4, b5⟩ := b2 q
      obtain ⟨k1, k2⟩ := for_guard P p (ds := ds) b5 fun y hy => st y (List.mem_cons_of_mem _ hy)
      refine ⟨fun ha => ?_, fun ha => ?_⟩
      · rw [List.all_cons, q, Bool.true_and] at ha
        obtain ⟨e', k3, k4⟩ := k1 ha
        refine ⟨e', ?_, k4⟩
        unfold forGo
        simp only [b1, b4]
        exact k3
      · rw [List.all_cons, q, Bool.true_and] at ha
        unfold forGo
        simp only [b1, b4]
        exact k2 ha
    | false =>
      refine ⟨fun ha => ?_, fun _ => ?_⟩
      · rw [List.all_cons, q, Bool.false_and] at ha
        cases ha
      · unfold forGo
        simp only [b1, b3 q]
/-- a loop by its invariant, what is gone through known as a part of the whole -/
theorem for_at {t : Tg} {f : En → Cells → Out} (P : List D → En → Cells → Prop) {ds : List D} {env : En} {h : Cells} (h0 : P [] env h) (st : ∀ pre d post env h, ds = pre ++ d :: post → P pre env h → ∃ e1 e2 h2, bindT t d env = some e1 ∧ (f e1 h = .next e2 h2 ∨ f e1 h = .cont e2 h2) ∧ P (pre ++ [d]) e2 h2) : ∃ e' h', forGo t f ds env h = .next e' h' ∧ P ds e' h' := by
  have key : ∀ (suf pre : List D) (env : En) (h : Cells), ds = pre ++ suf → P pre env h → ∃ e' h', forGo t f suf env h = .next e' h' ∧ P ds e' h' := by
    intro suf
    induction suf with
    | nil => intro pre env h e hp; exact ⟨env, h, rfl, by rw [e, List.append_nil]; exact hp⟩
    | cons d suf ih =>
      intro pre env h e hp
      obtain ⟨e1, e2, h2, b1, b2, b3⟩ := st pre d suf env h e hp
      obtain ⟨e', h', k1, k2⟩ := ih (pre ++ [d]) e2 h2 (by rw [e, List.append_assoc]; rfl) b3
      refine ⟨e', h', ?_, k2⟩
      unfold forGo
      rw [b1]
      rcases b2 with b2 | b2
      · simp only [b2]; exact k1
      · simp only [b2]; exact k1
  exact key ds [] env h rfl h0
end Rf
set_option Elab.async false
set_option linter.all false
set_option maxRecDepth 100000
set_option maxHeartbeats 2000000
/-! plain data: equal or not -/
namespace Rf
open PySem L2
mutual
def pyT : D → PyData
  | .non => .none
  | .bl b => .bool b
  | .int i => .int i
  | .str x => .str x
  | .tup ds => .tuple (pyTs ds)
  | .lst ds => .list (pyTs ds)
  | _ => .none
def pyTs : List D → List PyData
  | [] => []
  | d :: ds => pyT d :: pyTs ds
end
def eqB (a b : D) : Bool := PyData.eqv (pyT a) (pyT b)
def eqBs (a b : List D) : Bool := PyData.eqvAll (pyTs a) (pyTs b)
theorem shaped_lay {x : PyData} (h : SeqAt.shaped x = true) : x.canLay0 = true := SeqAt.canLay_of_shaped h
theorem pln_all {m : Nat} (ih : ∀ d, plnD m d = true → py d = some (pyT d) ∧ (pyT d).canLay0 = true ∧ (pyT d).depth ≤ m) : ∀ {ds : List D}, ds.all (plnD m) = true → pys ds = some (pyTs ds) ∧ PyData.canLayAll0 (pyTs ds) = true ∧ PyData.depthAll (pyTs ds) ≤ m
  | [], _ => ⟨rfl, rfl, Nat.zero_le _⟩
  | d :: ds, h => by
    rw [List.all_cons, Bool.and_eq_true] at h
    obtain ⟨h1, h2, h3⟩ := ih d h.1
    obtain ⟨k1, k2, k3⟩ := pln_all ih h.2
    refine ⟨?_, ?_, ?_⟩
    · rw [pys, h1, k1, pyTs]
    · rw [pyTs, PyData.canLayAll0, h2, k2]; rfl
    · rw [pyTs, PyData.depthAll]; omega
theorem pln_py : ∀ (m : Nat) (d : D), plnD m d = true → py d = some (pyT d) ∧ (pyT d).canLay0 = true ∧ (pyT d).depth ≤ m
  | m, .non, _ => ⟨rfl, rfl, Nat.zero_le _⟩
  | m, .bl _, _ => ⟨rfl, rfl, Nat.zero_le _⟩
  | m, .int _, _ => ⟨rfl, rfl, Nat.zero_le _⟩
  | m, .str x, h => by
    have e : SeqAt.shaped (.str x) = true := by cases m <;> exact h
    exact ⟨rfl, shaped_lay e, Nat.zero_le _⟩
  | m + 1, .tup ds, h => by
    rw [plnD, Bool.and_eq_true] at h
    obtain ⟨k1, k2, k3⟩ := pln_all (pln_py m) h.2
    refine ⟨by rw [py, k1, pyT]; rfl, by rw [pyT, PyData.canLay0]; exact k2, by rw [pyT, PyData.depth]; omega⟩
  | m + 1, .lst ds, h => by
    rw [plnD, Bool.and_eq_true] at h
    obtain ⟨k1, k2, k3⟩ := pln_all (pln_py m) h.2
    refine ⟨by rw [py, k1, pyT]; rfl, by rw [pyT, PyData.canLay0]; exact k2, by rw [pyT, PyData.depth]; omega⟩
  | 0, .tup ds, h => by cases h
  | 0, .lst ds, h => by cases h
  | 0, .dk _, h => by cases h
  | 0, .dt _, h => by cases h
  | 0, .ins _ _, h => by cases h
  | 0, .cell _, h => by cases h
  | n + 1, .dk _, h => by cases h
  | n + 1, .dt _, h => by cases h
  | n + 1, .ins _ _, h => by cases h
  | n + 1, .cell _, h => by cases h
theorem pln_shaped {m : Nat} {d : D} (h : plnD m d = true) (hm : m ≤ 64) : SeqAt.shaped (pyT d) = true := by
  obtain ⟨_, h2, h3⟩ := pln_py m d h
  unfold SeqAt.shaped
  rw [h2, decide_eq_true (by omega)]
  rfl
theorem eq_pln {m k : Nat} {a b : D} (ha : plnD m a = true) (hb : plnD k b = true) (hm : m ≤ 64) (hk : k ≤ 64) : eqD a b = some (eqB a b) := by
  unfold eqD
  rw [(pln_py m a ha).1, (pln_py k b hb).1]
  simp only [pln_shaped ha hm, pln_shaped hb hk, Bool.and_self, if_true]
  rfl
theorem eqB_refl {m : Nat} {a : D} (h : plnD m a = true) : eqB a a = true := PySem.SeqAt.eqv_refl _ (pln_py m a h).2.1
theorem eqB_comm (a b : D) : eqB a b = eqB b a := PySem.W.eqv_comm _ _
theorem eqB_int (i j : Int) : eqB (.int i) (.int j) = decide (i = j) := by
  show (i == j) = _
  exact rfl
theorem eqB_str (x y : Str) : eqB (.str x) (.str y) = (x == y) := nd rfl
theorem eqB_is (i : Int) (x : Str) : eqB (.int i) (.str x) = false := nd rfl
theorem eqB_si (i : Int) (x : Str) : eqB (.str x) (.int i) = false := nd rfl
theorem eqB_tt (a b : List D) : eqB (.tup a) (.tup b) = eqBs a b := nd rfl
theorem eqB_ll (a b : List D) : eqB (.lst a) (.lst b) = eqBs a b := nd rfl
theorem eqBs_nil : eqBs [] [] = true := nd rfl
theorem eqBs_nc (a : D) (b : List D) : eqBs [] (a :: b) = false := nd rfl
theorem eqBs_cn (a : D) (b : List D) : eqBs (a :: b) [] = false := nd rfl
theorem eqBs_cc (a c : D) (b d : List D) : eqBs (a :: b) (c :: d) = (eqB a c && eqBs b d) := nd rfl
theorem eqBs_len : ∀ {a b : List D}, a.length ≠ b.length → eqBs a b = false
  | [], [], h => (h rfl).elim
  | [], _ :: _, _ => rfl
  | _ :: _, [], _ => rfl
  | a :: as, b :: bs, h => by
    rw [eqBs_cc, eqBs_len (a := as) (b := bs) (fun e => h (by rw [List.length_cons, List.length_cons, e])), Bool.and_false]
theorem eqBs_refl {m : Nat} : ∀ {a : List D}, a.all (plnD m) = true → eqBs a a = true
  | [], _ => rfl
  | a :: as, h => by
    rw [List.all_cons, Bool.and_eq_true] at h
    rw [eqBs_cc, eqB_refl h.1, eqBs_refl h.2]
    rfl
theorem eqBs_comm : ∀ (a b : List D), eqBs a b = eqBs b a
  | [], [] => rfl
  | [], _ :: _ => rfl
  | _ :: _, [] => rfl
  | a :: as, b :: bs => by rw [eqBs_cc, eqBs_cc, eqB_comm, eqBs_comm as bs]
theorem in_pln {m : Nat} {d : D} {ds : List D} (hd : plnD m d = true) (hs : ds.all (plnD m) = true) (hm : m ≤ 63) : isIn d (.lst ds) = some (ds.any fun z => eqB z d) := by
  obtain ⟨h1, h2, h3⟩ := pln_all (pln_py m) hs
  have e : ∀ ds : List D, (pyTs ds).any (fun z => PyData.eqv z (pyT d)) = ds.any fun z => eqB z d := fun ds => by
    induction ds with
    | nil => rfl
    | cons a as ih => rw [pyTs, List.any_cons, List.any_cons, ih]; rfl
  have s : SeqAt.shaped (.list (pyTs ds)) = true := by
    unfold SeqAt.shaped
    rw [PyData.canLay0, h2, PyData.depth, decide_eq_true (by omega)]
    rfl
  unfold isIn
  simp only [(pln_py m d hd).1, h1, pln_shaped hd (by omega), s, Bool.and_self, if_true]
  rw [e]
/-- a tuple, a list of plain data -/
theorem pln_tupI {m : Nat} {ds : List D} (h : ds.all (plnD m) = true) (hl : ds.length ≤ 16777216) : plnD (m + 1) (.tup ds) = true := by
  rw [plnD, Bool.and_eq_true, decide_eq_true_eq]; exact ⟨hl, h⟩
theorem pln_lstI {m : Nat} {ds : List D} (h : ds.all (plnD m) = true) (hl : ds.length ≤ 16777216) : plnD (m + 1) (.lst ds) = true := by
  rw [plnD, Bool.and_eq_true, decide_eq_true_eq]; exact ⟨hl, h⟩
end Rf
set_option Elab.async false
set_option linter.all false
set_option maxRecDepth 100000
set_option maxHeartbeats 8000000
namespace K33
open PySem L2 PySem.Spec PyProof.Rows Rf
def top (i : Nat) : Stmt := PySem.Challenge.pw_eitherpromised_k33_run_holds.main.body.getD i (.Pass ⟨0, 0, 0, 0⟩)
def c_lines_of : CSs := (.cons (.ite (.cmp .eq (.var 0) (.cst (.str ""))) (.cons (.ret (.lst .nil)) .nil) .nil) (.cons (.ret (.bm .split (.var 0) (.cons (.cst (.str "\n")) .nil))) .nil))
def f_lines_of : Fn := ⟨1, 1, c_lines_of, false⟩
def p_lines_of : PFn := ⟨⟨("lines_of", none), "lines_of", "lines_of", defArgs (top 14), defBody (top 14), defScope (top 14), [], []⟩, [("text" : Str)], f_lines_of, false⟩
theorem b_lines_of : BindP p_lines_of := .no (by decide +kernel) fun _ _ _ _ _ _ us hl => match us, hl with | [_], _ => rfl
def c_read_number : CSs := (.cons (.ite (.or (.cons (.cmp .eq (.var 0) (.cst (.str ""))) (.cons (.cmp .gt (.blt .len (.cons (.var 0) .nil)) (.glob 0)) .nil))) (.cons (.ret (.neg (.cst (.int 1)))) .nil) .nil) (.cons (.ite (.and (.cons (.cmp .eq (.sub (.var 0) (.cst (.int 0))) (.cst (.str "0"))) (.cons (.cmp .gt (.blt .len (.cons (.var 0) .nil)) (.cst (.int 1))) .nil))) (.cons (.ret (.neg (.cst (.int 1)))) .nil) .nil) (.cons (.for_ (.name 1) (.of (.var 0)) (.cons (.ite (.cmp .notin (.var 1) (.glob 1)) (.cons (.ret (.neg (.cst (.int 1)))) .nil) .nil) .nil)) (.cons (.ret (.blt .int (.cons (.var 0) .nil))) .nil))))
def f_read_number : Fn := ⟨1, 2, c_read_number, false⟩
def p_read_number : PFn := ⟨⟨("read_number", none), "read_number", "read_number", defArgs (top 15), defBody (top 15), defScope (top 15), [], []⟩, [("text" : Str), ("char" : Str)], f_read_number, false⟩
theorem b_read_number : BindP p_read_number := .no (by decide +kernel) fun _ _ _ _ _ _ us hl => match us, hl with | [_], _ => rfl
def c_read_numbers : CSs := (.cons (.ite (.cmp .eq (.var 0) (.cst (.str "-"))) (.cons (.ret (.tup .nil)) .nil) .nil) (.cons (.setN 1 (.lst .nil)) (.cons .dead (.cons (.ret (.blt .tuple (.cons (.var 1) .nil))) .nil))))
def f_read_numbers : Fn := ⟨1, 4, c_read_numbers, false⟩
def p_read_numbers : PFn := ⟨⟨("read_numbers", none), "read_numbers", "read_numbers", defArgs (top 16), defBody (top 16), defScope (top 16), [], []⟩, [("text" : Str), ("found" : Str), ("part" : Str), ("number" : Str)], f_read_numbers, false⟩
theorem b_read_numbers : BindP p_read_numbers := .no (by decide +kernel) fun _ _ _ _ _ _ us hl => match us, hl with | [_], _ => rfl
def c_read_marks : CSs := (.cons (.ite (.cmp .eq (.var 0) (.cst (.str "-"))) (.cons (.ret (.cst (.str ""))) .nil) .nil) (.cons (.ite (.cmp .eq (.var 0) (.cst (.str ""))) (.cons (.ret (.cst .non)) .nil) .nil) (.cons (.set 1 (.cst (.str ""))) (.cons (.for_ (.name 2) (.of (.var 0)) (.cons (.ite (.or (.cons (.cmp .notin (.var 2) (.glob 2)) (.cons (.cmp .le (.var 2) (.var 1)) .nil))) (.cons (.ret (.cst .non)) .nil) .nil) (.cons (.set 1 (.var 2)) .nil))) (.cons (.ret (.var 0)) .nil)))))
def f_read_marks : Fn := ⟨1, 3, c_read_marks, false⟩
def p_read_marks : PFn := ⟨⟨("read_marks", none), "read_marks", "read_marks", defArgs (top 17), defBody (top 17), defScope (top 17), [], []⟩, [("text" : Str), ("last" : Str), ("char" : Str)], f_read_marks, false⟩
theorem b_read_marks : BindP p_read_marks := .no (by decide +kernel) fun _ _ _ _ _ _ us hl => match us, hl with | [_], _ => rfl
def c_read_stamp_parts : CSs := (.cons (.set 1 (.bm .split (.var 0) (.cons (.cst (.str ".")) .nil))) (.cons (.ite (.cmp .ne (.blt .len (.cons (.var 1) .nil)) (.cst (.int 2))) (.cons (.ret (.cst .non)) .nil) .nil) (.cons (.set 2 (.call 1 (.cons (.sub (.var 1) (.cst (.int 0))) .nil))) (.cons (.set 3 (.call 1 (.cons (.sub (.var 1) (.cst (.int 1))) .nil))) (.cons (.ite (.or (.cons (.cmp .lt (.var 2) (.cst (.int 0))) (.cons (.cmp .lt (.var 3) (.cst (.int 0))) .nil))) (.cons (.ret (.cst .non)) .nil) .nil) (.cons (.ret (.tup (.cons (.var 2) (.cons (.var 3) .nil)))) .nil))))))
def f_read_stamp_parts : Fn := ⟨1, 4, c_read_stamp_parts, false⟩
def p_read_stamp_parts : PFn := ⟨⟨("read_stamp_parts", none), "read_stamp_parts", "read_stamp_parts", defArgs (top 18), defBody (top 18), defScope (top 18), [], []⟩, [("text" : Str), ("parts" : Str), ("count" : Str), ("place" : Str)], f_read_stamp_parts, false⟩
theorem b_read_stamp_parts : BindP p_read_stamp_parts := .no (by decide +kernel) fun _ _ _ _ _ _ us hl => match us, hl with | [_], _ => rfl
def c_read_event_parts : CSs := (.cons (.set 1 (.bm .split (.var 0) (.cons (.cst (.str " ")) .nil))) (.cons (.ite (.cmp .ne (.blt .len (.cons (.var 1) .nil)) (.cst (.int 5))) (.cons (.ret (.cst .non)) .nil) .nil) (.cons (.set 2 (.call 1 (.cons (.sub (.var 1) (.cst (.int 0))) .nil))) (.cons (.set 3 (.call 1 (.cons (.sub (.var 1) (.cst (.int 1))) .nil))) (.cons (.set 4 (.call 3 (.cons (.sub (.var 1) (.cst (.int 2))) .nil))) (.cons (.set 5 (.call 4 (.cons (.sub (.var 1) (.cst (.int 3))) .nil))) (.cons (.set 6 (.call 2 (.cons (.sub (.var 1) (.cst (.int 4))) .nil))) (.cons (.ite (.or (.cons (.cmp .lt (.var 2) (.cst (.int 0))) (.cons (.cmp .lt (.var 3) (.cst (.int 0))) (.cons (.cmp .is (.var 4) (.cst .non)) (.cons (.cmp .is (.var 5) (.cst .non)) (.cons (.cmp .is (.var 6) (.cst .non)) .nil)))))) (.cons (.ret (.cst .non)) .nil) .nil) (.cons (.ret (.tup (.cons (.var 2) (.cons (.var 3) (.cons (.var 4) (.cons (.var 5) (.cons (.var 6) .nil))))))) .nil)))))))))
def f_read_event_parts : Fn := ⟨1, 7, c_read_event_parts, false⟩
def p_read_event_parts : PFn := ⟨⟨("read_event_parts", none), "read_event_parts", "read_event_parts", defArgs (top 19), defBody (top 19), defScope (top 19), [], []⟩, [("line" : Str), ("parts" : Str), ("session" : Str), ("item" : Str), ("marks" : Str), ("stamp" : Str), ("seen" : Str)], f_read_event_parts, false⟩
theorem b_read_event_parts : BindP p_read_event_parts := .no (by decide +kernel) fun _ _ _ _ _ _ us hl => match us, hl with | [_], _ => rfl
def c_check_marks : CSs := (.cons (.for_ (.name 1) (.of (.var 0)) (.cons (.ite (.cmp .notin (.var 1) (.glob 2)) (.cons (.raise_ 5) .nil) .nil) .nil)) (.cons (.ite (.cmp .ne (.lset (.var 0)) (.blt .len (.cons (.var 0) .nil))) (.cons (.raise_ 5) .nil) .nil) .nil))
def f_check_marks : Fn := ⟨1, 2, c_check_marks, false⟩
def p_check_marks : PFn := ⟨⟨("check_marks", none), "check_marks", "check_marks", defArgs (top 24), defBody (top 24), defScope (top 24), [], []⟩, [("marks" : Str), ("mark" : Str)], f_check_marks, false⟩
theorem b_check_marks : BindP p_check_marks := .no (by decide +kernel) fun _ _ _ _ _ _ us hl => match us, hl with | [_], _ => rfl
def c_Event___init__ : CSs := (.cons (.ite (.not (.chain .le .le (.cst (.int 0)) (.var 1) (.glob 3))) (.cons (.raise_ 5) .nil) .nil) (.cons (.ite (.not (.chain .le .le (.cst (.int 0)) (.var 2) (.glob 4))) (.cons (.raise_ 5) .nil) .nil) (.cons (.ex (.call 6 (.cons (.var 3) .nil))) (.cons (.set 6 (.ssc (.var 7) [7] (.name 7) (.of (.var 5)) .none)) (.cons (.ite (.and (.cons (.var 6) (.cons (.cmp .lt (.sub (.var 6) (.cst (.int 0))) (.cst (.int 0))) .nil))) (.cons (.raise_ 5) .nil) .nil) (.cons (.setAttr (.var 0) 0 (.var 1)) (.cons (.setAttr (.var 0) 1 (.var 2)) (.cons (.setAttr (.var 0) 2 (.bm .join (.cst (.str "")) (.cons (.blt .sorted (.cons (.var 3) .nil)) .nil))) (.cons (.setAttr (.var 0) 3 (.var 4)) (.cons (.setAttr (.var 0) 4 (.blt .tuple (.cons (.var 6) .nil))) .nil))))))))))
def f_Event___init__ : Fn := ⟨6, 8, c_Event___init__, false⟩
def p_Event___init__ : PFn := ⟨⟨("Event", some "__init__"), "__init__", "Event.__init__", defArgs (inClass (top 25) 0), defBody (inClass (top 25) 0), defScope (inClass (top 25) 0), [], [(("item" : Str), (.int 0)), (("marks" : Str), (.str "")), (("seen" : Str), (.adr (kwAd ("Event", some "__init__") "seen")))]⟩, [("self" : Str), ("session" : Str), ("item" : Str), ("marks" : Str), ("stamp" : Str), ("seen" : Str), ("numbers" : Str), ("number" : Str)], f_Event___init__, false⟩
theorem b_Event___init__ : BindP p_Event___init__ := .kw (by decide +kernel)
def c_Event___eq__ : CSs := (.cons (.ret (.and (.cons (.isi (.var 1) (.own 0)) (.cons (.cmp .eq (.attr (.var 0) 0) (.attr (.var 1) 0)) (.cons (.cmp .eq (.attr (.var 0) 1) (.attr (.var 1) 1)) (.cons (.cmp .eq (.attr (.var 0) 2) (.attr (.var 1) 2)) (.cons (.cmp .eq (.attr (.var 0) 3) (.attr (.var 1) 3)) (.cons (.cmp .eq (.attr (.var 0) 4) (.attr (.var 1) 4)) .nil)))))))) .nil)
def f_Event___eq__ : Fn := ⟨2, 2, c_Event___eq__, false⟩
def p_Event___eq__ : PFn := ⟨⟨("Event", some "__eq__"), "__eq__", "Event.__eq__", defArgs (inClass (top 25) 1), defBody (inClass (top 25) 1), defScope (inClass (top 25) 1), [], []⟩, [("self" : Str), ("other" : Str)], f_Event___eq__, false⟩
theorem b_Event___eq__ : BindP p_Event___eq__ := .no (by decide +kernel) fun _ _ _ _ _ _ us hl => match us, hl with | [_, _], _ => rfl
def c_Event_has : CSs := (.cons (.ret (.cmp .isin (.var 1) (.blt .list (.cons (.attr (.var 0) 2) .nil)))) .nil)
def f_Event_has : Fn := ⟨2, 2, c_Event_has, false⟩
def p_Event_has : PFn := ⟨⟨("Event", some "has"), "has", "Event.has", defArgs (inClass (top 25) 2), defBody (inClass (top 25) 2), defScope (inClass (top 25) 2), [], []⟩, [("self" : Str), ("mark" : Str)], f_Event_has, false⟩
theorem b_Event_has : BindP p_Event_has := .no (by decide +kernel) fun _ _ _ _ _ _ us hl => match us, hl with | [_, _], _ => rfl
def c_Event_row : CSs := (.cons (.ret (.tup (.cons (.attr (.var 0) 0) (.cons (.attr (.var 0) 1) (.cons (.attr (.var 0) 2) (.cons (.tup (.cons (.attr (.attr (.var 0) 3) 6) (.cons (.attr (.attr (.var 0) 3) 5) .nil))) (.cons (.attr (.var 0) 4) .nil))))))) .nil)
def f_Event_row : Fn := ⟨1, 1, c_Event_row, false⟩
def p_Event_row : PFn := ⟨⟨("Event", some "row"), "row", "Event.row", defArgs (inClass (top 25) 3), defBody (inClass (top 25) 3), defScope (inClass (top 25) 3), [], []⟩, [("self" : Str)], f_Event_row, false⟩
theorem b_Event_row : BindP p_Event_row := .no (by decide +kernel) fun _ _ _ _ _ _ us hl => match us, hl with | [_], _ => rfl
def c_Stamp___init__ : CSs := (.cons (.ite (.or (.cons (.not (.chain .le .le (.cst (.int 0)) (.var 1) (.glob 6))) (.cons (.not (.chain .le .le (.cst (.int 0)) (.var 2) (.glob 5))) .nil))) (.cons (.raise_ 4) .nil) .nil) (.cons (.setAttr (.var 0) 6 (.var 1)) (.cons (.setAttr (.var 0) 5 (.var 2)) .nil)))
def f_Stamp___init__ : Fn := ⟨3, 3, c_Stamp___init__, false⟩
def p_Stamp___init__ : PFn := ⟨⟨("Stamp", some "__init__"), "__init__", "Stamp.__init__", defArgs (inClass (top 29) 0), defBody (inClass (top 29) 0), defScope (inClass (top 29) 0), [], []⟩, [("self" : Str), ("count" : Str), ("place" : Str)], f_Stamp___init__, false⟩
theorem b_Stamp___init__ : BindP p_Stamp___init__ := .no (by decide +kernel) fun _ _ _ _ _ _ us hl => match us, hl with | [_, _, _], _ => rfl
def c_Stamp___eq__ : CSs := (.cons (.ret (.and (.cons (.isi (.var 1) (.own 1)) (.cons (.cmp .eq (.attr (.var 0) 6) (.attr (.var 1) 6)) (.cons (.cmp .eq (.attr (.var 0) 5) (.attr (.var 1) 5)) .nil))))) .nil)
def f_Stamp___eq__ : Fn := ⟨2, 2, c_Stamp___eq__, false⟩
def p_Stamp___eq__ : PFn := ⟨⟨("Stamp", some "__eq__"), "__eq__", "Stamp.__eq__", defArgs (inClass (top 29) 1), defBody (inClass (top 29) 1), defScope (inClass (top 29) 1), [], []⟩, [("self" : Str), ("other" : Str)], f_Stamp___eq__, false⟩
theorem b_Stamp___eq__ : BindP p_Stamp___eq__ := .no (by decide +kernel) fun _ _ _ _ _ _ us hl => match us, hl with | [_, _], _ => rfl
def c_Stamp___lt__ : CSs := (.cons (.ite (.not (.isi (.var 1) (.own 1))) (.cons .dead .nil) .nil) (.cons (.ret (.cmp .lt (.tup (.cons (.attr (.var 0) 6) (.cons (.attr (.var 0) 5) .nil))) (.tup (.cons (.attr (.var 1) 6) (.cons (.attr (.var 1) 5) .nil))))) .nil))
def f_Stamp___lt__ : Fn := ⟨2, 2, c_Stamp___lt__, false⟩
def p_Stamp___lt__ : PFn := ⟨⟨("Stamp", some "__lt__"), "__lt__", "Stamp.__lt__", defArgs (inClass (top 29) 2), defBody (inClass (top 29) 2), defScope (inClass (top 29) 2), [], []⟩, [("self" : Str), ("other" : Str)], f_Stamp___lt__, false⟩
theorem b_Stamp___lt__ : BindP p_Stamp___lt__ := .no (by decide +kernel) fun _ _ _ _ _ _ us hl => match us, hl with | [_, _], _ => rfl
def c_Stamp___le__ : CSs := (.cons (.ite (.not (.isi (.var 1) (.own 1))) (.cons .dead .nil) .nil) (.cons (.ret (.cmp .le (.tup (.cons (.attr (.var 0) 6) (.cons (.attr (.var 0) 5) .nil))) (.tup (.cons (.attr (.var 1) 6) (.cons (.attr (.var 1) 5) .nil))))) .nil))
def f_Stamp___le__ : Fn := ⟨2, 2, c_Stamp___le__, false⟩
def p_Stamp___le__ : PFn := ⟨⟨("Stamp", some "__le__"), "__le__", "Stamp.__le__", defArgs (inClass (top 29) 3), defBody (inClass (top 29) 3), defScope (inClass (top 29) 3), [], []⟩, [("self" : Str), ("other" : Str)], f_Stamp___le__, false⟩
theorem b_Stamp___le__ : BindP p_Stamp___le__ := .no (by decide +kernel) fun _ _ _ _ _ _ us hl => match us, hl with | [_, _], _ => rfl
def c_Stamp___add__ : CSs := (.cons (.ret (.make 1 (.cons (.bin .add (.attr (.var 0) 6) (.var 1)) (.cons (.attr (.var 0) 5) .nil)))) .nil)
def f_Stamp___add__ : Fn := ⟨2, 2, c_Stamp___add__, false⟩
def p_Stamp___add__ : PFn := ⟨⟨("Stamp", some "__add__"), "__add__", "Stamp.__add__", defArgs (inClass (top 29) 4), defBody (inClass (top 29) 4), defScope (inClass (top 29) 4), [], []⟩, [("self" : Str), ("other" : Str)], f_Stamp___add__, false⟩
theorem b_Stamp___add__ : BindP p_Stamp___add__ := .no (by decide +kernel) fun _ _ _ _ _ _ us hl => match us, hl with | [_, _], _ => rfl
def c_Stamp___radd__ : CSs := (.cons (.ret (.make 1 (.cons (.bin .add (.attr (.var 0) 6) (.var 1)) (.cons (.attr (.var 0) 5) .nil)))) .nil)
def f_Stamp___radd__ : Fn := ⟨2, 2, c_Stamp___radd__, false⟩
def p_Stamp___radd__ : PFn := ⟨⟨("Stamp", some "__radd__"), "__radd__", "Stamp.__radd__", defArgs (inClass (top 29) 5), defBody (inClass (top 29) 5), defScope (inClass (top 29) 5), [], []⟩, [("self" : Str), ("other" : Str)], f_Stamp___radd__, false⟩
theorem b_Stamp___radd__ : BindP p_Stamp___radd__ := .no (by decide +kernel) fun _ _ _ _ _ _ us hl => match us, hl with | [_, _], _ => rfl
def c_Stamp___str__ : CSs := (.cons .dead .nil)
def f_Stamp___str__ : Fn := ⟨1, 1, c_Stamp___str__, false⟩
def p_Stamp___str__ : PFn := ⟨⟨("Stamp", some "__str__"), "__str__", "Stamp.__str__", defArgs (inClass (top 29) 6), defBody (inClass (top 29) 6), defScope (inClass (top 29) 6), [], []⟩, [("self" : Str)], f_Stamp___str__, false⟩
theorem b_Stamp___str__ : BindP p_Stamp___str__ := .no (by decide +kernel) fun _ _ _ _ _ _ us hl => match us, hl with | [_], _ => rfl
def c_first_invalid : CSs := (.cons (.newD 1) (.cons (.forE 2 3 (.var 0) (.cons (.setK 4 (.cons (.attr (.attr (.var 3) 3) 6) (.cons (.attr (.attr (.var 3) 3) 5) .nil))) (.cons (.ite (.or (.cons (.inD false 4 1) (.cons (.and (.cons (.attr (.var 3) 4) (.cons (.cmp .ge (.sub (.attr (.var 3) 4) (.neg (.cst (.int 1)))) (.var 2)) .nil))) .nil))) (.cons (.ret (.var 2)) .nil) .nil) (.cons (.putD 1 4 (.cst (.bl true))) .nil)))) (.cons (.ret (.cst .non)) .nil)))
def f_first_invalid : Fn := ⟨1, 5, c_first_invalid, false⟩
def p_first_invalid : PFn := ⟨⟨("first_invalid", none), "first_invalid", "first_invalid", defArgs (top 31), defBody (top 31), defScope (top 31), [], []⟩, [("events" : Str), ("stamps" : Str), ("number" : Str), ("event" : Str), ("stamp" : Str)], f_first_invalid, false⟩
theorem b_first_invalid : BindP p_first_invalid := .no (by decide +kernel) fun _ _ _ _ _ _ us hl => match us, hl with | [_], _ => rfl
def c_related : CSs := (.cons (.set 4 (.sub (.var 1) (.var 2))) (.cons (.set 5 (.sub (.var 1) (.var 3))) (.cons (.ite (.cmp .eq (.var 0) (.cst (.str "bf"))) (.cons (.ret (.cmp .lt (.var 2) (.var 3))) .nil) .nil) (.cons (.ite (.cmp .eq (.var 0) (.cst (.str "ss"))) (.cons (.ret (.cmp .eq (.attr (.var 4) 0) (.attr (.var 5) 0))) .nil) .nil) (.cons (.ite (.cmp .eq (.var 0) (.cst (.str "si"))) (.cons (.ret (.cmp .eq (.attr (.var 4) 1) (.attr (.var 5) 1))) .nil) .nil) (.cons (.ite (.cmp .eq (.var 0) (.cst (.str "so"))) (.cons (.ret (.and (.cons (.cmp .lt (.var 2) (.var 3)) (.cons (.cmp .eq (.attr (.var 4) 0) (.attr (.var 5) 0)) .nil)))) .nil) .nil) (.cons (.ite (.cmp .eq (.var 0) (.cst (.str "vis"))) (.cons (.ret (.cmp .isin (.var 2) (.attr (.var 5) 4))) .nil) .nil) (.cons (.ret (.cmp .lt (.attr (.var 4) 3) (.attr (.var 5) 3))) .nil))))))))
def f_related : Fn := ⟨4, 6, c_related, false⟩
def p_related : PFn := ⟨⟨("related", none), "related", "related", defArgs (top 32), defBody (top 32), defScope (top 32), [], []⟩, [("word" : Str), ("events" : Str), ("x" : Str), ("y" : Str), ("first" : Str), ("second" : Str)], f_related, false⟩
theorem b_related : BindP p_related := .no (by decide +kernel) fun _ _ _ _ _ _ us hl => match us, hl with | [_, _, _, _], _ => rfl
def c_with_line : CSs := (.cons (.set 3 (.call 5 (.cons (.var 2) .nil))) (.cons (.ite (.cmp .is (.var 3) (.cst .non)) (.cons .dead .nil) .nil) (.cons (.setT [4, 5, 6, 7, 8] (.var 3)) (.cons (.tryAs (.cons (.setT [9, 10] (.var 7)) (.cons (.ret (.bin .add (.var 0) (.makek 0 (.cons (.var 4) .nil) (.cons (.var 5) (.cons (.var 6) (.cons (.make 1 (.cons (.var 9) (.cons (.var 10) .nil))) (.cons (.var 8) .nil))))))) .nil)) 3 11 (.cons .dead .nil)) .nil))))
def f_with_line : Fn := ⟨3, 12, c_with_line, false⟩
def p_with_line : PFn := ⟨⟨("with_line", none), "with_line", "with_line", defArgs (top 33), defBody (top 33), defScope (top 33), [], []⟩, [("run" : Str), ("number" : Str), ("line" : Str), ("parts" : Str), ("session" : Str), ("item" : Str), ("marks" : Str), ("stamp" : Str), ("seen" : Str), ("count" : Str), ("place" : Str), ("why" : Str)], f_with_line, false⟩
theorem b_with_line : BindP p_with_line := .no (by decide +kernel) fun _ _ _ _ _ _ us hl => match us, hl with | [_, _, _], _ => rfl
def c_Run___init__ : CSs := (.cons (.set 2 (.blt .list (.cons (.var 1) .nil))) (.cons (.ite (.cmp .gt (.blt .len (.cons (.var 2) .nil)) (.cval 2 7)) (.cons .dead .nil) .nil) (.cons (.set 3 (.call 18 (.cons (.var 2) .nil))) (.cons (.ite (.cmp .isnot (.var 3) (.cst .non)) (.cons .dead .nil) .nil) (.cons (.setAttr (.var 0) 8 (.var 2)) .nil)))))
def f_Run___init__ : Fn := ⟨2, 4, c_Run___init__, false⟩
def p_Run___init__ : PFn := ⟨⟨("Run", some "__init__"), "__init__", "Run.__init__", defArgs (inClass (top 34) 1), defBody (inClass (top 34) 1), defScope (inClass (top 34) 1), [], []⟩, [("self" : Str), ("events" : Str), ("kept" : Str), ("index" : Str)], f_Run___init__, false⟩
theorem b_Run___init__ : BindP p_Run___init__ := .no (by decide +kernel) fun _ _ _ _ _ _ us hl => match us, hl with | [_, _], _ => rfl
def c_Run___iter__ : CSs := (.cons .dead .nil)
def f_Run___iter__ : Fn := ⟨1, 1, c_Run___iter__, false⟩
def p_Run___iter__ : PFn := ⟨⟨("Run", some "__iter__"), "__iter__", "Run.__iter__", defArgs (inClass (top 34) 2), defBody (inClass (top 34) 2), defScope (inClass (top 34) 2), [], []⟩, [("self" : Str)], f_Run___iter__, false⟩
theorem b_Run___iter__ : BindP p_Run___iter__ := .no (by decide +kernel) fun _ _ _ _ _ _ us hl => match us, hl with | [_], _ => rfl
def c_Run___len__ : CSs := (.cons (.ret (.blt .len (.cons (.attr (.var 0) 8) .nil))) .nil)
def f_Run___len__ : Fn := ⟨1, 1, c_Run___len__, false⟩
def p_Run___len__ : PFn := ⟨⟨("Run", some "__len__"), "__len__", "Run.__len__", defArgs (inClass (top 34) 3), defBody (inClass (top 34) 3), defScope (inClass (top 34) 3), [], []⟩, [("self" : Str)], f_Run___len__, false⟩
theorem b_Run___len__ : BindP p_Run___len__ := .no (by decide +kernel) fun _ _ _ _ _ _ us hl => match us, hl with | [_], _ => rfl
def c_Run___getitem__ : CSs := (.cons (.ite (.not (.chain .le .lt (.cst (.int 0)) (.var 1) (.blt .len (.cons (.attr (.var 0) 8) .nil)))) (.cons .dead .nil) .nil) (.cons (.ret (.sub (.attr (.var 0) 8) (.var 1))) .nil))
def f_Run___getitem__ : Fn := ⟨2, 2, c_Run___getitem__, false⟩
def p_Run___getitem__ : PFn := ⟨⟨("Run", some "__getitem__"), "__getitem__", "Run.__getitem__", defArgs (inClass (top 34) 4), defBody (inClass (top 34) 4), defScope (inClass (top 34) 4), [], []⟩, [("self" : Str), ("number" : Str)], f_Run___getitem__, false⟩
theorem b_Run___getitem__ : BindP p_Run___getitem__ := .no (by decide +kernel) fun _ _ _ _ _ _ us hl => match us, hl with | [_, _], _ => rfl
def c_Run___eq__ : CSs := (.cons (.ret (.and (.cons (.isi (.var 1) (.own 2)) (.cons (.cmp .eq (.attr (.var 0) 8) (.attr (.var 1) 8)) .nil)))) .nil)
def f_Run___eq__ : Fn := ⟨2, 2, c_Run___eq__, false⟩
def p_Run___eq__ : PFn := ⟨⟨("Run", some "__eq__"), "__eq__", "Run.__eq__", defArgs (inClass (top 34) 5), defBody (inClass (top 34) 5), defScope (inClass (top 34) 5), [], []⟩, [("self" : Str), ("other" : Str)], f_Run___eq__, false⟩
theorem b_Run___eq__ : BindP p_Run___eq__ := .no (by decide +kernel) fun _ _ _ _ _ _ us hl => match us, hl with | [_, _], _ => rfl
def c_Run___add__ : CSs := (.cons (.ret (.make 2 (.cons (.bin .add (.attr (.var 0) 8) (.lst (.cons (.var 1) .nil))) .nil))) .nil)
def f_Run___add__ : Fn := ⟨2, 2, c_Run___add__, false⟩
def p_Run___add__ : PFn := ⟨⟨("Run", some "__add__"), "__add__", "Run.__add__", defArgs (inClass (top 34) 6), defBody (inClass (top 34) 6), defScope (inClass (top 34) 6), [], []⟩, [("self" : Str), ("event" : Str)], f_Run___add__, false⟩
theorem b_Run___add__ : BindP p_Run___add__ := .no (by decide +kernel) fun _ _ _ _ _ _ us hl => match us, hl with | [_, _], _ => rfl
def c_Run_replaced : CSs := (.cons (.ite (.not (.chain .le .lt (.cst (.int 0)) (.var 1) (.blt .len (.cons (.attr (.var 0) 8) .nil)))) (.cons .dead .nil) .nil) (.cons (.ret (.make 2 (.cons (.bin .add (.bin .add (.slice (.attr (.var 0) 8) .none (.some (.var 1))) (.lst (.cons (.var 2) .nil))) (.slice (.attr (.var 0) 8) (.some (.bin .add (.var 1) (.cst (.int 1)))) .none)) .nil))) .nil))
def f_Run_replaced : Fn := ⟨3, 3, c_Run_replaced, false⟩
def p_Run_replaced : PFn := ⟨⟨("Run", some "replaced"), "replaced", "Run.replaced", defArgs (inClass (top 34) 7), defBody (inClass (top 34) 7), defScope (inClass (top 34) 7), [], []⟩, [("self" : Str), ("number" : Str), ("event" : Str)], f_Run_replaced, false⟩
theorem b_Run_replaced : BindP p_Run_replaced := .no (by decide +kernel) fun _ _ _ _ _ _ us hl => match us, hl with | [_, _, _], _ => rfl
def c_Run_holds : CSs := (.cons (.ite (.cmp .eq (.blt .len (.cons (.var 1) .nil)) (.cst (.int 1))) (.cons (.ret (.cst (.bl false))) .nil) .nil) (.cons (.ite (.cmp .eq (.blt .len (.cons (.var 1) .nil)) (.cst (.int 2))) (.cons (.ret (.meth (.sub (.attr (.var 0) 8) (.sub (.var 2) (.sub (.var 1) (.cst (.int 1))))) 9 (.cons (.sub (.var 1) (.cst (.int 0))) .nil))) .nil) .nil) (.cons (.ret (.call 19 (.cons (.sub (.var 1) (.cst (.int 0))) (.cons (.attr (.var 0) 8) (.cons (.sub (.var 2) (.sub (.var 1) (.cst (.int 1)))) (.cons (.sub (.var 2) (.sub (.var 1) (.cst (.int 2)))) .nil)))))) .nil)))
def f_Run_holds : Fn := ⟨3, 3, c_Run_holds, false⟩
def p_Run_holds : PFn := ⟨⟨("Run", some "holds"), "holds", "Run.holds", defArgs (inClass (top 34) 9), defBody (inClass (top 34) 9), defScope (inClass (top 34) 9), [], []⟩, [("self" : Str), ("atom" : Str), ("events" : Str)], f_Run_holds, false⟩
theorem b_Run_holds : BindP p_Run_holds := .no (by decide +kernel) fun _ _ _ _ _ _ us hl => match us, hl with | [_, _, _], _ => rfl
def c_Run_part : CSs := (.cons (.for_ (.name 2) (.of (.var 1)) (.cons (.ite (.not (.chain .le .lt (.cst (.int 0)) (.var 2) (.blt .len (.cons (.attr (.var 0) 8) .nil)))) (.cons .dead .nil) .nil) .nil)) (.cons (.set 3 (.ssc (.var 2) [2] (.name 2) (.of (.var 1)) .none)) (.cons .dead (.cons (.setN 5 (.lst .nil)) (.cons (.for_ (.name 2) (.of (.var 3)) (.cons (.set 6 (.sub (.attr (.var 0) 8) (.var 2))) (.cons .dead .nil))) (.cons (.frz 5) (.cons (.ret (.make 2 (.cons (.var 5) .nil))) .nil)))))))
def f_Run_part : Fn := ⟨2, 8, c_Run_part, false⟩
def p_Run_part : PFn := ⟨⟨("Run", some "part"), "part", "Run.part", defArgs (inClass (top 34) 10), defBody (inClass (top 34) 10), defScope (inClass (top 34) 10), [], []⟩, [("self" : Str), ("numbers" : Str), ("number" : Str), ("kept" : Str), ("place" : Str), ("found" : Str), ("event" : Str), ("k" : Str)], f_Run_part, false⟩
theorem b_Run_part : BindP p_Run_part := .no (by decide +kernel) fun _ _ _ _ _ _ us hl => match us, hl with | [_, _], _ => rfl
def c__law_start : CSs := (.cons (.ret (.newc (.cons (.blt .list (.cons (.var 0) .nil)) (.cons (.cst (.int 0)) (.cons (.cst (.int 0)) (.cons (.cst (.int 0)) (.cons (.cst (.int 0)) (.cons (.cst (.bl false)) .nil)))))))) .nil)
def f__law_start : Fn := ⟨1, 1, c__law_start, false⟩
def p__law_start : PFn := ⟨⟨("_law_start", none), "_law_start", "_law_start", defArgs (top 36), defBody (top 36), defScope (top 36), [], []⟩, [("script" : Str)], f__law_start, false⟩
theorem b__law_start : BindP p__law_start := .no (by decide +kernel) fun _ _ _ _ _ _ us hl => match us, hl with | [_], _ => rfl
def c__law_draw : CSs := (.cons (.ite (.and (.cons (.cmp .eq (.sub (.var 0) (.cst (.int 3))) (.cst (.int 0))) (.cons (.cmp .lt (.sub (.var 0) (.cst (.int 1))) (.blt .len (.cons (.sub (.var 0) (.cst (.int 0))) .nil))) .nil))) (.cons (.setSub (.var 0) (.cst (.int 2)) (.blt .int (.cons (.sub (.sub (.var 0) (.cst (.int 0))) (.sub (.var 0) (.cst (.int 1)))) .nil))) (.cons (.setSub (.var 0) (.cst (.int 1)) (.bin .add (.sub (.var 0) (.cst (.int 1))) (.cst (.int 1)))) (.cons (.setSub (.var 0) (.cst (.int 3)) (.cst (.int 8))) (.cons (.setSub (.var 0) (.cst (.int 4)) (.cst (.int 0))) (.cons (.setSub (.var 0) (.cst (.int 5)) (.cmp .ge (.sub (.var 0) (.cst (.int 2))) (.bin .pow (.cst (.int 10)) (.cst (.int 18))))) (.cons (.ite (.sub (.var 0) (.cst (.int 5))) (.cons (.setSub (.var 0) (.cst (.int 3)) (.cst (.int 60))) .nil) .nil) .nil)))))) .nil) (.cons (.ite (.or (.cons (.cmp .eq (.sub (.var 0) (.cst (.int 3))) (.cst (.int 0))) (.cons (.cmp .lt (.var 1) (.cst (.int 2))) .nil))) (.cons (.ret (.cst (.int 0))) .nil) .nil) (.cons (.setSub (.var 0) (.cst (.int 3)) (.bin .sub (.sub (.var 0) (.cst (.int 3))) (.cst (.int 1)))) (.cons (.setSub (.var 0) (.cst (.int 4)) (.bin .add (.sub (.var 0) (.cst (.int 4))) (.cst (.int 1)))) (.cons (.ite (.sub (.var 0) (.cst (.int 5))) (.cons (.set 2 (.bin .mod (.blt .int (.cons (.sub (.var 0) (.cst (.int 2))) .nil)) (.var 1))) (.cons (.setSub (.var 0) (.cst (.int 2)) (.bin .fdiv (.blt .int (.cons (.sub (.var 0) (.cst (.int 2))) .nil)) (.var 1))) (.cons (.ite (.cmp .eq (.sub (.var 0) (.cst (.int 2))) (.cst (.int 0))) (.cons (.setSub (.var 0) (.cst (.int 3)) (.cst (.int 0))) .nil) .nil) (.cons (.ret (.var 2)) .nil)))) .nil) (.cons (.set 3 (.sub (.var 0) (.cst (.int 4)))) (.cons (.set 4 (.bin .mod (.blt .int (.cons (.bin .mul (.sub (.var 0) (.cst (.int 2))) (.cst (.int 48271))) .nil)) (.cst (.int 2147483647)))) (.cons (.set 4 (.bin .mod (.blt .int (.cons (.bin .mul (.var 4) (.bin .add (.bin .add (.bin .mul (.bin .mul (.cst (.int 69621)) (.var 3)) (.var 3)) (.bin .mul (.cst (.int 40014)) (.var 3))) (.cst (.int 1)))) .nil)) (.cst (.int 2147483399)))) (.cons (.ret (.bin .mod (.blt .int (.cons (.var 4) .nil)) (.var 1))) .nil)))))))))
def f__law_draw : Fn := ⟨2, 5, c__law_draw, false⟩
def p__law_draw : PFn := ⟨⟨("_law_draw", none), "_law_draw", "_law_draw", defArgs (top 37), defBody (top 37), defScope (top 37), [], []⟩, [("draws" : Str), ("limit" : Str), ("value" : Str), ("step" : Str), ("mixed" : Str)], f__law_draw, false⟩
theorem b__law_draw : BindP p__law_draw := .no (by decide +kernel) fun _ _ _ _ _ _ us hl => match us, hl with | [_, _], _ => rfl
def c__law_same : CSs := (.cons (.ite (.cmp .is (.var 1) (.cst .non)) (.cons (.ret (.cmp .is (.var 0) (.cst .non))) .nil) .nil) (.cons (.ite (.isi (.var 1) .bool) (.cons (.ret (.and (.cons (.isi (.var 0) .bool) (.cons (.cmp .eq (.var 0) (.var 1)) .nil)))) .nil) .nil) (.cons (.ite (.isi (.var 1) .int) (.cons (.ret (.and (.cons (.isi (.var 0) .int) (.cons (.not (.isi (.var 0) .bool)) (.cons (.cmp .eq (.var 0) (.var 1)) .nil))))) .nil) .nil) (.cons (.ite (.isi (.var 1) .str) (.cons (.ret (.and (.cons (.isi (.var 0) .str) (.cons (.cmp .eq (.var 0) (.var 1)) .nil)))) .nil) .nil) (.cons (.ite (.isi (.var 1) .list) (.cons (.ite (.not (.isi (.var 0) .list)) (.cons (.ret (.cst (.bl false))) .nil) .nil) .nil) (.cons (.ite (.not (.isi (.var 0) .tuple)) (.cons (.ret (.cst (.bl false))) .nil) .nil) .nil)) (.cons (.ite (.cmp .ne (.blt .len (.cons (.var 0) .nil)) (.blt .len (.cons (.var 1) .nil))) (.cons (.ret (.cst (.bl false))) .nil) .nil) (.cons (.for_ (.name 2) (.rng1 (.blt .len (.cons (.var 1) .nil))) (.cons (.ite (.not (.call 32 (.cons (.sub (.var 0) (.var 2)) (.cons (.sub (.var 1) (.var 2)) .nil)))) (.cons (.ret (.cst (.bl false))) .nil) .nil) .nil)) (.cons (.ret (.cst (.bl true))) .nil))))))))
def f__law_same : Fn := ⟨2, 3, c__law_same, false⟩
def p__law_same : PFn := ⟨⟨("_law_same", none), "_law_same", "_law_same", defArgs (top 38), defBody (top 38), defScope (top 38), [], []⟩, [("actual" : Str), ("expected" : Str), ("k" : Str)], f__law_same, false⟩
theorem b__law_same : BindP p__law_same := .no (by decide +kernel) fun _ _ _ _ _ _ us hl => match us, hl with | [_, _], _ => rfl
def c__law_marks : CSs := (.cons (.set 1 (.sub (.lst (.cons (.cst (.str "")) (.cons (.cst (.str "R")) (.cons (.cst (.str "W")) (.cons (.cst (.str "RW")) .nil))))) (.call 31 (.cons (.var 0) (.cons (.cst (.int 4)) .nil))))) (.cons (.ite (.cmp .eq (.call 31 (.cons (.var 0) (.cons (.cst (.int 8)) .nil))) (.cst (.int 1))) (.cons (.set 2 (.sub (.cst (.str "ABCDEFGHIJKLMNOPQRSTUVWXYZ")) (.call 31 (.cons (.var 0) (.cons (.cst (.int 26)) .nil))))) (.cons (.ite (.cmp .notin (.var 2) (.var 1)) (.cons (.set 1 (.bm .join (.cst (.str "")) (.cons (.blt .sorted (.cons (.bin .add (.var 1) (.var 2)) .nil)) .nil))) .nil) .nil) .nil)) .nil) (.cons (.ret (.var 1)) .nil)))
def f__law_marks : Fn := ⟨1, 3, c__law_marks, false⟩
def p__law_marks : PFn := ⟨⟨("_law_marks", none), "_law_marks", "_law_marks", defArgs (top 39), defBody (top 39), defScope (top 39), [], []⟩, [("draws" : Str), ("marks" : Str), ("letter" : Str)], f__law_marks, false⟩
theorem b__law_marks : BindP p__law_marks := .no (by decide +kernel) fun _ _ _ _ _ _ us hl => match us, hl with | [_], _ => rfl
def c__law_stamp : CSs := (.cons (.set 2 (.call 31 (.cons (.var 0) (.cons (.cst (.int 4)) .nil)))) (.cons (.ite (.cmp .eq (.var 2) (.cst (.int 0))) (.cons (.ret (.tup (.cons (.bin .add (.bin .mul (.cst (.int 64)) (.bin .add (.cst (.int 10)) (.var 1))) (.var 1)) (.cons (.call 31 (.cons (.var 0) (.cons (.cst (.int 100)) .nil))) .nil)))) .nil) .nil) (.cons (.ite (.cmp .eq (.var 2) (.cst (.int 1))) (.cons (.ret (.tup (.cons (.bin .add (.bin .mul (.cst (.int 64)) (.call 31 (.cons (.var 0) (.cons (.cst (.int 50)) .nil)))) (.var 1)) (.cons (.call 31 (.cons (.var 0) (.cons (.cst (.int 100)) .nil))) .nil)))) .nil) .nil) (.cons (.ite (.cmp .eq (.var 2) (.cst (.int 2))) (.cons (.ret (.tup (.cons (.bin .add (.bin .mul (.cst (.int 64)) (.call 31 (.cons (.var 0) (.cons (.bin .pow (.cst (.int 10)) (.cst (.int 10))) .nil)))) (.var 1)) (.cons (.call 31 (.cons (.var 0) (.cons (.cst (.int 100)) .nil))) .nil)))) .nil) .nil) (.cons (.ret (.tup (.cons (.bin .add (.bin .mul (.cst (.int 64)) (.call 31 (.cons (.var 0) (.cons (.cst (.int 3)) .nil)))) (.cst (.int 50))) (.cons (.var 1) .nil)))) .nil)))))
def f__law_stamp : Fn := ⟨2, 3, c__law_stamp, false⟩
def p__law_stamp : PFn := ⟨⟨("_law_stamp", none), "_law_stamp", "_law_stamp", defArgs (top 40), defBody (top 40), defScope (top 40), [], []⟩, [("draws" : Str), ("number" : Str), ("mode" : Str)], f__law_stamp, false⟩
theorem b__law_stamp : BindP p__law_stamp := .no (by decide +kernel) fun _ _ _ _ _ _ us hl => match us, hl with | [_, _], _ => rfl
def c__law_seen : CSs := (.cons (.set 2 (.blt .len (.cons (.var 1) .nil))) (.cons (.set 3 (.call 31 (.cons (.var 0) (.cons (.cst (.int 4)) .nil)))) (.cons (.ite (.cmp .eq (.var 3) (.cst (.int 1))) (.cons (.ret (.rgl false (.rng1 (.var 2)))) .nil) .nil) (.cons (.setN 4 (.lst .nil)) (.cons (.for_ (.name 5) (.rng1 (.var 2)) (.cons (.ite (.cmp .eq (.call 31 (.cons (.var 0) (.cons (.bin .add (.cst (.int 2)) (.var 3)) .nil))) (.cst (.int 1))) (.cons (.app 4 (.var 5)) .nil) .nil) .nil)) (.cons (.ite (.cmp .eq (.var 3) (.cst (.int 3))) (.cons (.for_ (.name 5) (.of (.blt .list (.cons (.var 4) .nil))) (.cons (.for_ (.name 6) (.of (.sub (.sub (.var 1) (.var 5)) (.cst (.int 4)))) (.cons (.ite (.cmp .notin (.var 6) (.var 4)) (.cons (.app 4 (.var 6)) .nil) .nil) .nil)) .nil)) .nil) .nil) (.cons (.ret (.blt .sorted (.cons (.var 4) .nil))) .nil)))))))
def f__law_seen : Fn := ⟨2, 7, c__law_seen, false⟩
def p__law_seen : PFn := ⟨⟨("_law_seen", none), "_law_seen", "_law_seen", defArgs (top 41), defBody (top 41), defScope (top 41), [], []⟩, [("draws" : Str), ("rows" : Str), ("count" : Str), ("mode" : Str), ("seen" : Str), ("k" : Str), ("other" : Str)], f__law_seen, false⟩
theorem b__law_seen : BindP p__law_seen := .no (by decide +kernel) fun _ _ _ _ _ _ us hl => match us, hl with | [_, _], _ => rfl
def c__law_rows : CSs := (.cons (.setN 2 (.lst .nil)) (.cons (.for_ (.name 3) (.rng1 (.call 31 (.cons (.var 0) (.cons (.bin .add (.var 1) (.cst (.int 1))) .nil)))) (.cons (.set 4 (.call 31 (.cons (.var 0) (.cons (.cst (.int 3)) .nil)))) (.cons (.set 5 (.call 31 (.cons (.var 0) (.cons (.cst (.int 2)) .nil)))) (.cons (.ite (.cmp .eq (.call 31 (.cons (.var 0) (.cons (.cst (.int 8)) .nil))) (.cst (.int 1))) (.cons (.set 4 (.call 31 (.cons (.var 0) (.cons (.cst (.int 40)) .nil)))) (.cons (.set 5 (.call 31 (.cons (.var 0) (.cons (.cst (.int 100)) .nil)))) .nil)) .nil) (.cons (.set 6 (.call 33 (.cons (.var 0) .nil))) (.cons (.set 7 (.call 34 (.cons (.var 0) (.cons (.var 3) .nil)))) (.cons (.app 2 (.tup (.cons (.var 4) (.cons (.var 5) (.cons (.var 6) (.cons (.var 7) (.cons (.blt .tuple (.cons (.callb 35 (.cons (.var 0) (.cons (.var 2) .nil))) .nil)) .nil))))))) .nil))))))) (.cons (.frz 2) (.cons (.ret (.var 2)) .nil))))
def f__law_rows : Fn := ⟨2, 8, c__law_rows, false⟩
def p__law_rows : PFn := ⟨⟨("_law_rows", none), "_law_rows", "_law_rows", defArgs (top 42), defBody (top 42), defScope (top 42), [], []⟩, [("draws" : Str), ("most" : Str), ("rows" : Str), ("number" : Str), ("session" : Str), ("item" : Str), ("marks" : Str), ("stamp" : Str)], f__law_rows, false⟩
theorem b__law_rows : BindP p__law_rows := .no (by decide +kernel) fun _ _ _ _ _ _ us hl => match us, hl with | [_, _], _ => rfl
def c__law_event : CSs := (.cons (.set 1 (.make 1 (.cons (.sub (.sub (.var 0) (.cst (.int 3))) (.cst (.int 0))) (.cons (.sub (.sub (.var 0) (.cst (.int 3))) (.cst (.int 1))) .nil)))) (.cons (.ret (.makek 0 (.cons (.sub (.var 0) (.cst (.int 0))) .nil) (.cons (.sub (.var 0) (.cst (.int 1))) (.cons (.sub (.var 0) (.cst (.int 2))) (.cons (.var 1) (.cons (.blt .list (.cons (.sub (.var 0) (.cst (.int 4))) .nil)) .nil)))))) .nil))
def f__law_event : Fn := ⟨1, 2, c__law_event, false⟩
def p__law_event : PFn := ⟨⟨("_law_event", none), "_law_event", "_law_event", defArgs (top 43), defBody (top 43), defScope (top 43), [], []⟩, [("row" : Str), ("stamp" : Str)], f__law_event, false⟩
theorem b__law_event : BindP p__law_event := .no (by decide +kernel) fun _ _ _ _ _ _ us hl => match us, hl with | [_], _ => rfl
def c__law_run : CSs := (.cons (.ret (.make 2 (.cons (.lc (.call 37 (.cons (.var 1) .nil)) [1] (.name 1) (.of (.var 0)) .none) .nil))) .nil)
def f__law_run : Fn := ⟨1, 2, c__law_run, false⟩
def p__law_run : PFn := ⟨⟨("_law_run", none), "_law_run", "_law_run", defArgs (top 44), defBody (top 44), defScope (top 44), [], []⟩, [("rows" : Str), ("row" : Str)], f__law_run, false⟩
theorem b__law_run : BindP p__law_run := .no (by decide +kernel) fun _ _ _ _ _ _ us hl => match us, hl with | [_], _ => rfl
def c__law_whole_number : CSs := (.cons (.ret (.and (.cons (.isi (.var 0) .int) (.cons (.not (.isi (.var 0) .bool)) (.cons (.chain .le .le (.var 1) (.var 0) (.var 2)) .nil))))) .nil)
def f__law_whole_number : Fn := ⟨3, 3, c__law_whole_number, false⟩
def p__law_whole_number : PFn := ⟨⟨("_law_whole_number", none), "_law_whole_number", "_law_whole_number", defArgs (top 45), defBody (top 45), defScope (top 45), [], []⟩, [("value" : Str), ("low" : Str), ("high" : Str)], f__law_whole_number, false⟩
theorem b__law_whole_number : BindP p__law_whole_number := .no (by decide +kernel) fun _ _ _ _ _ _ us hl => match us, hl with | [_, _, _], _ => rfl
def c__law_good_row : CSs := (.cons (.ite (.or (.cons (.not (.isi (.var 0) .tuple)) (.cons (.cmp .ne (.blt .len (.cons (.var 0) .nil)) (.cst (.int 5))) (.cons (.not (.isi (.sub (.var 0) (.cst (.int 2))) .str)) .nil)))) (.cons (.ret (.cst (.bl false))) .nil) .nil) (.cons (.ite (.or (.cons (.not (.call 39 (.cons (.sub (.var 0) (.cst (.int 0))) (.cons (.cst (.int 0)) (.cons (.cst (.int 39)) .nil))))) (.cons (.not (.call 39 (.cons (.sub (.var 0) (.cst (.int 1))) (.cons (.cst (.int 0)) (.cons (.cst (.int 99)) .nil))))) .nil))) (.cons (.ret (.cst (.bl false))) .nil) .nil) (.cons (.for_ (.name 2) (.rng1 (.blt .len (.cons (.sub (.var 0) (.cst (.int 2))) .nil))) (.cons (.ite (.or (.cons (.cmp .notin (.sub (.sub (.var 0) (.cst (.int 2))) (.var 2)) (.cst (.str "ABCDEFGHIJKLMNOPQRSTUVWXYZ"))) (.cons (.and (.cons (.cmp .gt (.var 2) (.cst (.int 0))) (.cons (.cmp .le (.sub (.sub (.var 0) (.cst (.int 2))) (.var 2)) (.sub (.sub (.var 0) (.cst (.int 2))) (.bin .sub (.var 2) (.cst (.int 1))))) .nil))) .nil))) (.cons (.ret (.cst (.bl false))) .nil) .nil) .nil)) (.cons (.ite (.or (.cons (.not (.isi (.sub (.var 0) (.cst (.int 3))) .tuple)) (.cons (.cmp .ne (.blt .len (.cons (.sub (.var 0) (.cst (.int 3))) .nil)) (.cst (.int 2))) (.cons (.not (.isi (.sub (.var 0) (.cst (.int 4))) .tuple)) .nil)))) (.cons (.ret (.cst (.bl false))) .nil) .nil) (.cons (.ite (.or (.cons (.not (.call 39 (.cons (.sub (.sub (.var 0) (.cst (.int 3))) (.cst (.int 0))) (.cons (.cst (.int 0)) (.cons (.bin .pow (.cst (.int 10)) (.cst (.int 12))) .nil))))) (.cons (.not (.call 39 (.cons (.sub (.sub (.var 0) (.cst (.int 3))) (.cst (.int 1))) (.cons (.cst (.int 0)) (.cons (.cst (.int 99)) .nil))))) .nil))) (.cons (.ret (.cst (.bl false))) .nil) .nil) (.cons (.for_ (.name 2) (.rng1 (.blt .len (.cons (.sub (.var 0) (.cst (.int 4))) .nil))) (.cons (.ite (.or (.cons (.not (.call 39 (.cons (.sub (.sub (.var 0) (.cst (.int 4))) (.var 2)) (.cons (.cst (.int 0)) (.cons (.bin .sub (.var 1) (.cst (.int 1))) .nil))))) (.cons (.and (.cons (.cmp .gt (.var 2) (.cst (.int 0))) (.cons (.cmp .le (.sub (.sub (.var 0) (.cst (.int 4))) (.var 2)) (.sub (.sub (.var 0) (.cst (.int 4))) (.bin .sub (.var 2) (.cst (.int 1))))) .nil))) .nil))) (.cons (.ret (.cst (.bl false))) .nil) .nil) .nil)) (.cons (.ret (.cst (.bl true))) .nil)))))))
def f__law_good_row : Fn := ⟨2, 3, c__law_good_row, false⟩
def p__law_good_row : PFn := ⟨⟨("_law_good_row", none), "_law_good_row", "_law_good_row", defArgs (top 46), defBody (top 46), defScope (top 46), [], []⟩, [("row" : Str), ("number" : Str), ("k" : Str)], f__law_good_row, false⟩
theorem b__law_good_row : BindP p__law_good_row := .no (by decide +kernel) fun _ _ _ _ _ _ us hl => match us, hl with | [_, _], _ => rfl
def c__law_told_rows : CSs := (.cons (.ite (.not (.isi (.var 0) (.own 2))) (.cons (.ret (.cst .non)) .nil) .nil) (.cons (.set 1 (.lc (.meth (.var 3) 10 .nil) [3] (.name 3) (.ownI (.var 0)) .none)) (.cons (.ite (.cmp .ne (.blt .len (.cons (.var 1) .nil)) (.lenO (.var 0))) (.cons (.ret (.cst .non)) .nil) .nil) (.cons (.for_ (.name 2) (.rng1 (.blt .len (.cons (.var 1) .nil))) (.cons (.ite (.not (.call 40 (.cons (.sub (.var 1) (.var 2)) (.cons (.var 2) .nil)))) (.cons (.ret (.cst .non)) .nil) .nil) (.cons (.ite (.cmp .isin (.sub (.sub (.var 1) (.var 2)) (.cst (.int 3))) (.lc (.sub (.var 4) (.cst (.int 3))) [4] (.name 4) (.of (.slice (.var 1) .none (.some (.var 2)))) .none)) (.cons (.ret (.cst .non)) .nil) .nil) .nil))) (.cons (.ret (.var 1)) .nil)))))
def f__law_told_rows : Fn := ⟨1, 5, c__law_told_rows, false⟩
def p__law_told_rows : PFn := ⟨⟨("_law_told_rows", none), "_law_told_rows", "_law_told_rows", defArgs (top 47), defBody (top 47), defScope (top 47), [], []⟩, [("run" : Str), ("rows" : Str), ("number" : Str), ("event" : Str), ("row" : Str)], f__law_told_rows, false⟩
theorem b__law_told_rows : BindP p__law_told_rows := .no (by decide +kernel) fun _ _ _ _ _ _ us hl => match us, hl with | [_], _ => rfl
def c__law_holds : CSs := (.cons (.ite (.cmp .eq (.blt .len (.cons (.var 1) .nil)) (.cst (.int 1))) (.cons (.ret (.cst (.bl false))) .nil) .nil) (.cons (.set 3 (.sub (.var 2) (.sub (.var 1) (.cst (.int 1))))) (.cons (.ite (.cmp .eq (.blt .len (.cons (.var 1) .nil)) (.cst (.int 2))) (.cons (.ret (.cmp .isin (.sub (.var 1) (.cst (.int 0))) (.blt .list (.cons (.sub (.sub (.var 0) (.var 3)) (.cst (.int 2))) .nil)))) .nil) .nil) (.cons (.set 4 (.sub (.var 2) (.sub (.var 1) (.cst (.int 2))))) (.cons (.set 5 (.sub (.var 1) (.cst (.int 0)))) (.cons (.ite (.cmp .eq (.var 5) (.cst (.str "bf"))) (.cons (.ret (.cmp .lt (.var 3) (.var 4))) .nil) .nil) (.cons (.ite (.cmp .eq (.var 5) (.cst (.str "ss"))) (.cons (.ret (.cmp .eq (.sub (.sub (.var 0) (.var 3)) (.cst (.int 0))) (.sub (.sub (.var 0) (.var 4)) (.cst (.int 0))))) .nil) .nil) (.cons (.ite (.cmp .eq (.var 5) (.cst (.str "si"))) (.cons (.ret (.cmp .eq (.sub (.sub (.var 0) (.var 3)) (.cst (.int 1))) (.sub (.sub (.var 0) (.var 4)) (.cst (.int 1))))) .nil) .nil) (.cons (.ite (.cmp .eq (.var 5) (.cst (.str "so"))) (.cons (.ret (.and (.cons (.cmp .lt (.var 3) (.var 4)) (.cons (.cmp .eq (.sub (.sub (.var 0) (.var 3)) (.cst (.int 0))) (.sub (.sub (.var 0) (.var 4)) (.cst (.int 0)))) .nil)))) .nil) .nil) (.cons (.ite (.cmp .eq (.var 5) (.cst (.str "vis"))) (.cons (.ret (.cmp .isin (.var 3) (.sub (.sub (.var 0) (.var 4)) (.cst (.int 4))))) .nil) .nil) (.cons (.ret (.cmp .lt (.sub (.sub (.var 0) (.var 3)) (.cst (.int 3))) (.sub (.sub (.var 0) (.var 4)) (.cst (.int 3))))) .nil)))))))))))
def f__law_holds : Fn := ⟨3, 6, c__law_holds, false⟩
def p__law_holds : PFn := ⟨⟨("_law_holds", none), "_law_holds", "_law_holds", defArgs (top 48), defBody (top 48), defScope (top 48), [], []⟩, [("rows" : Str), ("atom" : Str), ("choice" : Str), ("x" : Str), ("y" : Str), ("word" : Str)], f__law_holds, false⟩
theorem b__law_holds : BindP p__law_holds := .no (by decide +kernel) fun _ _ _ _ _ _ us hl => match us, hl with | [_, _, _], _ => rfl
def c__law_order : CSs := (.cons (.setN 2 (.rgl false (.rng1 (.var 1)))) (.cons (.setN 3 (.lst .nil)) (.cons (.for_ (.name 4) (.rng1 (.var 1)) (.cons (.appPop 3 2 (.call 31 (.cons (.var 0) (.cons (.blt .len (.cons (.var 2) .nil)) .nil)))) .nil)) (.cons (.frz 3) (.cons (.ret (.var 3)) .nil)))))
def f__law_order : Fn := ⟨2, 5, c__law_order, false⟩
def p__law_order : PFn := ⟨⟨("_law_order", none), "_law_order", "_law_order", defArgs (top 49), defBody (top 49), defScope (top 49), [], []⟩, [("draws" : Str), ("size" : Str), ("left" : Str), ("order" : Str), ("k" : Str)], f__law_order, false⟩
theorem b__law_order : BindP p__law_order := .no (by decide +kernel) fun _ _ _ _ _ _ us hl => match us, hl with | [_, _], _ => rfl
def c__law_four : CSs := (.cons (.set 1 (.call 31 (.cons (.var 0) (.cons (.cst (.int 39)) .nil)))) (.cons (.set 2 (.call 31 (.cons (.var 0) (.cons (.cst (.int 99)) .nil)))) (.cons (.ret (.lst (.cons (.tup (.cons (.var 1) (.cons (.var 2) (.cons (.cst (.str "W")) (.cons (.tup (.cons (.cst (.int 5)) (.cons (.cst (.int 1)) .nil))) (.cons (.tup .nil) .nil)))))) (.cons (.tup (.cons (.var 1) (.cons (.bin .add (.var 2) (.cst (.int 1))) (.cons (.cst (.str "R")) (.cons (.tup (.cons (.cst (.int 3)) (.cons (.cst (.int 0)) .nil))) (.cons (.tup .nil) .nil)))))) (.cons (.tup (.cons (.bin .add (.var 1) (.cst (.int 1))) (.cons (.var 2) (.cons (.cst (.str "RW")) (.cons (.tup (.cons (.cst (.int 5)) (.cons (.cst (.int 0)) .nil))) (.cons (.tup (.cons (.cst (.int 0)) .nil)) .nil)))))) (.cons (.tup (.cons (.bin .add (.var 1) (.cst (.int 1))) (.cons (.var 2) (.cons (.cst (.str "R")) (.cons (.tup (.cons (.cst (.int 9)) (.cons (.cst (.int 9)) .nil))) (.cons (.tup (.cons (.cst (.int 2)) .nil)) .nil)))))) .nil)))))) .nil)))
def f__law_four : Fn := ⟨1, 3, c__law_four, false⟩
def p__law_four : PFn := ⟨⟨("_law_four", none), "_law_four", "_law_four", defArgs (top 50), defBody (top 50), defScope (top 50), [], []⟩, [("draws" : Str), ("session" : Str), ("item" : Str)], f__law_four, false⟩
theorem b__law_four : BindP p__law_four := .no (by decide +kernel) fun _ _ _ _ _ _ us hl => match us, hl with | [_], _ => rfl
def c__law_all_atoms : CSs := (.cons (.setN 2 (.lst (.cons (.tup (.cons (.cst (.str "never")) .nil)) .nil))) (.cons (.for_ (.name 3) (.rng1 (.var 0)) (.cons (.for_ (.name 4) (.of (.var 1)) (.cons (.app 2 (.tup (.cons (.var 4) (.cons (.var 3) .nil)))) .nil)) (.cons (.for_ (.name 5) (.rng1 (.var 0)) (.cons (.ite (.cmp .ne (.var 3) (.var 5)) (.cons (.for_ (.name 6) (.of (.lst (.cons (.cst (.str "bf")) (.cons (.cst (.str "so")) (.cons (.cst (.str "vis")) (.cons (.cst (.str "ar")) (.cons (.cst (.str "ss")) (.cons (.cst (.str "si")) .nil)))))))) (.cons (.app 2 (.tup (.cons (.var 6) (.cons (.var 3) (.cons (.var 5) .nil))))) .nil)) .nil) .nil) .nil)) .nil))) (.cons (.frz 2) (.cons (.ret (.var 2)) .nil))))
def f__law_all_atoms : Fn := ⟨2, 7, c__law_all_atoms, false⟩
def p__law_all_atoms : PFn := ⟨⟨("_law_all_atoms", none), "_law_all_atoms", "_law_all_atoms", defArgs (top 51), defBody (top 51), defScope (top 51), [], []⟩, [("size" : Str), ("letters" : Str), ("atoms" : Str), ("x" : Str), ("letter" : Str), ("y" : Str), ("word" : Str)], f__law_all_atoms, false⟩
theorem b__law_all_atoms : BindP p__law_all_atoms := .no (by decide +kernel) fun _ _ _ _ _ _ us hl => match us, hl with | [_, _], _ => rfl
def c__law_choice : CSs := (.cons (.set 2 (.bin .sub (.cst (.int 4)) (.call 31 (.cons (.var 0) (.cons (.cst (.int 4)) .nil))))) (.cons (.ret (.blt .tuple (.cons (.slice (.call 43 (.cons (.var 0) (.cons (.var 1) .nil))) .none (.some (.var 2))) .nil))) .nil))
def f__law_choice : Fn := ⟨2, 3, c__law_choice, false⟩
def p__law_choice : PFn := ⟨⟨("_law_choice", none), "_law_choice", "_law_choice", defArgs (top 52), defBody (top 52), defScope (top 52), [], []⟩, [("draws" : Str), ("count" : Str), ("size" : Str)], f__law_choice, false⟩
theorem b__law_choice : BindP p__law_choice := .no (by decide +kernel) fun _ _ _ _ _ _ us hl => match us, hl with | [_, _], _ => rfl
def c_law : CSs := (.cons (.set 1 (.call 30 (.cons (.var 0) .nil))) (.cons (.set 2 (.call 36 (.cons (.var 1) (.cons (.cst (.int 8)) .nil)))) (.cons (.set 3 (.call 44 (.cons (.var 1) .nil))) (.cons (.ite (.cmp .eq (.blt .len (.cons (.var 2) .nil)) (.cst (.int 0))) (.cons (.set 2 (.slice (.var 3) .none (.some (.cst (.int 3))))) .nil) .nil) (.cons (.set 4 (.call 38 (.cons (.var 2) .nil))) (.cons (.set 5 (.call 38 (.cons (.var 3) .nil))) (.cons (.set 6 (.call 46 (.cons (.var 1) (.cons (.blt .len (.cons (.var 2) .nil)) .nil)))) (.cons (.set 7 (.call 46 (.cons (.var 1) (.cons (.cst (.int 4)) .nil)))) (.cons (.set 8 (.cst (.str "ABCDEFGHIJKLMNOPQRSTUVWXYZ"))) (.cons (.set 9 (.lst (.cons (.cst (.str "W")) (.cons (.cst (.str "R")) (.cons (.sub (.var 8) (.call 31 (.cons (.var 1) (.cons (.cst (.int 26)) .nil)))) (.cons (.sub (.var 8) (.call 31 (.cons (.var 1) (.cons (.cst (.int 26)) .nil)))) .nil)))))) (.cons (.for_ (.name 10) (.of (.call 45 (.cons (.blt .len (.cons (.var 6) .nil)) (.cons (.var 9) .nil)))) (.cons (.ite (.not (.call 32 (.cons (.meth (.var 4) 11 (.cons (.var 10) (.cons (.var 6) .nil))) (.cons (.call 42 (.cons (.var 2) (.cons (.var 10) (.cons (.var 6) .nil)))) .nil)))) (.cons (.ret (.cst (.bl false))) .nil) .nil) (.cons (.ite (.cmp .ge (.blt .len (.cons (.var 7) .nil)) (.blt .len (.cons (.var 6) .nil))) (.cons (.ite (.not (.call 32 (.cons (.meth (.var 5) 11 (.cons (.var 10) (.cons (.var 7) .nil))) (.cons (.call 42 (.cons (.var 3) (.cons (.var 10) (.cons (.var 7) .nil)))) .nil)))) (.cons (.ret (.cst (.bl false))) .nil) .nil) .nil) .nil) .nil))) (.cons (.for_ (.name 10) (.of (.call 45 (.cons (.blt .len (.cons (.var 7) .nil)) (.cons (.var 9) .nil)))) (.cons (.ite (.not (.call 32 (.cons (.meth (.var 5) 11 (.cons (.var 10) (.cons (.var 7) .nil))) (.cons (.call 42 (.cons (.var 3) (.cons (.var 10) (.cons (.var 7) .nil)))) .nil)))) (.cons (.ret (.cst (.bl false))) .nil) .nil) .nil)) (.cons (.ret (.and (.cons (.call 32 (.cons (.call 41 (.cons (.var 4) .nil)) (.cons (.var 2) .nil))) (.cons (.call 32 (.cons (.call 41 (.cons (.var 5) .nil)) (.cons (.var 3) .nil))) .nil)))) .nil)))))))))))))
def f_law : Fn := ⟨1, 11, c_law, false⟩
def p_law : PFn := ⟨⟨("law", none), "law", "law", defArgs (top 53), defBody (top 53), defScope (top 53), [], []⟩, [("script" : Str), ("draws" : Str), ("rows" : Str), ("other" : Str), ("first" : Str), ("second" : Str), ("choice" : Str), ("chosen" : Str), ("alphabet" : Str), ("letters" : Str), ("atom" : Str)], f_law, false⟩
theorem b_law : BindP p_law := .no (by decide +kernel) fun _ _ _ _ _ _ us hl => match us, hl with | [_], _ => rfl
def tab : Tab := ⟨[(("lines_of" : Str), (none : Option Str)), (("read_number" : Str), (none : Option Str)), (("read_numbers" : Str), (none : Option Str)), (("read_marks" : Str), (none : Option Str)), (("read_stamp_parts" : Str), (none : Option Str)), (("read_event_parts" : Str), (none : Option Str)), (("check_marks" : Str), (none : Option Str)), (("Event" : Str), some ("__init__" : Str)), (("Event" : Str), some ("__eq__" : Str)), (("Event" : Str), some ("has" : Str)), (("Event" : Str), some ("row" : Str)), (("Stamp" : Str), some ("__init__" : Str)), (("Stamp" : Str), some ("__eq__" : Str)), (("Stamp" : Str), some ("__lt__" : Str)), (("Stamp" : Str), some ("__le__" : Str)), (("Stamp" : Str), some ("__add__" : Str)), (("Stamp" : Str), some ("__radd__" : Str)), (("Stamp" : Str), some ("__str__" : Str)), (("first_invalid" : Str), (none : Option Str)), (("related" : Str), (none : Option Str)), (("with_line" : Str), (none : Option Str)), (("Run" : Str), some ("__init__" : Str)), (("Run" : Str), some ("__iter__" : Str)), (("Run" : Str), some ("__len__" : Str)), (("Run" : Str), some ("__getitem__" : Str)), (("Run" : Str), some ("__eq__" : Str)), (("Run" : Str), some ("__add__" : Str)), (("Run" : Str), some ("replaced" : Str)), (("Run" : Str), some ("holds" : Str)), (("Run" : Str), some ("part" : Str)), (("_law_start" : Str), (none : Option Str)), (("_law_draw" : Str), (none : Option Str)), (("_law_same" : Str), (none : Option Str)), (("_law_marks" : Str), (none : Option Str)), (("_law_stamp" : Str), (none : Option Str)), (("_law_seen" : Str), (none : Option Str)), (("_law_rows" : Str), (none : Option Str)), (("_law_event" : Str), (none : Option Str)), (("_law_run" : Str), (none : Option Str)), (("_law_whole_number" : Str), (none : Option Str)), (("_law_good_row" : Str), (none : Option Str)), (("_law_told_rows" : Str), (none : Option Str)), (("_law_holds" : Str), (none : Option Str)), (("_law_order" : Str), (none : Option Str)), (("_law_four" : Str), (none : Option Str)), (("_law_all_atoms" : Str), (none : Option Str)), (("_law_choice" : Str), (none : Option Str)), (("law" : Str), (none : Option Str))], [("Event" : Str), ("Stamp" : Str), ("Run" : Str)], [("PromiseError" : Str), ("InvalidStamp" : Str), ("InvalidEvent" : Str), ("InvalidRun" : Str), ("OutOfBounds" : Str), ("UnknownName" : Str), ("UnknownEvent" : Str), ("InvalidText" : Str)], [("MOST_DIGITS" : Str), ("DIGITS" : Str), ("CAPITALS" : Str), ("MOST_SESSION" : Str), ("MOST_ITEM" : Str), ("MOST_PLACE" : Str), ("MOST_COUNT" : Str)], [("session" : Str), ("item" : Str), ("marks" : Str), ("stamp" : Str), ("seen" : Str), ("place" : Str), ("count" : Str), ("LIMIT" : Str), ("_events" : Str), ("has" : Str), ("row" : Str), ("holds" : Str), ("replaced" : Str), ("part" : Str)], [1, 2], [3, 4, 5], [(0, 1, [("item" : Str), ("marks" : Str), ("stamp" : Str), ("seen" : Str)])]⟩
def gv : List D := [(.int (13)), (.str "0123456789"), (.str "ABCDEFGHIJKLMNOPQRSTUVWXYZ"), (.int (39)), (.int (99)), (.int (99)), (.int (1000000000000))]
def kf_0 : KF := ⟨0, 1, [("item" : Str), ("marks" : Str), ("stamp" : Str), ("seen" : Str)], [], [.inl 0, .inl 1, .inl 2, .inl 3]⟩
theorem bk_0 : BindK p_Event___init__ kf_0 := fun D doc pm an cdv ct us mv ws l1 l2 l3 => match us, mv, ws, l1, l2, l3 with
  | [_, _], [], [_, _, _, _], _, _, _ => rfl
def pr : Pr := ⟨tab, [p_lines_of, p_read_number, p_read_numbers, p_read_marks, p_read_stamp_parts, p_read_event_parts, p_check_marks, p_Event___init__, p_Event___eq__, p_Event_has, p_Event_row, p_Stamp___init__, p_Stamp___eq__, p_Stamp___lt__, p_Stamp___le__, p_Stamp___add__, p_Stamp___radd__, p_Stamp___str__, p_first_invalid, p_related, p_with_line, p_Run___init__, p_Run___iter__, p_Run___len__, p_Run___getitem__, p_Run___eq__, p_Run___add__, p_Run_replaced, p_Run_holds, p_Run_part, p__law_start, p__law_draw, p__law_same, p__law_marks, p__law_stamp, p__law_seen, p__law_rows, p__law_event, p__law_run, p__law_whole_number, p__law_good_row, p__law_told_rows, p__law_holds, p__law_order, p__law_four, p__law_all_atoms, p__law_choice, p_law], gv, [(0, 0), (0, 1), (0, 2), (0, 3), (0, 4), (1, 6), (1, 5), (2, 8)], [((0, 9), 9), ((0, 10), 10), ((2, 12), 27), ((2, 11), 28), ((2, 13), 29)], [(0, 7), (1, 11), (2, 21)], [((3, 3), true), ((3, 4), false), ((3, 5), false), ((3, 6), false), ((3, 7), false), ((3, 8), false), ((3, 9), false), ((3, 10), false), ((4, 3), true), ((4, 4), true), ((4, 5), false), ((4, 6), false), ((4, 7), false), ((4, 8), false), ((4, 9), false), ((4, 10), false), ((5, 3), true), ((5, 4), false), ((5, 5), true), ((5, 6), false), ((5, 7), false), ((5, 8), false), ((5, 9), false), ((5, 10), false), ((6, 3), true), ((6, 4), false), ((6, 5), false), ((6, 6), true), ((6, 7), false), ((6, 8), false), ((6, 9), false), ((6, 10), false), ((7, 3), true), ((7, 4), false), ((7, 5), false), ((7, 6), false), ((7, 7), true), ((7, 8), false), ((7, 9), false), ((7, 10), false), ((8, 3), true), ((8, 4), false), ((8, 5), false), ((8, 6), false), ((8, 7), false), ((8, 8), true), ((8, 9), false), ((8, 10), false), ((9, 3), true), ((9, 4), false), ((9, 5), false), ((9, 6), false), ((9, 7), false), ((9, 8), false), ((9, 9), true), ((9, 10), false), ((10, 3), true), ((10, 4), false), ((10, 5), false), ((10, 6), false), ((10, 7), false), ((10, 8), false), ((10, 9), false), ((10, 10), true)], [((0, (.cmp .eq)), 8), ((0, (.cmp .ne)), 8), ((1, (.cmp .eq)), 12), ((1, (.cmp .ne)), 12), ((1, (.cmp .lt)), 13), ((1, (.cmp .le)), 14), ((1, (.bin .add)), 15), ((2, .len), 23), ((2, .item), 24), ((2, (.cmp .eq)), 25), ((2, (.cmp .ne)), 25), ((2, (.bin .add)), 26)], [], [], [kf_0], [], [((2, 7), (.int (40)))], [((2, 8), 22)]⟩
theorem t_lines_of : chkFn tab p_lines_of = true := by decide +kernel
theorem t_read_number : chkFn tab p_read_number = true := by decide +kernel
theorem t_read_numbers : chkFn tab p_read_numbers = true := by decide +kernel
theorem t_read_marks : chkFn tab p_read_marks = true := by decide +kernel
theorem t_read_stamp_parts : chkFn tab p_read_stamp_parts = true := by decide +kernel
theorem t_read_event_parts : chkFn tab p_read_event_parts = true := by decide +kernel
theorem t_check_marks : chkFn tab p_check_marks = true := by decide +kernel
theorem t_Event___init__ : chkFn tab p_Event___init__ = true := by decide +kernel
theorem t_Event___eq__ : chkFn tab p_Event___eq__ = true := by decide +kernel
theorem t_Event_has : chkFn tab p_Event_has = true := by decide +kernel
theorem t_Event_row : chkFn tab p_Event_row = true := by decide +kernel
theorem t_Stamp___init__ : chkFn tab p_Stamp___init__ = true := by decide +kernel
theorem t_Stamp___eq__ : chkFn tab p_Stamp___eq__ = true := by decide +kernel
theorem t_Stamp___lt__ : chkFn tab p_Stamp___lt__ = true := by decide +kernel
theorem t_Stamp___le__ : chkFn tab p_Stamp___le__ = true := by decide +kernel
theorem t_Stamp___add__ : chkFn tab p_Stamp___add__ = true := by decide +kernel
theorem t_Stamp___radd__ : chkFn tab p_Stamp___radd__ = true := by decide +kernel
theorem t_Stamp___str__ : chkFn tab p_Stamp___str__ = true := by decide +kernel
theorem t_first_invalid : chkFn tab p_first_invalid = true := by decide +kernel
theorem t_related : chkFn tab p_related = true := by decide +kernel
theorem t_with_line : chkFn tab p_with_line = true := by decide +kernel
theorem t_Run___init__ : chkFn tab p_Run___init__ = true := by decide +kernel
theorem t_Run___iter__ : chkFn tab p_Run___iter__ = true := by decide +kernel
theorem t_Run___len__ : chkFn tab p_Run___len__ = true := by decide +kernel
theorem t_Run___getitem__ : chkFn tab p_Run___getitem__ = true := by decide +kernel
theorem t_Run___eq__ : chkFn tab p_Run___eq__ = true := by decide +kernel
theorem t_Run___add__ : chkFn tab p_Run___add__ = true := by decide +kernel
theorem t_Run_replaced : chkFn tab p_Run_replaced = true := by decide +kernel
theorem t_Run_holds : chkFn tab p_Run_holds = true := by decide +kernel
theorem t_Run_part : chkFn tab p_Run_part = true := by decide +kernel
theorem t__law_start : chkFn tab p__law_start = true := by decide +kernel
theorem t__law_draw : chkFn tab p__law_draw = true := by decide +kernel
theorem t__law_same : chkFn tab p__law_same = true := by decide +kernel
theorem t__law_marks : chkFn tab p__law_marks = true := by decide +kernel
theorem t__law_stamp : chkFn tab p__law_stamp = true := by decide +kernel
theorem t__law_seen : chkFn tab p__law_seen = true := by decide +kernel
theorem t__law_rows : chkFn tab p__law_rows = true := by decide +kernel
theorem t__law_event : chkFn tab p__law_event = true := by decide +kernel
theorem t__law_run : chkFn tab p__law_run = true := by decide +kernel
theorem t__law_whole_number : chkFn tab p__law_whole_number = true := by decide +kernel
theorem t__law_good_row : chkFn tab p__law_good_row = true := by decide +kernel
theorem t__law_told_rows : chkFn tab p__law_told_rows = true := by decide +kernel
theorem t__law_holds : chkFn tab p__law_holds = true := by decide +kernel
theorem t__law_order : chkFn tab p__law_order = true := by decide +kernel
theorem t__law_four : chkFn tab p__law_four = true := by decide +kernel
theorem t__law_all_atoms : chkFn tab p__law_all_atoms = true := by decide +kernel
theorem t__law_choice : chkFn tab p__law_choice = true := by decide +kernel
theorem t_law : chkFn tab p_law = true := by decide +kernel
theorem txt : pr.txt = true := by decide +kernel
theorem binds : ∀ q ∈ pr.L, BindP q := by
  intro q hq
  simp only [pr, List.mem_cons, List.not_mem_nil, or_false] at hq
  rcases hq with rfl | rfl | rfl | rfl | rfl | rfl | rfl | rfl | rfl | rfl | rfl | rfl | rfl | rfl | rfl | rfl | rfl | rfl | rfl | rfl | rfl | rfl | rfl | rfl | rfl | rfl | rfl | rfl | rfl | rfl | rfl | rfl | rfl | rfl | rfl | rfl | rfl | rfl | rfl | rfl | rfl | rfl | rfl | rfl | rfl | rfl | rfl | rfl
  · exact b_lines_of
  · exact b_read_number
  · exact b_read_numbers
  · exact b_read_marks
  · exact b_read_stamp_parts
  · exact b_read_event_parts
  · exact b_check_marks
  · exact b_Event___init__
  · exact b_Event___eq__
  · exact b_Event_has
  · exact b_Event_row
  · exact b_Stamp___init__
  · exact b_Stamp___eq__
  · exact b_Stamp___lt__
  · exact b_Stamp___le__
  · exact b_Stamp___add__
  · exact b_Stamp___radd__
  · exact b_Stamp___str__
  · exact b_first_invalid
  · exact b_related
  · exact b_with_line
  · exact b_Run___init__
  · exact b_Run___iter__
  · exact b_Run___len__
  · exact b_Run___getitem__
  · exact b_Run___eq__
  · exact b_Run___add__
  · exact b_Run_replaced
  · exact b_Run_holds
  · exact b_Run_part
  · exact b__law_start
  · exact b__law_draw
  · exact b__law_same
  · exact b__law_marks
  · exact b__law_stamp
  · exact b__law_seen
  · exact b__law_rows
  · exact b__law_event
  · exact b__law_run
  · exact b__law_whole_number
  · exact b__law_good_row
  · exact b__law_told_rows
  · exact b__law_holds
  · exact b__law_order
  · exact b__law_four
  · exact b__law_all_atoms
  · exact b__law_choice
  · exact b_law
theorem bindk : ∀ kf ∈ pr.kfl, ∀ f q, pr.itl.lookup kf.c = some f → pr.L[f]? = some q → BindK q kf := by
  intro kf hk
  simp only [pr, List.mem_cons, List.not_mem_nil, or_false] at hk
  rcases hk with rfl
  · intro f q h1 h2
    obtain rfl : 7 = f := Option.some.inj h1
    obtain rfl : p_Event___init__ = q := Option.some.inj h2
    exact bk_0
abbrev R : PySem.W.OpenRow := PySem.W.OpenLaw.row PySem.Challenge.rw_eitherpromised_k33_run_holds
def names : List Str := [("_wall" : Str), ("PromiseError" : Str), ("InvalidStamp" : Str), ("InvalidEvent" : Str), ("InvalidRun" : Str), ("OutOfBounds" : Str), ("UnknownName" : Str), ("UnknownEvent" : Str), ("InvalidText" : Str), ("DIGITS" : Str), ("CAPITALS" : Str), ("MOST_DIGITS" : Str), ("lines_of" : Str), ("read_number" : Str), ("read_numbers" : Str), ("read_marks" : Str), ("read_stamp_parts" : Str), ("read_event_parts" : Str), ("MOST_SESSION" : Str), ("MOST_ITEM" : Str), ("FIELDS" : Str), ("check_marks" : Str), ("Event" : Str), ("MOST_COUNT" : Str), ("MOST_PLACE" : Str), ("Stamp" : Str), ("first_invalid" : Str), ("related" : Str), ("with_line" : Str), ("Run" : Str), ("_law_start" : Str), ("_law_draw" : Str), ("_law_same" : Str), ("_law_marks" : Str), ("_law_stamp" : Str), ("_law_seen" : Str), ("_law_rows" : Str), ("_law_event" : Str), ("_law_run" : Str), ("_law_whole_number" : Str), ("_law_good_row" : Str), ("_law_told_rows" : Str), ("_law_holds" : Str), ("_law_order" : Str), ("_law_four" : Str), ("_law_all_atoms" : Str), ("_law_choice" : Str)]
abbrev hk : PySem.W.Hook := hookR 5 pr
def ob (s : PySem.W.SharedT) : AlR := obsRG 5 pr (HandSHeadRun.getT s)
theorem ob_eq (s : PySem.W.SharedT) : ob s = hk.obs s.abs := obsRG_eq (HandSHeadRun.getT_eq s)
theorem run (w : World) : HandSHeadRun.RunEq R (PySem.W.view R.prog [53]) hk ob 9000 names w := by
  intro os
  kernel_rfl
/- 0 lines_of, 1 read_number, 2 read_numbers, 3 read_marks, 4 read_stamp_parts, 5 read_event_parts, 6 check_marks, 7 Event___init__, 8 Event___eq__, 9 Event_has, 10 Event_row, 11 Stamp___init__, 12 Stamp___eq__, 13 Stamp___lt__, 14 Stamp___le__, 15 Stamp___add__, 16 Stamp___radd__, 17 Stamp___str__, 18 first_invalid, 19 related, 20 with_line, 21 Run___init__, 22 Run___iter__, 23 Run___len__, 24 Run___getitem__, 25 Run___eq__, 26 Run___add__, 27 Run_replaced, 28 Run_holds, 29 Run_part, 30 _law_start, 31 _law_draw, 32 _law_same, 33 _law_marks, 34 _law_stamp, 35 _law_seen, 36 _law_rows, 37 _law_event, 38 _law_run, 39 _law_whole_number, 40 _law_good_row, 41 _law_told_rows, 42 _law_holds, 43 _law_order, 44 _law_four, 45 _law_all_atoms, 46 _law_choice, 47 law · syms 0 session, 1 item, 2 marks, 3 stamp, 4 seen, 5 place, 6 count, 7 LIMIT, 8 _events, 9 has, 10 row, 11 holds, 12 replaced, 13 part · cls Event, Stamp, Run · exc PromiseError, InvalidStamp, InvalidEvent, InvalidRun, OutOfBounds, UnknownName, UnknownEvent, InvalidText · law 47 top 53 -/
end K33
set_option Elab.async false
set_option linter.all false
set_option maxRecDepth 100000
set_option maxHeartbeats 4000000
namespace K33
open PySem L2 Rf
abbrev gl : Nat → Option D := pr.gl
abbrev fs : Nat → Option Fn := fnsOf pr.L
abbrev Fd (n : Nat) : FTab := calls gl fs pr.tb n
theorem fs31 : fs 31 = some fDraw := rfl
theorem fs32 : fs 32 = some (fSame 32) := rfl
theorem dr (n : Nat) {h : Cells} (q : DS [] h) {lim : Int} (h2 : 1 ≤ lim) (h3 : lim < 2 ^ 62) : ∃ (v : Nat) (h' : Cells), DS [] h' ∧ (v : Int) < lim ∧ (Fd (n + 1)).call 31 [.cell 0, .int lim] h = .ok (.int (v : Int)) h' := by
  obtain ⟨v, h', q', v0, v1, e⟩ := draw fs31 n (tb := pr.tb) (gl := gl) q h2 h3
  obtain ⟨k, rfl⟩ := Int.eq_ofNat_of_zero_le v0
  exact ⟨k, h', q', v1, e⟩
theorem same {m n : Nat} {d : D} {h : Cells} (hp : plnD m d = true) (l : m < n) : (Fd n).call 32 [d, d] h = .ok (.bl true) h := same_le fs32 hp l
/-! ### marks -/
def MOk (m : List Nat) : Prop := m.Pairwise (· < ·) ∧ ∀ x ∈ m, 65 ≤ x ∧ x ≤ 90
instance (m : List Nat) : Decidable (MOk m) := by unfold MOk; infer_instance
theorem rise_len : ∀ {l : List Nat} {a b : Nat}, l.Pairwise (· < ·) → (∀ x ∈ l, a ≤ x ∧ x < b) → l.length ≤ b - a
  | [], _, _, _, _ => Nat.zero_le _
  | x :: l, a, b, hp, hb => by
    obtain ⟨h1, h2⟩ := List.pairwise_cons.mp hp
    have hx := hb x (List.mem_cons_self ..)
    have := rise_len (a := x + 1) (b := b) h2 fun y hy => ⟨h1 y hy, (hb y (List.mem_cons_of_mem _ hy)).2⟩
    rw [List.length_cons]
    omega
theorem rise_lenI : ∀ {l : List Int} {a b : Int}, l.Pairwise (· < ·) → (∀ x ∈ l, a ≤ x ∧ x < b) → (l.length : Int) ≤ max 0 (b - a)
  | [], _, _, _, _ => by simp; omega
  | x :: l, a, b, hp, hb => by
    obtain ⟨h1, h2⟩ := List.pairwise_cons.mp hp
    have hx := hb x (List.mem_cons_self ..)
    have := rise_lenI (a := x + 1) (b := b) h2 fun y hy => ⟨by have := h1 y hy; omega, (hb y (List.mem_cons_of_mem _ hy)).2⟩
    rw [List.length_cons]
    omega
theorem MOk.len {m : List Nat} (h : MOk m) : m.length ≤ 26 := rise_len (a := 65) (b := 91) h.1 fun x hx => ⟨(h.2 x hx).1, by have := (h.2 x hx).2; omega⟩
def caps : Str := "ABCDEFGHIJKLMNOPQRSTUVWXYZ"
theorem caps_sL : caps = sL ((List.range 26).map (65 + ·)) := by decide +kernel
theorem g2 : gl 2 = some (.str caps) := rfl
theorem cap_all : ((List.range 26).all fun u => !(Builtin.Str.occurrences caps (sL [65 + u]) 0 caps.length 1).isEmpty) = true := by decide +kernel
theorem cap_in {c : Nat} (h : 65 ≤ c ∧ c ≤ 90) : isIn (.str (sL [c])) (.str caps) = some true := by
  rw [in_str]
  have := List.all_eq_true.mp cap_all (c - 65) (List.mem_range.mpr (by omega))
  rw [show 65 + (c - 65) = c by omega] at this
  rw [this]
theorem unlike_ok {m : List Nat} (h : MOk m) : unlike (sL m) = true := by
  unfold unlike
  rw [cps_sL]
  simp only [Bool.and_eq_true, decide_eq_true_eq]
  refine ⟨⟨?_, ?_⟩, ?_⟩
  · simp only [sL, List.all_toArray]
    rw [List.all_eq_true]
    intro x hx
    have := (h.2 x hx).2
    simp
    omega
  · exact h.1.imp fun a => Nat.ne_of_lt a
  · have := h.len
    omega
theorem csort_id {m : List Nat} (h : MOk m) : csort m = m := (csort_is (List.Perm.refl _) (h.1.imp Nat.le_of_lt)).symm
theorem strsD_signs : ∀ l : List Nat, strsD (l.map fun c => .str ⟨#[c]⟩) = some (l.map fun c => sL [c])
  | [] => rfl
  | c :: l => by
    show (strsD (l.map fun c => .str ⟨#[c]⟩)).map (_ :: ·) = _
    rw [strsD_signs l]
    rfl
theorem joinL_signs : ∀ l : List Nat, TL.joinL [] (l.map fun c => [c]) = l
  | [] => rfl
  | [c] => rfl
  | c :: d :: l => by
    have := joinL_signs (d :: l)
    rw [List.map_cons] at this
    show [c] ++ ([] ++ TL.joinL [] ([d] :: l.map fun c => [c])) = _
    rw [this]
    rfl
theorem join_signs {l : List Nat} (h : l.length ≤ 1000) : bmD .join (.str "") [.lst (l.map fun c => .str ⟨#[c]⟩)] = some (.str (sL l)) := by
  have ej : Txt.join "" (l.map fun c => sL [c]) = sL l := by
    rw [TL.join_eq]
    refine TL.ext_tl ?_
    rw [TL.tl_join, List.map_map]
    have e1 : (TL.tl ∘ fun c => sL [c]) = fun c => [c] := by
      funext c
      rfl
    rw [e1, show TL.tl ("" : Str) = [] from rfl, joinL_signs]
    exact (cps_sL l).symm
  have es : ((l.map fun c => sL [c]).map (fun x : Str => x.length)).sum = l.length := by
    rw [List.map_map]
    have e1 : ((fun x : Str => x.length) ∘ fun c => sL [c]) = fun _ => 1 := by
      funext c
      rfl
    rw [e1]
    clear h ej
    induction l with
    | nil => rfl
    | cons a l ih => rw [List.map_cons, List.sum_cons, ih, List.length_cons]; omega
  show (match strsD (l.map fun c => .str ⟨#[c]⟩) with
    | some ys => if (ys.map fun x : Str => x.length).sum + ys.length * ("" : Str).length ≤ 16777216 && decide ((Txt.join "" ys).length ≤ LIM) then some (D.str (Txt.join "" ys)) else none
    | none => none) = _
  rw [strsD_signs]
  show (if _ then _ else _) = _
  rw [if_pos, ej]
  rw [Bool.and_eq_true, decide_eq_true_eq, decide_eq_true_eq, es, ej, len_sL]
  refine ⟨?_, by show _ ≤ 16777216; omega⟩
  rw [show ("" : Str).length = 0 from rfl]
  omega
theorem isStr (x : Str) : isStrD (.str x) = true := nd rfl
/-! ### a row -/
structure Rw where
  s : Int
  i : Int
  m : List Nat
  c : Int
  p : Int
  se : List Int
def Rw.d (r : Rw) : D := .tup [.int r.s, .int r.i, .str (sL r.m), .tup [.int r.c, .int r.p], .tup (r.se.map .int)]
structure Rw.Ok (r : Rw) (k : Nat) : Prop where
  s : 0 ≤ r.s ∧ r.s ≤ 39
  i : 0 ≤ r.i ∧ r.i ≤ 99
  m : MOk r.m
  c : 0 ≤ r.c ∧ r.c ≤ 1000000000000
  p : 0 ≤ r.p ∧ r.p ≤ 99
  se : r.se.Pairwise (· < ·)
  sb : ∀ x ∈ r.se, 0 ≤ x ∧ x < k
theorem Rw.Ok.sl {r : Rw} {k : Nat} (h : r.Ok k) : r.se.length ≤ k := by
  have := rise_lenI h.se h.sb
  omega
def Rw.st (r : Rw) : D := .ins 1 [(6, .int r.c), (5, .int r.p)]
def Rw.ev (r : Rw) : D := .ins 0 [(0, .int r.s), (1, .int r.i), (2, .str (sL r.m)), (3, r.st), (4, .tup (r.se.map .int))]
theorem ft00 : pr.tb.ft 0 0 = true := rfl
theorem ft01 : pr.tb.ft 0 1 = true := rfl
theorem ft02 : pr.tb.ft 0 2 = true := rfl
theorem ft03 : pr.tb.ft 0 3 = true := rfl
theorem ft04 : pr.tb.ft 0 4 = true := rfl
theorem ft15 : pr.tb.ft 1 5 = true := rfl
theorem ft16 : pr.tb.ft 1 6 = true := rfl
theorem ft28 : pr.tb.ft 2 8 = true := rfl
theorem g3 : gl 3 = some (.int 39) := rfl
theorem g4 : gl 4 = some (.int 99) := rfl
theorem g5 : gl 5 = some (.int 99) := rfl
theorem g6 : gl 6 = some (.int 1000000000000) := rfl
/-! ### check_marks -/
theorem check {n : Nat} {m : List Nat} {h : Cells} (hm : MOk m) : (Fd (n + 1)).call 6 [.str (sL m)] h = .ok .non h := by
  rw [call_run (fn := f_check_marks) rfl rfl rfl]
  show (evSs (Fd n) gl c_check_marks [.val (.str (sL m)), .no] h).fin = _
  have el := hm.len
  have ul := unlike_ok hm
  have ew : evI (Fd n) gl [.val (.str (sL m)), .no] (.of (.var 0)) h = .ok (m.map fun c => .str (sL [c])) h := by
    simp [cps_sL]
    intro a _
    rfl
  obtain ⟨e', hf, x, rfl⟩ := for_all (t := .name 1) (f := evSs (Fd n) gl (.cons (.ite (.cmp .notin (.var 1) (.glob 2)) (.cons (.raise_ 5) .nil) .nil) .nil)) (h := h) (fun e => ∃ x, e = [.val (.str (sL m)), x]) (ds := m.map fun c => .str (sL [c])) (env := [.val (.str (sL m)), .no]) ⟨_, rfl⟩ (fun d hd env ⟨x, hx⟩ => by
    obtain ⟨c, hc, rfl⟩ := List.mem_map.mp hd
    subst hx
    have ei := cap_in (hm.2 c hc)
    exact ⟨[.val (.str (sL m)), .val (.str (sL [c]))], [.val (.str (sL m)), .val (.str (sL [c]))], rfl, by simp [g2, ei], _, rfl⟩)
  unfold c_check_marks
  rw [ss_consE, s_forE, ew, out_ok, hf]
  simp [ul, len_sL]
/-! ### a stamp, an event -/
theorem stamp_ini {n : Nat} {c p : Int} {h : Cells} (hc : 0 ≤ c ∧ c ≤ 1000000000000) (hp : 0 ≤ p ∧ p ≤ 99) : (Fd (n + 1)).ini 1 [.int c, .int p] h = .ok [(6, .int c), (5, .int p)] h := by
  rw [call_ini (f := 11) (fn := f_Stamp___init__) rfl rfl, run_ini rfl]
  show (evSs (Fd n) gl c_Stamp___init__ [.own (.ins 1 []), .val (.int c), .val (.int p)] h).fini 1 = _
  obtain ⟨h1, h2⟩ := hc
  obtain ⟨h3, h4⟩ := hp
  simp [c_Stamp___init__, g5, g6, h1, h2, h3, h4, ft15, ft16]
theorem usort_id {l : List Int} (h : l.Pairwise (· < ·)) : usort l = l := (usort_is h fun x => Iff.rfl).symm
/-- a list's numbers, each taken -/
theorem ssc_ints {F : FTab} {env : En} {i : Nat} {l : List Int} {h : Cells} (hp : l.Pairwise (· < ·)) (h64 : l.length < 64) : (lcGo (lcG F gl env (.var i) [i] (.name i) .none) (l.map .int) h).bind setR = .ok (.lst (l.map .int)) h ∨ env.length ≤ i := by
  by_cases hi : env.length ≤ i
  · exact .inr hi
  refine .inl ?_
  have e := lc_all (f := lcG F gl env (.var i) [i] (.name i) .none) (h := h) (fun x : Int => D.int x) (fun x => .int x) (l := l) fun a _ => by
    unfold lcG
    rw [bindT_name]
    have eg : ((wipeE env [i]).set i (.val (.int a)))[i]? = some (.val (.int a)) := by
      rw [List.getElem?_set_self]
      show i < (env.set i .no).length
      rw [List.length_set]
      omega
    simp [eg]
  rw [e, Res.bind_ok]
  show (match intsD (l.map .int) with
    | some is => if (usort is).length < 64 then Res.ok (D.lst ((usort is).map .int)) h else .bad
    | none => .bad) = _
  rw [intsD_map]
  show (if _ then _ else _) = _
  rw [usort_id hp, if_pos h64]
def iniE : CSs := c_Event___init__
theorem event_ini {n : Nat} {r : Rw} {k : Nat} {h : Cells} (hr : r.Ok k) (hk : k ≤ 40) : (evSs (Fd (n + 1)) gl c_Event___init__ [.own (.ins 0 []), .val (.int r.s), .val (.int r.i), .val (.str (sL r.m)), .val r.st, .val (.lst (r.se.map .int)), .no, .no] h).fini 0 = .ok [(0, .int r.s), (1, .int r.i), (2, .str (sL r.m)), (3, r.st), (4, .tup (r.se.map .int))] h := by
  obtain ⟨s1, s2⟩ := hr.s
  obtain ⟨i1, i2⟩ := hr.i
  have hsl := hr.sl
  have ck := check (n := n) (h := h) hr.m
  have ec := csort_id hr.m
  have ej := join_signs (l := r.m) (by have := hr.m.len; omega)
  have es : evE (Fd (n + 1)) gl [.own (.ins 0 []), .val (.int r.s), .val (.int r.i), .val (.str (sL r.m)), .val r.st, .val (.lst (r.se.map .int)), .no, .no] (.ssc (.var 7) [7] (.name 7) (.of (.var 5)) .none) h = .ok (.lst (r.se.map .int)) h := by
    rw [e_sscE]
    have e1 : evI (Fd (n + 1)) gl [.own (.ins 0 []), .val (.int r.s), .val (.int r.i), .val (.str (sL r.m)), .val r.st, .val (.lst (r.se.map .int)), .no, .no] (.of (.var 5)) h = .ok (r.se.map .int) h := by simp
    rw [e1, Res.bind_ok, if_pos (by rw [List.length_map]; omega)]
    rcases ssc_ints (F := Fd (n + 1)) (env := [.own (.ins 0 []), .val (.int r.s), .val (.int r.i), .val (.str (sL r.m)), .val r.st, .val (.lst (r.se.map .int)), .no, .no]) (i := 7) (h := h) hr.se (by omega) with e | e
    · exact e
    · simp at e
  have e0 : ∀ x, (r.se.map D.int)[0]? = some x → ∃ j : Int, x = .int j ∧ 0 ≤ j := fun x hx => by
    rw [List.getElem?_map] at hx
    obtain ⟨j, hj, rfl⟩ := Option.map_eq_some_iff.mp hx
    exact ⟨j, rfl, (hr.sb j (List.mem_of_getElem? hj)).1⟩
  generalize hst : r.st = st at es ⊢
  unfold c_Event___init__
  simp only [ss_consE]
  rw [show evS (Fd (n + 1)) gl (.ite (.not (.chain .le .le (.cst (.int 0)) (.var 1) (.glob 3))) (.cons (.raise_ 5) .nil) .nil) [.own (.ins 0 []), .val (.int r.s), .val (.int r.i), .val (.str (sL r.m)), .val st, .val (.lst (r.se.map .int)), .no, .no] h = .next [.own (.ins 0 []), .val (.int r.s), .val (.int r.i), .val (.str (sL r.m)), .val st, .val (.lst (r.se.map .int)), .no, .no] h by simp [g3, s1, s2]]
  simp only [seq_next, ss_consE]
  rw [show evS (Fd (n + 1)) gl (.ite (.not (.chain .le .le (.cst (.int 0)) (.var 2) (.glob 4))) (.cons (.raise_ 5) .nil) .nil) [.own (.ins 0 []), .val (.int r.s), .val (.int r.i), .val (.str (sL r.m)), .val st, .val (.lst (r.se.map .int)), .no, .no] h = .next [.own (.ins 0 []), .val (.int r.s), .val (.int r.i), .val (.str (sL r.m)), .val st, .val (.lst (r.se.map .int)), .no, .no] h by simp [g4, i1, i2]]
  simp only [seq_next, ss_consE]
  rw [show evS (Fd (n + 1)) gl (.ex (.call 6 (.cons (.var 3) .nil))) [.own (.ins 0 []), .val (.int r.s), .val (.int r.i), .val (.str (sL r.m)), .val st, .val (.lst (r.se.map .int)), .no, .no] h = .next [.own (.ins 0 []), .val (.int r.s), .val (.int r.i), .val (.str (sL r.m)), .val st, .val (.lst (r.se.map .int)), .no, .no] h by simp [ck]]
  simp only [seq_next, ss_consE, s_setE]
  rw [es]
  simp only [out_ok, seq_next, List.set_cons_succ, List.set_cons_zero, ss_consE]
  cases hse : r.se with
  | nil => simp [isStr, ft00, ft01, ft02, ft03, ft04, cps_sL, ec, ej]
  | cons j js =>
    have hj : 0 ≤ j := (hr.sb j (by rw [hse]; exact List.mem_cons_self ..)).1
    have hj' : ¬ j < 0 := by omega
    simp [isStr, ft00, ft01, ft02, ft03, ft04, cps_sL, ec, ej, hj']
end K33
set_option Elab.async false
set_option linter.all false
set_option maxRecDepth 100000
set_option maxHeartbeats 4000000
namespace K33
open PySem L2 Rf
theorem kf0 : pr.tb.kf 0 = some kf_0 := rfl
theorem kf0n : kf_0.n = 1 := rfl
theorem kf0k : kf_0.ks.length = 4 := rfl
theorem kf0c : kf_0.c = 0 := rfl
theorem kf0_app (a b c d e : Ar) : kf_0.app [a] [b, c, d, e] = [a, b, c, d, e] := rfl
theorem law_event {n : Nat} {r : Rw} {k : Nat} {h : Cells} (hr : r.Ok k) (hk : k ≤ 40) : (Fd (n + 3)).call 37 [r.d] h = .ok r.ev h := by
  rw [call_run (fn := f__law_event) rfl rfl rfl]
  show (evSs (Fd (n + 2)) gl c__law_event [.val r.d, .no] h).fin = _
  have e1 := stamp_ini (n := n + 1) (h := h) hr.c hr.p
  have e2 := event_ini (n := n) (h := h) hr hk
  have e3 : (Fd (n + 2)).inib 0 [.d (.int r.s), .d (.int r.i), .d (.str (sL r.m)), .d r.st, .d (.lst (r.se.map .int))] h = .ok [(0, .int r.s), (1, .int r.i), (2, .str (sL r.m)), (3, r.st), (4, .tup (r.se.map .int))] h := by
    rw [inib_run (f := 7) (fn := f_Event___init__) rfl rfl rfl]
    exact e2
  unfold c__law_event
  have es : evS (Fd (n + 2)) gl (.set 1 (.make 1 (.cons (.sub (.sub (.var 0) (.cst (.int 3))) (.cst (.int 0))) (.cons (.sub (.sub (.var 0) (.cst (.int 3))) (.cst (.int 1))) .nil)))) [.val r.d, .no] h = .next [.val r.d, .val r.st] h := by
    simp [Rw.d, Rw.st, e1]
  rw [ss_consE, es, seq_next]
  have ee : evE (Fd (n + 2)) gl [.val r.d, .val r.st] (.makek 0 (.cons (.sub (.var 0) (.cst (.int 0))) .nil) (.cons (.sub (.var 0) (.cst (.int 1))) (.cons (.sub (.var 0) (.cst (.int 2))) (.cons (.var 1) (.cons (.blt .list (.cons (.sub (.var 0) (.cst (.int 4))) .nil)) .nil))))) h = .ok r.ev h := by
    generalize hst : r.st = st at e3
    have ev : r.ev = .ins 0 [(0, .int r.s), (1, .int r.i), (2, .str (sL r.m)), (3, st), (4, .tup (r.se.map .int))] := by rw [← hst]; rfl
    rw [ev]
    unfold Rw.d
    simp [kf0, kf0_app, e3, kf0n, kf0k, kf0c]
  rw [ss_consE, s_retE, ee]
  simp
/-! ### runs -/
structure RsOk (rs : List Rw) : Prop where
  len : rs.length ≤ 8
  at_ : ∀ (j : Nat) (r : Rw), rs[j]? = some r → r.Ok j
  st : rs.Pairwise fun a b => ¬ (a.c = b.c ∧ a.p = b.p)
def key (r : Rw) : List Key := [.inl r.c, .inl r.p]
theorem key_inj {a b : Rw} : key a = key b ↔ a.c = b.c ∧ a.p = b.p := by
  unfold key
  simp
theorem enum_get : ∀ (l : List D) (k j : Nat), (enumD k l)[j]? = l[j]?.map fun x => .tup [.int ((k + j : Nat) : Int), x]
  | [], k, j => by simp [enumD]
  | a :: l, k, 0 => by simp [enumD]
  | a :: l, k, j + 1 => by
    have := enum_get l (k + 1) j
    rw [enumD, List.getElem?_cons_succ, List.getElem?_cons_succ, this, show k + 1 + j = k + (j + 1) by omega]
theorem enum_len : ∀ (l : List D) (k : Nat), (enumD k l).length = l.length
  | [], _ => rfl
  | a :: l, k => by rw [enumD, List.length_cons, List.length_cons, enum_len l]
theorem sub_last (l : List Int) (hl : l ≠ []) : ∃ x ∈ l, subD (.tup (l.map .int)) (.int (-1)) = some (.int x) := by
  have h1 : 0 < l.length := List.length_pos_iff.mpr hl
  have hix : L2.ixN (l.map D.int).length (-1) = some (l.length - 1) := by
    unfold L2.ixN
    rw [List.length_map, if_neg (by decide), if_pos (by omega)]
    congr 1
    omega
  refine ⟨l[l.length - 1]'(by omega), List.getElem_mem _, ?_⟩
  show L2.atI (l.map D.int) (-1) = _
  unfold L2.atI
  rw [hix, Option.bind_some, List.getElem?_map, List.getElem?_eq_getElem (by omega)]
  rfl
def cFi : CSs := (.cons (.setK 4 (.cons (.attr (.attr (.var 3) 3) 6) (.cons (.attr (.attr (.var 3) 3) 5) .nil))) (.cons (.ite (.or (.cons (.inD false 4 1) (.cons (.and (.cons (.attr (.var 3) 4) (.cons (.cmp .ge (.sub (.attr (.var 3) 4) (.neg (.cst (.int 1)))) (.var 2)) .nil))) .nil))) (.cons (.ret (.var 2)) .nil) .nil) (.cons (.putD 1 4 (.cst (.bl true))) .nil)))
theorem fi_turn {F : FTab} {l : D} {kvs : List (List Key × D)} {x4 : Sl} {r : Rw} {j : Nat} {h : Cells} (hF : F.tb = pr.tb) (hr : r.Ok j) (hk : hasK (key r) kvs = false) (hz : kvs.length < 1000) :
    evSs F gl cFi [.val l, .own (.dt kvs), .val (.int (j : Int)), .val r.ev, x4] h = .next [.val l, .own (.dt (kvs ++ [(key r, .bl true)])), .val (.int (j : Int)), .val r.ev, .key (key r)] h := by
  have e1 : evS F gl (.setK 4 (.cons (.attr (.attr (.var 3) 3) 6) (.cons (.attr (.attr (.var 3) 3) 5) .nil))) [.val l, .own (.dt kvs), .val (.int (j : Int)), .val r.ev, x4] h = .next [.val l, .own (.dt kvs), .val (.int (j : Int)), .val r.ev, .key (key r)] h := by
    simp [Rw.ev, Rw.st, hF, ft03, ft16, ft15, keysD, key]
  have e3 : evS F gl (.ite (.or (.cons (.inD false 4 1) (.cons (.and (.cons (.attr (.var 3) 4) (.cons (.cmp .ge (.sub (.attr (.var 3) 4) (.neg (.cst (.int 1)))) (.var 2)) .nil))) .nil))) (.cons (.ret (.var 2)) .nil) .nil) [.val l, .own (.dt kvs), .val (.int (j : Int)), .val r.ev, .key (key r)] h = .next [.val l, .own (.dt kvs), .val (.int (j : Int)), .val r.ev, .key (key r)] h := by
    cases hs : r.se with
    | nil => simp [Rw.ev, hF, ft04, hk, hs, truth]
    | cons a t =>
      obtain ⟨x, hx, hl⟩ := sub_last r.se (by rw [hs]; simp)
      have hlt := (hr.sb x hx).2
      have hn : ¬ ((j : Int) ≤ x) := by omega
      rw [hs, List.map_cons] at hl
      simp [Rw.ev, hF, ft04, hk, hs, truth, hl, hn]
  have e4 : putKD kvs (key r) (.bl true) = kvs ++ [(key r, .bl true)] := by
    unfold putKD
    rw [hk]
    rfl
  unfold cFi
  rw [ss_consE, e1, seq_next, ss_consE, e3, seq_next]
  have hz' : kvs.length < LIM := by show _ < 16777216; omega
  simp [e4, hz']
theorem first_ok {n : Nat} {rs : List Rw} {h : Cells} (hr : RsOk rs) : (Fd (n + 1)).call 18 [.lst (rs.map Rw.ev)] h = .ok .non h := by
  rw [call_run (fn := f_first_invalid) rfl rfl rfl]
  show (evSs (Fd n) gl c_first_invalid [.val (.lst (rs.map Rw.ev)), .no, .no, .no, .no] h).fin = _
  obtain ⟨env', h2, hf, rfl, kvs, x2, x3, x4, rfl, _⟩ := for_at (t := .tup [2, 3]) (f := evSs (Fd n) gl cFi) (fun pre env h' => h' = h ∧ ∃ kvs x2 x3 x4, env = [.val (.lst (rs.map Rw.ev)), .own (.dt kvs), x2, x3, x4] ∧ kvs = (rs.take pre.length).map fun r => (key r, D.bl true))
    (ds := enumD 0 (rs.map Rw.ev)) (env := [.val (.lst (rs.map Rw.ev)), .own (.dt []), .no, .no, .no]) (h := h) ⟨rfl, [], _, _, _, rfl, rfl⟩ (fun pre d post env h' hds ⟨eh, kvs, x2, x3, x4, he, hk⟩ => by
      subst eh he
      have hd : (enumD 0 (rs.map Rw.ev))[pre.length]? = some d := by
        rw [hds, List.getElem?_append_right (Nat.le_refl _), Nat.sub_self]
        rfl
      rw [enum_get, List.getElem?_map] at hd
      cases hj : rs[pre.length]? with
      | none => rw [hj] at hd; cases hd
      | some r =>
        rw [hj] at hd
        have ed : d = .tup [.int (pre.length : Int), r.ev] := by
          have := Option.some.inj hd
          rw [Nat.zero_add] at this
          exact this.symm
        subst ed
        have hlt : pre.length < rs.length := (List.getElem?_eq_some_iff.mp hj).1
        have hl8 := hr.len
        have hno : hasK (key r) kvs = false := by
          rw [hk]
          unfold hasK
          rw [List.any_eq_false]
          intro q hq
          obtain ⟨a, ha, rfl⟩ := List.mem_map.mp hq
          obtain ⟨i, hi, hai⟩ := List.getElem_of_mem ha
          rw [List.length_take] at hi
          rw [List.getElem_take] at hai
          have hgj : rs[pre.length]'hlt = r := (List.getElem?_eq_some_iff.mp hj).2
          have := List.pairwise_iff_getElem.mp hr.st i pre.length (by omega) hlt (by omega)
          rw [hai, hgj] at this
          simp only [decide_eq_true_eq]
          rw [key_inj]
          exact this
        have ht := fi_turn (F := Fd n) (l := .lst (rs.map Rw.ev)) (x4 := x4) (h := h') (by rw [calls_tb]) (hr.at_ _ _ hj) hno (by rw [hk, List.length_map, List.length_take]; omega)
        refine ⟨_, _, h', rfl, .inl ht, rfl, _, _, _, _, rfl, ?_⟩
        rw [List.length_append, List.length_singleton, List.take_add_one, hj, List.map_append, hk]
        rfl)
  have es : evS (Fd n) gl (.forE 2 3 (.var 0) cFi) [.val (.lst (rs.map Rw.ev)), .own (.dt []), .no, .no, .no] h2 = .next [.val (.lst (rs.map Rw.ev)), .own (.dt kvs), x2, x3, x4] h2 := by
    rw [s_forEE]
    simp only [walk_varK, List.getElem?_cons_zero, walkV_val, e_varE, slR_val, out_ok]
    exact hf
  unfold c_first_invalid
  unfold cFi at es
  rw [ss_consE, s_newDE, seq_next, ss_consE]
  simp only [List.set_cons_succ, List.set_cons_zero]
  rw [es]
  simp
def runD (rs : List Rw) : D := .ins 2 [(8, .lst (rs.map Rw.ev))]
theorem cv27 : pr.tb.cv 2 7 = some (.int 40) := rfl
theorem run_ini33 {n : Nat} {rs : List Rw} {h : Cells} (hr : RsOk rs) : (Fd (n + 2)).ini 2 [.lst (rs.map Rw.ev)] h = .ok [(8, .lst (rs.map Rw.ev))] h := by
  rw [call_ini (f := 21) (fn := f_Run___init__) rfl rfl, run_ini rfl]
  show (evSs (Fd (n + 1)) gl c_Run___init__ [.own (.ins 2 []), .val (.lst (rs.map Rw.ev)), .no, .no] h).fini 2 = _
  have e1 := first_ok (n := n) (h := h) hr
  have hl : ¬ ((40 : Int) < ((rs.map Rw.ev).length : Int)) := by
    have := hr.len
    rw [List.length_map]
    omega
  generalize rs.map Rw.ev = evs at e1 hl
  simp [c_Run___init__, cv27, hl, e1, ft28, Rf.isNon]
theorem law_run {n : Nat} {rs : List Rw} {h : Cells} (hr : RsOk rs) : (Fd (n + 4)).call 38 [.lst (rs.map Rw.d)] h = .ok (runD rs) h := by
  rw [call_run (fn := f__law_run) rfl rfl rfl]
  show (evSs (Fd (n + 3)) gl c__law_run [.val (.lst (rs.map Rw.d)), .no] h).fin = _
  have hl8 := hr.len
  have el := lc_all (f := lcG (Fd (n + 3)) gl [.val (.lst (rs.map Rw.d)), .no] (.call 37 (.cons (.var 1) .nil)) [1] (.name 1) .none) (h := h) Rw.d Rw.ev (l := rs) fun r hr' => by
    obtain ⟨j, hj, rfl⟩ := List.getElem_of_mem hr'
    have e := law_event (n := n) (h := h) (hr.at_ j _ (List.getElem?_eq_getElem hj)) (by omega)
    unfold lcG
    generalize rs.map Rw.d = all
    generalize rs[j].d = rd at e
    simp [bindT_name, wipeE, e]
  have e2 := run_ini33 (n := n + 1) (h := h) hr
  have e3 : evE (Fd (n + 3)) gl [.val (.lst (rs.map Rw.d)), .no] (.lc (.call 37 (.cons (.var 1) .nil)) [1] (.name 1) (.of (.var 0)) .none) h = .ok (.lst (rs.map Rw.ev)) h := by
    rw [e_lcE]
    have e1 : evI (Fd (n + 3)) gl [.val (.lst (rs.map Rw.d)), .no] (.of (.var 0)) h = .ok (rs.map Rw.d) h := by simp
    rw [e1, Res.bind_ok, if_pos (by rw [List.length_map]; show _ ≤ 16777216; omega), el]
    rfl
  unfold runD
  generalize rs.map Rw.ev = evs at *
  simp [c__law_run, e3, e2]
end K33
set_option Elab.async false
set_option linter.all false
set_option maxRecDepth 100000
set_option maxHeartbeats 4000000
namespace K33
open PySem L2 Rf
theorem w_bf_bf : eqD (.str "bf") (.str "bf") = some true := by decide +kernel
theorem w_so_bf : eqD (.str "so") (.str "bf") = some false := by decide +kernel
theorem w_so_ss : eqD (.str "so") (.str "ss") = some false := by decide +kernel
theorem w_so_si : eqD (.str "so") (.str "si") = some false := by decide +kernel
theorem w_so_so : eqD (.str "so") (.str "so") = some true := by decide +kernel
theorem w_vis_bf : eqD (.str "vis") (.str "bf") = some false := by decide +kernel
theorem w_vis_ss : eqD (.str "vis") (.str "ss") = some false := by decide +kernel
theorem w_vis_si : eqD (.str "vis") (.str "si") = some false := by decide +kernel
theorem w_vis_so : eqD (.str "vis") (.str "so") = some false := by decide +kernel
theorem w_vis_vis : eqD (.str "vis") (.str "vis") = some true := by decide +kernel
theorem w_ar_bf : eqD (.str "ar") (.str "bf") = some false := by decide +kernel
theorem w_ar_ss : eqD (.str "ar") (.str "ss") = some false := by decide +kernel
theorem w_ar_si : eqD (.str "ar") (.str "si") = some false := by decide +kernel
theorem w_ar_so : eqD (.str "ar") (.str "so") = some false := by decide +kernel
theorem w_ar_vis : eqD (.str "ar") (.str "vis") = some false := by decide +kernel
theorem w_ss_bf : eqD (.str "ss") (.str "bf") = some false := by decide +kernel
theorem w_ss_ss : eqD (.str "ss") (.str "ss") = some true := by decide +kernel
theorem w_si_bf : eqD (.str "si") (.str "bf") = some false := by decide +kernel
theorem w_si_ss : eqD (.str "si") (.str "ss") = some false := by decide +kernel
theorem w_si_si : eqD (.str "si") (.str "si") = some true := by decide +kernel
theorem list_str (x : Str) : bltD .list [.str x] = some (.lst (x.cps.toList.map fun c => .str ⟨#[c]⟩)) := nd rfl
theorem otlt : pr.tb.ot 1 (.cmp .lt) = some 13 := rfl
theorem mt9 : pr.tb.mt 0 9 = some 9 := rfl
theorem mt10 : pr.tb.mt 0 10 = some 10 := rfl
theorem mt11 : pr.tb.mt 2 11 = some 28 := rfl
theorem lt_ok {n : Nat} {a b : Rw} {h : Cells} : (Fd (n + 1)).call 13 [a.st, b.st] h = .ok (.bl (HT.lexLt [a.c, a.p] [b.c, b.p])) h := by
  rw [call_run (fn := f_Stamp___lt__) rfl rfl rfl]
  show (evSs (Fd n) gl c_Stamp___lt__ [.val a.st, .val b.st] h).fin = _
  simp [c_Stamp___lt__, Rw.st, tyD, ft15, ft16, lt_tt, ints2]
theorem lt_cmp {n : Nat} {a b : Rw} {h : Cells} : cmpK (Fd (n + 1)) .lt false h a.st b.st (opC .lt (see h a.st) (see h b.st)) = .ok (.bl (HT.lexLt [a.c, a.p] [b.c, b.p])) h := by
  rw [cmp_ins (c := 1) (f := 13) (fs := [(6, .int a.c), (5, .int a.p)]) rfl (by simp) rfl rfl (by rw [calls_tb]; exact otlt)]
  exact lt_ok
theorem flat_ints : ∀ l : List Int, (l.map D.int).all flatD = true
  | [] => rfl
  | _ :: l => by rw [List.map_cons, List.all_cons, flat_ints l]; rfl
def visB (x : Nat) (b : Rw) : Bool := (b.se.map D.int).any (eqI (x : Int))
theorem vis_in (x : Nat) (b : Rw) : isIn (.int (x : Int)) (.tup (b.se.map .int)) = some (visB x b) := by
  show (match (D.int (x : Int)), (b.se.map D.int).all flatD with
    | .int i, true => some ((b.se.map D.int).any (eqI i))
    | .str x, true => some ((b.se.map D.int).any (eqS x))
    | _, _ => none) = _
  rw [flat_ints]
  rfl
section
variable {n : Nat} {evs ch rows : D} {a b : Rw} {x y u v : Nat} {h : Cells}
theorem rel_bf (s1 : subD evs (.int (x : Int)) = some a.ev) (s2 : subD evs (.int (y : Int)) = some b.ev) (se : ∀ h, see h evs = evs) : (Fd (n + 2)).call 19 [.str "bf", evs, .int (x : Int), .int (y : Int)] h = .ok (.bl (decide ((x : Int) < y))) h := by
  rw [call_run (fn := f_related) rfl rfl rfl]
  show (evSs (Fd (n + 1)) gl c_related [.val (.str "bf"), .val evs, .val (.int (x : Int)), .val (.int (y : Int)), .no, .no] h).fin = _
  have ev := vis_in x b
  simp [c_related, s1, s2, se, w_bf_bf, Rw.ev, ft00, ft01, ft04, ev]
theorem rel_so (s1 : subD evs (.int (x : Int)) = some a.ev) (s2 : subD evs (.int (y : Int)) = some b.ev) (se : ∀ h, see h evs = evs) : (Fd (n + 2)).call 19 [.str "so", evs, .int (x : Int), .int (y : Int)] h = .ok (.bl ((decide ((x : Int) < y) && decide (a.s = b.s)))) h := by
  rw [call_run (fn := f_related) rfl rfl rfl]
  show (evSs (Fd (n + 1)) gl c_related [.val (.str "so"), .val evs, .val (.int (x : Int)), .val (.int (y : Int)), .no, .no] h).fin = _
  have ev := vis_in x b
  by_cases q : x < y
  · simp [q, c_related, s1, s2, se, w_so_bf, w_so_ss, w_so_si, w_so_so, Rw.ev, ft00, ft01, ft04, ev]
  · simp [q, c_related, s1, s2, se, w_so_bf, w_so_ss, w_so_si, w_so_so, Rw.ev, ft00, ft01, ft04, ev]
theorem rel_vis (s1 : subD evs (.int (x : Int)) = some a.ev) (s2 : subD evs (.int (y : Int)) = some b.ev) (se : ∀ h, see h evs = evs) : (Fd (n + 2)).call 19 [.str "vis", evs, .int (x : Int), .int (y : Int)] h = .ok (.bl (visB x b)) h := by
  rw [call_run (fn := f_related) rfl rfl rfl]
  show (evSs (Fd (n + 1)) gl c_related [.val (.str "vis"), .val evs, .val (.int (x : Int)), .val (.int (y : Int)), .no, .no] h).fin = _
  have ev := vis_in x b
  simp [c_related, s1, s2, se, w_vis_bf, w_vis_ss, w_vis_si, w_vis_so, w_vis_vis, Rw.ev, ft00, ft01, ft04, ev]
theorem rel_ar (s1 : subD evs (.int (x : Int)) = some a.ev) (s2 : subD evs (.int (y : Int)) = some b.ev) (se : ∀ h, see h evs = evs) : (Fd (n + 2)).call 19 [.str "ar", evs, .int (x : Int), .int (y : Int)] h = .ok (.bl (HT.lexLt [a.c, a.p] [b.c, b.p])) h := by
  rw [call_run (fn := f_related) rfl rfl rfl]
  show (evSs (Fd (n + 1)) gl c_related [.val (.str "ar"), .val evs, .val (.int (x : Int)), .val (.int (y : Int)), .no, .no] h).fin = _
  have lt := lt_cmp (n := n) (a := a) (b := b) (h := h)
  generalize hA : a.st = A at lt
  generalize hB : b.st = Bb at lt
  simp [c_related, s1, s2, se, w_ar_bf, w_ar_ss, w_ar_si, w_ar_so, w_ar_vis, Rw.ev, ft03, hA, hB, lt]
theorem rel_ss (s1 : subD evs (.int (x : Int)) = some a.ev) (s2 : subD evs (.int (y : Int)) = some b.ev) (se : ∀ h, see h evs = evs) : (Fd (n + 2)).call 19 [.str "ss", evs, .int (x : Int), .int (y : Int)] h = .ok (.bl (decide (a.s = b.s))) h := by
  rw [call_run (fn := f_related) rfl rfl rfl]
  show (evSs (Fd (n + 1)) gl c_related [.val (.str "ss"), .val evs, .val (.int (x : Int)), .val (.int (y : Int)), .no, .no] h).fin = _
  have ev := vis_in x b
  simp [c_related, s1, s2, se, w_ss_bf, w_ss_ss, Rw.ev, ft00, ft01, ft04, ev]
theorem rel_si (s1 : subD evs (.int (x : Int)) = some a.ev) (s2 : subD evs (.int (y : Int)) = some b.ev) (se : ∀ h, see h evs = evs) : (Fd (n + 2)).call 19 [.str "si", evs, .int (x : Int), .int (y : Int)] h = .ok (.bl (decide (a.i = b.i))) h := by
  rw [call_run (fn := f_related) rfl rfl rfl]
  show (evSs (Fd (n + 1)) gl c_related [.val (.str "si"), .val evs, .val (.int (x : Int)), .val (.int (y : Int)), .no, .no] h).fin = _
  have ev := vis_in x b
  simp [c_related, s1, s2, se, w_si_bf, w_si_ss, w_si_si, Rw.ev, ft00, ft01, ft04, ev]
theorem law_bf (c1 : subD ch (.int (u : Int)) = some (.int (x : Int))) (c2 : subD ch (.int (v : Int)) = some (.int (y : Int))) (s1 : subD rows (.int (x : Int)) = some a.d) (s2 : subD rows (.int (y : Int)) = some b.d) (sc : ∀ h, see h ch = ch) (sr : ∀ h, see h rows = rows) :
    (Fd (n + 1)).call 42 [rows, .tup [.str "bf", .int (u : Int), .int (v : Int)], ch] h = .ok (.bl (decide ((x : Int) < y))) h := by
  rw [call_run (fn := f__law_holds) rfl rfl rfl]
  show (evSs (Fd n) gl c__law_holds [.val rows, .val (.tup [.str "bf", .int (u : Int), .int (v : Int)]), .val ch, .no, .no, .no] h).fin = _
  have ev := vis_in x b
  simp [c__law_holds, c1, c2, s1, s2, sc, sr, w_bf_bf, Rw.d, ev, lt_tt, ints2]
theorem law_so (c1 : subD ch (.int (u : Int)) = some (.int (x : Int))) (c2 : subD ch (.int (v : Int)) = some (.int (y : Int))) (s1 : subD rows (.int (x : Int)) = some a.d) (s2 : subD rows (.int (y : Int)) = some b.d) (sc : ∀ h, see h ch = ch) (sr : ∀ h, see h rows = rows) :
    (Fd (n + 1)).call 42 [rows, .tup [.str "so", .int (u : Int), .int (v : Int)], ch] h = .ok (.bl ((decide ((x : Int) < y) && decide (a.s = b.s)))) h := by
  rw [call_run (fn := f__law_holds) rfl rfl rfl]
  show (evSs (Fd n) gl c__law_holds [.val rows, .val (.tup [.str "so", .int (u : Int), .int (v : Int)]), .val ch, .no, .no, .no] h).fin = _
  have ev := vis_in x b
  by_cases q : x < y
  · simp [q, c__law_holds, c1, c2, s1, s2, sc, sr, w_so_bf, w_so_ss, w_so_si, w_so_so, Rw.d, ev, lt_tt, ints2]
  · simp [q, c__law_holds, c1, c2, s1, s2, sc, sr, w_so_bf, w_so_ss, w_so_si, w_so_so, Rw.d, ev, lt_tt, ints2]
theorem law_vis (c1 : subD ch (.int (u : Int)) = some (.int (x : Int))) (c2 : subD ch (.int (v : Int)) = some (.int (y : Int))) (s1 : subD rows (.int (x : Int)) = some a.d) (s2 : subD rows (.int (y : Int)) = some b.d) (sc : ∀ h, see h ch = ch) (sr : ∀ h, see h rows = rows) :
    (Fd (n + 1)).call 42 [rows, .tup [.str "vis", .int (u : Int), .int (v : Int)], ch] h = .ok (.bl (visB x b)) h := by
  rw [call_run (fn := f__law_holds) rfl rfl rfl]
  show (evSs (Fd n) gl c__law_holds [.val rows, .val (.tup [.str "vis", .int (u : Int), .int (v : Int)]), .val ch, .no, .no, .no] h).fin = _
  have ev := vis_in x b
  simp [c__law_holds, c1, c2, s1, s2, sc, sr, w_vis_bf, w_vis_ss, w_vis_si, w_vis_so, w_vis_vis, Rw.d, ev, lt_tt, ints2]
theorem law_ar (c1 : subD ch (.int (u : Int)) = some (.int (x : Int))) (c2 : subD ch (.int (v : Int)) = some (.int (y : Int))) (s1 : subD rows (.int (x : Int)) = some a.d) (s2 : subD rows (.int (y : Int)) = some b.d) (sc : ∀ h, see h ch = ch) (sr : ∀ h, see h rows = rows) :
    (Fd (n + 1)).call 42 [rows, .tup [.str "ar", .int (u : Int), .int (v : Int)], ch] h = .ok (.bl (HT.lexLt [a.c, a.p] [b.c, b.p])) h := by
  rw [call_run (fn := f__law_holds) rfl rfl rfl]
  show (evSs (Fd n) gl c__law_holds [.val rows, .val (.tup [.str "ar", .int (u : Int), .int (v : Int)]), .val ch, .no, .no, .no] h).fin = _
  have ev := vis_in x b
  simp [c__law_holds, c1, c2, s1, s2, sc, sr, w_ar_bf, w_ar_ss, w_ar_si, w_ar_so, w_ar_vis, Rw.d, ev, lt_tt, ints2]
theorem law_ss (c1 : subD ch (.int (u : Int)) = some (.int (x : Int))) (c2 : subD ch (.int (v : Int)) = some (.int (y : Int))) (s1 : subD rows (.int (x : Int)) = some a.d) (s2 : subD rows (.int (y : Int)) = some b.d) (sc : ∀ h, see h ch = ch) (sr : ∀ h, see h rows = rows) :
    (Fd (n + 1)).call 42 [rows, .tup [.str "ss", .int (u : Int), .int (v : Int)], ch] h = .ok (.bl (decide (a.s = b.s))) h := by
  rw [call_run (fn := f__law_holds) rfl rfl rfl]
  show (evSs (Fd n) gl c__law_holds [.val rows, .val (.tup [.str "ss", .int (u : Int), .int (v : Int)]), .val ch, .no, .no, .no] h).fin = _
  have ev := vis_in x b
  simp [c__law_holds, c1, c2, s1, s2, sc, sr, w_ss_bf, w_ss_ss, Rw.d, ev, lt_tt, ints2]
theorem law_si (c1 : subD ch (.int (u : Int)) = some (.int (x : Int))) (c2 : subD ch (.int (v : Int)) = some (.int (y : Int))) (s1 : subD rows (.int (x : Int)) = some a.d) (s2 : subD rows (.int (y : Int)) = some b.d) (sc : ∀ h, see h ch = ch) (sr : ∀ h, see h rows = rows) :
    (Fd (n + 1)).call 42 [rows, .tup [.str "si", .int (u : Int), .int (v : Int)], ch] h = .ok (.bl (decide (a.i = b.i))) h := by
  rw [call_run (fn := f__law_holds) rfl rfl rfl]
  show (evSs (Fd n) gl c__law_holds [.val rows, .val (.tup [.str "si", .int (u : Int), .int (v : Int)]), .val ch, .no, .no, .no] h).fin = _
  have ev := vis_in x b
  simp [c__law_holds, c1, c2, s1, s2, sc, sr, w_si_bf, w_si_ss, w_si_si, Rw.d, ev, lt_tt, ints2]
/-! ### all atoms -/
def atomD1 : D := .tup [.str "never"]
def wordsL : List Str := ["bf", "so", "vis", "ar", "ss", "si"]
inductive AtomOk (s : Nat) : D → Prop
  | nev : AtomOk s (.tup [.str "never"])
  | mk (c x : Nat) : 65 ≤ c ∧ c ≤ 90 → x < s → AtomOk s (.tup [.str (sL [c]), .int (x : Int)])
  | rel (w : Str) (x y : Nat) : w ∈ wordsL → x < s → y < s → AtomOk s (.tup [.str w, .int (x : Int), .int (y : Int)])
theorem in_signs {c : Nat} {m : List Nat} (hc : 65 ≤ c ∧ c ≤ 90) (hm : MOk m) : ∃ b, isIn (.str (sL [c])) (.lst (m.map fun c => .str ⟨#[c]⟩)) = some b := by
  refine ⟨_, in_pln (m := 0) ?_ ?_ (by decide)⟩
  · exact shaped_sL (by simp [lowC]; omega)
  · rw [List.all_eq_true]
    intro d hd
    obtain ⟨x, hx, rfl⟩ := List.mem_map.mp hd
    have := (hm.2 x hx).2
    exact shaped_sL (l := [x]) (by simp [lowC]; omega)
theorem holds_both {rs : List Rw} {cs : List Nat} {d : D} (hr : RsOk rs) (hcs : ∀ c ∈ cs, c < rs.length) (ha : AtomOk cs.length d) :
    ∃ b, (Fd (n + 3)).call 28 [runD rs, d, .tup (cs.map fun (k : Nat) => .int (k : Int))] h = .ok (.bl b) h ∧ (Fd (n + 3)).call 42 [.lst (rs.map Rw.d), d, .tup (cs.map fun (k : Nat) => .int (k : Int))] h = .ok (.bl b) h := by
  have hch : ∀ x, x < cs.length → ∃ (v : Nat) (a : Rw), subD (.tup (cs.map fun (k : Nat) => D.int (k : Int))) (.int (x : Int)) = some (.int (v : Int)) ∧ subD (.lst (rs.map Rw.ev)) (.int (v : Int)) = some a.ev ∧ subD (.lst (rs.map Rw.d)) (.int (v : Int)) = some a.d ∧ MOk a.m := fun x hx => by
    have hv := hcs cs[x] (List.getElem_mem _)
    refine ⟨cs[x], rs[cs[x]], ?_, ?_, ?_, (hr.at_ _ _ (List.getElem?_eq_getElem hv)).m⟩
    · show L2.atI _ _ = _
      rw [Rf.atI_nat, List.getElem?_map, List.getElem?_eq_getElem hx]
      rfl
    · show L2.atI _ _ = _
      rw [Rf.atI_nat, List.getElem?_map, List.getElem?_eq_getElem hv]
      rfl
    · show L2.atI _ _ = _
      rw [Rf.atI_nat, List.getElem?_map, List.getElem?_eq_getElem hv]
      rfl
  have hrun : ∀ d ch, (Fd (n + 3)).call 28 [runD rs, d, ch] h = (evSs (Fd (n + 2)) gl c_Run_holds [.val (runD rs), .val d, .val ch] h).fin := fun d ch => call_run (fn := f_Run_holds) rfl rfl rfl
  have hlaw : ∀ d ch, (Fd (n + 3)).call 42 [.lst (rs.map Rw.d), d, ch] h = (evSs (Fd (n + 2)) gl c__law_holds [.val (.lst (rs.map Rw.d)), .val d, .val ch, .no, .no, .no] h).fin := fun d ch => call_run (fn := f__law_holds) rfl rfl rfl
  cases ha with
  | nev =>
    refine ⟨false, ?_, ?_⟩
    · rw [hrun]
      generalize runD rs = R
      simp [c_Run_holds]
    · rw [hlaw]
      simp [c__law_holds]
  | mk c x hc hx =>
    obtain ⟨v, a, e1, e2, e3, hm⟩ := hch x hx
    obtain ⟨b, hb⟩ := in_signs hc hm
    refine ⟨b, ?_, ?_⟩
    · rw [hrun]
      have eh : (Fd (n + 2)).call 9 [a.ev, .str (sL [c])] h = .ok (.bl b) h := by
        rw [call_run (fn := f_Event_has) rfl rfl rfl]
        show (evSs (Fd (n + 1)) gl c_Event_has [.val a.ev, .val (.str (sL [c]))] h).fin = _
        simp [c_Event_has, Rw.ev, ft02, list_str, cps_sL, hb]
      have ea : attrD pr.tb (see h (runD rs)) 8 = some (.lst (rs.map Rw.ev)) := rfl
      have em : methD pr.tb (see h a.ev) 9 = some 9 := rfl
      generalize (cs.map fun (k : Nat) => D.int (k : Int)) = chs at e1
      generalize rs.map Rw.ev = evs at ea e2
      generalize runD rs = R at ea
      generalize a.ev = A at e2 eh em
      simp [c_Run_holds, ea, e1, e2, em, eh]
    · rw [hlaw]
      generalize (cs.map fun (k : Nat) => D.int (k : Int)) = chs at e1
      generalize rs.map Rw.d = rows at e3
      simp [c__law_holds, e1, e3, Rw.d, list_str, cps_sL, hb]
  | rel w x y hw hx hy =>
    obtain ⟨u, a, e1, e2, e3, _⟩ := hch x hx
    obtain ⟨v, b, k1, k2, k3, _⟩ := hch y hy
    have ea : attrD pr.tb (see h (runD rs)) 8 = some (.lst (rs.map Rw.ev)) := rfl
    have key : ∀ bb, (Fd (n + 2)).call 19 [.str w, .lst (rs.map Rw.ev), .int (u : Int), .int (v : Int)] h = .ok (.bl bb) h → (Fd (n + 3)).call 28 [runD rs, .tup [.str w, .int (x : Int), .int (y : Int)], .tup (cs.map fun (k : Nat) => .int (k : Int))] h = .ok (.bl bb) h := fun bb hb => by
      rw [hrun]
      generalize (cs.map fun (k : Nat) => D.int (k : Int)) = chs at e1 k1
      generalize rs.map Rw.ev = evs at ea hb
      generalize runD rs = R at ea
      simp [c_Run_holds, ea, e1, k1, hb]
    simp only [wordsL, List.mem_cons, List.not_mem_nil, or_false] at hw
    rcases hw with rfl | rfl | rfl | rfl | rfl | rfl
    · exact ⟨_, key _ (rel_bf e2 k2 fun _ => rfl), law_bf e1 k1 e3 k3 (fun _ => rfl) fun _ => rfl⟩
    · exact ⟨_, key _ (rel_so e2 k2 fun _ => rfl), law_so e1 k1 e3 k3 (fun _ => rfl) fun _ => rfl⟩
    · exact ⟨_, key _ (rel_vis e2 k2 fun _ => rfl), law_vis e1 k1 e3 k3 (fun _ => rfl) fun _ => rfl⟩
    · exact ⟨_, key _ (rel_ar e2 k2 fun _ => rfl), law_ar e1 k1 e3 k3 (fun _ => rfl) fun _ => rfl⟩
    · exact ⟨_, key _ (rel_ss e2 k2 fun _ => rfl), law_ss e1 k1 e3 k3 (fun _ => rfl) fun _ => rfl⟩
    · exact ⟨_, key _ (rel_si e2 k2 fun _ => rfl), law_si e1 k1 e3 k3 (fun _ => rfl) fun _ => rfl⟩
end
end K33
set_option Elab.async false
set_option linter.all false
set_option maxRecDepth 100000
set_option maxHeartbeats 4000000
namespace K33
open PySem L2 Rf
/-! ### drawn marks -/
def t4 : List (List Nat) := [[], [82], [87], [82, 87]]
theorem sub_t4 {v : Nat} (h : v < 4) : ∃ m ∈ t4, subD (.lst [.str "", .str "R", .str "W", .str "RW"]) (.int (v : Int)) = some (.str (sL m)) := by
  have hv : v = 0 ∨ v = 1 ∨ v = 2 ∨ v = 3 := by omega
  rcases hv with rfl | rfl | rfl | rfl
  · exact ⟨[], by decide, rfl⟩
  · exact ⟨[82], by decide, rfl⟩
  · exact ⟨[87], by decide, rfl⟩
  · exact ⟨[82, 87], by decide, rfl⟩
theorem sub_cap {u : Nat} (h : u < 26) : subD (.str "ABCDEFGHIJKLMNOPQRSTUVWXYZ") (.int (u : Int)) = some (.str (sL [65 + u])) := by
  have e := sub_sL ((List.range 26).map (65 + ·)) u
  rw [← caps_sL] at e
  have e' : subD (.str caps) (.int (u : Int)) = some (.str (sL [65 + u])) := by
    rw [e, List.getElem?_map, List.getElem?_range h]
    rfl
  exact e'
def inB (m : List Nat) (u : Nat) : Bool := !(Builtin.Str.occurrences (sL m) (sL [65 + u]) 0 (sL m).length 1).isEmpty
theorem marks_all : (t4.all fun m => decide (MOk m) && decide (m.length ≤ 2) && (List.range 26).all fun u => inB m u || decide (MOk (csort (m ++ [65 + u])))) = true := by decide +kernel
theorem law_marks {n : Nat} {h : Cells} (q : DS [] h) : ∃ m h', MOk m ∧ DS [] h' ∧ (Fd (n + 2)).call 33 [.cell 0] h = .ok (.str (sL m)) h' := by
  obtain ⟨v, h1, q1, b1, e1⟩ := dr n q (lim := 4) (by decide) (by decide)
  obtain ⟨w, h2, q2, b2, e2⟩ := dr n q1 (lim := 8) (by decide) (by decide)
  obtain ⟨u, h3, q3, b3, e3⟩ := dr n q2 (lim := 26) (by decide) (by decide)
  obtain ⟨m, hm, s1⟩ := sub_t4 (v := v) (by omega)
  have s2 := sub_cap (u := u) (by omega)
  have hall := List.all_eq_true.mp marks_all m hm
  simp only [Bool.and_eq_true, decide_eq_true_eq] at hall
  obtain ⟨⟨hm1, hm2⟩, hm3⟩ := hall
  have hu := List.all_eq_true.mp hm3 u (List.mem_range.mpr (by omega))
  rw [Bool.or_eq_true, decide_eq_true_eq] at hu
  have hc : (Fd (n + 2)).call 33 [.cell 0] h = (evSs (Fd (n + 1)) gl c__law_marks [.val (.cell 0), .no, .no] h).fin := call_run (fn := f__law_marks) rfl rfl rfl
  have st1 : evS (Fd (n + 1)) gl (.set 1 (.sub (.lst (.cons (.cst (.str "")) (.cons (.cst (.str "R")) (.cons (.cst (.str "W")) (.cons (.cst (.str "RW")) .nil))))) (.call 31 (.cons (.var 0) (.cons (.cst (.int 4)) .nil))))) [.val (.cell 0), .no, .no] h = .next [.val (.cell 0), .val (.str (sL m)), .no] h1 := by
    simp [e1, s1]
  by_cases hw : w = 1
  · subst hw
    have hi : isIn (.str (sL [65 + u])) (.str (sL m)) = some (inB m u) := in_str _ _
    cases hb : inB m u with
    | true =>
      refine ⟨m, h3, hm1, q3, ?_⟩
      rw [hc]
      unfold c__law_marks
      rw [ss_consE, st1, seq_next]
      rw [hb] at hi
      simp [e2, e3, s2, hi]
    | false =>
      rw [hb] at hi hu
      have hM : MOk (csort (m ++ [65 + u])) := by
        rcases hu with hu | hu
        · cases hu
        · exact hu
      refine ⟨csort (m ++ [65 + u]), h3, hM, q3, ?_⟩
      rw [hc]
      unfold c__law_marks
      rw [ss_consE, st1, seq_next]
      have ea := addS_sL (a := m) (b := [65 + u]) (by rw [List.length_singleton]; omega)
      have ej := join_signs (l := csort (m ++ [65 + u])) (by have := hM.len; omega)
      simp [e2, e3, s2, hi, ea, cps_sL, ej, isStr]
  · refine ⟨m, h2, hm1, q2, ?_⟩
    rw [hc]
    unfold c__law_marks
    rw [ss_consE, st1, seq_next]
    have hw' : ¬ ((w : Int) = 1) := by omega
    simp [e2, hw']
/-! ### drawn stamps -/
def StOk (k : Nat) (c p : Int) : Prop := (c % 64 = k) ∨ (c % 64 = 50 ∧ p = k)
theorem pow10 : opB .pow (.int 10) (.int 10) = some (.int 10000000000) := rfl
theorem mul64 (x : Int) : opB .mul (.int 64) (.int x) = some (.int (64 * x)) := mul_intl (by decide)
theorem law_stamp {n k : Nat} {h : Cells} (hk : k < 40) (q : DS [] h) : ∃ c p h', (0 ≤ c ∧ c ≤ 1000000000000) ∧ (0 ≤ p ∧ p ≤ 99) ∧ StOk k c p ∧ DS [] h' ∧ (Fd (n + 2)).call 34 [.cell 0, .int (k : Int)] h = .ok (.tup [.int c, .int p]) h' := by
  have hc : (Fd (n + 2)).call 34 [.cell 0, .int (k : Int)] h = (evSs (Fd (n + 1)) gl c__law_stamp [.val (.cell 0), .val (.int (k : Int)), .no] h).fin := call_run (fn := f__law_stamp) rfl rfl rfl
  obtain ⟨v, h1, q1, b1, e1⟩ := dr n q (lim := 4) (by decide) (by decide)
  have hv : v = 0 ∨ v = 1 ∨ v = 2 ∨ v = 3 := by omega
  unfold StOk
  rcases hv with rfl | rfl | rfl | rfl
  · obtain ⟨p, h2, q2, b2, e2⟩ := dr n q1 (lim := 100) (by decide) (by decide)
    refine ⟨64 * (10 + (k : Int)) + k, p, h2, by omega, by omega, .inl (by omega), q2, ?_⟩
    rw [hc]
    simp [c__law_stamp, e1, e2, mul64]
  · obtain ⟨x, h2, q2, b2, e2⟩ := dr n q1 (lim := 50) (by decide) (by decide)
    obtain ⟨p, h3, q3, b3, e3⟩ := dr n q2 (lim := 100) (by decide) (by decide)
    refine ⟨64 * (x : Int) + k, p, h3, by omega, by omega, .inl (by omega), q3, ?_⟩
    rw [hc]
    simp [c__law_stamp, e1, e2, e3, mul64]
  · obtain ⟨x, h2, q2, b2, e2⟩ := dr n q1 (lim := 10000000000) (by decide) (by decide)
    obtain ⟨p, h3, q3, b3, e3⟩ := dr n q2 (lim := 100) (by decide) (by decide)
    refine ⟨64 * (x : Int) + k, p, h3, by omega, by omega, .inl (by omega), q3, ?_⟩
    rw [hc]
    simp [c__law_stamp, e1, e2, e3, mul64, pow10]
  · obtain ⟨x, h2, q2, b2, e2⟩ := dr n q1 (lim := 3) (by decide) (by decide)
    refine ⟨64 * (x : Int) + 50, k, h2, by omega, by omega, .inr ⟨by omega, rfl⟩, q2, ?_⟩
    rw [hc]
    simp [c__law_stamp, e1, e2, mul64]
theorem st_ne {j k : Nat} {a b : Rw} (hj : j < 40) (hk : k < 40) (hjk : j < k) (ha : StOk j a.c a.p) (hb : StOk k b.c b.p) : ¬ (a.c = b.c ∧ a.p = b.p) := by
  unfold StOk at ha hb
  omega
/-! ### four rows -/
def four (s i : Int) : List Rw := [⟨s, i, [87], 5, 1, []⟩, ⟨s, i + 1, [82], 3, 0, []⟩, ⟨s + 1, i, [82, 87], 5, 0, [0]⟩, ⟨s + 1, i, [82], 9, 9, [2]⟩]
theorem row_ok {s i c p : Int} {m : List Nat} {se : List Int} {k : Nat} (h1 : 0 ≤ s ∧ s ≤ 39) (h2 : 0 ≤ i ∧ i ≤ 99) (h3 : MOk m) (h4 : 0 ≤ c ∧ c ≤ 1000000000000) (h5 : 0 ≤ p ∧ p ≤ 99) (h6 : se.Pairwise (· < ·)) (h7 : ∀ x ∈ se, 0 ≤ x ∧ x < (k : Int)) : (Rw.mk s i m c p se).Ok k := ⟨h1, h2, h3, h4, h5, h6, h7⟩
theorem four_ok {s i : Nat} (hs : s < 39) (hi : i < 99) : RsOk (four s i) where
  len := by show 4 ≤ 8; decide
  at_ := fun j r hj => by
    match j, hj with
    | 0, hj =>
      cases hj
      exact row_ok (by omega) (by omega) (by decide) (by decide) (by decide) (by decide) (by decide)
    | 1, hj =>
      cases hj
      exact row_ok (by omega) (by omega) (by decide) (by decide) (by decide) (by decide) (by decide)
    | 2, hj =>
      cases hj
      exact row_ok (by omega) (by omega) (by decide) (by decide) (by decide) (by decide) (by decide)
    | 3, hj =>
      cases hj
      exact row_ok (by omega) (by omega) (by decide) (by decide) (by decide) (by decide) (by decide)
    | j + 4, hj => cases hj
  st := by
    unfold four
    simp
theorem RsOk.take {rs : List Rw} (h : RsOk rs) (k : Nat) : RsOk (rs.take k) where
  len := by rw [List.length_take]; have := h.len; omega
  at_ := fun j r hj => by
    rw [List.getElem?_take] at hj
    split at hj
    · exact h.at_ j r hj
    · cases hj
  st := h.st.sublist (List.take_sublist _ _)
theorem law_four {n : Nat} {h : Cells} (q : DS [] h) : ∃ (s i : Nat) (h' : Cells), s < 39 ∧ i < 99 ∧ DS [] h' ∧ (Fd (n + 2)).call 44 [.cell 0] h = .ok (.lst ((four s i).map Rw.d)) h' := by
  have hc : (Fd (n + 2)).call 44 [.cell 0] h = (evSs (Fd (n + 1)) gl c__law_four [.val (.cell 0), .no, .no] h).fin := call_run (fn := f__law_four) rfl rfl rfl
  obtain ⟨s, h1, q1, b1, e1⟩ := dr n q (lim := 39) (by decide) (by decide)
  obtain ⟨i, h2, q2, b2, e2⟩ := dr n q1 (lim := 99) (by decide) (by decide)
  refine ⟨s, i, h2, by omega, by omega, q2, ?_⟩
  rw [hc]
  simp [c__law_four, e1, e2, four, Rw.d]
  exact ⟨rfl, rfl, rfl, rfl⟩
end K33
set_option Elab.async false
set_option linter.all false
set_option maxRecDepth 100000
set_option maxHeartbeats 4000000
namespace K33
open PySem L2 Rf
theorem isort_lt {l : List Int} (h : l.Nodup) : (isort l).Pairwise (· < ·) := by
  have h1 := isort_pw l
  have h2 : (isort l).Nodup := (isort_perm l).nodup_iff.mpr h
  have h3 := List.Pairwise.and h1 h2
  exact h3.imp fun ⟨a, b⟩ => by
    have : ¬ _ := b
    omega
theorem nodup_len {l : List Int} {c : Nat} (h : l.Nodup) (hb : ∀ x ∈ l, 0 ≤ x ∧ x < c) : l.length ≤ c := by
  have h1 := rise_lenI (isort_lt h) (a := 0) (b := c) fun x hx => hb x ((isort_perm l).mem_iff.mp hx)
  rw [(isort_perm l).length_eq] at h1
  omega
theorem in_intsL (x : Int) (l : List Int) : isIn (.int x) (.lst (l.map .int)) = some (decide (x ∈ l)) := by
  have e := in_pln (m := 0) (d := .int x) (ds := l.map .int) rfl (List.all_eq_true.mpr fun d hd => by
    obtain ⟨y, _, rfl⟩ := List.mem_map.mp hd
    rfl) (by decide)
  rw [e]
  congr 1
  rw [Bool.eq_iff_iff, List.any_eq_true, decide_eq_true_eq]
  refine ⟨fun ⟨d, h1, h2⟩ => ?_, fun h => ⟨.int x, List.mem_map.mpr ⟨x, h, rfl⟩, by rw [eqB_int]; simp⟩⟩
  obtain ⟨y, hy, rfl⟩ := List.mem_map.mp h1
  rw [eqB_int, decide_eq_true_eq] at h2
  rw [← h2]
  exact hy
theorem at_range {c : Nat} {pre post : List D} {d : D} (h : (List.range c).map (fun (j : Nat) => D.int (j : Int)) = pre ++ d :: post) : d = .int (pre.length : Int) ∧ pre.length < c := by
  have e : ((List.range c).map (fun (j : Nat) => D.int (j : Int)))[pre.length]? = some d := by
    rw [h, List.getElem?_append_right (Nat.le_refl _), Nat.sub_self]
    rfl
  have hl : pre.length < c := by
    have := congrArg List.length h
    simp at this
    omega
  rw [List.getElem?_map, List.getElem?_range hl] at e
  exact ⟨(Option.some.inj e).symm, hl⟩
/-- rows as they are drawn -/
structure DrOk (rs : List Rw) : Prop where
  at_ : ∀ (j : Nat) (r : Rw), rs[j]? = some r → r.Ok j
  st : ∀ (j : Nat) (r : Rw), rs[j]? = some r → StOk j r.c r.p
theorem DrOk.rs {rs : List Rw} (h : DrOk rs) (hl : rs.length ≤ 8) : RsOk rs where
  len := hl
  at_ := h.at_
  st := List.pairwise_iff_getElem.mpr fun i j hi hj hij => st_ne (by omega) (by omega) hij (h.st _ _ (List.getElem?_eq_getElem hi)) (h.st _ _ (List.getElem?_eq_getElem hj))
def SeOk (c : Nat) (l : List Int) : Prop := l.Pairwise (· < ·) ∧ ∀ x ∈ l, 0 ≤ x ∧ x < c
def cSa : CSs := (.cons (.ite (.cmp .eq (.call 31 (.cons (.var 0) (.cons (.bin .add (.cst (.int 2)) (.var 3)) .nil))) (.cst (.int 1))) (.cons (.app 4 (.var 5)) .nil) .nil) .nil)
def cSc : CSs := (.cons (.ite (.cmp .notin (.var 6) (.var 4)) (.cons (.app 4 (.var 6)) .nil) .nil) .nil)
def cSb : CSs := (.cons (.for_ (.name 6) (.of (.sub (.sub (.var 1) (.var 5)) (.cst (.int 4)))) cSc) .nil)
abbrev eS (R : D) (rs : List D) (c v : Nat) (l : List Int) (x y : Sl) : En := [.val (.cell 0), .bor (.lst rs), .val (.int (c : Int)), .val (.int (v : Int)), .own (.lst (l.map .int)), x, y]
section
variable {n : Nat} {h : Cells} {rs : List Rw} {c v : Nat}
abbrev En7 (rows : List D) (c v : Nat) (l : List Int) (x y : Sl) : En := [.val (.cell 0), .bor (.lst rows), .val (.int (c : Int)), .val (.int (v : Int)), .own (.lst (l.map .int)), x, y]
theorem app_int (l : List Int) (x : Int) : l.map D.int ++ [.int x] = (l ++ [x]).map .int := by simp
theorem seen1 {rows : List D} (q : DS [] h) (hc : c ≤ 8) (hv : v < 4) : ∃ l x h', DS [] h' ∧ l.Nodup ∧ (∀ z ∈ l, 0 ≤ z ∧ z < (c : Int)) ∧ forGo (.name 5) (evSs (Fd (n + 1)) gl cSa) ((List.range c).map fun (j : Nat) => .int (j : Int)) (En7 rows c v [] .no .no) h = .next (En7 rows c v l x .no) h' := by
  obtain ⟨env', h', hf, q', l, x, rfl, nd, bd⟩ := for_at (t := .name 5) (f := evSs (Fd (n + 1)) gl cSa) (fun pre env h => DS [] h ∧ ∃ l x, env = En7 rows c v l x .no ∧ l.Nodup ∧ ∀ z ∈ l, 0 ≤ z ∧ z < (pre.length : Int))
    (ds := (List.range c).map fun (j : Nat) => .int (j : Int)) (env := En7 rows c v [] .no .no) (h := h) ⟨q, [], _, rfl, List.nodup_nil, fun z hz => by cases hz⟩ (fun pre d post env h0 hds ⟨q0, l, x, he, nd, bd⟩ => by
      subst he
      obtain ⟨rfl, hl⟩ := at_range hds
      obtain ⟨u, h1, q1, b1, e1⟩ := dr n q0 (lim := 2 + (v : Int)) (by omega) (by omega)
      have hll := nodup_len nd bd
      by_cases hu : u = 1
      · subst hu
        have hz : l.length < 16777216 := by omega
        refine ⟨En7 rows c v l (.val (.int (pre.length : Int))) .no, En7 rows c v (l ++ [(pre.length : Int)]) (.val (.int (pre.length : Int))) .no, h1, rfl, .inl ?_, q1, _, _, rfl, ?_, ?_⟩
        · simp [cSa, e1, hz]
        · rw [List.nodup_append]
          refine ⟨nd, by simp, fun a ha b hb => ?_⟩
          have := bd a ha
          simp at hb
          omega
        · intro z hz
          rw [List.length_append, List.length_singleton]
          rcases List.mem_append.mp hz with hz | hz
          · have := bd z hz; omega
          · simp at hz; omega
      · have hu' : ¬ ((u : Int) = 1) := by omega
        refine ⟨En7 rows c v l (.val (.int (pre.length : Int))) .no, En7 rows c v l (.val (.int (pre.length : Int))) .no, h1, rfl, .inl ?_, q1, _, _, rfl, nd, fun z hz => ?_⟩
        · simp [cSa, e1, hu']
        · rw [List.length_append, List.length_singleton]
          have := bd z hz; omega)
  refine ⟨l, x, h', q', nd, fun z hz => ?_, hf⟩
  have := bd z hz
  rw [List.length_map, List.length_range] at this
  exact this
theorem seen2 {rows : List D} {k : Int} (hk : 0 ≤ k ∧ k < c) (hc : c ≤ 8) {se : List Int} (hse : ∀ z ∈ se, 0 ≤ z ∧ z < k) {l : List Int} (nd : l.Nodup) (bd : ∀ z ∈ l, 0 ≤ z ∧ z < (c : Int)) (y : Sl) :
    ∃ l' y', l'.Nodup ∧ (∀ z ∈ l', 0 ≤ z ∧ z < (c : Int)) ∧ forGo (.name 6) (evSs (Fd (n + 1)) gl cSc) (se.map .int) (En7 rows c v l (.val (.int k)) y) h = .next (En7 rows c v l' (.val (.int k)) y') h := by
  obtain ⟨env', h', hf, rfl, l', y', rfl, nd', bd'⟩ := for_at (t := .name 6) (f := evSs (Fd (n + 1)) gl cSc) (fun pre env h' => h' = h ∧ ∃ l y, env = En7 rows c v l (.val (.int k)) y ∧ l.Nodup ∧ ∀ z ∈ l, 0 ≤ z ∧ z < (c : Int))
    (ds := se.map .int) (env := En7 rows c v l (.val (.int k)) y) (h := h) ⟨rfl, l, y, rfl, nd, bd⟩ (fun pre d post env h0 hds ⟨q0, l, y, he, nd, bd⟩ => by
      subst he q0
      have hd : d ∈ se.map D.int := by rw [hds]; simp
      obtain ⟨o, ho, rfl⟩ := List.mem_map.mp hd
      have hob := hse o ho
      have hll := nodup_len nd bd
      have hin := in_intsL o l
      by_cases hm : o ∈ l
      · rw [decide_eq_true hm] at hin
        refine ⟨En7 rows c v l (.val (.int k)) (.val (.int o)), En7 rows c v l (.val (.int k)) (.val (.int o)), h0, rfl, .inl ?_, rfl, _, _, rfl, nd, bd⟩
        simp [cSc, hin]
      · rw [decide_eq_false hm] at hin
        have hz : l.length < 16777216 := by omega
        refine ⟨En7 rows c v l (.val (.int k)) (.val (.int o)), En7 rows c v (l ++ [o]) (.val (.int k)) (.val (.int o)), h0, rfl, .inl ?_, rfl, _, _, rfl, ?_, ?_⟩
        · simp [cSc, hin, hz]
        · rw [List.nodup_append]
          refine ⟨nd, by simp, fun a ha b hb => ?_⟩
          simp at hb
          subst hb
          exact fun e => hm (e ▸ ha)
        · intro z hz
          rcases List.mem_append.mp hz with hz | hz
          · exact bd z hz
          · simp at hz; omega)
  exact ⟨l', y', nd', bd', hf⟩
theorem seen3 (hr : DrOk rs) (hc : c = rs.length) (h8 : c ≤ 8) {l0 : List Int} (nd0 : l0.Nodup) (bd0 : ∀ z ∈ l0, 0 ≤ z ∧ z < (c : Int)) (x0 : Sl) :
    ∃ l x y, l.Nodup ∧ (∀ z ∈ l, 0 ≤ z ∧ z < (c : Int)) ∧ forGo (.name 5) (evSs (Fd (n + 1)) gl cSb) (l0.map .int) (En7 (rs.map Rw.d) c v l0 x0 .no) h = .next (En7 (rs.map Rw.d) c v l x y) h := by
  obtain ⟨env', h', hf, rfl, l, x', y, rfl, nd, bd⟩ := for_at (t := .name 5) (f := evSs (Fd (n + 1)) gl cSb) (fun pre env h' => h' = h ∧ ∃ l x y, env = En7 (rs.map Rw.d) c v l x y ∧ l.Nodup ∧ ∀ z ∈ l, 0 ≤ z ∧ z < (c : Int))
    (ds := l0.map .int) (env := En7 (rs.map Rw.d) c v l0 x0 .no) (h := h) ⟨rfl, l0, x0, _, rfl, nd0, bd0⟩ (fun pre d post env h0 hds ⟨q0, l, x, y, he, nd, bd⟩ => by
      subst he q0
      have hd : d ∈ l0.map D.int := by rw [hds]; simp
      obtain ⟨k, hk, rfl⟩ := List.mem_map.mp hd
      have hkb := bd0 k hk
      obtain ⟨j, rfl⟩ := Int.eq_ofNat_of_zero_le hkb.1
      have hj : j < rs.length := by omega
      have hro := hr.at_ j _ (List.getElem?_eq_getElem hj)
      obtain ⟨l', y', nd', bd', hf'⟩ := seen2 (n := n) (h := h0) (rows := rs.map Rw.d) (v := v) hkb h8 hro.sb nd bd y
      refine ⟨En7 (rs.map Rw.d) c v l (.val (.int (j : Int))) y, En7 (rs.map Rw.d) c v l' (.val (.int (j : Int))) y', h0, rfl, .inl ?_, rfl, _, _, _, rfl, nd', bd'⟩
      have es : evI (Fd (n + 1)) gl (En7 (rs.map Rw.d) c v l (.val (.int (j : Int))) y) (.of (.sub (.sub (.var 1) (.var 5)) (.cst (.int 4)))) h0 = .ok ((rs[j]'hj).se.map .int) h0 := by
        have e1 : subD (.lst (rs.map Rw.d)) (.int (j : Int)) = some (rs[j]'hj).d := by
          show L2.atI _ _ = _
          rw [Rf.atI_nat, List.getElem?_map, List.getElem?_eq_getElem hj]
          rfl
        generalize rs.map Rw.d = rows at e1
        simp [e1, Rw.d]
      unfold cSb
      rw [ss_consE, Rf.s_forE, es, out_ok, hf']
      simp)
  exact ⟨l, x', y, nd, bd, hf⟩
theorem law_seen (hr : DrOk rs) (h8 : rs.length ≤ 8) (q : DS [] h) : ∃ l h', SeOk rs.length l ∧ DS [] h' ∧ (Fd (n + 2)).callb 35 [.d (.cell 0), .b (.lst (rs.map Rw.d))] h = .ok (.lst (l.map .int)) h' := by
  have hcall : (Fd (n + 2)).callb 35 [.d (.cell 0), .b (.lst (rs.map Rw.d))] h = (evSs (Fd (n + 1)) gl c__law_seen [.val (.cell 0), .bor (.lst (rs.map Rw.d)), .no, .no, .no, .no, .no] h).fin := callb_run (fn := f__law_seen) rfl rfl rfl
  rw [hcall]
  obtain ⟨v, h1, q1, b1, e1⟩ := dr n q (lim := 4) (by decide) (by decide)
  obtain ⟨c, hc⟩ : ∃ c, c = rs.length := ⟨_, rfl⟩
  have st1 : evS (Fd (n + 1)) gl (.set 2 (.blt .len (.cons (.var 1) .nil))) [.val (.cell 0), .bor (.lst (rs.map Rw.d)), .no, .no, .no, .no, .no] h = .next [.val (.cell 0), .bor (.lst (rs.map Rw.d)), .val (.int (c : Int)), .no, .no, .no, .no] h := by
    have hl : ((rs.map Rw.d).length : Int) = c := by rw [List.length_map, hc]
    generalize rs.map Rw.d = rows at hl
    simp [hl]
  have st2 : evS (Fd (n + 1)) gl (.set 3 (.call 31 (.cons (.var 0) (.cons (.cst (.int 4)) .nil)))) [.val (.cell 0), .bor (.lst (rs.map Rw.d)), .val (.int (c : Int)), .no, .no, .no, .no] h = .next [.val (.cell 0), .bor (.lst (rs.map Rw.d)), .val (.int (c : Int)), .val (.int (v : Int)), .no, .no, .no] h1 := by
    simp [e1]
  have hrg : rngD 0 (c : Int) = some ((List.range c).map fun (j : Nat) => .int (j : Int)) := rng_nat c (by omega)
  unfold c__law_seen
  rw [ss_consE, st1, seq_next, ss_consE, st2, seq_next]
  by_cases hv : v = 1
  · subst hv
    refine ⟨(List.range c).map fun (j : Nat) => (j : Int), h1, ⟨?_, fun x hx => ?_⟩, q1, ?_⟩
    · rw [List.pairwise_map]
      exact List.pairwise_lt_range.imp fun a => by omega
    · obtain ⟨j, hj, rfl⟩ := List.mem_map.mp hx
      have := List.mem_range.mp hj
      omega
    · have hl : c ≤ 16777216 := by omega
      rw [List.map_map]
      simp [hrg, hl]
  · have hv' : ¬ ((v : Int) = 1) := by omega
    have st3 : evS (Fd (n + 1)) gl (.ite (.cmp .eq (.var 3) (.cst (.int 1))) (.cons (.ret (.rgl false (.rng1 (.var 2)))) .nil) .nil) [.val (.cell 0), .bor (.lst (rs.map Rw.d)), .val (.int (c : Int)), .val (.int (v : Int)), .no, .no, .no] h1 = .next [.val (.cell 0), .bor (.lst (rs.map Rw.d)), .val (.int (c : Int)), .val (.int (v : Int)), .no, .no, .no] h1 := by
      simp [hv']
    have st4 : evS (Fd (n + 1)) gl (.setN 4 (.lst .nil)) [.val (.cell 0), .bor (.lst (rs.map Rw.d)), .val (.int (c : Int)), .val (.int (v : Int)), .no, .no, .no] h1 = .next (En7 (rs.map Rw.d) c v [] .no .no) h1 := by
      simp
    obtain ⟨l, x, h2, q2, nd, bd, hf⟩ := seen1 (n := n) (rows := rs.map Rw.d) (c := c) (v := v) q1 (by omega) (by omega)
    have es : evI (Fd (n + 1)) gl (En7 (rs.map Rw.d) c v [] .no .no) (.rng1 (.var 2)) h1 = .ok ((List.range c).map fun (j : Nat) => .int (j : Int)) h1 := by
      simp [hrg]
    have st5 : evS (Fd (n + 1)) gl (.for_ (.name 5) (.rng1 (.var 2)) cSa) (En7 (rs.map Rw.d) c v [] .no .no) h1 = .next (En7 (rs.map Rw.d) c v l x .no) h2 := by
      rw [Rf.s_forE, es, out_ok, hf]
    unfold cSa at st5
    rw [ss_consE, st3, seq_next, ss_consE, st4, seq_next, ss_consE, st5, seq_next]
    have fin : ∀ (l : List Int) (x y : Sl), evSs (Fd (n + 1)) gl (.cons (.ret (.blt .sorted (.cons (.var 4) .nil))) .nil) (En7 (rs.map Rw.d) c v l x y) h2 = .ret (.lst ((isort l).map .int)) h2 := fun l x y => by
      simp [intsD_map]
    by_cases hv3 : v = 3
    · subst hv3
      obtain ⟨l', x', y', nd', bd', hf'⟩ := seen3 (n := n) (c := c) (v := 3) (h := h2) hr hc (by omega) nd bd x
      have est : evI (Fd (n + 1)) gl (En7 (rs.map Rw.d) c 3 l x .no) (.of (.blt .list (.cons (.var 4) .nil))) h2 = .ok (l.map .int) h2 := by
        simp
      have st6 : evS (Fd (n + 1)) gl (.ite (.cmp .eq (.var 3) (.cst (.int 3))) (.cons (.for_ (.name 5) (.of (.blt .list (.cons (.var 4) .nil))) cSb) .nil) .nil) (En7 (rs.map Rw.d) c 3 l x .no) h2 = .next (En7 (rs.map Rw.d) c 3 l' x' y') h2 := by
        have ef : evS (Fd (n + 1)) gl (.for_ (.name 5) (.of (.blt .list (.cons (.var 4) .nil))) cSb) (En7 (rs.map Rw.d) c 3 l x .no) h2 = .next (En7 (rs.map Rw.d) c 3 l' x' y') h2 := by
          rw [Rf.s_forE, est, out_ok, hf']
        generalize cSb = cb at ef
        simp [ef]
      unfold cSb cSc at st6
      rw [ss_consE, st6, seq_next, fin]
      refine ⟨isort l', h2, ⟨isort_lt nd', fun z hz => ?_⟩, q2, rfl⟩
      have := bd' z ((isort_perm l').mem_iff.mp hz)
      omega
    · have hv3' : ¬ ((v : Int) = 3) := by omega
      have st6 : ∀ cb, evS (Fd (n + 1)) gl (.ite (.cmp .eq (.var 3) (.cst (.int 3))) cb .nil) (En7 (rs.map Rw.d) c v l x .no) h2 = .next (En7 (rs.map Rw.d) c v l x .no) h2 := fun cb => by
        simp [hv3']
      rw [ss_consE, st6, seq_next, fin]
      refine ⟨isort l, h2, ⟨isort_lt nd, fun z hz => ?_⟩, q2, rfl⟩
      have := bd z ((isort_perm l).mem_iff.mp hz)
      omega
end
end K33
set_option Elab.async false
set_option linter.all false
set_option maxRecDepth 100000
set_option maxHeartbeats 4000000
namespace K33
open PySem L2 Rf
def cRw : CSs := (.cons (.set 4 (.call 31 (.cons (.var 0) (.cons (.cst (.int 3)) .nil)))) (.cons (.set 5 (.call 31 (.cons (.var 0) (.cons (.cst (.int 2)) .nil)))) (.cons (.ite (.cmp .eq (.call 31 (.cons (.var 0) (.cons (.cst (.int 8)) .nil))) (.cst (.int 1))) (.cons (.set 4 (.call 31 (.cons (.var 0) (.cons (.cst (.int 40)) .nil)))) (.cons (.set 5 (.call 31 (.cons (.var 0) (.cons (.cst (.int 100)) .nil)))) .nil)) .nil) (.cons (.set 6 (.call 33 (.cons (.var 0) .nil))) (.cons (.set 7 (.call 34 (.cons (.var 0) (.cons (.var 3) .nil)))) (.cons (.app 2 (.tup (.cons (.var 4) (.cons (.var 5) (.cons (.var 6) (.cons (.var 7) (.cons (.blt .tuple (.cons (.callb 35 (.cons (.var 0) (.cons (.var 2) .nil))) .nil)) .nil))))))) .nil))))))
section
variable {n : Nat} {h : Cells}
abbrev E8 (rows : List D) (x3 x4 x5 x6 x7 : Sl) : En := [.val (.cell 0), .val (.int 8), .own (.lst rows), x3, x4, x5, x6, x7]
theorem DrOk.app {rs : List Rw} {r : Rw} (h : DrOk rs) (h1 : r.Ok rs.length) (h2 : StOk rs.length r.c r.p) : DrOk (rs ++ [r]) where
  at_ := fun j a hj => by
    rcases Nat.lt_or_ge j rs.length with q | q
    · rw [List.getElem?_append_left q] at hj
      exact h.at_ j a hj
    · rw [List.getElem?_append_right q] at hj
      have e : j = rs.length := by
        have := (List.getElem?_eq_some_iff.mp hj).1
        rw [List.length_singleton] at this
        omega
      subst e
      rw [Nat.sub_self] at hj
      cases hj
      exact h1
  st := fun j a hj => by
    rcases Nat.lt_or_ge j rs.length with q | q
    · rw [List.getElem?_append_left q] at hj
      exact h.st j a hj
    · rw [List.getElem?_append_right q] at hj
      have e : j = rs.length := by
        have := (List.getElem?_eq_some_iff.mp hj).1
        rw [List.length_singleton] at this
        omega
      subst e
      rw [Nat.sub_self] at hj
      cases hj
      exact h2
theorem row_turn {rs : List Rw} {x4 x5 x6 x7 : Sl} (q : DS [] h) (hr : DrOk rs) (hl : rs.length < 8) :
    ∃ r h' y4 y5 y6 y7, DrOk (rs ++ [r]) ∧ DS [] h' ∧ evSs (Fd (n + 2)) gl cRw (E8 (rs.map Rw.d) (.val (.int (rs.length : Int))) x4 x5 x6 x7) h = .next (E8 ((rs ++ [r]).map Rw.d) (.val (.int (rs.length : Int))) y4 y5 y6 y7) h' := by
  obtain ⟨a, h1, q1, b1, e1⟩ := dr (n + 1) q (lim := 3) (by decide) (by decide)
  obtain ⟨b, h2, q2, b2, e2⟩ := dr (n + 1) q1 (lim := 2) (by decide) (by decide)
  obtain ⟨w, h3, q3, b3, e3⟩ := dr (n + 1) q2 (lim := 8) (by decide) (by decide)
  have st1 : evS (Fd (n + 2)) gl (.set 4 (.call 31 (.cons (.var 0) (.cons (.cst (.int 3)) .nil)))) (E8 (rs.map Rw.d) (.val (.int (rs.length : Int))) x4 x5 x6 x7) h = .next (E8 (rs.map Rw.d) (.val (.int (rs.length : Int))) (.val (.int (a : Int))) x5 x6 x7) h1 := by
    simp [e1]
  have st2 : evS (Fd (n + 2)) gl (.set 5 (.call 31 (.cons (.var 0) (.cons (.cst (.int 2)) .nil)))) (E8 (rs.map Rw.d) (.val (.int (rs.length : Int))) (.val (.int (a : Int))) x5 x6 x7) h1 = .next (E8 (rs.map Rw.d) (.val (.int (rs.length : Int))) (.val (.int (a : Int))) (.val (.int (b : Int))) x6 x7) h2 := by
    simp [e2]
  have st3 : ∃ (s i : Nat) (h4 : Cells), s ≤ 39 ∧ i ≤ 99 ∧ DS [] h4 ∧ evS (Fd (n + 2)) gl (.ite (.cmp .eq (.call 31 (.cons (.var 0) (.cons (.cst (.int 8)) .nil))) (.cst (.int 1))) (.cons (.set 4 (.call 31 (.cons (.var 0) (.cons (.cst (.int 40)) .nil)))) (.cons (.set 5 (.call 31 (.cons (.var 0) (.cons (.cst (.int 100)) .nil)))) .nil)) .nil) (E8 (rs.map Rw.d) (.val (.int (rs.length : Int))) (.val (.int (a : Int))) (.val (.int (b : Int))) x6 x7) h2 = .next (E8 (rs.map Rw.d) (.val (.int (rs.length : Int))) (.val (.int (s : Int))) (.val (.int (i : Int))) x6 x7) h4 := by
    by_cases hw : w = 1
    · subst hw
      obtain ⟨s, h4, q4, b4, e4⟩ := dr (n + 1) q3 (lim := 40) (by decide) (by decide)
      obtain ⟨i, h5, q5, b5, e5⟩ := dr (n + 1) q4 (lim := 100) (by decide) (by decide)
      exact ⟨s, i, h5, by omega, by omega, q5, by simp [e3, e4, e5]⟩
    · have hw' : ¬ ((w : Int) = 1) := by omega
      exact ⟨a, b, h3, by omega, by omega, q3, by simp [e3, hw']⟩
  obtain ⟨s, i, h4, hs, hi, q4, st3⟩ := st3
  obtain ⟨m, h5, hm, q5, e5⟩ := law_marks (n := n) q4
  obtain ⟨c, p, h6, hc, hp, hst, q6, e6⟩ := law_stamp (n := n) (k := rs.length) (by omega) q5
  obtain ⟨l, h7, hse, q7, e7⟩ := law_seen (n := n) hr (by omega) q6
  have st4 : evS (Fd (n + 2)) gl (.set 6 (.call 33 (.cons (.var 0) .nil))) (E8 (rs.map Rw.d) (.val (.int (rs.length : Int))) (.val (.int (s : Int))) (.val (.int (i : Int))) x6 x7) h4 = .next (E8 (rs.map Rw.d) (.val (.int (rs.length : Int))) (.val (.int (s : Int))) (.val (.int (i : Int))) (.val (.str (sL m))) x7) h5 := by
    simp [e5]
  have st5 : evS (Fd (n + 2)) gl (.set 7 (.call 34 (.cons (.var 0) (.cons (.var 3) .nil)))) (E8 (rs.map Rw.d) (.val (.int (rs.length : Int))) (.val (.int (s : Int))) (.val (.int (i : Int))) (.val (.str (sL m))) x7) h5 = .next (E8 (rs.map Rw.d) (.val (.int (rs.length : Int))) (.val (.int (s : Int))) (.val (.int (i : Int))) (.val (.str (sL m))) (.val (.tup [.int c, .int p]))) h6 := by
    simp [e6]
  obtain ⟨r, er⟩ : ∃ r : Rw, r = ⟨s, i, m, c, p, l⟩ := ⟨_, rfl⟩
  have ro : r.Ok rs.length := by
    subst er
    exact ⟨by show 0 ≤ (s : Int) ∧ (s : Int) ≤ 39; omega, by show 0 ≤ (i : Int) ∧ (i : Int) ≤ 99; omega, hm, hc, hp, hse.1, hse.2⟩
  have hst' : StOk rs.length r.c r.p := by subst er; exact hst
  refine ⟨r, h7, .val (.int (s : Int)), .val (.int (i : Int)), .val (.str (sL m)), .val (.tup [.int c, .int p]), hr.app ro hst', q7, ?_⟩
  unfold cRw
  rw [ss_consE, st1, seq_next, ss_consE, st2, seq_next, ss_consE, st3, seq_next, ss_consE, st4, seq_next, ss_consE, st5, seq_next]
  have em : (rs ++ [r]).map Rw.d = rs.map Rw.d ++ [.tup [.int (s : Int), .int (i : Int), .str (sL m), .tup [.int c, .int p], .tup (l.map .int)]] := by
    rw [List.map_append, er]
    rfl
  have hz : (rs.map Rw.d).length < 16777216 := by rw [List.length_map]; omega
  rw [em]
  generalize rs.map Rw.d = rows at e7 hz
  simp [e7, hz]
theorem law_rows (q : DS [] h) : ∃ rs h', DrOk rs ∧ rs.length ≤ 8 ∧ DS [] h' ∧ (Fd (n + 3)).call 36 [.cell 0, .int 8] h = .ok (.lst (rs.map Rw.d)) h' := by
  have hcall : (Fd (n + 3)).call 36 [.cell 0, .int 8] h = (evSs (Fd (n + 2)) gl c__law_rows [.val (.cell 0), .val (.int 8), .no, .no, .no, .no, .no, .no] h).fin := call_run (fn := f__law_rows) rfl rfl rfl
  rw [hcall]
  obtain ⟨v, h1, q1, b1, e1⟩ := dr (n + 1) q (lim := 9) (by decide) (by decide)
  obtain ⟨env', h2, hf, q2, rs, x3, x4, x5, x6, x7, rfl, hr, hl⟩ := for_at (t := .name 3) (f := evSs (Fd (n + 2)) gl cRw) (fun pre env h => DS [] h ∧ ∃ rs x3 x4 x5 x6 x7, env = E8 (rs.map Rw.d) x3 x4 x5 x6 x7 ∧ DrOk rs ∧ rs.length = pre.length)
    (ds := (List.range v).map fun (j : Nat) => .int (j : Int)) (env := E8 [] .no .no .no .no .no) (h := h1) ⟨q1, [], _, _, _, _, _, rfl, ⟨fun j r hj => by simp at hj, fun j r hj => by simp at hj⟩, rfl⟩ (fun pre d post env h0 hds ⟨q0, rs, x3, x4, x5, x6, x7, he, hr, hl⟩ => by
      subst he
      obtain ⟨rfl, hlt⟩ := at_range hds
      obtain ⟨r, h', y4, y5, y6, y7, hr', q', et⟩ := row_turn (n := n) (x4 := x4) (x5 := x5) (x6 := x6) (x7 := x7) q0 hr (by omega)
      rw [hl] at et
      exact ⟨_, _, h', rfl, .inl et, q', _, _, _, _, _, _, rfl, hr', by rw [List.length_append, List.length_append, hl]; rfl⟩)
  refine ⟨rs, h2, hr, ?_, q2, ?_⟩
  · rw [hl, List.length_map, List.length_range]; omega
  · have hrg : rngD 0 (v : Int) = some ((List.range v).map fun (j : Nat) => .int (j : Int)) := rng_nat v (by omega)
    have es : evI (Fd (n + 2)) gl (E8 [] .no .no .no .no .no) (.rng1 (.call 31 (.cons (.var 0) (.cons (.bin .add (.var 1) (.cst (.int 1))) .nil)))) h = .ok ((List.range v).map fun (j : Nat) => .int (j : Int)) h1 := by
      simp [e1, hrg]
    have st1 : evS (Fd (n + 2)) gl (.for_ (.name 3) (.rng1 (.call 31 (.cons (.var 0) (.cons (.bin .add (.var 1) (.cst (.int 1))) .nil)))) cRw) (E8 [] .no .no .no .no .no) h = .next (E8 (rs.map Rw.d) x3 x4 x5 x6 x7) h2 := by
      rw [Rf.s_forE, es, out_ok, hf]
    have st0 : evS (Fd (n + 2)) gl (.setN 2 (.lst .nil)) [.val (.cell 0), .val (.int 8), .no, .no, .no, .no, .no, .no] h = .next (E8 [] .no .no .no .no .no) h := by
      simp
    unfold c__law_rows
    unfold cRw at st1
    rw [ss_consE, st0, seq_next, ss_consE, st1, seq_next]
    simp
/-! ### an order, a choice -/
def nD (k : Nat) : D := .int (k : Int)
theorem erase_map {α β : Type} (f : α → β) : ∀ (l : List α) (i : Nat), (l.map f).eraseIdx i = (l.eraseIdx i).map f
  | [], _ => by simp
  | a :: l, 0 => by simp
  | a :: l, i + 1 => by simp [erase_map f l i]
abbrev E5 (s : Nat) (L O : List Nat) (x : Sl) : En := [.val (.cell 0), .val (.int (s : Int)), .own (.lst (L.map nD)), .own (.lst (O.map nD)), x]
def cOr : CSs := (.cons (.appPop 3 2 (.call 31 (.cons (.var 0) (.cons (.blt .len (.cons (.var 2) .nil)) .nil)))) .nil)
theorem law_order {s : Nat} (hs : s ≤ 8) (q : DS [] h) : ∃ (O : List Nat) (h' : Cells), O.length = s ∧ (∀ x ∈ O, x < s) ∧ DS [] h' ∧ (Fd (n + 2)).call 43 [.cell 0, .int (s : Int)] h = .ok (.lst (O.map nD)) h' := by
  have hcall : (Fd (n + 2)).call 43 [.cell 0, .int (s : Int)] h = (evSs (Fd (n + 1)) gl c__law_order [.val (.cell 0), .val (.int (s : Int)), .no, .no, .no] h).fin := call_run (fn := f__law_order) rfl rfl rfl
  rw [hcall]
  obtain ⟨env', h2, hf, q2, L, O, x, rfl, hL, hO, bL, bO⟩ := for_at (t := .name 4) (f := evSs (Fd (n + 1)) gl cOr) (fun pre env h => DS [] h ∧ ∃ L O x, env = E5 s L O x ∧ L.length + pre.length = s ∧ O.length = pre.length ∧ (∀ x ∈ L, x < s) ∧ ∀ x ∈ O, x < s)
    (ds := (List.range s).map fun (j : Nat) => .int (j : Int)) (env := E5 s (List.range s) [] .no) (h := h) ⟨q, _, _, _, rfl, by simp, rfl, fun x hx => List.mem_range.mp hx, fun x hx => by cases hx⟩ (fun pre d post env h0 hds ⟨q0, L, O, x, he, hL, hO, bL, bO⟩ => by
      subst he
      obtain ⟨rfl, hlt⟩ := at_range hds
      obtain ⟨v, h1, q1, b1, e1⟩ := dr n q0 (lim := (L.length : Int)) (by omega) (by omega)
      have hv : v < L.length := by omega
      have ee : evE (Fd (n + 1)) gl (E5 s L O (.val (.int (pre.length : Int)))) (.call 31 (.cons (.var 0) (.cons (.blt .len (.cons (.var 2) .nil)) .nil))) h0 = .ok (.int (v : Int)) h1 := by
        simp [e1]
      have hix : L2.ixN (L.map nD).length (v : Int) = some v := by
        unfold L2.ixN
        rw [List.length_map, if_pos (by omega), if_pos (by omega)]
        rfl
      have hp := appPop_at (Fd (n + 1)) gl (E5 s L O (.val (.int (pre.length : Int)))) h0 (.call 31 (.cons (.var 0) (.cons (.blt .len (.cons (.var 2) .nil)) .nil))) (q := 3) (p := 2) (xs := O.map nD) (ds := L.map nD) rfl rfl (by decide) ee hix (by rw [List.length_map, List.length_map]; constructor <;> (show _ < 16777216; omega))
      have hg : (L.map nD).getD v .non = nD (L[v]'hv) := by
        rw [List.getD_eq_getElem?_getD, List.getElem?_map, List.getElem?_eq_getElem hv]
        rfl
      rw [hg, erase_map] at hp
      refine ⟨E5 s L O (.val (.int (pre.length : Int))), E5 s (L.eraseIdx v) (O ++ [L[v]'hv]) (.val (.int (pre.length : Int))), h1, rfl, .inl ?_, q1, _, _, _, rfl, ?_, ?_, ?_, ?_⟩
      · unfold cOr
        rw [ss_consE, hp, seq_next, ss_nilE]
        show Out.next [_, _, _, .own (.lst (O.map nD ++ [nD (L[v]'hv)])), _] h1 = _
        rw [show O.map nD ++ [nD (L[v]'hv)] = (O ++ [L[v]'hv]).map nD by rw [List.map_append]; rfl]
      · rw [List.length_eraseIdx, if_pos hv, List.length_append, List.length_singleton]
        omega
      · rw [List.length_append, List.length_append, hO]
        rfl
      · exact fun x hx => bL x (List.mem_of_mem_eraseIdx hx)
      · intro x hx
        rcases List.mem_append.mp hx with hx | hx
        · exact bO x hx
        · simp at hx
          rw [hx]
          exact bL _ (List.getElem_mem _))
  refine ⟨O, h2, ?_, bO, q2, ?_⟩
  · rw [hO, List.length_map, List.length_range]
  · have hrg : rngD 0 (s : Int) = some ((List.range s).map fun (j : Nat) => .int (j : Int)) := rng_nat s (by omega)
    have st0 : evS (Fd (n + 1)) gl (.setN 2 (.rgl false (.rng1 (.var 1)))) [.val (.cell 0), .val (.int (s : Int)), .no, .no, .no] h = .next [.val (.cell 0), .val (.int (s : Int)), .own (.lst ((List.range s).map nD)), .no, .no] h := by
      have hl : s ≤ 16777216 := by omega
      simp [hrg, hl, Rf.fresh]
      intro a _
      rfl
    have st1 : evS (Fd (n + 1)) gl (.setN 3 (.lst .nil)) [.val (.cell 0), .val (.int (s : Int)), .own (.lst ((List.range s).map nD)), .no, .no] h = .next (E5 s (List.range s) [] .no) h := by
      simp
    have es : evI (Fd (n + 1)) gl (E5 s (List.range s) [] .no) (.rng1 (.var 1)) h = .ok ((List.range s).map fun (j : Nat) => .int (j : Int)) h := by
      simp [hrg]
    have st2 : evS (Fd (n + 1)) gl (.for_ (.name 4) (.rng1 (.var 1)) cOr) (E5 s (List.range s) [] .no) h = .next (E5 s L O x) h2 := by
      rw [Rf.s_forE, es, out_ok, hf]
    unfold c__law_order
    unfold cOr at st2
    rw [ss_consE, st0, seq_next, ss_consE, st1, seq_next, ss_consE, st2, seq_next]
    simp
theorem law_choice {s : Nat} (h1 : 1 ≤ s) (hs : s ≤ 8) (q : DS [] h) : ∃ (cs : List Nat) (h' : Cells), cs.length ≤ 4 ∧ (∀ x ∈ cs, x < s) ∧ DS [] h' ∧ (Fd (n + 3)).call 46 [.cell 0, .int (s : Int)] h = .ok (.tup (cs.map nD)) h' := by
  have hcall : (Fd (n + 3)).call 46 [.cell 0, .int (s : Int)] h = (evSs (Fd (n + 2)) gl c__law_choice [.val (.cell 0), .val (.int (s : Int)), .no] h).fin := call_run (fn := f__law_choice) rfl rfl rfl
  rw [hcall]
  obtain ⟨v, h2, q2, b2, e2⟩ := dr (n + 1) q (lim := 4) (by decide) (by decide)
  obtain ⟨O, h3, hO, bO, q3, e3⟩ := law_order (n := n) hs q2
  refine ⟨O.take (4 - v), h3, by rw [List.length_take]; omega, fun x hx => bO x (List.mem_of_mem_take hx), q3, ?_⟩
  have ev : (4 : Int) - (v : Int) = ((4 - v : Nat) : Int) := by omega
  have es := sliceL_to (O.map nD) (4 - v)
  rw [← List.map_take] at es
  generalize O.map nD = od at e3 es
  generalize (O.take (4 - v)).map nD = ot at es
  simp [c__law_choice, e2, ev, e3, es]
end
end K33
set_option Elab.async false
set_option linter.all false
set_option maxRecDepth 100000
set_option maxHeartbeats 4000000
namespace K33
open PySem L2 Rf
section
variable {F : FTab} {h : Cells} {s : Nat}
abbrev E7a (s : Nat) (ls A : List D) (x3 x4 x5 x6 : Sl) : En := [.val (.int (s : Int)), .val (.lst ls), .own (.lst A), x3, x4, x5, x6]
def cW : CSs := (.cons (.app 2 (.tup (.cons (.var 6) (.cons (.var 3) (.cons (.var 5) .nil))))) .nil)
def cL : CSs := (.cons (.app 2 (.tup (.cons (.var 4) (.cons (.var 3) .nil)))) .nil)
def srcW : CE := (.lst (.cons (.cst (.str "bf")) (.cons (.cst (.str "so")) (.cons (.cst (.str "vis")) (.cons (.cst (.str "ar")) (.cons (.cst (.str "ss")) (.cons (.cst (.str "si")) .nil)))))))
def cY : CSs := (.cons (.ite (.cmp .ne (.var 3) (.var 5)) (.cons (.for_ (.name 6) (.of srcW) cW) .nil) .nil) .nil)
def cX : CSs := (.cons (.for_ (.name 4) (.of (.var 1)) cL) (.cons (.for_ (.name 5) (.rng1 (.var 0)) cY) .nil))
theorem loopW {ls A : List D} {x y : Nat} {x4 x6 : Sl} (hx : x < s) (hy : y < s) (hA : ∀ d ∈ A, AtomOk s d) (hl : A.length ≤ 1000) :
    ∃ A' x6', (∀ d ∈ A', AtomOk s d) ∧ A'.length ≤ A.length + 6 ∧ forGo (.name 6) (evSs F gl cW) (wordsL.map .str) (E7a s ls A (.val (.int (x : Int))) x4 (.val (.int (y : Int))) x6) h = .next (E7a s ls A' (.val (.int (x : Int))) x4 (.val (.int (y : Int))) x6') h := by
  obtain ⟨env', h', hf, rfl, A', x6', rfl, hA', hl'⟩ := for_at (t := .name 6) (f := evSs F gl cW) (fun pre env h' => h' = h ∧ ∃ A' x6', env = E7a s ls A' (.val (.int (x : Int))) x4 (.val (.int (y : Int))) x6' ∧ (∀ d ∈ A', AtomOk s d) ∧ A'.length = A.length + pre.length)
    (ds := wordsL.map .str) (env := E7a s ls A (.val (.int (x : Int))) x4 (.val (.int (y : Int))) x6) (h := h) ⟨rfl, A, x6, rfl, hA, rfl⟩ (fun pre d post env h0 hds ⟨q0, B, z, he, hB, hlB⟩ => by
      subst he q0
      have hd : d ∈ wordsL.map D.str := by rw [hds]; simp
      obtain ⟨w, hw, rfl⟩ := List.mem_map.mp hd
      have hpre : pre.length ≤ 6 := by
        have := congrArg List.length hds
        simp [wordsL] at this
        omega
      have hz : B.length < 16777216 := by omega
      refine ⟨E7a s ls B (.val (.int (x : Int))) x4 (.val (.int (y : Int))) (.val (.str w)), E7a s ls (B ++ [.tup [.str w, .int (x : Int), .int (y : Int)]]) (.val (.int (x : Int))) x4 (.val (.int (y : Int))) (.val (.str w)), h0, rfl, .inl ?_, rfl, _, _, rfl, ?_, ?_⟩
      · simp [cW, hz]
      · intro d hd
        rcases List.mem_append.mp hd with hd | hd
        · exact hB d hd
        · rw [List.mem_singleton.mp hd]
          exact .rel w x y hw hx hy
      · rw [List.length_append, List.length_append, hlB, List.length_singleton, List.length_singleton]
        omega)
  refine ⟨A', x6', hA', ?_, hf⟩
  rw [hl']
  simp [wordsL]
theorem loopL {A : List D} {cs : List Nat} {x : Nat} {x4 x5 x6 : Sl} (hx : x < s) (hcs : ∀ c ∈ cs, 65 ≤ c ∧ c ≤ 90) (h4 : cs.length ≤ 4) (hA : ∀ d ∈ A, AtomOk s d) (hl : A.length ≤ 1000) :
    ∃ A' x4', (∀ d ∈ A', AtomOk s d) ∧ A'.length ≤ A.length + 4 ∧ forGo (.name 4) (evSs F gl cL) (cs.map fun c => .str (sL [c])) (E7a s (cs.map fun c => .str (sL [c])) A (.val (.int (x : Int))) x4 x5 x6) h = .next (E7a s (cs.map fun c => .str (sL [c])) A' (.val (.int (x : Int))) x4' x5 x6) h := by
  obtain ⟨env', h', hf, rfl, A', x4', rfl, hA', hl'⟩ := for_at (t := .name 4) (f := evSs F gl cL) (fun pre env h' => h' = h ∧ ∃ A' x4', env = E7a s (cs.map fun c => .str (sL [c])) A' (.val (.int (x : Int))) x4' x5 x6 ∧ (∀ d ∈ A', AtomOk s d) ∧ A'.length = A.length + pre.length)
    (ds := cs.map fun c => .str (sL [c])) (env := E7a s (cs.map fun c => .str (sL [c])) A (.val (.int (x : Int))) x4 x5 x6) (h := h) ⟨rfl, A, x4, rfl, hA, rfl⟩ (fun pre d post env h0 hds ⟨q0, B, z, he, hB, hlB⟩ => by
      subst he q0
      have hd : d ∈ cs.map fun c => D.str (sL [c]) := by rw [hds]; simp
      obtain ⟨c, hc, rfl⟩ := List.mem_map.mp hd
      have hpre : pre.length ≤ 4 := by
        have := congrArg List.length hds
        simp at this
        omega
      have hz : B.length < 16777216 := by omega
      refine ⟨E7a s (cs.map fun c => .str (sL [c])) B (.val (.int (x : Int))) (.val (.str (sL [c]))) x5 x6, E7a s (cs.map fun c => .str (sL [c])) (B ++ [.tup [.str (sL [c]), .int (x : Int)]]) (.val (.int (x : Int))) (.val (.str (sL [c]))) x5 x6, h0, rfl, .inl ?_, rfl, _, _, rfl, ?_, ?_⟩
      · generalize (cs.map fun c => D.str (sL [c])) = ls
        simp [cL, hz]
      · intro d hd
        rcases List.mem_append.mp hd with hd | hd
        · exact hB d hd
        · rw [List.mem_singleton.mp hd]
          exact .mk c x (hcs c hc) hx
      · rw [List.length_append, List.length_append, hlB, List.length_singleton, List.length_singleton]
        omega)
  refine ⟨A', x4', hA', ?_, hf⟩
  rw [hl', List.length_map]
  omega
theorem loopY {ls A : List D} {x : Nat} {x4 x5 x6 : Sl} (h4 : s ≤ 4) (hx : x < s) (hA : ∀ d ∈ A, AtomOk s d) (hl : A.length ≤ 900) :
    ∃ A' x5' x6', (∀ d ∈ A', AtomOk s d) ∧ A'.length ≤ A.length + 24 ∧ forGo (.name 5) (evSs F gl cY) ((List.range s).map fun (j : Nat) => .int (j : Int)) (E7a s ls A (.val (.int (x : Int))) x4 x5 x6) h = .next (E7a s ls A' (.val (.int (x : Int))) x4 x5' x6') h := by
  obtain ⟨env', h', hf, rfl, A', x5', x6', rfl, hA', hl'⟩ := for_at (t := .name 5) (f := evSs F gl cY) (fun pre env h' => h' = h ∧ ∃ A' x5' x6', env = E7a s ls A' (.val (.int (x : Int))) x4 x5' x6' ∧ (∀ d ∈ A', AtomOk s d) ∧ A'.length ≤ A.length + 6 * pre.length)
    (ds := (List.range s).map fun (j : Nat) => .int (j : Int)) (env := E7a s ls A (.val (.int (x : Int))) x4 x5 x6) (h := h) ⟨rfl, A, x5, x6, rfl, hA, Nat.le_refl _⟩ (fun pre d post env h0 hds ⟨q0, B, z5, z6, he, hB, hlB⟩ => by
      subst he q0
      obtain ⟨rfl, hy⟩ := at_range hds
      by_cases hxy : x = pre.length
      · refine ⟨E7a s ls B (.val (.int (x : Int))) x4 (.val (.int (pre.length : Int))) z6, E7a s ls B (.val (.int (x : Int))) x4 (.val (.int (pre.length : Int))) z6, h0, rfl, .inl ?_, rfl, _, _, _, rfl, hB, by rw [List.length_append]; omega⟩
        generalize hw : (CSs.cons (.for_ (.name 6) (.of srcW) cW) .nil) = cw
        unfold cY
        rw [hw]
        simp [hxy]
      · obtain ⟨B', z6', hB', hlB', hf'⟩ := loopW (F := F) (h := h0) (ls := ls) (x4 := x4) (x6 := z6) hx hy hB (by omega)
        refine ⟨E7a s ls B (.val (.int (x : Int))) x4 (.val (.int (pre.length : Int))) z6, E7a s ls B' (.val (.int (x : Int))) x4 (.val (.int (pre.length : Int))) z6', h0, rfl, .inl ?_, rfl, _, _, _, rfl, hB', by rw [List.length_append, List.length_singleton]; omega⟩
        have es : evI F gl (E7a s ls B (.val (.int (x : Int))) x4 (.val (.int (pre.length : Int))) z6) (.of srcW) h0 = .ok (wordsL.map .str) h0 := by
          simp [srcW, wordsL]
        have st : evS F gl (.for_ (.name 6) (.of srcW) cW) (E7a s ls B (.val (.int (x : Int))) x4 (.val (.int (pre.length : Int))) z6) h0 = .next (E7a s ls B' (.val (.int (x : Int))) x4 (.val (.int (pre.length : Int))) z6') h0 := by
          rw [Rf.s_forE, es, out_ok, hf']
        have hne : ¬ ((x : Int) = (pre.length : Int)) := by omega
        generalize hw : (CS.for_ (.name 6) (.of srcW) cW) = cw at st
        unfold cY
        rw [hw]
        simp [hne, st])
  refine ⟨A', x5', x6', hA', ?_, hf⟩
  rw [List.length_map, List.length_range] at hl'
  omega
theorem law_atoms {n : Nat} {cs : List Nat} (h4 : s ≤ 4) (hcs : ∀ c ∈ cs, 65 ≤ c ∧ c ≤ 90) (hc4 : cs.length ≤ 4) : ∃ A, (∀ d ∈ A, AtomOk s d) ∧ A.length ≤ 1000 ∧ (Fd (n + 1)).call 45 [.int (s : Int), .lst (cs.map fun c => .str (sL [c]))] h = .ok (.lst A) h := by
  have hcall : (Fd (n + 1)).call 45 [.int (s : Int), .lst (cs.map fun c => .str (sL [c]))] h = (evSs (Fd n) gl c__law_all_atoms [.val (.int (s : Int)), .val (.lst (cs.map fun c => .str (sL [c]))), .no, .no, .no, .no, .no] h).fin := call_run (fn := f__law_all_atoms) rfl rfl rfl
  rw [hcall]
  have hrg : rngD 0 (s : Int) = some ((List.range s).map fun (j : Nat) => .int (j : Int)) := rng_nat s (by omega)
  obtain ⟨env', h', hf, rfl, A, x3, x4, x5, x6, rfl, hA, hlA⟩ := for_at (t := .name 3) (f := evSs (Fd n) gl cX) (fun pre env h' => h' = h ∧ ∃ A x3 x4 x5 x6, env = E7a s (cs.map fun c => .str (sL [c])) A x3 x4 x5 x6 ∧ (∀ d ∈ A, AtomOk s d) ∧ A.length ≤ 1 + 28 * pre.length)
    (ds := (List.range s).map fun (j : Nat) => .int (j : Int)) (env := E7a s (cs.map fun c => .str (sL [c])) [.tup [.str "never"]] .no .no .no .no) (h := h) ⟨rfl, [.tup [.str "never"]], _, _, _, _, rfl, fun d hd => by rw [List.mem_singleton.mp hd]; exact .nev, Nat.le_refl _⟩ (fun pre d post env h0 hds ⟨q0, B, z3, z4, z5, z6, he, hB, hlB⟩ => by
      subst he q0
      obtain ⟨rfl, hx⟩ := at_range hds
      obtain ⟨B1, z4', hB1, hl1, hf1⟩ := loopL (F := Fd n) (h := h0) (x4 := z4) (x5 := z5) (x6 := z6) hx hcs hc4 hB (by omega)
      obtain ⟨B2, z5', z6', hB2, hl2, hf2⟩ := loopY (F := Fd n) (h := h0) (ls := cs.map fun c => .str (sL [c])) (x4 := z4') (x5 := z5) (x6 := z6) h4 hx hB1 (by omega)
      refine ⟨E7a s (cs.map fun c => .str (sL [c])) B (.val (.int (pre.length : Int))) z4 z5 z6, E7a s (cs.map fun c => .str (sL [c])) B2 (.val (.int (pre.length : Int))) z4' z5' z6', h0, rfl, .inl ?_, rfl, _, _, _, _, _, rfl, hB2, by rw [List.length_append, List.length_singleton]; omega⟩
      have s1 : evI (Fd n) gl (E7a s (cs.map fun c => .str (sL [c])) B (.val (.int (pre.length : Int))) z4 z5 z6) (.of (.var 1)) h0 = .ok (cs.map fun c => .str (sL [c])) h0 := by simp
      have s2 : evI (Fd n) gl (E7a s (cs.map fun c => .str (sL [c])) B1 (.val (.int (pre.length : Int))) z4' z5 z6) (.rng1 (.var 0)) h0 = .ok ((List.range s).map fun (j : Nat) => .int (j : Int)) h0 := by simp [hrg]
      unfold cX
      rw [ss_consE, Rf.s_forE, s1, out_ok, hf1, seq_next, ss_consE, Rf.s_forE, s2, out_ok, hf2, seq_next, ss_nilE])
  refine ⟨A, hA, ?_, ?_⟩
  · rw [List.length_map, List.length_range] at hlA
    omega
  · have st0 : evS (Fd n) gl (.setN 2 (.lst (.cons (.tup (.cons (.cst (.str "never")) .nil)) .nil))) [.val (.int (s : Int)), .val (.lst (cs.map fun c => .str (sL [c]))), .no, .no, .no, .no, .no] h' = .next (E7a s (cs.map fun c => .str (sL [c])) [.tup [.str "never"]] .no .no .no .no) h' := by
      simp
    have s1 : evI (Fd n) gl (E7a s (cs.map fun c => .str (sL [c])) [.tup [.str "never"]] .no .no .no .no) (.rng1 (.var 0)) h' = .ok ((List.range s).map fun (j : Nat) => .int (j : Int)) h' := by simp [hrg]
    have st1 : evS (Fd n) gl (.for_ (.name 3) (.rng1 (.var 0)) cX) (E7a s (cs.map fun c => .str (sL [c])) [.tup [.str "never"]] .no .no .no .no) h' = .next (E7a s (cs.map fun c => .str (sL [c])) A x3 x4 x5 x6) h' := by
      rw [Rf.s_forE, s1, out_ok, hf]
    unfold c__law_all_atoms
    unfold cX cL cY srcW cW at st1
    rw [ss_consE, st0, seq_next, ss_consE, st1, seq_next]
    simp
end
end K33
set_option Elab.async false
set_option linter.all false
set_option maxRecDepth 100000
set_option maxHeartbeats 4000000
namespace K33
open PySem L2 Rf
section
variable {n : Nat} {h : Cells}
theorem whole {v lo hi : Int} (h1 : lo ≤ v) (h2 : v ≤ hi) : (Fd (n + 1)).call 39 [.int v, .int lo, .int hi] h = .ok (.bl true) h := by
  rw [call_run (fn := f__law_whole_number) rfl rfl rfl]
  show (evSs (Fd n) gl c__law_whole_number [.val (.int v), .val (.int lo), .val (.int hi)] h).fin = _
  simp [c__law_whole_number, tyD, h1, h2]
theorem lt_one {x y : Nat} (hxy : x < y) : decide ((sL [x]).cps.toList < (sL [y]).cps.toList) = true := by
  rw [cps_sL, cps_sL]
  exact decide_eq_true (List.Lex.rel hxy)
theorem rise_at {m : List Nat} (hm : m.Pairwise (· < ·)) {k : Nat} (h0 : 0 < k) (hk : k < m.length) : m[k - 1] < m[k] :=
  List.pairwise_iff_getElem.mp hm (k - 1) k (by omega) hk (by omega)
theorem rise_atI {m : List Int} (hm : m.Pairwise (· < ·)) {k : Nat} (h0 : 0 < k) (hk : k < m.length) : m[k - 1] < m[k] :=
  List.pairwise_iff_getElem.mp hm (k - 1) k (by omega) hk (by omega)
def cGa : CSs := (.cons (.ite (.or (.cons (.cmp .notin (.sub (.sub (.var 0) (.cst (.int 2))) (.var 2)) (.cst (.str "ABCDEFGHIJKLMNOPQRSTUVWXYZ"))) (.cons (.and (.cons (.cmp .gt (.var 2) (.cst (.int 0))) (.cons (.cmp .le (.sub (.sub (.var 0) (.cst (.int 2))) (.var 2)) (.sub (.sub (.var 0) (.cst (.int 2))) (.bin .sub (.var 2) (.cst (.int 1))))) .nil))) .nil))) (.cons (.ret (.cst (.bl false))) .nil) .nil) .nil)
theorem ga_turn {r : Rw} {j k : Nat} (hm : MOk r.m) (hk : k < r.m.length) : evSs (Fd (n + 1)) gl cGa [.val r.d, .val (.int (j : Int)), .val (.int (k : Int))] h = .next [.val r.d, .val (.int (j : Int)), .val (.int (k : Int))] h := by
  have s1 : subD (.str (sL r.m)) (.int (k : Int)) = some (.str (sL [r.m[k]])) := by
    rw [sub_sL, List.getElem?_eq_getElem hk]
    rfl
  have s2 : isIn (.str (sL [r.m[k]])) (.str "ABCDEFGHIJKLMNOPQRSTUVWXYZ") = some true := cap_in (hm.2 _ (List.getElem_mem _))
  by_cases h0 : k = 0
  · have h0' : ¬ (0 < k) := by omega
    simp [cGa, Rw.d, s1, s2, h0']
  · have h0' : (0 : Int) < (k : Int) := by omega
    have e1 : (k : Int) - 1 = ((k - 1 : Nat) : Int) := by omega
    have s3 : subD (.str (sL r.m)) (.int ((k : Int) - 1)) = some (.str (sL [r.m[k - 1]])) := by
      rw [e1, sub_sL, List.getElem?_eq_getElem (by omega)]
      rfl
    have s4 := lt_one (rise_at hm.1 (by omega) hk)
    have s5 : opC .le (.str (sL [r.m[k]])) (.str (sL [r.m[k - 1]])) = some false := by
      rw [le_strD, s4]
      rfl
    generalize sL [r.m[k]] = A at s1 s2 s5
    generalize sL [r.m[k - 1]] = B at s3 s5
    have h0'' : 0 < k := by omega
    simp [cGa, Rw.d, s1, s2, h0'', s3, s5]
theorem ga_loop {r : Rw} {j : Nat} {x : Sl} (hm : MOk r.m) : ∃ x', forGo (.name 2) (evSs (Fd (n + 1)) gl cGa) ((List.range r.m.length).map fun (k : Nat) => .int (k : Int)) [.val r.d, .val (.int (j : Int)), x] h = .next [.val r.d, .val (.int (j : Int)), x'] h := by
  obtain ⟨e', hf, x', rfl⟩ := for_all (t := .name 2) (f := evSs (Fd (n + 1)) gl cGa) (h := h) (fun e => ∃ x, e = [.val r.d, .val (.int (j : Int)), x]) (ds := (List.range r.m.length).map fun (k : Nat) => .int (k : Int)) (env := [.val r.d, .val (.int (j : Int)), x]) ⟨_, rfl⟩ (fun d hd env ⟨x, hx⟩ => by
    obtain ⟨k, hk, rfl⟩ := List.mem_map.mp hd
    subst hx
    exact ⟨_, _, rfl, ga_turn hm (List.mem_range.mp hk), _, rfl⟩)
  exact ⟨x', hf⟩
def cGb : CSs := (.cons (.ite (.or (.cons (.not (.call 39 (.cons (.sub (.sub (.var 0) (.cst (.int 4))) (.var 2)) (.cons (.cst (.int 0)) (.cons (.bin .sub (.var 1) (.cst (.int 1))) .nil))))) (.cons (.and (.cons (.cmp .gt (.var 2) (.cst (.int 0))) (.cons (.cmp .le (.sub (.sub (.var 0) (.cst (.int 4))) (.var 2)) (.sub (.sub (.var 0) (.cst (.int 4))) (.bin .sub (.var 2) (.cst (.int 1))))) .nil))) .nil))) (.cons (.ret (.cst (.bl false))) .nil) .nil) .nil)
theorem sub_ints {l : List Int} {k : Nat} (hk : k < l.length) : subD (.tup (l.map .int)) (.int (k : Int)) = some (.int l[k]) := by
  show L2.atI _ _ = _
  rw [Rf.atI_nat, List.getElem?_map, List.getElem?_eq_getElem hk]
  rfl
theorem gb_turn {r : Rw} {j k : Nat} (hr : r.Ok j) (hk : k < r.se.length) : evSs (Fd (n + 1)) gl cGb [.val r.d, .val (.int (j : Int)), .val (.int (k : Int))] h = .next [.val r.d, .val (.int (j : Int)), .val (.int (k : Int))] h := by
  have s1 := sub_ints hk
  have hb := hr.sb _ (List.getElem_mem hk)
  have w := whole (n := n) (h := h) (v := r.se[k]) (lo := 0) (hi := (j : Int) - 1) hb.1 (by omega)
  by_cases h0 : k = 0
  · have h0' : ¬ (0 < k) := by omega
    generalize hse : r.se.map D.int = se at s1
    generalize hv : r.se[k] = v at s1 w
    simp [cGb, Rw.d, hse, s1, w, h0']
  · have h0'' : 0 < k := by omega
    have e1 : (k : Int) - 1 = ((k - 1 : Nat) : Int) := by omega
    have s3 : subD (.tup (r.se.map .int)) (.int ((k : Int) - 1)) = some (.int r.se[k - 1]) := by
      rw [e1]
      exact sub_ints (by omega)
    have s4 : ¬ (r.se[k] ≤ r.se[k - 1]) := by
      have := rise_atI hr.se h0'' hk
      omega
    generalize hse : r.se.map D.int = se at s1 s3
    generalize hv : r.se[k] = v at s1 w s4
    generalize hu : r.se[k - 1] = u at s3 s4
    simp [cGb, Rw.d, hse, s1, w, h0'', s3, s4]
theorem gb_loop {r : Rw} {j : Nat} {x : Sl} (hr : r.Ok j) : ∃ x', forGo (.name 2) (evSs (Fd (n + 1)) gl cGb) ((List.range r.se.length).map fun (k : Nat) => .int (k : Int)) [.val r.d, .val (.int (j : Int)), x] h = .next [.val r.d, .val (.int (j : Int)), x'] h := by
  obtain ⟨e', hf, x', rfl⟩ := for_all (t := .name 2) (f := evSs (Fd (n + 1)) gl cGb) (h := h) (fun e => ∃ x, e = [.val r.d, .val (.int (j : Int)), x]) (ds := (List.range r.se.length).map fun (k : Nat) => .int (k : Int)) (env := [.val r.d, .val (.int (j : Int)), x]) ⟨_, rfl⟩ (fun d hd env ⟨x, hx⟩ => by
    obtain ⟨k, hk, rfl⟩ := List.mem_map.mp hd
    subst hx
    exact ⟨_, _, rfl, gb_turn hr (List.mem_range.mp hk), _, rfl⟩)
  exact ⟨x', hf⟩
theorem pow12' : opB .pow (.int 10) (.int 12) = some (.int 1000000000000) := rfl
theorem good_row {r : Rw} {j : Nat} (hr : r.Ok j) (hj : j ≤ 40) : (Fd (n + 2)).call 40 [r.d, .int (j : Int)] h = .ok (.bl true) h := by
  rw [call_run (fn := f__law_good_row) rfl rfl rfl]
  show (evSs (Fd (n + 1)) gl c__law_good_row [.val r.d, .val (.int (j : Int)), .no] h).fin = _
  have w1 := whole (n := n) (h := h) hr.s.1 hr.s.2
  have w2 := whole (n := n) (h := h) hr.i.1 hr.i.2
  have w3 := whole (n := n) (h := h) hr.c.1 hr.c.2
  have w4 := whole (n := n) (h := h) hr.p.1 hr.p.2
  have lm := hr.m.len
  have ls := hr.sl
  obtain ⟨x1, l1⟩ := ga_loop (n := n) (h := h) (r := r) (j := j) (x := .no) hr.m
  obtain ⟨x2, l2⟩ := gb_loop (n := n) (h := h) (r := r) (j := j) (x := x1) hr
  have i1 : ∀ x, evI (Fd (n + 1)) gl [.val r.d, .val (.int (j : Int)), x] (.rng1 (.blt .len (.cons (.sub (.var 0) (.cst (.int 2))) .nil))) h = .ok ((List.range r.m.length).map fun (k : Nat) => .int (k : Int)) h := fun x => by
    have hrg : rngD 0 (r.m.length : Int) = some ((List.range r.m.length).map fun (k : Nat) => .int (k : Int)) := rng_nat _ (by omega)
    simp [Rw.d, len_sL, hrg]
  have i2 : ∀ x, evI (Fd (n + 1)) gl [.val r.d, .val (.int (j : Int)), x] (.rng1 (.blt .len (.cons (.sub (.var 0) (.cst (.int 4))) .nil))) h = .ok ((List.range r.se.length).map fun (k : Nat) => .int (k : Int)) h := fun x => by
    have hrg : rngD 0 (r.se.length : Int) = some ((List.range r.se.length).map fun (k : Nat) => .int (k : Int)) := rng_nat _ (by omega)
    simp [Rw.d, hrg]
  have f1 : evS (Fd (n + 1)) gl (.for_ (.name 2) (.rng1 (.blt .len (.cons (.sub (.var 0) (.cst (.int 2))) .nil))) cGa) [.val r.d, .val (.int (j : Int)), .no] h = .next [.val r.d, .val (.int (j : Int)), x1] h := by
    rw [Rf.s_forE, i1, out_ok, l1]
  have f2 : evS (Fd (n + 1)) gl (.for_ (.name 2) (.rng1 (.blt .len (.cons (.sub (.var 0) (.cst (.int 4))) .nil))) cGb) [.val r.d, .val (.int (j : Int)), x1] h = .next [.val r.d, .val (.int (j : Int)), x2] h := by
    rw [Rf.s_forE, i2, out_ok, l2]
  unfold c__law_good_row
  unfold cGa at f1
  unfold cGb at f2
  rw [ss_consE, show evS (Fd (n + 1)) gl (.ite (.or (.cons (.not (.isi (.var 0) .tuple)) (.cons (.cmp .ne (.blt .len (.cons (.var 0) .nil)) (.cst (.int 5))) (.cons (.not (.isi (.sub (.var 0) (.cst (.int 2))) .str)) .nil)))) (.cons (.ret (.cst (.bl false))) .nil) .nil) [.val r.d, .val (.int (j : Int)), .no] h = .next [.val r.d, .val (.int (j : Int)), .no] h by simp [Rw.d, tyD], seq_next]
  rw [ss_consE, show evS (Fd (n + 1)) gl (.ite (.or (.cons (.not (.call 39 (.cons (.sub (.var 0) (.cst (.int 0))) (.cons (.cst (.int 0)) (.cons (.cst (.int 39)) .nil))))) (.cons (.not (.call 39 (.cons (.sub (.var 0) (.cst (.int 1))) (.cons (.cst (.int 0)) (.cons (.cst (.int 99)) .nil))))) .nil))) (.cons (.ret (.cst (.bl false))) .nil) .nil) [.val r.d, .val (.int (j : Int)), .no] h = .next [.val r.d, .val (.int (j : Int)), .no] h by simp [Rw.d, w1, w2], seq_next]
  rw [ss_consE, f1, seq_next]
  rw [ss_consE, show evS (Fd (n + 1)) gl (.ite (.or (.cons (.not (.isi (.sub (.var 0) (.cst (.int 3))) .tuple)) (.cons (.cmp .ne (.blt .len (.cons (.sub (.var 0) (.cst (.int 3))) .nil)) (.cst (.int 2))) (.cons (.not (.isi (.sub (.var 0) (.cst (.int 4))) .tuple)) .nil)))) (.cons (.ret (.cst (.bl false))) .nil) .nil) [.val r.d, .val (.int (j : Int)), x1] h = .next [.val r.d, .val (.int (j : Int)), x1] h by simp [Rw.d, tyD], seq_next]
  rw [ss_consE, show evS (Fd (n + 1)) gl (.ite (.or (.cons (.not (.call 39 (.cons (.sub (.sub (.var 0) (.cst (.int 3))) (.cst (.int 0))) (.cons (.cst (.int 0)) (.cons (.bin .pow (.cst (.int 10)) (.cst (.int 12))) .nil))))) (.cons (.not (.call 39 (.cons (.sub (.sub (.var 0) (.cst (.int 3))) (.cst (.int 1))) (.cons (.cst (.int 0)) (.cons (.cst (.int 99)) .nil))))) .nil))) (.cons (.ret (.cst (.bl false))) .nil) .nil) [.val r.d, .val (.int (j : Int)), x1] h = .next [.val r.d, .val (.int (j : Int)), x1] h by simp [Rw.d, w3, w4, pow12'], seq_next]
  rw [ss_consE, f2, seq_next]
  simp
end
end K33
set_option Elab.async false
set_option linter.all false
set_option maxRecDepth 100000
set_option maxHeartbeats 4000000
namespace K33
open PySem L2 Rf
def stT (r : Rw) : D := .tup [.int r.c, .int r.p]
theorem st_pln (r : Rw) : plnD 1 (stT r) = true := pln_tupI (m := 0) rfl (by show 2 ≤ 16777216; decide)
theorem st_eq (a b : Rw) : eqB (stT a) (stT b) = (decide (a.c = b.c) && decide (a.p = b.p)) := by
  unfold stT
  rw [eqB_tt, eqBs_cc, eqBs_cc, eqBs_nil, eqB_int, eqB_int, Bool.and_true]
theorem row_pln {r : Rw} {k : Nat} (hr : r.Ok k) (hk : k ≤ 40) : plnD 2 r.d = true := by
  unfold Rw.d
  refine pln_tupI (m := 1) ?_ (by show 5 ≤ 16777216; decide)
  have hl := hr.sl
  have h1 : plnD 1 (.tup [.int r.c, .int r.p]) = true := st_pln r
  have h2 : plnD 1 (.tup (r.se.map .int)) = true := pln_tupI (m := 0) (List.all_eq_true.mpr fun d hd => by
    obtain ⟨x, _, rfl⟩ := List.mem_map.mp hd
    rfl) (by rw [List.length_map]; omega)
  have h3 : plnD 1 (.str (sL r.m)) = true := shaped_sL (by
    unfold lowC
    rw [List.all_eq_true]
    intro x hx
    have := (hr.m.2 x hx).2
    simp
    omega)
  simp only [List.all_cons, List.all_nil, Bool.and_true, h1, h2, h3]
  rfl
theorem rows_pln {rs : List Rw} (hr : RsOk rs) : plnD 3 (.lst (rs.map Rw.d)) = true := by
  have hl := hr.len
  refine pln_lstI (m := 2) (List.all_eq_true.mpr fun d hd => ?_) (by rw [List.length_map]; omega)
  obtain ⟨r, hm, rfl⟩ := List.mem_map.mp hd
  obtain ⟨j, hj, rfl⟩ := List.getElem_of_mem hm
  exact row_pln (hr.at_ j _ (List.getElem?_eq_getElem hj)) (by omega)
section
variable {n : Nat} {h : Cells}
theorem ev_row {r : Rw} : (Fd (n + 1)).call 10 [r.ev] h = .ok r.d h := by
  rw [call_run (fn := f_Event_row) rfl rfl rfl]
  show (evSs (Fd n) gl c_Event_row [.val r.ev] h).fin = _
  simp [c_Event_row, Rw.ev, Rw.st, Rw.d, ft00, ft01, ft02, ft03, ft04, ft15, ft16]
theorem itf2 : pr.tb.itf 2 = some 8 := rfl
theorem ot2len : pr.tb.ot 2 .len = some 23 := rfl
theorem see_run (rs : List Rw) (h : Cells) : see h (runD rs) = runD rs := rfl
def cTo : CSs := (.cons (.ite (.not (.call 40 (.cons (.sub (.var 1) (.var 2)) (.cons (.var 2) .nil)))) (.cons (.ret (.cst .non)) .nil) .nil) (.cons (.ite (.cmp .isin (.sub (.sub (.var 1) (.var 2)) (.cst (.int 3))) (.lc (.sub (.var 4) (.cst (.int 3))) [4] (.name 4) (.of (.slice (.var 1) .none (.some (.var 2)))) .none)) (.cons (.ret (.cst .non)) .nil) .nil) .nil))
theorem to_turn {rs : List Rw} {R : D} {j : Nat} {x3 x4 : Sl} (hr : RsOk rs) (hj : j < rs.length) :
    evSs (Fd (n + 3)) gl cTo [.val R, .val (.lst (rs.map Rw.d)), .val (.int (j : Int)), x3, x4] h = .next [.val R, .val (.lst (rs.map Rw.d)), .val (.int (j : Int)), x3, x4] h := by
  have hl8 := hr.len
  have hro := hr.at_ j _ (List.getElem?_eq_getElem hj)
  have s1 : subD (.lst (rs.map Rw.d)) (.int (j : Int)) = some (rs[j]).d := by
    show L2.atI _ _ = _
    rw [Rf.atI_nat, List.getElem?_map, List.getElem?_eq_getElem hj]
    rfl
  have g := good_row (n := n + 1) (h := h) hro (by omega)
  have e1 : evE (Fd (n + 3)) gl [.val R, .val (.lst (rs.map Rw.d)), .val (.int (j : Int)), x3, x4] (.sub (.sub (.var 1) (.var 2)) (.cst (.int 3))) h = .ok (stT rs[j]) h := by
    generalize rs.map Rw.d = rows at s1
    simp [s1]
    unfold Rw.d
    simp
    rfl
  have e2 : evE (Fd (n + 3)) gl [.val R, .val (.lst (rs.map Rw.d)), .val (.int (j : Int)), x3, x4] (.lc (.sub (.var 4) (.cst (.int 3))) [4] (.name 4) (.of (.slice (.var 1) .none (.some (.var 2)))) .none) h = .ok (.lst ((rs.take j).map stT)) h := by
    have es : evI (Fd (n + 3)) gl [.val R, .val (.lst (rs.map Rw.d)), .val (.int (j : Int)), x3, x4] (.of (.slice (.var 1) .none (.some (.var 2)))) h = .ok ((rs.take j).map Rw.d) h := by
      have sl := sliceL_to (rs.map Rw.d) j
      rw [← List.map_take] at sl
      generalize rs.map Rw.d = rows at sl
      simp [sl]
    have el := lc_all (f := lcG (Fd (n + 3)) gl [.val R, .val (.lst (rs.map Rw.d)), .val (.int (j : Int)), x3, x4] (.sub (.var 4) (.cst (.int 3))) [4] (.name 4) .none) (h := h) Rw.d stT (l := rs.take j) fun r _ => by
      unfold lcG
      generalize rs.map Rw.d = rows
      simp [bindT_name, wipeE]
      unfold Rw.d
      simp
      rfl
    rw [e_lcE, es, Res.bind_ok, if_pos (by rw [List.length_map, List.length_take]; show _ ≤ 16777216; omega), el]
    rfl
  have hin : isIn (stT rs[j]) (.lst ((rs.take j).map stT)) = some false := by
    rw [in_pln (m := 1) (st_pln _) (List.all_eq_true.mpr fun d hd => by
      obtain ⟨r, _, rfl⟩ := List.mem_map.mp hd
      exact st_pln r) (by decide)]
    congr 1
    rw [List.any_eq_false]
    intro d hd
    obtain ⟨r, hm, rfl⟩ := List.mem_map.mp hd
    obtain ⟨i, hi, hir⟩ := List.getElem_of_mem hm
    rw [List.length_take] at hi
    rw [List.getElem_take] at hir
    have := List.pairwise_iff_getElem.mp hr.st i j (by omega) hj (by omega)
    rw [hir] at this
    rw [st_eq]
    simpa using this
  have st1 : evS (Fd (n + 3)) gl (.ite (.not (.call 40 (.cons (.sub (.var 1) (.var 2)) (.cons (.var 2) .nil)))) (.cons (.ret (.cst .non)) .nil) .nil) [.val R, .val (.lst (rs.map Rw.d)), .val (.int (j : Int)), x3, x4] h = .next [.val R, .val (.lst (rs.map Rw.d)), .val (.int (j : Int)), x3, x4] h := by
    generalize (rs[j]).d = rd at s1 g
    generalize rs.map Rw.d = rows at s1
    simp [s1, g]
  have st2 : evS (Fd (n + 3)) gl (.ite (.cmp .isin (.sub (.sub (.var 1) (.var 2)) (.cst (.int 3))) (.lc (.sub (.var 4) (.cst (.int 3))) [4] (.name 4) (.of (.slice (.var 1) .none (.some (.var 2)))) .none)) (.cons (.ret (.cst .non)) .nil) .nil) [.val R, .val (.lst (rs.map Rw.d)), .val (.int (j : Int)), x3, x4] h = .next [.val R, .val (.lst (rs.map Rw.d)), .val (.int (j : Int)), x3, x4] h := by
    have hs : ∀ h, see h (stT rs[j]) = stT rs[j] := fun _ => rfl
    generalize stT rs[j] = sj at e1 hin hs
    generalize rs.map Rw.d = rows at e1 e2
    simp only [s_iteE, e_cmpE, base_sub, base_lc, own_sub, own_lc, e1, e2, Res.bind_ok, in_D, hs, see_lst, hin, cmpK_some, test_ok, see_bl, truth_bl, lift_some, ite_ok, Bool.or_self]
    simp
  unfold cTo
  rw [ss_consE, st1, seq_next, ss_consE, st2, seq_next, ss_nilE]
theorem told {rs : List Rw} (hr : RsOk rs) : (Fd (n + 4)).call 41 [runD rs] h = .ok (.lst (rs.map Rw.d)) h := by
  have hcall : (Fd (n + 4)).call 41 [runD rs] h = (evSs (Fd (n + 3)) gl c__law_told_rows [.val (runD rs), .no, .no, .no, .no] h).fin := call_run (fn := f__law_told_rows) rfl rfl rfl
  rw [hcall]
  have hl8 := hr.len
  have st1 : evS (Fd (n + 3)) gl (.ite (.not (.isi (.var 0) (.own 2))) (.cons (.ret (.cst .non)) .nil) .nil) [.val (runD rs), .no, .no, .no, .no] h = .next [.val (runD rs), .no, .no, .no, .no] h := by
    have ht : tyD (runD rs) (.own 2) = some true := rfl
    have hs := see_run rs h
    generalize runD rs = R at ht hs
    simp [hs, ht]
  have e2 : evE (Fd (n + 3)) gl [.val (runD rs), .no, .no, .no, .no] (.lc (.meth (.var 3) 10 .nil) [3] (.name 3) (.ownI (.var 0)) .none) h = .ok (.lst (rs.map Rw.d)) h := by
    have es : evI (Fd (n + 3)) gl [.val (runD rs), .no, .no, .no, .no] (.ownI (.var 0)) h = .ok (rs.map Rw.ev) h := by
      have hi : iterD pr.tb (runD rs) = some (rs.map Rw.ev) := iter_ins itf2 rfl
      have hs := see_run rs h
      generalize runD rs = R at hi hs
      simp [hs, hi]
    have el := lc_all (f := lcG (Fd (n + 3)) gl [.val (runD rs), .no, .no, .no, .no] (.meth (.var 3) 10 .nil) [3] (.name 3) .none) (h := h) Rw.ev Rw.d (l := rs) fun r _ => by
      have er := ev_row (n := n + 2) (r := r) (h := h)
      have em : methD pr.tb (see h r.ev) 10 = some 10 := rfl
      unfold lcG
      generalize runD rs = R
      generalize r.ev = A at er em
      simp [bindT_name, wipeE, em, er]
    rw [e_lcE, es, Res.bind_ok, if_pos (by rw [List.length_map]; show _ ≤ 16777216; omega), el]
    rfl
  have st2 : evS (Fd (n + 3)) gl (.set 1 (.lc (.meth (.var 3) 10 .nil) [3] (.name 3) (.ownI (.var 0)) .none)) [.val (runD rs), .no, .no, .no, .no] h = .next [.val (runD rs), .val (.lst (rs.map Rw.d)), .no, .no, .no] h := by
    rw [s_setE, e2]
    rfl
  have elen : (Fd (n + 3)).call 23 [runD rs] h = .ok (.int (rs.length : Int)) h := by
    rw [call_run (fn := f_Run___len__) rfl rfl rfl]
    show (evSs (Fd (n + 2)) gl c_Run___len__ [.val (runD rs)] h).fin = _
    have ea : attrD pr.tb (see h (runD rs)) 8 = some (.lst (rs.map Rw.ev)) := rfl
    have hl : ((rs.map Rw.ev).length : Int) = rs.length := by rw [List.length_map]
    generalize runD rs = R at ea
    generalize rs.map Rw.ev = evs at ea hl
    simp [c_Run___len__, ea, hl]
  have st3 : evS (Fd (n + 3)) gl (.ite (.cmp .ne (.blt .len (.cons (.var 1) .nil)) (.lenO (.var 0))) (.cons (.ret (.cst .non)) .nil) .nil) [.val (runD rs), .val (.lst (rs.map Rw.d)), .no, .no, .no] h = .next [.val (runD rs), .val (.lst (rs.map Rw.d)), .no, .no, .no] h := by
    have ho : ownF pr.tb .len (see h (runD rs)) = some 23 := rfl
    have hl : ((rs.map Rw.d).length : Int) = rs.length := by rw [List.length_map]
    have h1 : (rs.length : Int) < 1099511627776 := by omega
    generalize runD rs = R at ho elen
    generalize rs.map Rw.d = rows at hl
    simp [ho, elen, hl, h1]
  obtain ⟨e', hf, x2, rfl⟩ := for_all (t := .name 2) (f := evSs (Fd (n + 3)) gl cTo) (h := h) (fun e => ∃ x, e = [.val (runD rs), .val (.lst (rs.map Rw.d)), x, .no, .no]) (ds := (List.range rs.length).map fun (k : Nat) => .int (k : Int)) (env := [.val (runD rs), .val (.lst (rs.map Rw.d)), .no, .no, .no]) ⟨_, rfl⟩ (fun d hd env ⟨x, hx⟩ => by
    obtain ⟨k, hk, rfl⟩ := List.mem_map.mp hd
    subst hx
    exact ⟨_, _, rfl, to_turn hr (List.mem_range.mp hk), _, rfl⟩)
  have es : evI (Fd (n + 3)) gl [.val (runD rs), .val (.lst (rs.map Rw.d)), .no, .no, .no] (.rng1 (.blt .len (.cons (.var 1) .nil))) h = .ok ((List.range rs.length).map fun (k : Nat) => .int (k : Int)) h := by
    have hl : ((rs.map Rw.d).length : Int) = rs.length := by rw [List.length_map]
    have hrg : rngD 0 (rs.length : Int) = some ((List.range rs.length).map fun (k : Nat) => .int (k : Int)) := rng_nat _ (by omega)
    generalize runD rs = R
    generalize rs.map Rw.d = rows at hl
    simp [hl, hrg]
  have st4 : evS (Fd (n + 3)) gl (.for_ (.name 2) (.rng1 (.blt .len (.cons (.var 1) .nil))) cTo) [.val (runD rs), .val (.lst (rs.map Rw.d)), .no, .no, .no] h = .next [.val (runD rs), .val (.lst (rs.map Rw.d)), x2, .no, .no] h := by
    rw [Rf.s_forE, es, out_ok, hf]
  unfold c__law_told_rows
  unfold cTo at st4
  rw [ss_consE, st1, seq_next, ss_consE, st2, seq_next, ss_consE, st3, seq_next, ss_consE, st4, seq_next]
  generalize rs.map Rw.d = rows
  simp
end
end K33
set_option Elab.async false
set_option linter.all false
set_option maxRecDepth 100000
set_option maxHeartbeats 4000000
namespace K33
open PySem L2 Rf
theorem same_bl {n : Nat} {b : Bool} {h : Cells} : (Fd (n + 1)).call 32 [.bl b, .bl b] h = .ok (.bl true) h := same (m := 0) rfl (by omega)
def cs2 (a b : Nat) : List Nat := [87, 82, 65 + a, 65 + b]
theorem cs2_ok {a b : Nat} (ha : a < 26) (hb : b < 26) : ∀ c ∈ cs2 a b, 65 ≤ c ∧ c ≤ 90 := by
  intro c hc
  simp [cs2] at hc
  omega
abbrev E11 (R1 R2 : D) (r1 r2 : List D) (c1 c2 : List D) (ls : D) (x : Sl) : En := [.val (.lst []), .val (.cell 0), .val (.lst r1), .val (.lst r2), .val R1, .val R2, .val (.tup c1), .val (.tup c2), .val (.str "ABCDEFGHIJKLMNOPQRSTUVWXYZ"), .val ls, x]
def cT1 : CS := (.ite (.not (.call 32 (.cons (.meth (.var 4) 11 (.cons (.var 10) (.cons (.var 6) .nil))) (.cons (.call 42 (.cons (.var 2) (.cons (.var 10) (.cons (.var 6) .nil)))) .nil)))) (.cons (.ret (.cst (.bl false))) .nil) .nil)
def cT2 : CS := (.ite (.not (.call 32 (.cons (.meth (.var 5) 11 (.cons (.var 10) (.cons (.var 7) .nil))) (.cons (.call 42 (.cons (.var 3) (.cons (.var 10) (.cons (.var 7) .nil)))) .nil)))) (.cons (.ret (.cst (.bl false))) .nil) .nil)
def cB1 : CSs := (.cons cT1 (.cons (.ite (.cmp .ge (.blt .len (.cons (.var 7) .nil)) (.blt .len (.cons (.var 6) .nil))) (.cons cT2 .nil) .nil) .nil))
def cB2 : CSs := (.cons cT2 .nil)
section
variable {n : Nat} {h : Cells} {x0 x2 x3 x4 x5 x6 x7 x8 x9 : D}
theorem t1 {rs : List Rw} {cs : List Nat} {d : D} (hr : RsOk rs) (hcs : ∀ c ∈ cs, c < rs.length) (ha : AtomOk cs.length d) :
    evS (Fd (n + 3)) gl cT1 [.val x0, .val (.cell 0), .val (.lst (rs.map Rw.d)), .val x3, .val (runD rs), .val x5, .val (.tup (cs.map nD)), .val x7, .val x8, .val x9, .val d] h = .next [.val x0, .val (.cell 0), .val (.lst (rs.map Rw.d)), .val x3, .val (runD rs), .val x5, .val (.tup (cs.map nD)), .val x7, .val x8, .val x9, .val d] h := by
  obtain ⟨b, e1, e2⟩ := holds_both (n := n) (h := h) hr hcs ha
  have em : methD pr.tb (see h (runD rs)) 11 = some 28 := rfl
  have es := same_bl (n := n + 2) (b := b) (h := h)
  have e1' : (Fd (n + 3)).call 28 [runD rs, d, .tup (cs.map nD)] h = .ok (.bl b) h := e1
  have e2' : (Fd (n + 3)).call 42 [.lst (rs.map Rw.d), d, .tup (cs.map nD)] h = .ok (.bl b) h := e2
  generalize runD rs = R at em e1' e1
  generalize rs.map Rw.d = rows at e2' e2
  generalize cs.map nD = ch at e1' e2'
  simp [cT1, em, e1', e2', es]
theorem t2 {rs : List Rw} {cs : List Nat} {d : D} (hr : RsOk rs) (hcs : ∀ c ∈ cs, c < rs.length) (ha : AtomOk cs.length d) :
    evS (Fd (n + 3)) gl cT2 [.val x0, .val (.cell 0), .val x2, .val (.lst (rs.map Rw.d)), .val x4, .val (runD rs), .val x6, .val (.tup (cs.map nD)), .val x8, .val x9, .val d] h = .next [.val x0, .val (.cell 0), .val x2, .val (.lst (rs.map Rw.d)), .val x4, .val (runD rs), .val x6, .val (.tup (cs.map nD)), .val x8, .val x9, .val d] h := by
  obtain ⟨b, e1, e2⟩ := holds_both (n := n) (h := h) hr hcs ha
  have em : methD pr.tb (see h (runD rs)) 11 = some 28 := rfl
  have es := same_bl (n := n + 2) (b := b) (h := h)
  have e1' : (Fd (n + 3)).call 28 [runD rs, d, .tup (cs.map nD)] h = .ok (.bl b) h := e1
  have e2' : (Fd (n + 3)).call 42 [.lst (rs.map Rw.d), d, .tup (cs.map nD)] h = .ok (.bl b) h := e2
  generalize runD rs = R at em e1' e1
  generalize rs.map Rw.d = rows at e2' e2
  generalize cs.map nD = ch at e1' e2'
  simp [cT2, em, e1', e2', es]
theorem AtomOk.mono {s t : Nat} {d : D} (h : AtomOk s d) (hst : s ≤ t) : AtomOk t d := by
  cases h with
  | nev => exact .nev
  | mk c x h1 h2 => exact .mk c x h1 (by omega)
  | rel w x y h1 h2 h3 => exact .rel w x y h1 (by omega) (by omega)
/-- the law's slots behind the draws -/
abbrev EL (ns : D) (ra rb : List Rw) (ca cb : List Nat) (al ls : D) (x : Sl) : En := [.val ns, .val (.cell 0), .val (.lst (ra.map Rw.d)), .val (.lst (rb.map Rw.d)), .val (runD ra), .val (runD rb), .val (.tup (ca.map nD)), .val (.tup (cb.map nD)), .val al, .val ls, x]
theorem b1 {ns al ls : D} {ra rb : List Rw} {ca cb : List Nat} {d : D} (h1 : RsOk ra) (h2 : RsOk rb) (hca : ∀ c ∈ ca, c < ra.length) (hcb : ∀ c ∈ cb, c < rb.length) (ha : AtomOk ca.length d) :
    evSs (Fd (n + 3)) gl cB1 (EL ns ra rb ca cb al ls (.val d)) h = .next (EL ns ra rb ca cb al ls (.val d)) h := by
  unfold cB1
  rw [ss_consE, t1 h1 hca ha, seq_next]
  have la : ((ca.map nD).length : Int) = ca.length := by rw [List.length_map]
  have lb : ((cb.map nD).length : Int) = cb.length := by rw [List.length_map]
  unfold EL
  by_cases hl : ca.length ≤ cb.length
  · have st := t2 (n := n) (h := h) (x0 := ns) (x2 := .lst (ra.map Rw.d)) (x4 := runD ra) (x6 := .tup (ca.map nD)) (x8 := al) (x9 := ls) h2 hcb (ha.mono hl)
    generalize cT2 = c2 at st ⊢
    generalize runD ra = RA at st ⊢
    generalize runD rb = RB at st ⊢
    generalize ra.map Rw.d = qa at st ⊢
    generalize rb.map Rw.d = qb at st ⊢
    generalize ca.map nD = za at st la ⊢
    generalize cb.map nD = zb at st lb ⊢
    have hl' : za.length ≤ zb.length := by omega
    simp [hl', st]
  · generalize cT2 = c2
    generalize runD ra = RA
    generalize runD rb = RB
    generalize ra.map Rw.d = qa
    generalize rb.map Rw.d = qb
    generalize ca.map nD = za at la ⊢
    generalize cb.map nD = zb at lb ⊢
    have hl' : ¬ za.length ≤ zb.length := by omega
    simp [hl']
theorem lp {ns al ls : D} {ra rb : List Rw} {ca cb : List Nat} {cb0 : CSs} {A : List D} {s : Nat} {x : Sl} (hA : ∀ d ∈ A, AtomOk s d) (hb : ∀ d, AtomOk s d → evSs (Fd (n + 3)) gl cb0 (EL ns ra rb ca cb al ls (.val d)) h = .next (EL ns ra rb ca cb al ls (.val d)) h) :
    ∃ x', forGo (.name 10) (evSs (Fd (n + 3)) gl cb0) A (EL ns ra rb ca cb al ls x) h = .next (EL ns ra rb ca cb al ls x') h := by
  obtain ⟨e', hf, x', rfl⟩ := for_all (t := .name 10) (f := evSs (Fd (n + 3)) gl cb0) (h := h) (fun e => ∃ x, e = EL ns ra rb ca cb al ls x) (ds := A) (env := EL ns ra rb ca cb al ls x) ⟨_, rfl⟩ (fun d hd env ⟨x, hx⟩ => by
    subst hx
    exact ⟨_, _, rfl, hb d (hA d hd), _, rfl⟩)
  exact ⟨x', hf⟩
theorem law_steps {F : FTab} {N RA RB : D} {q qa qb za zb A1 A2 : List D} {h1 h2 h3 h4 h5 h6 h7 : Cells} {a b : Nat} {wa wb : Str}
    (e1 : F.call 30 [N] [] = .ok (.cell 0) h1) (e2 : F.call 36 [.cell 0, .int 8] h1 = .ok (.lst q) h2) (e3 : F.call 44 [.cell 0] h2 = .ok (.lst qb) h3)
    (eq : qa = if q.length = 0 then qb.take 3 else q) (ea : F.call 38 [.lst qa] h3 = .ok RA h3) (eb : F.call 38 [.lst qb] h3 = .ok RB h3)
    (e4 : F.call 46 [.cell 0, .int (qa.length : Int)] h3 = .ok (.tup za) h4) (e5 : F.call 46 [.cell 0, .int 4] h4 = .ok (.tup zb) h5)
    (e6 : F.call 31 [.cell 0, .int 26] h5 = .ok (.int (a : Int)) h6) (s6 : subD (.str "ABCDEFGHIJKLMNOPQRSTUVWXYZ") (.int (a : Int)) = some (.str wa))
    (e7 : F.call 31 [.cell 0, .int 26] h6 = .ok (.int (b : Int)) h7) (s7 : subD (.str "ABCDEFGHIJKLMNOPQRSTUVWXYZ") (.int (b : Int)) = some (.str wb))
    (e8 : F.call 45 [.int (za.length : Int), .lst [.str "W", .str "R", .str wa, .str wb]] h7 = .ok (.lst A1) h7)
    (e9 : F.call 45 [.int (zb.length : Int), .lst [.str "W", .str "R", .str wa, .str wb]] h7 = .ok (.lst A2) h7)
    (f1 : ∀ x, ∃ x', forGo (.name 10) (evSs F gl cB1) A1 [.val N, .val (.cell 0), .val (.lst qa), .val (.lst qb), .val RA, .val RB, .val (.tup za), .val (.tup zb), .val (.str "ABCDEFGHIJKLMNOPQRSTUVWXYZ"), .val (.lst [.str "W", .str "R", .str wa, .str wb]), x] h7 = .next [.val N, .val (.cell 0), .val (.lst qa), .val (.lst qb), .val RA, .val RB, .val (.tup za), .val (.tup zb), .val (.str "ABCDEFGHIJKLMNOPQRSTUVWXYZ"), .val (.lst [.str "W", .str "R", .str wa, .str wb]), x'] h7)
    (f2 : ∀ x, ∃ x', forGo (.name 10) (evSs F gl cB2) A2 [.val N, .val (.cell 0), .val (.lst qa), .val (.lst qb), .val RA, .val RB, .val (.tup za), .val (.tup zb), .val (.str "ABCDEFGHIJKLMNOPQRSTUVWXYZ"), .val (.lst [.str "W", .str "R", .str wa, .str wb]), x] h7 = .next [.val N, .val (.cell 0), .val (.lst qa), .val (.lst qb), .val RA, .val RB, .val (.tup za), .val (.tup zb), .val (.str "ABCDEFGHIJKLMNOPQRSTUVWXYZ"), .val (.lst [.str "W", .str "R", .str wa, .str wb]), x'] h7)
    (t1 : F.call 41 [RA] h7 = .ok (.lst qa) h7) (t2 : F.call 41 [RB] h7 = .ok (.lst qb) h7)
    (u1 : F.call 32 [.lst qa, .lst qa] h7 = .ok (.bl true) h7) (u2 : F.call 32 [.lst qb, .lst qb] h7 = .ok (.bl true) h7) :
    (evSs F gl c_law [.val N, .no, .no, .no, .no, .no, .no, .no, .no, .no, .no] []).fin = .ok (.bl true) h7 := by
  have p1 : evS F gl (.set 1 (.call 30 (.cons (.var 0) .nil))) [.val N, .no, .no, .no, .no, .no, .no, .no, .no, .no, .no] [] = .next [.val N, .val (.cell 0), .no, .no, .no, .no, .no, .no, .no, .no, .no] h1 := by
    simp [e1]
  have p2 : evS F gl (.set 2 (.call 36 (.cons (.var 1) (.cons (.cst (.int 8)) .nil)))) [.val N, .val (.cell 0), .no, .no, .no, .no, .no, .no, .no, .no, .no] h1 = .next [.val N, .val (.cell 0), .val (.lst q), .no, .no, .no, .no, .no, .no, .no, .no] h2 := by
    simp [e2]
  have p3 : evS F gl (.set 3 (.call 44 (.cons (.var 1) .nil))) [.val N, .val (.cell 0), .val (.lst q), .no, .no, .no, .no, .no, .no, .no, .no] h2 = .next [.val N, .val (.cell 0), .val (.lst q), .val (.lst qb), .no, .no, .no, .no, .no, .no, .no] h3 := by
    simp [e3]
  have p4 : evS F gl (.ite (.cmp .eq (.blt .len (.cons (.var 2) .nil)) (.cst (.int 0))) (.cons (.set 2 (.slice (.var 3) .none (.some (.cst (.int 3))))) .nil) .nil) [.val N, .val (.cell 0), .val (.lst q), .val (.lst qb), .no, .no, .no, .no, .no, .no, .no] h3 = .next [.val N, .val (.cell 0), .val (.lst qa), .val (.lst qb), .no, .no, .no, .no, .no, .no, .no] h3 := by
    rw [eq]
    by_cases hq : q.length = 0
    · rw [if_pos hq]
      have hz : q = [] := List.length_eq_zero_iff.mp hq
      simp [hz]
    · rw [if_neg hq]
      have hn : ¬ q = [] := fun hz => hq (by rw [hz]; rfl)
      simp [hn]
  have p5 : evS F gl (.set 4 (.call 38 (.cons (.var 2) .nil))) [.val N, .val (.cell 0), .val (.lst qa), .val (.lst qb), .no, .no, .no, .no, .no, .no, .no] h3 = .next [.val N, .val (.cell 0), .val (.lst qa), .val (.lst qb), .val RA, .no, .no, .no, .no, .no, .no] h3 := by
    simp [ea]
  have p6 : evS F gl (.set 5 (.call 38 (.cons (.var 3) .nil))) [.val N, .val (.cell 0), .val (.lst qa), .val (.lst qb), .val RA, .no, .no, .no, .no, .no, .no] h3 = .next [.val N, .val (.cell 0), .val (.lst qa), .val (.lst qb), .val RA, .val RB, .no, .no, .no, .no, .no] h3 := by
    simp [eb]
  have p7 : evS F gl (.set 6 (.call 46 (.cons (.var 1) (.cons (.blt .len (.cons (.var 2) .nil)) .nil)))) [.val N, .val (.cell 0), .val (.lst qa), .val (.lst qb), .val RA, .val RB, .no, .no, .no, .no, .no] h3 = .next [.val N, .val (.cell 0), .val (.lst qa), .val (.lst qb), .val RA, .val RB, .val (.tup za), .no, .no, .no, .no] h4 := by
    simp [e4]
  have p8 : evS F gl (.set 7 (.call 46 (.cons (.var 1) (.cons (.cst (.int 4)) .nil)))) [.val N, .val (.cell 0), .val (.lst qa), .val (.lst qb), .val RA, .val RB, .val (.tup za), .no, .no, .no, .no] h4 = .next [.val N, .val (.cell 0), .val (.lst qa), .val (.lst qb), .val RA, .val RB, .val (.tup za), .val (.tup zb), .no, .no, .no] h5 := by
    simp [e5]
  have p9 : evS F gl (.set 8 (.cst (.str "ABCDEFGHIJKLMNOPQRSTUVWXYZ"))) [.val N, .val (.cell 0), .val (.lst qa), .val (.lst qb), .val RA, .val RB, .val (.tup za), .val (.tup zb), .no, .no, .no] h5 = .next [.val N, .val (.cell 0), .val (.lst qa), .val (.lst qb), .val RA, .val RB, .val (.tup za), .val (.tup zb), .val (.str "ABCDEFGHIJKLMNOPQRSTUVWXYZ"), .no, .no] h5 := by
    simp
  have p10 : evS F gl (.set 9 (.lst (.cons (.cst (.str "W")) (.cons (.cst (.str "R")) (.cons (.sub (.var 8) (.call 31 (.cons (.var 1) (.cons (.cst (.int 26)) .nil)))) (.cons (.sub (.var 8) (.call 31 (.cons (.var 1) (.cons (.cst (.int 26)) .nil)))) .nil)))))) [.val N, .val (.cell 0), .val (.lst qa), .val (.lst qb), .val RA, .val RB, .val (.tup za), .val (.tup zb), .val (.str "ABCDEFGHIJKLMNOPQRSTUVWXYZ"), .no, .no] h5 = .next [.val N, .val (.cell 0), .val (.lst qa), .val (.lst qb), .val RA, .val RB, .val (.tup za), .val (.tup zb), .val (.str "ABCDEFGHIJKLMNOPQRSTUVWXYZ"), .val (.lst [.str "W", .str "R", .str wa, .str wb]), .no] h7 := by
    generalize ("ABCDEFGHIJKLMNOPQRSTUVWXYZ" : Str) = al at s6 s7 ⊢
    simp [e6, s6, e7, s7]
  obtain ⟨y1, g1⟩ := f1 .no
  obtain ⟨y2, g2⟩ := f2 y1
  have i1 : evI F gl [.val N, .val (.cell 0), .val (.lst qa), .val (.lst qb), .val RA, .val RB, .val (.tup za), .val (.tup zb), .val (.str "ABCDEFGHIJKLMNOPQRSTUVWXYZ"), .val (.lst [.str "W", .str "R", .str wa, .str wb]), .no] (.of (.call 45 (.cons (.blt .len (.cons (.var 6) .nil)) (.cons (.var 9) .nil)))) h7 = .ok A1 h7 := by
    generalize D.lst [.str "W", .str "R", .str wa, .str wb] = ls at e8
    simp [e8]
  have i2 : evI F gl [.val N, .val (.cell 0), .val (.lst qa), .val (.lst qb), .val RA, .val RB, .val (.tup za), .val (.tup zb), .val (.str "ABCDEFGHIJKLMNOPQRSTUVWXYZ"), .val (.lst [.str "W", .str "R", .str wa, .str wb]), y1] (.of (.call 45 (.cons (.blt .len (.cons (.var 7) .nil)) (.cons (.var 9) .nil)))) h7 = .ok A2 h7 := by
    generalize D.lst [.str "W", .str "R", .str wa, .str wb] = ls at e9
    simp [e9]
  unfold c_law
  rw [ss_consE, p1, seq_next, ss_consE, p2, seq_next, ss_consE, p3, seq_next, ss_consE, p4, seq_next, ss_consE, p5, seq_next, ss_consE, p6, seq_next, ss_consE, p7, seq_next, ss_consE, p8, seq_next, ss_consE, p9, seq_next, ss_consE, p10, seq_next]
  unfold cB1 cT1 cT2 at g1
  unfold cB2 cT2 at g2
  rw [ss_consE, Rf.s_forE, i1, out_ok, g1, seq_next, ss_consE, Rf.s_forE, i2, out_ok, g2, seq_next]
  generalize D.lst [.str "W", .str "R", .str wa, .str wb] = ls
  simp [t1, u1, t2, u2]
/-- the law -/
theorem law_ev (n : Nat) (ns : List Int) : ∃ c, (Fd (n + 8)).call 47 [.lst (ns.map .int)] [] = .ok (.bl true) c := by
  have hcall : (Fd (n + 8)).call 47 [.lst (ns.map .int)] [] = (evSs (Fd (n + 7)) gl c_law [.val (.lst (ns.map .int)), .no, .no, .no, .no, .no, .no, .no, .no, .no, .no] []).fin := call_run (fn := f_law) rfl rfl rfl
  rw [hcall]
  obtain ⟨h1, q1, e1⟩ := start_at (gl := gl) (fs := fs) (tb := pr.tb) (si := 30) rfl (n + 6) ns
  obtain ⟨rs, h2, dok, l8, q2, e2⟩ := law_rows (n := n + 4) q1
  obtain ⟨s, i, h3, hs, hi, q3, e3⟩ := law_four (n := n + 5) q2
  have hf4 := four_ok hs hi
  obtain ⟨ra, era⟩ : ∃ ra, ra = if rs.length = 0 then (four (s : Int) i).take 3 else rs := ⟨_, rfl⟩
  have hra : RsOk ra := by
    rw [era]
    split
    · exact hf4.take 3
    · exact dok.rs l8
  have hlen : 1 ≤ ra.length ∧ ra.length ≤ 8 := by
    refine ⟨?_, hra.len⟩
    rw [era]
    split
    · show 1 ≤ 3; decide
    · omega
  obtain ⟨ca, h4, lca, bca, q4, e4⟩ := law_choice (n := n + 4) (s := ra.length) hlen.1 hlen.2 q3
  obtain ⟨cb, h5, lcb, bcb, q5, e5⟩ := law_choice (n := n + 4) (s := 4) (by decide) (by decide) q4
  obtain ⟨a, h6, q6, b6, e6⟩ := dr (n + 6) q5 (lim := 26) (by decide) (by decide)
  obtain ⟨b, h7, q7, b7, e7⟩ := dr (n + 6) q6 (lim := 26) (by decide) (by decide)
  have hcs := cs2_ok (a := a) (b := b) (by omega) (by omega)
  obtain ⟨A1, hA1, lA1, eA1⟩ := law_atoms (n := n + 6) (h := h7) (s := ca.length) (cs := cs2 a b) lca hcs (by show 4 ≤ 4; decide)
  obtain ⟨A2, hA2, lA2, eA2⟩ := law_atoms (n := n + 6) (h := h7) (s := cb.length) (cs := cs2 a b) lcb hcs (by show 4 ≤ 4; decide)
  refine ⟨h7, ?_⟩
  have la : ((ca.map nD).length : Int) = ca.length := by rw [List.length_map]
  have lb : ((cb.map nD).length : Int) = cb.length := by rw [List.length_map]
  have lr : ((ra.map Rw.d).length : Int) = ra.length := by rw [List.length_map]
  refine law_steps (RA := runD ra) (RB := runD (four s i)) (q := rs.map Rw.d) (qa := ra.map Rw.d) (qb := (four s i).map Rw.d) (za := ca.map nD) (zb := cb.map nD) (A1 := A1) (A2 := A2) (a := a) (b := b) (wa := sL [65 + a]) (wb := sL [65 + b])
    e1 e2 e3 ?_ (law_run (n := n + 3) hra) (law_run (n := n + 3) hf4) (by rw [lr]; exact e4) e5 e6 (sub_cap (by omega)) e7 (sub_cap (by omega)) (by rw [la]; exact eA1) (by rw [lb]; exact eA2)
    (fun x => lp (s := ca.length) hA1 fun d hd => b1 (n := n + 4) hra hf4 bca bcb hd) (fun x => lp (s := cb.length) hA2 fun d hd => ?_)
    (told (n := n + 3) hra) (told (n := n + 3) hf4) (same (rows_pln hra) (by omega)) (same (rows_pln hf4) (by omega))
  · rw [List.length_map, ← List.map_take, era]
    split <;> rfl
  · unfold cB2
    rw [ss_consE, t2 (n := n + 4) hf4 bcb hd, seq_next, ss_nilE]
end
end K33
set_option Elab.async false
set_option linter.all false
set_option maxRecDepth 100000
set_option maxHeartbeats 8000000
open PySem PySem.W PySem.Calls PyProof.Rows
theorem PySem.Challenge.cw_eitherpromised_k33_run_holds_holds : PySem.Challenge.rw_eitherpromised_k33_run_holds.Holds := by
  w_on; o_law
  refine HandSHeadRun.head_any (r := K33.R) (q := view K33.R.prog [53]) (H := K33.hk) (ob := K33.ob) (M := 9000) (loose := K33.names) (d := HandSHeadRun.topDef K33.R.prog 53) (kwd := []) K33.ob_eq
    (by kernel_rfl) (fun s => by kernel_rfl) K33.run (by kernel_rfl) (by kernel_rfl) (by kernel_rfl) (by rfl) (by first | assumption | decide +kernel) (by decide +kernel) ⟨rfl, rfl, rfl, rfl, rfl, by decide +kernel⟩ ?hw ?hc
  case hw => w_witness2
  case hc => exact Rf.law_walk (l := PySem.Challenge.rw_eitherpromised_k33_run_holds) (N := 60) (li := 47) (x := "script") rfl (by decide) (by kernel_rfl) ⟨rfl, by decide, by decide⟩ K33.txt K33.binds K33.bindk (by decide +kernel) (fun q h => by cases h; exact ⟨rfl, rfl⟩) (by decide) fun ns _ => K33.law_ev 52 ns
