import PyProof.Rows.All
import Wide.All
import OpenK.AllK
import Wide.FinOn
import HandS.ForMost
import HandS.Exc
import HandS.CallSlots
import HandS.WordsExc
import HandS.Wide
import HandS.TupMul
import HandS.IsInst
import HandS.Deep
import HandS.TupAny
import HandS.RaiseMore
import HandS.Codes
import HandS.Defaults
import HandS.HeadEnd
import HandS.HeadHook1
import HandS.HeadHook2
import HandS.HeadHook4
import PySem.Challenge.RW_wholemoment_k14_whole_leases_held_exactl
import HandS.Head0
import HandS.Head1
import HandS.Head2
set_option Elab.async false
set_option linter.all false
set_option maxRecDepth 100000
set_option maxHeartbeats 4000000
/-! data, how they lie in the abstract heap, what a step keeps -/
namespace DL
open PySem PySem.Spec L2

/-- data of a program: what stands in the heap is told as a whole. ref n: the n-th changing object of the store; vl: a list that a name owns, only looked at -/
inductive D where
  | non | bl (b : Bool) | int (i : Int) | str (x : Str)
  | tup (ds : List D) | lst (ds : List D)
  | ref (n : Nat) | fn (f : Nat)
  | vl (ds : List D)
  | dic (ks : List Key) (ds : List D)
deriving Inhabited

/-- an object that changes -/
inductive MO where
  | ml (ds : List D)
deriving Inhabited

abbrev Store := List MO

/-- an exception: its class's place, what it keeps -/
structure Exc where
  cls : Nat
  fs : List (Str × D)

/-- how a part of the program ends -/
inductive R (α : Type) where
  | stuck
  | ok (a : α) (st : Store)
  | exc (x : Exc) (st : Store)

namespace R
variable {α β : Type}
def bind (r : R α) (k : α → Store → R β) : R β := match r with
  | .stuck => .stuck
  | .ok a st => k a st
  | .exc x st => .exc x st
@[simp] theorem bind_ok (a : α) (st : Store) (k : α → Store → R β) : (R.ok a st).bind k = k a st := rfl
@[simp] theorem bind_exc (x : Exc) (st : Store) (k : α → Store → R β) : (R.exc x st : R α).bind k = .exc x st := rfl
@[simp] theorem bind_stuck (k : α → Store → R β) : (R.stuck : R α).bind k = .stuck := rfl
@[simp] theorem bind_ite (c : Prop) [Decidable c] (a b : R α) (k : α → Store → R β) : (if c then a else b).bind k = if c then a.bind k else b.bind k := by
  split <;> rfl
theorem bind_bind {γ : Type} (r : R α) (f : α → Store → R β) (g : β → Store → R γ) : (r.bind f).bind g = r.bind fun a st => (f a st).bind g := by
  cases r <;> rfl
end R

/-! ### how data lie -/
/-- what is told of the program: the written part, where its defs stand -/
structure Gl where
  K : PySem.W.Frag
  fa : Nat → Addr

section
variable (G : Gl) (H : Hp) (S : Addr → Prop) (φ : List Addr)
def KL (a : Addr) (xs : List V) : Prop := ∃ (o : Obj) (its : Array Value) (n : Nat), G.K.lookup a = some o ∧ o.cls = .type "list" ∧ o.dict = none ∧ o.data = .seq its n ∧ its.size ≤ sizeLine ∧ Vals xs its.toList
def KT (a : Addr) (xs : List V) : Prop := ∃ (o : Obj) (its : Array Value) (n : Nat), G.K.lookup a = some o ∧ o.cls = .type "tuple" ∧ o.data = .seq its n ∧ its.size ≤ sizeLine ∧ Vals xs its.toList
def SL (a : Addr) (xs : List V) : Prop := (Rd H a (.lst xs) ∧ ¬ S a) ∨ KL G a xs
def ST (a : Addr) (xs : List V) : Prop := (Rd H a (.tup xs) ∧ ¬ S a) ∨ KT G a xs
mutual
def Rep : D → V → Prop
  | .non, x => x = .non
  | .bl b, x => x = .bl b
  | .int i, x => x = .int i
  | .str s, x => x = .str s
  | .tup ds, x => ∃ a xs, x = .ref a ∧ ST G H S a xs ∧ RepL ds xs
  | .lst ds, x => ∃ a xs, x = .ref a ∧ SL G H S a xs ∧ RepL ds xs
  | .ref n, x => ∃ a, φ[n]? = some a ∧ x = .ref a
  | .fn f, x => x = .ref (G.fa f)
  | .vl _, _ => False
  | .dic ks ds, x => ∃ a xs, x = .ref a ∧ (Rd H a (.dK (ks.zip xs)) ∧ ¬ S a) ∧ ks.length = xs.length ∧ RepL ds xs
def RepL : List D → List V → Prop
  | [], xs => xs = []
  | d :: ds, xs => ∃ x r, xs = x :: r ∧ Rep d x ∧ RepL ds r
end
/-- a value in hand: a view of an owned list, or data -/
def RepV : D → V → Prop
  | .vl ds, x => ∃ a xs, x = .ref a ∧ Rd H a (.lst xs) ∧ a ∉ φ ∧ S a ∧ RepL G H S φ ds xs
  | d, x => Rep G H S φ d x
def RepO (a : Addr) : MO → Prop
  | .ml ds => ∃ xs, H a = some (.lst xs) ∧ RepL G H S φ ds xs
end

/-- data, no view -/
def D.strict : D → Bool
  | .vl _ => false
  | _ => true

section
variable {G : Gl} {H H' : Hp} {S S' : Addr → Prop} {φ φ' : List Addr}
theorem RepV.strict {d : D} {x : V} (r : RepV G H S φ d x) (h : d.strict = true) : Rep G H S φ d x := by
  cases d <;> first | exact r | cases h
theorem RepV.of {d : D} {x : V} (r : Rep G H S φ d x) : RepV G H S φ d x := by
  cases d <;> first | exact r | (unfold Rep at r; exact r.elim)

/-- what a step keeps of what does not change -/
structure Kp (S : Addr → Prop) (φ : List Addr) (H : Hp) (S' : Addr → Prop) (φ' : List Addr) (H' : Hp) : Prop where
  keep : ∀ a u, Rd H a u → ¬ S a → Rd H' a u
  fresh : ∀ a, S' a → S a ∨ H a = none
  pre : ∃ l, φ' = φ ++ l

theorem Rd.ne_none {H : Hp} {a : Addr} {u : HO} (r : Rd H a u) : H a ≠ none := by
  rcases r with r | ⟨o, r⟩ <;> (rw [r]; exact fun z => nomatch z)

theorem Kp.rd (k : Kp S φ H S' φ' H') {a : Addr} {u : HO} (h : Rd H a u ∧ ¬ S a) : Rd H' a u ∧ ¬ S' a :=
  ⟨k.keep a u h.1 h.2, fun z => (k.fresh a z).elim h.2 (Rd.ne_none h.1)⟩
theorem Kp.at_ (k : Kp S φ H S' φ' H') {n : Nat} {a : Addr} (h : φ[n]? = some a) : φ'[n]? = some a := by
  obtain ⟨l, rfl⟩ := k.pre
  rw [List.getElem?_append_left (List.getElem?_eq_some_iff.mp h).1]
  exact h
theorem Kp.sl (k : Kp S φ H S' φ' H') {a : Addr} {xs : List V} (h : SL G H S a xs) : SL G H' S' a xs :=
  h.imp (fun z => k.rd z) id
theorem Kp.st (k : Kp S φ H S' φ' H') {a : Addr} {xs : List V} (h : ST G H S a xs) : ST G H' S' a xs :=
  h.imp (fun z => k.rd z) id
mutual
theorem Kp.rep (k : Kp S φ H S' φ' H') : ∀ (d : D) (x : V), Rep G H S φ d x → Rep G H' S' φ' d x
  | .non, x, h => by unfold Rep at h ⊢; exact h
  | .bl b, x, h => by unfold Rep at h ⊢; exact h
  | .int i, x, h => by unfold Rep at h ⊢; exact h
  | .str s, x, h => by unfold Rep at h ⊢; exact h
  | .tup ds, x, h => by
    unfold Rep at h ⊢
    obtain ⟨a, xs, e, h1, h2⟩ := h
    exact ⟨a, xs, e, k.st h1, Kp.repL k ds xs h2⟩
  | .lst ds, x, h => by
    unfold Rep at h ⊢
    obtain ⟨a, xs, e, h1, h2⟩ := h
    exact ⟨a, xs, e, k.sl h1, Kp.repL k ds xs h2⟩
  | .ref n, x, h => by
    unfold Rep at h ⊢
    obtain ⟨a, h1, h2⟩ := h
    exact ⟨a, k.at_ h1, h2⟩
  | .fn f, x, h => by unfold Rep at h ⊢; exact h
  | .vl _, x, h => by unfold Rep at h; exact h.elim
  | .dic ks ds, x, h => by
    unfold Rep at h ⊢
    obtain ⟨a, xs, e, h1, h3, h2⟩ := h
    exact ⟨a, xs, e, k.rd h1, h3, Kp.repL k ds xs h2⟩
theorem Kp.repL (k : Kp S φ H S' φ' H') : ∀ (ds : List D) (xs : List V), RepL G H S φ ds xs → RepL G H' S' φ' ds xs
  | [], xs, h => by unfold RepL at h ⊢; exact h
  | d :: ds, xs, h => by
    unfold RepL at h ⊢
    obtain ⟨x, r, e, h1, h2⟩ := h
    exact ⟨x, r, e, Kp.rep k d x h1, Kp.repL k ds r h2⟩
end
end
section
variable {G : Gl} {H : Hp} {S : Addr → Prop} {φ : List Addr}
theorem RepL.length : ∀ {ds : List D} {xs : List V}, RepL G H S φ ds xs → xs.length = ds.length
  | [], xs, h => by unfold RepL at h; rw [h]; rfl
  | d :: ds, xs, h => by
    unfold RepL at h
    obtain ⟨x, r, e, _, h2⟩ := h
    rw [e, List.length_cons, List.length_cons, RepL.length h2]
theorem RepL.nil : RepL G H S φ [] [] := by unfold RepL; rfl
theorem RepL.cons {d : D} {x : V} {ds : List D} {xs : List V} (h : Rep G H S φ d x) (t : RepL G H S φ ds xs) : RepL G H S φ (d :: ds) (x :: xs) := by
  unfold RepL; exact ⟨x, xs, rfl, h, t⟩
theorem RepL.append : ∀ {ds : List D} {xs : List V} {es : List D} {ys : List V}, RepL G H S φ ds xs → RepL G H S φ es ys → RepL G H S φ (ds ++ es) (xs ++ ys)
  | [], xs, es, ys, h, t => by unfold RepL at h; rw [h]; exact t
  | d :: ds, xs, es, ys, h, t => by
    unfold RepL at h
    obtain ⟨x, r, e, h1, h2⟩ := h
    rw [e]
    exact .cons h1 (RepL.append h2 t)
theorem RepL.get : ∀ {ds : List D} {xs : List V} {i : Nat} {d : D}, RepL G H S φ ds xs → ds[i]? = some d → ∃ x, xs[i]? = some x ∧ Rep G H S φ d x
  | [], _, _, _, _, e => by simp at e
  | d :: ds, xs, i, z, h, e => by
    unfold RepL at h
    obtain ⟨x, r, rfl, h1, h2⟩ := h
    cases i with
    | zero => simp at e; subst e; exact ⟨x, rfl, h1⟩
    | succ i => simp at e; simpa using RepL.get h2 e
theorem RepL.get' : ∀ {ds : List D} {xs : List V} {i : Nat} {x : V}, RepL G H S φ ds xs → xs[i]? = some x → ∃ d, ds[i]? = some d ∧ Rep G H S φ d x
  | [], xs, _, _, h, e => by unfold RepL at h; subst h; simp at e
  | d :: ds, xs, i, z, h, e => by
    unfold RepL at h
    obtain ⟨x, r, rfl, h1, h2⟩ := h
    cases i with
    | zero => simp at e; subst e; exact ⟨d, rfl, h1⟩
    | succ i => simp at e; simpa using RepL.get' h2 e
theorem RepL.set : ∀ {ds : List D} {xs : List V} {d : D} {x : V} (i : Nat), RepL G H S φ ds xs → Rep G H S φ d x → RepL G H S φ (ds.set i d) (xs.set i x)
  | [], xs, d, x, i, h, _ => by unfold RepL at h; subst h; cases i <;> exact .nil
  | d :: ds, xs, e, y, i, h, r => by
    unfold RepL at h
    obtain ⟨x, t, rfl, h1, h2⟩ := h
    cases i with
    | zero => exact .cons r h2
    | succ i => exact .cons h1 (RepL.set i h2 r)
theorem RepL.take : ∀ {ds : List D} {xs : List V} (n : Nat), RepL G H S φ ds xs → RepL G H S φ (ds.take n) (xs.take n)
  | [], xs, n, h => by unfold RepL at h; subst h; cases n <;> exact .nil
  | d :: ds, xs, n, h => by
    unfold RepL at h
    obtain ⟨x, t, rfl, h1, h2⟩ := h
    cases n with
    | zero => exact .nil
    | succ n => exact .cons h1 (RepL.take n h2)
theorem RepL.drop : ∀ {ds : List D} {xs : List V} (n : Nat), RepL G H S φ ds xs → RepL G H S φ (ds.drop n) (xs.drop n)
  | [], xs, n, h => by unfold RepL at h; subst h; cases n <;> exact .nil
  | d :: ds, xs, n, h => by
    cases n with
    | zero => exact h
    | succ n =>
      unfold RepL at h
      obtain ⟨x, t, rfl, h1, h2⟩ := h
      exact RepL.drop n h2
theorem SL.sq {a : Addr} {xs : List V} (h : SL G H S a xs) : SqL G.K H a xs := h.imp (fun z => z.1) id
theorem ST.sq {a : Addr} {xs : List V} (h : ST G H S a xs) : SqT G.K H a xs := h.imp (fun z => z.1) id
end

/-! ### the store, the slots -/
/-- what is so at any time: the changing objects -/
structure StOk (G : Gl) (H : Hp) (Mt : Addr → Prop) (φ : List Addr) (st : Store) : Prop where
  len : φ.length = st.length
  nd : φ.Nodup
  mt : ∀ a ∈ φ, Mt a
  mtH : ∀ a, Mt a → H a ≠ none
  rep : ∀ (n : Nat) (a : Addr) (mo : MO), φ[n]? = some a → st[n]? = some mo → RepO G H Mt φ a mo

/-- an expression's step -/
structure Ext (Mt : Addr → Prop) (φ : List Addr) (H : Hp) (Mt' : Addr → Prop) (φ' : List Addr) (H' : Hp) : Prop where
  pre : ∃ l, φ' = φ ++ l
  keep : ∀ a o, H a = some o → a ∉ φ → H' a = some o
  some : ∀ a, H a ≠ none → H' a ≠ none
  mt1 : ∀ a, Mt a → Mt' a
  mt2 : ∀ a, Mt' a → Mt a ∨ H a = none
  new : ∀ a ∈ φ', a ∈ φ ∨ H a = none

section
variable {G : Gl} {H H' H2 : Hp} {Mt Mt' Mt2 : Addr → Prop} {φ φ' φ2 : List Addr} {st : Store}
theorem Ext.refl : Ext Mt φ H Mt φ H := ⟨⟨[], by simp⟩, fun _ _ h _ => h, fun _ h => h, fun _ h => h, fun _ h => .inl h, fun _ h => .inl h⟩
theorem Ext.trans (a : Ext Mt φ H Mt' φ' H') (b : Ext Mt' φ' H' Mt2 φ2 H2) : Ext Mt φ H Mt2 φ2 H2 where
  pre := by
    obtain ⟨l, rfl⟩ := a.pre
    obtain ⟨m, rfl⟩ := b.pre
    exact ⟨l ++ m, by rw [List.append_assoc]⟩
  keep := fun c o h n => b.keep c o (a.keep c o h n) fun z => (a.new c z).elim n (by rw [h]; exact fun z => nomatch z)
  some := fun c h => b.some c (a.some c h)
  mt1 := fun c h => b.mt1 c (a.mt1 c h)
  mt2 := fun c h => (b.mt2 c h).elim (a.mt2 c) fun z => .inr (by
    cases e : H c with
    | none => rfl
    | some o => exact absurd z (a.some c (by rw [e]; exact fun z => nomatch z)))
  new := fun c h => (b.new c h).elim (a.new c) fun z => .inr (by
    cases e : H c with
    | none => rfl
    | some o => exact absurd z (a.some c (by rw [e]; exact fun z => nomatch z)))
theorem Ext.rd (e : Ext Mt φ H Mt' φ' H') {a : Addr} {u : HO} (h : Rd H a u) (n : a ∉ φ) : Rd H' a u := by
  rcases h with h | ⟨o, h⟩
  · exact .inl (e.keep a _ h n)
  · exact .inr ⟨o, e.keep a _ h n⟩
theorem Ext.kp (e : Ext Mt φ H Mt' φ' H') (s : StOk G H Mt φ st) : Kp Mt φ H Mt' φ' H' :=
  ⟨fun _ _ h n => e.rd h fun z => n (s.mt _ z), e.mt2, e.pre⟩
theorem Ext.repV (e : Ext Mt φ H Mt' φ' H') (s : StOk G H Mt φ st) {d : D} {x : V} (h : RepV G H Mt φ d x) : RepV G H' Mt' φ' d x := by
  cases d with
  | vl ds =>
    obtain ⟨a, xs, rfl, h1, h2, h4, h3⟩ := h
    exact ⟨a, xs, rfl, e.rd h1 h2, fun z => (e.new a z).elim h2 (Rd.ne_none h1), e.mt1 a h4, (e.kp s).repL _ _ h3⟩
  | _ => exact (e.kp s).rep _ _ h
theorem Ext.rep (e : Ext Mt φ H Mt' φ' H') (s : StOk G H Mt φ st) {d : D} {x : V} (h : Rep G H Mt φ d x) : Rep G H' Mt' φ' d x := (e.kp s).rep _ _ h
theorem Ext.repL (e : Ext Mt φ H Mt' φ' H') (s : StOk G H Mt φ st) {ds : List D} {xs : List V} (h : RepL G H Mt φ ds xs) : RepL G H' Mt' φ' ds xs := (e.kp s).repL _ _ h
theorem RepO.kp {a : Addr} {mo : MO} (k : Kp Mt φ H Mt' φ' H') (ha : H' a = H a) (h : RepO G H Mt φ a mo) : RepO G H' Mt' φ' a mo := by
  cases mo with
  | ml ds =>
    obtain ⟨xs, h1, h2⟩ := h
    exact ⟨xs, by rw [ha]; exact h1, k.repL _ _ h2⟩
/-- a new object that does not change is laid -/
theorem Ext.laid {p : Addr} {o : HO} (hp : H p = none) : Ext Mt φ H Mt φ (upd H p o) where
  pre := ⟨[], by simp⟩
  keep := fun a u h _ => by rw [upd_ne (ne_of_none h hp)]; exact h
  some := fun a h => by
    by_cases e : a = p
    · subst e; rw [upd_same]; exact fun z => nomatch z
    · rw [upd_ne e]; exact h
  mt1 := fun _ h => h
  mt2 := fun _ h => .inl h
  new := fun _ h => .inl h
theorem StOk.laid {p : Addr} {o : HO} (s : StOk G H Mt φ st) (hp : H p = none) : StOk G (upd H p o) Mt φ st where
  len := s.len
  nd := s.nd
  mt := s.mt
  mtH := fun a h => (Ext.laid (φ := φ) (Mt := Mt) hp).some a (s.mtH a h)
  rep := fun n a mo h1 h2 => (s.rep n a mo h1 h2).kp ((Ext.laid hp).kp s) (upd_ne fun z => by
    subst z
    exact s.mtH _ (s.mt _ (List.mem_of_getElem? h1)) hp)
theorem StOk.notMt {p : Addr} (s : StOk G H Mt φ st) (hp : H p = none) : ¬ Mt p := fun z => s.mtH _ z hp
theorem StOk.kpRefl (s : StOk G H Mt φ st) : Kp Mt φ H Mt φ H := ⟨fun _ _ h _ => h, fun _ h => .inl h, [], by simp⟩
end
end DL

set_option Elab.async false
set_option linter.all false
set_option maxRecDepth 100000
set_option maxHeartbeats 4000000
/-! the program as a datum, and what it means -/
namespace DL
open PySem PySem.Spec L2

inductive Slot where
  | un | val (d : D) | own (mo : MO)
deriving Inhabited
abbrev Env := List Slot

/-- how a statement ends -/
inductive Fl where
  | nx (ρ : Env) | bk (ρ : Env) | ct (ρ : Env) | rt (d : D)

/-- built-in functions -/
inductive Blt where
  | len | abs | int | bool | str | repr | max | min | sum | all | any | tuple | list
deriving DecidableEq
/-- built-in classes that isinstance asks for -/
inductive Ty where
  | int | bool | str | tuple | list | dict
deriving DecidableEq
/-- built-in methods that change nothing -/
inductive Mth where
  | index
deriving DecidableEq
/-- .. that change their list -/
inductive Mut where
  | append
deriving DecidableEq

/-- a part of a program -/
inductive I where
  -- expressions
  | var (i : Nat) | int (n : Int) | str (s : Str) | bool (b : Bool) | none
  | glob (i : Nat)
  | bin (op : Operator) (a b : I)
  | neg (a : I)
  | cmp (op : CmpOp) (a b : I)
  | chain (op op' : CmpOp) (a b c : I)
  | and_ (a b : I) | or_ (a b : I) | not_ (a : I)
  | ife (c a b : I)
  | call (f : Nat) (args : I)
  | blt (b : Blt) (args : I)
  | isin (a : I) (t : Ty)
  | mth (m : Mth) (o args : I)
  | ix (a i : I)
  | slc (a lo hi : I)
  | emp | ts1 (c : I)
  | addR (a b : I)                 -- a list + a list: the new list may change later
  | tup (args : I)
  | lst (m : Bool) (args : I)
  | lc (own : List (Str × Nat)) (elt tg it ifs : I)
  -- rows
  | nil | cons (a b : I)
  -- targets
  | tvar (i : Nat) | ttup (n : Nat) (args : I) | tix (o i : I)
  -- what is walked
  | rng1 (a : I) | rng2 (a b : I) | walk (e : I) | zip (a b : I) | enum (a : I)
  -- statements
  | pass | expr (e : I) | ret (e : I) | retn
  | asg (tg e : I) | aug (i : Nat) (op : Operator) (e : I)
  | asgLc (i : Nat) (own : List (Str × Nat)) (elt tg it ifs : I)
  | par2 (i j : Nat) (a b : I) | par3 (i j k : Nat) (a b c : I) | parC (e tg : I)
  | own (i : Nat) (e : I)          -- x = [..]: x owns the list
  | chg (m : Mut) (i : Nat) (args : I)
  | frz (i : Nat) (s : I)
  | if_ (c a b : I)
  | while_ (n : Nat) (c b : I)
  | for_ (tg it b : I)
  | brk | cont
  | never
deriving Inhabited

/-! ### reading the store -/
/-- the items of a list or a tuple -/
def seqOf (st : Store) : D → Option (List D)
  | .tup ds => some ds
  | .lst ds => some ds
  | .vl ds => some ds
  | .ref n => match st[n]? with
    | some (.ml ds) => some ds
    | _ => none
  | _ => none
def isTup : D → Bool
  | .tup _ => true
  | _ => false
def intsOf : List D → Option (List Int)
  | [] => some []
  | .int i :: r => (intsOf r).map (i :: ·)
  | _ => none
def boolsOf : List D → Option (List Bool)
  | [] => some []
  | .bl b :: r => (boolsOf r).map (b :: ·)
  | _ => none
/-- data as the library's data -/
def pyD : D → Option PyData
  | .non => some .none
  | .bl b => some (.bool b)
  | .int i => some (.int i)
  | .str s => some (.str s)
  | .tup ds => (pyL ds).map .tuple
  | .lst ds => (pyL ds).map .list
  | _ => none
where
  pyL : List D → Option (List PyData)
    | [] => some []
    | d :: r => match pyD d, pyL r with
      | some a, some b => some (a :: b)
      | _, _ => none
def pyV (st : Store) : D → Option PyData
  | .vl ds => (pyD.pyL ds).map .list
  | .ref n => match st[n]? with
    | some (.ml ds) => (pyD.pyL ds).map .list
    | _ => none
  | d => pyD d
/-- == of two data -/
def eqD (st : Store) (x y : D) : Option Bool :=
  match pyV st x, pyV st y with
  | some a, some b => if SeqAt.shaped a && SeqAt.shaped b then some (PyData.eqv a b) else none
  | _, _ => none
def inD (st : Store) (x y : D) : Option Bool :=
  match pyV st x, pyV st y with
  | some a, some (.list bs) => if SeqAt.shaped a && SeqAt.shaped (.list bs) then some (bs.any fun z => PyData.eqv z a) else none
  | _, _ => none

/-- an answer, or none is known -/
def ofO {α : Type} (o : Option α) (st : Store) : R α := match o with
  | some d => .ok d st
  | none => .stuck
@[simp] theorem ofO_some {α : Type} (a : α) (st : Store) : ofO (some a) st = .ok a st := rfl
@[simp] theorem ofO_none {α : Type} (st : Store) : ofO (none : Option α) st = .stuck := rfl

/-! ### operations -/
def bitsI (i : Int) : Nat := i.natAbs.log2
/-- + and * of rows -/
def seqB (op : Operator) (x y : D) (st : Store) : Option D :=
  match op with
  | .Add => match x, y with
    | .tup a, .tup b => if a.length + b.length ≤ sizeLine then some (.tup (a ++ b)) else none
    | x, y => if isTup x || isTup y then none else (seqOf st x).bind fun a => (seqOf st y).bind fun b => if a.length + b.length ≤ sizeLine then some (.lst (a ++ b)) else none
  | .Mult => match x, y with
    | .tup a, .int k => if -1000 ≤ k ∧ k ≤ 1000 ∧ a.length ≤ 1000 then some (.tup (List.replicate k.toNat a).flatten) else none
    | _, _ => none
  | _ => none
def binD (op : Operator) (x y : D) (st : Store) : Option D :=
  match op, x, y with
  | .Add, .int i, .int j => some (.int (i + j))
  | .Sub, .int i, .int j => some (.int (i - j))
  | .Mult, .int i, .int j => if bitsI i + bitsI j < 1000000 then some (.int (i * j)) else none
  | .FloorDiv, .int i, .int j => if 0 < j ∧ bitsI j < 9000 then some (.int (i / j)) else none
  | .Mod, .int i, .int j => if 0 < j then some (.int (i % j)) else none
  | .Pow, .int i, .int j => if 0 ≤ j ∧ j ≤ 1000000 ∧ i.natAbs < 2 ^ 64 then some (.int (i ^ j.toNat)) else none
  | .Add, .str a, .str b => if a.length + b.length ≤ sizeLine then some (.str (a ++ b)) else none
  | op, x, y => seqB op x y st
/-- .. in place, of what has no methods of its own for it -/
def iopD (op : Operator) (x y : D) (st : Store) : Option D :=
  match op, x, y with
  | .Add, .int i, .int j => some (.int (i + j))
  | .Sub, .int i, .int j => some (.int (i - j))
  | .Add, .str a, .str b => if a.length + b.length ≤ sizeLine then some (.str (a ++ b)) else none
  | _, _, _ => none
def negD : D → Option D
  | .int i => some (.int (-i))
  | _ => none
def int2 (p : Int → Int → Bool) : D → D → Option Bool
  | .int i, .int j => some (p i j)
  | _, _ => none
def isNonD : D → Bool
  | .non => true
  | _ => false
def cmpD (op : CmpOp) (x y : D) (st : Store) : Option Bool :=
  match op with
  | .Eq => eqD st x y
  | .NotEq => (eqD st x y).map not
  | .Lt => int2 (fun i j => decide (i < j)) x y
  | .LtE => int2 (fun i j => decide (i ≤ j)) x y
  | .Gt => int2 (fun i j => decide (j < i)) x y
  | .GtE => int2 (fun i j => decide (j ≤ i)) x y
  | .Is => match y with
    | .non => some (isNonD x)
    | _ => none
  | .IsNot => match y with
    | .non => some (!isNonD x)
    | _ => none
  | .In => inD st x y
  | .NotIn => (inD st x y).map not
/-- a value's truth -/
def truD (st : Store) : D → Option Bool
  | .non => some false
  | .bl b => some b
  | .int i => some (i != 0)
  | .str s => if s.length ≤ sizeLine then some ((s.length : Int) != 0) else none
  | .fn _ => none
  | d => (seqOf st d).map fun ds => !ds.isEmpty
def truR (x : D) (st : Store) : R Bool := ofO (truD st x) st
def bltD (b : Blt) (xs : List D) (st : Store) : Option D :=
  match b, xs with
  | .len, [.str s] => if s.length ≤ sizeLine then some (.int s.length) else none
  | .len, [x] => (seqOf st x).map fun ds => .int ds.length
  | .abs, [.int i] => some (.int (if i < 0 then -i else i))
  | .int, [.int i] => some (.int i)
  | .int, [.bl k] => some (.int (if k then 1 else 0))
  | .bool, [.int i] => some (.bl (i != 0))
  | .bool, [.bl k] => some (.bl k)
  | .repr, [.bl k] => some (.str (if k then "True" else "False"))
  | .max, [.int i, .int j] => some (.int (if j > i then j else i))
  | .min, [.int i, .int j] => some (.int (if j < i then j else i))
  | .sum, [x] => if isTup x then none else ((seqOf st x).bind intsOf).map fun is => .int is.sum
  | .all, [x] => if isTup x then none else ((seqOf st x).bind boolsOf).map fun is => .bl (is.all id)
  | .any, [x] => if isTup x then none else ((seqOf st x).bind boolsOf).map fun is => .bl (is.any id)
  | .tuple, [x] => (seqOf st x).map .tup
  | .list, [x] => (seqOf st x).map .lst
  | _, _ => none
/-- a value's built-in class -/
def tyD (st : Store) : D → Option String
  | .non => some "NoneType"
  | .bl _ => some "bool"
  | .int _ => some "int"
  | .str _ => some "str"
  | .tup _ => some "tuple"
  | .lst _ => some "list"
  | .vl _ => some "list"
  | .ref n => match st[n]? with
    | some (.ml _) => some "list"
    | none => none
  | .fn _ => none
  | .dic _ _ => some "dict"
def Ty.name : Ty → String
  | .int => "int" | .bool => "bool" | .str => "str" | .tuple => "tuple" | .list => "list" | .dict => "dict"
def isinD (st : Store) (x : D) (t : Ty) : Option Bool := (tyD st x).map fun n => n == t.name || (n == "bool" && t == .int)
def ixD (x y : D) (st : Store) : Option D :=
  match y with
  | .int i => (seqOf st x).bind fun ds => atI ds i
  | _ => none

/-- xs[lo:hi] -/
def cutD (ds : List D) (lo hi : Option Int) : List D := (ds.drop (HT.sIx ds.length 0 lo)).take (HT.sIx ds.length ds.length hi - HT.sIx ds.length 0 lo)
def slD (x : D) (lo hi : Option Int) (st : Store) : Option D := match x with
  | .tup ds => some (.tup (cutD ds lo hi))
  | .str z => if z.length ≤ sizeLine then some (.str (Txt.slice z lo hi)) else none
  | x => (seqOf st x).map fun ds => .lst (cutD ds lo hi)

/-- a new list, as a changing object -/
def addRD (o : Option D) (st : Store) : R D := match o with
  | some (.lst ds) => .ok (.ref st.length) (st ++ [.ml ds])
  | _ => .stuck

/-! ### the slots -/
def getV (ρ : Env) (i : Nat) : Option D := match ρ[i]? with
  | some (.val d) => some d
  | some (.own (.ml ds)) => some (.vl ds)
  | _ => none
def wipeE (ρ : Env) : List Nat → Env
  | [] => ρ
  | i :: r => (wipeE ρ r).set i .un
def strictR (d : D) (st : Store) : R D := if d.strict then .ok d st else .stuck

/-! ### loops -/
def forD (body : D → Env → Store → R Fl) : List D → Env → Store → R Fl
  | [], ρ, st => .ok (.nx ρ) st
  | x :: xs, ρ, st => (body x ρ st).bind fun f st' => match f with
    | .nx ρ' => forD body xs ρ' st'
    | .ct ρ' => forD body xs ρ' st'
    | .bk ρ' => .ok (.nx ρ') st'
    | .rt d => .ok (.rt d) st'
def whileD (c : Env → Store → R Bool) (body : Env → Store → R Fl) : Nat → Env → Store → R Fl
  | 0, _, _ => .stuck
  | n + 1, ρ, st => (c ρ st).bind fun b st1 => if b then (body ρ st1).bind fun f st' => match f with
      | .nx ρ' => whileD c body n ρ' st'
      | .ct ρ' => whileD c body n ρ' st'
      | .bk ρ' => .ok (.nx ρ') st'
      | .rt d => .ok (.rt d) st'
    else .ok (.nx ρ) st1
/-- a list comprehension: tg a turn's target, ts its tests, el its element -/
def lcD (turn : D → Store → R (Option D)) : List D → Store → R (List D)
  | [], st => .ok [] st
  | x :: xs, st => (turn x st).bind fun o st1 => (lcD turn xs st1).bind fun r st2 => match o with
    | some d => .ok (d :: r) st2
    | none => .ok r st2
/-- nothing is raised -/
def noX {α : Type} (r : R α) : R α := match r with
  | .exc _ _ => .stuck
  | r => r
@[simp] theorem noX_ok {α : Type} (a : α) (st : Store) : noX (R.ok a st) = .ok a st := rfl
/-- ints from lo on -/
def rngD (lo : Int) (n : Nat) : List D := (List.range n).map fun (i : Nat) => D.int (lo + (i : Int))

/-- a comprehension's turn -/
def lcT (fg : D → Env → Store → R Env) (gt : Env → Store → R Bool) (fe : Env → Store → R D) (ρ : Env) (x : D) (st : Store) : R (Option D) :=
  (fg x ρ st).bind fun ρ' st => (gt ρ' st).bind fun k st => if k then (fe ρ' st).bind fun y st => if y.strict then .ok (some y) st else .stuck else .ok none st
/-- a comprehension's meaning -/
def lcE (fit : Env → Store → R (List D)) (fg : D → Env → Store → R Env) (gt : Env → Store → R Bool) (fe : Env → Store → R D) (vs : List Nat) : Env → Store → R D := fun ρ st =>
  (fit ρ st).bind fun xs st => (noX (lcD (lcT fg gt fe (wipeE ρ vs)) xs st)).bind fun ys st => if ys.length < sizeLine then .ok (.lst ys) st else .stuck
def rng1O : D → Option (List D)
  | .int n => if -(2 ^ 62) ≤ n ∧ n < 2 ^ 62 then some (rngD 0 n.toNat) else none
  | _ => none
def rng2O (x y : D) : Option (List D) := match x, y with
  | .int a, .int b => if -(2 ^ 62) ≤ a ∧ a < 2 ^ 62 ∧ -(2 ^ 62) ≤ b ∧ b < 2 ^ 62 then some (rngD a (b - a).toNat) else none
  | _, _ => none
/-- what a for may walk: a list that stands still, a tuple -/
def walkO : D → Option (List D)
  | .tup ds => some ds
  | .lst ds => some ds
  | _ => none
/-- the meanings of a part, whatever it is used for -/
structure Dn where
  e : Env → Store → R D := fun _ _ => .stuck
  t : Env → Store → R Bool := fun _ _ => .stuck
  l : Env → Store → R (List D) := fun _ _ => .stuck
  g : D → Env → Store → R Env := fun _ _ _ => .stuck
  gs : List D → Env → Store → R Env := fun _ _ _ => .stuck
  s : Env → Store → R Fl := fun _ _ => .stuck
  it : Env → Store → R (List D) := fun _ _ => .stuck
  o : Env → Store → R (Option Int) := fun _ _ => .stuck

/-- an int, of a slice -/
def intO : D → Option (Option Int)
  | .int i => some (some i)
  | _ => none
/-- nothing stands there -/
def I.isNone : I → Bool
  | .none => true
  | _ => false
/-- a bound of a slice -/
def partD (p : I) (f : Env → Store → R D) (ρ : Env) (st : Store) : R (Option Int) := if p.isNone then .ok none st else (f ρ st).bind fun x st => ofO (intO x) st
/-- an expression: its truth by its value -/
def Dn.ofE (e : Env → Store → R D) : Dn := { e := e, t := fun ρ st => (e ρ st).bind truR, o := fun ρ st => (e ρ st).bind fun x st => ofO (intO x) st }

/-- the defs that may be called, the constants -/
structure Fns where
  f : Nat → List D → Store → R D
  c : Nat → D

def mutD (m : Mut) (ds : List D) : MO → Option MO
  | .ml xs => match m, ds with
    | .append, [d] => if d.strict && decide (xs.length < sizeLine) then some (.ml (xs ++ [d])) else none
    | _, _ => none

section
variable (Γ : Fns)
def den : I → Dn
  | .var i => .ofE fun ρ st => match getV ρ i with
    | some d => .ok d st
    | none => .stuck
  | .int n => .ofE fun _ st => .ok (.int n) st
  | .str s => .ofE fun _ st => .ok (.str s) st
  | .bool b => .ofE fun _ st => .ok (.bl b) st
  | .none => { Dn.ofE (fun _ st => .ok .non st) with o := fun _ st => .ok none st }
  | .glob i => .ofE fun _ st => .ok (Γ.c i) st
  | .bin op a b => .ofE fun ρ st => ((den a).e ρ st).bind fun x st => ((den b).e ρ st).bind fun y st => ofO (binD op x y st) st
  | .neg a => .ofE fun ρ st => ((den a).e ρ st).bind fun x st => ofO (negD x) st
  | .cmp op a b => .ofE fun ρ st => ((den a).e ρ st).bind fun x st => ((den b).e ρ st).bind fun y st => ofO ((cmpD op x y st).map D.bl) st
  | .chain op op' a b c => .ofE fun ρ st => ((den a).e ρ st).bind fun x st => ((den b).e ρ st).bind fun y st => (ofO (cmpD op x y st) st).bind fun r st => if r then ((den c).e ρ st).bind fun z st => ofO ((cmpD op' y z st).map D.bl) st else .ok (.bl false) st
  | .and_ a b =>
    { e := fun ρ st => ((den a).e ρ st).bind fun x st => match x with
        | .bl true => (den b).e ρ st
        | .bl false => .ok (.bl false) st
        | _ => .stuck
      t := fun ρ st => ((den a).t ρ st).bind fun k st => if k then (den b).t ρ st else .ok false st }
  | .or_ a b =>
    { e := fun ρ st => ((den a).e ρ st).bind fun x st => match x with
        | .bl false => (den b).e ρ st
        | .bl true => .ok (.bl true) st
        | _ => .stuck
      t := fun ρ st => ((den a).t ρ st).bind fun k st => if k then .ok true st else (den b).t ρ st }
  | .not_ a =>
    { e := fun ρ st => ((den a).e ρ st).bind fun x st => match x with
        | .bl k => .ok (.bl (!k)) st
        | _ => .stuck
      t := fun ρ st => ((den a).t ρ st).bind fun k st => .ok (!k) st }
  | .ife c a b => .ofE fun ρ st => ((den c).t ρ st).bind fun k st => if k then (den a).e ρ st else (den b).e ρ st
  | .call f args => .ofE fun ρ st => ((den args).l ρ st).bind fun xs st => Γ.f f xs st
  | .blt b args => .ofE fun ρ st => ((den args).l ρ st).bind fun xs st => ofO (bltD b xs st) st
  | .isin a t => .ofE fun ρ st => ((den a).e ρ st).bind fun x st => ofO ((isinD st x t).map D.bl) st
  | .ix a i => .ofE fun ρ st => ((den a).e ρ st).bind fun x st => ((den i).e ρ st).bind fun y st => ofO (ixD x y st) st
  | .slc a lo hi => .ofE fun ρ st => ((den a).e ρ st).bind fun x st => (partD lo (den lo).e ρ st).bind fun l st => (partD hi (den hi).e ρ st).bind fun h st => ofO (slD x l h st) st
  | .addR a b => .ofE fun ρ st => ((den a).e ρ st).bind fun x st => ((den b).e ρ st).bind fun y st => addRD (seqB .Add x y st) st
  | .emp => .ofE fun _ st => .ok (.dic [] []) st
  | .ts1 c => { t := (den c).t }
  | .tup args => .ofE fun ρ st => ((den args).l ρ st).bind fun xs st => if xs.all D.strict && decide (xs.length ≤ sizeLine) then .ok (.tup xs) st else .stuck
  | .lst false args => .ofE fun ρ st => ((den args).l ρ st).bind fun xs st => if xs.all D.strict && decide (xs.length ≤ sizeLine) then .ok (.lst xs) st else .stuck
  | .lst true args => .ofE fun ρ st => ((den args).l ρ st).bind fun xs st => if xs.all D.strict && decide (xs.length ≤ sizeLine) then .ok (.ref st.length) (st ++ [.ml xs]) else .stuck
  | .nil => { l := fun _ st => .ok [] st, gs := fun ds ρ st => match ds with | [] => .ok ρ st | _ => .stuck, t := fun _ st => .ok true st, s := fun ρ st => .ok (.nx ρ) st }
  | .cons a b =>
    { l := fun ρ st => ((den a).e ρ st).bind fun x st => ((den b).l ρ st).bind fun xs st => .ok (x :: xs) st
      gs := fun ds ρ st => match ds with
        | d :: r => ((den a).g d ρ st).bind fun ρ' st' => (den b).gs r ρ' st'
        | [] => .stuck
      s := fun ρ st => ((den a).s ρ st).bind fun f st => match f with
        | .nx ρ' => (den b).s ρ' st
        | f => .ok f st }
  | .tvar i => { g := fun d ρ st => if d.strict then .ok (ρ.set i (.val d)) st else .stuck }
  | .ttup n args => { g := fun d ρ st => match d with
      | .tup ds => if ds.length = n then (den args).gs ds ρ st else .stuck
      | _ => .stuck }
  | .tix o i => { g := fun d ρ st => ((den o).e ρ st).bind fun x st => ((den i).e ρ st).bind fun y st => match x, y with
      | .ref n, .int k => match st[n]? with
        | some (.ml ds) => match ixN ds.length k with
          | some j => if d.strict then .ok ρ (st.set n (.ml (ds.set j d))) else .stuck
          | none => .stuck
        | _ => .stuck
      | _, _ => .stuck }
  | .rng1 a => { it := fun ρ st => ((den a).e ρ st).bind fun x st => ofO (rng1O x) st }
  | .rng2 a b => { it := fun ρ st => ((den a).e ρ st).bind fun x st => ((den b).e ρ st).bind fun y st => ofO (rng2O x y) st }
  | .walk e => { it := fun ρ st => ((den e).e ρ st).bind fun x st => ofO (walkO x) st }
  | .lc own elt tg it ifs => .ofE (lcE (den it).it (den tg).g (den ifs).t (den elt).e (own.map (·.2)))
  | .pass => { s := fun ρ st => .ok (.nx ρ) st }
  | .expr e => { s := fun ρ st => ((den e).e ρ st).bind fun _ st => .ok (.nx ρ) st }
  | .ret e => { s := fun ρ st => ((den e).e ρ st).bind fun x st => if x.strict then .ok (.rt x) st else .stuck }
  | .retn => { s := fun _ st => .ok (.rt .non) st }
  | .asg tg e => { s := fun ρ st => ((den e).e ρ st).bind fun x st => ((den tg).g x ρ st).bind fun ρ' st => .ok (.nx ρ') st }
  | .aug i op e => { s := fun ρ st => match getV ρ i with
      | some x => ((den e).e ρ st).bind fun y st => (ofO (iopD op x y st) st).bind fun z st => if z.strict then .ok (.nx (ρ.set i (.val z))) st else .stuck
      | none => .stuck }
  | .asgLc i own elt tg it ifs => { s := fun ρ st => (lcE (den it).it (den tg).g (den ifs).t (den elt).e (own.map (·.2)) ρ st).bind fun x st => (if x.strict then R.ok (ρ.set i (.val x)) st else .stuck : R Env).bind fun ρ' st => .ok (.nx ρ') st }
  | .par2 i j a b => { s := fun ρ st => ((den a).e ρ st).bind fun u st => ((den b).e ρ st).bind fun v st => if u.strict && v.strict then .ok (.nx ((ρ.set i (.val u)).set j (.val v))) st else .stuck }
  | .par3 i j k a b c => { s := fun ρ st => ((den a).e ρ st).bind fun u st => ((den b).e ρ st).bind fun v st => ((den c).e ρ st).bind fun w st =>
      if u.strict && v.strict && w.strict then .ok (.nx (((ρ.set k (.val w)).set j (.val v)).set i (.val u))) st else .stuck }
  | .parC e tg => { s := fun ρ st => ((den e).e ρ st).bind fun x st => ((den tg).g x ρ st).bind fun ρ' st => .ok (.nx ρ') st }
  | .own i e => { s := fun ρ st => ((den e).l ρ st).bind fun xs st => if xs.all D.strict && decide (xs.length ≤ sizeLine) then .ok (.nx (ρ.set i (.own (.ml xs)))) st else .stuck }
  | .chg m i args => { s := fun ρ st => match ρ[i]? with
      | some (.own mo) => ((den args).l ρ st).bind fun xs st => (ofO (mutD m xs mo) st).bind fun mo' st => .ok (.nx (ρ.set i (.own mo'))) st
      | some (.val (.ref n)) => match st[n]? with
        | some _ => ((den args).l ρ st).bind fun xs st => (ofO (st[n]?.bind (mutD m xs)) st).bind fun mo' st => .ok (.nx ρ) (st.set n mo')
        | none => .stuck
      | _ => .stuck }
  | .frz i s => { s := fun ρ st => match ρ[i]? with
      | some (.own (.ml ds)) => (den s).s (ρ.set i (.val (.lst ds))) st
      | _ => .stuck }
  | .if_ c a b => { s := fun ρ st => ((den c).t ρ st).bind fun k st => if k then (den a).s ρ st else (den b).s ρ st }
  | .while_ n c b => { s := fun ρ st => whileD (den c).t (den b).s n ρ st }
  | .for_ tg it b => { s := fun ρ st => ((den it).it ρ st).bind fun xs st => forD (fun x ρ st => ((den tg).g x ρ st).bind fun ρ' st => (den b).s ρ' st) xs ρ st }
  | .brk => { s := fun ρ st => .ok (.bk ρ) st }
  | .cont => { s := fun ρ st => .ok (.ct ρ) st }
  | _ => {}
end

/-- a def: how many slots, its parameters, its body -/
structure Df where
  n : Nat
  ps : Nat
  body : I
/-- a def, called -/
def Df.run (Γ : Fns) (d : Df) (xs : List D) (st : Store) : R D :=
  if xs.length = d.ps then ((den Γ d.body).s (xs.map Slot.val ++ List.replicate (d.n - d.ps) .un) st).bind fun f st => match f with
    | .nx _ => .ok .non st
    | .rt d => .ok d st
    | _ => .stuck
  else .stuck
/-- the program's defs, k calls deep -/
def run (P : List Df) (C : Nat → D) : Nat → Nat → List D → Store → R D
  | 0 => fun _ _ _ => .stuck
  | k + 1 => fun f xs st => match P[f]? with
    | some d => d.run ⟨run P C k, C⟩ xs st
    | none => .stuck
end DL

set_option Elab.async false
set_option linter.all false
set_option maxRecDepth 100000
set_option maxHeartbeats 4000000
/-! readings by data -/
namespace DL
open PySem PySem.Spec L2

/-- the entry of a def -/
structure Ent where
  H : Hp
  Mt : Addr → Prop
  φ : List Addr

structure Ok (G : Gl) (e0 : Ent) (H : Hp) (Mt : Addr → Prop) (φ : List Addr) (ρ : Env) (σ : St) (st : Store) : Prop where
  st : StOk G H Mt φ st
  ext : Ext e0.Mt e0.φ e0.H Mt φ H
  len : σ.length = ρ.length
  sl : ∀ (i : Nat) (d : D), ρ[i]? = some (.val d) → ∃ x, σ[i]? = some (some x) ∧ RepV G H Mt φ d x
  ow : ∀ (i : Nat) (mo : MO), ρ[i]? = some (.own mo) → ∃ a, σ[i]? = some (some (.ref a)) ∧ Mt a ∧ a ∉ φ ∧ ¬ e0.Mt a ∧ RepO G H Mt φ a mo
  vw : ∀ (i : Nat) (ds : List D), ρ[i]? = some (.val (.vl ds)) → ∃ a, σ[i]? = some (some (.ref a)) ∧ e0.Mt a
  ap : ∀ (i j : Nat) (mo mo' : MO) (a : Addr), ρ[i]? = some (.own mo) → ρ[j]? = some (.own mo') → σ[i]? = some (some (.ref a)) → σ[j]? = some (some (.ref a)) → i = j

/-- an exception, as it lies: its class, what it keeps -/
def RepX (G : Gl) (H : Hp) (S : Addr → Prop) (φ : List Addr) (x : Exc) (cls : Value) (dx : Option Addr) : Prop := False

section
variable {G : Gl} {H H' H2 : Hp} {Mt Mt' Mt2 : Addr → Prop} {φ φ' φ2 : List Addr} {st st' : Store} {e0 : Ent} {ρ : Env} {σ : St}
theorem Ext.repO (e : Ext Mt φ H Mt' φ' H') (s : StOk G H Mt φ st) {a : Addr} {mo : MO} (n : a ∉ φ) (h : RepO G H Mt φ a mo) : RepO G H' Mt' φ' a mo := by
  cases mo with
  | ml ds =>
    obtain ⟨xs, h1, h2⟩ := h
    exact ⟨xs, e.keep a _ h1 n, (e.kp s).repL _ _ h2⟩
theorem RepO.ne_none {a : Addr} {mo : MO} (h : RepO G H Mt φ a mo) : H a ≠ none := by
  cases mo with
  | ml ds => obtain ⟨xs, h1, _⟩ := h; rw [h1]; exact fun z => nomatch z
theorem Ok.step (o : Ok G e0 H Mt φ ρ σ st) (e : Ext Mt φ H Mt' φ' H') (s : StOk G H' Mt' φ' st') : Ok G e0 H' Mt' φ' ρ σ st' where
  st := s
  ext := o.ext.trans e
  len := o.len
  sl := fun i d h => by
    obtain ⟨x, h1, h2⟩ := o.sl i d h
    exact ⟨x, h1, e.repV o.st h2⟩
  ow := fun i mo h => by
    obtain ⟨a, h1, h2, h3, h4, h5⟩ := o.ow i mo h
    exact ⟨a, h1, e.mt1 a h2, fun z => (e.new a z).elim h3 h5.ne_none, h4, e.repO o.st h3 h5⟩
  vw := o.vw
  ap := o.ap
end

/-! ### what is wanted of an end -/
section
variable (G : Gl) (W : WX) (σ : St) {α β : Type} (rel : Hp → (Addr → Prop) → List Addr → α → β → Prop)
def Po (Mt : Addr → Prop) (φ : List Addr) (H : Hp) (r : R α) (Q : β → Hp → Prop) : Prop := match r with
  | .stuck => False
  | .ok a st' => ∀ Mt' φ' H' b, Ext Mt φ H Mt' φ' H' → StOk G H' Mt' φ' st' → rel H' Mt' φ' a b → Q b H'
  | .exc x st' => ∀ Mt' φ' H' cls dx, Ext Mt φ H Mt' φ' H' → StOk G H' Mt' φ' st' → RepX G H' Mt' φ' x cls dx → W cls dx σ H'
end
section
variable {G : Gl} {W : WX} {σ : St} {α β α' β' : Type} {rel : Hp → (Addr → Prop) → List Addr → α → β → Prop} {rel' : Hp → (Addr → Prop) → List Addr → α' → β' → Prop}
  {H H' H2 : Hp} {Mt Mt' Mt2 : Addr → Prop} {φ φ' φ2 : List Addr} {st st' : Store}
theorem Po.ext {r : R α} {Q : β → Hp → Prop} (h : Po G W σ rel Mt φ H r Q) (e : Ext Mt φ H Mt' φ' H') : Po G W σ rel Mt' φ' H' r Q := by
  cases r with
  | stuck => exact h
  | ok a st1 => exact fun Mt2 φ2 H2 b e2 s r => h _ _ _ _ (e.trans e2) s r
  | exc x st1 => exact fun Mt2 φ2 H2 c d e2 s r => h _ _ _ _ _ (e.trans e2) s r
theorem Po.bind {r : R α} {k : α → Store → R α'} {Q : β' → Hp → Prop} (h : Po G W σ rel' Mt φ H (r.bind k) Q) :
    Po G W σ rel Mt φ H r fun b H1 => ∃ Mt1 φ1 st1 a, Ext Mt φ H Mt1 φ1 H1 ∧ StOk G H1 Mt1 φ1 st1 ∧ rel H1 Mt1 φ1 a b ∧ Po G W σ rel' Mt1 φ1 H1 (k a st1) Q := by
  cases r with
  | stuck => exact h
  | ok a st1 => exact fun Mt' φ' H' b e s r => ⟨Mt', φ', st1, a, e, s, r, Po.ext h e⟩
  | exc x st1 => exact h
theorem Po.mono {r : R α} {Q Q' : β → Hp → Prop} (h : Po G W σ rel Mt φ H r Q) (m : ∀ b H1, Q b H1 → Q' b H1) : Po G W σ rel Mt φ H r Q' := by
  cases r with
  | stuck => exact h
  | ok a st1 => exact fun Mt' φ' H' b e s r => m _ _ (h _ _ _ _ e s r)
  | exc x st1 => exact h
/-- an end that has come -/
theorem Po.here {a : α} {b : β} {Q : β → Hp → Prop} (h : Po G W σ rel Mt φ H (.ok a st) Q) (s : StOk G H Mt φ st) (r : rel H Mt φ a b) : Q b H := h _ _ _ _ Ext.refl s r
end

abbrev relE (G : Gl) : Hp → (Addr → Prop) → List Addr → D → V → Prop := fun H Mt φ d x => RepV G H Mt φ d x
def RepVL (G : Gl) (H : Hp) (Mt : Addr → Prop) (φ : List Addr) (ds : List D) (xs : List V) : Prop := Paired (RepV G H Mt φ) ds xs
abbrev relL (G : Gl) : Hp → (Addr → Prop) → List Addr → List D → List V → Prop := fun H Mt φ d x => RepVL G H Mt φ d x
abbrev relB : Hp → (Addr → Prop) → List Addr → Bool → Bool → Prop := fun _ _ _ a b => b = a
abbrev relO : Hp → (Addr → Prop) → List Addr → Option Int → Option Int → Prop := fun _ _ _ a b => b = a

theorem Ext.repVL {G : Gl} {H H' : Hp} {Mt Mt' : Addr → Prop} {φ φ' : List Addr} {st : Store} (e : Ext Mt φ H Mt' φ' H') (s : StOk G H Mt φ st) : ∀ {ds : List D} {xs : List V}, RepVL G H Mt φ ds xs → RepVL G H' Mt' φ' ds xs
  | _, _, .nil => .nil
  | _, _, .cons r t => .cons (e.repV s r) (Ext.repVL e s t)
theorem RepVL.strict {G : Gl} {H : Hp} {Mt : Addr → Prop} {φ : List Addr} : ∀ {ds : List D} {xs : List V}, RepVL G H Mt φ ds xs → ds.all D.strict = true → RepL G H Mt φ ds xs
  | _, _, .nil, _ => .nil
  | _, _, .cons r t, h => by
    rw [List.all_cons, Bool.and_eq_true] at h
    exact .cons (r.strict h.1) (RepVL.strict t h.2)

/-! ### readings -/
section
variable (G : Gl) (W : WX)
def tE (f : Env → Store → R D) : TE := fun σ H Q => ∃ e0 Mt φ ρ st, Ok G e0 H Mt φ ρ σ st ∧ Po G W σ (relE G) Mt φ H (f ρ st) Q
def tT (f : Env → Store → R Bool) : TT := fun σ H Q => ∃ e0 Mt φ ρ st, Ok G e0 H Mt φ ρ σ st ∧ Po G W σ relB Mt φ H (f ρ st) Q
def tL (f : Env → Store → R (List D)) : TA := fun σ H Q => ∃ e0 Mt φ ρ st, Ok G e0 H Mt φ ρ σ st ∧ Po G W σ (relL G) Mt φ H (f ρ st) Q
def tOi (f : Env → Store → R (Option Int)) : TO := fun σ H Q => ∃ e0 Mt φ ρ st, Ok G e0 H Mt φ ρ σ st ∧ Po G W σ relO Mt φ H (f ρ st) Q
end

/-- what a statement keeps of what does not change -/
structure Ks (Mt : Addr → Prop) (φ : List Addr) (H : Hp) (Mt' : Addr → Prop) (φ' : List Addr) (H' : Hp) : Prop extends Kp Mt φ H Mt' φ' H' where
  some : ∀ a, H a ≠ none → H' a ≠ none
section
variable {G : Gl} {H H' H2 : Hp} {Mt Mt' Mt2 : Addr → Prop} {φ φ' φ2 : List Addr} {st st' : Store}
theorem Ks.refl : Ks Mt φ H Mt φ H := ⟨⟨fun _ _ h _ => h, fun _ h => .inl h, [], by simp⟩, fun _ h => h⟩
theorem Ks.trans (a : Ks Mt φ H Mt' φ' H') (b : Ks Mt' φ' H' Mt2 φ2 H2) : Ks Mt φ H Mt2 φ2 H2 where
  keep := fun c u h n => b.keep c u (a.keep c u h n) fun z => (a.fresh c z).elim n (Rd.ne_none h)
  fresh := fun c z => (b.fresh c z).elim (a.fresh c) fun z => .inr (by
    cases e : H c with
    | none => rfl
    | some o => exact absurd z (a.some c (by rw [e]; exact fun z => nomatch z)))
  pre := by
    obtain ⟨l, rfl⟩ := a.pre
    obtain ⟨m, rfl⟩ := b.pre
    exact ⟨l ++ m, by rw [List.append_assoc]⟩
  some := fun c h => b.some c (a.some c h)
theorem Ext.ks (e : Ext Mt φ H Mt' φ' H') (s : StOk G H Mt φ st) : Ks Mt φ H Mt' φ' H' := ⟨e.kp s, e.some⟩
end

section
variable (G : Gl) (W : WX)
def PoS (e0 : Ent) (Mt : Addr → Prop) (φ : List Addr) (H : Hp) (D : Ends) : R Fl → Prop
  | .stuck => False
  | .ok (.nx ρ') st' => ∀ Mt' φ' H' σ', Ks Mt φ H Mt' φ' H' → Ok G e0 H' Mt' φ' ρ' σ' st' → D.nx σ' H'
  | .ok (.bk ρ') st' => ∀ Mt' φ' H' σ', Ks Mt φ H Mt' φ' H' → Ok G e0 H' Mt' φ' ρ' σ' st' → D.bk σ' H'
  | .ok (.ct ρ') st' => ∀ Mt' φ' H' σ', Ks Mt φ H Mt' φ' H' → Ok G e0 H' Mt' φ' ρ' σ' st' → D.ct σ' H'
  | .ok (.rt d) st' => ∀ Mt' φ' H' ρ' σ' v, Ks Mt φ H Mt' φ' H' → Ok G e0 H' Mt' φ' ρ' σ' st' → Rep G H' Mt' φ' d v → D.rt v H'
  | .exc x st' => ∀ Mt' φ' H' ρ' σ' cls dx, Ks Mt φ H Mt' φ' H' → Ok G e0 H' Mt' φ' ρ' σ' st' → RepX G H' Mt' φ' x cls dx → W cls dx σ' H'
def tS (f : Env → Store → R Fl) : TS := fun D σ H => ∃ e0 Mt φ ρ st, Ok G e0 H Mt φ ρ σ st ∧ PoS G W e0 Mt φ H D (f ρ st)
/-- slots are changed at these places alone -/
structure At (js : List Nat) (σ σ' : St) : Prop where
  len : σ'.length = σ.length
  same : ∀ j, j ∉ js → σ'[j]? = σ[j]?
/-- a target: the value is stored -/
def PoG (e0 : Ent) (js : List Nat) (σ : St) (Mt : Addr → Prop) (φ : List Addr) (H : Hp) (Q : St → Hp → Prop) : R Env → Prop
  | .stuck => False
  | .ok ρ' st' => ∀ Mt' φ' H' σ', Ext Mt φ H Mt' φ' H' → Ok G e0 H' Mt' φ' ρ' σ' st' → At js σ σ' → Q σ' H'
  | .exc x st' => ∀ Mt' φ' H' ρ' σ' cls dx, Ext Mt φ H Mt' φ' H' → Ok G e0 H' Mt' φ' ρ' σ' st' → RepX G H' Mt' φ' x cls dx → W cls dx σ' H'
def tG (js : List Nat) (f : D → Env → Store → R Env) : TG := fun v σ H Q => ∃ e0 Mt φ ρ st d, Ok G e0 H Mt φ ρ σ st ∧ RepV G H Mt φ d v ∧ PoG G W e0 js σ Mt φ H Q (f d ρ st)
def tGs (js : List Nat) (f : List D → Env → Store → R Env) : TGs := fun vs σ H Q => ∃ e0 Mt φ ρ st ds, Ok G e0 H Mt φ ρ σ st ∧ RepL G H Mt φ ds vs ∧ PoG G W e0 js σ Mt φ H Q (f ds ρ st)
end
theorem At.refl {js : List Nat} {σ : St} : At js σ σ := ⟨rfl, fun _ _ => rfl⟩
theorem At.trans {js ks : List Nat} {σ σ1 σ2 : St} (a : At js σ σ1) (b : At ks σ1 σ2) : At (js ++ ks) σ σ2 := ⟨b.len.trans a.len, fun j h =>
  (b.same j fun z => h (List.mem_append_right _ z)).trans (a.same j fun z => h (List.mem_append_left _ z))⟩
theorem At.set {σ : St} {i : Nat} {x : Option V} : At [i] σ (σ.set i x) := ⟨List.length_set, fun j h => by
    rw [List.getElem?_set_ne fun z => h (by rw [z]; exact List.mem_singleton_self j)]⟩

section
variable {X : Cx} {W : WX} {G : Gl}
/-! ### names, constants -/
theorem d_var {i : Nat} {x : Str} {pos : Pos} (hN : X.N[i]? = some x) (hv : Vis X.env.scope x) (hd : (x == ("__debug__" : Str)) = false) (hcd : (x == ("__classdict__" : Str)) = false) :
    PE X (.Name x pos) (tE G W fun ρ st => match getV ρ i with | some d => .ok d st | none => .stuck) := by
  refine ⟨fun pins s σ H Q I h => (pe_var hN hv hd hcd).run pins s σ H Q I ?_⟩
  obtain ⟨e0, Mt, φ, ρ, st, ok, h⟩ := h
  dsimp only [getV] at h
  cases e : ρ[i]? with
  | none => rw [e] at h; exact False.elim h
  | some sl =>
    rw [e] at h
    cases sl with
    | un => exact False.elim h
    | val d =>
      obtain ⟨v, h1, h2⟩ := ok.sl i d e
      exact ⟨v, h1, h.here ok.st h2⟩
    | own mo =>
      cases mo with
      | ml ds =>
        obtain ⟨a, h1, h2, h3, h4, xs, h5, h6⟩ := ok.ow i _ e
        exact ⟨_, h1, h.here ok.st ⟨a, xs, rfl, .inl h5, h3, h2, h6⟩⟩
theorem d_const {e : Expr} {v : V} {d : D} (h : PE X e (tC v)) (r : ∀ H Mt φ, Rep G H Mt φ d v) : PE X e (tE G W fun _ st => .ok d st) := by
  refine ⟨fun pins s σ H Q I q => h.run pins s σ H Q I ?_⟩
  obtain ⟨e0, Mt, φ, ρ, st, ok, q⟩ := q
  exact q.here ok.st (RepV.of (r _ _ _))

end

/-! ### readings made wider -/
theorem PE.imp {X : Cx} {e : Expr} {t t' : TE} (h : PE X e t) (i : ∀ σ H Q, t' σ H Q → t σ H Q) : PE X e t' := ⟨fun pins s σ H Q I q => h.run pins s σ H Q I (i _ _ _ q)⟩
theorem PT.imp {X : Cx} {e : Expr} {t t' : TT} (h : PT X e t) (i : ∀ σ H Q, t' σ H Q → t σ H Q) : PT X e t' := ⟨fun pins s σ H Q I q => h.run pins s σ H Q I (i _ _ _ q)⟩
theorem PW.imp {X : Cx} {e : Expr} {t t' : TT} (h : PW X e t) (i : ∀ σ H Q, t' σ H Q → t σ H Q) : PW X e t' := ⟨fun w pins s σ H Q I q => h.run w pins s σ H Q I (i _ _ _ q)⟩
theorem PA.imp {X : Cx} {e : List Expr} {t t' : TA} (h : PA X e t) (i : ∀ σ H Q, t' σ H Q → t σ H Q) : PA X e t' := ⟨fun p pins s σ H Q I q => h.run p pins s σ H Q I (i _ _ _ q)⟩
theorem PS.imp {X : Cx} {e : Stmt} {t t' : TS} (h : PS X e t) (i : ∀ D σ H, t' D σ H → t D σ H) : PS X e t' := ⟨fun pins s σ H D I q => h.run pins s σ H D I (i _ _ _ q)⟩
theorem PSs.imp {X : Cx} {e : List Stmt} {t t' : TS} (h : PSs X e t) (i : ∀ D σ H, t' D σ H → t D σ H) : PSs X e t' := ⟨fun pins s σ H D I q => h.run pins s σ H D I (i _ _ _ q)⟩

section
variable {G : Gl} {W : WX} {σ : St} {H : Hp} {e0 : Ent} {Mt : Addr → Prop} {φ : List Addr} {ρ : Env} {st : Store}
  {α β : Type} {rel : Hp → (Addr → Prop) → List Addr → α → β → Prop} {Q : β → Hp → Prop}
/-- an expression, a test, a row of arguments first, then what comes behind -/
theorem goE {f : Env → Store → R D} {k : D → Store → R α} (ok : Ok G e0 H Mt φ ρ σ st) (h : Po G W σ rel Mt φ H ((f ρ st).bind k) Q) {Q1 : V → Hp → Prop}
    (hk : ∀ H1 Mt1 φ1 st1 x d, Ok G e0 H1 Mt1 φ1 ρ σ st1 → Ext Mt φ H Mt1 φ1 H1 → RepV G H1 Mt1 φ1 d x → Po G W σ rel Mt1 φ1 H1 (k d st1) Q → Q1 x H1) : tE G W f σ H Q1 :=
  ⟨e0, Mt, φ, ρ, st, ok, h.bind.mono fun x H1 ⟨Mt1, φ1, st1, d, e1, s1, rd, q⟩ => hk H1 Mt1 φ1 st1 x d (ok.step e1 s1) e1 rd q⟩
theorem goT {f : Env → Store → R Bool} {k : Bool → Store → R α} (ok : Ok G e0 H Mt φ ρ σ st) (h : Po G W σ rel Mt φ H ((f ρ st).bind k) Q) {Q1 : Bool → Hp → Prop}
    (hk : ∀ H1 Mt1 φ1 st1 b, Ok G e0 H1 Mt1 φ1 ρ σ st1 → Ext Mt φ H Mt1 φ1 H1 → Po G W σ rel Mt1 φ1 H1 (k b st1) Q → Q1 b H1) : tT G W f σ H Q1 :=
  ⟨e0, Mt, φ, ρ, st, ok, h.bind.mono fun x H1 ⟨Mt1, φ1, st1, d, e1, s1, rd, q⟩ => by cases rd; exact hk H1 Mt1 φ1 st1 x (ok.step e1 s1) e1 q⟩
theorem goL {f : Env → Store → R (List D)} {k : List D → Store → R α} (ok : Ok G e0 H Mt φ ρ σ st) (h : Po G W σ rel Mt φ H ((f ρ st).bind k) Q) {Q1 : List V → Hp → Prop}
    (hk : ∀ H1 Mt1 φ1 st1 xs ds, Ok G e0 H1 Mt1 φ1 ρ σ st1 → Ext Mt φ H Mt1 φ1 H1 → RepVL G H1 Mt1 φ1 ds xs → Po G W σ rel Mt1 φ1 H1 (k ds st1) Q → Q1 xs H1) : tL G W f σ H Q1 :=
  ⟨e0, Mt, φ, ρ, st, ok, h.bind.mono fun x H1 ⟨Mt1, φ1, st1, d, e1, s1, rd, q⟩ => hk H1 Mt1 φ1 st1 x d (ok.step e1 s1) e1 rd q⟩
theorem goO {f : Env → Store → R (Option Int)} {k : Option Int → Store → R α} (ok : Ok G e0 H Mt φ ρ σ st) (h : Po G W σ rel Mt φ H ((f ρ st).bind k) Q) {Q1 : Option Int → Hp → Prop}
    (hk : ∀ H1 Mt1 φ1 st1 b, Ok G e0 H1 Mt1 φ1 ρ σ st1 → Ext Mt φ H Mt1 φ1 H1 → Po G W σ rel Mt1 φ1 H1 (k b st1) Q → Q1 b H1) : tOi G W f σ H Q1 :=
  ⟨e0, Mt, φ, ρ, st, ok, h.bind.mono fun x H1 ⟨Mt1, φ1, st1, d, e1, s1, rd, q⟩ => by cases rd; exact hk H1 Mt1 φ1 st1 x (ok.step e1 s1) e1 q⟩
end

/-! ### operations by values -/
/-- an answer that changes nothing that changes -/
def Ans (G : Gl) (Mt : Addr → Prop) (φ : List Addr) (H : Hp) (st : Store) (r : D) (Q : VK) : Prop := ∀ v H', Ext Mt φ H Mt φ H' → StOk G H' Mt φ st → RepV G H' Mt φ r v → Q v H'
def rOf (G : Gl) (f : D → D → Store → Option D) : R2 := fun x y H Q => ∃ Mt φ st d e r, StOk G H Mt φ st ∧ RepV G H Mt φ d x ∧ RepV G H Mt φ e y ∧ f d e st = some r ∧ Ans G Mt φ H st r Q
def uOf (G : Gl) (f : D → Store → Option D) : V → Hp → VK → Prop := fun x H Q => ∃ Mt φ st d r, StOk G H Mt φ st ∧ RepV G H Mt φ d x ∧ f d st = some r ∧ Ans G Mt φ H st r Q
def lOf (G : Gl) (f : List D → Store → Option D) : List V → Hp → VK → Prop := fun xs H Q => ∃ Mt φ st ds r, StOk G H Mt φ st ∧ RepVL G H Mt φ ds xs ∧ f ds st = some r ∧ Ans G Mt φ H st r Q
def mOf (G : Gl) (f : D → List D → Store → Option D) : V → List V → Hp → VK → Prop := fun x xs H Q => ∃ Mt φ st d ds r, StOk G H Mt φ st ∧ RepV G H Mt φ d x ∧ RepVL G H Mt φ ds xs ∧ f d ds st = some r ∧ Ans G Mt φ H st r Q
section
variable {G : Gl} {W : WX} {σ : St} {H : Hp} {Mt : Addr → Prop} {φ : List Addr} {st : Store}
/-- the wish of an end that is an answer -/
theorem Po.ans {o : Option D} {Q : VK} (h : Po G W σ (relE G) Mt φ H (ofO o st) Q) : ∃ r, o = some r ∧ Ans G Mt φ H st r Q := by
  cases o with
  | none => exact False.elim h
  | some r => exact ⟨r, rfl, fun v H' e s rv => h _ _ _ _ e s rv⟩
end

section
variable {X : Cx} {W : WX} {G : Gl}
variable {a b c : Expr} {fa fb fc : Env → Store → R D} {pos : Pos}
theorem d_bin {op : Operator} {f : D → D → Store → Option D} (ho : OpR X (binaryOp op) (rOf G f)) (ha : PE X a (tE G W fa)) (hb : PE X b (tE G W fb)) :
    PE X (.BinOp a op b pos) (tE G W fun ρ st => (fa ρ st).bind fun x st => (fb ρ st).bind fun y st => ofO (f x y st) st) := by
  refine PE.imp (pe_op ho ha hb) fun σ H Q ⟨e0, Mt, φ, ρ, st, ok, h⟩ => ?_
  refine goE ok h fun H1 Mt1 φ1 st1 x d ok1 e1 rd q => goE ok1 q fun H2 Mt2 φ2 st2 y e ok2 e2 re q => ?_
  obtain ⟨r, hr, an⟩ := q.ans
  exact ⟨Mt2, φ2, st2, d, e, r, ok2.st, e2.repV ok1.st rd, re, hr, an⟩
theorem d_un {op : UnaryOp} {f : D → Store → Option D} (ho : UnR X (unaryOp op) (uOf G f)) (ha : PE X a (tE G W fa)) :
    PE X (.UnaryOp op a pos) (tE G W fun ρ st => (fa ρ st).bind fun x st => ofO (f x st) st) := by
  refine PE.imp (pe_un ho ha) fun σ H Q ⟨e0, Mt, φ, ρ, st, ok, h⟩ => ?_
  refine goE ok h fun H1 Mt1 φ1 st1 x d ok1 e1 rd q => ?_
  obtain ⟨r, hr, an⟩ := q.ans
  exact ⟨Mt1, φ1, st1, d, r, ok1.st, rd, hr, an⟩
def bO (f : D → D → Store → Option Bool) : D → D → Store → Option D := fun x y st => (f x y st).map D.bl
theorem d_cmp {op : CmpOp} {f : D → D → Store → Option Bool} (ho : OpR X (compareOp op) (rOf G (bO f))) (ha : PE X a (tE G W fa)) (hb : PE X b (tE G W fb)) (hm : behindInMarks op b = false) :
    PE X (.Compare a [op] [b] pos) (tE G W fun ρ st => (fa ρ st).bind fun x st => (fb ρ st).bind fun y st => ofO ((f x y st).map D.bl) st) := by
  refine PE.imp (pe_cmpR ho ha hb hm) fun σ H Q ⟨e0, Mt, φ, ρ, st, ok, h⟩ => ?_
  refine goE ok h fun H1 Mt1 φ1 st1 x d ok1 e1 rd q => goE ok1 q fun H2 Mt2 φ2 st2 y e ok2 e2 re q => ?_
  obtain ⟨r, hr, an⟩ := q.ans
  exact ⟨Mt2, φ2, st2, d, e, r, ok2.st, e2.repV ok1.st rd, re, hr, an⟩
/-- a comparison's answer, as a value of its own kind -/
theorem bO_some {f : D → D → Store → Option Bool} {d e : D} {st : Store} {k : Bool} (h : f d e st = some k) : bO f d e st = some (.bl k) := by
  unfold bO; rw [h]; rfl
theorem Ans.ofB {H : Hp} {Mt : Addr → Prop} {φ : List Addr} {st : Store} {k : Bool} {Q : VK} (h : ∀ H', Ext Mt φ H Mt φ H' → StOk G H' Mt φ st → Q (.bl k) H') : Ans G Mt φ H st (.bl k) Q := fun v H' e s r => by
  have r' : v = .bl k := by
    have r2 : Rep G H' Mt φ (.bl k) v := r
    unfold Rep at r2
    exact r2
  subst r'
  exact h H' e s
theorem d_cmpT {op : CmpOp} {f : D → D → Store → Option Bool} (ho : OpR X (compareOp op) (rOf G (bO f))) (ha : PE X a (tE G W fa)) (hb : PE X b (tE G W fb)) (hm : behindInMarks op b = false) :
    PT X (.Compare a [op] [b] pos) (tT G W fun ρ st => ((fa ρ st).bind fun x st => (fb ρ st).bind fun y st => ofO ((f x y st).map D.bl) st).bind truR) := by
  refine PT.imp (pt_cmpR ho ha hb hm) fun σ H Q ⟨e0, Mt, φ, ρ, st, ok, h⟩ => ?_
  have h1 : Po G W σ relB Mt φ H ((fa ρ st).bind fun x st => (fb ρ st).bind fun y st => (ofO ((f x y st).map D.bl) st).bind truR) Q := by
    dsimp only at h
    rw [R.bind_bind] at h
    simp only [R.bind_bind] at h
    exact h
  refine goE ok h1 fun H1 Mt1 φ1 st1 x d ok1 e1 rd q => goE ok1 q fun H2 Mt2 φ2 st2 y e ok2 e2 re q => ?_
  cases hr : f d e st2 with
  | none => rw [hr] at q; exact False.elim q
  | some k =>
    rw [hr] at q
    refine ⟨Mt2, φ2, st2, d, e, .bl k, ok2.st, e2.repV ok1.st rd, re, bO_some hr, Ans.ofB fun H' e3 s3 => ⟨k, rfl, ?_⟩⟩
    exact Po.here (st := st2) (Po.ext q e3) s3 rfl
end
end DL

set_option Elab.async false
set_option linter.all false
set_option maxRecDepth 100000
set_option maxHeartbeats 4000000
/-! rules of expressions -/
namespace DL
open PySem PySem.Spec L2

section
variable {X : Cx} {W : WX} {G : Gl}
variable {a b c : Expr} {fa fb fc : Env → Store → R D} {pos : Pos}
theorem Po.toBind {α β γ δ : Type} {rel : Hp → (Addr → Prop) → List Addr → α → β → Prop} {σ : St} {Mt : Addr → Prop} {φ : List Addr} {H : Hp} {Q : β → Hp → Prop} {r : R γ} {f : γ → Store → R δ} {g : δ → Store → R α}
    (h : Po G W σ rel Mt φ H ((r.bind f).bind g) Q) : Po G W σ rel Mt φ H (r.bind fun a st => (f a st).bind g) Q := by rw [R.bind_bind] at h; exact h

theorem repBl {H : Hp} {S : Addr → Prop} {φ : List Addr} {k : Bool} {x : V} (h : RepV G H S φ (.bl k) x) : x = .bl k := by
  have r2 : Rep G H S φ (.bl k) x := h
  unfold Rep at r2
  exact r2
theorem mkBl {H : Hp} {S : Addr → Prop} {φ : List Addr} {k : Bool} : RepV G H S φ (.bl k) (.bl k) := by unfold RepV; unfold Rep; rfl
theorem d_chain {op op' : CmpOp} {f f' : D → D → Store → Option Bool} (ho : OpR X (compareOp op) (rOf G (bO f))) (ho' : OpR X (compareOp op') (rOf G (bO f'))) (ha : PE X a (tE G W fa)) (hb : PE X b (tE G W fb)) (hc : PE X c (tE G W fc))
    (hm : lastMarks [op, op'] [b, c] = false) :
    PE X (.Compare a [op, op'] [b, c] pos) (tE G W fun ρ st => (fa ρ st).bind fun x st => (fb ρ st).bind fun y st => (ofO (f x y st) st).bind fun r st => if r then (fc ρ st).bind fun z st => ofO ((f' y z st).map D.bl) st else .ok (.bl false) st) := by
  refine PE.imp (pe_chain ho ho' ha hb hc hm) fun σ H Q ⟨e0, Mt, φ, ρ, st, ok, h⟩ => ?_
  refine goE ok h fun H1 Mt1 φ1 st1 x d ok1 e1 rd q => goE ok1 q fun H2 Mt2 φ2 st2 y e ok2 e2 re q => ?_
  cases hr : f d e st2 with
  | none => rw [hr] at q; exact False.elim q
  | some k =>
    rw [hr] at q
    refine ⟨Mt2, φ2, st2, d, e, .bl k, ok2.st, e2.repV ok1.st rd, re, bO_some hr, Ans.ofB fun H' e3 s3 => ⟨k, rfl, ?_⟩⟩
    have ok3 := ok2.step e3 s3
    cases k with
    | false =>
      rw [if_neg Bool.false_ne_true]
      exact Po.here (Po.ext q e3) s3 mkBl
    | true =>
      rw [if_pos rfl]
      have q' : Po G W σ (relE G) Mt2 φ2 H' ((fc ρ st2).bind fun z st => ofO ((f' e z st).map D.bl) st) Q := Po.ext q e3
      refine goE ok3 q' fun H4 Mt4 φ4 st4 z g ok4 e4 rg q => ?_
      obtain ⟨r, hr, an⟩ := q.ans
      exact ⟨Mt4, φ4, st4, e, g, r, ok4.st, (e3.trans e4).repV ok2.st re, rg, hr, an⟩
theorem d_chainT {op op' : CmpOp} {f f' : D → D → Store → Option Bool} (ho : OpR X (compareOp op) (rOf G (bO f))) (ho' : OpR X (compareOp op') (rOf G (bO f'))) (ha : PE X a (tE G W fa)) (hb : PE X b (tE G W fb)) (hc : PE X c (tE G W fc))
    (hm : lastMarks [op, op'] [b, c] = false) :
    PT X (.Compare a [op, op'] [b, c] pos) (tT G W fun ρ st => ((fa ρ st).bind fun x st => (fb ρ st).bind fun y st => (ofO (f x y st) st).bind fun r st => if r then (fc ρ st).bind fun z st => ofO ((f' y z st).map D.bl) st else .ok (.bl false) st).bind truR) := by
  refine PT.imp (pt_chain ho ho' ha hb hc hm) fun σ H Q ⟨e0, Mt, φ, ρ, st, ok, h⟩ => ?_
  refine goE ok h.toBind fun H1 Mt1 φ1 st1 x d ok1 e1 rd q => goE ok1 q.toBind fun H2 Mt2 φ2 st2 y e ok2 e2 re q => ?_
  cases hr : f d e st2 with
  | none => rw [hr] at q; exact False.elim q
  | some k =>
    rw [hr] at q
    refine ⟨Mt2, φ2, st2, d, e, .bl k, ok2.st, e2.repV ok1.st rd, re, bO_some hr, Ans.ofB fun H' e3 s3 => ⟨k, rfl, ?_⟩⟩
    have ok3 := ok2.step e3 s3
    cases k with
    | false =>
      rw [if_neg Bool.false_ne_true]
      exact ⟨false, rfl, Po.here (st := st2) (Po.ext q e3) s3 rfl⟩
    | true =>
      rw [if_pos rfl]
      have q' : Po G W σ relB Mt2 φ2 H' (((fc ρ st2).bind fun z st => ofO ((f' e z st).map D.bl) st).bind truR) Q := Po.ext q e3
      refine goE ok3 q'.toBind fun H4 Mt4 φ4 st4 z g ok4 e4 rg q => ?_
      cases hr' : f' e g st4 with
      | none => rw [hr'] at q; exact False.elim q
      | some k' =>
        rw [hr'] at q
        exact ⟨Mt4, φ4, st4, e, g, .bl k', ok4.st, (e3.trans e4).repV ok2.st re, rg, bO_some hr', Ans.ofB fun H5 e5 s5 => ⟨k', rfl, Po.here (st := st4) (Po.ext q e5) s5 rfl⟩⟩

/-! ### and, or, not, if -/
variable {ga gb gc : Env → Store → R Bool} {rest : List Expr}
theorem d_one {op} (h : PE X a (tE G W fa)) : PE X (.BoolOp op [a] pos) (tE G W fa) := pe_one h
theorem d_and (ha : PE X a (tE G W fa)) (hb : PE X (.BoolOp .And (b :: rest) pos) (tE G W fb)) :
    PE X (.BoolOp .And (a :: b :: rest) pos) (tE G W fun ρ st => (fa ρ st).bind fun x st => match x with | .bl true => fb ρ st | .bl false => .ok (.bl false) st | _ => .stuck) := by
  refine PE.imp (pe_and ha hb) fun σ H Q ⟨e0, Mt, φ, ρ, st, ok, h⟩ => ?_
  refine goE ok h fun H1 Mt1 φ1 st1 x d ok1 e1 rd q => ?_
  cases d with
  | bl k =>
    refine ⟨k, repBl rd, ?_⟩
    cases k with
    | true => rw [if_pos rfl]; exact ⟨e0, Mt1, φ1, ρ, st1, ok1, q⟩
    | false => rw [if_neg Bool.false_ne_true]; exact q.here ok1.st mkBl
  | _ => exact False.elim q
theorem d_or (ha : PE X a (tE G W fa)) (hb : PE X (.BoolOp .Or (b :: rest) pos) (tE G W fb)) :
    PE X (.BoolOp .Or (a :: b :: rest) pos) (tE G W fun ρ st => (fa ρ st).bind fun x st => match x with | .bl false => fb ρ st | .bl true => .ok (.bl true) st | _ => .stuck) := by
  refine PE.imp (pe_or ha hb) fun σ H Q ⟨e0, Mt, φ, ρ, st, ok, h⟩ => ?_
  refine goE ok h fun H1 Mt1 φ1 st1 x d ok1 e1 rd q => ?_
  cases d with
  | bl k =>
    refine ⟨k, repBl rd, ?_⟩
    cases k with
    | false => rw [if_neg Bool.false_ne_true]; exact ⟨e0, Mt1, φ1, ρ, st1, ok1, q⟩
    | true => rw [if_pos rfl]; exact q.here ok1.st mkBl
  | _ => exact False.elim q
theorem d_not (ha : PE X a (tE G W fa)) :
    PE X (.UnaryOp .Not a pos) (tE G W fun ρ st => (fa ρ st).bind fun x st => match x with | .bl k => .ok (.bl (!k)) st | _ => .stuck) := by
  refine PE.imp (pe_not ha) fun σ H Q ⟨e0, Mt, φ, ρ, st, ok, h⟩ => ?_
  refine goE ok h fun H1 Mt1 φ1 st1 x d ok1 e1 rd q => ?_
  cases d with
  | bl k => exact ⟨k, repBl rd, q.here ok1.st mkBl⟩
  | _ => exact False.elim q
theorem d_ife (hc : PT X c (tT G W gc)) (ha : PE X a (tE G W fa)) (hb : PE X b (tE G W fb)) :
    PE X (.IfExp c a b pos) (tE G W fun ρ st => (gc ρ st).bind fun k st => if k then fa ρ st else fb ρ st) := by
  refine PE.imp (pe_ifExp hc ha hb) fun σ H Q ⟨e0, Mt, φ, ρ, st, ok, h⟩ => ?_
  refine goT ok h fun H1 Mt1 φ1 st1 k ok1 e1 q => ?_
  cases k with
  | true => rw [if_pos rfl]; exact ⟨e0, Mt1, φ1, ρ, st1, ok1, q⟩
  | false => rw [if_neg Bool.false_ne_true]; exact ⟨e0, Mt1, φ1, ρ, st1, ok1, q⟩
theorem d_oneW {op} (h : PT X a (tT G W ga)) : PW X (.BoolOp op [a] pos) (tT G W ga) := by
  cases op
  · exact pw_and1 h
  · exact pw_or1 h
theorem d_andW (ha : PT X a (tT G W ga)) (hb : PW X (.BoolOp .And (b :: rest) pos) (tT G W gb)) :
    PW X (.BoolOp .And (a :: b :: rest) pos) (tT G W fun ρ st => (ga ρ st).bind fun k st => if k then gb ρ st else .ok false st) := by
  refine PW.imp (pw_and ha hb) fun σ H Q ⟨e0, Mt, φ, ρ, st, ok, h⟩ => ?_
  refine goT ok h fun H1 Mt1 φ1 st1 k ok1 e1 q => ?_
  cases k with
  | true => rw [if_pos rfl]; exact ⟨e0, Mt1, φ1, ρ, st1, ok1, q⟩
  | false => rw [if_neg Bool.false_ne_true]; exact Po.here (st := st1) q ok1.st rfl
theorem d_orW (ha : PT X a (tT G W ga)) (hb : PW X (.BoolOp .Or (b :: rest) pos) (tT G W gb)) :
    PW X (.BoolOp .Or (a :: b :: rest) pos) (tT G W fun ρ st => (ga ρ st).bind fun k st => if k then .ok true st else gb ρ st) := by
  refine PW.imp (pw_or ha hb) fun σ H Q ⟨e0, Mt, φ, ρ, st, ok, h⟩ => ?_
  refine goT ok h fun H1 Mt1 φ1 st1 k ok1 e1 q => ?_
  cases k with
  | true => rw [if_pos rfl]; exact Po.here (st := st1) q ok1.st rfl
  | false => rw [if_neg Bool.false_ne_true]; exact ⟨e0, Mt1, φ1, ρ, st1, ok1, q⟩
theorem d_notT (ha : PT X a (tT G W ga)) : PT X (.UnaryOp .Not a pos) (tT G W fun ρ st => (ga ρ st).bind fun k st => .ok (!k) st) := by
  refine PT.imp (pt_not ha) fun σ H Q ⟨e0, Mt, φ, ρ, st, ok, h⟩ => ?_
  exact goT ok h fun H1 Mt1 φ1 st1 k ok1 e1 q => Po.here (st := st1) q ok1.st rfl

/-! ### what lies behind data -/
/-- a list or a tuple that is read -/
theorem seq_at {H : Hp} {Mt : Addr → Prop} {φ : List Addr} {st : Store} {d : D} {x : V} {ds : List D} (s : StOk G H Mt φ st) (r : RepV G H Mt φ d x) (h : seqOf st d = some ds) :
    ∃ p xs, x = .ref p ∧ RepL G H Mt φ ds xs ∧ ((isTup d = true ∧ SqT G.K H p xs) ∨ (isTup d = false ∧ SqL G.K H p xs)) := by
  cases d with
  | tup es =>
    have e : es = ds := Option.some.inj h
    subst e
    have r' : Rep G H Mt φ (.tup es) x := r
    unfold Rep at r'
    obtain ⟨p, xs, e, h1, h2⟩ := r'
    exact ⟨p, xs, e, h2, .inl ⟨rfl, h1.sq⟩⟩
  | lst es =>
    have e : es = ds := Option.some.inj h
    subst e
    have r' : Rep G H Mt φ (.lst es) x := r
    unfold Rep at r'
    obtain ⟨p, xs, e, h1, h2⟩ := r'
    exact ⟨p, xs, e, h2, .inr ⟨rfl, h1.sq⟩⟩
  | vl es =>
    have e : es = ds := Option.some.inj h
    subst e
    obtain ⟨p, xs, e, h1, h2, _, h3⟩ := r
    exact ⟨p, xs, e, h3, .inr ⟨rfl, .inl h1⟩⟩
  | ref n =>
    have r' : Rep G H Mt φ (.ref n) x := r
    unfold Rep at r'
    obtain ⟨p, h1, e⟩ := r'
    unfold seqOf at h
    dsimp only at h
    cases q : st[n]? with
    | none => rw [q] at h; cases h
    | some mo =>
      rw [q] at h
      cases mo with
      | ml es =>
        have e2 : es = ds := Option.some.inj h
        subst e2
        obtain ⟨xs, h2, h3⟩ := s.rep n p _ h1 q
        exact ⟨p, xs, e, h3, .inr ⟨rfl, .inl (.inl h2)⟩⟩
  | _ => cases h
theorem isEmpty_rep {H : Hp} {S : Addr → Prop} {φ : List Addr} {ds : List D} {xs : List V} (r : RepL G H S φ ds xs) : xs.isEmpty = ds.isEmpty := by
  have := r.length
  cases ds <;> cases xs <;> first | rfl | simp at this
theorem tru_at (hK : X.K = G.K) {H : Hp} {Mt : Addr → Prop} {φ : List Addr} {st : Store} {d : D} {x : V} {k : Bool} (s : StOk G H Mt φ st) (r : RepV G H Mt φ d x) (h : truD st d = some k) : TruV X.K x H k := by
  rw [hK]
  have sq : ∀ ds, seqOf st d = some ds → k = !ds.isEmpty → TruV G.K x H k := fun ds h1 h2 => by
    obtain ⟨p, xs, rfl, h3, h4⟩ := seq_at s r h1
    subst h2
    rcases h4 with ⟨_, h4⟩ | ⟨_, h4⟩
    · exact .inr (.inl ⟨xs, h4, by rw [isEmpty_rep h3]⟩)
    · exact .inl ⟨xs, h4, by rw [isEmpty_rep h3]⟩
  cases d with
  | non =>
    have r' : Rep G H Mt φ .non x := r
    unfold Rep at r'
    subst r'
    exact (Option.some.inj h).symm
  | bl b =>
    have r' : Rep G H Mt φ (.bl b) x := r
    unfold Rep at r'
    subst r'
    exact (Option.some.inj h).symm
  | int i =>
    have r' : Rep G H Mt φ (.int i) x := r
    unfold Rep at r'
    subst r'
    exact (Option.some.inj h).symm
  | str y =>
    have r' : Rep G H Mt φ (.str y) x := r
    unfold Rep at r'
    subst r'
    unfold truD at h
    dsimp only at h
    by_cases z : y.length ≤ sizeLine
    · rw [if_pos z] at h; exact ⟨z, (Option.some.inj h).symm⟩
    · rw [if_neg z] at h; cases h
  | fn f => cases h
  | dic ks es => cases h
  | tup es => exact sq es rfl (Option.some.inj h).symm
  | lst es => exact sq es rfl (Option.some.inj h).symm
  | vl es => exact sq es rfl (Option.some.inj h).symm
  | ref n =>
    have h' : (seqOf st (.ref n)).map (fun ds => !ds.isEmpty) = some k := h
    cases q : seqOf st (.ref n) with
    | none => rw [q] at h'; cases h'
    | some es => rw [q] at h'; exact sq es q (Option.some.inj h').symm
/-- an expression's truth -/
theorem d_truth (hK : X.K = G.K) (ha : PE X a (tE G W fa)) (he : ∀ whole, isTrue a X.env whole = (do let v ← whole; standAt a.pos; holding [v] (truthy v))) : PT X a (tT G W fun ρ st => (fa ρ st).bind truR) := by
  refine PT.imp (pt_truth ha he) fun σ H Q ⟨e0, Mt, φ, ρ, st, ok, h⟩ => ?_
  refine goE ok h fun H1 Mt1 φ1 st1 x d ok1 e1 rd q => ?_
  unfold truR at q
  cases hk : truD st1 d with
  | none => rw [hk] at q; exact False.elim q
  | some k =>
    rw [hk] at q
    exact ⟨k, tru_at hK ok1.st rd hk, Po.here (st := st1) q ok1.st rfl⟩

/-! ### rows of arguments, displays -/
variable {es : List Expr} {fl : Env → Store → R (List D)}
theorem d_nil : PA X [] (tL G W fun _ st => .ok [] st) := PA.imp pa_nil fun σ H Q ⟨e0, Mt, φ, ρ, st, ok, h⟩ => h.here ok.st .nil
theorem d_cons (ha : PE X a (tE G W fa)) (hr : PA X es (tL G W fl)) (hs : starEach (a :: es) X.env = (false, eval a X.env) :: starEach es X.env) :
    PA X (a :: es) (tL G W fun ρ st => (fa ρ st).bind fun x st => (fl ρ st).bind fun xs st => .ok (x :: xs) st) := by
  refine PA.imp (pa_cons ha hr hs) fun σ H Q ⟨e0, Mt, φ, ρ, st, ok, h⟩ => ?_
  refine goE ok h fun H1 Mt1 φ1 st1 x d ok1 e1 rd q => goL ok1 q fun H2 Mt2 φ2 st2 xs ds ok2 e2 rds q => ?_
  exact q.here ok2.st (.cons (e2.repV ok1.st rd) rds)
theorem d_tup {x1} (h : PA X es (tL G W fl)) : PE X (.Tuple es x1 pos) (tE G W fun ρ st => (fl ρ st).bind fun xs st => if xs.all D.strict && decide (xs.length ≤ sizeLine) then .ok (.tup xs) st else .stuck) := by
  refine PE.imp (pe_tup h) fun σ H Q ⟨e0, Mt, φ, ρ, st, ok, h⟩ => ?_
  refine goL ok h fun H1 Mt1 φ1 st1 xs ds ok1 e1 rd q => ?_
  split at q
  · rename_i hz
    rw [Bool.and_eq_true] at hz
    have rl := rd.strict hz.1
    refine ⟨by rw [rl.length]; exact of_decide_eq_true hz.2, fun p hp => ?_⟩
    have e2 : Ext Mt1 φ1 H1 Mt1 φ1 (upd H1 p (.tup xs)) := Ext.laid hp
    refine q _ _ _ _ e2 (ok1.st.laid hp) ?_
    refine RepV.of ?_
    unfold Rep
    exact ⟨p, xs, rfl, .inl ⟨.inl upd_same, ok1.st.notMt hp⟩, e2.repL ok1.st rl⟩
  · exact False.elim q
theorem d_lst (h : PA X es (tL G W fl)) : PE X (.List es pos) (tE G W fun ρ st => (fl ρ st).bind fun xs st => if xs.all D.strict && decide (xs.length ≤ sizeLine) then .ok (.lst xs) st else .stuck) := by
  refine PE.imp (pe_lst h) fun σ H Q ⟨e0, Mt, φ, ρ, st, ok, h⟩ => ?_
  refine goL ok h fun H1 Mt1 φ1 st1 xs ds ok1 e1 rd q => ?_
  split at q
  · rename_i hz
    rw [Bool.and_eq_true] at hz
    have rl := rd.strict hz.1
    refine ⟨by rw [rl.length]; exact of_decide_eq_true hz.2, fun p hp => ?_⟩
    have e2 : Ext Mt1 φ1 H1 Mt1 φ1 (upd H1 p (.lst xs)) := Ext.laid hp
    refine q _ _ _ _ e2 (ok1.st.laid hp) ?_
    refine RepV.of ?_
    unfold Rep
    exact ⟨p, xs, rfl, .inl ⟨.inl upd_same, ok1.st.notMt hp⟩, e2.repL ok1.st rl⟩
  · exact False.elim q
/-- a new changing object -/
theorem Ext.alloc {Mt : Addr → Prop} {φ : List Addr} {H : Hp} {p : Addr} {o : HO} (hp : H p = none) : Ext Mt φ H (fun a => Mt a ∨ a = p) (φ ++ [p]) (upd H p o) where
  pre := ⟨[p], rfl⟩
  keep := fun a u h _ => by rw [upd_ne (ne_of_none h hp)]; exact h
  some := fun a h => by
    by_cases e : a = p
    · subst e; rw [upd_same]; exact fun z => nomatch z
    · rw [upd_ne e]; exact h
  mt1 := fun _ h => .inl h
  mt2 := fun a h => h.imp id fun z => by rw [z]; exact hp
  new := fun a h => by
    rcases List.mem_append.mp h with z | z
    · exact .inl z
    · rw [List.mem_singleton.mp z]; exact .inr hp
theorem StOk.alloc {Mt : Addr → Prop} {φ : List Addr} {H : Hp} {st : Store} {p : Addr} {xs : List V} {ds : List D} (s : StOk G H Mt φ st) (hp : H p = none) (r : RepL G H Mt φ ds xs) :
    StOk G (upd H p (.lst xs)) (fun a => Mt a ∨ a = p) (φ ++ [p]) (st ++ [.ml ds]) where
  len := by rw [List.length_append, List.length_append, s.len]; rfl
  nd := by
    rw [List.nodup_append]
    refine ⟨s.nd, by simp, fun a ha b hb => ?_⟩
    rw [List.mem_singleton.mp hb]
    exact fun z => s.mtH _ (s.mt _ (z ▸ ha)) hp
  mt := fun a h => (List.mem_append.mp h).imp (s.mt a) fun z => List.mem_singleton.mp z
  mtH := fun a h => by
    rcases h with h | h
    · exact (Ext.alloc (o := .lst xs) (Mt := Mt) (φ := φ) hp).some a (s.mtH a h)
    · rw [h, upd_same]; exact fun z => nomatch z
  rep := fun n a mo h1 h2 => by
    have k : Kp Mt φ H (fun a => Mt a ∨ a = p) (φ ++ [p]) (upd H p (.lst xs)) := (Ext.alloc hp).kp s
    by_cases hn : n < φ.length
    · rw [List.getElem?_append_left hn] at h1
      rw [List.getElem?_append_left (by rw [← s.len]; exact hn)] at h2
      refine (s.rep n a mo h1 h2).kp k (upd_ne fun z => ?_)
      subst z
      exact s.mtH _ (s.mt _ (List.mem_of_getElem? h1)) hp
    · rw [List.getElem?_append_right (by omega)] at h1
      rw [List.getElem?_append_right (by rw [← s.len]; omega)] at h2
      rw [← s.len] at h2
      obtain ⟨m, hm⟩ : ∃ m, n - φ.length = m := ⟨_, rfl⟩
      rw [hm] at h1 h2
      cases m with
      | zero =>
        simp at h1 h2
        subst h1 h2
        exact ⟨xs, upd_same, k.repL _ _ r⟩
      | succ m => simp at h1
theorem d_lstS (h : PA X es (tL G W fl)) : PE X (.List es pos) (tE G W fun ρ st => (fl ρ st).bind fun xs st => if xs.all D.strict && decide (xs.length ≤ sizeLine) then .ok (.ref st.length) (st ++ [.ml xs]) else .stuck) := by
  refine PE.imp (pe_lst h) fun σ H Q ⟨e0, Mt, φ, ρ, st, ok, h⟩ => ?_
  refine goL ok h fun H1 Mt1 φ1 st1 xs ds ok1 e1 rd q => ?_
  split at q
  · rename_i hz
    rw [Bool.and_eq_true] at hz
    have rl := rd.strict hz.1
    refine ⟨by rw [rl.length]; exact of_decide_eq_true hz.2, fun p hp => ?_⟩
    refine q _ _ _ _ (Ext.alloc hp) (ok1.st.alloc hp rl) ?_
    refine RepV.of ?_
    unfold Rep
    refine ⟨p, ?_, rfl⟩
    rw [← ok1.st.len, List.getElem?_append_right (Nat.le_refl _)]
    simp
  · exact False.elim q

/-! ### subscripts, builtins -/
variable {i : Expr}
theorem d_ix {f : D → D → Store → Option D} (ho : IxR X (rOf G f)) (ha : PE X a (tE G W fa)) (hb : PE X b (tE G W fb)) (hs : PlainIx b) :
    PE X (.Subscript a b pos) (tE G W fun ρ st => (fa ρ st).bind fun x st => (fb ρ st).bind fun y st => ofO (f x y st) st) := by
  refine PE.imp (pe_ix ho ha hb hs) fun σ H Q ⟨e0, Mt, φ, ρ, st, ok, h⟩ => ?_
  refine goE ok h fun H1 Mt1 φ1 st1 x d ok1 e1 rd q => goE ok1 q fun H2 Mt2 φ2 st2 y e ok2 e2 re q => ?_
  obtain ⟨r, hr, an⟩ := q.ans
  exact ⟨Mt2, φ2, st2, d, e, r, ok2.st, e2.repV ok1.st rd, re, hr, an⟩
theorem atI_rep {H : Hp} {S : Addr → Prop} {φ : List Addr} {ds : List D} {xs : List V} {i : Int} {d : D} (r : RepL G H S φ ds xs) (h : atI ds i = some d) : ∃ x, atI xs i = some x ∧ Rep G H S φ d x := by
  unfold atI at h ⊢
  rw [r.length]
  cases e : ixN ds.length i with
  | none => rw [e] at h; cases h
  | some j =>
    rw [e] at h
    exact r.get h
theorem Ans.same {H : Hp} {Mt : Addr → Prop} {φ : List Addr} {st : Store} {r : D} {Q : VK} {v : V} (an : Ans G Mt φ H st r Q) (s : StOk G H Mt φ st) (h : RepV G H Mt φ r v) : Q v H := an v H Ext.refl s h
theorem o_ix (hK : X.K = G.K) : IxR X (rOf G ixD) := by
  intro value slice pins s σ H x y v u Q I rx ry h hs
  obtain ⟨Mt, φ, st, d, e, r, s0, rd, re, hr, an⟩ := h
  unfold ixD at hr
  cases e with
  | int i =>
    have re' : Rep G H Mt φ (.int i) y := re
    unfold Rep at re'
    subst re'
    cases hq : seqOf st d with
    | none => rw [hq] at hr; cases hr
    | some ds =>
      rw [hq] at hr
      obtain ⟨p, xs, rfl, h1, h2⟩ := seq_at s0 rd hq
      obtain ⟨z, hz, rz⟩ := atI_rep h1 hr
      refine ix_seq value slice pins s σ H _ _ v u Q I rx ry ?_ hs
      rw [hK]
      rcases h2 with ⟨_, h2⟩ | ⟨_, h2⟩
      · exact .inr (.inl ⟨p, xs, i, z, rfl, rfl, h2, hz, an.same s0 (RepV.of rz)⟩)
      · exact .inl ⟨p, xs, i, z, rfl, rfl, h2, hz, an.same s0 (RepV.of rz)⟩
  | _ => cases hr
theorem d_callB {id : String} {x : Str} {f : List D → Store → Option D} {p : Pos} (hc : CallR X (.builtin id) (lOf G f)) (hg : L2.Gl X x) (hm : X.mg x = none) (hv : bootBuiltins x = some (.builtin id)) (ha : PA X (a :: es) (tL G W fl))
    (hn : x ≠ "__name__") (hdb : (x == ("__debug__" : Str)) = false) (he : starEach (a :: es) X.env = (false, eval a X.env) :: starEach es X.env) (hpl : (backTo pos (starEach es X.env)).any (·.1) = false) :
    PE X (.Call (.Name x p) (a :: es) [] pos) (tE G W fun ρ st => (fl ρ st).bind fun xs st => ofO (f xs st) st) := by
  refine PE.imp (pe_callB hc hg hm hv ha hn hdb he hpl) fun σ H Q ⟨e0, Mt, φ, ρ, st, ok, h⟩ => ?_
  refine goL ok h fun H1 Mt1 φ1 st1 xs ds ok1 e1 rd q => ?_
  obtain ⟨r, hr, an⟩ := q.ans
  exact ⟨Mt1, φ1, st1, ds, r, ok1.st, rd, hr, an⟩
theorem d_callTy {T : String} {x : Str} {f : List D → Store → Option D} {p : Pos} (hc : CallR X (.type T) (lOf G f)) (hg : L2.Gl X x) (hm : X.mg x = none) (hv : bootBuiltins x = some (.type T)) (ha : PA X (a :: es) (tL G W fl))
    (hn : x ≠ "__name__") (hdb : (x == ("__debug__" : Str)) = false) (he : starEach (a :: es) X.env = (false, eval a X.env) :: starEach es X.env) (hpl : (backTo pos (starEach es X.env)).any (·.1) = false) :
    PE X (.Call (.Name x p) (a :: es) [] pos) (tE G W fun ρ st => (fl ρ st).bind fun xs st => ofO (f xs st) st) := by
  refine PE.imp (pe_callTy hc hg hm hv ha hn hdb he hpl) fun σ H Q ⟨e0, Mt, φ, ρ, st, ok, h⟩ => ?_
  refine goL ok h fun H1 Mt1 φ1 st1 xs ds ok1 e1 rd q => ?_
  obtain ⟨r, hr, an⟩ := q.ans
  exact ⟨Mt1, φ1, st1, ds, r, ok1.st, rd, hr, an⟩
end
end DL

set_option Elab.async false
set_option linter.all false
set_option maxRecDepth 100000
set_option maxHeartbeats 4000000
/-! rules of statements -/
namespace DL
open PySem PySem.Spec L2

section
variable {G : Gl} {W : WX} {σ σ' : St} {H H' H2 : Hp} {e0 : Ent} {Mt Mt' Mt2 : Addr → Prop} {φ φ' φ2 : List Addr} {ρ ρ' : Env} {st st' : Store} {D : Ends}
theorem PoS.ks {r : R Fl} (h : PoS G W e0 Mt φ H D r) (k : Ks Mt φ H Mt' φ' H') : PoS G W e0 Mt' φ' H' D r := by
  cases r with
  | stuck => exact h
  | ok f s => cases f with
    | nx ρ => exact fun a b c d k2 => h a b c d (k.trans k2)
    | bk ρ => exact fun a b c d k2 => h a b c d (k.trans k2)
    | ct ρ => exact fun a b c d k2 => h a b c d (k.trans k2)
    | rt v => exact fun a b c d e f k2 => h a b c d e f (k.trans k2)
  | exc x s => exact fun a b c d e f g k2 => h a b c d e f g (k.trans k2)
theorem PoG.ext {js : List Nat} {Q : St → Hp → Prop} {r : R Env} (h : PoG G W e0 js σ Mt φ H Q r) (k : Ext Mt φ H Mt' φ' H') : PoG G W e0 js σ Mt' φ' H' Q r := by
  cases r with
  | stuck => exact h
  | ok f s => exact fun a b c d k2 => h a b c d (k.trans k2)
  | exc x s => exact fun a b c d e f g k2 => h a b c d e f g (k.trans k2)
/-- within a statement: something that is no statement comes first -/
theorem PoS.bind {α β : Type} {rel : Hp → (Addr → Prop) → List Addr → α → β → Prop} {r : R α} {k : α → Store → R Fl} (ok : Ok G e0 H Mt φ ρ σ st) (h : PoS G W e0 Mt φ H D (r.bind k)) :
    Po G W σ rel Mt φ H r fun b H1 => ∃ Mt1 φ1 st1 a, Ok G e0 H1 Mt1 φ1 ρ σ st1 ∧ Ext Mt φ H Mt1 φ1 H1 ∧ rel H1 Mt1 φ1 a b ∧ PoS G W e0 Mt1 φ1 H1 D (k a st1) := by
  cases r with
  | stuck => exact h
  | ok a s => exact fun Mt' φ' H' b e s' r => ⟨Mt', φ', s, a, ok.step e s', e, r, PoS.ks h (e.ks ok.st)⟩
  | exc x s => exact fun Mt' φ' H' c d e s' r => h _ _ _ _ _ _ _ (e.ks ok.st) (ok.step e s') r
theorem PoG.bind {js : List Nat} {α β : Type} {rel : Hp → (Addr → Prop) → List Addr → α → β → Prop} {Q : St → Hp → Prop} {r : R α} {k : α → Store → R Env} (ok : Ok G e0 H Mt φ ρ σ st) (h : PoG G W e0 js σ Mt φ H Q (r.bind k)) :
    Po G W σ rel Mt φ H r fun b H1 => ∃ Mt1 φ1 st1 a, Ok G e0 H1 Mt1 φ1 ρ σ st1 ∧ Ext Mt φ H Mt1 φ1 H1 ∧ rel H1 Mt1 φ1 a b ∧ PoG G W e0 js σ Mt1 φ1 H1 Q (k a st1) := by
  cases r with
  | stuck => exact h
  | ok a s => exact fun Mt' φ' H' b e s' r => ⟨Mt', φ', s, a, ok.step e s', e, r, PoG.ext h e⟩
  | exc x s => exact fun Mt' φ' H' c d e s' r => h _ _ _ _ _ _ _ e (ok.step e s') r
theorem sE {f : Env → Store → R DL.D} {k : DL.D → Store → R Fl} (ok : Ok G e0 H Mt φ ρ σ st) (h : PoS G W e0 Mt φ H D ((f ρ st).bind k)) {Q1 : V → Hp → Prop}
    (hk : ∀ H1 Mt1 φ1 st1 x d, Ok G e0 H1 Mt1 φ1 ρ σ st1 → Ext Mt φ H Mt1 φ1 H1 → RepV G H1 Mt1 φ1 d x → PoS G W e0 Mt1 φ1 H1 D (k d st1) → Q1 x H1) : tE G W f σ H Q1 :=
  ⟨e0, Mt, φ, ρ, st, ok, (PoS.bind ok h).mono fun x H1 ⟨Mt1, φ1, st1, d, o1, e1, rd, q⟩ => hk H1 Mt1 φ1 st1 x d o1 e1 rd q⟩
theorem sT {f : Env → Store → R Bool} {k : Bool → Store → R Fl} (ok : Ok G e0 H Mt φ ρ σ st) (h : PoS G W e0 Mt φ H D ((f ρ st).bind k)) {Q1 : Bool → Hp → Prop}
    (hk : ∀ H1 Mt1 φ1 st1 b, Ok G e0 H1 Mt1 φ1 ρ σ st1 → Ext Mt φ H Mt1 φ1 H1 → PoS G W e0 Mt1 φ1 H1 D (k b st1) → Q1 b H1) : tT G W f σ H Q1 :=
  ⟨e0, Mt, φ, ρ, st, ok, (PoS.bind ok h).mono fun x H1 ⟨Mt1, φ1, st1, d, o1, e1, rd, q⟩ => by cases rd; exact hk H1 Mt1 φ1 st1 x o1 e1 q⟩
theorem sL {f : Env → Store → R (List DL.D)} {k : List DL.D → Store → R Fl} (ok : Ok G e0 H Mt φ ρ σ st) (h : PoS G W e0 Mt φ H D ((f ρ st).bind k)) {Q1 : List V → Hp → Prop}
    (hk : ∀ H1 Mt1 φ1 st1 xs ds, Ok G e0 H1 Mt1 φ1 ρ σ st1 → Ext Mt φ H Mt1 φ1 H1 → RepVL G H1 Mt1 φ1 ds xs → PoS G W e0 Mt1 φ1 H1 D (k ds st1) → Q1 xs H1) : tL G W f σ H Q1 :=
  ⟨e0, Mt, φ, ρ, st, ok, (PoS.bind ok h).mono fun x H1 ⟨Mt1, φ1, st1, d, o1, e1, rd, q⟩ => hk H1 Mt1 φ1 st1 x d o1 e1 rd q⟩
theorem gE {js : List Nat} {f : Env → Store → R DL.D} {k : DL.D → Store → R Env} {Q : St → Hp → Prop} (ok : Ok G e0 H Mt φ ρ σ st) (h : PoG G W e0 js σ Mt φ H Q ((f ρ st).bind k)) {Q1 : V → Hp → Prop}
    (hk : ∀ H1 Mt1 φ1 st1 x d, Ok G e0 H1 Mt1 φ1 ρ σ st1 → Ext Mt φ H Mt1 φ1 H1 → RepV G H1 Mt1 φ1 d x → PoG G W e0 js σ Mt1 φ1 H1 Q (k d st1) → Q1 x H1) : tE G W f σ H Q1 :=
  ⟨e0, Mt, φ, ρ, st, ok, (PoG.bind ok h).mono fun x H1 ⟨Mt1, φ1, st1, d, o1, e1, rd, q⟩ => hk H1 Mt1 φ1 st1 x d o1 e1 rd q⟩
/-- a target within a statement, a target's row -/
theorem PoS.bindG {js : List Nat} {r : R Env} {k : Env → Store → R Fl} (hs : StOk G H Mt φ st) (h : PoS G W e0 Mt φ H D (r.bind k)) :
    PoG G W e0 js σ Mt φ H (fun σ' H1 => ∃ Mt1 φ1 st1 ρ1, Ok G e0 H1 Mt1 φ1 ρ1 σ' st1 ∧ Ext Mt φ H Mt1 φ1 H1 ∧ PoS G W e0 Mt1 φ1 H1 D (k ρ1 st1)) r := by
  cases r with
  | stuck => exact h
  | ok a s => exact fun Mt' φ' H' σ' k o _ => ⟨Mt', φ', s, a, o, k, PoS.ks h (k.ks hs)⟩
  | exc x s => exact fun a b c d e f g k2 => h a b c d e f g (k2.ks hs)
theorem PoG.bindG {js ks : List Nat} {Q : St → Hp → Prop} {r : R Env} {k : Env → Store → R Env} (h : PoG G W e0 (js ++ ks) σ Mt φ H Q (r.bind k)) :
    PoG G W e0 js σ Mt φ H (fun σ' H1 => ∃ Mt1 φ1 st1 ρ1, Ok G e0 H1 Mt1 φ1 ρ1 σ' st1 ∧ Ext Mt φ H Mt1 φ1 H1 ∧ PoG G W e0 ks σ' Mt1 φ1 H1 Q (k ρ1 st1)) r := by
  cases r with
  | stuck => exact h
  | ok a s =>
    refine fun Mt' φ' H' σ' k1 o at1 => ⟨Mt', φ', s, a, o, k1, ?_⟩
    have h2 : PoG G W e0 (js ++ ks) σ Mt φ H Q (k a s) := h
    have h' := PoG.ext h2 k1
    revert h'
    cases k a s with
    | stuck => exact id
    | exc x s => exact id
    | ok ρ2 s2 => exact fun h' Mt2 φ2 H2 σ2 k2 o2 at2 => h' _ _ _ _ k2 o2 (at1.trans at2)
  | exc x s => exact h
theorem PoG.mono {js : List Nat} {Q Q' : St → Hp → Prop} {r : R Env} (h : PoG G W e0 js σ Mt φ H Q r) (m : ∀ a b, At js σ a → Q a b → Q' a b) : PoG G W e0 js σ Mt φ H Q' r := by
  cases r with
  | stuck => exact h
  | ok a s => exact fun Mt' φ' H' σ' k o at1 => m _ _ at1 (h _ _ _ _ k o at1)
  | exc x s => exact h
theorem PoS.here (h : PoS G W e0 Mt φ H D (.ok (.nx ρ) st)) (ok : Ok G e0 H Mt φ ρ σ st) : D.nx σ H := h _ _ _ _ Ks.refl ok
theorem PoG.here {js : List Nat} {Q : St → Hp → Prop} (h : PoG G W e0 js σ Mt φ H Q (.ok ρ st)) (ok : Ok G e0 H Mt φ ρ σ' st) (a : At js σ σ') : Q σ' H := h _ _ _ _ Ext.refl ok a
theorem PoS.hereV {d : DL.D} {v : V} (h : PoS G W e0 Mt φ H D (.ok (.rt d) st)) (ok : Ok G e0 H Mt φ ρ σ st) (r : Rep G H Mt φ d v) : D.rt v H := h _ _ _ _ _ _ Ks.refl ok r

/-! ### the slots change -/
theorem set_some {α : Type} {l : List α} {i j : Nat} {x y : α} (h : (l.set i x)[j]? = some y) : (j = i ∧ y = x) ∨ (j ≠ i ∧ l[j]? = some y) := by
  by_cases e : j = i
  · subst e
    have hlt : j < l.length := by
      have := (List.getElem?_eq_some_iff.mp h).1
      rwa [List.length_set] at this
    rw [List.getElem?_set_self hlt] at h
    exact .inl ⟨rfl, (Option.some.inj h).symm⟩
  · rw [List.getElem?_set_ne (Ne.symm e)] at h
    exact .inr ⟨e, h⟩
theorem set_get {α β : Type} {l : List α} {m : List β} {i : Nat} {x : α} {z : β} (hl : m.length = l.length) (h : (l.set i x)[i]? ≠ none) : (m.set i z)[i]? = some z := by
  have hlt : i < l.length := by
    cases q : (l.set i x)[i]? with
    | none => exact absurd q h
    | some y =>
      have := (List.getElem?_eq_some_iff.mp q).1
      rwa [List.length_set] at this
  exact List.getElem?_set_self (by omega)
/-- a slot takes data -/
theorem Ok.setVal {i : Nat} {d : DL.D} {v : V} (o : Ok G e0 H Mt φ ρ σ st) (r : Rep G H Mt φ d v) : Ok G e0 H Mt φ (ρ.set i (.val d)) (σ.set i (some v)) st where
  st := o.st
  ext := o.ext
  len := by rw [List.length_set, List.length_set]; exact o.len
  sl := fun j e h => by
    rcases set_some h with ⟨rfl, z⟩ | ⟨n, h'⟩
    · cases z
      exact ⟨v, set_get o.len (by rw [h]; exact fun z => nomatch z), RepV.of r⟩
    · obtain ⟨x, h1, h2⟩ := o.sl j e h'
      exact ⟨x, by rw [List.getElem?_set_ne (Ne.symm n)]; exact h1, h2⟩
  ow := fun j mo h => by
    rcases set_some h with ⟨rfl, z⟩ | ⟨n, h'⟩
    · cases z
    · obtain ⟨a, h1, h2⟩ := o.ow j mo h'
      exact ⟨a, by rw [List.getElem?_set_ne (Ne.symm n)]; exact h1, h2⟩
  vw := fun j ds h => by
    rcases set_some h with ⟨rfl, z⟩ | ⟨n, h'⟩
    · cases z
      unfold Rep at r
      exact r.elim
    · obtain ⟨a, h1, h2⟩ := o.vw j ds h'
      exact ⟨a, by rw [List.getElem?_set_ne (Ne.symm n)]; exact h1, h2⟩
  ap := fun j k mo mo' a h1 h2 h3 h4 => by
    rcases set_some h1 with ⟨_, z⟩ | ⟨n1, h1'⟩
    · cases z
    rcases set_some h2 with ⟨_, z⟩ | ⟨n2, h2'⟩
    · cases z
    rw [List.getElem?_set_ne (Ne.symm n1)] at h3
    rw [List.getElem?_set_ne (Ne.symm n2)] at h4
    exact o.ap j k mo mo' a h1' h2' h3 h4
theorem Ext.write {p : Addr} {o : HO} (hp : p ∈ φ) : Ext Mt φ H Mt φ (upd H p o) where
  pre := ⟨[], by simp⟩
  keep := fun a u h n => (upd_ne fun z => n (by rw [z]; exact hp)).trans h
  some := fun a h => by
    by_cases z : a = p
    · subst z; rw [upd_same]; exact fun z => nomatch z
    · rw [upd_ne z]; exact h
  mt1 := fun _ h => h
  mt2 := fun _ h => .inl h
  new := fun _ h => .inl h
/-- a slot is forgotten -/
theorem Ok.setUn {i : Nat} {x : Option V} (o : Ok G e0 H Mt φ ρ σ st) : Ok G e0 H Mt φ (ρ.set i .un) (σ.set i x) st where
  st := o.st
  ext := o.ext
  len := by rw [List.length_set, List.length_set]; exact o.len
  sl := fun j e h => by
    rcases set_some h with ⟨_, z⟩ | ⟨n, h'⟩
    · cases z
    · obtain ⟨x, h1, h2⟩ := o.sl j e h'
      exact ⟨x, by rw [List.getElem?_set_ne (Ne.symm n)]; exact h1, h2⟩
  ow := fun j mo h => by
    rcases set_some h with ⟨_, z⟩ | ⟨n, h'⟩
    · cases z
    · obtain ⟨a, h1, h2⟩ := o.ow j mo h'
      exact ⟨a, by rw [List.getElem?_set_ne (Ne.symm n)]; exact h1, h2⟩
  vw := fun j ds h => by
    rcases set_some h with ⟨_, z⟩ | ⟨n, h'⟩
    · cases z
    · obtain ⟨a, h1, h2⟩ := o.vw j ds h'
      exact ⟨a, by rw [List.getElem?_set_ne (Ne.symm n)]; exact h1, h2⟩
  ap := fun j k mo mo' a h1 h2 h3 h4 => by
    rcases set_some h1 with ⟨_, z⟩ | ⟨n1, h1'⟩
    · cases z
    rcases set_some h2 with ⟨_, z⟩ | ⟨n2, h2'⟩
    · cases z
    rw [List.getElem?_set_ne (Ne.symm n1)] at h3
    rw [List.getElem?_set_ne (Ne.symm n2)] at h4
    exact o.ap j k mo mo' a h1' h2' h3 h4
/-- .. what changes may be less -/
theorem Ok.less {Mt2 : Addr → Prop} (o : Ok G e0 H Mt φ ρ σ st) (l : ∀ a, Mt2 a → Mt a) (hφ : ∀ a ∈ φ, Mt2 a) (h0 : ∀ a, e0.Mt a → Mt2 a) (how : ∀ (i : Nat) (mo : MO) (a : Addr), ρ[i]? = some (.own mo) → σ[i]? = some (some (.ref a)) → Mt2 a) : Ok G e0 H Mt2 φ ρ σ st := by
  have k : Kp Mt φ H Mt2 φ H := ⟨fun _ _ h _ => h, fun a h => .inl (l a h), [], by simp⟩
  refine ⟨⟨o.st.len, o.st.nd, hφ, fun a h => o.st.mtH a (l a h), fun n a mo h1 h2 => (o.st.rep n a mo h1 h2).kp k rfl⟩, ⟨o.ext.pre, o.ext.keep, o.ext.some, h0, fun a h => o.ext.mt2 a (l a h), o.ext.new⟩, o.len, fun i d h => ?_, fun i mo h => ?_, o.vw, o.ap⟩
  · obtain ⟨x, h1, h2⟩ := o.sl i d h
    refine ⟨x, h1, ?_⟩
    cases d with
    | vl ds =>
      obtain ⟨a, xs, rfl, g1, g2, g3, g4⟩ := h2
      obtain ⟨b, hb, hm⟩ := o.vw i ds h
      rw [h1] at hb
      cases hb
      exact ⟨a, xs, rfl, g1, g2, h0 a hm, k.repL _ _ g4⟩
    | _ => exact k.rep _ _ h2
  · obtain ⟨a, h1, h2, h3, h4, h5⟩ := o.ow i mo h
    exact ⟨a, h1, how i mo a h h1, h3, h4, h5.kp k rfl⟩
/-- a changing object is written -/
theorem Kp.write {p : Addr} {o : HO} (hp : Mt p) : Kp Mt φ H Mt φ (upd H p o) := ⟨fun a u h n => by
    have : a ≠ p := fun e => n (e ▸ hp)
    rcases h with h | ⟨ob, h⟩
    · exact .inl (by rw [upd_ne this]; exact h)
    · exact .inr ⟨ob, by rw [upd_ne this]; exact h⟩, fun a h => .inl h, [], by simp⟩
theorem Ks.write {p : Addr} {o : HO} (hp : Mt p) : Ks Mt φ H Mt φ (upd H p o) := ⟨Kp.write hp, fun a h => by
    by_cases e : a = p
    · subst e; rw [upd_same]; exact fun z => nomatch z
    · rw [upd_ne e]; exact h⟩
theorem RepO.write {a p : Addr} {mo : MO} {o : HO} (hp : Mt p) (ne : a ≠ p) (h : RepO G H Mt φ a mo) : RepO G (upd H p o) Mt φ a mo := h.kp (Kp.write hp) (upd_ne ne)
theorem Ext.write0 {p : Addr} {o : HO} (e : Ext e0.Mt e0.φ e0.H Mt φ H) (hp : p ∈ e0.φ ∨ e0.H p = none) : Ext e0.Mt e0.φ e0.H Mt φ (upd H p o) where
  pre := e.pre
  keep := fun a u h n => by
    have : a ≠ p := fun z => by
      subst z
      rcases hp with hp | hp
      · exact n hp
      · rw [h] at hp; cases hp
    rw [upd_ne this]
    exact e.keep a u h n
  some := fun a h => by
    by_cases z : a = p
    · subst z; rw [upd_same]; exact fun z => nomatch z
    · rw [upd_ne z]; exact e.some a h
  mt1 := e.mt1
  mt2 := e.mt2
  new := e.new
/-- the object that slot i owns is changed -/
theorem Ok.chgOwn {i : Nat} {mo mo' : MO} {p : Addr} {o' : HO} (o : Ok G e0 H Mt φ ρ σ st) (hi : ρ[i]? = some (.own mo)) (hs : σ[i]? = some (some (.ref p))) (r : RepO G (upd H p o') Mt φ p mo') :
    Ok G e0 (upd H p o') Mt φ (ρ.set i (.own mo')) σ st := by
  obtain ⟨p', h1, hm, hφ, hn, _⟩ := o.ow i mo hi
  rw [hs] at h1
  cases h1
  have he : e0.H p = none := (o.ext.mt2 p hm).elim (fun z => absurd z hn) id
  refine ⟨⟨o.st.len, o.st.nd, o.st.mt, fun a h => (Ks.write (φ := φ) hm).some a (o.st.mtH a h), fun n a m h1 h2 => (o.st.rep n a m h1 h2).write hm fun z => hφ (z ▸ List.mem_of_getElem? h1)⟩, o.ext.write0 (.inr he), by rw [List.length_set]; exact o.len, fun j d h => ?_, fun j m h => ?_, fun j ds h => ?_, fun j k m m' a h1 h2 h3 h4 => ?_⟩
  · rcases set_some h with ⟨_, z⟩ | ⟨n, h'⟩
    · cases z
    obtain ⟨x, g1, g2⟩ := o.sl j d h'
    refine ⟨x, g1, ?_⟩
    cases d with
    | vl ds =>
      obtain ⟨a, xs, rfl, q1, q2, q3, q4⟩ := g2
      obtain ⟨b, hb, hmb⟩ := o.vw j ds h'
      rw [g1] at hb
      cases hb
      have ne : a ≠ p := fun z => hn (z ▸ hmb)
      refine ⟨a, xs, rfl, ?_, q2, q3, (Kp.write hm).repL _ _ q4⟩
      rcases q1 with q1 | ⟨ob, q1⟩
      · exact .inl (by rw [upd_ne ne]; exact q1)
      · exact .inr ⟨ob, by rw [upd_ne ne]; exact q1⟩
    | _ => exact (Kp.write hm).rep _ _ g2
  · rcases set_some h with ⟨rfl, z⟩ | ⟨n, h'⟩
    · cases z
      exact ⟨p, hs, hm, hφ, hn, r⟩
    · obtain ⟨a, g1, g2, g3, g4, g5⟩ := o.ow j m h'
      refine ⟨a, g1, g2, g3, g4, g5.write hm fun z => n ?_⟩
      subst z
      exact o.ap j i m mo a h' hi g1 hs
  · rcases set_some h with ⟨_, z⟩ | ⟨n, h'⟩
    · cases z
    · exact o.vw j ds h'
  · have old : ∀ (j : Nat) (m : MO), (ρ.set i (.own mo'))[j]? = some (.own m) → ∃ m2, ρ[j]? = some (.own m2) := fun j m h => by
      rcases set_some h with ⟨rfl, _⟩ | ⟨_, h'⟩
      · exact ⟨mo, hi⟩
      · exact ⟨m, h'⟩
    obtain ⟨m2, q1⟩ := old j m h1
    obtain ⟨m3, q2⟩ := old k m' h2
    exact o.ap j k m2 m3 a q1 q2 h3 h4
/-- the n-th object of the store is changed -/
theorem Ok.chgRef {n : Nat} {mo' : MO} {p : Addr} {o' : HO} (o : Ok G e0 H Mt φ ρ σ st) (hn : φ[n]? = some p) (r : RepO G (upd H p o') Mt φ p mo') :
    Ok G e0 (upd H p o') Mt φ ρ σ (st.set n mo') := by
  have hp : p ∈ φ := List.mem_of_getElem? hn
  have hm := o.st.mt p hp
  refine ⟨⟨by rw [List.length_set]; exact o.st.len, o.st.nd, o.st.mt, fun a h => (Ks.write (φ := φ) hm).some a (o.st.mtH a h), fun k a m h1 h2 => ?_⟩, o.ext.write0 (o.ext.new p hp), o.len, fun j d h => ?_, fun j m h => ?_, o.vw, o.ap⟩
  · rcases set_some h2 with ⟨rfl, z⟩ | ⟨ne, h2'⟩
    · subst z
      rw [hn] at h1
      cases h1
      exact r
    · refine (o.st.rep k a m h1 h2').write hm fun z => ne ?_
      subst z
      obtain ⟨l1, e1⟩ := List.getElem?_eq_some_iff.mp h1
      obtain ⟨l2, e2⟩ := List.getElem?_eq_some_iff.mp hn
      exact (List.getElem_inj o.st.nd).mp (e1.trans e2.symm)
  · obtain ⟨x, g1, g2⟩ := o.sl j d h
    refine ⟨x, g1, ?_⟩
    cases d with
    | vl ds =>
      obtain ⟨a, xs, rfl, q1, q2, q3, q4⟩ := g2
      have ne : a ≠ p := fun z => q2 (z ▸ hp)
      refine ⟨a, xs, rfl, ?_, q2, q3, (Kp.write hm).repL _ _ q4⟩
      rcases q1 with q1 | ⟨ob, q1⟩
      · exact .inl (by rw [upd_ne ne]; exact q1)
      · exact .inr ⟨ob, by rw [upd_ne ne]; exact q1⟩
    | _ => exact (Kp.write hm).rep _ _ g2
  · obtain ⟨a, g1, g2, g3, g4, g5⟩ := o.ow j m h
    exact ⟨a, g1, g2, g3, g4, g5.write hm fun z => g3 (z ▸ hp)⟩
/-- slot i takes a new list and owns it -/
theorem Ok.setOwn {i : Nat} {p : Addr} {xs : List V} {ds : List DL.D} (o : Ok G e0 H Mt φ ρ σ st) (hp : H p = none) (r : RepL G H Mt φ ds xs) :
    Ok G e0 (upd H p (.lst xs)) (fun a => Mt a ∨ a = p) φ (ρ.set i (.own (.ml ds))) (σ.set i (some (.ref p))) st ∧ Ks Mt φ H (fun a => Mt a ∨ a = p) φ (upd H p (.lst xs)) := by
  have e : Ext Mt φ H (fun a => Mt a ∨ a = p) φ (upd H p (.lst xs)) := ⟨⟨[], by simp⟩, (Ext.laid (Mt := Mt) (φ := φ) hp).keep, (Ext.laid (Mt := Mt) (φ := φ) hp).some, fun _ h => .inl h, fun a (h : Mt a ∨ a = p) => h.imp id fun z => by rw [z]; exact hp, fun _ h => .inl h⟩
  have s : StOk G (upd H p (.lst xs)) (fun a => Mt a ∨ a = p) φ st := by
    refine ⟨o.st.len, o.st.nd, fun a h => .inl (o.st.mt a h), fun a h => ?_, fun n a mo h1 h2 => (o.st.rep n a mo h1 h2).kp (e.kp o.st) (upd_ne fun z => ?_)⟩
    · rcases h with h | h
      · exact e.some a (o.st.mtH a h)
      · rw [h, upd_same]; exact fun z => nomatch z
    · subst z
      exact o.st.mtH _ (o.st.mt _ (List.mem_of_getElem? h1)) hp
  have o2 := o.step e s
  have np : ¬ e0.Mt p := fun z => o.st.mtH p (o.ext.mt1 p z) hp
  have nφ : p ∉ φ := fun z => o.st.mtH p (o.st.mt p z) hp
  have fresh : ∀ (j : Nat) (m : MO) (a : Addr), ρ[j]? = some (.own m) → σ[j]? = some (some (.ref a)) → a ≠ p := fun j m a h1 h2 z => by
    obtain ⟨b, g1, g2, _⟩ := o.ow j m h1
    rw [h2] at g1
    cases g1
    subst z
    exact o.st.mtH _ g2 hp
  refine ⟨⟨o2.st, o2.ext, by rw [List.length_set, List.length_set]; exact o2.len, fun j d h => ?_, fun j m h => ?_, fun j es h => ?_, fun j k m m' a h1 h2 h3 h4 => ?_⟩, e.ks o.st⟩
  · rcases set_some h with ⟨_, z⟩ | ⟨n, h'⟩
    · cases z
    obtain ⟨x, g1, g2⟩ := o2.sl j d h'
    exact ⟨x, by rw [List.getElem?_set_ne (Ne.symm n)]; exact g1, g2⟩
  · rcases set_some h with ⟨rfl, z⟩ | ⟨n, h'⟩
    · cases z
      exact ⟨p, set_get o.len (by rw [h]; exact fun z => nomatch z), .inr rfl, nφ, np, xs, upd_same, e.repL o.st r⟩
    · obtain ⟨a, g1, g2⟩ := o2.ow j m h'
      exact ⟨a, by rw [List.getElem?_set_ne (Ne.symm n)]; exact g1, g2⟩
  · rcases set_some h with ⟨_, z⟩ | ⟨n, h'⟩
    · cases z
    obtain ⟨a, g1, g2⟩ := o2.vw j es h'
    exact ⟨a, by rw [List.getElem?_set_ne (Ne.symm n)]; exact g1, g2⟩
  · rcases set_some h1 with ⟨rfl, z1⟩ | ⟨n1, h1'⟩
    · rcases set_some h2 with ⟨rfl, _⟩ | ⟨n2, h2'⟩
      · rfl
      · rw [set_get o.len (by rw [h1]; exact fun z => nomatch z)] at h3
        rw [List.getElem?_set_ne (Ne.symm n2)] at h4
        cases h3
        exact absurd rfl (fresh k m' p h2' h4)
    · rcases set_some h2 with ⟨rfl, _⟩ | ⟨n2, h2'⟩
      · rw [set_get o.len (by rw [h2]; exact fun z => nomatch z)] at h4
        rw [List.getElem?_set_ne (Ne.symm n1)] at h3
        cases h4
        exact absurd rfl (fresh j m p h1' h3)
      · rw [List.getElem?_set_ne (Ne.symm n1)] at h3
        rw [List.getElem?_set_ne (Ne.symm n2)] at h4
        exact o.ap j k m m' a h1' h2' h3 h4
/-- slot i's own list stands still from here on -/
theorem Ok.freeze {i : Nat} {ds : List DL.D} (o : Ok G e0 H Mt φ ρ σ st) (hi : ρ[i]? = some (.own (.ml ds))) :
    ∃ Mt2, Ok G e0 H Mt2 φ (ρ.set i (.val (.lst ds))) σ st ∧ Ks Mt φ H Mt2 φ H := by
  obtain ⟨p, h1, hm, hφ, hn, xs, h2, h3⟩ := o.ow i _ hi
  have hiσ : σ.set i (some (.ref p)) = σ := by
    apply List.ext_getElem?
    intro j
    by_cases e : j = i
    · subst e
      have hlt := (List.getElem?_eq_some_iff.mp h1).1
      rw [List.getElem?_set_self hlt, h1]
    · rw [List.getElem?_set_ne (Ne.symm e)]
  have o1 : Ok G e0 H Mt φ (ρ.set i .un) σ st := by
    have := o.setUn (i := i) (x := some (.ref p))
    rwa [hiσ] at this
  have l : ∀ a, (Mt a ∧ a ≠ p) → Mt a := fun a h => h.1
  have o2 : Ok G e0 H (fun a => Mt a ∧ a ≠ p) φ (ρ.set i .un) σ st := o1.less l (fun a h => ⟨o.st.mt a h, fun z => hφ (z ▸ h)⟩) (fun a h => ⟨o.ext.mt1 a h, fun z => hn (z ▸ h)⟩) fun j mo a g1 g2 => by
    rcases set_some g1 with ⟨_, z⟩ | ⟨n, g1'⟩
    · cases z
    obtain ⟨b, q1, q2, _⟩ := o.ow j mo g1'
    rw [g2] at q1
    cases q1
    refine ⟨q2, fun z => n ?_⟩
    subst z
    exact o.ap j i mo _ a g1' hi g2 h1
  have k : Kp Mt φ H (fun a => Mt a ∧ a ≠ p) φ H := ⟨fun _ _ h _ => h, fun a h => .inl h.1, [], by simp⟩
  refine ⟨_, ?_, ⟨k, fun _ h => h⟩⟩
  have r : Rep G H (fun a => Mt a ∧ a ≠ p) φ (.lst ds) (.ref p) := by
    unfold Rep
    exact ⟨p, xs, rfl, .inl ⟨.inl h2, fun z => z.2 rfl⟩, k.repL _ _ h3⟩
  have o3 := o2.setVal (i := i) r
  rwa [List.set_set, hiσ] at o3
end
end DL

set_option Elab.async false
set_option linter.all false
set_option maxRecDepth 100000
set_option maxHeartbeats 4000000
/-! rules of statements, walks, calls -/
namespace DL
open PySem PySem.Spec L2

section
variable {X : Cx} {W : WX} {G : Gl}
variable {a b c e : Expr} {es ts : List Expr} {fa fb fc : Env → Store → R D} {fl : Env → Store → R (List D)} {ga : Env → Store → R Bool} {fg : D → Env → Store → R Env} {fgs : List D → Env → Store → R Env} {fs fr ft : Env → Store → R Fl} {pos : Pos}
  {sts rest : List Stmt} {s : Stmt}
/-! ### targets -/
theorem d_tvar {i : Nat} {x : Str} (hN : X.N.Nodup) (hi : X.N[i]? = some x) (hx : Loc X.env.scope x) (hf : X.fn x = true ∨ X.env.scope.names.lookup x = some .local) :
    PG X (.Name x pos) (tG G W [i] fun d ρ st => if d.strict then .ok (ρ.set i (.val d)) st else .stuck) := by
  refine ⟨fun pins s σ H v u Q I r h => (pg_name hN hi hx hf).run pins s σ H v u Q I r ?_⟩
  obtain ⟨e0, Mt, φ, ρ, st, d, ok, rd, q⟩ := h
  dsimp only at q
  split at q
  · rename_i hs
    exact PoG.here q (ok.setVal (rd.strict hs)) At.set
  · exact False.elim q
theorem d_gnil : PGs X [] (tGs G W [] fun ds ρ st => match ds with | [] => .ok ρ st | _ => .stuck) := by
  refine ⟨fun pins s σ H vs us Q I r h => pgs_nil.run pins s σ H vs us Q I r ?_⟩
  obtain ⟨e0, Mt, φ, ρ, st, ds, ok, rd, q⟩ := h
  cases ds with
  | nil =>
    unfold RepL at rd
    exact ⟨rd, PoG.here q ok At.refl⟩
  | cons _ _ => exact False.elim q
theorem d_gcons {js ks : List Nat} (h1 : PG X a (tG G W js fg)) (h2 : PGs X ts (tGs G W ks fgs)) (he : (assignEach (a :: ts) X.env).map (·.2) = assign a X.env :: (assignEach ts X.env).map (·.2)) :
    PGs X (a :: ts) (tGs G W (js ++ ks) fun ds ρ st => match ds with | d :: r => (fg d ρ st).bind fun ρ' st' => fgs r ρ' st' | [] => .stuck) := by
  refine ⟨fun pins s σ H vs us Q I r h => (pgs_cons h1 h2 he).run pins s σ H vs us Q I r ?_⟩
  obtain ⟨e0, Mt, φ, ρ, st, ds, ok, rd, q⟩ := h
  cases ds with
  | nil => exact False.elim q
  | cons d ds =>
    unfold RepL at rd
    obtain ⟨x, xs, rfl, rx, rxs⟩ := rd
    refine ⟨x, xs, rfl, e0, Mt, φ, ρ, st, d, ok, RepV.of rx, (PoG.bindG q).mono fun σ' H1 _ ⟨Mt1, φ1, st1, ρ1, ok1, k1, q1⟩ => ?_⟩
    exact ⟨e0, Mt1, φ1, ρ1, st1, ds, ok1, k1.repL ok.st rxs, q1⟩
theorem d_gtup {js : List Nat} (hK : X.K = G.K) {k : Nat} (hc : X.calm = true) (h : PGs X ts (tGs G W js fgs)) (hst : (assignEach ts X.env).findIdx? (·.1) = none) :
    PG X (.Tuple ts k pos) (tG G W js fun d ρ st => match d with | .tup ds => if ds.length = (assignEach ts X.env).length then fgs ds ρ st else .stuck | _ => .stuck) := by
  refine ⟨fun pins s σ H v u Q I r hq => (pg_tup hc h rfl hst).run pins s σ H v u Q I r ?_⟩
  obtain ⟨e0, Mt, φ, ρ, st, d, ok, rd, q⟩ := hq
  cases d with
  | tup ds =>
    dsimp only at q
    split at q
    · rename_i hl
      have rd' : Rep G H Mt φ (.tup ds) v := rd
      unfold Rep at rd'
      obtain ⟨p, xs, rfl, h1, h2⟩ := rd'
      exact ⟨p, xs, rfl, by rw [hK]; exact h1.sq, by rw [h2.length, hl], e0, Mt, φ, ρ, st, ds, ok, h2, q⟩
    · exact False.elim q
  | _ => exact False.elim q
/-- o[i] = v of a changing list -/
theorem d_gix (ha : PE X a (tE G W fa)) (hb : PE X b (tE G W fb)) (he : ∀ v, assign (.Subscript a b pos) X.env v = (do
      let ov ← holding [v] (eval a X.env)
      let iv ← holding [v, ov] (eval b X.env)
      standAt pos
      holding [v, ov, iv] (setItem ov iv v)
      release [v, ov, iv] [])) :
    PG X (.Subscript a b pos) (tG G W [] fun d ρ st => (fa ρ st).bind fun x st => (fb ρ st).bind fun y st => match x, y with
      | .ref n, .int k => match st[n]? with
        | some (.ml ds) => match ixN ds.length k with
          | some j => if d.strict then .ok ρ (st.set n (.ml (ds.set j d))) else .stuck
          | none => .stuck
        | _ => .stuck
      | _, _ => .stuck) := by
  refine ⟨fun pins s σ H v u Q I r h => (pg_sub ha hb set_list he).run pins s σ H v u Q I r ?_⟩
  obtain ⟨e0, Mt, φ, ρ, st, d, ok, rd, q⟩ := h
  refine gE ok q fun H1 Mt1 φ1 st1 x dx ok1 e1 rx q => gE ok1 q fun H2 Mt2 φ2 st2 y dy ok2 e2 ry q => ?_
  have rx2 := e2.repV ok1.st rx
  have rd2 := (e1.trans e2).repV ok.st rd
  cases dx with
  | ref n =>
    cases dy with
    | int k =>
      dsimp only at q
      have rx' : Rep G H2 Mt2 φ2 (.ref n) x := rx2
      unfold Rep at rx'
      obtain ⟨p, hp, rfl⟩ := rx'
      have ry' : Rep G H2 Mt2 φ2 (.int k) y := ry
      unfold Rep at ry'
      subst ry'
      cases hm : st2[n]? with
      | none => rw [hm] at q; exact False.elim q
      | some mo =>
        rw [hm] at q
        cases mo with
        | ml ds =>
          dsimp only at q
          cases hj : ixN ds.length k with
          | none => rw [hj] at q; exact False.elim q
          | some j =>
            rw [hj] at q
            dsimp only at q
            split at q
            · rename_i hs
              obtain ⟨xs, h1, h2⟩ := ok2.st.rep n p _ hp hm
              refine ⟨p, xs, k, j, rfl, rfl, h1, by rw [h2.length]; exact hj, ?_⟩
              have hmt := ok2.st.mt p (List.mem_of_getElem? hp)
              have r2 := (rd2.strict hs)
              exact q _ _ _ _ (Ext.write (List.mem_of_getElem? hp)) (ok2.chgRef hp ⟨_, upd_same, (Kp.write hmt).repL _ _ (h2.set j r2)⟩) At.refl
            · exact False.elim q
    | _ => exact False.elim q
  | _ => exact False.elim q

/-! ### statements -/
theorem d_pass : PS X (.Pass pos) (tS G W fun ρ st => .ok (.nx ρ) st) := PS.imp ps_pass fun D σ H ⟨e0, Mt, φ, ρ, st, ok, h⟩ => PoS.here h ok
theorem d_brk : PS X (.Break pos) (tS G W fun ρ st => .ok (.bk ρ) st) := PS.imp ps_break fun D σ H ⟨e0, Mt, φ, ρ, st, ok, h⟩ => h _ _ _ _ Ks.refl ok
theorem d_cont : PS X (.Continue pos) (tS G W fun ρ st => .ok (.ct ρ) st) := PS.imp ps_continue fun D σ H ⟨e0, Mt, φ, ρ, st, ok, h⟩ => h _ _ _ _ Ks.refl ok
theorem d_never : PS X s (tS G W fun _ _ => .stuck) := PS.imp ps_never fun D σ H ⟨e0, Mt, φ, ρ, st, ok, h⟩ => h
theorem d_snil : PSs X [] (tS G W fun ρ st => .ok (.nx ρ) st) := PSs.imp pss_nil fun D σ H ⟨e0, Mt, φ, ρ, st, ok, h⟩ => PoS.here h ok
theorem d_scons (h1 : PS X s (tS G W fs)) (h2 : PSs X rest (tS G W fr)) : PSs X (s :: rest) (tS G W fun ρ st => (fs ρ st).bind fun f st => match f with | .nx ρ' => fr ρ' st | f => .ok f st) := by
  refine PSs.imp (pss_cons h1 h2) fun D σ H ⟨e0, Mt, φ, ρ, st, ok, h⟩ => ?_
  refine ⟨e0, Mt, φ, ρ, st, ok, ?_⟩
  dsimp only at h
  cases hr : fs ρ st with
  | stuck => rw [hr] at h; exact h
  | exc x s1 => rw [hr] at h; exact h
  | ok f s1 =>
    rw [hr] at h
    cases f with
    | nx ρ1 => exact fun Mt' φ' H' σ' k o => ⟨e0, Mt', φ', ρ1, s1, o, PoS.ks h k⟩
    | bk ρ1 => exact h
    | ct ρ1 => exact h
    | rt v => exact h
theorem d_expr (he : PE X a (tE G W fa)) (hs : swapsWith a none pos.line X.env = pure false) : PS X (.Expr a pos) (tS G W fun ρ st => (fa ρ st).bind fun _ st => .ok (.nx ρ) st) := by
  refine PS.imp (ps_expr he hs) fun D σ H ⟨e0, Mt, φ, ρ, st, ok, h⟩ => ?_
  exact sE ok h fun H1 Mt1 φ1 st1 x d ok1 e1 rd q => PoS.here q ok1
theorem d_ret (he : PE X a (tE G W fa)) : PS X (.Return (some a) pos) (tS G W fun ρ st => (fa ρ st).bind fun x st => if x.strict then .ok (.rt x) st else .stuck) := by
  refine PS.imp (ps_ret he) fun D σ H ⟨e0, Mt, φ, ρ, st, ok, h⟩ => ?_
  refine sE ok h fun H1 Mt1 φ1 st1 x d ok1 e1 rd q => ?_
  split at q
  · rename_i hs
    exact PoS.hereV q ok1 (rd.strict hs)
  · exact False.elim q
theorem d_retn : PS X (.Return none pos) (tS G W fun _ st => .ok (.rt .non) st) := by
  refine PS.imp ps_retN fun D σ H ⟨e0, Mt, φ, ρ, st, ok, h⟩ => ?_
  exact PoS.hereV h ok (by unfold Rep; rfl)
theorem d_asg {js : List Nat} (he : PE X a (tE G W fa)) (hg : PG X b (tG G W js fg)) (hs : swapsWithSole [b] a pos.line X.env = pure false) (hw : swappedStores [b] a X.env = pure none) (h1 : (assignEach [b] X.env).map (·.2) = [assign b X.env]) :
    PS X (.Assign [b] a pos) (tS G W fun ρ st => (fa ρ st).bind fun x st => (fg x ρ st).bind fun ρ' st => .ok (.nx ρ') st) := by
  refine PS.imp (ps_asg he hg hs hw h1) fun D σ H ⟨e0, Mt, φ, ρ, st, ok, h⟩ => ?_
  refine sE ok h fun H1 Mt1 φ1 st1 x d ok1 e1 rd q => ⟨e0, Mt1, φ1, ρ, st1, d, ok1, rd, (PoS.bindG ok1.st q).mono fun σ' H2 _ ⟨Mt2, φ2, st2, ρ2, ok2, k2, q2⟩ => PoS.here q2 ok2⟩
theorem d_own {i : Nat} {x : Str} {px : Pos} (hN : X.N.Nodup) (hi : X.N[i]? = some x) (hx : Loc X.env.scope x) (hf : X.fn x = true ∨ X.env.scope.names.lookup x = some .local) (hl : PA X es (tL G W fl)) {lp : Pos} :
    PS X (.Assign [.Name x px] (.List es lp) pos) (tS G W fun ρ st => (fl ρ st).bind fun xs st => if xs.all D.strict && decide (xs.length ≤ sizeLine) then .ok (.nx (ρ.set i (.own (.ml xs)))) st else .stuck) := by
  refine PS.imp (ps_asg (pe_lst hl) (pg_name hN hi hx hf) rfl rfl rfl) fun D σ H ⟨e0, Mt, φ, ρ, st, ok, h⟩ => ?_
  refine sL ok h fun H1 Mt1 φ1 st1 xs ds ok1 e1 rd q => ?_
  split at q
  · rename_i hz
    rw [Bool.and_eq_true] at hz
    have rl := rd.strict hz.1
    refine ⟨by rw [rl.length]; exact of_decide_eq_true hz.2, fun p hp => ?_⟩
    obtain ⟨o2, k2⟩ := ok1.setOwn (i := i) hp rl
    exact q _ _ _ _ k2 o2
  · exact False.elim q
theorem d_aug {i : Nat} {x : Str} {op : Operator} {f : D → D → Store → Option D} {px : Pos} (hN : X.N.Nodup) (hi : X.N[i]? = some x) (hx : Loc X.env.scope x) (hf : X.fn x = true ∨ X.env.scope.names.lookup x = some .local) (ho : OpR X (inplaceOp op) (rOf G f)) (he : PE X a (tE G W fa)) :
    PS X (.AugAssign (.Name x px) op a pos) (tS G W fun ρ st => match getV ρ i with
      | some x => (fa ρ st).bind fun y st => (ofO (f x y st) st).bind fun z st => if z.strict then .ok (.nx (ρ.set i (.val z))) st else .stuck
      | none => .stuck) := by
  refine PS.imp (ps_aug hN hi hx he (show PIp X op (rOf G f) from ho) hf) fun D σ H ⟨e0, Mt, φ, ρ, st, ok, h⟩ => ?_
  dsimp only at h
  cases hv : getV ρ i with
  | none => rw [hv] at h; exact False.elim h
  | some d0 =>
    rw [hv] at h
    have hsl : ∃ v, σ[i]? = some (some v) ∧ RepV G H Mt φ d0 v := by
      unfold getV at hv
      cases er : ρ[i]? with
      | none => rw [er] at hv; cases hv
      | some sl =>
        rw [er] at hv
        cases sl with
        | un => cases hv
        | val d =>
          cases hv
          exact ok.sl i _ er
        | own mo =>
          cases mo with
          | ml ds =>
            cases hv
            obtain ⟨p, g1, g2, g3, g4, xs, g5, g6⟩ := ok.ow i _ er
            exact ⟨_, g1, p, xs, rfl, .inl g5, g3, g2, g6⟩
    obtain ⟨v, h1, h2⟩ := hsl
    refine ⟨v, h1, sE ok h fun H1 Mt1 φ1 st1 y e ok1 e1 re q => ?_⟩
    cases hr : f d0 e st1 with
    | none => rw [hr] at q; exact False.elim q
    | some z =>
      rw [hr] at q
      refine ⟨Mt1, φ1, st1, d0, e, z, ok1.st, e1.repV ok.st h2, re, hr, fun w H' e2 s2 rz => ?_⟩
      have q' : PoS G W e0 Mt1 φ1 H1 D (if z.strict then .ok (.nx (ρ.set i (.val z))) st1 else .stuck) := q
      split at q'
      · rename_i hs
        exact q' _ _ _ _ (e2.ks ok1.st) ((ok1.step e2 s2).setVal (rz.strict hs))
      · exact False.elim q'
theorem d_if (hc : PT X c (tT G W ga)) (h1 : PSs X sts (tS G W fs)) (h2 : PSs X rest (tS G W fr)) : PS X (.If c sts rest pos) (tS G W fun ρ st => (ga ρ st).bind fun k st => if k then fs ρ st else fr ρ st) := by
  refine PS.imp (ps_if hc h1 h2) fun D σ H ⟨e0, Mt, φ, ρ, st, ok, h⟩ => ?_
  refine sT ok h fun H1 Mt1 φ1 st1 k ok1 e1 q => ?_
  cases k with
  | true => rw [if_pos rfl]; exact ⟨e0, Mt1, φ1, ρ, st1, ok1, q⟩
  | false => rw [if_neg Bool.false_ne_true]; exact ⟨e0, Mt1, φ1, ρ, st1, ok1, q⟩
/-- x's own list stands still -/
theorem d_frz {i : Nat} (h : PS X s (tS G W fs)) : PS X s (tS G W fun ρ st => match ρ[i]? with | some (.own (.ml ds)) => fs (ρ.set i (.val (.lst ds))) st | _ => .stuck) := by
  refine PS.imp h fun D σ H ⟨e0, Mt, φ, ρ, st, ok, h⟩ => ?_
  dsimp only at h
  cases er : ρ[i]? with
  | none => rw [er] at h; exact False.elim h
  | some sl =>
    rw [er] at h
    cases sl with
    | own mo =>
      cases mo with
      | ml ds =>
        obtain ⟨Mt2, o2, k2⟩ := ok.freeze er
        exact ⟨e0, Mt2, φ, _, st, o2, PoS.ks h k2⟩
    | _ => exact False.elim h
/-- x.append(e), x a name that owns its list, or names a changing one -/
theorem d_append (hK : X.K = G.K) {i : Nat} {x name : Str} {px apos cpos : Pos} (hx : PE X (.Name x px) (tVar i)) (hl : PA X (a :: es) (tL G W fl)) (hn : name = "append")
    (hfew : ((backTo cpos (starEach (a :: es) X.env)).all (fun x => !x.1) && (backToKw cpos (keywordEach [] X.env)).all (fun x => x.1.isSome)
      && decide ((a :: es).length + ([] : List Keyword).length + (if ([] : List Keyword).isEmpty then 0 else 1) < 30)) = true)
    (hline : (apos.endLine == cpos.line) = true) (hs : starEach (a :: es) X.env = (false, eval a X.env) :: starEach es X.env) (hplain : (backTo cpos (starEach es X.env)).any (·.1) = false) :
    PS X (.Expr (.Call (.Attribute (.Name x px) name apos) (a :: es) [] cpos) pos) (tS G W fun ρ st => match ρ[i]? with
      | some (.own mo) => (fl ρ st).bind fun xs st => (ofO (mutD .append xs mo) st).bind fun mo' st => .ok (.nx (ρ.set i (.own mo'))) st
      | some (.val (.ref n)) => match st[n]? with
        | some _ => (fl ρ st).bind fun xs st => (ofO (st[n]?.bind (mutD .append xs)) st).bind fun mo' st => .ok (.nx ρ) (st.set n mo')
        | none => .stuck
      | _ => .stuck) := by
  subst hn
  refine PS.imp (ps_expr (pe_bm PySem.F.plainAttrs_list PySem.F.slot_list_append PySem.F.type_list_append mt_append hx hl rfl hfew hline hs hplain) rfl) fun D' σ H ⟨e0, Mt, φ, ρ, st, ok, h⟩ => ?_
  have app : ∀ {xs : List D} {mo mo' : MO}, mutD .append xs mo = some mo' → ∃ d ds, mo = .ml ds ∧ xs = [d] ∧ d.strict = true ∧ ds.length < sizeLine ∧ mo' = .ml (ds ++ [d]) := fun {xs mo mo'} hm => by
    cases mo with
    | ml ds =>
      unfold mutD at hm
      match xs, hm with
      | [d], hm =>
        dsimp only at hm
        split at hm
        · rename_i hc
          rw [Bool.and_eq_true] at hc
          exact ⟨d, ds, rfl, rfl, hc.1, of_decide_eq_true hc.2, (Option.some.inj hm).symm⟩
        · cases hm
      | [], hm => cases hm
      | _ :: _ :: _, hm => cases hm
  dsimp only at h
  cases er : ρ[i]? with
  | none => rw [er] at h; exact False.elim h
  | some sl =>
    rw [er] at h
    cases sl with
    | un => exact False.elim h
    | own mo =>
      obtain ⟨p, h1, h2, h3, h4, h5⟩ := ok.ow i mo er
      have hq : ∃ xs, SqL X.K H p xs := by
        cases mo with
        | ml ds => obtain ⟨xs, g1, _⟩ := h5; exact ⟨xs, .inl (.inl g1)⟩
      refine ⟨_, h1, .inl ⟨rfl, hq⟩, sL ok h fun H1 Mt1 φ1 st1 vs ds1 ok1 e1 rd q => ?_⟩
      cases hm : mutD .append ds1 mo with
      | none => rw [hm] at q; exact False.elim q
      | some mo' =>
        rw [hm] at q
        obtain ⟨d, ds, rfl, rfl, hd, hl, rfl⟩ := app hm
        obtain ⟨p', k1, k2, k3, k4, xs, k5, k6⟩ := ok1.ow i _ er
        rw [h1] at k1
        cases k1
        cases rd with
        | @cons _ v _ _ rv rn =>
          cases rn
          have rv' := rv.strict hd
          refine ⟨_, xs, v, rfl, rfl, k5, by rw [k6.length]; exact hl, ?_⟩
          exact q _ _ _ _ (Ks.write k2) (ok1.chgOwn er h1 ⟨_, upd_same, (Kp.write k2).repL _ _ (k6.append (.cons rv' .nil))⟩)
    | val d0 =>
      cases d0 with
      | ref n =>
        dsimp only at h
        obtain ⟨v0, h1, h2⟩ := ok.sl i _ er
        have h2' : Rep G H Mt φ (.ref n) v0 := h2
        unfold Rep at h2'
        obtain ⟨p, hp, rfl⟩ := h2'
        cases hn : st[n]? with
        | none => rw [hn] at h; exact False.elim h
        | some mo0 =>
          rw [hn] at h
          have h5 := ok.st.rep n p _ hp hn
          have hq : ∃ xs, SqL X.K H p xs := by
            cases mo0 with
            | ml ds => obtain ⟨xs, g1, _⟩ := h5; exact ⟨xs, .inl (.inl g1)⟩
          refine ⟨_, h1, .inl ⟨rfl, hq⟩, sL ok h fun H1 Mt1 φ1 st1 vs ds1 ok1 e1 rd q => ?_⟩
          cases hm : st1[n]?.bind (mutD .append ds1) with
          | none => rw [hm] at q; exact False.elim q
          | some mo' =>
            rw [hm] at q
            cases hn1 : st1[n]? with
            | none => rw [hn1] at hm; cases hm
            | some mo1 =>
              rw [hn1] at hm
              obtain ⟨d, ds, rfl, rfl, hd, hl, rfl⟩ := app hm
              have hp1 : φ1[n]? = some p := (e1.kp ok.st).at_ hp
              obtain ⟨xs, k5, k6⟩ := ok1.st.rep n p _ hp1 hn1
              have k2 := ok1.st.mt p (List.mem_of_getElem? hp1)
              cases rd with
              | @cons _ v _ _ rv rn =>
                cases rn
                have rv' := rv.strict hd
                refine ⟨_, xs, v, rfl, rfl, k5, by rw [k6.length]; exact hl, ?_⟩
                exact q _ _ _ _ (Ks.write k2) (ok1.chgRef hp1 ⟨_, upd_same, (Kp.write k2).repL _ _ (k6.append (.cons rv' .nil))⟩)
      | _ => exact False.elim h
end
end DL

set_option Elab.async false
set_option linter.all false
set_option maxRecDepth 100000
set_option maxHeartbeats 4000000
/-! loops, comprehensions, calls -/
namespace DL
open PySem PySem.Spec L2

section
variable {X : Cx} {W : WX} {G : Gl}
variable {a b c e tg iter : Expr} {es ts : List Expr} {fa fb fc : Env → Store → R D} {fl fit : Env → Store → R (List D)} {ga : Env → Store → R Bool} {fg : D → Env → Store → R Env} {fgs : List D → Env → Store → R Env} {fs fr ft : Env → Store → R Fl} {pos : Pos}
  {sts rest : List Stmt} {s : Stmt}
/-! ### while -/
theorem d_while {n : Nat} (hp : PassesOwn (model X.prog X.w) X.A X.env X.xe) (hc : PT X c (tT G W ga)) (hb : PSs X sts (tS G W fs)) : PS X (.While c sts [] pos) (tS G W fun ρ st => whileD ga fs n ρ st) := by
  refine PS.imp (ps_while hp hc hb) fun D' σ H ⟨e0, Mt, φ, ρ, st, ok, h⟩ => ?_
  refine ⟨fun m σ H => ∃ Mt φ ρ st, Ok G e0 H Mt φ ρ σ st ∧ PoS G W e0 Mt φ H D' (whileD ga fs m ρ st), ⟨n, Mt, φ, ρ, st, ok, h⟩, ?_⟩
  rintro m σ H ⟨Mt, φ, ρ, st, ok, h⟩
  cases m with
  | zero => exact False.elim h
  | succ m =>
    refine sT ok (show PoS G W e0 Mt φ H D' ((ga ρ st).bind _) from h) fun H1 Mt1 φ1 st1 k ok1 e1 q => ?_
    cases k with
    | false =>
      rw [if_neg Bool.false_ne_true]
      exact PoS.here q ok1
    | true =>
      rw [if_pos rfl]
      refine ⟨fun σ' H' => ∃ Mt φ ρ st, Ok G e0 H' Mt φ ρ σ' st ∧ PoS G W e0 Mt φ H' D' (whileD ga fs m ρ st), fun σ' H' n => ⟨m, Nat.lt_succ_self m, n⟩, e0, Mt1, φ1, ρ, st1, ok1, ?_⟩
      have q' : PoS G W e0 Mt1 φ1 H1 D' ((fs ρ st1).bind fun f st' => match f with
        | .nx ρ' => whileD ga fs m ρ' st'
        | .ct ρ' => whileD ga fs m ρ' st'
        | .bk ρ' => .ok (.nx ρ') st'
        | .rt d => .ok (.rt d) st') := q
      revert q'
      cases fs ρ st1 with
      | stuck => exact id
      | exc x s1 => exact id
      | ok f s1 =>
        cases f with
        | nx ρ1 => exact fun q' Mt' φ' H' σ' k o => ⟨Mt', φ', ρ1, s1, o, PoS.ks q' k⟩
        | ct ρ1 => exact fun q' Mt' φ' H' σ' k o => ⟨Mt', φ', ρ1, s1, o, PoS.ks q' k⟩
        | bk ρ1 => exact id
        | rt v => exact id

/-! ### what is walked -/
structure Yl (G : Gl) (J : It) (P : Hp → (Addr → Prop) → List Addr → Prop) (ds : List D) : Prop where
  kp : ∀ {H H' : Hp} {Mt Mt' : Addr → Prop} {φ φ' : List Addr}, P H Mt φ → Kp Mt φ H Mt' φ' H' → P H' Mt' φ'
  go : ∀ {H : Hp} {Mt : Addr → Prop} {φ : List Addr} (i : Nat), P H Mt φ → i < ds.length → J.go i H
  yld : ∀ {H : Hp} {Mt : Addr → Prop} {φ : List Addr} (i : Nat) (d : D) (x : V) (H' : Hp), P H Mt φ → ds[i]? = some d → J.yld i H x H' → (∀ st, StOk G H Mt φ st → StOk G H' Mt φ st ∧ Ext Mt φ H Mt φ H' ∧ Rep G H' Mt φ d x)
  stop : ∀ {H : Hp} {Mt : Addr → Prop} {φ : List Addr}, P H Mt φ → J.stop ds.length H
abbrev relI (G : Gl) : Hp → (Addr → Prop) → List Addr → List D → It → Prop := fun H Mt φ ds J => ∃ P, Yl G J P ds ∧ P H Mt φ
def tI (G : Gl) (W : WX) (f : Env → Store → R (List D)) : TI := fun σ H Q => ∃ e0 Mt φ ρ st, Ok G e0 H Mt φ ρ σ st ∧ Po G W σ (relI G) Mt φ H (f ρ st) fun J H' => Q J H'
theorem PI.imp {X : Cx} {tg e : Expr} {t t' : TI} (h : PI X tg e t) (i : ∀ σ H Q, t' σ H Q → t σ H Q) : PI X tg e t' := ⟨fun pins s σ H Q I q => h.run pins s σ H Q I (i _ _ _ q)⟩
theorem yl_range (lo : Int) (n : Nat) : Yl G (Itr lo n) (fun _ _ _ => True) (rngD lo n) where
  kp := fun _ _ => trivial
  go := fun i _ h => by
    have : (rngD lo n).length = n := by unfold rngD; rw [List.length_map, List.length_range]
    rw [this] at h
    exact h
  yld := fun i d x H' _ h y st s => by
    obtain ⟨rfl, rfl⟩ := y
    refine ⟨s, Ext.refl, ?_⟩
    unfold rngD at h
    rw [List.getElem?_map] at h
    cases q : (List.range n)[i]? with
    | none => rw [q] at h; cases h
    | some j =>
      rw [q] at h
      have hlt := (List.getElem?_eq_some_iff.mp q).1
      rw [List.length_range] at hlt
      rw [List.getElem?_range hlt] at q
      cases q
      have e : d = .int (lo + (i : Int)) := (Option.some.inj h).symm
      subst e
      unfold Rep
      rfl
  stop := fun _ => by
    have : (rngD lo n).length = n := by unfold rngD; rw [List.length_map, List.length_range]
    rw [this]
    exact Nat.le_refl n
theorem yl_list {a : Addr} {ds : List D} : Yl G (Itl G.K a) (fun H Mt φ => ∃ xs, SL G H Mt a xs ∧ RepL G H Mt φ ds xs) ds where
  kp := fun ⟨xs, h1, h2⟩ k => ⟨xs, k.sl h1, k.repL _ _ h2⟩
  go := fun i ⟨xs, h1, h2⟩ h => ⟨xs, xs[i]'(by rw [h2.length]; exact h), h1.sq, List.getElem?_eq_getElem _⟩
  yld := fun i d x H' ⟨xs, h1, h2⟩ h y st s => by
    obtain ⟨rfl, y⟩ := y
    obtain ⟨x', g1, g2⟩ := h2.get h
    have := y xs h1.sq
    rw [g1] at this
    cases this
    exact ⟨s, Ext.refl, g2⟩
  stop := fun ⟨xs, h1, h2⟩ => ⟨xs, h1.sq, by rw [h2.length]; exact Nat.le_refl _⟩
theorem yl_tup {a : Addr} {ds : List D} : Yl G (Itt G.K a) (fun H Mt φ => ∃ xs, ST G H Mt a xs ∧ RepL G H Mt φ ds xs) ds where
  kp := fun ⟨xs, h1, h2⟩ k => ⟨xs, k.st h1, k.repL _ _ h2⟩
  go := fun i ⟨xs, h1, h2⟩ h => ⟨xs, xs[i]'(by rw [h2.length]; exact h), h1.sq, List.getElem?_eq_getElem _⟩
  yld := fun i d x H' ⟨xs, h1, h2⟩ h y st s => by
    obtain ⟨rfl, y⟩ := y
    obtain ⟨x', g1, g2⟩ := h2.get h
    have := y xs h1.sq
    rw [g1] at this
    cases this
    exact ⟨s, Ext.refl, g2⟩
  stop := fun ⟨xs, h1, h2⟩ => ⟨xs, h1.sq, by rw [h2.length]; exact Nat.le_refl _⟩
theorem goI {σ : St} {H : Hp} {e0 : Ent} {Mt : Addr → Prop} {φ : List Addr} {ρ : Env} {st : Store} {α β : Type} {rel : Hp → (Addr → Prop) → List Addr → α → β → Prop} {Q : β → Hp → Prop}
    {f : Env → Store → R (List D)} {k : List D → Store → R α} (ok : Ok G e0 H Mt φ ρ σ st) (h : Po G W σ rel Mt φ H ((f ρ st).bind k) Q) {Q1 : It → Hp → Prop}
    (hk : ∀ H1 Mt1 φ1 st1 J P ds, Ok G e0 H1 Mt1 φ1 ρ σ st1 → Ext Mt φ H Mt1 φ1 H1 → f ρ st = .ok ds st1 → Yl G J P ds → P H1 Mt1 φ1 → Po G W σ rel Mt1 φ1 H1 (k ds st1) Q → Q1 J H1) : tI G W f σ H Q1 := by
  refine ⟨e0, Mt, φ, ρ, st, ok, ?_⟩
  cases hr : f ρ st with
  | stuck => rw [hr] at h; exact h
  | exc x s1 => rw [hr] at h; exact h
  | ok ds s1 =>
    rw [hr] at h
    exact fun Mt' φ' H' J e s ⟨P, y, p⟩ => hk H' Mt' φ' s1 J P ds (ok.step e s) e hr y p (Po.ext h e)
theorem sI {σ : St} {H : Hp} {e0 : Ent} {Mt : Addr → Prop} {φ : List Addr} {ρ : Env} {st : Store} {D' : Ends}
    {f : Env → Store → R (List D)} {k : List D → Store → R Fl} (ok : Ok G e0 H Mt φ ρ σ st) (h : PoS G W e0 Mt φ H D' ((f ρ st).bind k)) {Q1 : It → Hp → Prop}
    (hk : ∀ H1 Mt1 φ1 st1 J P ds, Ok G e0 H1 Mt1 φ1 ρ σ st1 → Ext Mt φ H Mt1 φ1 H1 → Yl G J P ds → P H1 Mt1 φ1 → PoS G W e0 Mt1 φ1 H1 D' (k ds st1) → Q1 J H1) : tI G W f σ H Q1 :=
  ⟨e0, Mt, φ, ρ, st, ok, (PoS.bind ok h).mono fun J H1 ⟨Mt1, φ1, st1, d, o1, e1, ⟨P, y, p⟩, q⟩ => hk H1 Mt1 φ1 st1 J P d o1 e1 y p q⟩
theorem repInt {H : Hp} {Mt : Addr → Prop} {φ : List Addr} {i : Int} {x : V} (h : RepV G H Mt φ (.int i) x) : x = .int i := by
  have r' : Rep G H Mt φ (.int i) x := h
  unfold Rep at r'
  exact r'
theorem d_rng1 {p : Pos} (hg : L2.Gl X "range") (hm : X.mg "range" = none) (ha : PE X a (tE G W fa)) (hs : starEach [a] X.env = [(false, eval a X.env)]) :
    PI X tg (.Call (.Name "range" p) [a] [] pos) (tI G W fun ρ st => (fa ρ st).bind fun x st => ofO (rng1O x) st) := by
  refine PI.imp (pi_range1 hg hm (pa_cons ha pa_nil hs) hs) fun σ H Q ⟨e0, Mt, φ, ρ, st, ok, h⟩ => ?_
  refine goE ok h fun H1 Mt1 φ1 st1 v d ok1 e1 rd q => ?_
  cases d with
  | int n =>
    dsimp only [rng1O] at q
    split at q
    · rename_i hz
      have e := repInt rd
      subst e
      exact ⟨n, rfl, hz.1, hz.2, q _ _ _ _ Ext.refl ok1.st ⟨_, yl_range 0 n.toNat, trivial⟩⟩
    · exact False.elim q
  | _ => exact False.elim q
theorem d_rng2 {p : Pos} (hg : L2.Gl X "range") (hm : X.mg "range" = none) (ha : PE X a (tE G W fa)) (hb : PE X b (tE G W fb)) (hs : starEach [a, b] X.env = [(false, eval a X.env), (false, eval b X.env)]) (hs2 : starEach [b] X.env = [(false, eval b X.env)]) :
    PI X tg (.Call (.Name "range" p) [a, b] [] pos) (tI G W fun ρ st => (fa ρ st).bind fun x st => (fb ρ st).bind fun y st => ofO (rng2O x y) st) := by
  refine PI.imp (pi_range2 hg hm (pa_cons ha (pa_cons hb pa_nil hs2) (by rw [hs, hs2])) hs hs2) fun σ H Q ⟨e0, Mt, φ, ρ, st, ok, h⟩ => ?_
  refine goE ok h fun H1 Mt1 φ1 st1 v d ok1 e1 rd q => goE ok1 q fun H2 Mt2 φ2 st2 u e ok2 e2 re q => ?_
  cases d with
  | int i =>
    cases e with
    | int j =>
      dsimp only [rng2O] at q
      split at q
      · rename_i hz
        have e := repInt rd
        subst e
        have e := repInt re
        subst e
        exact ⟨i, j, rfl, hz, q _ _ _ _ Ext.refl ok2.st ⟨_, yl_range i (j - i).toNat, trivial⟩⟩
      · exact False.elim q
    | _ => exact False.elim q
  | _ => exact False.elim q
/-- a list or a tuple, walked -/
theorem d_walk (hK : X.K = G.K) (ha : PE X a (tE G W fa)) : PI X tg a (tI G W fun ρ st => (fa ρ st).bind fun x st => ofO (walkO x) st) := by
  refine ⟨fun pins s σ H Q I h => ?_⟩
  obtain ⟨e0, Mt, φ, ρ, st, ok, h⟩ := h
  dsimp only at h
  cases hr : fa ρ st with
  | stuck => rw [hr] at h; exact False.elim h
  | exc x s1 =>
    refine (pi_list ha).run pins s σ H Q I ⟨e0, Mt, φ, ρ, st, ok, ?_⟩
    rw [hr] at h ⊢
    exact h
  | ok d0 s1 =>
    have h' := h
    rw [hr] at h'
    cases d0 with
    | tup ds =>
      refine (pi_tup ha).run pins s σ H Q I ⟨e0, Mt, φ, ρ, st, ok, ?_⟩
      rw [hr]
      intro Mt' φ' H' v e s2 r
      have r' : Rep G H' Mt' φ' (.tup ds) v := r
      unfold Rep at r'
      obtain ⟨p, xs, rfl, h1, h2⟩ := r'
      refine ⟨p, rfl, ⟨xs, by rw [hK]; exact h1.sq⟩, ?_⟩
      rw [hK]
      exact h' _ _ _ _ e s2 ⟨_, yl_tup, xs, h1, h2⟩
    | lst ds =>
      refine (pi_list ha).run pins s σ H Q I ⟨e0, Mt, φ, ρ, st, ok, ?_⟩
      rw [hr]
      intro Mt' φ' H' v e s2 r
      have r' : Rep G H' Mt' φ' (.lst ds) v := r
      unfold Rep at r'
      obtain ⟨p, xs, rfl, h1, h2⟩ := r'
      refine ⟨p, rfl, ⟨xs, by rw [hK]; exact h1.sq⟩, ?_⟩
      rw [hK]
      exact h' _ _ _ _ e s2 ⟨_, yl_list, xs, h1, h2⟩
    | _ => exact False.elim h'

/-! ### for -/
theorem d_for {js : List Nat} (hp : PassesOwn (model X.prog X.w) X.A X.env X.xe) (hc : X.calm = true) (hi : PI X tg iter (tI G W fit)) (hg : PG X tg (tG G W js fg)) (hb : PSs X sts (tS G W fs))
    (hs : ∀ x, foldedSetIterable iter X.env x = pure x) :
    PS X (.For tg iter sts [] pos) (tS G W fun ρ st => (fit ρ st).bind fun xs st => forD (fun x ρ st => (fg x ρ st).bind fun ρ' st => fs ρ' st) xs ρ st) := by
  refine PS.imp (ps_for hp hc hi hg hb hs) fun D' σ H ⟨e0, Mt, φ, ρ, st, ok, h⟩ => ?_
  refine sI ok h fun H1 Mt1 φ1 st1 J P ds ok1 e1 y p q => ?_
  refine ⟨fun i m σ H => m = ds.length - i ∧ i ≤ ds.length ∧ ∃ Mt φ ρ st, Ok G e0 H Mt φ ρ σ st ∧ P H Mt φ ∧ PoS G W e0 Mt φ H D' (forD (fun x ρ st => (fg x ρ st).bind fun ρ' st => fs ρ' st) (ds.drop i) ρ st),
    ⟨ds.length, by simp, Nat.zero_le _, Mt1, φ1, ρ, st1, ok1, p, q⟩, ?_⟩
  rintro i m σ H ⟨rfl, hi, Mt, φ, ρ, st, ok, p, q⟩
  by_cases hlt : i < ds.length
  · refine .inr ⟨y.go i p hlt, fun σ' H' => i + 1 ≤ ds.length ∧ ∃ Mt φ ρ st, Ok G e0 H' Mt φ ρ σ' st ∧ P H' Mt φ ∧ PoS G W e0 Mt φ H' D' (forD (fun x ρ st => (fg x ρ st).bind fun ρ' st => fs ρ' st) (ds.drop (i + 1)) ρ st),
      fun σ' H' n => ⟨ds.length - (i + 1), by omega, rfl, n⟩, fun x H' yl => ?_⟩
    obtain ⟨s', e', r'⟩ := y.yld i ds[i] x H' p (List.getElem?_eq_getElem hlt) yl st ok.st
    have ok' := ok.step e' s'
    have p' := y.kp p (e'.kp ok.st)
    rw [List.drop_eq_getElem_cons hlt] at q
    have q1 : PoS G W e0 Mt φ H D' (((fg ds[i] ρ st).bind fun ρ' st => fs ρ' st).bind fun f st' => match f with
        | .nx ρ' => forD (fun x ρ st => (fg x ρ st).bind fun ρ' st => fs ρ' st) (ds.drop (i + 1)) ρ' st'
        | .ct ρ' => forD (fun x ρ st => (fg x ρ st).bind fun ρ' st => fs ρ' st) (ds.drop (i + 1)) ρ' st'
        | .bk ρ' => .ok (.nx ρ') st'
        | .rt d => .ok (.rt d) st') := q
    rw [R.bind_bind] at q1
    have q2 := PoS.ks q1 (e'.ks ok.st)
    refine ⟨e0, Mt, φ, ρ, st, ds[i], ok', RepV.of r', (PoS.bindG ok'.st q2).mono fun σ2 H2 _ ⟨Mt2, φ2, st2, ρ2, ok2, e2, q3⟩ => ⟨e0, Mt2, φ2, ρ2, st2, ok2, ?_⟩⟩
    have p2 := y.kp p' (e2.kp ok'.st)
    revert q3
    cases fs ρ2 st2 with
    | stuck => exact id
    | exc x s1 => exact id
    | ok f s1 =>
      cases f with
      | nx ρ1 => exact fun q' Mt' φ' H' σ' k o => ⟨hlt, Mt', φ', ρ1, s1, o, y.kp p2 k.toKp, PoS.ks q' k⟩
      | ct ρ1 => exact fun q' Mt' φ' H' σ' k o => ⟨hlt, Mt', φ', ρ1, s1, o, y.kp p2 k.toKp, PoS.ks q' k⟩
      | bk ρ1 => exact id
      | rt v => exact id
  · have e : i = ds.length := by omega
    subst e
    rw [List.drop_length] at q
    exact .inl ⟨y.stop p, PoS.here q ok⟩
end
end DL

set_option Elab.async false
set_option linter.all false
set_option maxRecDepth 100000
set_option maxHeartbeats 4000000
/-! comprehensions, calls, defs -/
namespace DL
open PySem PySem.Spec L2

/-- what a block's code may let out: nothing -/
abbrev WF : WX := fun _ _ _ _ => False

section
variable {G : Gl} {W : WX} {σ : St} {H : Hp} {e0 : Ent} {Mt : Addr → Prop} {φ : List Addr} {ρ : Env} {st : Store}
theorem Ok.wipe (o : Ok G e0 H Mt φ ρ σ st) : ∀ vs : List Nat, Ok G e0 H Mt φ (wipeE ρ vs) (wipe σ vs) st
  | [] => o
  | i :: r => (Ok.wipe o r).setUn
theorem wipe_get {σ : St} : ∀ {vs : List Nat} {j : Nat}, (L2.wipe σ vs)[j]? = if j ∈ vs then (σ[j]?).map (fun _ => none) else σ[j]?
  | [], j => by simp [L2.wipe]
  | i :: r, j => by
    show ((L2.wipe σ r).set i none)[j]? = _
    by_cases e : j = i
    · subst e
      rw [if_pos List.mem_cons_self]
      by_cases h : j < σ.length
      · rw [List.getElem?_set_self (by rw [wipe_length]; exact h), List.getElem?_eq_getElem h]
        rfl
      · have h1 : σ[j]? = none := List.getElem?_eq_none_iff.mpr (by omega)
        have h2 : ((L2.wipe σ r).set j none)[j]? = none := List.getElem?_eq_none_iff.mpr (by rw [List.length_set, wipe_length]; omega)
        rw [h1, h2]
        rfl
    · rw [List.getElem?_set_ne (Ne.symm e), wipe_get]
      have : (j ∈ i :: r) ↔ j ∈ r := by simp [e]
      simp only [this]
theorem wipe_at {σ σ' : St} {vs js : List Nat} (hj : ∀ j ∈ js, j ∈ vs) (a : At js (L2.wipe σ vs) σ') : L2.wipe σ' vs = L2.wipe σ vs := by
  have hl : σ'.length = σ.length := a.len.trans (wipe_length σ vs)
  apply List.ext_getElem?
  intro j
  rw [wipe_get]
  by_cases h : j ∈ vs
  · rw [if_pos h, wipe_get, if_pos h]
    by_cases hlt : j < σ.length
    · rw [List.getElem?_eq_getElem hlt, List.getElem?_eq_getElem (by omega)]
      rfl
    · rw [List.getElem?_eq_none_iff.mpr (by omega), List.getElem?_eq_none_iff.mpr (by omega)]
  · rw [if_neg h]
    exact a.same j fun z => h (hj j z)
/-- a fresh object is added to what changes -/
theorem StOk.newMt {p : Addr} {o : HO} (s : StOk G H Mt φ st) (hp : H p = none) :
    Ext Mt φ H (fun a => Mt a ∨ a = p) φ (upd H p o) ∧ StOk G (upd H p o) (fun a => Mt a ∨ a = p) φ st := by
  have e : Ext Mt φ H (fun a => Mt a ∨ a = p) φ (upd H p o) := ⟨⟨[], by simp⟩, (Ext.laid (Mt := Mt) (φ := φ) hp).keep, (Ext.laid (Mt := Mt) (φ := φ) hp).some, fun _ h => .inl h, fun a (h : Mt a ∨ a = p) => h.imp id fun z => by rw [z]; exact hp, fun _ h => .inl h⟩
  refine ⟨e, s.len, s.nd, fun a h => .inl (s.mt a h), fun a h => ?_, fun n a mo h1 h2 => (s.rep n a mo h1 h2).kp (e.kp s) (upd_ne fun z => ?_)⟩
  · rcases h with h | h
    · exact e.some a (s.mtH a h)
    · rw [h, upd_same]; exact fun z => nomatch z
  · subst z
    exact s.mtH _ (s.mt _ (List.mem_of_getElem? h1)) hp
/-- an object at p that changes, but that no slot and no store bears, is written -/
theorem Ok.chgFree {p : Addr} {o' : HO} (o : Ok G e0 H Mt φ ρ σ st) (hm : Mt p) (hφ : p ∉ φ) (he : e0.H p = none) (hn : ¬ e0.Mt p) (how : ∀ (i : Nat) (mo : MO), ρ[i]? = some (.own mo) → σ[i]? ≠ some (some (.ref p))) :
    Ok G e0 (upd H p o') Mt φ ρ σ st := by
  refine ⟨⟨o.st.len, o.st.nd, o.st.mt, fun a h => (Ks.write (φ := φ) hm).some a (o.st.mtH a h), fun n a m h1 h2 => (o.st.rep n a m h1 h2).write hm fun z => hφ (z ▸ List.mem_of_getElem? h1)⟩, o.ext.write0 (.inr he), o.len, fun j d h => ?_, fun j m h => ?_, o.vw, o.ap⟩
  · obtain ⟨x, g1, g2⟩ := o.sl j d h
    refine ⟨x, g1, ?_⟩
    cases d with
    | vl ds =>
      obtain ⟨a, xs, rfl, q1, q2, q3, q4⟩ := g2
      obtain ⟨b, hb, hmb⟩ := o.vw j ds h
      rw [g1] at hb
      cases hb
      have ne : a ≠ p := fun z => hn (z ▸ hmb)
      refine ⟨a, xs, rfl, ?_, q2, q3, (Kp.write hm).repL _ _ q4⟩
      rcases q1 with q1 | ⟨ob, q1⟩
      · exact .inl (by rw [upd_ne ne]; exact q1)
      · exact .inr ⟨ob, by rw [upd_ne ne]; exact q1⟩
    | _ => exact (Kp.write hm).rep _ _ g2
  · obtain ⟨a, g1, g2, g3, g4, g5⟩ := o.ow j m h
    exact ⟨a, g1, g2, g3, g4, g5.write hm fun z => how j m h (by rw [g1, z])⟩
end

theorem R.bind_ok_inv {α β : Type} {r : R α} {k : α → Store → R β} {b : β} {s2 : Store} (h : r.bind k = .ok b s2) : ∃ a s1, r = .ok a s1 ∧ k a s1 = .ok b s2 := by
  cases r with
  | ok a s1 => exact ⟨a, s1, rfl, h⟩
  | stuck => cases h
  | exc x s => cases h
theorem lcD_cons {turn : D → Store → R (Option D)} {x : D} {xs ys : List D} {st sT : Store} (h : lcD turn (x :: xs) st = .ok ys sT) :
    ∃ o s1 r, turn x st = .ok o s1 ∧ lcD turn xs s1 = .ok r sT ∧ ys = o.toList ++ r := by
  unfold lcD at h
  obtain ⟨o, s1, h1, h⟩ := R.bind_ok_inv h
  obtain ⟨r, s2, h2, h⟩ := R.bind_ok_inv h
  cases o with
  | none => cases h; exact ⟨none, s1, ys, h1, h2, rfl⟩
  | some d => cases h; exact ⟨some d, s1, r, h1, h2, rfl⟩

section
variable {X : Cx} {W : WX} {G : Gl}
variable {elt tg iter : Expr} {ifs : List Expr} {scope : Scope} {own : List (Str × Nat)} {fe : Env → Store → R D} {fit : Env → Store → R (List D)} {gt : Env → Store → R Bool} {fg : D → Env → Store → R Env} {js : List Nat} {pos : Pos}
/-- the reading of a comprehension by data -/
theorem lc_read (hjs : ∀ j ∈ js, j ∈ own.map (·.2)) {σ : St} {H : Hp} {Q : VK} {e0 : Ent} {Mt : Addr → Prop} {φ : List Addr} {ρ : Env} {st : Store} (ok : Ok G e0 H Mt φ ρ σ st)
    (h : Po G W σ (relE G) Mt φ H ((fit ρ st).bind fun xs st => (noX (lcD (lcT fg gt fe (wipeE ρ (own.map (·.2)))) xs st)).bind fun ys st => if ys.length < sizeLine then .ok (.lst ys) st else .stuck) Q) :
    tLc (tI G W fit) (tG G WF js fg) (tT G WF gt) (tE G WF fe) (own.map (·.2)) σ H Q := by
  refine goI ok h fun H1 Mt1 φ1 st1 J P ds ok1 e1 hf y p q D hD => ?_
  obtain ⟨vs, hvs⟩ : ∃ vs, vs = own.map (·.2) := ⟨_, rfl⟩
  rw [← hvs] at q hjs ⊢
  -- the whole row
  obtain ⟨yT, sT, hT, hz⟩ : ∃ yT sT, lcD (lcT fg gt fe (wipeE ρ vs)) ds st1 = .ok yT sT ∧ yT.length < sizeLine := by
    cases hr : lcD (lcT fg gt fe (wipeE ρ vs)) ds st1 with
    | stuck => rw [hr] at q; exact False.elim q
    | exc x s => rw [hr] at q; exact False.elim q
    | ok ys s =>
      rw [hr] at q
      have q' : Po G W σ (relE G) Mt1 φ1 H1 (if ys.length < sizeLine then R.ok (.lst ys) s else .stuck) Q := q
      split at q'
      · rename_i hz
        exact ⟨ys, s, rfl, hz⟩
      · exact False.elim q'
  rw [hT] at q
  have qT : Po G W σ (relE G) Mt1 φ1 H1 (.ok (.lst yT) sT) Q := by
    have q' : Po G W σ (relE G) Mt1 φ1 H1 (if yT.length < sizeLine then R.ok (.lst yT) sT else .stuck) Q := q
    rwa [if_pos hz] at q'
  have nM : ¬ Mt1 D := fun z => ok1.st.mtH D z hD
  have nφ : D ∉ φ1 := fun z => nM (ok1.st.mt D z)
  have e0D : e0.H D = none := by
    cases z : e0.H D with
    | none => rfl
    | some o => exact absurd hD (ok1.ext.some D (by rw [z]; exact fun z => nomatch z))
  have nM0 : ¬ e0.Mt D := fun z => nM (ok1.ext.mt1 D z)
  have freshD : ∀ (i : Nat) (mo : MO), ρ[i]? = some (.own mo) → σ[i]? ≠ some (some (.ref D)) := fun i mo h z => by
    obtain ⟨b, g1, g2, _⟩ := ok1.ow i mo h
    rw [z] at g1
    cases g1
    exact nM g2
  obtain ⟨eD, sD⟩ := ok1.st.newMt (o := .lst []) hD
  refine ⟨fun i m H => m = ds.length - i ∧ i ≤ ds.length ∧ ∃ (Mt : Addr → Prop) (φ : List Addr) (st : Store) (acc : List V) (da yr : List DL.D), Ok G e0 H Mt φ ρ σ st ∧ P H Mt φ ∧ Mt D ∧ D ∉ φ ∧ H D = some (.lst acc) ∧ RepL G H Mt φ da acc ∧
      Ext Mt1 φ1 H1 Mt φ H ∧ lcD (lcT fg gt fe (wipeE ρ vs)) (ds.drop i) st = .ok yr sT ∧ yT = da ++ yr,
    ⟨ds.length, by simp, Nat.zero_le _, _, φ1, st1, [], [], yT, ok1.step eD sD, y.kp p (eD.kp ok1.st), .inr rfl, nφ, upd_same, .nil, eD, hT, rfl⟩, ?_⟩
  rintro i m H ⟨rfl, hi, Mt, φ, st, acc, da, yr, ok2, p2, mD, dφ, hHD, rda, e2, hl, hy⟩
  by_cases hlt : i < ds.length
  · rw [List.drop_eq_getElem_cons hlt] at hl
    obtain ⟨oy, s3, yr2, h3, h4, rfl⟩ := lcD_cons hl
    unfold lcT at h3
    obtain ⟨ρ2, s5, h5, h3⟩ := R.bind_ok_inv h3
    obtain ⟨k, s6, h6, h3⟩ := R.bind_ok_inv h3
    refine .inr ⟨y.go i p2 hlt, fun H' => ∃ (Mt : Addr → Prop) (φ : List Addr) (st : Store) (acc : List V) (da yr : List DL.D), Ok G e0 H' Mt φ ρ σ st ∧ P H' Mt φ ∧ Mt D ∧ D ∉ φ ∧ H' D = some (.lst acc) ∧ RepL G H' Mt φ da acc ∧
      Ext Mt1 φ1 H1 Mt φ H' ∧ lcD (lcT fg gt fe (wipeE ρ vs)) (ds.drop (i + 1)) st = .ok yr sT ∧ yT = da ++ yr, fun H' n => ⟨ds.length - (i + 1), by omega, rfl, hlt, n⟩, fun x H' yl => ?_⟩
    obtain ⟨s', e', r'⟩ := y.yld i ds[i] x H' p2 (List.getElem?_eq_getElem hlt) yl st ok2.st
    have ok' := ok2.step e' s'
    refine ⟨e0, Mt, φ, wipeE ρ vs, st, ds[i], ok'.wipe vs, RepV.of r', ?_⟩
    rw [h5]
    intro Mt5 φ5 H5 σ5 e5 ok5 at5
    refine ⟨wipe_at hjs at5, e0, Mt5, φ5, ρ2, s5, ok5, ?_⟩
    rw [h6]
    intro Mt6 φ6 H6 b e6 st6 hb
    subst hb
    have eAll : Ext Mt φ H Mt6 φ6 H6 := (e'.trans e5).trans e6
    have st6' := st6
    have ok6 : Ok G e0 H6 Mt6 φ6 ρ σ s6 := ok2.step eAll st6
    cases b with
    | false =>
      rw [if_neg Bool.false_ne_true] at h3 ⊢
      cases h3
      exact ⟨Mt6, φ6, s3, acc, da, yr2, ok6, y.kp p2 (eAll.kp ok2.st), eAll.mt1 D mD, fun z => (eAll.new D z).elim dφ (by rw [hHD]; exact fun z => nomatch z), eAll.keep D _ hHD dφ, eAll.repL ok2.st rda, e2.trans eAll, h4, hy⟩
    | true =>
      rw [if_pos rfl] at h3 ⊢
      obtain ⟨yv, s7, h7, h3⟩ := R.bind_ok_inv h3
      have hs : yv.strict = true ∧ oy = some yv ∧ s3 = s7 := by
        revert h3
        cases yv.strict with
        | true => intro h3; cases h3; exact ⟨rfl, rfl, rfl⟩
        | false => intro h3; cases h3
      obtain ⟨hs, rfl, rfl⟩ := hs
      refine ⟨e0, Mt6, φ6, ρ2, s6, ok5.step e6 st6, ?_⟩
      rw [h7]
      intro Mt7 φ7 H7 v e7 st7 rv
      have eB : Ext Mt φ H Mt7 φ7 H7 := eAll.trans e7
      have dφ7 : D ∉ φ7 := fun z => (eB.new D z).elim dφ (by rw [hHD]; exact fun z => nomatch z)
      have hD7 : H7 D = some (.lst acc) := eB.keep D _ hHD dφ
      have mD7 := eB.mt1 D mD
      have ok7 : Ok G e0 H7 Mt7 φ7 ρ σ s3 := ok2.step eB st7
      have ra := eB.repL ok2.st rda
      have hal : acc.length < sizeLine := by
        rw [ra.length]
        rw [hy] at hz
        simp at hz
        omega
      refine ⟨acc, hD7, hal, Mt7, φ7, s3, acc ++ [v], da ++ [yv], yr2, ok7.chgFree mD7 dφ7 e0D nM0 freshD, y.kp (y.kp p2 (eB.kp ok2.st)) (Kp.write mD7), mD7, dφ7, upd_same, (Kp.write mD7).repL _ _ (ra.append (.cons (rv.strict hs) .nil)), ?_, h4, by rw [hy]; simp⟩
      exact (e2.trans eB).write0 (e0 := ⟨H1, Mt1, φ1⟩) (.inr hD)
  · have e : i = ds.length := by omega
    subst e
    rw [List.drop_length] at hl
    have hl' : R.ok ([] : List DL.D) st = .ok yr sT := hl
    cases hl'
    rw [List.append_nil] at hy
    subst hy
    refine .inl ⟨y.stop p2, ?_⟩
    -- the list stands still from here on
    have l : ∀ a, (Mt a ∧ a ≠ D) → Mt a := fun a h => h.1
    have k : Kp Mt φ H (fun a => Mt a ∧ a ≠ D) φ H := ⟨fun _ _ h _ => h, fun a h => .inl h.1, [], by simp⟩
    refine qT (fun a => Mt a ∧ a ≠ D) φ H _ ⟨e2.pre, e2.keep, e2.some, fun a h => ⟨e2.mt1 a h, fun z => nM (z ▸ h)⟩, fun a h => e2.mt2 a h.1, e2.new⟩
      ⟨ok2.st.len, ok2.st.nd, fun a h => ⟨ok2.st.mt a h, fun z => dφ (z ▸ h)⟩, fun a h => ok2.st.mtH a h.1, fun n a mo h1 h2 => (ok2.st.rep n a mo h1 h2).kp k rfl⟩ (RepV.of ?_)
    unfold Rep
    exact ⟨D, acc, rfl, .inl ⟨.inl hHD, fun z => z.2 rfl⟩, k.repL _ _ rda⟩
end
end DL

set_option Elab.async false
set_option linter.all false
set_option maxRecDepth 100000
set_option maxHeartbeats 4000000
/-! comprehensions as expressions, calls, defs, values side by side -/
namespace DL
open PySem PySem.Spec L2

section
variable {X : Cx} {W : WX} {G : Gl}
variable {a b c e tg iter elt : Expr} {es ts ifs : List Expr} {fa fb fc fe : Env → Store → R D} {fl fit : Env → Store → R (List D)} {ga gt : Env → Store → R Bool} {fg : D → Env → Store → R Env} {fs fr ft : Env → Store → R Fl} {pos : Pos}
  {scope : Scope} {own : List (Str × Nat)} {js : List Nat}
theorem d_tsnil : PTs X [] (tT G W fun _ st => .ok true st) := ⟨fun pins s σ H Q I ⟨e0, Mt, φ, ρ, st, ok, h⟩ => pts_nil.run pins s σ H Q I (Po.here (st := st) h ok.st rfl)⟩
theorem d_tsone (h : PT X c (tT G W ga)) : PTs X [c] (tT G W ga) := pts_one h
theorem d_lc (hjs : ∀ j ∈ js, j ∈ own.map (·.2)) (hc : X.calm = true) (hN : X.N.Nodup) (hi : PI X tg iter (tI G W fit)) (ok : BlkOk X.N X.env.scope scope own)
    (hg : ∀ (s : Shared) (H : Hp) (C : Addr) (cl : List (Str × Addr)) (fp : List Addr), PG (X.blk s H scope (compEnvC scope cl C X.env) fp) tg (tG G WF js fg))
    (ht : ∀ (s : Shared) (H : Hp) (C : Addr) (cl : List (Str × Addr)) (fp : List Addr), PTs (X.blk s H scope (compEnvC scope cl C X.env) fp) ifs (tT G WF gt))
    (he : ∀ (s : Shared) (H : Hp) (C : Addr) (cl : List (Str × Addr)) (fp : List Addr), PE (X.blk s H scope (compEnvC scope cl C X.env) fp) elt (tE G WF fe)) (hs : ∀ x, foldedSetIterable iter X.env x = pure x) :
    PE X (.ListComp elt [⟨tg, iter, ifs, 0⟩] scope pos) (tE G W (lcE fit fg gt fe (own.map (·.2)))) :=
  PE.imp (pe_lc hc hN hi ok hg ht he hs) fun σ H Q ⟨e0, Mt, φ, ρ, st, ok, h⟩ => lc_read hjs ok h
theorem d_setLc {i : Nat} {y : Str} {py spos : Pos} (hjs : ∀ j ∈ js, j ∈ own.map (·.2)) (hc : X.calm = true) (hN : X.N.Nodup) (hy : X.N[i]? = some y) (hyl : X.env.scope.names.lookup y = some .local)
    (hsw : swapsWith (.ListComp elt [⟨tg, iter, ifs, 0⟩] scope pos) (some (.Name y py)) spos.line X.env = pure true) (hi : PI X tg iter (tI G W fit)) (ok : BlkOk X.N X.env.scope scope own)
    (hg : ∀ (s : Shared) (H : Hp) (C : Addr) (cl : List (Str × Addr)) (fp : List Addr), PG (X.blk s H scope (compEnvC scope cl C X.env) fp) tg (tG G WF js fg))
    (ht : ∀ (s : Shared) (H : Hp) (C : Addr) (cl : List (Str × Addr)) (fp : List Addr), PTs (X.blk s H scope (compEnvC scope cl C X.env) fp) ifs (tT G WF gt))
    (he : ∀ (s : Shared) (H : Hp) (C : Addr) (cl : List (Str × Addr)) (fp : List Addr), PE (X.blk s H scope (compEnvC scope cl C X.env) fp) elt (tE G WF fe)) (hs : ∀ x, foldedSetIterable iter X.env x = pure x) :
    PS X (.Assign [.Name y py] (.ListComp elt [⟨tg, iter, ifs, 0⟩] scope pos) spos) (tS G W fun ρ st => (lcE fit fg gt fe (own.map (·.2)) ρ st).bind fun x st => (if x.strict then R.ok (ρ.set i (.val x)) st else .stuck : R Env).bind fun ρ' st => .ok (.nx ρ') st) := by
  refine PS.imp (ps_setLc hc hN hy hyl hsw hi ok hg ht he hs) fun D' σ H ⟨e0, Mt, φ, ρ, st, ok, h⟩ => ?_
  refine lc_read hjs ok ((PoS.bind ok h).mono fun x H1 ⟨Mt1, φ1, st1, d, o1, e1, rd, q⟩ => ?_)
  split at q
  · rename_i hz
    exact PoS.here q (o1.setVal (rd.strict hz))
  · exact False.elim q

/-! ### two, three values at once -/
theorem d_par2 {i j : Nat} {x y : Str} {px py pt : Pos} {kt k2 pt2} (hc : X.calm = true) (hN : X.N.Nodup) (hi : X.N[i]? = some x) (hj : X.N[j]? = some y) (hij : i ≠ j)
    (hx : X.env.scope.names.lookup x = some .local) (hy : X.env.scope.names.lookup y = some .local) (ha : PE X a (tE G W fa)) (hb : PE X b (tE G W fb)) (hs1 : starEach [a, b] X.env = [(false, eval a X.env), (false, eval b X.env)]) (hs2 : starEach [b] X.env = [(false, eval b X.env)])
    (hw : swappedStores [.Tuple [.Name x px, .Name y py] kt pt] (.Tuple [a, b] k2 pt2) X.env = pure (some [x, y])) :
    PS X (.Assign [.Tuple [.Name x px, .Name y py] kt pt] (.Tuple [a, b] k2 pt2) pos) (tS G W fun ρ st => (fa ρ st).bind fun u st => (fb ρ st).bind fun v st => if u.strict && v.strict then .ok (.nx ((ρ.set i (.val u)).set j (.val v))) st else .stuck) := by
  refine PS.imp (ps_par hc hN hi hj hij hx hy (pa_cons ha (pa_cons hb pa_nil hs2) (by rw [hs1, hs2])) hw rfl) fun D' σ H ⟨e0, Mt, φ, ρ, st, ok, h⟩ => ?_
  refine sE ok h fun H1 Mt1 φ1 st1 v d ok1 e1 rd q => sE ok1 q fun H2 Mt2 φ2 st2 u e ok2 e2 re q => ?_
  split at q
  · rename_i hz
    rw [Bool.and_eq_true] at hz
    have rd2 := (e2.repV ok1.st rd).strict hz.1
    exact ⟨v, u, rfl, PoS.here q ((ok2.setVal rd2).setVal (re.strict hz.2))⟩
  · exact False.elim q
def tPar3 (i j k : Nat) (ta : TA) : TS := fun D σ H => ta σ H fun vs H1 => ∃ v w z, vs = [v, w, z] ∧ D.nx (((σ.set k (some z)).set j (some w)).set i (some v)) H1
open PyProof.Rows in
theorem ps_par3 {i j k : Nat} {x y z : Str} {ta : TA} {px py pz pt : Pos} {kt k2 pt2} (hc : X.calm = true) (hN : X.N.Nodup) (hi : X.N[i]? = some x) (hj : X.N[j]? = some y) (hk : X.N[k]? = some z)
    (hx : X.env.scope.names.lookup x = some .local) (hy : X.env.scope.names.lookup y = some .local) (hz : X.env.scope.names.lookup z = some .local) (ha : PA X [a, b, c] ta)
    (hw : swappedStores [.Tuple [.Name x px, .Name y py, .Name z pz] kt pt] (.Tuple [a, b, c] k2 pt2) X.env = pure (some [x, y, z]))
    (hs : swapsWithSole [.Tuple [.Name x px, .Name y py, .Name z pz] kt pt] (.Tuple [a, b, c] k2 pt2) pos.line X.env = pure false := by rfl) :
    PS X (.Assign [.Tuple [.Name x px, .Name y py, .Name z pz] kt pt] (.Tuple [a, b, c] k2 pt2) pos) (tPar3 i j k ta) := by
  refine ⟨fun pins s σ H D I h => ?_⟩
  rw [exec_Assign_arm]
  refine wpAny_bind (wpAny_standAt ?_)
  rw [hs]
  refine wpAny_bind (wpAny_pure ?_)
  rw [if_neg (by decide)]
  refine wpAny_bind (Tuple_ (thn (ha.run _ pins s σ H _ I h) fun us s1 ⟨vs, H1, I1, r1, q1⟩ => ?_))
  obtain ⟨v, w, t, e1, q1⟩ := q1
  subst e1
  obtain ⟨u1, u2, u3, rfl, rv, rw', rz⟩ : ∃ u1 u2 u3, us = [u1, u2, u3] ∧ RelV v u1 ∧ RelV w u2 ∧ RelV t u3 := by
    cases r1 with
    | cons p q =>
      cases q with
      | cons p' q' =>
        cases q' with
        | cons p3 q3 =>
          cases q3
          exact ⟨_, _, _, rfl, p, p', p3⟩
  refine wpAny_newObj_type ?_ (by show 3 ≤ sizeLine; decide)
  have I2 : Inv X pins σ H1 { s1 with heap := s1.heap.push { cls := .type "tuple", data := .seq [u1, u2, u3].toArray } } := I1.kept (t' := s1.toks) fun b o e => Heap.get?_push_of_some _ e
  rw [hw]
  refine wpAny_bind (wpAny_pure ?_)
  show wpAny (model X.prog X.w) X.A (do rule "assign.swapped-stores"; let items ← unpackItems (.ref s1.heap.objs.size) 3 none; assignInOrder [fun v => bindName X.env z v, fun v => bindName X.env y v, fun v => bindName X.env x v] items.reverse; pure Flow.next) _ _ _
  refine wpAny_bind (wpAny_rule (wpAny_bind (unpackItems_tuple (items := #[u1, u2, u3]) (I.ok.hd hc) (IsTup.new s1.heap _) fun h' hx' => ?_)))
  have I3 := I2.kept (h' := h') (t' := s1.toks) fun b o e => hx' b o (Nat.ne_of_lt (Heap.lt_size e)) e
  show wpAny _ _ (assignInOrder [fun v => bindName X.env z v, fun v => bindName X.env y v, fun v => bindName X.env x v] [u3, u2, u1] >>= fun _ => pure Flow.next) _ _ _
  refine wpAny_bind (assignInOrder_cons (wpAny_bindName (store_ok I3 hN hk (.inl hz) rz (fun s2 I4 => ?_) (.inr hz))))
  refine assignInOrder_cons (wpAny_bindName (store_ok I4 hN hj (.inl hy) rw' (fun s3 I5 => ?_) (.inr hy)))
  refine assignInOrder_cons (wpAny_bindName (store_ok I5 hN hi (.inl hx) rv (fun s4 I6 => assignInOrder_nil (wpAny_pure ?_)) (.inr hx)))
  exact ⟨_, H1, I6, q1⟩
theorem d_par3 {i j k : Nat} {x y z : Str} {px py pz pt : Pos} {kt k2 pt2} (hc : X.calm = true) (hN : X.N.Nodup) (hi : X.N[i]? = some x) (hj : X.N[j]? = some y) (hk : X.N[k]? = some z)
    (hx : X.env.scope.names.lookup x = some .local) (hy : X.env.scope.names.lookup y = some .local) (hz : X.env.scope.names.lookup z = some .local) (ha : PE X a (tE G W fa)) (hb : PE X b (tE G W fb)) (hd : PE X c (tE G W fc))
    (hs1 : starEach [a, b, c] X.env = [(false, eval a X.env), (false, eval b X.env), (false, eval c X.env)]) (hs2 : starEach [b, c] X.env = [(false, eval b X.env), (false, eval c X.env)]) (hs3 : starEach [c] X.env = [(false, eval c X.env)])
    (hw : swappedStores [.Tuple [.Name x px, .Name y py, .Name z pz] kt pt] (.Tuple [a, b, c] k2 pt2) X.env = pure (some [x, y, z])) :
    PS X (.Assign [.Tuple [.Name x px, .Name y py, .Name z pz] kt pt] (.Tuple [a, b, c] k2 pt2) pos) (tS G W fun ρ st => (fa ρ st).bind fun u st => (fb ρ st).bind fun v st => (fc ρ st).bind fun w st =>
      if u.strict && v.strict && w.strict then .ok (.nx (((ρ.set k (.val w)).set j (.val v)).set i (.val u))) st else .stuck) := by
  refine PS.imp (ps_par3 hc hN hi hj hk hx hy hz (pa_cons ha (pa_cons hb (pa_cons hd pa_nil hs3) (by rw [hs2, hs3])) (by rw [hs1, hs2])) hw rfl) fun D' σ H ⟨e0, Mt, φ, ρ, st, ok, h⟩ => ?_
  refine sE ok h fun H1 Mt1 φ1 st1 v d ok1 e1 rd q => sE ok1 q fun H2 Mt2 φ2 st2 u e ok2 e2 re q => sE ok2 q fun H3 Mt3 φ3 st3 w g ok3 e3 rg q => ?_
  split at q
  · rename_i hz
    rw [Bool.and_eq_true, Bool.and_eq_true] at hz
    have rd3 := ((e2.trans e3).repV ok1.st rd).strict hz.1.1
    have re3 := (e3.repV ok2.st re).strict hz.1.2
    exact ⟨v, u, w, rfl, PoS.here q (((ok3.setVal (rg.strict hz.2)).setVal re3).setVal rd3)⟩
  · exact False.elim q

/-! ### a def, called -/
/-- the promise of a def by its meaning -/
def spOf (G : Gl) (f : List D → Store → R D) : Sp := fun vs H Q E => ∃ Mt φ st ds, StOk G H Mt φ st ∧ RepVL G H Mt φ ds vs ∧ Po G (fun c d _ H => E c d H) [] (relE G) Mt φ H (f ds st) Q
theorem d_call {k : Nat} {f : Addr} {fd : FuncData} {ps : List Str} {fn : List D → Store → R D} {x : Str} {p : Pos} (F : FnOk X.prog X.w X.K X.mg X.base (L2.CX X.prog X.w) k f fd ps (spOf G fn)) (hr : Room k X.A) (hg : L2.Gl X x) (hm : X.mg x = some (.ref f))
    (hk : PySem.W.keepIn X.K (.ref f) = true) (hb : Binds X.K fd ps []) (tk : Takes X W) (ha : PA X (a :: es) (tL G W fl)) (hdb : (x == ("__debug__" : Str)) = false) (he : starEach (a :: es) X.env = (false, eval a X.env) :: starEach es X.env) (hpl : (backTo pos (starEach es X.env)).any (·.1) = false) :
    PE X (.Call (.Name x p) (a :: es) [] pos) (tE G W fun ρ st => (fl ρ st).bind fun xs st => fn xs st) := by
  refine PE.imp (pe_callS F hr hg hm hk hb (fun σ => passAt tk σ) ha hdb he hpl) fun σ H Q ⟨e0, Mt, φ, ρ, st, ok, h⟩ => ?_
  refine goL ok h fun H1 Mt1 φ1 st1 xs ds ok1 e1 rd q => ⟨Mt1, φ1, st1, ds, ok1.st, rd, ?_⟩
  revert q
  cases fn ds st1 with
  | stuck => exact id
  | ok d s => exact id
  | exc x s => exact id
theorem RepVL.slots {H : Hp} {Mt : Addr → Prop} {φ : List Addr} : ∀ {ds : List D} {vs : List V} {i : Nat} {d : D}, RepVL G H Mt φ ds vs → ds[i]? = some d → ∃ x, vs[i]? = some x ∧ RepV G H Mt φ d x
  | _, _, _, _, .nil, h => by simp at h
  | _, _, 0, _, .cons r _, h => by simp at h; subst h; exact ⟨_, rfl, r⟩
  | _, _, i + 1, _, .cons _ t, h => by simpa using RepVL.slots t (by simpa using h)
/-- the slots at a def's entry -/
theorem Ok.entry {H : Hp} {Mt : Addr → Prop} {φ : List Addr} {st : Store} {ds : List D} {vs : List V} {N : List Str} {m : Nat} (s : StOk G H Mt φ st) (r : RepVL G H Mt φ ds vs) (hm : N.length - vs.length = m) :
    Ok G ⟨H, Mt, φ⟩ H Mt φ (ds.map Slot.val ++ List.replicate m .un) (L2.start N vs) st := by
  have hl : ds.length = vs.length := Paired.length r
  have get : ∀ {i : Nat} {sl : Slot}, (ds.map Slot.val ++ List.replicate m .un)[i]? = some sl → sl ≠ .un → ∃ d, sl = .val d ∧ ds[i]? = some d := fun {i sl} h hn => by
    by_cases hi : i < ds.length
    · rw [List.getElem?_append_left (by simpa using hi), List.getElem?_map] at h
      cases q : ds[i]? with
      | none => rw [q] at h; cases h
      | some d => rw [q] at h; cases h; exact ⟨d, rfl, rfl⟩
    · rw [List.getElem?_append_right (by simpa using hi), List.getElem?_replicate] at h
      split at h
      · cases h; exact absurd rfl hn
      · cases h
  have at_ : ∀ {i : Nat} {x : V}, vs[i]? = some x → (L2.start N vs)[i]? = some (some x) := fun {i x} h => by
    unfold L2.start
    rw [List.getElem?_append_left (by rw [List.length_map]; exact (List.getElem?_eq_some_iff.mp h).1), List.getElem?_map, h]
    rfl
  refine ⟨s, Ext.refl, ?_, fun i d h => ?_, fun i mo h => ?_, fun i es h => ?_, fun i j mo mo' a h => ?_⟩
  · unfold L2.start
    simp only [List.length_append, List.length_map, List.length_replicate]
    omega
  · obtain ⟨d', e, h'⟩ := get h (fun z => nomatch z)
    cases e
    obtain ⟨x, h1, h2⟩ := r.slots h'
    exact ⟨x, at_ h1, h2⟩
  · obtain ⟨d', e, _⟩ := get h (fun z => nomatch z)
    cases e
  · obtain ⟨d', e, h'⟩ := get h (fun z => nomatch z)
    cases e
    obtain ⟨x, h1, h2⟩ := r.slots h'
    obtain ⟨a, xs, rfl, _, _, g, _⟩ := h2
    exact ⟨a, at_ h1, g⟩
  · obtain ⟨d', e, _⟩ := get h (fun z => nomatch z)
    cases e
/-- what is wanted behind a def's body -/
theorem body_read {f : Env → Store → R Fl} {H : Hp} {Q : VK} {E : XK} {vs : List V} {N : List Str} {n np : Nat} {Mt : Addr → Prop} {φ : List Addr} {st : Store} {ds : List D} (s : StOk G H Mt φ st) (r : RepVL G H Mt φ ds vs) (hn : N.length = n) (hp : ds.length = np)
    (h : Po G (fun c d _ H => E c d H) [] (relE G) Mt φ H ((f (ds.map Slot.val ++ List.replicate (n - np) .un) st).bind fun f st => match f with | .nx _ => .ok .non st | .rt d => .ok d st | _ => .stuck) Q) :
    tS G (fun c d _ H => E c d H) f { nx := fun _ H' => Q .non H', rt := Q } (L2.start N vs) H := by
  have hl : ds.length = vs.length := Paired.length r
  refine ⟨_, Mt, φ, _, st, Ok.entry (N := N) (m := n - np) s r (by omega), ?_⟩
  revert h
  -- what the callers know: the objects of their own stand
  have out : ∀ {Mt' : Addr → Prop} {φ' : List Addr} {ρ' : Env} {σ' : St} {H' : Hp} {st' : Store}, Ok G ⟨H, Mt, φ⟩ H' Mt' φ' ρ' σ' st' →
      Ext Mt φ H (fun a => Mt a ∨ a ∈ φ') φ' H' ∧ StOk G H' (fun a => Mt a ∨ a ∈ φ') φ' st' ∧ ∀ d x, Rep G H' Mt' φ' d x → Rep G H' (fun a => Mt a ∨ a ∈ φ') φ' d x := fun {Mt' φ' ρ' σ' H' st'} o => by
    have l : ∀ a, (Mt a ∨ a ∈ φ') → Mt' a := fun a h => h.elim (o.ext.mt1 a) (o.st.mt a)
    have k : Kp Mt' φ' H' (fun a => Mt a ∨ a ∈ φ') φ' H' := ⟨fun _ _ h _ => h, fun a h => .inl (l a h), [], by simp⟩
    exact ⟨⟨o.ext.pre, o.ext.keep, o.ext.some, fun a h => .inl h, fun a h => o.ext.mt2 a (l a h), o.ext.new⟩, ⟨o.st.len, o.st.nd, fun a h => .inr h, fun a h => o.st.mtH a (l a h), fun n a mo h1 h2 => (o.st.rep n a mo h1 h2).kp k rfl⟩, fun d x h => k.rep d x h⟩
  cases f (ds.map Slot.val ++ List.replicate (n - np) .un) st with
  | stuck => exact id
  | exc x s1 => exact fun q Mt' φ' H' ρ' σ' cls dx _ o rx => False.elim rx
  | ok fl s1 =>
    cases fl with
    | bk ρ1 => exact False.elim
    | ct ρ1 => exact False.elim
    | nx ρ1 =>
      intro q Mt' φ' H' σ' _ o
      obtain ⟨e, s2, _⟩ := out o
      exact q _ _ _ _ e s2 (RepV.of (by unfold Rep; rfl))
    | rt d =>
      intro q Mt' φ' H' ρ' σ' v _ o rv
      obtain ⟨e, s2, m⟩ := out o
      exact q _ _ _ _ e s2 (RepV.of (m _ _ rv))
end
end DL

set_option Elab.async false
set_option linter.all false
set_option maxRecDepth 100000
set_option maxHeartbeats 4000000
/-! more operations of the hand layer: lists of any standing, tuples times few -/
namespace DL
open PySem PySem.Spec L2 PyProof.Rows
section
variable {X : Cx}
/-- xs + ys, lists that stand anywhere -/
def rAddL (K : PySem.W.Frag) : R2 := fun x y H Q => ∃ a b xs ys, x = .ref a ∧ y = .ref b ∧ SqL K H a xs ∧ SqL K H b ys ∧ xs.length + ys.length ≤ sizeLine ∧ ∀ p, H p = none → Q (.ref p) (upd H p (.lst (xs ++ ys)))
theorem op_addL : OpR X (binaryOp .Add) (rAddL X.K) := by
  intro pins s σ H x y v u Q I rx ry h
  obtain ⟨a, b, xs, ys, rfl, rfl, ha, hb, hz, q⟩ := h
  cases rx
  cases ry
  obtain ⟨its, r1, ⟨⟨cls, dd, data, sl⟩, n, ho, hc, h0, hd⟩, _⟩ := I.list ha
  obtain ⟨its2, r2, ⟨⟨cls2, dd2, data2, sl2⟩, n2, ho2, hc2, h02, hd2⟩, _⟩ := I.list hb
  simp only at hc hd hc2 hd2
  subst hc hd hc2 hd2
  have e : its.toArray ++ its2.toArray = (its ++ its2).toArray := by simp
  refine concat_meets ⟨_, ho, rfl⟩ ⟨_, ho2, rfl⟩ noFill_list_add seq_list_add PySem.F.slot_list_add PySem.F.entry_list_add (PySem.F.args_list_add_2 _ _)
    (list_addW a b its.toArray its2.toArray n n2 dd dd2 sl sl2 (by rw [List.size_toArray, List.size_toArray, ← r1.length, ← r2.length]; exact hz)) ⟨ho, ho2, ?_⟩
  rw [e]
  exact ⟨.ref _, _, I.lnew (t' := s.toks) (r1.append r2) (by rw [List.length_append]; exact hz), rfl, q _ I.fresh⟩
/-- t * 1 is t -/
theorem tuple_mulS (l : Addr) (items : Array Value) (n : Nat) (dd : Option Addr) (sl : Array (Option Value)) (x : Int) (u : Tok) (c0 : (decide (x < -(2 ^ 63)) || decide (x ≥ 2 ^ 63)) = false) (c1 : (items.isEmpty || x == 1) = true) :
    Meets (Builtin.«tuple.__mul__» ⟨[.ref l, .int x u], []⟩) (fun _ R s => s.heap.get? l = some { cls := .type "tuple", dict := dd, data := .seq items n, slots := sl } ∧ R (.ok (.ret (Value.ref l))) s) :=
  .of_wp fun prog w A R s h => by
    obtain ⟨hp, g, d, tk, os⟩ := s
    obtain ⟨hl, h⟩ := h
    have f1 := AutoSeq1.idx_int
    wp_walk using wpAny_loadPart' hl
    repeat (first
      | (refine wpAny_ite_false (decide_eq_false (by rw [c0]; exact Bool.false_ne_true)) ?_; wp_walk using wpAny_loadPart' hl)
      | (refine wpAny_ite_true (decide_eq_true (by rw [c1])) ?_; wp_walk using wpAny_loadPart' hl))
    exact ⟨_, rfl, h⟩
theorem tuple_mulN (l : Addr) (items : Array Value) (n : Nat) (dd : Option Addr) (sl : Array (Option Value)) (x : Int) (u : Tok) (c0 : (decide (x < -(2 ^ 63)) || decide (x ≥ 2 ^ 63)) = false) (c1 : (items.isEmpty || x == 1) = false) (c2 : (decide (x ≤ 0) || items.isEmpty) = true) :
    Meets (Builtin.«tuple.__mul__» ⟨[.ref l, .int x u], []⟩) (fun _ R s => s.heap.get? l = some { cls := .type "tuple", dict := dd, data := .seq items n, slots := sl } ∧
      R (.ok (.ret (Value.ref s.heap.objs.size))) { s with heap := s.heap.push { cls := Value.type "tuple", data := Data.seq #[] }, toks := s.toks }) :=
  .of_wp fun prog w A R s h => by
    obtain ⟨hp, g, d, tk, os⟩ := s
    obtain ⟨hl, h⟩ := h
    have f1 := AutoSeq1.idx_int
    wp_walk using wpAny_loadPart' hl
    repeat (first
      | (refine wpAny_ite_false (decide_eq_false (by rw [c0]; exact Bool.false_ne_true)) ?_; wp_walk using wpAny_loadPart' hl)
      | (refine wpAny_ite_false (decide_eq_false (by rw [c1]; exact Bool.false_ne_true)) ?_; wp_walk using wpAny_loadPart' hl)
      | (refine wpAny_ite_true (decide_eq_true (by rw [c2])) ?_; wp_walk using wpAny_loadPart' hl))
    exact ⟨_, rfl, h⟩
/-- t * k -/
def rRepA (K : PySem.W.Frag) : R2 := fun x y H Q => ∃ l k xs, x = .ref l ∧ y = .int k ∧ SqT K H l xs ∧ -1000 ≤ k ∧ k ≤ 1000 ∧ xs.length ≤ 1000 ∧ (xs = [] ∨ k = 1 → Q (.ref l) H) ∧ (¬ (xs = [] ∨ k = 1) → ∀ p, H p = none → Q (.ref p) (upd H p (.tup (List.replicate k.toNat xs).flatten)))
theorem op_repA : OpR X (binaryOp .Mult) (rRepA X.K) := by
  intro pins s σ H x y v u Q I rx ry h
  obtain ⟨l, k, xs, rfl, rfl, hT, h0, h1, hz, q1, q2⟩ := h
  by_cases hb : ¬ xs = [] ∧ 2 ≤ k
  · exact op_repT pins s σ H _ _ v u Q I rx ry ⟨l, k, xs, rfl, rfl, hT, hb.1, hb.2, h1, hz, q2 (fun z => z.elim hb.1 (by omega))⟩
  cases rx
  obtain ⟨t, rfl⟩ := ry
  obtain ⟨its, r, ⟨⟨cls, dd, data, sl⟩, ho, hc, n, hd⟩, hs⟩ := I.tuple hT
  simp only at hc hd
  subst hc hd
  have hle : its.length = xs.length := r.length.symm
  have c0 : (decide (k < -(2 ^ 63)) || decide (k ≥ 2 ^ 63)) = false := by
    rw [decide_eq_false (by omega), decide_eq_false (by omega)] <;> rfl
  have hi : its.toArray.isEmpty = true ↔ xs = [] := by
    cases its with
    | nil => simp at hle; simp; exact List.eq_nil_of_length_eq_zero hle.symm
    | cons a b =>
      constructor
      · intro z; simp at z
      · intro z; rw [z] at hle; simp at hle
  by_cases hw : xs = [] ∨ k = 1
  · have c1 : (its.toArray.isEmpty || k == 1) = true := by
      rcases hw with hw | hw
      · rw [hi.mpr hw]; rfl
      · rw [hw, Bool.or_eq_true]; exact .inr rfl
    exact wpAny_binaryOp_repeat_ref (T := "tuple") (U := "int") (by decide) ⟨_, ho, rfl⟩ (fun s' => typeIs_int s' k t) noFill_tuple_mul PySem.F.fills_int_mul PySem.F.slot_int_rmul repeat_tuple PySem.F.slot_int_index.lookup
      (call_meets PySem.F.slot_int_rmul (typeIs_int s k t) PySem.F.entry_int_rmul (PySem.F.args_int_rmul_2 _ _) (int_rmul_tuple k t l its.toArray n dd sl)
        ⟨ho, rfl, ⟨_, ho, rfl⟩, call_meets PySem.F.slot_tuple_mul ⟨_, ho, rfl⟩ PySem.F.entry_tuple_mul (PySem.F.args_tuple_mul_2 _ _) (tuple_mulS l its.toArray n dd sl k t c0 c1) ⟨ho, ⟨.ref l, H, I, rfl, q1 hw⟩⟩⟩)
  · have ne : ¬ xs = [] := fun z => hw (.inl z)
    have k0 : k ≤ 0 := by
      have : ¬ k = 1 := fun z => hw (.inr z)
      have : ¬ 2 ≤ k := fun z => hb ⟨ne, z⟩
      omega
    have e1 : its.toArray.isEmpty = false := by
      cases q : its.toArray.isEmpty with
      | false => rfl
      | true => exact absurd (hi.mp q) ne
    have c1 : (its.toArray.isEmpty || k == 1) = false := by
      rw [e1, Bool.false_or]
      exact beq_eq_false_iff_ne.mpr (by omega)
    have c2 : (decide (k ≤ 0) || its.toArray.isEmpty) = true := by
      rw [decide_eq_true k0]; rfl
    refine wpAny_binaryOp_repeat_ref (T := "tuple") (U := "int") (by decide) ⟨_, ho, rfl⟩ (fun s' => typeIs_int s' k t) noFill_tuple_mul PySem.F.fills_int_mul PySem.F.slot_int_rmul repeat_tuple PySem.F.slot_int_index.lookup
      (call_meets PySem.F.slot_int_rmul (typeIs_int s k t) PySem.F.entry_int_rmul (PySem.F.args_int_rmul_2 _ _) (int_rmul_tuple k t l its.toArray n dd sl)
        ⟨ho, rfl, ⟨_, ho, rfl⟩, call_meets PySem.F.slot_tuple_mul ⟨_, ho, rfl⟩ PySem.F.entry_tuple_mul (PySem.F.args_tuple_mul_2 _ _) (tuple_mulN l its.toArray n dd sl k t c0 c1 c2) ⟨ho, ?_⟩⟩)
    have e0 : (List.replicate k.toNat xs).flatten = [] := by
      rw [show k.toNat = 0 from by omega]; rfl
    have hq := q2 hw s.heap.objs.size (I.hok.fresh (Nat.le_refl _))
    rw [e0] at hq
    refine ⟨.ref s.heap.objs.size, _, I.laid (t' := s.toks) (o := .tup []) (fun b ob q => Heap.get?_push_of_some _ q) (Nat.le_refl _) ?_, rfl, hq⟩
    exact ⟨Nat.zero_le _, [], .nil, IsTup.new _ _⟩
/-- repr of a bool -/
theorem call_repr_bl : CallR X (.builtin "repr") (fun xs H Q => ∃ b, xs = [.bl b] ∧ Q (.str (if b then "True" else "False")) H) := by
  intro pins s σ H xs us Q I r h
  obtain ⟨b, rfl, q⟩ := h
  obtain ⟨u, rfl, ru⟩ := vals1 r
  cases ru
  exact PySem.P.repr_of_bool ⟨.str _, H, I.tok _, ⟨_, rfl⟩, q⟩
end
end DL

set_option Elab.async false
set_option linter.all false
set_option maxRecDepth 100000
set_option maxHeartbeats 4000000
/-! operations on data keep their promises -/
namespace DL
open PySem PySem.Spec L2

section
variable {G : Gl} {H : Hp} {Mt : Addr → Prop} {φ : List Addr} {st : Store}
theorem repNon {x : V} (h : RepV G H Mt φ .non x) : x = .non := by
  have r' : Rep G H Mt φ .non x := h
  unfold Rep at r'
  exact r'
theorem repStr {z : Str} {x : V} (h : RepV G H Mt φ (.str z) x) : x = .str z := by
  have r' : Rep G H Mt φ (.str z) x := h
  unfold Rep at r'
  exact r'
theorem mkInt {i : Int} : RepV G H Mt φ (.int i) (.int i) := RepV.of (by unfold Rep; rfl)
theorem mkStr {i : Str} : RepV G H Mt φ (.str i) (.str i) := RepV.of (by unfold Rep; rfl)
mutual
theorem rep_dp : ∀ (d : D) (x : V) (a : PyData), Rep G H Mt φ d x → pyD d = some a → Dp G.K H x a
  | .non, x, a, h, e => by
    unfold Rep at h; subst h
    unfold pyD at e; cases e; exact .non
  | .bl b, x, a, h, e => by
    unfold Rep at h; subst h
    unfold pyD at e; cases e; exact .bl b
  | .int i, x, a, h, e => by
    unfold Rep at h; subst h
    unfold pyD at e; cases e; exact .int i
  | .str s, x, a, h, e => by
    unfold Rep at h; subst h
    unfold pyD at e; cases e; exact .str s
  | .tup ds, x, a, h, e => by
    unfold Rep at h
    obtain ⟨p, xs, rfl, h1, h2⟩ := h
    unfold pyD at e
    cases q : pyD.pyL ds with
    | none => rw [q] at e; cases e
    | some as => rw [q] at e; cases e; exact .tup h1.sq (rep_dpL ds xs as h2 q)
  | .lst ds, x, a, h, e => by
    unfold Rep at h
    obtain ⟨p, xs, rfl, h1, h2⟩ := h
    unfold pyD at e
    cases q : pyD.pyL ds with
    | none => rw [q] at e; cases e
    | some as => rw [q] at e; cases e; exact .lst h1.sq (rep_dpL ds xs as h2 q)
  | .ref n, x, a, h, e => by unfold pyD at e; cases e
  | .fn f, x, a, h, e => by unfold pyD at e; cases e
  | .vl ds, x, a, h, e => by unfold pyD at e; cases e
  | .dic ks ds, x, a, h, e => by unfold pyD at e; cases e
theorem rep_dpL : ∀ (ds : List D) (xs : List V) (as : List PyData), RepL G H Mt φ ds xs → pyD.pyL ds = some as → DpAll G.K H xs as
  | [], xs, as, h, e => by
    unfold RepL at h; subst h
    unfold pyD.pyL at e; cases e; exact .nil
  | d :: ds, xs, as, h, e => by
    unfold RepL at h
    obtain ⟨x, r, rfl, h1, h2⟩ := h
    unfold pyD.pyL at e
    cases q : pyD d with
    | none => rw [q] at e; cases e
    | some a =>
      rw [q] at e
      cases q2 : pyD.pyL ds with
      | none => rw [q2] at e; cases e
      | some as' => rw [q2] at e; cases e; exact .cons (rep_dp d x a h1 q) (rep_dpL ds r as' h2 q2)
end
theorem repV_dp (s : StOk G H Mt φ st) {d : D} {x : V} {a : PyData} (h : RepV G H Mt φ d x) (e : pyV st d = some a) : Dp G.K H x a := by
  have lst : ∀ ds, seqOf st d = some ds → isTup d = false → (pyD.pyL ds).map PyData.list = some a → Dp G.K H x a := fun ds h1 h2 h3 => by
    obtain ⟨p, xs, rfl, h4, h5⟩ := seq_at s h h1
    cases q : pyD.pyL ds with
    | none => rw [q] at h3; cases h3
    | some as =>
      rw [q] at h3; cases h3
      rcases h5 with ⟨z, _⟩ | ⟨_, h5⟩
      · rw [h2] at z; cases z
      · exact .lst h5 (rep_dpL ds xs as h4 q)
  cases d with
  | vl ds => exact lst ds rfl rfl e
  | ref n =>
    unfold pyV at e
    dsimp only at e
    cases q : st[n]? with
    | none => rw [q] at e; cases e
    | some mo =>
      rw [q] at e
      cases mo with
      | ml ds => exact lst ds (by unfold seqOf; dsimp only; rw [q]) rfl e
  | _ => exact rep_dp _ _ _ h e
theorem ints_rep : ∀ {ds : List D} {xs : List V} {is : List Int}, RepL G H Mt φ ds xs → intsOf ds = some is → xs = is.map V.int
  | [], xs, is, h, e => by
    unfold RepL at h; subst h
    unfold intsOf at e; cases e; rfl
  | .int i :: r, xs, is, h, e => by
    unfold RepL at h
    obtain ⟨x, t, rfl, h1, h2⟩ := h
    unfold intsOf at e
    cases q : intsOf r with
    | none => rw [q] at e; cases e
    | some js =>
      rw [q] at e; cases e
      unfold Rep at h1
      rw [h1, ints_rep h2 q]
      rfl
  | .non :: _, _, _, _, e => by unfold intsOf at e; cases e
  | .bl _ :: _, _, _, _, e => by unfold intsOf at e; cases e
  | .str _ :: _, _, _, _, e => by unfold intsOf at e; cases e
  | .tup _ :: _, _, _, _, e => by unfold intsOf at e; cases e
  | .lst _ :: _, _, _, _, e => by unfold intsOf at e; cases e
  | .ref _ :: _, _, _, _, e => by unfold intsOf at e; cases e
  | .fn _ :: _, _, _, _, e => by unfold intsOf at e; cases e
  | .vl _ :: _, _, _, _, e => by unfold intsOf at e; cases e
  | .dic _ _ :: _, _, _, _, e => by unfold intsOf at e; cases e
theorem bools_rep : ∀ {ds : List D} {xs : List V} {is : List Bool}, RepL G H Mt φ ds xs → boolsOf ds = some is → xs = is.map V.bl
  | [], xs, is, h, e => by
    unfold RepL at h; subst h
    unfold boolsOf at e; cases e; rfl
  | .bl i :: r, xs, is, h, e => by
    unfold RepL at h
    obtain ⟨x, t, rfl, h1, h2⟩ := h
    unfold boolsOf at e
    cases q : boolsOf r with
    | none => rw [q] at e; cases e
    | some js =>
      rw [q] at e; cases e
      unfold Rep at h1
      rw [h1, bools_rep h2 q]
      rfl
  | .non :: _, _, _, _, e => by unfold boolsOf at e; cases e
  | .int _ :: _, _, _, _, e => by unfold boolsOf at e; cases e
  | .str _ :: _, _, _, _, e => by unfold boolsOf at e; cases e
  | .tup _ :: _, _, _, _, e => by unfold boolsOf at e; cases e
  | .lst _ :: _, _, _, _, e => by unfold boolsOf at e; cases e
  | .ref _ :: _, _, _, _, e => by unfold boolsOf at e; cases e
  | .fn _ :: _, _, _, _, e => by unfold boolsOf at e; cases e
  | .vl _ :: _, _, _, _, e => by unfold boolsOf at e; cases e
  | .dic _ _ :: _, _, _, _, e => by unfold boolsOf at e; cases e
/-- an answer that is a new object -/
theorem Ans.fresh {p : Addr} {o : HO} {r : D} {Q : VK} (an : Ans G Mt φ H st r Q) (s : StOk G H Mt φ st) (hp : H p = none) (h : RepV G (upd H p o) Mt φ r (.ref p)) : Q (.ref p) (upd H p o) :=
  an _ _ (Ext.laid hp) (s.laid hp) h
theorem mkTup {p : Addr} {xs : List V} {ds : List D} (s : StOk G H Mt φ st) (hp : H p = none) (r : RepL G H Mt φ ds xs) : RepV G (upd H p (.tup xs)) Mt φ (.tup ds) (.ref p) := by
  refine RepV.of ?_
  unfold Rep
  exact ⟨p, xs, rfl, .inl ⟨.inl upd_same, s.notMt hp⟩, (Ext.laid hp).repL s r⟩
theorem mkLst {p : Addr} {xs : List V} {ds : List D} (s : StOk G H Mt φ st) (hp : H p = none) (r : RepL G H Mt φ ds xs) : RepV G (upd H p (.lst xs)) Mt φ (.lst ds) (.ref p) := by
  refine RepV.of ?_
  unfold Rep
  exact ⟨p, xs, rfl, .inl ⟨.inl upd_same, s.notMt hp⟩, (Ext.laid hp).repL s r⟩
end

section
variable {X : Cx} {G : Gl}
theorem tup_inv {H : Hp} {Mt : Addr → Prop} {φ : List Addr} {ds : List D} {x : V} (r : RepV G H Mt φ (.tup ds) x) : ∃ a xs, x = .ref a ∧ ST G H Mt a xs ∧ RepL G H Mt φ ds xs := by
  have r' : Rep G H Mt φ (.tup ds) x := r
  unfold Rep at r'
  exact r'
theorem RepL.nil_iff {H : Hp} {Mt : Addr → Prop} {φ : List Addr} {ds : List D} {xs : List V} (r : RepL G H Mt φ ds xs) : xs = [] ↔ ds = [] := by
  have := r.length
  constructor
  · intro z; subst z; exact List.eq_nil_of_length_eq_zero this.symm
  · intro z; subst z; exact List.eq_nil_of_length_eq_zero this
theorem RepL.rep {H : Hp} {Mt : Addr → Prop} {φ : List Addr} {ds : List D} {xs : List V} (r : RepL G H Mt φ ds xs) : ∀ n : Nat, RepL G H Mt φ (List.replicate n ds).flatten (List.replicate n xs).flatten
  | 0 => .nil
  | n + 1 => by
    rw [List.replicate_succ, List.replicate_succ, List.flatten_cons, List.flatten_cons]
    exact r.append (RepL.rep r n)
theorem seqT_len {ds : List D} : (List.replicate (1 : Int).toNat ds).flatten = ds := by
  show (List.replicate 1 ds).flatten = ds
  simp
theorem o_seqB (hK : X.K = G.K) (op : Operator) : OpR X (binaryOp op) (rOf G (seqB op)) := by
  intro pins s σ H x y v u Q I rx ry ⟨Mt, φ, st, d, e, r, s0, rd, re, hr, an⟩
  have lists : ∀ a b, op = .Add → isTup d = false → isTup e = false → seqOf st d = some a → seqOf st e = some b → a.length + b.length ≤ sizeLine → r = .lst (a ++ b) → wpAny (model X.prog X.w) X.A (binaryOp op v u) (EP X pins σ Q) X.xe s := by
    intro a b ho h1 h2 h3 h4 h5 h6
    subst ho h6
    obtain ⟨p, xs, rfl, ra, k1⟩ := seq_at s0 rd h3
    obtain ⟨p2, ys, rfl, rb, k2⟩ := seq_at s0 re h4
    have k1 : SqL G.K H p xs := by
      rcases k1 with ⟨z, _⟩ | ⟨_, k⟩
      · rw [h1] at z; cases z
      · exact k
    have k2 : SqL G.K H p2 ys := by
      rcases k2 with ⟨z, _⟩ | ⟨_, k⟩
      · rw [h2] at z; cases z
      · exact k
    refine op_addL pins s σ H _ _ v u Q I rx ry ⟨p, p2, xs, ys, rfl, rfl, by rw [hK]; exact k1, by rw [hK]; exact k2, by rw [ra.length, rb.length]; exact h5, fun q hq => ?_⟩
    exact an.fresh s0 hq (mkLst s0 hq (ra.append rb))
  cases op with
  | Add =>
    have gen : ∀ (hr : (if isTup d || isTup e then none else (seqOf st d).bind fun a => (seqOf st e).bind fun b => if a.length + b.length ≤ sizeLine then some (D.lst (a ++ b)) else none) = some r), wpAny (model X.prog X.w) X.A (binaryOp .Add v u) (EP X pins σ Q) X.xe s := by
      intro hr
      split at hr
      · cases hr
      · rename_i hn
        rw [Bool.or_eq_true, not_or] at hn
        cases q1 : seqOf st d with
        | none => rw [q1] at hr; cases hr
        | some a =>
          rw [q1] at hr
          cases q2 : seqOf st e with
          | none => rw [q2] at hr; cases hr
          | some b =>
            rw [q2] at hr
            have hr : (if a.length + b.length ≤ sizeLine then some (D.lst (a ++ b)) else none) = some r := hr
            split at hr
            · rename_i hz
              cases hr
              exact lists a b rfl (Bool.eq_false_iff.mpr hn.1) (Bool.eq_false_iff.mpr hn.2) q1 q2 hz rfl
            · cases hr
    cases d with
    | tup a =>
      cases e with
      | tup b =>
        have hr : (if a.length + b.length ≤ sizeLine then some (D.tup (a ++ b)) else none) = some r := hr
        split at hr
        · rename_i hz
          cases hr
          obtain ⟨p, xs, rfl, k1, ra⟩ := tup_inv rd
          obtain ⟨p2, ys, rfl, k2, rb⟩ := tup_inv re
          refine op_catA pins s σ H _ _ v u Q I rx ry ⟨p, p2, xs, ys, rfl, rfl, by rw [hK]; exact k1.sq, by rw [hK]; exact k2.sq, by rw [ra.length, rb.length]; exact hz, fun z => ?_, fun z1 z => ?_, fun z1 z2 q hq => ?_⟩
          · rw [ra.nil_iff.mp z] at an
            exact an.same s0 re
          · rw [rb.nil_iff.mp z, List.append_nil] at an
            exact an.same s0 rd
          · exact an.fresh s0 hq (mkTup s0 hq (ra.append rb))
        · cases hr
      | _ => exact gen hr
    | _ => cases e <;> exact gen hr
  | Mult =>
    cases d with
    | tup a =>
      cases e with
      | int k =>
        have hr : (if -1000 ≤ k ∧ k ≤ 1000 ∧ a.length ≤ 1000 then some (D.tup (List.replicate k.toNat a).flatten) else none) = some r := hr
        split at hr
        · rename_i hz
          cases hr
          obtain ⟨p, xs, rfl, k1, ra⟩ := tup_inv rd
          have ee := repInt re
          subst ee
          refine op_repA pins s σ H _ _ v u Q I rx ry ⟨p, k, xs, rfl, rfl, by rw [hK]; exact k1.sq, hz.1, hz.2.1, by rw [ra.length]; exact hz.2.2, fun z => ?_, fun z q hq => ?_⟩
          · have : (List.replicate k.toNat a).flatten = a := by
              rcases z with z | z
              · rw [ra.nil_iff.mp z]; simp
              · rw [z]; exact seqT_len
            rw [this] at an
            exact an.same s0 rd
          · exact an.fresh s0 hq (mkTup s0 hq (ra.rep k.toNat))
        · cases hr
      | _ => cases hr
    | _ => cases e <;> cases hr
  | _ => cases hr
/-- the operators -/
theorem o_bin (hK : X.K = G.K) (op : Operator) : OpR X (binaryOp op) (rOf G (binD op)) := by
  intro pins s σ H x y v u Q I rx ry ⟨Mt, φ, st, d, e, r, s0, rd, re, hr, an⟩
  cases d with
  | int i =>
    have ed := repInt rd
    subst ed
    cases e with
    | int j =>
      have ee := repInt re
      subst ee
      cases op with
      | Add => cases hr; exact op_add pins s σ H _ _ v u Q I rx ry ⟨i, j, rfl, rfl, an.same s0 mkInt⟩
      | Sub => cases hr; exact op_sub pins s σ H _ _ v u Q I rx ry ⟨i, j, rfl, rfl, an.same s0 mkInt⟩
      | Mult =>
        unfold binD at hr
        dsimp only at hr
        split at hr
        · rename_i hc
          cases hr
          exact op_mulW pins s σ H _ _ v u Q I rx ry ⟨i, j, rfl, rfl, hc, an.same s0 mkInt⟩
        · cases hr
      | FloorDiv =>
        unfold binD at hr
        dsimp only at hr
        split at hr
        · rename_i hc
          cases hr
          exact op_fdivW pins s σ H _ _ v u Q I rx ry ⟨i, j, rfl, rfl, hc, an.same s0 mkInt⟩
        · cases hr
      | Mod =>
        unfold binD at hr
        dsimp only at hr
        split at hr
        · rename_i hc
          cases hr
          exact op_mod pins s σ H _ _ v u Q I rx ry ⟨i, j, rfl, rfl, hc, an.same s0 mkInt⟩
        · cases hr
      | Pow =>
        unfold binD at hr
        dsimp only at hr
        split at hr
        · rename_i hc
          cases hr
          exact op_pow pins s σ H _ _ v u Q I rx ry ⟨i, j, rfl, rfl, hc, an.same s0 mkInt⟩
        · cases hr
      | _ => cases hr
    | _ => cases op <;> exact o_seqB hK _ pins s σ H _ _ v u Q I rx ry ⟨Mt, φ, st, _, _, r, s0, rd, re, hr, an⟩
  | str a =>
    have ed := repStr rd
    subst ed
    cases e with
    | str b =>
      have ee := repStr re
      subst ee
      cases op with
      | Add =>
        unfold binD at hr
        dsimp only at hr
        split at hr
        · rename_i hc
          cases hr
          exact op_add_str pins s σ H _ _ v u Q I rx ry ⟨a, b, rfl, rfl, hc, an.same s0 mkStr⟩
        · cases hr
      | _ => cases hr
    | _ => cases op <;> exact o_seqB hK _ pins s σ H _ _ v u Q I rx ry ⟨Mt, φ, st, _, _, r, s0, rd, re, hr, an⟩
  | _ => cases op <;> cases e <;> exact o_seqB hK _ pins s σ H _ _ v u Q I rx ry ⟨Mt, φ, st, _, _, r, s0, rd, re, hr, an⟩
theorem o_iop (op : Operator) : OpR X (inplaceOp op) (rOf G (iopD op)) := by
  intro pins s σ H x y v u Q I rx ry ⟨Mt, φ, st, d, e, r, s0, rd, re, hr, an⟩
  cases d with
  | int i =>
    have ed := repInt rd
    subst ed
    cases e with
    | int j =>
      have ee := repInt re
      subst ee
      cases op with
      | Add => cases hr; exact iop_add pins s σ H _ _ v u Q I rx ry ⟨i, j, rfl, rfl, an.same s0 mkInt⟩
      | Sub => cases hr; exact iop_sub pins s σ H _ _ v u Q I rx ry ⟨i, j, rfl, rfl, an.same s0 mkInt⟩
      | _ => cases hr
    | _ => cases op <;> cases hr
  | str a =>
    have ed := repStr rd
    subst ed
    cases e with
    | str b =>
      have ee := repStr re
      subst ee
      cases op with
      | Add =>
        unfold iopD at hr
        dsimp only at hr
        split at hr
        · rename_i hc
          cases hr
          exact iop_add_str pins s σ H _ _ v u Q I rx ry ⟨a, b, rfl, rfl, hc, an.same s0 mkStr⟩
        · cases hr
      | _ => cases hr
    | _ => cases op <;> cases hr
  | _ => cases op <;> cases e <;> cases hr
theorem o_neg : UnR X (unaryOp .USub) (uOf G fun x _ => negD x) := by
  intro pins s σ H x v Q I rx ⟨Mt, φ, st, d, r, s0, rd, hr, an⟩
  cases d with
  | int i =>
    have ed := repInt rd
    subst ed
    cases hr
    exact un_neg pins s σ H _ v Q I rx ⟨i, rfl, an.same s0 mkInt⟩
  | _ => cases hr
theorem isNon {H : Hp} {Mt : Addr → Prop} {φ : List Addr} {d : D} {x : V} (r : RepV G H Mt φ d x) : decide (x = .non) = isNonD d := by
  cases d with
  | non => rw [repNon r]; rfl
  | bl b => rw [repBl r]; rfl
  | int i => rw [repInt r]; rfl
  | str z => rw [repStr r]; rfl
  | tup ds =>
    have r' : Rep G H Mt φ (.tup ds) x := r
    unfold Rep at r'
    obtain ⟨p, xs, rfl, _⟩ := r'
    rfl
  | dic ks ds =>
    have r' : Rep G H Mt φ (.dic ks ds) x := r
    unfold Rep at r'
    obtain ⟨p, xs, rfl, _⟩ := r'
    rfl
  | lst ds =>
    have r' : Rep G H Mt φ (.lst ds) x := r
    unfold Rep at r'
    obtain ⟨p, xs, rfl, _⟩ := r'
    rfl
  | ref n =>
    have r' : Rep G H Mt φ (.ref n) x := r
    unfold Rep at r'
    obtain ⟨p, _, rfl⟩ := r'
    rfl
  | fn f =>
    have r' : Rep G H Mt φ (.fn f) x := r
    unfold Rep at r'
    rw [r']
    rfl
  | vl ds => obtain ⟨p, xs, rfl, _⟩ := r; rfl
theorem bO_inv {f : D → D → Store → Option Bool} {d e r : D} {st : Store} (h : bO f d e st = some r) : ∃ k, f d e st = some k ∧ r = .bl k := by
  unfold bO at h
  cases q : f d e st with
  | none => rw [q] at h; cases h
  | some k => rw [q] at h; exact ⟨k, rfl, (Option.some.inj h).symm⟩
theorem o_cmp (hK : X.K = G.K) (hu : X.A.units + 65 < cLine) (op : CmpOp) : OpR X (compareOp op) (rOf G (bO (cmpD op))) := by
  intro pins s σ H x y v u Q I rx ry ⟨Mt, φ, st, d, e, r, s0, rd, re, hr, an⟩
  obtain ⟨k, hk, rfl⟩ := bO_inv hr
  have hints : ∀ {p : Int → Int → Bool}, int2 p d e = some k → ∃ i j, x = .int i ∧ y = .int j ∧ Q (.bl (p i j)) H := fun {p} h => by
    cases d with
    | int i =>
      cases e with
      | int j =>
        cases h
        exact ⟨i, j, repInt rd, repInt re, an.same s0 mkBl⟩
      | _ => cases h
    | _ => cases h
  have eqs : ∀ {f : Bool → Bool}, (eqD st d e).map f = some k → ∃ a b, Dp X.K H x a ∧ Dp X.K H y b ∧ SeqAt.shaped a = true ∧ SeqAt.shaped b = true ∧ Q (.bl (f (PyData.eqv a b))) H := fun {f} h => by
    unfold eqD at h
    cases q1 : pyV st d with
    | none => rw [q1] at h; cases h
    | some a =>
      rw [q1] at h
      cases q2 : pyV st e with
      | none => rw [q2] at h; cases h
      | some b =>
        rw [q2] at h
        dsimp only at h
        split at h
        · rename_i hs
          rw [Bool.and_eq_true] at hs
          cases h
          rw [hK]
          exact ⟨a, b, repV_dp s0 rd q1, repV_dp s0 re q2, hs.1, hs.2, an.same s0 mkBl⟩
        · cases h
  have ins : ∀ {f : Bool → Bool}, (inD st d e).map f = some k → ∃ a bs, Dp X.K H x a ∧ Dp X.K H y (.list bs) ∧ SeqAt.shaped a = true ∧ SeqAt.shaped (.list bs) = true ∧ Q (.bl (f (bs.any fun z => PyData.eqv z a))) H := fun {f} h => by
    unfold inD at h
    cases q1 : pyV st d with
    | none => rw [q1] at h; cases h
    | some a =>
      rw [q1] at h
      cases q2 : pyV st e with
      | none => rw [q2] at h; cases h
      | some b =>
        rw [q2] at h
        cases b with
        | list bs =>
          dsimp only at h
          split at h
          · rename_i hs
            rw [Bool.and_eq_true] at hs
            cases h
            rw [hK]
            exact ⟨a, bs, repV_dp s0 rd q1, repV_dp s0 re q2, hs.1, hs.2, an.same s0 mkBl⟩
          · cases h
        | _ => cases h
  cases op with
  | Eq =>
    have hk' : eqD st d e = some k := hk
    obtain ⟨a, b, h1, h2, h3, h4, h5⟩ := eqs (f := id) (by rw [hk']; rfl)
    exact op_eqD (by omega) pins s σ H x y v u Q I rx ry ⟨a, b, h1, h2, h3, h4, h5⟩
  | NotEq =>
    obtain ⟨a, b, h1, h2, h3, h4, h5⟩ := eqs (f := not) hk
    exact op_neD (by omega) pins s σ H x y v u Q I rx ry ⟨a, b, h1, h2, h3, h4, h5⟩
  | Lt => exact op_lt pins s σ H x y v u Q I rx ry (hints hk)
  | LtE => exact op_le pins s σ H x y v u Q I rx ry (hints hk)
  | Gt => exact op_gt pins s σ H x y v u Q I rx ry (hints hk)
  | GtE => exact op_ge pins s σ H x y v u Q I rx ry (hints hk)
  | Is =>
    cases e with
    | non =>
      have hk' : some (isNonD d) = some k := hk
      refine op_isN pins s σ H x y v u Q I rx ry ⟨repNon re, ?_⟩
      rw [isNon rd, Option.some.inj hk']
      exact an.same s0 mkBl
    | _ => cases hk
  | IsNot =>
    cases e with
    | non =>
      have hk' : some (!isNonD d) = some k := hk
      refine op_notN pins s σ H x y v u Q I rx ry ⟨repNon re, ?_⟩
      rw [isNon rd, Option.some.inj hk']
      exact an.same s0 mkBl
    | _ => cases hk
  | In =>
    have hk' : inD st d e = some k := hk
    obtain ⟨a, b, h1, h2, h3, h4, h5⟩ := ins (f := id) (by rw [hk']; rfl)
    exact op_inD hu pins s σ H x y v u Q I rx ry ⟨a, b, h1, h2, h3, h4, h5⟩
  | NotIn =>
    obtain ⟨a, b, h1, h2, h3, h4, h5⟩ := ins (f := not) hk
    exact op_notInD hu pins s σ H x y v u Q I rx ry ⟨a, b, h1, h2, h3, h4, h5⟩
end
end DL

set_option Elab.async false
set_option linter.all false
set_option maxRecDepth 100000
set_option maxHeartbeats 4000000
/-! built-in functions on data -/
namespace DL
open PySem PySem.Spec L2
section
variable {X : Cx} {G : Gl}
theorem one_inv {H : Hp} {Mt : Addr → Prop} {φ : List Addr} {d : D} {xs : List V} (r : RepVL G H Mt φ [d] xs) : ∃ x, xs = [x] ∧ RepV G H Mt φ d x := by
  cases r with
  | cons r t => cases t; exact ⟨_, rfl, r⟩
theorem two_inv {H : Hp} {Mt : Addr → Prop} {φ : List Addr} {d e : D} {xs : List V} (r : RepVL G H Mt φ [d, e] xs) : ∃ x y, xs = [x, y] ∧ RepV G H Mt φ d x ∧ RepV G H Mt φ e y := by
  cases r with
  | cons r t => cases t with
    | cons r2 t2 => cases t2; exact ⟨_, _, rfl, r, r2⟩
/-- one argument -/
theorem of1 {f : D → Store → Option D} {g : List D → Store → Option D} (hg : ∀ xs st r, g xs st = some r → ∃ d, xs = [d] ∧ f d st = some r) {v : Value} {r : V → Hp → VK → Prop} (hc : CallR X v fun xs H Q => ∃ x, xs = [x] ∧ r x H Q)
    (h : ∀ {H Q x Mt φ st d e}, StOk G H Mt φ st → RepV G H Mt φ d x → f d st = some e → Ans G Mt φ H st e Q → r x H Q) : CallR X v (lOf G g) := by
  intro pins s σ H xs us Q I rx ⟨Mt, φ, st, ds, e, s0, rd, hr, an⟩
  obtain ⟨d, rfl, hf⟩ := hg _ _ _ hr
  obtain ⟨x, rfl, r1⟩ := one_inv rd
  exact hc pins s σ H _ us Q I rx ⟨x, rfl, h s0 r1 hf an⟩
theorem len_at {H : Hp} {Mt : Addr → Prop} {φ : List Addr} {st : Store} {d e : D} {x : V} (s : StOk G H Mt φ st) (r : RepV G H Mt φ d x) (h : bltD .len [d] st = some e) : ∃ n, LenV G.K x H n ∧ e = .int n := by
  have sq : ∀ ds, seqOf st d = some ds → ∃ n, LenV G.K x H n ∧ (.int ds.length : D) = .int n := fun ds h1 => by
    obtain ⟨p, xs, rfl, h3, h4⟩ := seq_at s r h1
    refine ⟨xs.length, ?_, by rw [h3.length]⟩
    rcases h4 with ⟨_, h4⟩ | ⟨_, h4⟩
    · exact .inr ⟨xs, h4, rfl⟩
    · exact .inl ⟨xs, h4, rfl⟩
  have gen : (seqOf st d).map (fun ds => (.int ds.length : D)) = some e → ∃ n, LenV G.K x H n ∧ e = .int n := fun h => by
    cases q : seqOf st d with
    | none => rw [q] at h; cases h
    | some ds =>
      rw [q] at h
      cases h
      exact sq ds q
  cases d with
  | str z =>
    have e1 := repStr r
    subst e1
    unfold bltD at h
    dsimp only at h
    split at h
    · rename_i hz
      cases h
      exact ⟨z.length, ⟨hz, rfl⟩, rfl⟩
    · cases h
  | _ => exact gen h
theorem o_len (hK : X.K = G.K) : CallR X (.builtin "len") (lOf G (bltD .len)) := by
  refine of1 (f := fun d st => bltD .len [d] st) (fun xs st r h => ?_) (r := fun x H Q => ∃ n, LenV X.K x H n ∧ Q (.int n) H) ?_ ?_
  · match xs, h with
    | [], h => cases h
    | [d], h => exact ⟨d, rfl, h⟩
    | d :: _ :: _, h => cases d <;> cases h
  · intro pins s σ H xs us Q I rx ⟨x, e, n, h1, h2⟩
    exact call_len pins s σ H xs us Q I rx ⟨x, n, e, h1, h2⟩
  · intro H Q x Mt φ st d e s0 rd hf an
    obtain ⟨n, h1, rfl⟩ := len_at s0 rd hf
    rw [hK]
    exact ⟨n, h1, an.same s0 mkInt⟩
theorem o_abs : CallR X (.builtin "abs") (lOf G (bltD .abs)) := by
  intro pins s σ H xs us Q I rx ⟨Mt, φ, st, ds, e, s0, rd, hr, an⟩
  match ds, rd, hr with
  | [.int i], rd, hr =>
    obtain ⟨x, rfl, r1⟩ := one_inv rd
    have e1 := repInt r1
    subst e1
    cases hr
    exact call_abs pins s σ H _ us Q I rx ⟨i, rfl, an.same s0 mkInt⟩
theorem o_max (hc : X.calm = true) : CallR X (.builtin "max") (lOf G (bltD .max)) := by
  intro pins s σ H xs us Q I rx ⟨Mt, φ, st, ds, e, s0, rd, hr, an⟩
  match ds, rd, hr with
  | [.int i, .int j], rd, hr =>
    obtain ⟨x, y, rfl, r1, r2⟩ := two_inv rd
    have e1 := repInt r1
    subst e1
    have e1 := repInt r2
    subst e1
    cases hr
    exact call_max2 hc pins s σ H _ us Q I rx ⟨i, j, rfl, an.same s0 mkInt⟩
theorem o_min (hc : X.calm = true) : CallR X (.builtin "min") (lOf G (bltD .min)) := by
  intro pins s σ H xs us Q I rx ⟨Mt, φ, st, ds, e, s0, rd, hr, an⟩
  match ds, rd, hr with
  | [.int i, .int j], rd, hr =>
    obtain ⟨x, y, rfl, r1, r2⟩ := two_inv rd
    have e1 := repInt r1
    subst e1
    have e1 := repInt r2
    subst e1
    cases hr
    exact call_min2 hc pins s σ H _ us Q I rx ⟨i, j, rfl, an.same s0 mkInt⟩
theorem o_int : CallR X (.type "int") (lOf G (bltD .int)) := by
  intro pins s σ H xs us Q I rx ⟨Mt, φ, st, ds, e, s0, rd, hr, an⟩
  match ds, rd, hr with
  | [.int i], rd, hr =>
    obtain ⟨x, rfl, r1⟩ := one_inv rd
    have e1 := repInt r1
    subst e1
    cases hr
    exact call_int1 pins s σ H _ us Q I rx (.inl ⟨i, rfl, an.same s0 mkInt⟩)
  | [.bl k], rd, hr =>
    obtain ⟨x, rfl, r1⟩ := one_inv rd
    have e1 := repBl r1
    subst e1
    cases hr
    exact call_int1 pins s σ H _ us Q I rx (.inr ⟨k, rfl, an.same s0 mkInt⟩)
theorem o_bool : CallR X (.type "bool") (lOf G (bltD .bool)) := by
  intro pins s σ H xs us Q I rx ⟨Mt, φ, st, ds, e, s0, rd, hr, an⟩
  match ds, rd, hr with
  | [.int i], rd, hr =>
    obtain ⟨x, rfl, r1⟩ := one_inv rd
    have e1 := repInt r1
    subst e1
    cases hr
    exact call_bool1 pins s σ H _ us Q I rx (.inl ⟨i, rfl, an.same s0 mkBl⟩)
  | [.bl k], rd, hr =>
    obtain ⟨x, rfl, r1⟩ := one_inv rd
    have e1 := repBl r1
    subst e1
    cases hr
    exact call_bool1 pins s σ H _ us Q I rx (.inr ⟨k, rfl, an.same s0 mkBl⟩)
/-- a list that is read, no tuple -/
theorem lst_at {H : Hp} {Mt : Addr → Prop} {φ : List Addr} {st : Store} {d : D} {x : V} {ds : List D} (s : StOk G H Mt φ st) (r : RepV G H Mt φ d x) (ht : isTup d = false) (h : seqOf st d = some ds) :
    ∃ p xs, x = .ref p ∧ RepL G H Mt φ ds xs ∧ SqL G.K H p xs := by
  obtain ⟨p, xs, e, h1, h2⟩ := seq_at s r h
  rcases h2 with ⟨z, _⟩ | ⟨_, h2⟩
  · rw [ht] at z; cases z
  · exact ⟨p, xs, e, h1, h2⟩
theorem sumlike {α : Type} {f : List D → Option (List α)} {g : List α → D} {d r : D} {st : Store} (h : (if isTup d then none else ((seqOf st d).bind f).map g) = some r) : isTup d = false ∧ ∃ ds as, seqOf st d = some ds ∧ f ds = some as ∧ r = g as := by
  cases ht : isTup d with
  | true => rw [ht] at h; cases h
  | false =>
    rw [ht] at h
    cases q : seqOf st d with
    | none => rw [q] at h; cases h
    | some ds =>
      rw [q] at h
      cases q2 : f ds with
      | none =>
        have h' : (f ds).map g = some r := h
        rw [q2] at h'; cases h'
      | some as =>
        have h' : (f ds).map g = some r := h
        rw [q2] at h'
        exact ⟨rfl, ds, as, rfl, q2, (Option.some.inj h').symm⟩
theorem o_sum (hK : X.K = G.K) (hc : X.calm = true) : CallR X (.builtin "sum") (lOf G (bltD .sum)) := by
  intro pins s σ H xs us Q I rx ⟨Mt, φ, st, ds, e, s0, rd, hr, an⟩
  match ds, rd, hr with
  | [d], rd, hr =>
    obtain ⟨x, rfl, r1⟩ := one_inv rd
    obtain ⟨ht, es, as, h1, h2, rfl⟩ := sumlike (f := intsOf) (g := fun is => .int is.sum) (show _ = some e by simpa [bltD] using hr)
    obtain ⟨p, ys, rfl, h3, h4⟩ := lst_at s0 r1 ht h1
    have e1 := ints_rep h3 h2
    subst e1
    exact cr_sum hc pins s σ H _ us Q I rx ⟨p, as, rfl, by rw [hK]; exact h4, an.same s0 mkInt⟩
theorem o_all (hK : X.K = G.K) (hc : X.calm = true) : CallR X (.builtin "all") (lOf G (bltD .all)) := by
  intro pins s σ H xs us Q I rx ⟨Mt, φ, st, ds, e, s0, rd, hr, an⟩
  match ds, rd, hr with
  | [d], rd, hr =>
    obtain ⟨x, rfl, r1⟩ := one_inv rd
    obtain ⟨ht, es, as, h1, h2, rfl⟩ := sumlike (f := boolsOf) (g := fun is => .bl (is.all id)) (show _ = some e by simpa [bltD] using hr)
    obtain ⟨p, ys, rfl, h3, h4⟩ := lst_at s0 r1 ht h1
    have e1 := bools_rep h3 h2
    subst e1
    exact cr_all hc pins s σ H _ us Q I rx ⟨p, as, rfl, by rw [hK]; exact h4, an.same s0 mkBl⟩
theorem o_any (hK : X.K = G.K) (hc : X.calm = true) : CallR X (.builtin "any") (lOf G (bltD .any)) := by
  intro pins s σ H xs us Q I rx ⟨Mt, φ, st, ds, e, s0, rd, hr, an⟩
  match ds, rd, hr with
  | [d], rd, hr =>
    obtain ⟨x, rfl, r1⟩ := one_inv rd
    obtain ⟨ht, es, as, h1, h2, rfl⟩ := sumlike (f := boolsOf) (g := fun is => .bl (is.any id)) (show _ = some e by simpa [bltD] using hr)
    obtain ⟨p, ys, rfl, h3, h4⟩ := lst_at s0 r1 ht h1
    have e1 := bools_rep h3 h2
    subst e1
    exact cr_any hc pins s σ H _ us Q I rx ⟨p, as, rfl, by rw [hK]; exact h4, an.same s0 mkBl⟩
theorem seqMap {g : List D → D} {d r : D} {st : Store} (h : (seqOf st d).map g = some r) : ∃ ds, seqOf st d = some ds ∧ r = g ds := by
  cases q : seqOf st d with
  | none => rw [q] at h; cases h
  | some ds => rw [q] at h; exact ⟨ds, rfl, (Option.some.inj h).symm⟩
theorem o_tuple (hK : X.K = G.K) : CallR X (.type "tuple") (lOf G (bltD .tuple)) := by
  intro pins s σ H xs us Q I rx ⟨Mt, φ, st, ds, e, s0, rd, hr, an⟩
  match ds, rd, hr with
  | [d], rd, hr =>
    obtain ⟨x, rfl, r1⟩ := one_inv rd
    obtain ⟨es, h1, rfl⟩ := seqMap (g := .tup) (show _ = some e by simpa [bltD] using hr)
    obtain ⟨p, ys, rfl, h3, h4⟩ := seq_at s0 r1 h1
    refine call_tuple_of pins s σ H _ us Q I rx ⟨p, ys, rfl, ?_⟩
    rw [hK]
    rcases h4 with ⟨ht, h4⟩ | ⟨_, h4⟩
    · refine .inr ⟨h4, an.same s0 ?_⟩
      cases d with
      | tup fs => cases h1; exact r1
      | _ => cases ht
    · exact .inl ⟨h4, fun l hl => an.fresh s0 hl (mkTup s0 hl h3)⟩
theorem o_list (hK : X.K = G.K) : CallR X (.type "list") (lOf G (bltD .list)) := by
  intro pins s σ H xs us Q I rx ⟨Mt, φ, st, ds, e, s0, rd, hr, an⟩
  match ds, rd, hr with
  | [d], rd, hr =>
    obtain ⟨x, rfl, r1⟩ := one_inv rd
    obtain ⟨es, h1, rfl⟩ := seqMap (g := .lst) (show _ = some e by simpa [bltD] using hr)
    obtain ⟨p, ys, rfl, h3, h4⟩ := seq_at s0 r1 h1
    refine call_list_of pins s σ H _ us Q I rx ⟨p, ys, rfl, ?_, fun l hl => an.fresh s0 hl (mkLst s0 hl h3)⟩
    rw [hK]
    rcases h4 with ⟨_, h4⟩ | ⟨_, h4⟩
    · exact .inr h4
    · exact .inl h4

/-! ### isinstance -/
theorem sql_ty {H : Hp} {p : Addr} {xs : List V} {K : PySem.W.Frag} (h : SqL K H p xs) : TyX K H (.ref p) (.type "list") := by
  rcases h with (h | ⟨o, h⟩) | ⟨o, its, n, h1, h2, _⟩
  · exact .base (.lst h)
  · exact .base (.frz h)
  · exact .kList h1 h2
theorem sqt_ty {H : Hp} {p : Addr} {xs : List V} {K : PySem.W.Frag} (h : SqT K H p xs) : TyX K H (.ref p) (.type "tuple") := by
  rcases h with (h | ⟨o, h⟩) | ⟨o, its, n, h1, h2, _⟩
  · exact .base (.tup h)
  · exact .fTuple h
  · exact .kTuple h1 h2
theorem ty_at {H : Hp} {Mt : Addr → Prop} {φ : List Addr} {st : Store} {d : D} {x : V} {n : String} (s : StOk G H Mt φ st) (r : RepV G H Mt φ d x) (h : tyD st d = some n) : TyX G.K H x (.type n) := by
  have sq : ∀ ds, seqOf st d = some ds → n = (if isTup d then "tuple" else "list") → TyX G.K H x (.type n) := fun ds h1 h2 => by
    obtain ⟨p, xs, rfl, h3, h4⟩ := seq_at s r h1
    subst h2
    rcases h4 with ⟨ht, h4⟩ | ⟨ht, h4⟩
    · rw [ht]; exact sqt_ty h4
    · rw [ht]; exact sql_ty h4
  cases d with
  | non => rw [repNon r]; cases h; exact .base .non
  | bl b => rw [repBl r]; cases h; exact .base (.bl b)
  | int i => rw [repInt r]; cases h; exact .base (.int i)
  | str z => rw [repStr r]; cases h; exact .base (.str z)
  | tup ds => exact sq ds rfl (Option.some.inj h).symm
  | lst ds => exact sq ds rfl (Option.some.inj h).symm
  | vl ds => exact sq ds rfl (Option.some.inj h).symm
  | fn f => cases h
  | dic ks ds =>
    cases h
    have r' : Rep G H Mt φ (.dic ks ds) x := r
    unfold Rep at r'
    obtain ⟨a, xs, rfl, ⟨h1 | ⟨o, h1⟩, _⟩, _⟩ := r'
    · exact .base (.dK h1)
    · exact .fDict h1
  | ref m =>
    unfold tyD at h
    dsimp only at h
    cases q : st[m]? with
    | none => rw [q] at h; cases h
    | some mo =>
      rw [q] at h
      cases mo with
      | ml ds => exact sq ds (by unfold seqOf; dsimp only; rw [q]) (Option.some.inj h).symm
theorem kit_at {st : Store} {d : D} {t : Ty} {k : Bool} {K : PySem.W.Frag} (h : isinD st d t = some k) : ∃ n, tyD st d = some n ∧ PySem.W.kitOne K (.type n) (.type t.name) = some k := by
  unfold isinD at h
  cases q : tyD st d with
  | none => rw [q] at h; cases h
  | some n =>
    rw [q] at h
    have h' := Option.some.inj h
    refine ⟨n, rfl, kit_ty ?_⟩
    rw [← h']
    have : n = "NoneType" ∨ n = "bool" ∨ n = "int" ∨ n = "str" ∨ n = "tuple" ∨ n = "list" ∨ n = "dict" := by
      cases d with
      | ref m =>
        unfold tyD at q
        dsimp only at q
        cases q2 : st[m]? with
        | none => rw [q2] at q; cases q
        | some mo => rw [q2] at q; cases mo; cases q; simp
      | fn f => cases q
      | _ => cases q; simp
    rcases this with rfl | rfl | rfl | rfl | rfl | rfl | rfl <;> cases t <;> decide +kernel

theorem o_repr : CallR X (.builtin "repr") (lOf G (bltD .repr)) := by
  intro pins s σ H xs us Q I rx ⟨Mt, φ, st, ds, e, s0, rd, hr, an⟩
  match ds, rd, hr with
  | [.bl k], rd, hr =>
    obtain ⟨x, rfl, r1⟩ := one_inv rd
    have e1 := repBl r1
    subst e1
    cases hr
    exact call_repr_bl pins s σ H _ us Q I rx ⟨k, rfl, an.same s0 mkStr⟩
/-! ### slices -/
theorem cut_rep {H : Hp} {Mt : Addr → Prop} {φ : List Addr} {ds : List D} {xs : List V} (r : RepL G H Mt φ ds xs) (lo hi : Option Int) : RepL G H Mt φ (cutD ds lo hi) (cutV xs lo hi) := by
  unfold cutD cutV
  rw [r.length]
  exact RepL.take _ (RepL.drop _ r)
theorem cutD_whole {ds : List D} {lo hi : Option Int} (h : HT.sIx ds.length 0 lo = 0 ∧ HT.sIx ds.length ds.length hi = ds.length) : cutD ds lo hi = ds := by
  unfold cutD
  rw [h.1, h.2]
  simp
def slOf (G : Gl) : V → Option Int → Option Int → Hp → VK → Prop := fun x lo hi H Q => ∃ Mt φ st d r, StOk G H Mt φ st ∧ RepV G H Mt φ d x ∧ slD d lo hi st = some r ∧ Ans G Mt φ H st r Q
theorem o_sl (hK : X.K = G.K) : SlR X (slOf G) := by
  intro pins s σ H x v vl vu lo hi sl Q I rx hs pl pu ⟨Mt, φ, st, d, r, s0, rd, hr, an⟩
  have gen : isTup d = false → (seqOf st d).map (fun ds => D.lst (cutD ds lo hi)) = some r → ∃ T id, typeLookup (.type T) "__getitem__" = pure (some (.builtin id)) ∧ s.TypeIs v T ∧ wpAny (model X.prog X.w) X.A (getItem v (.ref sl)) (EP X pins σ Q) X.xe s := by
    intro ht hr
    cases q : seqOf st d with
    | none => rw [q] at hr; cases hr
    | some ds =>
      rw [q] at hr
      cases hr
      obtain ⟨p, xs, rfl, ra, k⟩ := seq_at s0 rd q
      have k : SqL G.K H p xs := by
        rcases k with ⟨z, _⟩ | ⟨_, k⟩
        · rw [ht] at z; cases z
        · exact k
      exact sl_list pins s σ H _ v vl vu lo hi sl Q I rx hs pl pu ⟨p, xs, rfl, by rw [hK]; exact k, fun q hq => an.fresh s0 hq (mkLst s0 hq (cut_rep ra lo hi))⟩
  cases d with
  | tup ds =>
    cases hr
    obtain ⟨p, xs, rfl, k, ra⟩ := tup_inv rd
    refine sl_tupA pins s σ H _ v vl vu lo hi sl Q I rx hs pl pu ⟨p, xs, rfl, by rw [hK]; exact k.sq, fun z => ?_, fun _ q hq => an.fresh s0 hq (mkTup s0 hq (cut_rep ra lo hi))⟩
    rw [ra.length] at z
    rw [cutD_whole z] at an
    exact an.same s0 rd
  | str z =>
    have e1 := repStr rd
    subst e1
    unfold slD at hr
    dsimp only at hr
    split at hr
    · rename_i hz
      cases hr
      exact C8.sl_txt pins s σ H _ v vl vu lo hi sl Q I rx hs pl pu ⟨z, rfl, hz, an.same s0 mkStr⟩
    · cases hr
  | _ => exact gen rfl hr
section
variable {W : WX} {a b c : Expr} {fa fb fc : Env → Store → R D} {pos p2 : Pos} {lo hi : Option Expr} {fl fh : Env → Store → R (Option Int)}
theorem po_part (h : PE X a (tE G W fa)) : PO X (some a) (tOi G W fun ρ st => (fa ρ st).bind fun x st => ofO (intO x) st) := by
  refine ⟨fun pins s σ H Q I ⟨e0, Mt, φ, ρ, st, ok, q⟩ => (po_some h).run pins s σ H Q I ?_⟩
  refine goE ok q fun H1 Mt1 φ1 st1 x d ok1 e1 rd q => ?_
  cases d with
  | int i => exact ⟨i, repInt rd, Po.here (st := st1) q ok1.st rfl⟩
  | _ => exact False.elim q
theorem po_no : PO X none (tOi G W fun _ st => .ok none st) :=
  ⟨fun pins s σ H Q I ⟨e0, Mt, φ, ρ, st, ok, q⟩ => (po_none (X := X)).run pins s σ H Q I (Po.here (st := st) q ok.st rfl)⟩
theorem d_slc (hK : X.K = G.K) (ha : PE X a (tE G W fa)) (hl : PO X lo (tOi G W fl)) (hh : PO X hi (tOi G W fh)) :
    PE X (.Subscript a (.Slice lo hi none p2) pos) (tE G W fun ρ st => (fa ρ st).bind fun x st => (fl ρ st).bind fun l st => (fh ρ st).bind fun h st => ofO (slD x l h st) st) := by
  refine PE.imp (pe_slice (o_sl hK) ha hl hh) fun σ H Q ⟨e0, Mt, φ, ρ, st, ok, h⟩ => ?_
  refine goE ok h fun H1 Mt1 φ1 st1 x d ok1 e1 rd q => goO ok1 q fun H2 Mt2 φ2 st2 l ok2 e2 q => goO ok2 q fun H3 Mt3 φ3 st3 u ok3 e3 q => ?_
  obtain ⟨r, hr, an⟩ := q.ans
  exact ⟨Mt3, φ3, st3, d, r, ok3.st, (e2.trans e3).repV ok1.st rd, hr, an⟩
theorem d_emp : PE X (.Dict [] [] pos) (tE G W fun _ st => .ok (.dic [] []) st) := by
  refine PE.imp pe_dnewK fun σ H Q ⟨e0, Mt, φ, ρ, st, ok, q⟩ => ?_
  intro p hp
  have e2 : Ext Mt φ H Mt φ (upd H p (.dK [])) := Ext.laid hp
  refine q _ _ _ _ e2 (ok.st.laid hp) ?_
  refine RepV.of ?_
  unfold Rep
  exact ⟨p, [], rfl, ⟨.inl upd_same, ok.st.notMt hp⟩, rfl, .nil⟩
/-- a list + a list, the new one to change later -/
theorem d_addR (hK : X.K = G.K) (ha : PE X a (tE G W fa)) (hb : PE X b (tE G W fb)) :
    PE X (.BinOp a .Add b pos) (tE G W fun ρ st => (fa ρ st).bind fun x st => (fb ρ st).bind fun y st => addRD (seqB .Add x y st) st) := by
  refine PE.imp (pe_op op_addL ha hb) fun σ H Q ⟨e0, Mt, φ, ρ, st, ok, h⟩ => ?_
  refine goE ok h fun H1 Mt1 φ1 st1 x d ok1 e1 rd q => goE ok1 q fun H2 Mt2 φ2 st2 y e ok2 e2 re q => ?_
  cases hr : seqB .Add d e st2 with
  | none => rw [hr] at q; exact False.elim q
  | some r =>
    rw [hr] at q
    cases r with
    | lst ds =>
      have rd2 := e2.repV ok1.st rd
      have gen : ∀ (hr : (if isTup d || isTup e then none else (seqOf st2 d).bind fun a => (seqOf st2 e).bind fun b => if a.length + b.length ≤ sizeLine then some (D.lst (a ++ b)) else none) = some (D.lst ds)), rAddL X.K x y H2 Q := by
        intro hr
        split at hr
        · cases hr
        · rename_i hn
          rw [Bool.or_eq_true, not_or] at hn
          cases q1 : seqOf st2 d with
          | none => rw [q1] at hr; cases hr
          | some a =>
            rw [q1] at hr
            cases q2 : seqOf st2 e with
            | none => rw [q2] at hr; cases hr
            | some b =>
              rw [q2] at hr
              have hr : (if a.length + b.length ≤ sizeLine then some (D.lst (a ++ b)) else none) = some (D.lst ds) := hr
              split at hr
              · rename_i hz
                cases hr
                obtain ⟨p, xs, rfl, ra, k1⟩ := seq_at ok2.st rd2 q1
                obtain ⟨p2, ys, rfl, rb, k2⟩ := seq_at ok2.st re q2
                have k1 : SqL G.K H2 p xs := by
                  rcases k1 with ⟨z, _⟩ | ⟨_, k⟩
                  · exact absurd z hn.1
                  · exact k
                have k2 : SqL G.K H2 p2 ys := by
                  rcases k2 with ⟨z, _⟩ | ⟨_, k⟩
                  · exact absurd z hn.2
                  · exact k
                refine ⟨p, p2, xs, ys, rfl, rfl, by rw [hK]; exact k1, by rw [hK]; exact k2, by rw [ra.length, rb.length]; exact hz, fun p hp => ?_⟩
                refine q _ _ _ _ (Ext.alloc hp) (ok2.st.alloc hp (ra.append rb)) ?_
                refine RepV.of ?_
                unfold Rep
                exact ⟨p, by rw [← ok2.st.len]; simp, rfl⟩
              · cases hr
      cases d with
      | tup a =>
        cases e with
        | tup b =>
          have hr : (if a.length + b.length ≤ sizeLine then some (D.tup (a ++ b)) else none) = some (D.lst ds) := hr
          split at hr <;> cases hr
        | _ => exact gen hr
      | _ => cases e <;> exact gen hr
    | _ => exact False.elim q
end
end
end DL

set_option Elab.async false
set_option linter.all false
set_option maxRecDepth 100000
set_option maxHeartbeats 4000000
/-! a part is the given syntax: the look, and that it tells the truth -/
namespace DL
open PySem PySem.Spec L2

/-- where a part stands -/
structure Sc where
  scope : Scope
  N : List Str
  calm : Bool
  top : Option Scope
/-- .. in a comprehension's block -/
def Sc.blk (sc : Sc) (scope : Scope) : Sc := { sc with scope := relS scope sc.scope, top := some scope }
/-- may a cell be written here: the def's own, the block's own -/
def Sc.cellB (sc : Sc) (x : Str) : Bool := match sc.top with
  | none => true
  | some s => s.names.lookup x == some .cell
/-- a def of the program -/
structure DefI where
  at_ : Str × Option Str
  name : Str
  qual : Str
  params : Arguments
  body : List Stmt
  scope : Scope
  N : List Str
  ps : List Str
  ir : I
structure Pg where
  defs : List DefI
  free : List Str
  consts : List (Str × D)

def notStar : Expr → Bool
  | .Starred .. => false
  | _ => true
def notComp : Expr → Bool
  | .ListComp .. => false
  | .SetComp .. => false
  | .DictComp .. => false
  | _ => true
def notSet : Expr → Bool
  | .Set .. => false
  | _ => true
/-- its truth is its value's truth -/
def plainT : Expr → Bool
  | .UnaryOp .. => false
  | .BoolOp .. => false
  | .IfExp .. => false
  | .Compare .. => false
  | _ => true
def plainIx : Expr → Bool
  | .Slice .. => false
  | _ => true
def notTup : Expr → Bool
  | .Tuple .. => false
  | .List .. => false
  | _ => true
def nmOk (x : Str) : Bool := !(x == ("__debug__" : Str)) && !(x == ("__classdict__" : Str))
def kindIn (sc : Sc) (x : Str) : Option NameKind := sc.scope.names.lookup x
def visB (sc : Sc) (x : Str) : Bool := match kindIn sc x with
  | some .local => true
  | some .cell => true
  | some .free => true
  | _ => false
def locB (sc : Sc) (x : Str) : Bool := match kindIn sc x with
  | some .local => true
  | some .cell => sc.cellB x
  | _ => false
def isLocal (sc : Sc) (x : Str) : Bool := match kindIn sc x with
  | some .local => true
  | _ => false
def gloB (sc : Sc) (x : Str) : Bool := match kindIn sc x with
  | some .globalImplicit => true
  | _ => false
def Blt.name : Blt → Str
  | .len => "len" | .abs => "abs" | .int => "int" | .bool => "bool" | .str => "str" | .repr => "repr" | .max => "max" | .min => "min" | .sum => "sum" | .all => "all" | .any => "any" | .tuple => "tuple" | .list => "list"
def Blt.served : Blt → Bool
  | .str => false
  | _ => true
def Ty.nameS (t : Ty) : Str := Str.ofString t.name

structure Ck where
  e : Expr → Bool := fun _ => false
  t : Expr → Bool := fun _ => false
  w : Expr → Bool := fun _ => false
  l : List Expr → Bool := fun _ => false
  g : Expr → Bool := fun _ => false
  gs : List Expr → Bool := fun _ => false
  js : List Nat := []
  s : Stmt → Bool := fun _ => false
  ss : List Stmt → Bool := fun _ => false
  it : Expr → Bool := fun _ => false
  ts : List Expr → Bool := fun _ => false
/-- an expression: as a test by its value -/
def Ck.ofE (f : Expr → Bool) : Ck := { e := f, t := fun e => plainT e && f e }

/-- a slice's bound -/
def partC (no : Bool) (f : Expr → Bool) : Option Expr → Bool
  | none => no
  | some e => !no && f e
/-- the look -/
def chk (pg : Pg) : I → Sc → Ck
  | .var i, sc => .ofE fun e => match e with
    | .Name x _ => decide (sc.N[i]? = some x) && visB sc x && nmOk x
    | _ => false
  | .int n, _ => .ofE fun e => match e with
    | .Constant (.int m) _ _ => decide (n = m)
    | _ => false
  | .str n, _ => .ofE fun e => match e with
    | .Constant (.str m) _ _ => decide (n = m)
    | _ => false
  | .bool n, _ => .ofE fun e => match e with
    | .Constant (.bool m) _ _ => n == m
    | _ => false
  | .none, _ => .ofE fun e => match e with
    | .Constant .none _ _ => true
    | _ => false
  | .glob i, sc => .ofE fun e => match e with
    | .Name x _ => gloB sc x && nmOk x && (match pg.consts[i]? with
      | some p => decide (p.1 = x)
      | none => false)
    | _ => false
  | .bin op a b, sc => .ofE fun e => match e with
    | .BinOp x op' y _ => decide (op = op') && (chk pg a sc).e x && (chk pg b sc).e y
    | _ => false
  | .neg a, sc => .ofE fun e => match e with
    | .UnaryOp .USub x _ => (chk pg a sc).e x
    | _ => false
  | .cmp op a b, sc =>
    { e := fun e => match e with
        | .Compare x [op'] [y] _ => decide (op = op') && !behindInMarks op y && (chk pg a sc).e x && (chk pg b sc).e y
        | _ => false
      t := fun e => match e with
        | .Compare x [op'] [y] _ => decide (op = op') && !behindInMarks op y && (chk pg a sc).e x && (chk pg b sc).e y
        | _ => false }
  | .chain op1 op2 a b c, sc =>
    { e := fun e => match e with
        | .Compare x [o1, o2] [y, z] _ => decide (op1 = o1) && decide (op2 = o2) && !lastMarks [op1, op2] [y, z] && (chk pg a sc).e x && (chk pg b sc).e y && (chk pg c sc).e z
        | _ => false
      t := fun e => match e with
        | .Compare x [o1, o2] [y, z] _ => decide (op1 = o1) && decide (op2 = o2) && !lastMarks [op1, op2] [y, z] && (chk pg a sc).e x && (chk pg b sc).e y && (chk pg c sc).e z
        | _ => false }
  | .and_ a b, sc =>
    { e := fun e => match e with
        | .BoolOp .And [x, y] _ => (chk pg a sc).e x && (chk pg b sc).e y
        | .BoolOp .And (x :: y :: r) p => (chk pg a sc).e x && (chk pg b sc).e (.BoolOp .And (y :: r) p)
        | _ => false
      t := fun e => match e with
        | .BoolOp .And [x, y] _ => (chk pg a sc).t x && (chk pg b sc).t y
        | .BoolOp .And (x :: y :: r) p => (chk pg a sc).t x && (chk pg b sc).w (.BoolOp .And (y :: r) p)
        | _ => false
      w := fun e => match e with
        | .BoolOp .And [x, y] _ => (chk pg a sc).t x && (chk pg b sc).t y
        | .BoolOp .And (x :: y :: r) p => (chk pg a sc).t x && (chk pg b sc).w (.BoolOp .And (y :: r) p)
        | _ => false }
  | .or_ a b, sc =>
    { e := fun e => match e with
        | .BoolOp .Or [x, y] _ => (chk pg a sc).e x && (chk pg b sc).e y
        | .BoolOp .Or (x :: y :: r) p => (chk pg a sc).e x && (chk pg b sc).e (.BoolOp .Or (y :: r) p)
        | _ => false
      t := fun e => match e with
        | .BoolOp .Or [x, y] _ => (chk pg a sc).t x && (chk pg b sc).t y
        | .BoolOp .Or (x :: y :: r) p => (chk pg a sc).t x && (chk pg b sc).w (.BoolOp .Or (y :: r) p)
        | _ => false
      w := fun e => match e with
        | .BoolOp .Or [x, y] _ => (chk pg a sc).t x && (chk pg b sc).t y
        | .BoolOp .Or (x :: y :: r) p => (chk pg a sc).t x && (chk pg b sc).w (.BoolOp .Or (y :: r) p)
        | _ => false }
  | .not_ a, sc =>
    { e := fun e => match e with
        | .UnaryOp .Not x _ => (chk pg a sc).e x
        | _ => false
      t := fun e => match e with
        | .UnaryOp .Not x _ => (chk pg a sc).t x
        | _ => false }
  | .ife c a b, sc => .ofE fun e => match e with
    | .IfExp z x y _ => (chk pg c sc).t z && (chk pg a sc).e x && (chk pg b sc).e y
    | _ => false
  | .call f args, sc => .ofE fun e => match e with
    | .Call (.Name x _) (a :: es) [] _ => sc.calm && gloB sc x && nmOk x && (a :: es).all notStar && (chk pg args sc).l (a :: es) && (match pg.defs[f]? with
      | some d => decide (d.at_ = (x, none))
      | none => false)
    | _ => false
  | .blt b args, sc => .ofE fun e => match e with
    | .Call (.Name x _) (a :: es) [] _ => sc.calm && b.served && decide (b.name = x) && gloB sc x && decide (x ∈ pg.free) && (a :: es).all notStar && (chk pg args sc).l (a :: es)
    | _ => false
  | .isin a t, sc => .ofE fun e => match e with
    | .Call (.Name x _) [y, .Name z _] [] _ => decide (x = "isinstance") && decide (z = t.nameS) && gloB sc x && gloB sc z && decide (x ∈ pg.free) && decide (z ∈ pg.free) && notStar y && (chk pg a sc).e y
    | _ => false
  | .ix a i, sc => .ofE fun e => match e with
    | .Subscript x y _ => plainIx y && (chk pg a sc).e x && (chk pg i sc).e y
    | _ => false
  | .slc a lo hi, sc => .ofE fun e => match e with
    | .Subscript x (.Slice l u none _) _ => (chk pg a sc).e x && partC lo.isNone (chk pg lo sc).e l && partC hi.isNone (chk pg hi sc).e u
    | _ => false
  | .addR a b, sc => .ofE fun e => match e with
    | .BinOp x op y _ => decide (op = .Add) && (chk pg a sc).e x && (chk pg b sc).e y
    | _ => false
  | .emp, _ => .ofE fun e => match e with
    | .Dict [] [] _ => true
    | _ => false
  | .ts1 c, sc => { ts := fun es => match es with
    | [x] => (chk pg c sc).t x
    | _ => false }
  | .tup args, sc => .ofE fun e => match e with
    | .Tuple es _ _ => es.all notStar && (chk pg args sc).l es
    | _ => false
  | .lst _ args, sc => .ofE fun e => match e with
    | .List es _ => es.all notStar && (chk pg args sc).l es
    | _ => false
  | .lc own elt tg it ifs, sc => .ofE fun e => match e with
    | .ListComp el [⟨t, i, fs, 0⟩] scope _ => sc.calm && notSet i && blkC sc.N sc.scope scope own && ((chk pg tg (sc.blk scope)).js.all fun j => decide (j ∈ own.map (·.2))) &&
        (chk pg it sc).it i && (chk pg tg (sc.blk scope)).g t && (chk pg ifs (sc.blk scope)).ts fs && (chk pg elt (sc.blk scope)).e el
    | _ => false
  | .nil, _ => { l := fun es => es.isEmpty, gs := fun es => es.isEmpty, ts := fun es => es.isEmpty, ss := fun es => es.isEmpty }
  | .cons a b, sc =>
    { l := fun es => match es with
        | x :: r => notStar x && (chk pg a sc).e x && (chk pg b sc).l r
        | [] => false
      gs := fun es => match es with
        | x :: r => notStar x && (chk pg a sc).g x && (chk pg b sc).gs r
        | [] => false
      js := (chk pg a sc).js ++ (chk pg b sc).js
      ss := fun es => match es with
        | x :: r => (chk pg a sc).s x && (chk pg b sc).ss r
        | [] => false }
  | .tvar i, sc => { js := [i], g := fun e => match e with
      | .Name x _ => decide (sc.N[i]? = some x) && locB sc x
      | _ => false }
  | .ttup n args, sc => { js := (chk pg args sc).js, g := fun e => match e with
      | .Tuple es _ _ => sc.calm && decide (es.length = n) && es.all notStar && (chk pg args sc).gs es
      | _ => false }
  | .tix o i, sc => { g := fun e => match e with
      | .Subscript x y _ => plainIx y && (chk pg o sc).e x && (chk pg i sc).e y
      | _ => false }
  | .rng1 a, sc => { it := fun e => match e with
      | .Call (.Name x _) [y] [] _ => decide (x = "range") && gloB sc x && decide (x ∈ pg.free) && notStar y && (chk pg a sc).e y
      | _ => false }
  | .rng2 a b, sc => { it := fun e => match e with
      | .Call (.Name x _) [y, z] [] _ => decide (x = "range") && gloB sc x && decide (x ∈ pg.free) && notStar y && notStar z && (chk pg a sc).e y && (chk pg b sc).e z
      | _ => false }
  | .walk a, sc => { it := fun e => (chk pg a sc).e e }
  | .pass, _ => { s := fun s => match s with
      | .Pass _ => true
      | _ => false }
  | .expr a, sc => { s := fun s => match s with
      | .Expr e _ => notComp e && (chk pg a sc).e e
      | _ => false }
  | .ret a, sc => { s := fun s => match s with
      | .Return (some e) _ => (chk pg a sc).e e
      | _ => false }
  | .retn, _ => { s := fun s => match s with
      | .Return none _ => true
      | _ => false }
  | .asg tg a, sc => { s := fun s => match s with
      | .Assign [t] e _ => notComp e && notStar t && (notTup t || notTup e) && (chk pg tg sc).g t && (chk pg a sc).e e
      | _ => false }
  | .asgLc i own elt tg it ifs, sc => { s := fun s => match s with
      | .Assign [.Name y py] (.ListComp el [⟨t, ie, fs, 0⟩] scope pos) _ => decide (sc.N[i]? = some y) && isLocal sc y && (py.line == pos.line) && !(scope.names.any fun (n, k) => n == y && (k == .local || k == .cell)) &&
          sc.calm && notSet ie && blkC sc.N sc.scope scope own && ((chk pg tg (sc.blk scope)).js.all fun j => decide (j ∈ own.map (·.2))) &&
          (chk pg it sc).it ie && (chk pg tg (sc.blk scope)).g t && (chk pg ifs (sc.blk scope)).ts fs && (chk pg elt (sc.blk scope)).e el
      | _ => false }
  | .par2 i j a b, sc => { s := fun s => match s with
      | .Assign [.Tuple [.Name x px, .Name y py] _ _] (.Tuple [u, v] _ _) _ => sc.calm && decide (sc.N[i]? = some x) && decide (sc.N[j]? = some y) && decide (i ≠ j) && isLocal sc x && isLocal sc y && notStar u && notStar v &&
          decide (x ≠ y) && (px.line == py.line) && !([u, v].all (foldedForSure 8)) && !([u, v].all (constantsAlone 8)) && (chk pg a sc).e u && (chk pg b sc).e v
      | _ => false }
  | .par3 i j k a b c, sc => { s := fun s => match s with
      | .Assign [.Tuple [.Name x px, .Name y py, .Name z pz] _ _] (.Tuple [u, v, w] _ _) _ => sc.calm && decide (sc.N[i]? = some x) && decide (sc.N[j]? = some y) && decide (sc.N[k]? = some z) && isLocal sc x && isLocal sc y && isLocal sc z && notStar u && notStar v && notStar w &&
          decide (x ≠ y) && decide (x ≠ z) && decide (y ≠ z) && (px.line == py.line) && (px.line == pz.line) && !([u, v, w].all (foldedForSure 8)) && !([u, v, w].all (constantsAlone 8)) && (chk pg a sc).e u && (chk pg b sc).e v && (chk pg c sc).e w
      | _ => false }
  | .parC args tg, sc => { s := fun s => match s with
      | .Assign [.Tuple ts k1 p1] (.Tuple es k2 p2) _ => sc.calm && ((not (ts.length == 2 || ts.length == 3)).or (es.all (foldedForSure 8))) && es.all notStar && ts.all notStar && (chk pg tg sc).g (.Tuple ts k1 p1) && (chk pg args sc).e (.Tuple es k2 p2)
      | _ => false }
  | .aug i op a, sc => { s := fun s => match s with
      | .AugAssign (.Name x _) op' e _ => decide (op = op') && decide (sc.N[i]? = some x) && locB sc x && (chk pg a sc).e e
      | _ => false }
  | .own i args, sc => { s := fun s => match s with
      | .Assign [.Name x _] (.List es _) _ => decide (sc.N[i]? = some x) && locB sc x && es.all notStar && (chk pg args sc).l es
      | _ => false }
  | .chg .append i args, sc => { s := fun s => match s with
      | .Expr (.Call (.Attribute (.Name x _) name ap) (a :: es) [] cp) _ => decide (name = "append") && decide (sc.N[i]? = some x) && visB sc x && nmOk x && (a :: es).all notStar && decide ((a :: es).length < 20) && (ap.endLine == cp.line) && (chk pg args sc).l (a :: es)
      | _ => false }
  | .frz _ a, sc => { s := fun s => (chk pg a sc).s s }
  | .if_ c a b, sc => { s := fun s => match s with
      | .If e x y _ => (chk pg c sc).t e && (chk pg a sc).ss x && (chk pg b sc).ss y
      | _ => false }
  | .while_ _ c b, sc => { s := fun s => match s with
      | .While e x [] _ => (chk pg c sc).t e && (chk pg b sc).ss x
      | _ => false }
  | .for_ tg it b, sc => { s := fun s => match s with
      | .For t i x [] _ => sc.calm && notSet i && (chk pg tg sc).g t && (chk pg it sc).it i && (chk pg b sc).ss x
      | _ => false }
  | .brk, _ => { s := fun s => match s with
      | .Break _ => true
      | _ => false }
  | .cont, _ => { s := fun s => match s with
      | .Continue _ => true
      | _ => false }
  | .never, _ => { s := fun _ => true }
  | _, _ => {}
end DL

set_option Elab.async false
set_option linter.all false
set_option maxRecDepth 100000
set_option maxHeartbeats 4000000
/-! the look tells the truth -/
namespace DL
open PySem PySem.Spec L2

/-- what holds of the program -/
structure Facts (pg : Pg) (G : Gl) (mg : Str → Option Value) (C : Nat → D) : Prop where
  defs : ∀ (i : Nat) (d : DefI) (x : Str), pg.defs[i]? = some d → d.at_ = (x, none) → mg x = some (.ref (G.fa i)) ∧ PySem.W.keepIn G.K (.ref (G.fa i)) = true
  free : ∀ x ∈ pg.free, mg x = none
  consts : ∀ (i : Nat) (p : Str × D), pg.consts[i]? = some p → C i = p.2 ∧ ∃ v u, mg p.1 = some u ∧ RelV v u ∧ ∀ H S φ, Rep G H S φ p.2 v
/-- what holds where a part stands -/
structure Good (pg : Pg) (G : Gl) (Γ : Fns) (X : Cx) (sc : Sc) (k : Nat) (W : WX) : Prop where
  K : X.K = G.K
  scope : X.env.scope = sc.scope
  kind : sc.scope.kind = .function
  N : X.N = sc.N
  nd : X.N.Nodup
  calm : sc.calm = true → X.calm = true
  units : X.A.units + 65 < cLine
  room : sc.calm = true → Room k X.A
  fn : ∀ x, sc.cellB x = true → X.fn x = true
  po : PassesOwn (model X.prog X.w) X.A X.env X.xe
  tk : Takes X W
  facts : Facts pg G X.mg Γ.c
  calls : ∀ (i : Nat) (d : DefI), pg.defs[i]? = some d → ∃ fd, FnOk X.prog X.w X.K X.mg X.base (L2.CX X.prog X.w) k (G.fa i) fd d.ps (spOf G (Γ.f i)) ∧ Binds X.K fd d.ps []

theorem kind_eq (X : Cx) (sc : Sc) (h : X.env.scope = sc.scope) (x : Str) : X.env.kindOf x = kindIn sc x := by
  unfold Env.kindOf kindIn
  rw [h]
theorem vis_of {X : Cx} {sc : Sc} (h : X.env.scope = sc.scope) {x : Str} (v : visB sc x = true) : Vis X.env.scope x := by
  unfold visB kindIn at v
  unfold Vis
  rw [h]
  revert v
  cases sc.scope.names.lookup x with
  | none => intro v; cases v
  | some k => cases k <;> intro v <;> first | exact .inl rfl | exact .inr (.inl rfl) | exact .inr (.inr rfl) | cases v
theorem loc_of {X : Cx} {sc : Sc} (h : X.env.scope = sc.scope) {x : Str} (v : locB sc x = true) : X.env.scope.names.lookup x = some .local ∨ (X.env.scope.names.lookup x = some .cell ∧ sc.cellB x = true) := by
  unfold locB kindIn at v
  rw [h]
  revert v
  cases sc.scope.names.lookup x with
  | none => intro v; cases v
  | some k => cases k <;> intro v <;> first | exact .inl rfl | exact .inr ⟨rfl, v⟩ | cases v
theorem loc1 {X : Cx} {sc : Sc} (h : X.env.scope = sc.scope) {x : Str} (v : locB sc x = true) : L2.Loc X.env.scope x := (loc_of h v).imp id fun z => z.1
theorem local_of {X : Cx} {sc : Sc} (h : X.env.scope = sc.scope) {x : Str} (v : isLocal sc x = true) : X.env.scope.names.lookup x = some .local := by
  unfold isLocal kindIn at v
  rw [h]
  revert v
  cases sc.scope.names.lookup x with
  | none => intro v; cases v
  | some k => cases k <;> intro v <;> first | rfl | cases v
theorem gl_of {X : Cx} {sc : Sc} (h : X.env.scope = sc.scope) {x : Str} (v : gloB sc x = true) : L2.Gl X x := by
  unfold gloB at v
  unfold L2.Gl
  rw [kind_eq X sc h]
  revert v
  cases kindIn sc x with
  | none => intro v; cases v
  | some k => cases k <;> intro v <;> first | rfl | cases v
section
variable {pg : Pg} {G : Gl} {Γ : Fns} {X : Cx} {sc : Sc} {k : Nat} {W : WX}
theorem Good.fnOk (g : Good pg G Γ X sc k W) {x : Str} (v : locB sc x = true) : X.fn x = true ∨ X.env.scope.names.lookup x = some .local := by
  rcases loc_of g.scope v with h | h
  · exact .inr h
  · exact .inl (g.fn x h.2)
theorem nm_of {x : Str} (h : nmOk x = true) : (x == ("__debug__" : Str)) = false ∧ (x == ("__classdict__" : Str)) = false := by
  unfold nmOk at h
  rw [Bool.and_eq_true] at h
  exact ⟨by simpa using h.1, by simpa using h.2⟩
theorem star1 {a : Expr} {es : List Expr} {env : PySem.Env} (h : notStar a = true) : starEach (a :: es) env = (false, eval a env) :: starEach es env := by
  cases a <;> first | rfl | cases h
theorem asg1 {a : Expr} {es : List Expr} {env : PySem.Env} (h : notStar a = true) : assignEach (a :: es) env = (false, assign a env) :: assignEach es env := by
  cases a <;> first | rfl | cases h
theorem starAny : ∀ {es : List Expr} {env : PySem.Env} {pos : Pos}, es.all notStar = true → (backTo pos (starEach es env)).any (·.1) = false
  | [], _, _, _ => rfl
  | a :: es, env, pos, h => by
    rw [List.all_cons, Bool.and_eq_true] at h
    rw [star1 h.1]
    show (false || (backTo pos (starEach es env)).any (·.1)) = false
    rw [starAny h.2]
    rfl
theorem starAll : ∀ {es : List Expr} {env : PySem.Env} {pos : Pos}, es.all notStar = true → (backTo pos (starEach es env)).all (fun x => !x.1) = true
  | [], _, _, _ => rfl
  | a :: es, env, pos, h => by
    rw [List.all_cons, Bool.and_eq_true] at h
    rw [star1 h.1]
    show (!false && (backTo pos (starEach es env)).all (fun x => !x.1)) = true
    rw [starAll h.2]
    rfl
theorem asgFind : ∀ {es : List Expr} {env : PySem.Env}, es.all notStar = true → (assignEach es env).findIdx? (·.1) = none ∧ (assignEach es env).length = es.length
  | [], _, _ => ⟨rfl, rfl⟩
  | a :: es, env, h => by
    rw [List.all_cons, Bool.and_eq_true] at h
    obtain ⟨h1, h2⟩ := asgFind (env := env) h.2
    rw [asg1 h.1]
    refine ⟨?_, by rw [List.length_cons, List.length_cons, h2]⟩
    rw [List.findIdx?_cons, h1]
    rfl
theorem truth_of {a : Expr} {env : PySem.Env} (h : plainT a = true) (whole : Sem Value) : isTrue a env whole = (do let v ← whole; standAt a.pos; holding [v] (truthy v)) := by
  cases a <;> first | rfl | cases h
theorem plainIx_of {b : Expr} (h : plainIx b = true) : PlainIx b := by
  cases b <;> first | exact fun _ _ => rfl | cases h
theorem notSet_of {a : Expr} {env : PySem.Env} (h : notSet a = true) (x : Value) : foldedSetIterable a env x = pure x := by
  cases a <;> first | rfl | cases h
theorem swaps_of {a : Expr} {t : Option Expr} {l : Nat} {env : PySem.Env} (h : notComp a = true) : swapsWith a t l env = pure false := by
  cases a <;> first | rfl | cases h
theorem swapped_of {t a : Expr} {env : PySem.Env} (h : (notTup t || notTup a) = true) : swappedStores [t] a env = pure none := by
  cases t <;> first | rfl | (cases a <;> first | rfl | cases h)
theorem subAssign {a b : Expr} {pos : Pos} {env : PySem.Env} (h : plainIx b = true) (v : Value) : assign (.Subscript a b pos) env v = (do
      let ov ← holding [v] (eval a env)
      let iv ← holding [v, ov] (eval b env)
      standAt pos
      holding [v, ov, iv] (setItem ov iv v)
      release [v, ov, iv] []) := by
  cases b <;> first | rfl | cases h
theorem blockKind_of (g : Good pg G Γ X sc k W) : X.env.blockKind = .function := by
  unfold Env.blockKind
  rw [g.scope, g.kind]
  rfl
theorem kindOf_local (g : Good pg G Γ X sc k W) {x : Str} (h : isLocal sc x = true) : X.env.kindOf x = some .local := by
  rw [kind_eq X sc g.scope]
  unfold isLocal at h
  revert h
  cases kindIn sc x with
  | none => intro v; cases v
  | some k => cases k <;> intro v <;> first | rfl | cases v
theorem swapped2 {x y : Str} {px py pt : Pos} {kt k2 : Nat} {pt2 : Pos} {u v : Expr} {env : PySem.Env} (hb : env.blockKind = .function) (hx : env.kindOf x = some .local) (hy : env.kindOf y = some .local) (hu : notStar u = true) (hv : notStar v = true) (hne : x ≠ y) (hl : (px.line == py.line) = true)
    (h1 : ([u, v].all (foldedForSure 8)) = false) (h2 : ([u, v].all (constantsAlone 8)) = false) :
    swappedStores [.Tuple [.Name x px, .Name y py] kt pt] (.Tuple [u, v] k2 pt2) env = pure (some [x, y]) := by
  have hl : py.line = px.line := (beq_iff_eq.mp hl).symm
  have n1 : (y == x) = false := by simpa using (Ne.symm hne)
  have hs : ([u, v].any fun | .Starred .. => true | _ => false) = false := by
    have st : ∀ e : Expr, notStar e = true → (match e with | .Starred .. => true | _ => false) = false := fun e h => by cases e <;> first | rfl | cases h
    simp only [List.any_cons, List.any_nil, st u hu, st v hv, Bool.or_false]
  have e1 : (px.line == px.line) = true := by simp
  have e2 : (some NameKind.local == some NameKind.local) = true := rfl
  have hn : ([Expr.Name x px, Expr.Name y py].filterMap fun
    | .Name id pos => if env.kindOf id == some .local && pos.line == px.line then some id else none
    | _ => none) = [x, y] := by
    simp only [List.filterMap_cons, List.filterMap_nil, hx, hy, hl, e1, e2, Bool.and_self, if_true]
  unfold swappedStores
  dsimp only
  rw [h1, h2]
  have hd : [x, y].eraseDups = [x, y] := by
    simp [List.eraseDups, List.eraseDupsBy, List.eraseDupsBy.loop, n1]
  erw [hs]
  erw [hn]
  rw [hb, hd]
  rfl
theorem swapped3 {x y z : Str} {px py pz pt : Pos} {kt k2 : Nat} {pt2 : Pos} {u v w : Expr} {env : PySem.Env} (hb : env.blockKind = .function) (hx : env.kindOf x = some .local) (hy : env.kindOf y = some .local) (hz : env.kindOf z = some .local) (hu : notStar u = true) (hv : notStar v = true) (hw : notStar w = true)
    (hne : x ≠ y) (hne2 : x ≠ z) (hne3 : y ≠ z) (hl : (px.line == py.line) = true) (hl2 : (px.line == pz.line) = true)
    (h1 : ([u, v, w].all (foldedForSure 8)) = false) (h2 : ([u, v, w].all (constantsAlone 8)) = false) :
    swappedStores [.Tuple [.Name x px, .Name y py, .Name z pz] kt pt] (.Tuple [u, v, w] k2 pt2) env = pure (some [x, y, z]) := by
  have hl : py.line = px.line := (beq_iff_eq.mp hl).symm
  have hl2 : pz.line = px.line := (beq_iff_eq.mp hl2).symm
  have n1 : (y == x) = false := by simpa using (Ne.symm hne)
  have n2 : (z == x) = false := by simpa using (Ne.symm hne2)
  have n3 : (z == y) = false := by simpa using (Ne.symm hne3)
  have hs : ([u, v, w].any fun | .Starred .. => true | _ => false) = false := by
    have st : ∀ e : Expr, notStar e = true → (match e with | .Starred .. => true | _ => false) = false := fun e h => by cases e <;> first | rfl | cases h
    simp only [List.any_cons, List.any_nil, st u hu, st v hv, st w hw, Bool.or_false]
  have e1 : (px.line == px.line) = true := by simp
  have e2 : (some NameKind.local == some NameKind.local) = true := rfl
  have hn : ([Expr.Name x px, Expr.Name y py, Expr.Name z pz].filterMap fun
    | .Name id pos => if env.kindOf id == some .local && pos.line == px.line then some id else none
    | _ => none) = [x, y, z] := by
    simp only [List.filterMap_cons, List.filterMap_nil, hx, hy, hz, hl, hl2, e1, e2, Bool.and_self, if_true]
  unfold swappedStores
  dsimp only
  rw [h1, h2]
  have hd : [x, y, z].eraseDups = [x, y, z] := by
    simp [List.eraseDups, List.eraseDupsBy, List.eraseDupsBy.loop, n1, n2, n3]
  erw [hs]
  erw [hn]
  rw [hb, hd]
  rfl
theorem swappedNo {ts es : List Expr} {k1 k2 : Nat} {p1 p2 : Pos} {env : PySem.Env} (h : ((not (ts.length == 2 || ts.length == 3)).or (es.all (foldedForSure 8))) = true) : swappedStores [.Tuple ts k1 p1] (.Tuple es k2 p2) env = pure none := by
  unfold swappedStores
  dsimp only
  cases h1 : (not (ts.length == 2 || ts.length == 3)) with
  | true => rfl
  | false =>
    rw [h1] at h
    have h2 : es.all (foldedForSure 8) = true := h
    rw [h2]
    split
    · rfl
    · split
      · rfl
      · split
        · rfl
        · rfl
theorem swapsTup {ts : List Expr} {k : Nat} {p : Pos} {t : Option Expr} {l : Nat} {env : PySem.Env} : swapsWith (.Tuple ts k p) t l env = pure false := rfl

/-- the look tells the truth of a part -/
structure Snd (pg : Pg) (G : Gl) (Γ : Fns) (i : I) : Prop where
  e : ∀ {X : Cx} {sc : Sc} {k : Nat} {W : WX}, Good pg G Γ X sc k W → ∀ pe : Expr, (chk pg i sc).e pe = true → PE X pe (tE G W (den Γ i).e)
  t : ∀ {X : Cx} {sc : Sc} {k : Nat} {W : WX}, Good pg G Γ X sc k W → ∀ pe : Expr, (chk pg i sc).t pe = true → PT X pe (tT G W (den Γ i).t)
  w : ∀ {X : Cx} {sc : Sc} {k : Nat} {W : WX}, Good pg G Γ X sc k W → ∀ pe : Expr, (chk pg i sc).w pe = true → PW X pe (tT G W (den Γ i).t)
  l : ∀ {X : Cx} {sc : Sc} {k : Nat} {W : WX}, Good pg G Γ X sc k W → ∀ pe : List Expr, (chk pg i sc).l pe = true → PA X pe (tL G W (den Γ i).l)
  g : ∀ {X : Cx} {sc : Sc} {k : Nat} {W : WX}, Good pg G Γ X sc k W → ∀ pe : Expr, (chk pg i sc).g pe = true → PG X pe (tG G W (chk pg i sc).js (den Γ i).g)
  gs : ∀ {X : Cx} {sc : Sc} {k : Nat} {W : WX}, Good pg G Γ X sc k W → ∀ pe : List Expr, (chk pg i sc).gs pe = true → PGs X pe (tGs G W (chk pg i sc).js (den Γ i).gs)
  s : ∀ {X : Cx} {sc : Sc} {k : Nat} {W : WX}, Good pg G Γ X sc k W → ∀ pe : Stmt, (chk pg i sc).s pe = true → PS X pe (tS G W (den Γ i).s)
  ss : ∀ {X : Cx} {sc : Sc} {k : Nat} {W : WX}, Good pg G Γ X sc k W → ∀ pe : List Stmt, (chk pg i sc).ss pe = true → PSs X pe (tS G W (den Γ i).s)
  it : ∀ {X : Cx} {sc : Sc} {k : Nat} {W : WX}, Good pg G Γ X sc k W → ∀ (tg pe : Expr), (chk pg i sc).it pe = true → PI X tg pe (tI G W (den Γ i).it)
  ts : ∀ {X : Cx} {sc : Sc} {k : Nat} {W : WX}, Good pg G Γ X sc k W → ∀ pe : List Expr, (chk pg i sc).ts pe = true → PTs X pe (tT G W (den Γ i).t)

/-- a block within -/
theorem Good.blk (g : Good pg G Γ X sc k W) {scope : Scope} {own : List (Str × Nat)} (hb : BlkOk sc.N sc.scope scope own) (hc : sc.calm = true) (s : Shared) (H : Hp) (C : Addr) (cl : List (Str × Addr)) (fp : List Addr) :
    Good pg G Γ (X.blk s H scope (compEnvC scope cl C X.env) fp) (sc.blk scope) k WF where
  K := g.K
  scope := by
    show relabel scope X.env = relS scope sc.scope
    rw [← g.scope]
    rfl
  kind := hb.kind
  N := g.N
  nd := g.nd
  calm := g.calm
  units := g.units
  room := g.room
  fn := fun x h => h
  po := PassesOwn.never
  tk := takes0
  facts := g.facts
  calls := g.calls
end
end DL
#print L2.Cx.blk

set_option Elab.async false
set_option linter.all false
set_option maxRecDepth 100000
set_option maxHeartbeats 4000000
/-! the look tells the truth of every part -/
namespace DL
open PySem PySem.Spec L2
section
variable {pg : Pg} {G : Gl} {Γ : Fns} {X : Cx} {sc : Sc} {k : Nat} {W : WX}
theorem notB {b : Bool} (h : (!b) = true) : b = false := by cases b <;> first | rfl | cases h
theorem and2 {a b : Bool} (h : (a && b) = true) : a = true ∧ b = true := by rwa [Bool.and_eq_true] at h
/-- an expression whose truth is its value's -/
theorem truth' (g : Good pg G Γ X sc k W) {pe : Expr} {f : Env → Store → R D} (hp : plainT pe = true) (h : PE X pe (tE G W f)) : PT X pe (tT G W (Dn.ofE f).t) := d_truth g.K h (truth_of hp)
theorem d_blt (g : Good pg G Γ X sc k W) (b : Blt) {x : Str} {a : Expr} {es : List Expr} {p pos : Pos} {fl : Env → Store → R (List D)} (hc : sc.calm = true) (hs : b.served = true) (hn : b.name = x) (hg : gloB sc x = true) (hf : x ∈ pg.free) (hst : (a :: es).all notStar = true)
    (ha : PA X (a :: es) (tL G W fl)) : PE X (.Call (.Name x p) (a :: es) [] pos) (tE G W fun ρ st => (fl ρ st).bind fun xs st => ofO (bltD b xs st) st) := by
  subst hn
  have hm := g.facts.free _ hf
  have hgl := gl_of g.scope hg
  have hcl := g.calm hc
  rw [List.all_cons, Bool.and_eq_true] at hst
  cases b with
  | len => exact d_callB (o_len g.K) hgl hm PySem.boot_len ha (by decide) (by decide) (star1 hst.1) (starAny hst.2)
  | abs => exact d_callB o_abs hgl hm (by decide +kernel) ha (by decide) (by decide) (star1 hst.1) (starAny hst.2)
  | int => exact d_callTy o_int hgl hm (by decide +kernel) ha (by decide) (by decide) (star1 hst.1) (starAny hst.2)
  | bool => exact d_callTy o_bool hgl hm (by decide +kernel) ha (by decide) (by decide) (star1 hst.1) (starAny hst.2)
  | str => cases hs
  | repr => exact d_callB o_repr hgl hm (by decide +kernel) ha (by decide) (by decide) (star1 hst.1) (starAny hst.2)
  | max => exact d_callB (o_max hcl) hgl hm (by decide +kernel) ha (by decide) (by decide) (star1 hst.1) (starAny hst.2)
  | min => exact d_callB (o_min hcl) hgl hm (by decide +kernel) ha (by decide) (by decide) (star1 hst.1) (starAny hst.2)
  | sum => exact d_callB (o_sum g.K hcl) hgl hm (by decide +kernel) ha (by decide) (by decide) (star1 hst.1) (starAny hst.2)
  | all => exact d_callB (o_all g.K hcl) hgl hm (by decide +kernel) ha (by decide) (by decide) (star1 hst.1) (starAny hst.2)
  | any => exact d_callB (o_any g.K hcl) hgl hm (by decide +kernel) ha (by decide) (by decide) (star1 hst.1) (starAny hst.2)
  | tuple => exact d_callTy (o_tuple g.K) hgl hm (by decide +kernel) ha (by decide) (by decide) (star1 hst.1) (starAny hst.2)
  | list => exact d_callTy (o_list g.K) hgl hm (by decide +kernel) ha (by decide) (by decide) (star1 hst.1) (starAny hst.2)
theorem ty_boot (t : Ty) : bootBuiltins t.nameS = some (.type t.name) := by cases t <;> decide +kernel
theorem ty_ne (t : Ty) : t.nameS ≠ "__name__" ∧ (t.nameS == ("__debug__" : Str)) = false := by cases t <;> exact ⟨by decide, by decide⟩
theorem d_isin (g : Good pg G Γ X sc k W) (t : Ty) {x z : Str} {a : Expr} {p p2 pos : Pos} {fa : Env → Store → R D} (hx : x = "isinstance") (hz : z = t.nameS) (hg : gloB sc x = true) (hg2 : gloB sc z = true) (hf : x ∈ pg.free) (hf2 : z ∈ pg.free) (hs : notStar a = true)
    (ha : PE X a (tE G W fa)) : PE X (.Call (.Name x p) [a, .Name z p2] [] pos) (tE G W fun ρ st => (fa ρ st).bind fun x st => ofO ((isinD st x t).map D.bl) st) := by
  subst hx
  subst hz
  have tn := ty_ne t
  have hz : PE X (.Name t.nameS p2) (tC (.ty t.name)) := pe_bltn (gl_of g.scope hg2) (g.facts.free _ hf2) (ty_boot t) rfl tn.1 tn.2
  refine PE.imp (pe_callB call_isi (gl_of g.scope hg) (g.facts.free _ hf) (by decide +kernel) (pa_cons ha (pa_cons hz pa_nil rfl) (star1 hs)) (by decide) (by decide) (star1 hs) (starAny (es := [.Name t.nameS p2]) rfl)) fun σ H Q ⟨e0, Mt, φ, ρ, st, ok, h⟩ => ?_
  refine goE ok h fun H1 Mt1 φ1 st1 v d ok1 e1 rd q => ?_
  cases hk : isinD st1 d t with
  | none => rw [hk] at q; exact False.elim q
  | some b =>
    rw [hk] at q
    obtain ⟨n, h1, h2⟩ := kit_at (K := X.K) hk
    refine ⟨v, .ty t.name, .type n, .type t.name, b, rfl, .ty _, ?_, h2, Po.here (st := st1) q ok1.st mkBl⟩
    rw [g.K]
    exact ty_at ok1.st rd h1

theorem snd_var_e (i : Nat)  : ∀ {X : Cx} {sc : Sc} {k : Nat} {W : WX}, Good pg G Γ X sc k W → ∀ pe : Expr, (chk pg (.var i) sc).e pe = true → PE X pe (tE G W (den Γ (.var i)).e) := by
  intro X sc k W g pe h
  dsimp only [chk, Ck.ofE] at h
  split at h
  · rename_i x p
    obtain ⟨h, h3⟩ := and2 h
    obtain ⟨h1, h2⟩ := and2 h
    exact d_var (by rw [g.N]; exact of_decide_eq_true h1) (vis_of g.scope h2) (nm_of h3).1 (nm_of h3).2
  · cases h

theorem snd_var (i : Nat)  : Snd pg G Γ (.var i) := by
  refine ⟨?_, ?_, ?_, ?_, ?_, ?_, ?_, ?_, ?_, ?_⟩
  · exact snd_var_e i
  · exact fun {X sc k W} g pe h => truth' g (and2 h).1 (snd_var_e i  g pe (and2 h).2)
  · exact fun {X sc k W} g pe h => Bool.noConfusion (show false = true from h)
  · exact fun {X sc k W} g pe h => Bool.noConfusion (show false = true from h)
  · exact fun {X sc k W} g pe h => Bool.noConfusion (show false = true from h)
  · exact fun {X sc k W} g pe h => Bool.noConfusion (show false = true from h)
  · exact fun {X sc k W} g pe h => Bool.noConfusion (show false = true from h)
  · exact fun {X sc k W} g pe h => Bool.noConfusion (show false = true from h)
  · exact fun {X sc k W} g tg pe h => Bool.noConfusion (show false = true from h)
  · exact fun {X sc k W} g pe h => Bool.noConfusion (show false = true from h)

theorem snd_int_e (n : Int)  : ∀ {X : Cx} {sc : Sc} {k : Nat} {W : WX}, Good pg G Γ X sc k W → ∀ pe : Expr, (chk pg (.int n) sc).e pe = true → PE X pe (tE G W (den Γ (.int n)).e) := by
  intro X sc k W g pe h
  dsimp only [chk, Ck.ofE] at h
  split at h
  · rename_i m q p
    have e : n = m := of_decide_eq_true h
    subst e
    exact d_const pe_int fun H Mt φ => by unfold Rep; rfl
  · cases h

theorem snd_int (n : Int)  : Snd pg G Γ (.int n) := by
  refine ⟨?_, ?_, ?_, ?_, ?_, ?_, ?_, ?_, ?_, ?_⟩
  · exact snd_int_e n
  · exact fun {X sc k W} g pe h => truth' g (and2 h).1 (snd_int_e n  g pe (and2 h).2)
  · exact fun {X sc k W} g pe h => Bool.noConfusion (show false = true from h)
  · exact fun {X sc k W} g pe h => Bool.noConfusion (show false = true from h)
  · exact fun {X sc k W} g pe h => Bool.noConfusion (show false = true from h)
  · exact fun {X sc k W} g pe h => Bool.noConfusion (show false = true from h)
  · exact fun {X sc k W} g pe h => Bool.noConfusion (show false = true from h)
  · exact fun {X sc k W} g pe h => Bool.noConfusion (show false = true from h)
  · exact fun {X sc k W} g tg pe h => Bool.noConfusion (show false = true from h)
  · exact fun {X sc k W} g pe h => Bool.noConfusion (show false = true from h)

theorem snd_str_e (n : Str)  : ∀ {X : Cx} {sc : Sc} {k : Nat} {W : WX}, Good pg G Γ X sc k W → ∀ pe : Expr, (chk pg (.str n) sc).e pe = true → PE X pe (tE G W (den Γ (.str n)).e) := by
  intro X sc k W g pe h
  dsimp only [chk, Ck.ofE] at h
  split at h
  · rename_i m q p
    have e : n = m := of_decide_eq_true h
    subst e
    exact d_const pe_str fun H Mt φ => by unfold Rep; rfl
  · cases h

theorem snd_str (n : Str)  : Snd pg G Γ (.str n) := by
  refine ⟨?_, ?_, ?_, ?_, ?_, ?_, ?_, ?_, ?_, ?_⟩
  · exact snd_str_e n
  · exact fun {X sc k W} g pe h => truth' g (and2 h).1 (snd_str_e n  g pe (and2 h).2)
  · exact fun {X sc k W} g pe h => Bool.noConfusion (show false = true from h)
  · exact fun {X sc k W} g pe h => Bool.noConfusion (show false = true from h)
  · exact fun {X sc k W} g pe h => Bool.noConfusion (show false = true from h)
  · exact fun {X sc k W} g pe h => Bool.noConfusion (show false = true from h)
  · exact fun {X sc k W} g pe h => Bool.noConfusion (show false = true from h)
  · exact fun {X sc k W} g pe h => Bool.noConfusion (show false = true from h)
  · exact fun {X sc k W} g tg pe h => Bool.noConfusion (show false = true from h)
  · exact fun {X sc k W} g pe h => Bool.noConfusion (show false = true from h)

theorem snd_bool_e (n : Bool)  : ∀ {X : Cx} {sc : Sc} {k : Nat} {W : WX}, Good pg G Γ X sc k W → ∀ pe : Expr, (chk pg (.bool n) sc).e pe = true → PE X pe (tE G W (den Γ (.bool n)).e) := by
  intro X sc k W g pe h
  dsimp only [chk, Ck.ofE] at h
  split at h
  · rename_i m q p
    have e : n = m := eq_of_beq h
    subst e
    exact d_const pe_bl fun H Mt φ => by unfold Rep; rfl
  · cases h

theorem snd_bool (n : Bool)  : Snd pg G Γ (.bool n) := by
  refine ⟨?_, ?_, ?_, ?_, ?_, ?_, ?_, ?_, ?_, ?_⟩
  · exact snd_bool_e n
  · exact fun {X sc k W} g pe h => truth' g (and2 h).1 (snd_bool_e n  g pe (and2 h).2)
  · exact fun {X sc k W} g pe h => Bool.noConfusion (show false = true from h)
  · exact fun {X sc k W} g pe h => Bool.noConfusion (show false = true from h)
  · exact fun {X sc k W} g pe h => Bool.noConfusion (show false = true from h)
  · exact fun {X sc k W} g pe h => Bool.noConfusion (show false = true from h)
  · exact fun {X sc k W} g pe h => Bool.noConfusion (show false = true from h)
  · exact fun {X sc k W} g pe h => Bool.noConfusion (show false = true from h)
  · exact fun {X sc k W} g tg pe h => Bool.noConfusion (show false = true from h)
  · exact fun {X sc k W} g pe h => Bool.noConfusion (show false = true from h)

theorem snd_none_e   : ∀ {X : Cx} {sc : Sc} {k : Nat} {W : WX}, Good pg G Γ X sc k W → ∀ pe : Expr, (chk pg .none sc).e pe = true → PE X pe (tE G W (den Γ .none).e) := by
  intro X sc k W g pe h
  dsimp only [chk, Ck.ofE] at h
  split at h
  · rename_i q p
    exact d_const pe_non fun H Mt φ => by unfold Rep; rfl
  · cases h

theorem snd_none   : Snd pg G Γ .none := by
  refine ⟨?_, ?_, ?_, ?_, ?_, ?_, ?_, ?_, ?_, ?_⟩
  · exact snd_none_e
  · exact fun {X sc k W} g pe h => truth' g (and2 h).1 (snd_none_e   g pe (and2 h).2)
  · exact fun {X sc k W} g pe h => Bool.noConfusion (show false = true from h)
  · exact fun {X sc k W} g pe h => Bool.noConfusion (show false = true from h)
  · exact fun {X sc k W} g pe h => Bool.noConfusion (show false = true from h)
  · exact fun {X sc k W} g pe h => Bool.noConfusion (show false = true from h)
  · exact fun {X sc k W} g pe h => Bool.noConfusion (show false = true from h)
  · exact fun {X sc k W} g pe h => Bool.noConfusion (show false = true from h)
  · exact fun {X sc k W} g tg pe h => Bool.noConfusion (show false = true from h)
  · exact fun {X sc k W} g pe h => Bool.noConfusion (show false = true from h)

theorem snd_glob_e (n : Nat)  : ∀ {X : Cx} {sc : Sc} {k : Nat} {W : WX}, Good pg G Γ X sc k W → ∀ pe : Expr, (chk pg (.glob n) sc).e pe = true → PE X pe (tE G W (den Γ (.glob n)).e) := by
  intro X sc k W g pe h
  dsimp only [chk, Ck.ofE] at h
  split at h
  · rename_i x p
    obtain ⟨h, h3⟩ := and2 h
    obtain ⟨h1, h2⟩ := and2 h
    cases hc : pg.consts[n]? with
    | none => rw [hc] at h3; cases h3
    | some q =>
      rw [hc] at h3
      have e : q.1 = x := of_decide_eq_true h3
      subst e
      obtain ⟨e1, v, u, e2, r, rp⟩ := g.facts.consts n q hc
      have := d_const (W := W) (G := G) (pe_glob (X := X) (pos := p) (gl_of g.scope h1) e2 r (nm_of h2).1) fun H Mt φ => rp H Mt φ
      rw [← e1] at this
      exact this
  · cases h

theorem snd_glob (n : Nat)  : Snd pg G Γ (.glob n) := by
  refine ⟨?_, ?_, ?_, ?_, ?_, ?_, ?_, ?_, ?_, ?_⟩
  · exact snd_glob_e n
  · exact fun {X sc k W} g pe h => truth' g (and2 h).1 (snd_glob_e n  g pe (and2 h).2)
  · exact fun {X sc k W} g pe h => Bool.noConfusion (show false = true from h)
  · exact fun {X sc k W} g pe h => Bool.noConfusion (show false = true from h)
  · exact fun {X sc k W} g pe h => Bool.noConfusion (show false = true from h)
  · exact fun {X sc k W} g pe h => Bool.noConfusion (show false = true from h)
  · exact fun {X sc k W} g pe h => Bool.noConfusion (show false = true from h)
  · exact fun {X sc k W} g pe h => Bool.noConfusion (show false = true from h)
  · exact fun {X sc k W} g tg pe h => Bool.noConfusion (show false = true from h)
  · exact fun {X sc k W} g pe h => Bool.noConfusion (show false = true from h)

theorem snd_bin_e (op : Operator) (a : I) (b : I) (iha : Snd pg G Γ a) (ihb : Snd pg G Γ b) : ∀ {X : Cx} {sc : Sc} {k : Nat} {W : WX}, Good pg G Γ X sc k W → ∀ pe : Expr, (chk pg (.bin op a b) sc).e pe = true → PE X pe (tE G W (den Γ (.bin op a b)).e) := by
  intro X sc k W g pe h
  dsimp only [chk, Ck.ofE] at h
  split at h
  · rename_i x op' y p
    obtain ⟨h, h3⟩ := and2 h
    obtain ⟨h1, h2⟩ := and2 h
    have e : op = op' := of_decide_eq_true h1
    subst e
    exact d_bin (o_bin g.K op) (iha.e g x h2) (ihb.e g y h3)
  · cases h

theorem snd_bin (op : Operator) (a : I) (b : I) (iha : Snd pg G Γ a) (ihb : Snd pg G Γ b) : Snd pg G Γ (.bin op a b) := by
  refine ⟨?_, ?_, ?_, ?_, ?_, ?_, ?_, ?_, ?_, ?_⟩
  · exact snd_bin_e op a b iha ihb
  · exact fun {X sc k W} g pe h => truth' g (and2 h).1 (snd_bin_e op a b iha ihb g pe (and2 h).2)
  · exact fun {X sc k W} g pe h => Bool.noConfusion (show false = true from h)
  · exact fun {X sc k W} g pe h => Bool.noConfusion (show false = true from h)
  · exact fun {X sc k W} g pe h => Bool.noConfusion (show false = true from h)
  · exact fun {X sc k W} g pe h => Bool.noConfusion (show false = true from h)
  · exact fun {X sc k W} g pe h => Bool.noConfusion (show false = true from h)
  · exact fun {X sc k W} g pe h => Bool.noConfusion (show false = true from h)
  · exact fun {X sc k W} g tg pe h => Bool.noConfusion (show false = true from h)
  · exact fun {X sc k W} g pe h => Bool.noConfusion (show false = true from h)

theorem snd_neg_e (a : I) (iha : Snd pg G Γ a) : ∀ {X : Cx} {sc : Sc} {k : Nat} {W : WX}, Good pg G Γ X sc k W → ∀ pe : Expr, (chk pg (.neg a) sc).e pe = true → PE X pe (tE G W (den Γ (.neg a)).e) := by
  intro X sc k W g pe h
  dsimp only [chk, Ck.ofE] at h
  split at h
  · rename_i x p
    exact d_un o_neg (iha.e g x h)
  · cases h

theorem snd_neg (a : I) (iha : Snd pg G Γ a) : Snd pg G Γ (.neg a) := by
  refine ⟨?_, ?_, ?_, ?_, ?_, ?_, ?_, ?_, ?_, ?_⟩
  · exact snd_neg_e a iha
  · exact fun {X sc k W} g pe h => truth' g (and2 h).1 (snd_neg_e a iha g pe (and2 h).2)
  · exact fun {X sc k W} g pe h => Bool.noConfusion (show false = true from h)
  · exact fun {X sc k W} g pe h => Bool.noConfusion (show false = true from h)
  · exact fun {X sc k W} g pe h => Bool.noConfusion (show false = true from h)
  · exact fun {X sc k W} g pe h => Bool.noConfusion (show false = true from h)
  · exact fun {X sc k W} g pe h => Bool.noConfusion (show false = true from h)
  · exact fun {X sc k W} g pe h => Bool.noConfusion (show false = true from h)
  · exact fun {X sc k W} g tg pe h => Bool.noConfusion (show false = true from h)
  · exact fun {X sc k W} g pe h => Bool.noConfusion (show false = true from h)

theorem snd_cmp_e (op : CmpOp) (a : I) (b : I) (iha : Snd pg G Γ a) (ihb : Snd pg G Γ b) : ∀ {X : Cx} {sc : Sc} {k : Nat} {W : WX}, Good pg G Γ X sc k W → ∀ pe : Expr, (chk pg (.cmp op a b) sc).e pe = true → PE X pe (tE G W (den Γ (.cmp op a b)).e) := by
  intro X sc k W g pe h
  dsimp only [chk, Ck.ofE] at h
  split at h
  · rename_i x op' y p
    obtain ⟨h, h4⟩ := and2 h
    obtain ⟨h, h3⟩ := and2 h
    obtain ⟨h1, h2⟩ := and2 h
    have e : op = op' := of_decide_eq_true h1
    subst e
    exact d_cmp (o_cmp g.K g.units op) (iha.e g x h3) (ihb.e g y h4) (by simpa using h2)
  · cases h

theorem snd_cmp (op : CmpOp) (a : I) (b : I) (iha : Snd pg G Γ a) (ihb : Snd pg G Γ b) : Snd pg G Γ (.cmp op a b) := by
  refine ⟨?_, ?_, ?_, ?_, ?_, ?_, ?_, ?_, ?_, ?_⟩
  · exact snd_cmp_e op a b iha ihb
  · intro X sc k W g pe h
    dsimp only [chk] at h
    split at h
    · rename_i x op' y p
      obtain ⟨h, h4⟩ := and2 h
      obtain ⟨h, h3⟩ := and2 h
      obtain ⟨h1, h2⟩ := and2 h
      have e : op = op' := of_decide_eq_true h1
      subst e
      exact d_cmpT (o_cmp g.K g.units op) (iha.e g x h3) (ihb.e g y h4) (by simpa using h2)
    · cases h
  · exact fun {X sc k W} g pe h => Bool.noConfusion (show false = true from h)
  · exact fun {X sc k W} g pe h => Bool.noConfusion (show false = true from h)
  · exact fun {X sc k W} g pe h => Bool.noConfusion (show false = true from h)
  · exact fun {X sc k W} g pe h => Bool.noConfusion (show false = true from h)
  · exact fun {X sc k W} g pe h => Bool.noConfusion (show false = true from h)
  · exact fun {X sc k W} g pe h => Bool.noConfusion (show false = true from h)
  · exact fun {X sc k W} g tg pe h => Bool.noConfusion (show false = true from h)
  · exact fun {X sc k W} g pe h => Bool.noConfusion (show false = true from h)

theorem snd_chain_e (op : CmpOp) (op2 : CmpOp) (a : I) (b : I) (c : I) (iha : Snd pg G Γ a) (ihb : Snd pg G Γ b) (ihc : Snd pg G Γ c) : ∀ {X : Cx} {sc : Sc} {k : Nat} {W : WX}, Good pg G Γ X sc k W → ∀ pe : Expr, (chk pg (.chain op op2 a b c) sc).e pe = true → PE X pe (tE G W (den Γ (.chain op op2 a b c)).e) := by
  intro X sc k W g pe h
  dsimp only [chk, Ck.ofE] at h
  split at h
  · rename_i x o1 o2 y z p
    obtain ⟨h, h6⟩ := and2 h
    obtain ⟨h, h5⟩ := and2 h
    obtain ⟨h, h4⟩ := and2 h
    obtain ⟨h, h3⟩ := and2 h
    obtain ⟨h1, h2⟩ := and2 h
    have e : op = o1 := of_decide_eq_true h1
    subst e
    have e : op2 = o2 := of_decide_eq_true h2
    subst e
    exact d_chain (o_cmp g.K g.units op) (o_cmp g.K g.units op2) (iha.e g x h4) (ihb.e g y h5) (ihc.e g z h6) (by simpa using h3)
  · cases h

theorem snd_chain (op : CmpOp) (op2 : CmpOp) (a : I) (b : I) (c : I) (iha : Snd pg G Γ a) (ihb : Snd pg G Γ b) (ihc : Snd pg G Γ c) : Snd pg G Γ (.chain op op2 a b c) := by
  refine ⟨?_, ?_, ?_, ?_, ?_, ?_, ?_, ?_, ?_, ?_⟩
  · exact snd_chain_e op op2 a b c iha ihb ihc
  · intro X sc k W g pe h
    dsimp only [chk] at h
    split at h
    · rename_i x o1 o2 y z p
      obtain ⟨h, h6⟩ := and2 h
      obtain ⟨h, h5⟩ := and2 h
      obtain ⟨h, h4⟩ := and2 h
      obtain ⟨h, h3⟩ := and2 h
      obtain ⟨h1, h2⟩ := and2 h
      have e : op = o1 := of_decide_eq_true h1
      subst e
      have e : op2 = o2 := of_decide_eq_true h2
      subst e
      exact d_chainT (o_cmp g.K g.units op) (o_cmp g.K g.units op2) (iha.e g x h4) (ihb.e g y h5) (ihc.e g z h6) (by simpa using h3)
    · cases h
  · exact fun {X sc k W} g pe h => Bool.noConfusion (show false = true from h)
  · exact fun {X sc k W} g pe h => Bool.noConfusion (show false = true from h)
  · exact fun {X sc k W} g pe h => Bool.noConfusion (show false = true from h)
  · exact fun {X sc k W} g pe h => Bool.noConfusion (show false = true from h)
  · exact fun {X sc k W} g pe h => Bool.noConfusion (show false = true from h)
  · exact fun {X sc k W} g pe h => Bool.noConfusion (show false = true from h)
  · exact fun {X sc k W} g tg pe h => Bool.noConfusion (show false = true from h)
  · exact fun {X sc k W} g pe h => Bool.noConfusion (show false = true from h)

theorem snd_and (a : I) (b : I) (iha : Snd pg G Γ a) (ihb : Snd pg G Γ b) : Snd pg G Γ (.and_ a b) := by
  refine ⟨?_, ?_, ?_, ?_, ?_, ?_, ?_, ?_, ?_, ?_⟩
  · intro X sc k W g pe h
    dsimp only [chk] at h
    split at h
    · rename_i x y p
      exact d_and (iha.e g x (and2 h).1) (d_one (ihb.e g y (and2 h).2))
    · rename_i x y r p hne
      cases r with
      | nil => exact (hne rfl).elim
      | cons z r => exact d_and (iha.e g x (and2 h).1) (ihb.e g _ (and2 h).2)
    · cases h
  · intro X sc k W g pe h
    dsimp only [chk] at h
    split at h
    · rename_i x y p
      exact PW.pt <| d_andW (iha.t g x (and2 h).1) (d_oneW (ihb.t g y (and2 h).2))
    · rename_i x y r p hne
      cases r with
      | nil => exact (hne rfl).elim
      | cons z r => exact PW.pt <| d_andW (iha.t g x (and2 h).1) (ihb.w g _ (and2 h).2)
    · cases h
  · intro X sc k W g pe h
    dsimp only [chk] at h
    split at h
    · rename_i x y p
      exact d_andW (iha.t g x (and2 h).1) (d_oneW (ihb.t g y (and2 h).2))
    · rename_i x y r p hne
      cases r with
      | nil => exact (hne rfl).elim
      | cons z r => exact d_andW (iha.t g x (and2 h).1) (ihb.w g _ (and2 h).2)
    · cases h
  · exact fun {X sc k W} g pe h => Bool.noConfusion (show false = true from h)
  · exact fun {X sc k W} g pe h => Bool.noConfusion (show false = true from h)
  · exact fun {X sc k W} g pe h => Bool.noConfusion (show false = true from h)
  · exact fun {X sc k W} g pe h => Bool.noConfusion (show false = true from h)
  · exact fun {X sc k W} g pe h => Bool.noConfusion (show false = true from h)
  · exact fun {X sc k W} g tg pe h => Bool.noConfusion (show false = true from h)
  · exact fun {X sc k W} g pe h => Bool.noConfusion (show false = true from h)

theorem snd_or (a : I) (b : I) (iha : Snd pg G Γ a) (ihb : Snd pg G Γ b) : Snd pg G Γ (.or_ a b) := by
  refine ⟨?_, ?_, ?_, ?_, ?_, ?_, ?_, ?_, ?_, ?_⟩
  · intro X sc k W g pe h
    dsimp only [chk] at h
    split at h
    · rename_i x y p
      exact d_or (iha.e g x (and2 h).1) (d_one (ihb.e g y (and2 h).2))
    · rename_i x y r p hne
      cases r with
      | nil => exact (hne rfl).elim
      | cons z r => exact d_or (iha.e g x (and2 h).1) (ihb.e g _ (and2 h).2)
    · cases h
  · intro X sc k W g pe h
    dsimp only [chk] at h
    split at h
    · rename_i x y p
      exact PW.pt <| d_orW (iha.t g x (and2 h).1) (d_oneW (ihb.t g y (and2 h).2))
    · rename_i x y r p hne
      cases r with
      | nil => exact (hne rfl).elim
      | cons z r => exact PW.pt <| d_orW (iha.t g x (and2 h).1) (ihb.w g _ (and2 h).2)
    · cases h
  · intro X sc k W g pe h
    dsimp only [chk] at h
    split at h
    · rename_i x y p
      exact d_orW (iha.t g x (and2 h).1) (d_oneW (ihb.t g y (and2 h).2))
    · rename_i x y r p hne
      cases r with
      | nil => exact (hne rfl).elim
      | cons z r => exact d_orW (iha.t g x (and2 h).1) (ihb.w g _ (and2 h).2)
    · cases h
  · exact fun {X sc k W} g pe h => Bool.noConfusion (show false = true from h)
  · exact fun {X sc k W} g pe h => Bool.noConfusion (show false = true from h)
  · exact fun {X sc k W} g pe h => Bool.noConfusion (show false = true from h)
  · exact fun {X sc k W} g pe h => Bool.noConfusion (show false = true from h)
  · exact fun {X sc k W} g pe h => Bool.noConfusion (show false = true from h)
  · exact fun {X sc k W} g tg pe h => Bool.noConfusion (show false = true from h)
  · exact fun {X sc k W} g pe h => Bool.noConfusion (show false = true from h)

theorem snd_not (a : I) (iha : Snd pg G Γ a) : Snd pg G Γ (.not_ a) := by
  refine ⟨?_, ?_, ?_, ?_, ?_, ?_, ?_, ?_, ?_, ?_⟩
  · intro X sc k W g pe h
    dsimp only [chk] at h
    split at h
    · rename_i x p
      exact d_not (iha.e g x h)
    · cases h
  · intro X sc k W g pe h
    dsimp only [chk] at h
    split at h
    · rename_i x p
      exact d_notT (iha.t g x h)
    · cases h
  · exact fun {X sc k W} g pe h => Bool.noConfusion (show false = true from h)
  · exact fun {X sc k W} g pe h => Bool.noConfusion (show false = true from h)
  · exact fun {X sc k W} g pe h => Bool.noConfusion (show false = true from h)
  · exact fun {X sc k W} g pe h => Bool.noConfusion (show false = true from h)
  · exact fun {X sc k W} g pe h => Bool.noConfusion (show false = true from h)
  · exact fun {X sc k W} g pe h => Bool.noConfusion (show false = true from h)
  · exact fun {X sc k W} g tg pe h => Bool.noConfusion (show false = true from h)
  · exact fun {X sc k W} g pe h => Bool.noConfusion (show false = true from h)

theorem snd_ife_e (c : I) (a : I) (b : I) (ihc : Snd pg G Γ c) (iha : Snd pg G Γ a) (ihb : Snd pg G Γ b) : ∀ {X : Cx} {sc : Sc} {k : Nat} {W : WX}, Good pg G Γ X sc k W → ∀ pe : Expr, (chk pg (.ife c a b) sc).e pe = true → PE X pe (tE G W (den Γ (.ife c a b)).e) := by
  intro X sc k W g pe h
  dsimp only [chk, Ck.ofE] at h
  split at h
  · rename_i z x y p
    obtain ⟨h, h3⟩ := and2 h
    obtain ⟨h1, h2⟩ := and2 h
    exact d_ife (ihc.t g z h1) (iha.e g x h2) (ihb.e g y h3)
  · cases h

theorem snd_ife (c : I) (a : I) (b : I) (ihc : Snd pg G Γ c) (iha : Snd pg G Γ a) (ihb : Snd pg G Γ b) : Snd pg G Γ (.ife c a b) := by
  refine ⟨?_, ?_, ?_, ?_, ?_, ?_, ?_, ?_, ?_, ?_⟩
  · exact snd_ife_e c a b ihc iha ihb
  · exact fun {X sc k W} g pe h => truth' g (and2 h).1 (snd_ife_e c a b ihc iha ihb g pe (and2 h).2)
  · exact fun {X sc k W} g pe h => Bool.noConfusion (show false = true from h)
  · exact fun {X sc k W} g pe h => Bool.noConfusion (show false = true from h)
  · exact fun {X sc k W} g pe h => Bool.noConfusion (show false = true from h)
  · exact fun {X sc k W} g pe h => Bool.noConfusion (show false = true from h)
  · exact fun {X sc k W} g pe h => Bool.noConfusion (show false = true from h)
  · exact fun {X sc k W} g pe h => Bool.noConfusion (show false = true from h)
  · exact fun {X sc k W} g tg pe h => Bool.noConfusion (show false = true from h)
  · exact fun {X sc k W} g pe h => Bool.noConfusion (show false = true from h)

theorem snd_call_e (f : Nat) (args : I) (iha : Snd pg G Γ args) : ∀ {X : Cx} {sc : Sc} {k : Nat} {W : WX}, Good pg G Γ X sc k W → ∀ pe : Expr, (chk pg (.call f args) sc).e pe = true → PE X pe (tE G W (den Γ (.call f args)).e) := by
  intro X sc k W g pe h
  dsimp only [chk, Ck.ofE] at h
  split at h
  · rename_i x p a es pos
    obtain ⟨h, h6⟩ := and2 h
    obtain ⟨h, h5⟩ := and2 h
    obtain ⟨h, h4⟩ := and2 h
    obtain ⟨h, h3⟩ := and2 h
    obtain ⟨h1, h2⟩ := and2 h
    cases hd : pg.defs[f]? with
    | none => rw [hd] at h6; cases h6
    | some d =>
      rw [hd] at h6
      have e : d.at_ = (x, Option.none) := of_decide_eq_true h6
      obtain ⟨m1, m2⟩ := g.facts.defs f d x hd e
      obtain ⟨fd, F, b⟩ := g.calls f d hd
      rw [List.all_cons, Bool.and_eq_true] at h4
      exact d_call F (g.room h1) (gl_of g.scope h2) m1 (by rw [g.K]; exact m2) b g.tk (iha.l g _ h5) (nm_of h3).1 (star1 h4.1) (starAny h4.2)
  · cases h

theorem snd_call (f : Nat) (args : I) (iha : Snd pg G Γ args) : Snd pg G Γ (.call f args) := by
  refine ⟨?_, ?_, ?_, ?_, ?_, ?_, ?_, ?_, ?_, ?_⟩
  · exact snd_call_e f args iha
  · exact fun {X sc k W} g pe h => truth' g (and2 h).1 (snd_call_e f args iha g pe (and2 h).2)
  · exact fun {X sc k W} g pe h => Bool.noConfusion (show false = true from h)
  · exact fun {X sc k W} g pe h => Bool.noConfusion (show false = true from h)
  · exact fun {X sc k W} g pe h => Bool.noConfusion (show false = true from h)
  · exact fun {X sc k W} g pe h => Bool.noConfusion (show false = true from h)
  · exact fun {X sc k W} g pe h => Bool.noConfusion (show false = true from h)
  · exact fun {X sc k W} g pe h => Bool.noConfusion (show false = true from h)
  · exact fun {X sc k W} g tg pe h => Bool.noConfusion (show false = true from h)
  · exact fun {X sc k W} g pe h => Bool.noConfusion (show false = true from h)

theorem snd_blt_e (b : Blt) (args : I) (iha : Snd pg G Γ args) : ∀ {X : Cx} {sc : Sc} {k : Nat} {W : WX}, Good pg G Γ X sc k W → ∀ pe : Expr, (chk pg (.blt b args) sc).e pe = true → PE X pe (tE G W (den Γ (.blt b args)).e) := by
  intro X sc k W g pe h
  dsimp only [chk, Ck.ofE] at h
  split at h
  · rename_i x p a es pos
    obtain ⟨h, h7⟩ := and2 h
    obtain ⟨h, h6⟩ := and2 h
    obtain ⟨h, h5⟩ := and2 h
    obtain ⟨h, h4⟩ := and2 h
    obtain ⟨h, h3⟩ := and2 h
    obtain ⟨h1, h2⟩ := and2 h
    exact d_blt g b h1 h2 (of_decide_eq_true h3) h4 (of_decide_eq_true h5) h6 (iha.l g _ h7)
  · cases h

theorem snd_blt (b : Blt) (args : I) (iha : Snd pg G Γ args) : Snd pg G Γ (.blt b args) := by
  refine ⟨?_, ?_, ?_, ?_, ?_, ?_, ?_, ?_, ?_, ?_⟩
  · exact snd_blt_e b args iha
  · exact fun {X sc k W} g pe h => truth' g (and2 h).1 (snd_blt_e b args iha g pe (and2 h).2)
  · exact fun {X sc k W} g pe h => Bool.noConfusion (show false = true from h)
  · exact fun {X sc k W} g pe h => Bool.noConfusion (show false = true from h)
  · exact fun {X sc k W} g pe h => Bool.noConfusion (show false = true from h)
  · exact fun {X sc k W} g pe h => Bool.noConfusion (show false = true from h)
  · exact fun {X sc k W} g pe h => Bool.noConfusion (show false = true from h)
  · exact fun {X sc k W} g pe h => Bool.noConfusion (show false = true from h)
  · exact fun {X sc k W} g tg pe h => Bool.noConfusion (show false = true from h)
  · exact fun {X sc k W} g pe h => Bool.noConfusion (show false = true from h)

theorem snd_isin_e (a : I) (t : Ty) (iha : Snd pg G Γ a) : ∀ {X : Cx} {sc : Sc} {k : Nat} {W : WX}, Good pg G Γ X sc k W → ∀ pe : Expr, (chk pg (.isin a t) sc).e pe = true → PE X pe (tE G W (den Γ (.isin a t)).e) := by
  intro X sc k W g pe h
  dsimp only [chk, Ck.ofE] at h
  split at h
  · rename_i x p y z p2 pos
    obtain ⟨h, h8⟩ := and2 h
    obtain ⟨h, h7⟩ := and2 h
    obtain ⟨h, h6⟩ := and2 h
    obtain ⟨h, h5⟩ := and2 h
    obtain ⟨h, h4⟩ := and2 h
    obtain ⟨h, h3⟩ := and2 h
    obtain ⟨h1, h2⟩ := and2 h
    exact d_isin g t (of_decide_eq_true h1) (of_decide_eq_true h2) h3 h4 (of_decide_eq_true h5) (of_decide_eq_true h6) h7 (iha.e g y h8)
  · cases h

theorem snd_isin (a : I) (t : Ty) (iha : Snd pg G Γ a) : Snd pg G Γ (.isin a t) := by
  refine ⟨?_, ?_, ?_, ?_, ?_, ?_, ?_, ?_, ?_, ?_⟩
  · exact snd_isin_e a t iha
  · exact fun {X sc k W} g pe h => truth' g (and2 h).1 (snd_isin_e a t iha g pe (and2 h).2)
  · exact fun {X sc k W} g pe h => Bool.noConfusion (show false = true from h)
  · exact fun {X sc k W} g pe h => Bool.noConfusion (show false = true from h)
  · exact fun {X sc k W} g pe h => Bool.noConfusion (show false = true from h)
  · exact fun {X sc k W} g pe h => Bool.noConfusion (show false = true from h)
  · exact fun {X sc k W} g pe h => Bool.noConfusion (show false = true from h)
  · exact fun {X sc k W} g pe h => Bool.noConfusion (show false = true from h)
  · exact fun {X sc k W} g tg pe h => Bool.noConfusion (show false = true from h)
  · exact fun {X sc k W} g pe h => Bool.noConfusion (show false = true from h)

theorem snd_ix_e (a : I) (i : I) (iha : Snd pg G Γ a) (ihi : Snd pg G Γ i) : ∀ {X : Cx} {sc : Sc} {k : Nat} {W : WX}, Good pg G Γ X sc k W → ∀ pe : Expr, (chk pg (.ix a i) sc).e pe = true → PE X pe (tE G W (den Γ (.ix a i)).e) := by
  intro X sc k W g pe h
  dsimp only [chk, Ck.ofE] at h
  split at h
  · rename_i x y p
    obtain ⟨h, h3⟩ := and2 h
    obtain ⟨h1, h2⟩ := and2 h
    exact d_ix (o_ix g.K) (iha.e g x h2) (ihi.e g y h3) (plainIx_of h1)
  · cases h

theorem snd_ix (a : I) (i : I) (iha : Snd pg G Γ a) (ihi : Snd pg G Γ i) : Snd pg G Γ (.ix a i) := by
  refine ⟨?_, ?_, ?_, ?_, ?_, ?_, ?_, ?_, ?_, ?_⟩
  · exact snd_ix_e a i iha ihi
  · exact fun {X sc k W} g pe h => truth' g (and2 h).1 (snd_ix_e a i iha ihi g pe (and2 h).2)
  · exact fun {X sc k W} g pe h => Bool.noConfusion (show false = true from h)
  · exact fun {X sc k W} g pe h => Bool.noConfusion (show false = true from h)
  · exact fun {X sc k W} g pe h => Bool.noConfusion (show false = true from h)
  · exact fun {X sc k W} g pe h => Bool.noConfusion (show false = true from h)
  · exact fun {X sc k W} g pe h => Bool.noConfusion (show false = true from h)
  · exact fun {X sc k W} g pe h => Bool.noConfusion (show false = true from h)
  · exact fun {X sc k W} g tg pe h => Bool.noConfusion (show false = true from h)
  · exact fun {X sc k W} g pe h => Bool.noConfusion (show false = true from h)

theorem snd_tup_e (args : I) (iha : Snd pg G Γ args) : ∀ {X : Cx} {sc : Sc} {k : Nat} {W : WX}, Good pg G Γ X sc k W → ∀ pe : Expr, (chk pg (.tup args) sc).e pe = true → PE X pe (tE G W (den Γ (.tup args)).e) := by
  intro X sc k W g pe h
  dsimp only [chk, Ck.ofE] at h
  split at h
  · rename_i es q p
    exact d_tup (iha.l g es (and2 h).2)
  · cases h

theorem snd_tup (args : I) (iha : Snd pg G Γ args) : Snd pg G Γ (.tup args) := by
  refine ⟨?_, ?_, ?_, ?_, ?_, ?_, ?_, ?_, ?_, ?_⟩
  · exact snd_tup_e args iha
  · exact fun {X sc k W} g pe h => truth' g (and2 h).1 (snd_tup_e args iha g pe (and2 h).2)
  · exact fun {X sc k W} g pe h => Bool.noConfusion (show false = true from h)
  · exact fun {X sc k W} g pe h => Bool.noConfusion (show false = true from h)
  · exact fun {X sc k W} g pe h => Bool.noConfusion (show false = true from h)
  · exact fun {X sc k W} g pe h => Bool.noConfusion (show false = true from h)
  · exact fun {X sc k W} g pe h => Bool.noConfusion (show false = true from h)
  · exact fun {X sc k W} g pe h => Bool.noConfusion (show false = true from h)
  · exact fun {X sc k W} g tg pe h => Bool.noConfusion (show false = true from h)
  · exact fun {X sc k W} g pe h => Bool.noConfusion (show false = true from h)

theorem snd_lst_e (m : Bool) (args : I) (iha : Snd pg G Γ args) : ∀ {X : Cx} {sc : Sc} {k : Nat} {W : WX}, Good pg G Γ X sc k W → ∀ pe : Expr, (chk pg (.lst m args) sc).e pe = true → PE X pe (tE G W (den Γ (.lst m args)).e) := by
  intro X sc k W g pe h
  dsimp only [chk, Ck.ofE] at h
  split at h
  · rename_i es p
    cases m with
    | true => exact d_lstS (iha.l g es (and2 h).2)
    | false => exact d_lst (iha.l g es (and2 h).2)
  · cases h

theorem snd_lst (m : Bool) (args : I) (iha : Snd pg G Γ args) : Snd pg G Γ (.lst m args) := by
  refine ⟨?_, ?_, ?_, ?_, ?_, ?_, ?_, ?_, ?_, ?_⟩
  · exact snd_lst_e m args iha
  · intro X sc k W g pe h
    have ht : (den Γ (.lst m args)).t = fun ρ st => ((den Γ (.lst m args)).e ρ st).bind truR := by cases m <;> rfl
    rw [ht]
    exact truth' g (and2 h).1 (snd_lst_e m args iha g pe (and2 h).2)
  · exact fun {X sc k W} g pe h => Bool.noConfusion (show false = true from h)
  · exact fun {X sc k W} g pe h => Bool.noConfusion (show false = true from h)
  · exact fun {X sc k W} g pe h => Bool.noConfusion (show false = true from h)
  · exact fun {X sc k W} g pe h => Bool.noConfusion (show false = true from h)
  · exact fun {X sc k W} g pe h => Bool.noConfusion (show false = true from h)
  · exact fun {X sc k W} g pe h => Bool.noConfusion (show false = true from h)
  · exact fun {X sc k W} g tg pe h => Bool.noConfusion (show false = true from h)
  · exact fun {X sc k W} g pe h => Bool.noConfusion (show false = true from h)

theorem snd_lc_e (own : List (Str × Nat)) (elt : I) (tg : I) (it : I) (ifs : I) (ihe : Snd pg G Γ elt) (ihg : Snd pg G Γ tg) (ihi : Snd pg G Γ it) (iht : Snd pg G Γ ifs) : ∀ {X : Cx} {sc : Sc} {k : Nat} {W : WX}, Good pg G Γ X sc k W → ∀ pe : Expr, (chk pg (.lc own elt tg it ifs) sc).e pe = true → PE X pe (tE G W (den Γ (.lc own elt tg it ifs)).e) := by
  intro X sc k W g pe h
  dsimp only [chk, Ck.ofE] at h
  split at h
  · rename_i el t i fs scope p
    obtain ⟨h, h8⟩ := and2 h
    obtain ⟨h, h7⟩ := and2 h
    obtain ⟨h, h6⟩ := and2 h
    obtain ⟨h, h5⟩ := and2 h
    obtain ⟨h, h4⟩ := and2 h
    obtain ⟨h, h3⟩ := and2 h
    obtain ⟨h1, h2⟩ := and2 h
    have bk := blkOk_by h3
    exact d_lc (fun j hj => of_decide_eq_true (List.all_eq_true.mp h4 j hj)) (g.calm h1) g.nd (ihi.it g t i h5) (by rw [g.N, g.scope]; exact bk) (fun s H C cl fp => ihg.g (g.blk bk h1 s H C cl fp) t h6) (fun s H C cl fp => iht.ts (g.blk bk h1 s H C cl fp) fs h7) (fun s H C cl fp => ihe.e (g.blk bk h1 s H C cl fp) el h8) fun x => notSet_of h2 x
  · cases h

theorem snd_lc (own : List (Str × Nat)) (elt : I) (tg : I) (it : I) (ifs : I) (ihe : Snd pg G Γ elt) (ihg : Snd pg G Γ tg) (ihi : Snd pg G Γ it) (iht : Snd pg G Γ ifs) : Snd pg G Γ (.lc own elt tg it ifs) := by
  refine ⟨?_, ?_, ?_, ?_, ?_, ?_, ?_, ?_, ?_, ?_⟩
  · exact snd_lc_e own elt tg it ifs ihe ihg ihi iht
  · exact fun {X sc k W} g pe h => truth' g (and2 h).1 (snd_lc_e own elt tg it ifs ihe ihg ihi iht g pe (and2 h).2)
  · exact fun {X sc k W} g pe h => Bool.noConfusion (show false = true from h)
  · exact fun {X sc k W} g pe h => Bool.noConfusion (show false = true from h)
  · exact fun {X sc k W} g pe h => Bool.noConfusion (show false = true from h)
  · exact fun {X sc k W} g pe h => Bool.noConfusion (show false = true from h)
  · exact fun {X sc k W} g pe h => Bool.noConfusion (show false = true from h)
  · exact fun {X sc k W} g pe h => Bool.noConfusion (show false = true from h)
  · exact fun {X sc k W} g tg pe h => Bool.noConfusion (show false = true from h)
  · exact fun {X sc k W} g pe h => Bool.noConfusion (show false = true from h)

theorem snd_nil   : Snd pg G Γ .nil := by
  refine ⟨?_, ?_, ?_, ?_, ?_, ?_, ?_, ?_, ?_, ?_⟩
  · exact fun {X sc k W} g pe h => Bool.noConfusion (show false = true from h)
  · exact fun {X sc k W} g pe h => Bool.noConfusion (show false = true from h)
  · exact fun {X sc k W} g pe h => Bool.noConfusion (show false = true from h)
  · intro X sc k W g pe h
    cases pe with
    | nil => exact d_nil
    | cons _ _ => cases h
  · exact fun {X sc k W} g pe h => Bool.noConfusion (show false = true from h)
  · intro X sc k W g pe h
    cases pe with
    | nil => exact d_gnil
    | cons _ _ => cases h
  · exact fun {X sc k W} g pe h => Bool.noConfusion (show false = true from h)
  · intro X sc k W g pe h
    cases pe with
    | nil => exact d_snil
    | cons _ _ => cases h
  · exact fun {X sc k W} g tg pe h => Bool.noConfusion (show false = true from h)
  · intro X sc k W g pe h
    cases pe with
    | nil => exact d_tsnil
    | cons _ _ => cases h

theorem snd_cons (a : I) (b : I) (iha : Snd pg G Γ a) (ihb : Snd pg G Γ b) : Snd pg G Γ (.cons a b) := by
  refine ⟨?_, ?_, ?_, ?_, ?_, ?_, ?_, ?_, ?_, ?_⟩
  · exact fun {X sc k W} g pe h => Bool.noConfusion (show false = true from h)
  · exact fun {X sc k W} g pe h => Bool.noConfusion (show false = true from h)
  · exact fun {X sc k W} g pe h => Bool.noConfusion (show false = true from h)
  · intro X sc k W g pe h
    cases pe with
    | nil => cases h
    | cons x r =>
      obtain ⟨h, h3⟩ := and2 h
      obtain ⟨h1, h2⟩ := and2 h
      exact d_cons (iha.e g x h2) (ihb.l g r h3) (star1 h1)
  · exact fun {X sc k W} g pe h => Bool.noConfusion (show false = true from h)
  · intro X sc k W g pe h
    cases pe with
    | nil => cases h
    | cons x r =>
      obtain ⟨h, h3⟩ := and2 h
      obtain ⟨h1, h2⟩ := and2 h
      exact d_gcons (iha.g g x h2) (ihb.gs g r h3) (by rw [asg1 h1]; rfl)
  · exact fun {X sc k W} g pe h => Bool.noConfusion (show false = true from h)
  · intro X sc k W g pe h
    cases pe with
    | nil => cases h
    | cons x r => exact d_scons (iha.s g x (and2 h).1) (ihb.ss g r (and2 h).2)
  · exact fun {X sc k W} g tg pe h => Bool.noConfusion (show false = true from h)
  · exact fun {X sc k W} g pe h => Bool.noConfusion (show false = true from h)

theorem snd_tvar (i : Nat)  : Snd pg G Γ (.tvar i) := by
  refine ⟨?_, ?_, ?_, ?_, ?_, ?_, ?_, ?_, ?_, ?_⟩
  · exact fun {X sc k W} g pe h => Bool.noConfusion (show false = true from h)
  · exact fun {X sc k W} g pe h => Bool.noConfusion (show false = true from h)
  · exact fun {X sc k W} g pe h => Bool.noConfusion (show false = true from h)
  · exact fun {X sc k W} g pe h => Bool.noConfusion (show false = true from h)
  · intro X sc k W g pe h
    dsimp only [chk] at h
    split at h
    · rename_i x p
      obtain ⟨h1, h2⟩ := and2 h
      exact d_tvar g.nd (by rw [g.N]; exact of_decide_eq_true h1) (loc1 g.scope h2) (g.fnOk h2)
    · cases h
  · exact fun {X sc k W} g pe h => Bool.noConfusion (show false = true from h)
  · exact fun {X sc k W} g pe h => Bool.noConfusion (show false = true from h)
  · exact fun {X sc k W} g pe h => Bool.noConfusion (show false = true from h)
  · exact fun {X sc k W} g tg pe h => Bool.noConfusion (show false = true from h)
  · exact fun {X sc k W} g pe h => Bool.noConfusion (show false = true from h)

theorem snd_ttup (n : Nat) (args : I) (iha : Snd pg G Γ args) : Snd pg G Γ (.ttup n args) := by
  refine ⟨?_, ?_, ?_, ?_, ?_, ?_, ?_, ?_, ?_, ?_⟩
  · exact fun {X sc k W} g pe h => Bool.noConfusion (show false = true from h)
  · exact fun {X sc k W} g pe h => Bool.noConfusion (show false = true from h)
  · exact fun {X sc k W} g pe h => Bool.noConfusion (show false = true from h)
  · exact fun {X sc k W} g pe h => Bool.noConfusion (show false = true from h)
  · intro X sc k W g pe h
    dsimp only [chk] at h
    split at h
    · rename_i es q p
      obtain ⟨h, h4⟩ := and2 h
      obtain ⟨h, h3⟩ := and2 h
      obtain ⟨h1, h2⟩ := and2 h
      obtain ⟨a1, a2⟩ := asgFind (env := X.env) h3
      have := d_gtup (pos := p) (k := q) g.K (g.calm h1) (iha.gs g es h4) a1
      rw [a2, of_decide_eq_true h2] at this
      exact this
    · cases h
  · exact fun {X sc k W} g pe h => Bool.noConfusion (show false = true from h)
  · exact fun {X sc k W} g pe h => Bool.noConfusion (show false = true from h)
  · exact fun {X sc k W} g pe h => Bool.noConfusion (show false = true from h)
  · exact fun {X sc k W} g tg pe h => Bool.noConfusion (show false = true from h)
  · exact fun {X sc k W} g pe h => Bool.noConfusion (show false = true from h)

theorem snd_tix (o : I) (i : I) (iho : Snd pg G Γ o) (ihi : Snd pg G Γ i) : Snd pg G Γ (.tix o i) := by
  refine ⟨?_, ?_, ?_, ?_, ?_, ?_, ?_, ?_, ?_, ?_⟩
  · exact fun {X sc k W} g pe h => Bool.noConfusion (show false = true from h)
  · exact fun {X sc k W} g pe h => Bool.noConfusion (show false = true from h)
  · exact fun {X sc k W} g pe h => Bool.noConfusion (show false = true from h)
  · exact fun {X sc k W} g pe h => Bool.noConfusion (show false = true from h)
  · intro X sc k W g pe h
    dsimp only [chk] at h
    split at h
    · rename_i x y p
      obtain ⟨h, h3⟩ := and2 h
      obtain ⟨h1, h2⟩ := and2 h
      exact d_gix (iho.e g x h2) (ihi.e g y h3) (subAssign h1)
    · cases h
  · exact fun {X sc k W} g pe h => Bool.noConfusion (show false = true from h)
  · exact fun {X sc k W} g pe h => Bool.noConfusion (show false = true from h)
  · exact fun {X sc k W} g pe h => Bool.noConfusion (show false = true from h)
  · exact fun {X sc k W} g tg pe h => Bool.noConfusion (show false = true from h)
  · exact fun {X sc k W} g pe h => Bool.noConfusion (show false = true from h)

theorem snd_rng1 (a : I) (iha : Snd pg G Γ a) : Snd pg G Γ (.rng1 a) := by
  refine ⟨?_, ?_, ?_, ?_, ?_, ?_, ?_, ?_, ?_, ?_⟩
  · exact fun {X sc k W} g pe h => Bool.noConfusion (show false = true from h)
  · exact fun {X sc k W} g pe h => Bool.noConfusion (show false = true from h)
  · exact fun {X sc k W} g pe h => Bool.noConfusion (show false = true from h)
  · exact fun {X sc k W} g pe h => Bool.noConfusion (show false = true from h)
  · exact fun {X sc k W} g pe h => Bool.noConfusion (show false = true from h)
  · exact fun {X sc k W} g pe h => Bool.noConfusion (show false = true from h)
  · exact fun {X sc k W} g pe h => Bool.noConfusion (show false = true from h)
  · exact fun {X sc k W} g pe h => Bool.noConfusion (show false = true from h)
  · intro X sc k W g tg pe h
    dsimp only [chk] at h
    split at h
    · rename_i x p y pos
      obtain ⟨h, h5⟩ := and2 h
      obtain ⟨h, h4⟩ := and2 h
      obtain ⟨h, h3⟩ := and2 h
      obtain ⟨h1, h2⟩ := and2 h
      have e := of_decide_eq_true h1
      subst e
      exact d_rng1 (gl_of g.scope h2) (g.facts.free _ (of_decide_eq_true h3)) (iha.e g y h5) (star1 h4)
    · cases h
  · exact fun {X sc k W} g pe h => Bool.noConfusion (show false = true from h)

theorem snd_rng2 (a : I) (b : I) (iha : Snd pg G Γ a) (ihb : Snd pg G Γ b) : Snd pg G Γ (.rng2 a b) := by
  refine ⟨?_, ?_, ?_, ?_, ?_, ?_, ?_, ?_, ?_, ?_⟩
  · exact fun {X sc k W} g pe h => Bool.noConfusion (show false = true from h)
  · exact fun {X sc k W} g pe h => Bool.noConfusion (show false = true from h)
  · exact fun {X sc k W} g pe h => Bool.noConfusion (show false = true from h)
  · exact fun {X sc k W} g pe h => Bool.noConfusion (show false = true from h)
  · exact fun {X sc k W} g pe h => Bool.noConfusion (show false = true from h)
  · exact fun {X sc k W} g pe h => Bool.noConfusion (show false = true from h)
  · exact fun {X sc k W} g pe h => Bool.noConfusion (show false = true from h)
  · exact fun {X sc k W} g pe h => Bool.noConfusion (show false = true from h)
  · intro X sc k W g tg pe h
    dsimp only [chk] at h
    split at h
    · rename_i x p y z pos
      obtain ⟨h, h7⟩ := and2 h
      obtain ⟨h, h6⟩ := and2 h
      obtain ⟨h, h5⟩ := and2 h
      obtain ⟨h, h4⟩ := and2 h
      obtain ⟨h, h3⟩ := and2 h
      obtain ⟨h1, h2⟩ := and2 h
      have e := of_decide_eq_true h1
      subst e
      exact d_rng2 (gl_of g.scope h2) (g.facts.free _ (of_decide_eq_true h3)) (iha.e g y h6) (ihb.e g z h7) (by rw [star1 h4, star1 h5]; rfl) (star1 h5)
    · cases h
  · exact fun {X sc k W} g pe h => Bool.noConfusion (show false = true from h)

theorem snd_walk (a : I) (iha : Snd pg G Γ a) : Snd pg G Γ (.walk a) := by
  refine ⟨?_, ?_, ?_, ?_, ?_, ?_, ?_, ?_, ?_, ?_⟩
  · exact fun {X sc k W} g pe h => Bool.noConfusion (show false = true from h)
  · exact fun {X sc k W} g pe h => Bool.noConfusion (show false = true from h)
  · exact fun {X sc k W} g pe h => Bool.noConfusion (show false = true from h)
  · exact fun {X sc k W} g pe h => Bool.noConfusion (show false = true from h)
  · exact fun {X sc k W} g pe h => Bool.noConfusion (show false = true from h)
  · exact fun {X sc k W} g pe h => Bool.noConfusion (show false = true from h)
  · exact fun {X sc k W} g pe h => Bool.noConfusion (show false = true from h)
  · exact fun {X sc k W} g pe h => Bool.noConfusion (show false = true from h)
  · exact fun {X sc k W} g tg pe h => d_walk g.K (iha.e g pe h)
  · exact fun {X sc k W} g pe h => Bool.noConfusion (show false = true from h)

theorem snd_pass   : Snd pg G Γ .pass := by
  refine ⟨?_, ?_, ?_, ?_, ?_, ?_, ?_, ?_, ?_, ?_⟩
  · exact fun {X sc k W} g pe h => Bool.noConfusion (show false = true from h)
  · exact fun {X sc k W} g pe h => Bool.noConfusion (show false = true from h)
  · exact fun {X sc k W} g pe h => Bool.noConfusion (show false = true from h)
  · exact fun {X sc k W} g pe h => Bool.noConfusion (show false = true from h)
  · exact fun {X sc k W} g pe h => Bool.noConfusion (show false = true from h)
  · exact fun {X sc k W} g pe h => Bool.noConfusion (show false = true from h)
  · intro X sc k W g pe h
    dsimp only [chk] at h
    split at h
    · rename_i p
      exact d_pass
    · cases h
  · exact fun {X sc k W} g pe h => Bool.noConfusion (show false = true from h)
  · exact fun {X sc k W} g tg pe h => Bool.noConfusion (show false = true from h)
  · exact fun {X sc k W} g pe h => Bool.noConfusion (show false = true from h)

theorem snd_expr (a : I) (iha : Snd pg G Γ a) : Snd pg G Γ (.expr a) := by
  refine ⟨?_, ?_, ?_, ?_, ?_, ?_, ?_, ?_, ?_, ?_⟩
  · exact fun {X sc k W} g pe h => Bool.noConfusion (show false = true from h)
  · exact fun {X sc k W} g pe h => Bool.noConfusion (show false = true from h)
  · exact fun {X sc k W} g pe h => Bool.noConfusion (show false = true from h)
  · exact fun {X sc k W} g pe h => Bool.noConfusion (show false = true from h)
  · exact fun {X sc k W} g pe h => Bool.noConfusion (show false = true from h)
  · exact fun {X sc k W} g pe h => Bool.noConfusion (show false = true from h)
  · intro X sc k W g pe h
    dsimp only [chk] at h
    split at h
    · rename_i e p
      exact d_expr (iha.e g e (and2 h).2) (swaps_of (and2 h).1)
    · cases h
  · exact fun {X sc k W} g pe h => Bool.noConfusion (show false = true from h)
  · exact fun {X sc k W} g tg pe h => Bool.noConfusion (show false = true from h)
  · exact fun {X sc k W} g pe h => Bool.noConfusion (show false = true from h)

theorem snd_ret (a : I) (iha : Snd pg G Γ a) : Snd pg G Γ (.ret a) := by
  refine ⟨?_, ?_, ?_, ?_, ?_, ?_, ?_, ?_, ?_, ?_⟩
  · exact fun {X sc k W} g pe h => Bool.noConfusion (show false = true from h)
  · exact fun {X sc k W} g pe h => Bool.noConfusion (show false = true from h)
  · exact fun {X sc k W} g pe h => Bool.noConfusion (show false = true from h)
  · exact fun {X sc k W} g pe h => Bool.noConfusion (show false = true from h)
  · exact fun {X sc k W} g pe h => Bool.noConfusion (show false = true from h)
  · exact fun {X sc k W} g pe h => Bool.noConfusion (show false = true from h)
  · intro X sc k W g pe h
    dsimp only [chk] at h
    split at h
    · rename_i e p
      exact d_ret (iha.e g e h)
    · cases h
  · exact fun {X sc k W} g pe h => Bool.noConfusion (show false = true from h)
  · exact fun {X sc k W} g tg pe h => Bool.noConfusion (show false = true from h)
  · exact fun {X sc k W} g pe h => Bool.noConfusion (show false = true from h)

theorem snd_retn   : Snd pg G Γ .retn := by
  refine ⟨?_, ?_, ?_, ?_, ?_, ?_, ?_, ?_, ?_, ?_⟩
  · exact fun {X sc k W} g pe h => Bool.noConfusion (show false = true from h)
  · exact fun {X sc k W} g pe h => Bool.noConfusion (show false = true from h)
  · exact fun {X sc k W} g pe h => Bool.noConfusion (show false = true from h)
  · exact fun {X sc k W} g pe h => Bool.noConfusion (show false = true from h)
  · exact fun {X sc k W} g pe h => Bool.noConfusion (show false = true from h)
  · exact fun {X sc k W} g pe h => Bool.noConfusion (show false = true from h)
  · intro X sc k W g pe h
    dsimp only [chk] at h
    split at h
    · rename_i p
      exact d_retn
    · cases h
  · exact fun {X sc k W} g pe h => Bool.noConfusion (show false = true from h)
  · exact fun {X sc k W} g tg pe h => Bool.noConfusion (show false = true from h)
  · exact fun {X sc k W} g pe h => Bool.noConfusion (show false = true from h)

theorem snd_asg (tg : I) (a : I) (ihg : Snd pg G Γ tg) (iha : Snd pg G Γ a) : Snd pg G Γ (.asg tg a) := by
  refine ⟨?_, ?_, ?_, ?_, ?_, ?_, ?_, ?_, ?_, ?_⟩
  · exact fun {X sc k W} g pe h => Bool.noConfusion (show false = true from h)
  · exact fun {X sc k W} g pe h => Bool.noConfusion (show false = true from h)
  · exact fun {X sc k W} g pe h => Bool.noConfusion (show false = true from h)
  · exact fun {X sc k W} g pe h => Bool.noConfusion (show false = true from h)
  · exact fun {X sc k W} g pe h => Bool.noConfusion (show false = true from h)
  · exact fun {X sc k W} g pe h => Bool.noConfusion (show false = true from h)
  · intro X sc k W g pe h
    dsimp only [chk] at h
    split at h
    · rename_i t e p
      obtain ⟨h, h5⟩ := and2 h
      obtain ⟨h, h4⟩ := and2 h
      obtain ⟨h, h3⟩ := and2 h
      obtain ⟨h1, h2⟩ := and2 h
      exact d_asg (iha.e g e h5) (ihg.g g t h4) (swaps_of h1) (swapped_of h3) (by rw [asg1 h2]; rfl)
    · cases h
  · exact fun {X sc k W} g pe h => Bool.noConfusion (show false = true from h)
  · exact fun {X sc k W} g tg pe h => Bool.noConfusion (show false = true from h)
  · exact fun {X sc k W} g pe h => Bool.noConfusion (show false = true from h)

theorem snd_asgLc (i : Nat) (own : List (Str × Nat)) (elt : I) (tg : I) (it : I) (ifs : I) (ihe : Snd pg G Γ elt) (ihg : Snd pg G Γ tg) (ihi : Snd pg G Γ it) (iht : Snd pg G Γ ifs) : Snd pg G Γ (.asgLc i own elt tg it ifs) := by
  refine ⟨?_, ?_, ?_, ?_, ?_, ?_, ?_, ?_, ?_, ?_⟩
  · exact fun {X sc k W} g pe h => Bool.noConfusion (show false = true from h)
  · exact fun {X sc k W} g pe h => Bool.noConfusion (show false = true from h)
  · exact fun {X sc k W} g pe h => Bool.noConfusion (show false = true from h)
  · exact fun {X sc k W} g pe h => Bool.noConfusion (show false = true from h)
  · exact fun {X sc k W} g pe h => Bool.noConfusion (show false = true from h)
  · exact fun {X sc k W} g pe h => Bool.noConfusion (show false = true from h)
  · intro X sc k W g pe h
    dsimp only [chk] at h
    split at h
    · rename_i y py el t ie fs scope p sp
      obtain ⟨h, h12⟩ := and2 h
      obtain ⟨h, h11⟩ := and2 h
      obtain ⟨h, h10⟩ := and2 h
      obtain ⟨h, h9⟩ := and2 h
      obtain ⟨h, h8⟩ := and2 h
      obtain ⟨h, h7⟩ := and2 h
      obtain ⟨h, h6⟩ := and2 h
      obtain ⟨h, h5⟩ := and2 h
      obtain ⟨h, h4⟩ := and2 h
      obtain ⟨h, h3⟩ := and2 h
      obtain ⟨h1, h2⟩ := and2 h
      have bk := blkOk_by h7
      have hy := local_of g.scope h2
      exact d_setLc (fun j hj => of_decide_eq_true (List.all_eq_true.mp h8 j hj)) (g.calm h5) g.nd (by rw [g.N]; exact of_decide_eq_true h1) hy (sw_true (by rw [g.scope]; exact g.kind) hy h3 (by simpa using h4)) (ihi.it g t ie h9) (by rw [g.N, g.scope]; exact bk) (fun s H C cl fp => ihg.g (g.blk bk h5 s H C cl fp) t h10) (fun s H C cl fp => iht.ts (g.blk bk h5 s H C cl fp) fs h11) (fun s H C cl fp => ihe.e (g.blk bk h5 s H C cl fp) el h12) fun x => notSet_of h6 x
    · cases h
  · exact fun {X sc k W} g pe h => Bool.noConfusion (show false = true from h)
  · exact fun {X sc k W} g tg pe h => Bool.noConfusion (show false = true from h)
  · exact fun {X sc k W} g pe h => Bool.noConfusion (show false = true from h)

theorem snd_par2 (i : Nat) (j : Nat) (a : I) (b : I) (iha : Snd pg G Γ a) (ihb : Snd pg G Γ b) : Snd pg G Γ (.par2 i j a b) := by
  refine ⟨?_, ?_, ?_, ?_, ?_, ?_, ?_, ?_, ?_, ?_⟩
  · exact fun {X sc k W} g pe h => Bool.noConfusion (show false = true from h)
  · exact fun {X sc k W} g pe h => Bool.noConfusion (show false = true from h)
  · exact fun {X sc k W} g pe h => Bool.noConfusion (show false = true from h)
  · exact fun {X sc k W} g pe h => Bool.noConfusion (show false = true from h)
  · exact fun {X sc k W} g pe h => Bool.noConfusion (show false = true from h)
  · exact fun {X sc k W} g pe h => Bool.noConfusion (show false = true from h)
  · intro X sc k W g pe h
    dsimp only [chk] at h
    split at h
    · rename_i x px y py kt pt u v k2 p2 p
      obtain ⟨h, h14⟩ := and2 h
      obtain ⟨h, h13⟩ := and2 h
      obtain ⟨h, h12⟩ := and2 h
      obtain ⟨h, h11⟩ := and2 h
      obtain ⟨h, h10⟩ := and2 h
      obtain ⟨h, h9⟩ := and2 h
      obtain ⟨h, h8⟩ := and2 h
      obtain ⟨h, h7⟩ := and2 h
      obtain ⟨h, h6⟩ := and2 h
      obtain ⟨h, h5⟩ := and2 h
      obtain ⟨h, h4⟩ := and2 h
      obtain ⟨h, h3⟩ := and2 h
      obtain ⟨h1, h2⟩ := and2 h
      exact d_par2 (g.calm h1) g.nd (by rw [g.N]; exact of_decide_eq_true h2) (by rw [g.N]; exact of_decide_eq_true h3) (of_decide_eq_true h4) (local_of g.scope h5) (local_of g.scope h6) (iha.e g u h13) (ihb.e g v h14) (by rw [star1 h7, star1 h8]; rfl) (star1 h8) (swapped2 (blockKind_of g) (kindOf_local g h5) (kindOf_local g h6) h7 h8 (of_decide_eq_true h9) h10 (notB h11) (notB h12))
    · cases h
  · exact fun {X sc k W} g pe h => Bool.noConfusion (show false = true from h)
  · exact fun {X sc k W} g tg pe h => Bool.noConfusion (show false = true from h)
  · exact fun {X sc k W} g pe h => Bool.noConfusion (show false = true from h)

theorem snd_par3 (i : Nat) (j : Nat) (m : Nat) (a : I) (b : I) (c : I) (iha : Snd pg G Γ a) (ihb : Snd pg G Γ b) (ihc : Snd pg G Γ c) : Snd pg G Γ (.par3 i j m a b c) := by
  refine ⟨?_, ?_, ?_, ?_, ?_, ?_, ?_, ?_, ?_, ?_⟩
  · exact fun {X sc k W} g pe h => Bool.noConfusion (show false = true from h)
  · exact fun {X sc k W} g pe h => Bool.noConfusion (show false = true from h)
  · exact fun {X sc k W} g pe h => Bool.noConfusion (show false = true from h)
  · exact fun {X sc k W} g pe h => Bool.noConfusion (show false = true from h)
  · exact fun {X sc k W} g pe h => Bool.noConfusion (show false = true from h)
  · exact fun {X sc k W} g pe h => Bool.noConfusion (show false = true from h)
  · intro X sc k W g pe h
    dsimp only [chk] at h
    split at h
    · rename_i x px y py z pz kt pt u v w k2 p2 p
      obtain ⟨h, h20⟩ := and2 h
      obtain ⟨h, h19⟩ := and2 h
      obtain ⟨h, h18⟩ := and2 h
      obtain ⟨h, h17⟩ := and2 h
      obtain ⟨h, h16⟩ := and2 h
      obtain ⟨h, h15⟩ := and2 h
      obtain ⟨h, h14⟩ := and2 h
      obtain ⟨h, h13⟩ := and2 h
      obtain ⟨h, h12⟩ := and2 h
      obtain ⟨h, h11⟩ := and2 h
      obtain ⟨h, h10⟩ := and2 h
      obtain ⟨h, h9⟩ := and2 h
      obtain ⟨h, h8⟩ := and2 h
      obtain ⟨h, h7⟩ := and2 h
      obtain ⟨h, h6⟩ := and2 h
      obtain ⟨h, h5⟩ := and2 h
      obtain ⟨h, h4⟩ := and2 h
      obtain ⟨h, h3⟩ := and2 h
      obtain ⟨h1, h2⟩ := and2 h
      exact d_par3 (g.calm h1) g.nd (by rw [g.N]; exact of_decide_eq_true h2) (by rw [g.N]; exact of_decide_eq_true h3) (by rw [g.N]; exact of_decide_eq_true h4) (local_of g.scope h5) (local_of g.scope h6) (local_of g.scope h7) (iha.e g u h18) (ihb.e g v h19) (ihc.e g w h20) (by rw [star1 h8, star1 h9, star1 h10]; rfl) (by rw [star1 h9, star1 h10]; rfl) (star1 h10) (swapped3 (blockKind_of g) (kindOf_local g h5) (kindOf_local g h6) (kindOf_local g h7) h8 h9 h10 (of_decide_eq_true h11) (of_decide_eq_true h12) (of_decide_eq_true h13) h14 h15 (notB h16) (notB h17))
    · cases h
  · exact fun {X sc k W} g pe h => Bool.noConfusion (show false = true from h)
  · exact fun {X sc k W} g tg pe h => Bool.noConfusion (show false = true from h)
  · exact fun {X sc k W} g pe h => Bool.noConfusion (show false = true from h)

theorem snd_parC (a : I) (tg : I) (iha : Snd pg G Γ a) (ihg : Snd pg G Γ tg) : Snd pg G Γ (.parC a tg) := by
  refine ⟨?_, ?_, ?_, ?_, ?_, ?_, ?_, ?_, ?_, ?_⟩
  · exact fun {X sc k W} g pe h => Bool.noConfusion (show false = true from h)
  · exact fun {X sc k W} g pe h => Bool.noConfusion (show false = true from h)
  · exact fun {X sc k W} g pe h => Bool.noConfusion (show false = true from h)
  · exact fun {X sc k W} g pe h => Bool.noConfusion (show false = true from h)
  · exact fun {X sc k W} g pe h => Bool.noConfusion (show false = true from h)
  · exact fun {X sc k W} g pe h => Bool.noConfusion (show false = true from h)
  · intro X sc k W g pe h
    dsimp only [chk] at h
    split at h
    · rename_i ts k1 p1 es k2 p2 p
      obtain ⟨h, h6⟩ := and2 h
      obtain ⟨h, h5⟩ := and2 h
      obtain ⟨h, h4⟩ := and2 h
      obtain ⟨h, h3⟩ := and2 h
      obtain ⟨h1, h2⟩ := and2 h
      exact d_asg (iha.e g _ h6) (ihg.g g _ h5) rfl (swappedNo h2) rfl
    · cases h
  · exact fun {X sc k W} g pe h => Bool.noConfusion (show false = true from h)
  · exact fun {X sc k W} g tg pe h => Bool.noConfusion (show false = true from h)
  · exact fun {X sc k W} g pe h => Bool.noConfusion (show false = true from h)

theorem snd_aug (i : Nat) (op : Operator) (a : I) (iha : Snd pg G Γ a) : Snd pg G Γ (.aug i op a) := by
  refine ⟨?_, ?_, ?_, ?_, ?_, ?_, ?_, ?_, ?_, ?_⟩
  · exact fun {X sc k W} g pe h => Bool.noConfusion (show false = true from h)
  · exact fun {X sc k W} g pe h => Bool.noConfusion (show false = true from h)
  · exact fun {X sc k W} g pe h => Bool.noConfusion (show false = true from h)
  · exact fun {X sc k W} g pe h => Bool.noConfusion (show false = true from h)
  · exact fun {X sc k W} g pe h => Bool.noConfusion (show false = true from h)
  · exact fun {X sc k W} g pe h => Bool.noConfusion (show false = true from h)
  · intro X sc k W g pe h
    dsimp only [chk] at h
    split at h
    · rename_i x px op' e p
      obtain ⟨h, h4⟩ := and2 h
      obtain ⟨h, h3⟩ := and2 h
      obtain ⟨h1, h2⟩ := and2 h
      have e1 := of_decide_eq_true h1
      subst e1
      exact d_aug g.nd (by rw [g.N]; exact of_decide_eq_true h2) (loc1 g.scope h3) (g.fnOk h3) (o_iop op) (iha.e g _ h4)
    · cases h
  · exact fun {X sc k W} g pe h => Bool.noConfusion (show false = true from h)
  · exact fun {X sc k W} g tg pe h => Bool.noConfusion (show false = true from h)
  · exact fun {X sc k W} g pe h => Bool.noConfusion (show false = true from h)

theorem snd_own (i : Nat) (args : I) (iha : Snd pg G Γ args) : Snd pg G Γ (.own i args) := by
  refine ⟨?_, ?_, ?_, ?_, ?_, ?_, ?_, ?_, ?_, ?_⟩
  · exact fun {X sc k W} g pe h => Bool.noConfusion (show false = true from h)
  · exact fun {X sc k W} g pe h => Bool.noConfusion (show false = true from h)
  · exact fun {X sc k W} g pe h => Bool.noConfusion (show false = true from h)
  · exact fun {X sc k W} g pe h => Bool.noConfusion (show false = true from h)
  · exact fun {X sc k W} g pe h => Bool.noConfusion (show false = true from h)
  · exact fun {X sc k W} g pe h => Bool.noConfusion (show false = true from h)
  · intro X sc k W g pe h
    dsimp only [chk] at h
    split at h
    · rename_i x px es lp p
      obtain ⟨h, h4⟩ := and2 h
      obtain ⟨h, h3⟩ := and2 h
      obtain ⟨h1, h2⟩ := and2 h
      exact d_own g.nd (by rw [g.N]; exact of_decide_eq_true h1) (loc1 g.scope h2) (g.fnOk h2) (iha.l g es h4)
    · cases h
  · exact fun {X sc k W} g pe h => Bool.noConfusion (show false = true from h)
  · exact fun {X sc k W} g tg pe h => Bool.noConfusion (show false = true from h)
  · exact fun {X sc k W} g pe h => Bool.noConfusion (show false = true from h)

theorem snd_chg (m : Mut) (i : Nat) (args : I) (iha : Snd pg G Γ args) : Snd pg G Γ (.chg m i args) := by
  refine ⟨?_, ?_, ?_, ?_, ?_, ?_, ?_, ?_, ?_, ?_⟩
  · exact fun {X sc k W} g pe h => Bool.noConfusion (show false = true from h)
  · exact fun {X sc k W} g pe h => Bool.noConfusion (show false = true from h)
  · exact fun {X sc k W} g pe h => Bool.noConfusion (show false = true from h)
  · exact fun {X sc k W} g pe h => Bool.noConfusion (show false = true from h)
  · exact fun {X sc k W} g pe h => Bool.noConfusion (show false = true from h)
  · exact fun {X sc k W} g pe h => Bool.noConfusion (show false = true from h)
  · intro X sc k W g pe h
    dsimp only [chk] at h
    split at h
    · rename_i x px name ap a es cp p
      obtain ⟨h, h8⟩ := and2 h
      obtain ⟨h, h7⟩ := and2 h
      obtain ⟨h, h6⟩ := and2 h
      obtain ⟨h, h5⟩ := and2 h
      obtain ⟨h, h4⟩ := and2 h
      obtain ⟨h, h3⟩ := and2 h
      obtain ⟨h1, h2⟩ := and2 h
      cases m
      have hst := h5
      rw [List.all_cons, Bool.and_eq_true] at hst
      refine d_append g.K (pe_var (by rw [g.N]; exact of_decide_eq_true h2) (vis_of g.scope h3) (nm_of h4).1 (nm_of h4).2) (iha.l g _ h8) (of_decide_eq_true h1) ?_ h7 (star1 hst.1) (starAny hst.2)
      have hl : (a :: es).length < 20 := of_decide_eq_true h6
      rw [starAll h5]
      show (true && true && decide ((a :: es).length + 0 + 0 < 30)) = true
      exact decide_eq_true (by omega)
    · cases h
  · exact fun {X sc k W} g pe h => Bool.noConfusion (show false = true from h)
  · exact fun {X sc k W} g tg pe h => Bool.noConfusion (show false = true from h)
  · exact fun {X sc k W} g pe h => Bool.noConfusion (show false = true from h)

theorem snd_frz (i : Nat) (a : I) (iha : Snd pg G Γ a) : Snd pg G Γ (.frz i a) := by
  refine ⟨?_, ?_, ?_, ?_, ?_, ?_, ?_, ?_, ?_, ?_⟩
  · exact fun {X sc k W} g pe h => Bool.noConfusion (show false = true from h)
  · exact fun {X sc k W} g pe h => Bool.noConfusion (show false = true from h)
  · exact fun {X sc k W} g pe h => Bool.noConfusion (show false = true from h)
  · exact fun {X sc k W} g pe h => Bool.noConfusion (show false = true from h)
  · exact fun {X sc k W} g pe h => Bool.noConfusion (show false = true from h)
  · exact fun {X sc k W} g pe h => Bool.noConfusion (show false = true from h)
  · exact fun {X sc k W} g pe h => d_frz (iha.s g pe h)
  · exact fun {X sc k W} g pe h => Bool.noConfusion (show false = true from h)
  · exact fun {X sc k W} g tg pe h => Bool.noConfusion (show false = true from h)
  · exact fun {X sc k W} g pe h => Bool.noConfusion (show false = true from h)

theorem snd_if (c : I) (a : I) (b : I) (ihc : Snd pg G Γ c) (iha : Snd pg G Γ a) (ihb : Snd pg G Γ b) : Snd pg G Γ (.if_ c a b) := by
  refine ⟨?_, ?_, ?_, ?_, ?_, ?_, ?_, ?_, ?_, ?_⟩
  · exact fun {X sc k W} g pe h => Bool.noConfusion (show false = true from h)
  · exact fun {X sc k W} g pe h => Bool.noConfusion (show false = true from h)
  · exact fun {X sc k W} g pe h => Bool.noConfusion (show false = true from h)
  · exact fun {X sc k W} g pe h => Bool.noConfusion (show false = true from h)
  · exact fun {X sc k W} g pe h => Bool.noConfusion (show false = true from h)
  · exact fun {X sc k W} g pe h => Bool.noConfusion (show false = true from h)
  · intro X sc k W g pe h
    dsimp only [chk] at h
    split at h
    · rename_i e x y p
      obtain ⟨h, h3⟩ := and2 h
      obtain ⟨h1, h2⟩ := and2 h
      exact d_if (ihc.t g e h1) (iha.ss g x h2) (ihb.ss g y h3)
    · cases h
  · exact fun {X sc k W} g pe h => Bool.noConfusion (show false = true from h)
  · exact fun {X sc k W} g tg pe h => Bool.noConfusion (show false = true from h)
  · exact fun {X sc k W} g pe h => Bool.noConfusion (show false = true from h)

theorem snd_while (n : Nat) (c : I) (b : I) (ihc : Snd pg G Γ c) (ihb : Snd pg G Γ b) : Snd pg G Γ (.while_ n c b) := by
  refine ⟨?_, ?_, ?_, ?_, ?_, ?_, ?_, ?_, ?_, ?_⟩
  · exact fun {X sc k W} g pe h => Bool.noConfusion (show false = true from h)
  · exact fun {X sc k W} g pe h => Bool.noConfusion (show false = true from h)
  · exact fun {X sc k W} g pe h => Bool.noConfusion (show false = true from h)
  · exact fun {X sc k W} g pe h => Bool.noConfusion (show false = true from h)
  · exact fun {X sc k W} g pe h => Bool.noConfusion (show false = true from h)
  · exact fun {X sc k W} g pe h => Bool.noConfusion (show false = true from h)
  · intro X sc k W g pe h
    dsimp only [chk] at h
    split at h
    · rename_i e x p
      obtain ⟨h1, h2⟩ := and2 h
      exact d_while g.po (ihc.t g e h1) (ihb.ss g x h2)
    · cases h
  · exact fun {X sc k W} g pe h => Bool.noConfusion (show false = true from h)
  · exact fun {X sc k W} g tg pe h => Bool.noConfusion (show false = true from h)
  · exact fun {X sc k W} g pe h => Bool.noConfusion (show false = true from h)

theorem snd_for (tg : I) (it : I) (b : I) (ihg : Snd pg G Γ tg) (ihi : Snd pg G Γ it) (ihb : Snd pg G Γ b) : Snd pg G Γ (.for_ tg it b) := by
  refine ⟨?_, ?_, ?_, ?_, ?_, ?_, ?_, ?_, ?_, ?_⟩
  · exact fun {X sc k W} g pe h => Bool.noConfusion (show false = true from h)
  · exact fun {X sc k W} g pe h => Bool.noConfusion (show false = true from h)
  · exact fun {X sc k W} g pe h => Bool.noConfusion (show false = true from h)
  · exact fun {X sc k W} g pe h => Bool.noConfusion (show false = true from h)
  · exact fun {X sc k W} g pe h => Bool.noConfusion (show false = true from h)
  · exact fun {X sc k W} g pe h => Bool.noConfusion (show false = true from h)
  · intro X sc k W g pe h
    dsimp only [chk] at h
    split at h
    · rename_i t i x p
      obtain ⟨h, h5⟩ := and2 h
      obtain ⟨h, h4⟩ := and2 h
      obtain ⟨h, h3⟩ := and2 h
      obtain ⟨h1, h2⟩ := and2 h
      exact d_for g.po (g.calm h1) (ihi.it g t i h4) (ihg.g g t h3) (ihb.ss g x h5) fun y => notSet_of h2 y
    · cases h
  · exact fun {X sc k W} g pe h => Bool.noConfusion (show false = true from h)
  · exact fun {X sc k W} g tg pe h => Bool.noConfusion (show false = true from h)
  · exact fun {X sc k W} g pe h => Bool.noConfusion (show false = true from h)

theorem snd_brk   : Snd pg G Γ .brk := by
  refine ⟨?_, ?_, ?_, ?_, ?_, ?_, ?_, ?_, ?_, ?_⟩
  · exact fun {X sc k W} g pe h => Bool.noConfusion (show false = true from h)
  · exact fun {X sc k W} g pe h => Bool.noConfusion (show false = true from h)
  · exact fun {X sc k W} g pe h => Bool.noConfusion (show false = true from h)
  · exact fun {X sc k W} g pe h => Bool.noConfusion (show false = true from h)
  · exact fun {X sc k W} g pe h => Bool.noConfusion (show false = true from h)
  · exact fun {X sc k W} g pe h => Bool.noConfusion (show false = true from h)
  · intro X sc k W g pe h
    dsimp only [chk] at h
    split at h
    · rename_i p
      exact d_brk
    · cases h
  · exact fun {X sc k W} g pe h => Bool.noConfusion (show false = true from h)
  · exact fun {X sc k W} g tg pe h => Bool.noConfusion (show false = true from h)
  · exact fun {X sc k W} g pe h => Bool.noConfusion (show false = true from h)

theorem snd_cont   : Snd pg G Γ .cont := by
  refine ⟨?_, ?_, ?_, ?_, ?_, ?_, ?_, ?_, ?_, ?_⟩
  · exact fun {X sc k W} g pe h => Bool.noConfusion (show false = true from h)
  · exact fun {X sc k W} g pe h => Bool.noConfusion (show false = true from h)
  · exact fun {X sc k W} g pe h => Bool.noConfusion (show false = true from h)
  · exact fun {X sc k W} g pe h => Bool.noConfusion (show false = true from h)
  · exact fun {X sc k W} g pe h => Bool.noConfusion (show false = true from h)
  · exact fun {X sc k W} g pe h => Bool.noConfusion (show false = true from h)
  · intro X sc k W g pe h
    dsimp only [chk] at h
    split at h
    · rename_i p
      exact d_cont
    · cases h
  · exact fun {X sc k W} g pe h => Bool.noConfusion (show false = true from h)
  · exact fun {X sc k W} g tg pe h => Bool.noConfusion (show false = true from h)
  · exact fun {X sc k W} g pe h => Bool.noConfusion (show false = true from h)

theorem snd_never   : Snd pg G Γ .never := by
  refine ⟨?_, ?_, ?_, ?_, ?_, ?_, ?_, ?_, ?_, ?_⟩
  · exact fun {X sc k W} g pe h => Bool.noConfusion (show false = true from h)
  · exact fun {X sc k W} g pe h => Bool.noConfusion (show false = true from h)
  · exact fun {X sc k W} g pe h => Bool.noConfusion (show false = true from h)
  · exact fun {X sc k W} g pe h => Bool.noConfusion (show false = true from h)
  · exact fun {X sc k W} g pe h => Bool.noConfusion (show false = true from h)
  · exact fun {X sc k W} g pe h => Bool.noConfusion (show false = true from h)
  · exact fun {X sc k W} g pe h => d_never
  · exact fun {X sc k W} g pe h => Bool.noConfusion (show false = true from h)
  · exact fun {X sc k W} g tg pe h => Bool.noConfusion (show false = true from h)
  · exact fun {X sc k W} g pe h => Bool.noConfusion (show false = true from h)

theorem snd_zip (a : I) (b : I)  : Snd pg G Γ (.zip a b) := by
  refine ⟨?_, ?_, ?_, ?_, ?_, ?_, ?_, ?_, ?_, ?_⟩
  · exact fun {X sc k W} g pe h => Bool.noConfusion (show false = true from h)
  · exact fun {X sc k W} g pe h => Bool.noConfusion (show false = true from h)
  · exact fun {X sc k W} g pe h => Bool.noConfusion (show false = true from h)
  · exact fun {X sc k W} g pe h => Bool.noConfusion (show false = true from h)
  · exact fun {X sc k W} g pe h => Bool.noConfusion (show false = true from h)
  · exact fun {X sc k W} g pe h => Bool.noConfusion (show false = true from h)
  · exact fun {X sc k W} g pe h => Bool.noConfusion (show false = true from h)
  · exact fun {X sc k W} g pe h => Bool.noConfusion (show false = true from h)
  · exact fun {X sc k W} g tg pe h => Bool.noConfusion (show false = true from h)
  · exact fun {X sc k W} g pe h => Bool.noConfusion (show false = true from h)

theorem snd_enum (a : I)  : Snd pg G Γ (.enum a) := by
  refine ⟨?_, ?_, ?_, ?_, ?_, ?_, ?_, ?_, ?_, ?_⟩
  · exact fun {X sc k W} g pe h => Bool.noConfusion (show false = true from h)
  · exact fun {X sc k W} g pe h => Bool.noConfusion (show false = true from h)
  · exact fun {X sc k W} g pe h => Bool.noConfusion (show false = true from h)
  · exact fun {X sc k W} g pe h => Bool.noConfusion (show false = true from h)
  · exact fun {X sc k W} g pe h => Bool.noConfusion (show false = true from h)
  · exact fun {X sc k W} g pe h => Bool.noConfusion (show false = true from h)
  · exact fun {X sc k W} g pe h => Bool.noConfusion (show false = true from h)
  · exact fun {X sc k W} g pe h => Bool.noConfusion (show false = true from h)
  · exact fun {X sc k W} g tg pe h => Bool.noConfusion (show false = true from h)
  · exact fun {X sc k W} g pe h => Bool.noConfusion (show false = true from h)

theorem snd_mth (m : Mth) (o : I) (args : I)  : Snd pg G Γ (.mth m o args) := by
  refine ⟨?_, ?_, ?_, ?_, ?_, ?_, ?_, ?_, ?_, ?_⟩
  · exact fun {X sc k W} g pe h => Bool.noConfusion (show false = true from h)
  · exact fun {X sc k W} g pe h => Bool.noConfusion (show false = true from h)
  · exact fun {X sc k W} g pe h => Bool.noConfusion (show false = true from h)
  · exact fun {X sc k W} g pe h => Bool.noConfusion (show false = true from h)
  · exact fun {X sc k W} g pe h => Bool.noConfusion (show false = true from h)
  · exact fun {X sc k W} g pe h => Bool.noConfusion (show false = true from h)
  · exact fun {X sc k W} g pe h => Bool.noConfusion (show false = true from h)
  · exact fun {X sc k W} g pe h => Bool.noConfusion (show false = true from h)
  · exact fun {X sc k W} g tg pe h => Bool.noConfusion (show false = true from h)
  · exact fun {X sc k W} g pe h => Bool.noConfusion (show false = true from h)

theorem part_of {i : I} (ih : Snd pg G Γ i) (g : Good pg G Γ X sc k W) {l : Option Expr} (h : partC i.isNone (chk pg i sc).e l = true) : PO X l (tOi G W (partD i (den Γ i).e)) := by
  cases l with
  | none =>
    have e : partD i (den Γ i).e = fun _ st => .ok none st := by
      have h : i.isNone = true := h
      funext ρ st
      unfold partD
      rw [if_pos h]
    rw [e]
    exact po_no
  | some x =>
    obtain ⟨h1, h2⟩ := and2 (show (!i.isNone && (chk pg i sc).e x) = true from h)
    have e : partD i (den Γ i).e = fun ρ st => ((den Γ i).e ρ st).bind fun x st => ofO (intO x) st := by
      funext ρ st
      unfold partD
      rw [if_neg (by rw [notB h1]; exact Bool.false_ne_true)]
    rw [e]
    exact po_part (ih.e g x h2)
theorem snd_slc_e (a lo hi : I) (iha : Snd pg G Γ a) (ihl : Snd pg G Γ lo) (ihh : Snd pg G Γ hi) : ∀ {X : Cx} {sc : Sc} {k : Nat} {W : WX}, Good pg G Γ X sc k W → ∀ pe : Expr, (chk pg (.slc a lo hi) sc).e pe = true → PE X pe (tE G W (den Γ (.slc a lo hi)).e) := by
  intro X sc k W g pe h
  dsimp only [chk, Ck.ofE] at h
  split at h
  · rename_i x l u p p2
    obtain ⟨h, h3⟩ := and2 h
    obtain ⟨h1, h2⟩ := and2 h
    exact d_slc g.K (iha.e g x h1) (part_of ihl g h2) (part_of ihh g h3)
  · cases h

theorem snd_slc (a lo hi : I) (iha : Snd pg G Γ a) (ihl : Snd pg G Γ lo) (ihh : Snd pg G Γ hi) : Snd pg G Γ (.slc a lo hi) := by
  refine ⟨?_, ?_, ?_, ?_, ?_, ?_, ?_, ?_, ?_, ?_⟩
  · exact snd_slc_e a lo hi iha ihl ihh
  · exact fun {X sc k W} g pe h => truth' g (and2 h).1 (snd_slc_e a lo hi iha ihl ihh g pe (and2 h).2)
  · exact fun {X sc k W} g pe h => Bool.noConfusion (show false = true from h)
  · exact fun {X sc k W} g pe h => Bool.noConfusion (show false = true from h)
  · exact fun {X sc k W} g pe h => Bool.noConfusion (show false = true from h)
  · exact fun {X sc k W} g pe h => Bool.noConfusion (show false = true from h)
  · exact fun {X sc k W} g pe h => Bool.noConfusion (show false = true from h)
  · exact fun {X sc k W} g pe h => Bool.noConfusion (show false = true from h)
  · exact fun {X sc k W} g tg pe h => Bool.noConfusion (show false = true from h)
  · exact fun {X sc k W} g pe h => Bool.noConfusion (show false = true from h)

theorem snd_addR_e (a b : I) (iha : Snd pg G Γ a) (ihb : Snd pg G Γ b) : ∀ {X : Cx} {sc : Sc} {k : Nat} {W : WX}, Good pg G Γ X sc k W → ∀ pe : Expr, (chk pg (.addR a b) sc).e pe = true → PE X pe (tE G W (den Γ (.addR a b)).e) := by
  intro X sc k W g pe h
  dsimp only [chk, Ck.ofE] at h
  split at h
  · rename_i x op' y p
    obtain ⟨h, h3⟩ := and2 h
    obtain ⟨h1, h2⟩ := and2 h
    have e : op' = .Add := of_decide_eq_true h1
    subst e
    exact d_addR g.K (iha.e g x h2) (ihb.e g y h3)
  · cases h

theorem snd_addR (a b : I) (iha : Snd pg G Γ a) (ihb : Snd pg G Γ b) : Snd pg G Γ (.addR a b) := by
  refine ⟨?_, ?_, ?_, ?_, ?_, ?_, ?_, ?_, ?_, ?_⟩
  · exact snd_addR_e a b iha ihb
  · exact fun {X sc k W} g pe h => truth' g (and2 h).1 (snd_addR_e a b iha ihb g pe (and2 h).2)
  · exact fun {X sc k W} g pe h => Bool.noConfusion (show false = true from h)
  · exact fun {X sc k W} g pe h => Bool.noConfusion (show false = true from h)
  · exact fun {X sc k W} g pe h => Bool.noConfusion (show false = true from h)
  · exact fun {X sc k W} g pe h => Bool.noConfusion (show false = true from h)
  · exact fun {X sc k W} g pe h => Bool.noConfusion (show false = true from h)
  · exact fun {X sc k W} g pe h => Bool.noConfusion (show false = true from h)
  · exact fun {X sc k W} g tg pe h => Bool.noConfusion (show false = true from h)
  · exact fun {X sc k W} g pe h => Bool.noConfusion (show false = true from h)

theorem snd_emp_e : ∀ {X : Cx} {sc : Sc} {k : Nat} {W : WX}, Good pg G Γ X sc k W → ∀ pe : Expr, (chk pg .emp sc).e pe = true → PE X pe (tE G W (den Γ .emp).e) := by
  intro X sc k W g pe h
  dsimp only [chk, Ck.ofE] at h
  split at h
  · exact d_emp
  · cases h

theorem snd_emp  : Snd pg G Γ (.emp) := by
  refine ⟨?_, ?_, ?_, ?_, ?_, ?_, ?_, ?_, ?_, ?_⟩
  · exact snd_emp_e 
  · exact fun {X sc k W} g pe h => truth' g (and2 h).1 (snd_emp_e  g pe (and2 h).2)
  · exact fun {X sc k W} g pe h => Bool.noConfusion (show false = true from h)
  · exact fun {X sc k W} g pe h => Bool.noConfusion (show false = true from h)
  · exact fun {X sc k W} g pe h => Bool.noConfusion (show false = true from h)
  · exact fun {X sc k W} g pe h => Bool.noConfusion (show false = true from h)
  · exact fun {X sc k W} g pe h => Bool.noConfusion (show false = true from h)
  · exact fun {X sc k W} g pe h => Bool.noConfusion (show false = true from h)
  · exact fun {X sc k W} g tg pe h => Bool.noConfusion (show false = true from h)
  · exact fun {X sc k W} g pe h => Bool.noConfusion (show false = true from h)

theorem snd_ts1 (c : I) (ih : Snd pg G Γ c) : Snd pg G Γ (.ts1 c) := by
  refine ⟨?_, ?_, ?_, ?_, ?_, ?_, ?_, ?_, ?_, ?_⟩
  · exact fun {X sc k W} g pe h => Bool.noConfusion (show false = true from h)
  · exact fun {X sc k W} g pe h => Bool.noConfusion (show false = true from h)
  · exact fun {X sc k W} g pe h => Bool.noConfusion (show false = true from h)
  · exact fun {X sc k W} g pe h => Bool.noConfusion (show false = true from h)
  · exact fun {X sc k W} g pe h => Bool.noConfusion (show false = true from h)
  · exact fun {X sc k W} g pe h => Bool.noConfusion (show false = true from h)
  · exact fun {X sc k W} g pe h => Bool.noConfusion (show false = true from h)
  · exact fun {X sc k W} g pe h => Bool.noConfusion (show false = true from h)
  · exact fun {X sc k W} g tg pe h => Bool.noConfusion (show false = true from h)
  · intro X sc k W g pe h
    dsimp only [chk] at h
    split at h
    · exact d_tsone (ih.t g _ h)
    · cases h
theorem snd (pg : Pg) (G : Gl) (Γ : Fns) (i : I) : Snd pg G Γ i := by
  induction i with
  | var i  => exact snd_var i 
  | int n  => exact snd_int n 
  | str n  => exact snd_str n 
  | bool n  => exact snd_bool n 
  | none   => exact snd_none  
  | glob n  => exact snd_glob n 
  | bin op a b iha ihb => exact snd_bin op a b iha ihb
  | neg a iha => exact snd_neg a iha
  | cmp op a b iha ihb => exact snd_cmp op a b iha ihb
  | chain o1 o2 a b c iha ihb ihc => exact snd_chain o1 o2 a b c iha ihb ihc
  | and_ a b iha ihb => exact snd_and a b iha ihb
  | or_ a b iha ihb => exact snd_or a b iha ihb
  | not_ a iha => exact snd_not a iha
  | ife c a b ihc iha ihb => exact snd_ife c a b ihc iha ihb
  | call f a iha => exact snd_call f a iha
  | blt b a iha => exact snd_blt b a iha
  | isin a t iha => exact snd_isin a t iha
  | mth m o a iho iha => exact snd_mth m o a 
  | ix a i iha ihi => exact snd_ix a i iha ihi
  | slc a l u iha ihl ihu => exact snd_slc a l u iha ihl ihu
  | addR a b iha ihb => exact snd_addR a b iha ihb
  | emp => exact snd_emp
  | ts1 c ih => exact snd_ts1 c ih
  | tup a iha => exact snd_tup a iha
  | lst m a iha => exact snd_lst m a iha
  | lc own e tg it fs ihe ihg ihi iht => exact snd_lc own e tg it fs ihe ihg ihi iht
  | nil   => exact snd_nil  
  | cons a b iha ihb => exact snd_cons a b iha ihb
  | tvar i  => exact snd_tvar i 
  | ttup n a iha => exact snd_ttup n a iha
  | tix o i iho ihi => exact snd_tix o i iho ihi
  | rng1 a iha => exact snd_rng1 a iha
  | rng2 a b iha ihb => exact snd_rng2 a b iha ihb
  | walk a iha => exact snd_walk a iha
  | zip a b iha ihb => exact snd_zip a b 
  | enum a iha => exact snd_enum a 
  | pass   => exact snd_pass  
  | expr a iha => exact snd_expr a iha
  | ret a iha => exact snd_ret a iha
  | retn   => exact snd_retn  
  | asg tg a ihg iha => exact snd_asg tg a ihg iha
  | aug i op a iha => exact snd_aug i op a iha
  | asgLc i own e tg it fs ihe ihg ihi iht => exact snd_asgLc i own e tg it fs ihe ihg ihi iht
  | par2 i j a b iha ihb => exact snd_par2 i j a b iha ihb
  | par3 i j m a b c iha ihb ihc => exact snd_par3 i j m a b c iha ihb ihc
  | parC a tg iha ihg => exact snd_parC a tg iha ihg
  | own i a iha => exact snd_own i a iha
  | chg m i a iha => exact snd_chg m i a iha
  | frz i a iha => exact snd_frz i a iha
  | if_ c a b ihc iha ihb => exact snd_if c a b ihc iha ihb
  | while_ n c b ihc ihb => exact snd_while n c b ihc ihb
  | for_ tg it b ihg ihi ihb => exact snd_for tg it b ihg ihi ihb
  | brk   => exact snd_brk  
  | cont   => exact snd_cont  
  | never   => exact snd_never  
end
end DL

set_option Elab.async false
set_option linter.all false
set_option maxRecDepth 100000
set_option maxHeartbeats 4000000
/-! a whole program -/
namespace DL
open PySem PySem.Spec L2

def DefI.df (d : DefI) : Df := ⟨d.N.length, d.ps.length, d.ir⟩
def Pg.dfs (pg : Pg) : List Df := pg.defs.map DefI.df
def Pg.cs (pg : Pg) : Nat → D := fun i => match pg.consts[i]? with
  | some p => p.2
  | none => .non
/-- the program's defs, k calls deep -/
def Pg.run (pg : Pg) (k : Nat) : Nat → List D → Store → R D := DL.run pg.dfs pg.cs k
/-- how a def's arguments bind -/
def Bd (d : DefI) : Prop := ∀ (kV doc pm : Value) (an : Option Addr) (cdv ct : Value) (us : List Value), us.length = d.ps.length →
  bindArgs (PySem.W.fnOf d.name d.qual d.params d.body d.scope .none kV doc pm an cdv ct) ⟨us, []⟩ = pure (d.ps.zip us)
def BdAll : List DefI → Prop
  | [] => True
  | d :: r => Bd d ∧ BdAll r
theorem BdAll.get : ∀ {l : List DefI} {i : Nat} {d : DefI}, BdAll l → l[i]? = some d → Bd d
  | [], _, _, _, h => by simp at h
  | d :: r, 0, e, b, h => by simp at h; subst h; exact b.1
  | d :: r, i + 1, e, b, h => BdAll.get b.2 (by simpa using h)
/-- the look over a def -/
def scopeB (d : DefI) : Bool := decide (d.scope.kind = .function) && !d.scope.isCoroutine && !d.scope.isGenerator && decide d.N.Nodup && decide (d.N.take d.ps.length = d.ps) && (d.ps.all fun x => match d.scope.names.lookup x with | some .local => true | some .cell => true | _ => false) && d.scope.names.all fun y => decide (y.2 ≠ .free)
def lookB (pg : Pg) (d : DefI) : Bool := scopeB d && (chk pg d.ir ⟨d.scope, d.N, true, none⟩).ss d.body
def Pg.ok (pg : Pg) : Bool := pg.defs.all (lookB pg)
theorem scope_of {d : DefI} (h : scopeB d = true) : FnScope d.N d.ps d.scope := by
  unfold scopeB at h
  obtain ⟨h, h7⟩ := and2 h
  obtain ⟨h, h6⟩ := and2 h
  obtain ⟨h, h5⟩ := and2 h
  obtain ⟨h, h4⟩ := and2 h
  obtain ⟨h, h3⟩ := and2 h
  obtain ⟨h1, h2⟩ := and2 h
  refine ⟨of_decide_eq_true h1, notB h2, notB h3, of_decide_eq_true h4, of_decide_eq_true h5, fun x hx => ?_, fun y hy => of_decide_eq_true (List.all_eq_true.mp h7 y hy)⟩
  have := List.all_eq_true.mp h6 x hx
  revert this
  cases d.scope.names.lookup x with
  | none => intro v; cases v
  | some k => cases k <;> intro v <;> first | exact .inl rfl | exact .inr rfl | cases v
theorem Po.notStuck {G : Gl} {W : WX} {σ : St} {Mt : Addr → Prop} {φ : List Addr} {H : Hp} {Q : VK} (h : Po G W σ (relE G) Mt φ H .stuck Q) : False := h
theorem pg_get {pg : Pg} {i : Nat} {d : DefI} (h : pg.defs[i]? = some d) : pg.dfs[i]? = some d.df := by
  unfold Pg.dfs
  rw [List.getElem?_map, h]
  rfl
/-- every def keeps the promise of its meaning -/
theorem prog_ok {pg : Pg} {P : Program} {w : World} {G : Gl} {mg : Str → Option Value} {base : Heap} (F : Facts pg G mg pg.cs) (hok : pg.ok = true) (hb : BdAll pg.defs)
    (hf : ∀ (i : Nat) (d : DefI), pg.defs[i]? = some d → ∃ fd, FunD G.K d.name d.qual d.params d.body d.scope [] [] (G.fa i) fd) (k : Nat) :
    ∀ (i : Nat) (d : DefI), pg.defs[i]? = some d → ∀ fd, FunD G.K d.name d.qual d.params d.body d.scope [] [] (G.fa i) fd → FnOk P w G.K mg base (L2.CX P w) k (G.fa i) fd d.ps (spOf G (pg.run k i)) := by
  have len : ∀ (k i : Nat) (d : DefI), pg.defs[i]? = some d → ∀ vs H Q E, spOf G (pg.run k i) vs H Q E → vs.length = d.ps.length := fun k i d hd vs H Q E h => by
    obtain ⟨Mt, φ, st, ds, s, r, q⟩ := h
    have hl : ds.length = vs.length := Paired.length r
    cases k with
    | zero => exact q.notStuck.elim
    | succ k =>
      unfold Pg.run DL.run at q
      rw [pg_get hd] at q
      dsimp only at q
      unfold Df.run at q
      split at q
      · rename_i h
        exact hl.symm.trans h
      · exact q.notStuck.elim
  induction k with
  | zero =>
    intro i d hd fd hfd
    refine ⟨len 0 i d hd, fun A outer s H args us vs Q E _ _ _ _ h => ?_⟩
    obtain ⟨Mt, φ, st, ds, s, r, q⟩ := h
    exact q.notStuck.elim
  | succ k ih =>
    intro i d hd fd hfd
    have hl : lookB pg d = true := List.all_eq_true.mp hok d (List.mem_of_getElem? hd)
    obtain ⟨hs, hlook⟩ := and2 hl
    have S := scope_of hs
    refine hfd.ok S (len (k + 1) i d hd) fun cdv A outer s H vs Q E hr h => ?_
    refine ⟨tS G (fun c d _ H => E c d H) (den ⟨pg.run k, pg.cs⟩ d.ir).s, ?_, ?_⟩
    · refine (snd pg G ⟨pg.run k, pg.cs⟩ d.ir).ss (sc := ⟨d.scope, d.N, true, none⟩) (k := k) ⟨rfl, rfl, S.kind, rfl, S.nd, fun _ => rfl, ?_, fun _ => hr, fun _ _ => rfl, passes_of rfl, takes_of rfl rfl rfl rfl, F, fun j e he => ?_⟩ d.body hlook
      · have := hr.un
        show (A.deeper _).units + 65 < cLine
        omega
      · obtain ⟨fe, hfe⟩ := hf j e he
        exact ⟨fe, ih j e he fe hfe, hfe.bindsN (hb.get he)⟩
    · obtain ⟨Mt, φ, st, ds, s0, r, q⟩ := h
      unfold Pg.run DL.run at q
      rw [pg_get hd] at q
      dsimp only at q
      unfold Df.run at q
      split at q
      · rename_i hl
        exact body_read s0 r rfl hl q
      · exact q.notStuck.elim

/-! ### the head's facts -/
def constFa (p : Str × D) : Option He.Fa := match p.2 with
  | .int i => some (.int p.1 i)
  | .str z => some (.str p.1 z)
  | _ => none
def Pg.faL (pg : Pg) : List He.Fa := pg.defs.map (fun d => .glo d.at_.1) ++ pg.free.map .free ++ pg.consts.filterMap constFa
def DefI.dd (d : DefI) : He.DefD := ⟨d.at_, d.name, d.qual, d.params, d.body, d.scope, [], []⟩
def Pg.fnL (pg : Pg) : List He.DefD := pg.defs.map DefI.dd
def Pg.gl (pg : Pg) (K : PySem.W.Frag) : Gl := ⟨K, fun i => match pg.defs[i]? with
  | some d => He.fAd K d.at_
  | none => 0⟩
theorem Pg.gl_at {pg : Pg} {K : PySem.W.Frag} {i : Nat} {d : DefI} (h : pg.defs[i]? = some d) : (pg.gl K).fa i = He.fAd K d.at_ := by
  unfold Pg.gl
  dsimp only
  rw [h]
theorem Pg.fun_ {pg : Pg} {K : PySem.W.Frag} (c : He.SaysD pg.faL pg.fnL K) (i : Nat) (d : DefI) (h : pg.defs[i]? = some d) : ∃ fd, FunD K d.name d.qual d.params d.body d.scope [] [] ((pg.gl K).fa i) fd := by
  rw [Pg.gl_at h]
  exact He.SaysD.defs c (d := d.dd) (List.mem_map.mpr ⟨d, List.mem_of_getElem? h, rfl⟩)
theorem Pg.facts {pg : Pg} {K : PySem.W.Frag} {h : Heap} {mg : Str → Option Value} (X : K.In h) (Gm : h.Ns mainGlobals mg) (c : He.SaysD pg.faL pg.fnL K) (hc : pg.consts.all (fun p => (constFa p).isSome) = true) : Facts pg (pg.gl K) mg pg.cs where
  defs := fun i d x hd he => by
    refine ⟨?_, ?_⟩
    · rw [Pg.gl_at hd, he]
      refine He.glo_ok X Gm (He.SaysD.facts c (f := .glo x) ?_)
      refine List.mem_append_left _ (List.mem_append_left _ (List.mem_map.mpr ⟨d, List.mem_of_getElem? hd, by rw [he]⟩))
    · obtain ⟨fd, F⟩ := Pg.fun_ c i d hd
      exact F.kp
  free := fun x hx => He.free_ok X Gm (He.SaysD.facts c (f := .free x) (List.mem_append_left _ (List.mem_append_right _ (List.mem_map.mpr ⟨x, hx, rfl⟩))))
  consts := fun i p hp => by
    have e : pg.cs i = p.2 := by unfold Pg.cs; rw [hp]
    refine ⟨e, ?_⟩
    have hm := List.mem_of_getElem? hp
    have h1 := List.all_eq_true.mp hc p hm
    cases q : constFa p with
    | none => rw [q] at h1; cases h1
    | some f =>
      have hfa : f.ok K = true := He.SaysD.facts c (List.mem_append_right _ (List.mem_filterMap.mpr ⟨p, hm, q⟩))
      obtain ⟨x, d⟩ := p
      unfold constFa at q
      cases d with
      | int n =>
        cases q
        obtain ⟨t, ht⟩ := He.int_ok X Gm hfa
        exact ⟨.int n, _, ht, ⟨t, rfl⟩, fun H S φ => by unfold Rep; rfl⟩
      | str z =>
        cases q
        obtain ⟨t, ht⟩ := He.str_ok X Gm hfa
        exact ⟨.str z, _, ht, ⟨t, rfl⟩, fun H S φ => by unfold Rep; rfl⟩
      | _ => cases q
theorem ints_repL {G : Gl} {H : Hp} {S : Addr → Prop} {φ : List Addr} : ∀ ns : List Int, RepL G H S φ (ns.map D.int) (ns.map V.int)
  | [] => .nil
  | n :: r => .cons (by unfold Rep; rfl) (ints_repL r)
/-- the law's promise holds at the entry -/
theorem law_sp {pg : Pg} {K : PySem.W.Frag} {k i : Nat} {ns : List Int} (hrun : ∃ st, pg.run k i [.lst (ns.map D.int)] [] = .ok (.bl true) st) {H : Hp} {a : Addr} (hS : SqL K H a (ns.map V.int)) :
    spOf (pg.gl K) (pg.run k i) [.ref a] H (fun v _ => v = .bl true) fun _ _ _ => False := by
  obtain ⟨st, e⟩ := hrun
  refine ⟨fun _ => False, [], [], [.lst (ns.map D.int)], ⟨rfl, List.nodup_nil, (fun a h => nomatch h), (fun a h => False.elim h), fun n a mo h => by simp at h⟩, .cons (RepV.of ?_) .nil, ?_⟩
  · unfold Rep
    exact ⟨a, ns.map V.int, rfl, hS.imp (fun z => ⟨z, fun h => h⟩) id, ints_repL ns⟩
  · rw [e]
    intro Mt' φ' H' v _ _ r
    exact repBl r
/-- a law's end: exceptions may depend on the world -/
theorem walk_w {l : PySem.W.OpenLaw} {n k : Nat} {q : Program} {loose : List Str} {XP : (Str → Option Value) → Heap → Prop} {YP : World → Heap → Prop} {d : DefRec} {CX : World → CXT} {x : Str}
    (hn : l.most = some n) (hn2 : n ≤ sizeLine) (hdf : d.params.defaults = []) (hr : Room k callerA)
    (F : ∀ (w : World) (mg : Str → Option Value) (fa : Addr) (h : Heap), YP w h → h.Ns mainGlobals mg → mg d.name = some (.ref fa) →
      ∃ (K : PySem.W.Frag) (fd : FuncData) (sp : Sp), K.In h ∧ (∀ (s : Shared) (u : Value), BindsTo s fd ⟨[u], []⟩ [(x, u)]) ∧
        (∀ (H : Hp) (a : Addr) (ns : List Int), ns.length ≤ n → Only H → SqL K H a (ns.map V.int) → sp [.ref a] H (fun v _ => v = .bl true) fun _ _ _ => False) ∧
        ∀ base : Heap, K.In base → base.Ns mainGlobals mg → FnOk l.prog w K mg base (CX w) k fa fd [x] sp)
    (hCX : ∀ (w : World) (H : Hp) (s : Shared) (e : Value) (s' : Shared), CX w [] H s (fun _ _ _ => False) e s' → False) :
    PySem.W.WalkO q loose XP YP l.row.toRowW d [] (fun f vs => PySem.call f vs) := by
  refine Att.attach_call hn hdf fun w s₀ s₁ mg mb fa o pm cd doc a vs ns G Y ho hd hcd hmg hobj hints hlen hg => ?_
  obtain ⟨K, fd, sp, KX, hb, hsp, hF⟩ := F w mg fa _ Y G.T.g hmg
  exact law_call KX G.T.g G.T.b G.T.builtins G.T.nolimit hg hobj hints (Nat.le_trans hlen hn2) hr hF hb (fun H hO hS => hsp H a ns hlen hO hS) fun H e s' => hCX w H s₁ e s'
theorem cx_none {P : Program} (w : World) (H : Hp) (s : Shared) (e : Value) (s' : Shared) (h : L2.CX P w [] H s (fun _ _ _ => False) e s') : False := by
  obtain ⟨_, _, _, _, _, _, _, _, _, _, _, _, z⟩ := h
  exact z
end DL

set_option Elab.async false
set_option linter.all false
set_option maxRecDepth 100000
set_option maxHeartbeats 4000000
/-! running programs symbolically: simp lemmas, the dice -/
namespace DL
open PySem PySem.Spec L2

/-! what goes on, by name: simp looks at it only when it is reached -/
@[simp] def kBin2 (op : Operator) (x y : D) (st : Store) : R D := ofO (binD op x y st) st
@[simp] def kBin (Γ : Fns) (op : Operator) (b : I) (ρ : Env) (x : D) (st : Store) : R D := ((den Γ b).e ρ st).bind (kBin2 op x)
@[simp] def kCmp2 (op : CmpOp) (x y : D) (st : Store) : R D := ofO ((cmpD op x y st).map D.bl) st
@[simp] def kCmp (Γ : Fns) (op : CmpOp) (b : I) (ρ : Env) (x : D) (st : Store) : R D := ((den Γ b).e ρ st).bind (kCmp2 op x)
@[simp] def kCh3 (Γ : Fns) (op' : CmpOp) (c : I) (ρ : Env) (y : D) (r : Bool) (st : Store) : R D := if r then ((den Γ c).e ρ st).bind (kCmp2 op' y) else .ok (.bl false) st
@[simp] def kCh2 (Γ : Fns) (op op' : CmpOp) (c : I) (ρ : Env) (x y : D) (st : Store) : R D := (ofO (cmpD op x y st) st).bind (kCh3 Γ op' c ρ y)
@[simp] def kCh (Γ : Fns) (op op' : CmpOp) (b c : I) (ρ : Env) (x : D) (st : Store) : R D := ((den Γ b).e ρ st).bind (kCh2 Γ op op' c ρ x)
@[simp] def kIfe (Γ : Fns) (a b : I) (ρ : Env) (k : Bool) (st : Store) : R D := if k then (den Γ a).e ρ st else (den Γ b).e ρ st
@[simp] def kAndT (Γ : Fns) (b : I) (ρ : Env) (k : Bool) (st : Store) : R Bool := if k then (den Γ b).t ρ st else .ok false st
@[simp] def kOrT (Γ : Fns) (b : I) (ρ : Env) (k : Bool) (st : Store) : R Bool := if k then .ok true st else (den Γ b).t ρ st
def kAnd (Γ : Fns) (b : I) (ρ : Env) (x : D) (st : Store) : R D := match x with | .bl true => (den Γ b).e ρ st | .bl false => .ok (.bl false) st | _ => .stuck
def kOr (Γ : Fns) (b : I) (ρ : Env) (x : D) (st : Store) : R D := match x with | .bl false => (den Γ b).e ρ st | .bl true => .ok (.bl true) st | _ => .stuck
@[simp] theorem kAnd_bl (Γ : Fns) (b : I) (ρ : Env) (k : Bool) (st : Store) : kAnd Γ b ρ (.bl k) st = if k then (den Γ b).e ρ st else .ok (.bl false) st := by cases k <;> rfl
@[simp] theorem kOr_bl (Γ : Fns) (b : I) (ρ : Env) (k : Bool) (st : Store) : kOr Γ b ρ (.bl k) st = if k then .ok (.bl true) st else (den Γ b).e ρ st := by cases k <;> rfl
@[simp] def kIx2 (x y : D) (st : Store) : R D := ofO (ixD x y st) st
@[simp] def kIx (Γ : Fns) (b : I) (ρ : Env) (x : D) (st : Store) : R D := ((den Γ b).e ρ st).bind (kIx2 x)
@[simp] def kCons2 (x : D) (xs : List D) (st : Store) : R (List D) := .ok (x :: xs) st
@[simp] def kCons (Γ : Fns) (b : I) (ρ : Env) (x : D) (st : Store) : R (List D) := ((den Γ b).l ρ st).bind (kCons2 x)
@[simp] def kGs (Γ : Fns) (b : I) (r : List D) (ρ' : Env) (st : Store) : R Env := (den Γ b).gs r ρ' st
@[simp] def kNx (ρ' : Env) (st : Store) : R Fl := .ok (.nx ρ') st
def kSeq (Γ : Fns) (b : I) (f : Fl) (st : Store) : R Fl := match f with
  | .nx ρ' => (den Γ b).s ρ' st
  | f => .ok f st
@[simp] theorem kSeq_nx (Γ : Fns) (b : I) (ρ : Env) (st : Store) : kSeq Γ b (.nx ρ) st = (den Γ b).s ρ st := rfl
@[simp] theorem kSeq_bk (Γ : Fns) (b : I) (ρ : Env) (st : Store) : kSeq Γ b (.bk ρ) st = .ok (.bk ρ) st := rfl
@[simp] theorem kSeq_ct (Γ : Fns) (b : I) (ρ : Env) (st : Store) : kSeq Γ b (.ct ρ) st = .ok (.ct ρ) st := rfl
@[simp] theorem kSeq_rt (Γ : Fns) (b : I) (d : D) (st : Store) : kSeq Γ b (.rt d) st = .ok (.rt d) st := rfl
@[simp] def kIf (Γ : Fns) (a b : I) (ρ : Env) (k : Bool) (st : Store) : R Fl := if k then (den Γ a).s ρ st else (den Γ b).s ρ st
@[simp] def kAsg (Γ : Fns) (a : I) (ρ : Env) (x : D) (st : Store) : R Fl := ((den Γ a).g x ρ st).bind kNx
@[simp] def kAug3 (i : Nat) (ρ : Env) (z : D) (st : Store) : R Fl := if z.strict then .ok (.nx (ρ.set i (.val z))) st else .stuck
@[simp] def kAug2 (op : Operator) (i : Nat) (ρ : Env) (x y : D) (st : Store) : R Fl := (ofO (iopD op x y st) st).bind (kAug3 i ρ)
@[simp] def kAug (Γ : Fns) (op : Operator) (i : Nat) (a : I) (ρ : Env) (x : D) (st : Store) : R Fl := ((den Γ a).e ρ st).bind (kAug2 op i ρ x)
@[simp] def kPar2b (i j : Nat) (ρ : Env) (u v : D) (st : Store) : R Fl := if u.strict && v.strict then .ok (.nx ((ρ.set i (.val u)).set j (.val v))) st else .stuck
@[simp] def kPar2 (Γ : Fns) (i j : Nat) (b : I) (ρ : Env) (u : D) (st : Store) : R Fl := ((den Γ b).e ρ st).bind (kPar2b i j ρ u)
@[simp] def kPar3c (i j k : Nat) (ρ : Env) (u v w : D) (st : Store) : R Fl := if u.strict && v.strict && w.strict then .ok (.nx (((ρ.set k (.val w)).set j (.val v)).set i (.val u))) st else .stuck
@[simp] def kPar3b (Γ : Fns) (i j k : Nat) (c : I) (ρ : Env) (u v : D) (st : Store) : R Fl := ((den Γ c).e ρ st).bind (kPar3c i j k ρ u v)
@[simp] def kPar3 (Γ : Fns) (i j k : Nat) (b c : I) (ρ : Env) (u : D) (st : Store) : R Fl := ((den Γ b).e ρ st).bind (kPar3b Γ i j k c ρ u)
/-- a for's turn -/
def forB (Γ : Fns) (tg b : I) : D → Env → Store → R Fl := fun x ρ st => ((den Γ tg).g x ρ st).bind fun ρ' st => (den Γ b).s ρ' st
@[simp] def kFor (Γ : Fns) (a c : I) (ρ : Env) (xs : List D) (st : Store) : R Fl := forD (forB Γ a c) xs ρ st
section
variable (Γ : Fns) (ρ : Env) (st : Store) (a b c : I) (i : Nat) (n : Int)
@[simp] theorem e_var : (den Γ (.var i)).e ρ st = ofO (getV ρ i) st := by
  show (match getV ρ i with | some d => R.ok d st | none => .stuck) = _
  cases getV ρ i <;> rfl
@[simp] theorem e_int : (den Γ (.int n)).e ρ st = .ok (.int n) st := rfl
@[simp] theorem e_str (s : Str) : (den Γ (.str s)).e ρ st = .ok (.str s) st := rfl
@[simp] theorem e_bool (s : Bool) : (den Γ (.bool s)).e ρ st = .ok (.bl s) st := rfl
@[simp] theorem e_none : (den Γ .none).e ρ st = .ok .non st := rfl
@[simp] theorem e_glob : (den Γ (.glob i)).e ρ st = .ok (Γ.c i) st := rfl
@[simp] theorem e_bin (op) : (den Γ (.bin op a b)).e ρ st = ((den Γ a).e ρ st).bind (kBin Γ op b ρ) := rfl
@[simp] theorem e_neg : (den Γ (.neg a)).e ρ st = ((den Γ a).e ρ st).bind fun x st => ofO (negD x) st := rfl
@[simp] theorem e_cmp (op) : (den Γ (.cmp op a b)).e ρ st = ((den Γ a).e ρ st).bind (kCmp Γ op b ρ) := rfl
@[simp] theorem e_chain (op op') : (den Γ (.chain op op' a b c)).e ρ st = ((den Γ a).e ρ st).bind (kCh Γ op op' b c ρ) := rfl
/-- a bool goes on -/
def bNot (x : D) (st : Store) : R D := match x with | .bl k => .ok (.bl (!k)) st | _ => .stuck
@[simp] theorem bNot_bl (k : Bool) : bNot (.bl k) st = .ok (.bl (!k)) st := rfl
@[simp] theorem e_and : (den Γ (.and_ a b)).e ρ st = ((den Γ a).e ρ st).bind (kAnd Γ b ρ) := rfl
@[simp] theorem e_or : (den Γ (.or_ a b)).e ρ st = ((den Γ a).e ρ st).bind (kOr Γ b ρ) := rfl
@[simp] theorem e_not : (den Γ (.not_ a)).e ρ st = ((den Γ a).e ρ st).bind fun x st => bNot x st := by
  show R.bind _ _ = _
  congr 1
@[simp] theorem t_and : (den Γ (.and_ a b)).t ρ st = ((den Γ a).t ρ st).bind (kAndT Γ b ρ) := rfl
@[simp] theorem t_or : (den Γ (.or_ a b)).t ρ st = ((den Γ a).t ρ st).bind (kOrT Γ b ρ) := rfl
@[simp] theorem t_not : (den Γ (.not_ a)).t ρ st = ((den Γ a).t ρ st).bind fun k st => .ok (!k) st := rfl
@[simp] theorem e_ife : (den Γ (.ife c a b)).e ρ st = ((den Γ c).t ρ st).bind (kIfe Γ a b ρ) := rfl
@[simp] theorem e_call : (den Γ (.call i a)).e ρ st = ((den Γ a).l ρ st).bind fun xs st => Γ.f i xs st := rfl
@[simp] theorem e_blt (k) : (den Γ (.blt k a)).e ρ st = ((den Γ a).l ρ st).bind fun xs st => ofO (bltD k xs st) st := rfl
@[simp] theorem e_isin (t) : (den Γ (.isin a t)).e ρ st = ((den Γ a).e ρ st).bind fun x st => ofO ((isinD st x t).map D.bl) st := rfl
@[simp] theorem e_ix : (den Γ (.ix a b)).e ρ st = ((den Γ a).e ρ st).bind (kIx Γ b ρ) := rfl
@[simp] theorem e_tup : (den Γ (.tup a)).e ρ st = ((den Γ a).l ρ st).bind fun xs st => if xs.all D.strict && decide (xs.length ≤ sizeLine) then .ok (.tup xs) st else .stuck := rfl
@[simp] theorem e_lst : (den Γ (.lst false a)).e ρ st = ((den Γ a).l ρ st).bind fun xs st => if xs.all D.strict && decide (xs.length ≤ sizeLine) then .ok (.lst xs) st else .stuck := rfl
@[simp] theorem e_lstT : (den Γ (.lst true a)).e ρ st = ((den Γ a).l ρ st).bind fun xs st => if xs.all D.strict && decide (xs.length ≤ sizeLine) then .ok (.ref st.length) (st ++ [.ml xs]) else .stuck := rfl
@[simp] theorem e_lc (own elt tg it ifs) : (den Γ (.lc own elt tg it ifs)).e ρ st = lcE (den Γ it).it (den Γ tg).g (den Γ ifs).t (den Γ elt).e (own.map (·.2)) ρ st := rfl
-- truths by values
@[simp] theorem t_var : (den Γ (.var i)).t ρ st = ((den Γ (.var i)).e ρ st).bind truR := rfl
@[simp] theorem t_bool (s : Bool) : (den Γ (.bool s)).t ρ st = ((den Γ (.bool s)).e ρ st).bind truR := rfl
@[simp] theorem t_cmp (op) : (den Γ (.cmp op a b)).t ρ st = ((den Γ (.cmp op a b)).e ρ st).bind truR := rfl
@[simp] theorem t_chain (op op') : (den Γ (.chain op op' a b c)).t ρ st = ((den Γ (.chain op op' a b c)).e ρ st).bind truR := rfl
@[simp] theorem t_call : (den Γ (.call i a)).t ρ st = ((den Γ (.call i a)).e ρ st).bind truR := rfl
@[simp] theorem t_blt (k) : (den Γ (.blt k a)).t ρ st = ((den Γ (.blt k a)).e ρ st).bind truR := rfl
@[simp] theorem t_isin (t) : (den Γ (.isin a t)).t ρ st = ((den Γ (.isin a t)).e ρ st).bind truR := rfl
@[simp] theorem t_ix : (den Γ (.ix a b)).t ρ st = ((den Γ (.ix a b)).e ρ st).bind truR := rfl
@[simp] theorem t_nil : (den Γ .nil).t ρ st = .ok true st := rfl
@[simp] theorem truR_bl (k : Bool) : truR (.bl k) st = .ok k st := rfl
-- rows
@[simp] theorem l_nil : (den Γ .nil).l ρ st = .ok [] st := rfl
@[simp] theorem l_cons : (den Γ (.cons a b)).l ρ st = ((den Γ a).e ρ st).bind (kCons Γ b ρ) := rfl
-- targets
@[simp] theorem g_tvar (d) : (den Γ (.tvar i)).g d ρ st = if d.strict then .ok (ρ.set i (.val d)) st else .stuck := rfl
@[simp] theorem gs_nil : (den Γ .nil).gs [] ρ st = .ok ρ st := rfl
@[simp] theorem gs_cons (d r) : (den Γ (.cons a b)).gs (d :: r) ρ st = ((den Γ a).g d ρ st).bind (kGs Γ b r) := rfl
@[simp] theorem g_ttup (k ds) : (den Γ (.ttup k a)).g (.tup ds) ρ st = if ds.length = k then (den Γ a).gs ds ρ st else .stuck := rfl
def tixR (x y d : D) (ρ : Env) (st : Store) : R Env := match x, y with
  | .ref n, .int k => match st[n]? with
    | some (.ml ds) => match ixN ds.length k with
      | some j => if d.strict then .ok ρ (st.set n (.ml (ds.set j d))) else .stuck
      | none => .stuck
    | _ => .stuck
  | _, _ => .stuck
@[simp] theorem g_tix (d) : (den Γ (.tix a b)).g d ρ st = ((den Γ a).e ρ st).bind fun x st => ((den Γ b).e ρ st).bind fun y st => tixR x y d ρ st := rfl
-- walked
@[simp] theorem it_rng1 : (den Γ (.rng1 a)).it ρ st = ((den Γ a).e ρ st).bind fun x st => ofO (rng1O x) st := rfl
@[simp] theorem it_rng2 : (den Γ (.rng2 a b)).it ρ st = ((den Γ a).e ρ st).bind fun x st => ((den Γ b).e ρ st).bind fun y st => ofO (rng2O x y) st := rfl
@[simp] theorem it_walk : (den Γ (.walk a)).it ρ st = ((den Γ a).e ρ st).bind fun x st => ofO (walkO x) st := rfl
-- statements
@[simp] theorem s_nil : (den Γ .nil).s ρ st = .ok (.nx ρ) st := rfl
@[simp] theorem s_cons : (den Γ (.cons a b)).s ρ st = ((den Γ a).s ρ st).bind (kSeq Γ b) := rfl
@[simp] theorem s_pass : (den Γ .pass).s ρ st = .ok (.nx ρ) st := rfl
@[simp] theorem s_expr : (den Γ (.expr a)).s ρ st = ((den Γ a).e ρ st).bind fun _ st => .ok (.nx ρ) st := rfl
@[simp] theorem s_ret : (den Γ (.ret a)).s ρ st = ((den Γ a).e ρ st).bind fun x st => if x.strict then .ok (.rt x) st else .stuck := rfl
@[simp] theorem s_retn : (den Γ .retn).s ρ st = .ok (.rt .non) st := rfl
@[simp] theorem s_asg : (den Γ (.asg a b)).s ρ st = ((den Γ b).e ρ st).bind (kAsg Γ a ρ) := rfl
@[simp] theorem s_aug (op) : (den Γ (.aug i op a)).s ρ st = (ofO (getV ρ i) st).bind (kAug Γ op i a ρ) := by
  show (match getV ρ i with | some x => _ | none => _) = _
  cases getV ρ i <;> rfl
@[simp] theorem s_par2 (j) : (den Γ (.par2 i j a b)).s ρ st = ((den Γ a).e ρ st).bind (kPar2 Γ i j b ρ) := rfl
@[simp] theorem s_par3 (j k) : (den Γ (.par3 i j k a b c)).s ρ st = ((den Γ a).e ρ st).bind (kPar3 Γ i j k b c ρ) := rfl
@[simp] theorem s_parC : (den Γ (.parC a b)).s ρ st = ((den Γ a).e ρ st).bind (kAsg Γ b ρ) := rfl
@[simp] theorem s_if : (den Γ (.if_ c a b)).s ρ st = ((den Γ c).t ρ st).bind (kIf Γ a b ρ) := rfl
@[simp] theorem s_while (k) : (den Γ (.while_ k c b)).s ρ st = whileD (den Γ c).t (den Γ b).s k ρ st := rfl
@[simp] theorem s_for : (den Γ (.for_ a b c)).s ρ st = ((den Γ b).it ρ st).bind (kFor Γ a c ρ) := rfl
@[simp] theorem s_brk : (den Γ .brk).s ρ st = .ok (.bk ρ) st := rfl
@[simp] theorem s_cont : (den Γ .cont).s ρ st = .ok (.ct ρ) st := rfl
end

section
variable (st : Store) (i j : Int)
@[simp] theorem bin_add : binD .Add (.int i) (.int j) st = some (.int (i + j)) := rfl
@[simp] theorem bin_sub : binD .Sub (.int i) (.int j) st = some (.int (i - j)) := rfl
theorem bits_lt {i : Int} {n : Nat} (h : i.natAbs < 2 ^ n) : bitsI i ≤ n := by
  unfold bitsI
  by_cases z : i.natAbs = 0
  · rw [z]; simp
  · have := (Nat.log2_lt z).mpr h
    omega
/-- small enough for any product -/
def Sm (i : Int) : Prop := i.natAbs < 2 ^ 255
theorem Sm.of {i : Int} (h1 : -(2 ^ 250) ≤ i) (h2 : i ≤ 2 ^ 250) : Sm i := by
  unfold Sm
  omega
theorem bin_mul {i j : Int} (hi : Sm i) (hj : Sm j) : binD .Mult (.int i) (.int j) st = some (.int (i * j)) := by
  show (if _ then _ else _) = _
  rw [if_pos]
  have := bits_lt hi
  have := bits_lt hj
  omega
theorem bin_div {i j : Int} (h : 0 < j) (hj : Sm j) : binD .FloorDiv (.int i) (.int j) st = some (.int (i / j)) := by
  show (if _ then _ else _) = _
  rw [if_pos]
  have := bits_lt hj
  exact ⟨h, by omega⟩
theorem bin_mod {i j : Int} (h : 0 < j) : binD .Mod (.int i) (.int j) st = some (.int (i % j)) := by
  show (if _ then _ else _) = _
  rw [if_pos h]
@[simp] theorem iop_add : iopD .Add (.int i) (.int j) st = some (.int (i + j)) := rfl
@[simp] theorem iop_sub : iopD .Sub (.int i) (.int j) st = some (.int (i - j)) := rfl
@[simp] theorem neg_int : negD (.int i) = some (.int (-i)) := rfl
@[simp] theorem cmp_lt : cmpD .Lt (.int i) (.int j) st = some (decide (i < j)) := rfl
@[simp] theorem cmp_le : cmpD .LtE (.int i) (.int j) st = some (decide (i ≤ j)) := rfl
@[simp] theorem cmp_gt : cmpD .Gt (.int i) (.int j) st = some (decide (j < i)) := rfl
@[simp] theorem cmp_ge : cmpD .GtE (.int i) (.int j) st = some (decide (j ≤ i)) := rfl
@[simp] theorem cmp_eq : cmpD .Eq (.int i) (.int j) st = some (decide (i = j)) := by
  show (if SeqAt.shaped (.int i) && SeqAt.shaped (.int j) then some (PyData.eqv (.int i) (.int j)) else none) = _
  rw [if_pos (by rfl)]
  rfl
@[simp] theorem cmp_ne : cmpD .NotEq (.int i) (.int j) st = some (decide (i ≠ j)) := by
  show (cmpD .Eq (.int i) (.int j) st).map not = _
  rw [cmp_eq]
  simp
@[simp] theorem cmp_is (x : D) : cmpD .Is x .non st = some (isNonD x) := rfl
@[simp] theorem cmp_isn (x : D) : cmpD .IsNot x .non st = some (!isNonD x) := rfl
@[simp] theorem isNon_non : isNonD .non = true := rfl
@[simp] theorem isNon_int : isNonD (.int i) = false := rfl
@[simp] theorem isNon_str (s : Str) : isNonD (.str s) = false := rfl
@[simp] theorem strict_int : D.strict (.int i) = true := rfl
@[simp] theorem strict_bl (k : Bool) : D.strict (.bl k) = true := rfl
@[simp] theorem strict_non : D.strict .non = true := rfl
@[simp] theorem strict_str (s : Str) : D.strict (.str s) = true := rfl
@[simp] theorem strict_ref (k : Nat) : D.strict (.ref k) = true := rfl
@[simp] theorem strict_lst (ds : List D) : D.strict (.lst ds) = true := rfl
@[simp] theorem strict_tup (ds : List D) : D.strict (.tup ds) = true := rfl
@[simp] theorem blt_abs : bltD .abs [.int i] st = some (.int (if i < 0 then -i else i)) := rfl
@[simp] theorem blt_int : bltD .int [.int i] st = some (.int i) := rfl
@[simp] theorem blt_intb (k : Bool) : bltD .int [.bl k] st = some (.int (if k then 1 else 0)) := rfl
@[simp] theorem blt_max : bltD .max [.int i, .int j] st = some (.int (if j > i then j else i)) := rfl
@[simp] theorem blt_min : bltD .min [.int i, .int j] st = some (.int (if j < i then j else i)) := rfl
@[simp] theorem blt_len (ds : List D) : bltD .len [.lst ds] st = some (.int ds.length) := rfl
@[simp] theorem blt_lent (ds : List D) : bltD .len [.tup ds] st = some (.int ds.length) := rfl
@[simp] theorem isin_int_int : isinD st (.int i) .int = some true := rfl
@[simp] theorem isin_int_bool : isinD st (.int i) .bool = some false := rfl
@[simp] theorem isin_int_str : isinD st (.int i) .str = some false := rfl
@[simp] theorem ix_lst (ds : List D) : ixD (.lst ds) (.int i) st = atI ds i := rfl
@[simp] theorem ix_tup (ds : List D) : ixD (.tup ds) (.int i) st = atI ds i := rfl
theorem atI_nat {α : Type} (xs : List α) {i : Int} (h : 0 ≤ i) (h2 : i < xs.length) : atI xs i = xs[i.toNat]? := by
  unfold atI ixN
  rw [if_pos h, if_pos h2]
  rfl
end
theorem getV_0 (s : Slot) (r : Env) : getV (s :: r) 0 = match s with | .val d => some d | .own (.ml ds) => some (.vl ds) | _ => none := by
  unfold getV
  simp
  cases s with
  | un => rfl
  | val d => rfl
  | own m => cases m; rfl
@[simp] theorem getV_v0 (d : D) (r : Env) : getV (.val d :: r) 0 = some d := rfl
@[simp] theorem getV_S (s : Slot) (r : Env) (i : Nat) : getV (s :: r) (i + 1) = getV r i := by
  unfold getV
  simp
theorem run_S (P : List Df) (C : Nat → D) (k i : Nat) (xs : List D) (st : Store) : DL.run P C (k + 1) i xs st = match P[i]? with
  | some d => d.run ⟨DL.run P C k, C⟩ xs st
  | none => .stuck := rfl
/-- how a def's body ends -/
def endR (f : Fl) (st : Store) : R D := match f with
  | .nx _ => .ok .non st
  | .rt d => .ok d st
  | _ => .stuck
@[simp] theorem endR_nx (ρ : Env) (st : Store) : endR (.nx ρ) st = .ok .non st := rfl
@[simp] theorem endR_rt (d : D) (st : Store) : endR (.rt d) st = .ok d st := rfl
theorem Df.run_ok (Γ : Fns) (n ps : Nat) (b : I) (xs : List D) (st : Store) (h : xs.length = ps) : Df.run Γ ⟨n, ps, b⟩ xs st = ((den Γ b).s (xs.map Slot.val ++ List.replicate (n - ps) .un) st).bind endR := by
  unfold Df.run
  rw [if_pos h]
  congr 1

@[simp] theorem le_size {n : Nat} (h : n ≤ 1000) : (n ≤ sizeLine) = True := eq_true (Nat.le_trans h (by decide))

/-! ### the dice -/
def diceI : I :=
    (.cons (.asg (.tvar 2) (.ife (.cmp .Lt (.var 1) (.blt .len (.cons (.var 0) .nil))) (.blt .int (.cons (.ix (.var 0) (.var 1)) .nil)) (.bin .Add (.bin .Mult (.int 83) (.var 1)) (.int 57))))
    (.cons (.asg (.tvar 3) (.bin .Mod (.blt .max (.cons (.int 0) (.cons (.bin .Sub (.blt .abs (.cons (.var 2) .nil)) (.bin .Pow (.int 10) (.int 16))) .nil))) (.bin .Mult (.bin .Pow (.int 10) (.int 58)) (.bin .Pow (.int 10) (.int 60)))))
    (.cons (.ret (.lst true (.cons (.var 3) (.cons (.bin .Add (.bin .Add (.bin .Add (.bin .Mult (.bin .Mod (.blt .abs (.cons (.var 2) .nil)) (.int 1152921504606846883)) (.int 97)) (.bin .Mult (.int 1009) (.var 1))) (.bin .Mult (.int 53) (.blt .int (.cons (.cmp .Lt (.var 2) (.int 0)) .nil)))) (.int 29)) (.cons (.int 0) .nil)))))
    .nil)))
def rollI : I :=
    (.cons (.if_ (.cmp .Gt (.ix (.var 0) (.int 0)) (.int 0)) (.cons (.asg (.tvar 2) (.bin .Mod (.blt .int (.cons (.ix (.var 0) (.int 0)) .nil)) (.var 1)))
    (.cons (.asg (.tix (.var 0) (.int 0)) (.bin .FloorDiv (.ix (.var 0) (.int 0)) (.var 1)))
    (.cons (.ret (.var 2))
    .nil))) .nil)
    (.cons (.asg (.tix (.var 0) (.int 2)) (.bin .Add (.ix (.var 0) (.int 2)) (.int 1)))
    (.cons (.asg (.tvar 3) (.bin .Mod (.blt .int (.cons (.bin .Add (.ix (.var 0) (.int 1)) (.bin .Mult (.int 68718953) (.ix (.var 0) (.int 2)))) .nil)) (.int 2305843009213693487)))
    (.cons (.asg (.tvar 4) (.bin .Add (.bin .Mult (.bin .Mod (.blt .int (.cons (.bin .Add (.bin .Mult (.var 3) (.var 3)) (.bin .Mult (.int 83) (.ix (.var 0) (.int 2)))) .nil)) (.int 2305843009213693253)) (.int 7368787)) (.var 3)))
    (.cons (.ret (.bin .Mod (.blt .int (.cons (.bin .FloorDiv (.var 4) (.int 65563)) .nil)) (.var 1)))
    .nil)))))
def pickI (f : Nat) : I :=
    (.cons (.ret (.ix (.var 1) (.call f (.cons (.var 0) (.cons (.blt .len (.cons (.var 1) .nil)) .nil)))))
    .nil)
/-- at r stand dice, with m rolls left to tell of -/
def Dice (m : Nat) (st : Store) (r : Nat) : Prop := ∃ a b c : Int, st[r]? = some (.ml [.int a, .int b, .int c]) ∧ 0 ≤ b ∧ b < 2 ^ 100 ∧ 0 ≤ c ∧ c + m < 2 ^ 200
theorem Dice.mono {m m' : Nat} {st : Store} {r : Nat} (h : Dice m st r) (l : m' ≤ m) : Dice m' st r := by
  obtain ⟨a, b, c, e, h1, h2, h3, h4⟩ := h
  exact ⟨a, b, c, e, h1, h2, h3, by omega⟩

theorem p10 (st : Store) : binD .Pow (.int 10) (.int 16) st = some (.int (10 ^ 16)) ∧ ofO (binD .Pow (.int 10) (.int 58) st) st = .ok (.int (10 ^ 58)) st ∧ ofO (binD .Pow (.int 10) (.int 60) st) st = .ok (.int (10 ^ 60)) st := by
  refine ⟨?_, ?_, ?_⟩ <;> rfl
theorem dice_run (Γ : Fns) (ns : List Int) (i : Int) (h0 : 0 ≤ i) (h1 : i < 2 ^ 20) (st : Store) :
    ∃ st', Df.run Γ ⟨4, 2, diceI⟩ [.lst (ns.map D.int), .int i] st = .ok (.ref st.length) (st ++ st') ∧ st'.length = 1 ∧ Dice (2 ^ 90) (st ++ st') st.length := by
  rw [Df.run_ok Γ 4 2 diceI [.lst (ns.map D.int), .int i] st rfl]
  have cell : ∃ c : Int, (den Γ (.ife (.cmp .Lt (.var 1) (.blt .len (.cons (.var 0) .nil))) (.blt .int (.cons (.ix (.var 0) (.var 1)) .nil)) (.bin .Add (.bin .Mult (.int 83) (.var 1)) (.int 57)))).e [.val (.lst (ns.map D.int)), .val (.int i), .un, .un] st = .ok (.int c) st := by
    by_cases h : i < (ns.length : Int)
    · have hj : i.toNat < ns.length := by omega
      refine ⟨ns[i.toNat], ?_⟩
      have e : atI (ns.map D.int) i = some (.int ns[i.toNat]) := by
        rw [atI_nat _ h0 (by simpa using h)]
        simp [hj]
      simp [h, e]
    · refine ⟨83 * i + 57, ?_⟩
      simp [h, bin_mul (st := st) (i := 83) (j := i) (.of (by decide) (by decide)) (.of (by omega) (by omega))]
  obtain ⟨c, hc⟩ := cell
  have hm : binD .Mult (.int (10 ^ 58)) (.int (10 ^ 60)) st = some (.int (10 ^ 58 * 10 ^ 60)) := bin_mul st (.of (by decide) (by decide)) (.of (by decide) (by decide))
  generalize hA : (if c < 0 then -c else c) = A
  have hA0 : 0 ≤ A := by rw [← hA]; split <;> omega
  generalize hM : (if 10 ^ 16 < A then A - 10 ^ 16 else 0) = M
  generalize hL : M % (10 ^ 58 * 10 ^ 60) = L
  generalize hB : A % 1152921504606846883 = B
  have hB1 : 0 ≤ B ∧ B < 1152921504606846883 := by
    rw [← hB]
    exact ⟨Int.emod_nonneg _ (by decide), Int.emod_lt_of_pos _ (by decide)⟩
  generalize hN : (if c < 0 then (1 : Int) else 0) = N
  have hN1 : 0 ≤ N ∧ N ≤ 1 := by
    rw [← hN]
    split <;> omega
  have hmod : binD .Mod (.int M) (.int (10 ^ 58 * 10 ^ 60)) st = some (.int L) := by rw [bin_mod st (by decide), hL]
  refine ⟨[.ml [.int L, .int (B * 97 + 1009 * i + 53 * N + 29), .int 0]], ?_, rfl, L, B * 97 + 1009 * i + 53 * N + 29, 0, by simp, by omega, by omega, by omega, by decide⟩
  unfold diceI
  simp only [List.map_cons, List.map_nil, s_cons, s_asg, List.replicate, List.cons_append, List.nil_append]
  rw [hc]
  simp [-Int.reducePow, -Int.reduceMul, hmod, (p10 st).1, (p10 st).2.1, (p10 st).2.2, hm, hA, hB, bin_mod, bin_mul (st := st) (i := B) (j := 97) (.of (by omega) (by omega)) (.of (by decide) (by decide)), bin_mul (st := st) (i := 1009) (j := i) (.of (by decide) (by decide)) (.of (by omega) (by omega)),
    bin_mul (st := st) (i := 53) (j := N) (.of (by decide) (by decide)) (.of (by omega) (by omega)), hN, hM, hL]
/-- a roll gives a number under m -/
theorem roll_run (Γ : Fns) (st : Store) (r k : Nat) (m : Int) (h0 : 0 < m) (h1 : m < 2 ^ 200) (h : Dice (k + 1) st r) :
    ∃ (st' : Store) (x : Int), Df.run Γ ⟨5, 2, rollI⟩ [.ref r, .int m] st = .ok (.int x) st' ∧ 0 ≤ x ∧ x < m ∧ Dice k st' r ∧ st'.length = st.length ∧ ∀ j, j ≠ r → st'[j]? = st[j]? := by
  rw [Df.run_ok Γ 5 2 rollI [.ref r, .int m] st rfl]
  obtain ⟨a, b, c, e, b0, b1, c0, c1⟩ := h
  have hr : r < st.length := by
    rcases Nat.lt_or_ge r st.length with h | h
    · exact h
    · rw [List.getElem?_eq_none h] at e; cases e
  by_cases ha : 0 < a
  · refine ⟨st.set r (.ml [.int (a / m), .int b, .int c]), a % m, ?_, Int.emod_nonneg _ (by omega), Int.emod_lt_of_pos _ h0, ⟨a / m, b, c, by simp [hr], b0, b1, c0, by omega⟩, by simp, fun j hj => by simp [List.getElem?_set, Ne.symm hj]⟩
    unfold rollI
    simp [ixD, seqOf, e, ha, bin_mod (st := st) (i := a) h0, bin_div (st := st) (i := a) h0 (.of (by omega) (by omega)), atI, ixN, tixR]
  · have hst2 : (st.set r (.ml [.int a, .int b, .int (c + 1)]))[r]? = some (.ml [.int a, .int b, .int (c + 1)]) := by simp [hr]
    generalize hs : st.set r (.ml [.int a, .int b, .int (c + 1)]) = st2
    rw [hs] at hst2
    generalize hx : (b + 68718953 * (c + 1)) % 2305843009213693487 = x
    have x1 : 0 ≤ x ∧ x < 2305843009213693487 := by
      rw [← hx]
      exact ⟨Int.emod_nonneg _ (by decide), Int.emod_lt_of_pos _ (by decide)⟩
    generalize hy : (x * x + 83 * (c + 1)) % 2305843009213693253 = y
    have y1 : 0 ≤ y ∧ y < 2305843009213693253 := by
      rw [← hy]
      exact ⟨Int.emod_nonneg _ (by decide), Int.emod_lt_of_pos _ (by decide)⟩
    have m1 := bin_mul st2 (i := 68718953) (j := c + 1) (.of (by decide) (by decide)) (.of (by omega) (by omega))
    have m2 := bin_mul st2 (i := x) (j := x) (.of (by omega) (by omega)) (.of (by omega) (by omega))
    have m3 := bin_mul st2 (i := 83) (j := c + 1) (.of (by decide) (by decide)) (.of (by omega) (by omega))
    have m4 := bin_mul st2 (i := y) (j := 7368787) (.of (by omega) (by omega)) (.of (by decide) (by decide))
    have m5 := bin_div st2 (i := y * 7368787 + x) (j := 65563) (by decide) (.of (by decide) (by decide))
    have m6 : ∀ i, binD .Mod (.int i) (.int m) st2 = some (.int (i % m)) := fun i => bin_mod st2 h0
    have m7 : binD .Mod (.int (b + 68718953 * (c + 1))) (.int 2305843009213693487) st2 = some (.int x) := by rw [bin_mod st2 (by decide), hx]
    have m8 : binD .Mod (.int (x * x + 83 * (c + 1))) (.int 2305843009213693253) st2 = some (.int y) := by rw [bin_mod st2 (by decide), hy]
    refine ⟨st2, (y * 7368787 + x) / 65563 % m, ?_, Int.emod_nonneg _ (by omega), Int.emod_lt_of_pos _ h0, ⟨a, b, c + 1, hst2, b0, b1, by omega, by omega⟩, by rw [← hs]; simp, fun j hj => by rw [← hs]; simp [List.getElem?_set, Ne.symm hj]⟩
    unfold rollI
    simp [ixD, seqOf, e, ha, atI, ixN, tixR, hs, hst2, m1, m2, m3, m4, m5, m6, m7, m8]
end DL
namespace DL
/-! ### loops by invariants -/
/-- I n: with n turns left -/
theorem for_ok {body : D → Env → Store → R Fl} (I : Nat → Env → Store → Prop) : ∀ {xs : List D} {ρ : Env} {st : Store}, I xs.length ρ st →
    (∀ x ∈ xs, ∀ n ρ st, I (n + 1) ρ st → ∃ ρ' st', body x ρ st = .ok (.nx ρ') st' ∧ I n ρ' st') → ∃ ρ' st', forD body xs ρ st = .ok (.nx ρ') st' ∧ I 0 ρ' st'
  | [], ρ, st, h, _ => ⟨ρ, st, rfl, h⟩
  | x :: xs, ρ, st, h, hb => by
    obtain ⟨ρ1, st1, e, h1⟩ := hb x (by simp) xs.length ρ st h
    obtain ⟨ρ2, st2, e2, h2⟩ := for_ok I (xs := xs) h1 fun y hy => hb y (by simp [hy])
    refine ⟨ρ2, st2, ?_, h2⟩
    unfold forD
    rw [e]
    exact e2
/-- I i: at the i-th turn -/
theorem for_rng {body : D → Env → Store → R Fl} (I : Nat → Env → Store → Prop) (n : Nat) {ρ : Env} {st : Store} (h : I 0 ρ st)
    (hb : ∀ i, i < n → ∀ ρ st, I i ρ st → ∃ ρ' st', body (.int i) ρ st = .ok (.nx ρ') st' ∧ I (i + 1) ρ' st') : ∃ ρ' st', forD body (rngD 0 n) ρ st = .ok (.nx ρ') st' ∧ I n ρ' st' := by
  have key : ∀ (l : List Nat) (i : Nat) (ρ : Env) (st : Store), l = (List.range n).drop i → i ≤ n → I i ρ st → ∃ ρ' st', forD body (l.map fun (i : Nat) => D.int (0 + (i : Int))) ρ st = .ok (.nx ρ') st' ∧ I n ρ' st' := by
    intro l
    induction l with
    | nil =>
      intro i ρ st e hi h
      have : n ≤ i := by
        have := congrArg List.length e
        simp at this
        omega
      have : i = n := by omega
      subst this
      exact ⟨ρ, st, rfl, h⟩
    | cons x xs ih =>
      intro i ρ st e hi h
      have hin : i < n := by
        have := congrArg List.length e
        simp at this
        omega
      rw [List.drop_eq_getElem_cons (by simpa using hin)] at e
      obtain ⟨e1, e2⟩ := List.cons.inj e
      simp at e1
      subst e1
      obtain ⟨ρ1, st1, b1, h1⟩ := hb x hin ρ st h
      obtain ⟨ρ2, st2, b2, h2⟩ := ih (x + 1) ρ1 st1 e2 hin h1
      refine ⟨ρ2, st2, ?_, h2⟩
      simp only [List.map_cons]
      unfold forD
      rw [show (0 : Int) + (x : Int) = (x : Int) from by omega, b1]
      exact b2
  exact key _ 0 ρ st rfl (by omega) h
theorem rng1_ok {n : Int} (h0 : -(2 ^ 62) ≤ n) (h1 : n < 2 ^ 62) : rng1O (.int n) = some (rngD 0 n.toNat) := by
  show (if _ then _ else _) = _
  rw [if_pos ⟨h0, h1⟩]
theorem rng2_ok {a b : Int} (h0 : -(2 ^ 62) ≤ a) (h1 : a < 2 ^ 62) (h2 : -(2 ^ 62) ≤ b) (h3 : b < 2 ^ 62) : rng2O (.int a) (.int b) = some (rngD a (b - a).toNat) := by
  show (if _ then _ else _) = _
  rw [if_pos ⟨h0, h1, h2, h3⟩]
theorem rngD_len (a : Int) (n : Nat) : (rngD a n).length = n := by unfold rngD; simp
theorem rngD_mem {a : Int} {n : Nat} {x : D} (h : x ∈ rngD a n) : ∃ i : Nat, i < n ∧ x = .int (a + i) := by
  unfold rngD at h
  obtain ⟨i, hi, e⟩ := List.mem_map.mp h
  exact ⟨i, List.mem_range.mp hi, e.symm⟩
/-- a while: μ falls -/
theorem while_ok {c : Env → Store → R Bool} {body : Env → Store → R Fl} (I : Nat → Env → Store → Prop)
    (hs : ∀ n ρ st, I (n + 1) ρ st → c ρ st = .ok true st ∧ ∃ ρ' st', body ρ st = .ok (.nx ρ') st' ∧ I n ρ' st') (h0 : ∀ ρ st, I 0 ρ st → c ρ st = .ok false st) :
    ∀ (m n : Nat) (ρ : Env) (st : Store), m < n → I m ρ st → ∃ ρ' st', whileD c body n ρ st = .ok (.nx ρ') st' ∧ I 0 ρ' st'
  | 0, n + 1, ρ, st, _, h => ⟨ρ, st, by unfold whileD; rw [h0 _ _ h]; rfl, h⟩
  | m + 1, n + 1, ρ, st, hn, h => by
    obtain ⟨e, ρ1, st1, b, h1⟩ := hs m ρ st h
    obtain ⟨ρ2, st2, e2, h2⟩ := while_ok I hs h0 m n ρ1 st1 (by omega) h1
    refine ⟨ρ2, st2, ?_, h2⟩
    unfold whileD
    rw [e]
    simp [b, e2]
end DL
namespace DL
/-- what a roll promises -/
def Rolls (f : List D → Store → R D) : Prop := ∀ (st : Store) (r k : Nat) (m : Int), 0 < m → m < 2 ^ 200 → Dice (k + 1) st r →
  ∃ (st' : Store) (x : Int), f [.ref r, .int m] st = .ok (.int x) st' ∧ 0 ≤ x ∧ x < m ∧ Dice k st' r ∧ st'.length = st.length ∧ ∀ j, j ≠ r → st'[j]? = st[j]?
theorem rolls (Γ : Fns) : Rolls (Df.run Γ ⟨5, 2, rollI⟩) := fun st r k m h0 h1 h => roll_run Γ st r k m h0 h1 h
/-- the items of a frozen row -/
def rowOf : D → Option (List D)
  | .lst ds => some ds
  | .tup ds => some ds
  | _ => none
theorem seqOf_row {d : D} {ds : List D} (h : rowOf d = some ds) (st : Store) : seqOf st d = some ds := by
  cases d <;> simp [rowOf] at h <;> subst h <;> rfl
theorem pick_run (Γ : Fns) (f : Nat) (hf : Rolls (Γ.f f)) (st : Store) (r k : Nat) (d : D) (ds : List D) (hd : rowOf d = some ds) (h0 : ds ≠ []) (h1 : ds.length < 2 ^ 60) (hs : ∀ d ∈ ds, d.strict = true) (h : Dice (k + 1) st r) :
    ∃ (st' : Store) (x : D), x ∈ ds ∧ Df.run Γ ⟨2, 2, pickI f⟩ [.ref r, d] st = .ok x st' ∧ Dice k st' r ∧ st'.length = st.length ∧ ∀ j, j ≠ r → st'[j]? = st[j]? := by
  have l0 : 0 < ds.length := List.length_pos_iff.mpr h0
  obtain ⟨st', x, e, x0, x1, hD, hl, ho⟩ := hf st r k ds.length (by omega) (by omega) h
  have hx : x.toNat < ds.length := by omega
  refine ⟨st', ds[x.toNat], List.getElem_mem hx, ?_, hD, hl, ho⟩
  rw [Df.run_ok Γ 2 2 (pickI f) [.ref r, d] st rfl]
  unfold pickI
  have hlen : bltD .len [d] st = some (.int ds.length) := by cases d <;> simp [rowOf] at hd <;> subst hd <;> rfl
  have hi : ixD d (.int x) st' = some ds[x.toNat] := by
    show (seqOf st' d).bind _ = _
    rw [seqOf_row hd]
    show L2.atI ds x = _
    rw [atI_nat _ x0 x1]
    simp [hx]
  simp [hlen, e, hi, hs _ (List.getElem_mem hx)]
/-- what the dice promise -/
theorem dice_ok (Γ : Fns) (ns : List Int) (i : Int) (h0 : 0 ≤ i) (h1 : i < 2 ^ 20) (st : Store) : ∃ st', Df.run Γ ⟨4, 2, diceI⟩ [.lst (ns.map D.int), .int i] st = .ok (.ref st.length) st' ∧ Dice (2 ^ 90) st' st.length ∧ st'.length = st.length + 1 ∧ ∀ j, j < st.length → st'[j]? = st[j]? := by
  obtain ⟨s, e, hl, h⟩ := dice_run Γ ns i h0 h1 st
  exact ⟨st ++ s, e, h, by simp [hl], fun j hj => by simp [List.getElem?_append_left hj]⟩
end DL

set_option Elab.async false
set_option linter.all false
set_option maxRecDepth 100000
set_option maxHeartbeats 4000000
/-! running programs symbolically: rows, comprehensions, lists that change -/
namespace DL
open PySem PySem.Spec L2
@[simp] def kSl3 (x : D) (l h : Option Int) (st : Store) : R D := ofO (slD x l h st) st
@[simp] def kSl2 (Γ : Fns) (hi : I) (ρ : Env) (x : D) (l : Option Int) (st : Store) : R D := (partD hi (den Γ hi).e ρ st).bind (kSl3 x l)
@[simp] def kSl (Γ : Fns) (lo hi : I) (ρ : Env) (x : D) (st : Store) : R D := (partD lo (den Γ lo).e ρ st).bind (kSl2 Γ hi ρ x)
@[simp] def kPart (x : D) (st : Store) : R (Option Int) := ofO (intO x) st
@[simp] def kAddR2 (x y : D) (st : Store) : R D := addRD (seqB .Add x y st) st
@[simp] def kAddR (Γ : Fns) (b : I) (ρ : Env) (x : D) (st : Store) : R D := ((den Γ b).e ρ st).bind (kAddR2 x)
@[simp] def kOwn (i : Nat) (ρ : Env) (xs : List D) (st : Store) : R Fl := if xs.all D.strict && decide (xs.length ≤ sizeLine) then .ok (.nx (ρ.set i (.own (.ml xs)))) st else .stuck
@[simp] def kChgO2 (i : Nat) (ρ : Env) (mo : MO) (st : Store) : R Fl := .ok (.nx (ρ.set i (.own mo))) st
@[simp] def kChgO (m : Mut) (i : Nat) (mo : MO) (ρ : Env) (xs : List D) (st : Store) : R Fl := (ofO (mutD m xs mo) st).bind (kChgO2 i ρ)
@[simp] def kChgR2 (n : Nat) (ρ : Env) (mo : MO) (st : Store) : R Fl := .ok (.nx ρ) (st.set n mo)
@[simp] def kChgR (m : Mut) (n : Nat) (ρ : Env) (xs : List D) (st : Store) : R Fl := (ofO (st[n]?.bind (mutD m xs)) st).bind (kChgR2 n ρ)
section
variable (Γ : Fns) (ρ : Env) (st : Store) (a b c : I) (i : Nat) (n : Int)
@[simp] theorem e_slc : (den Γ (.slc a b c)).e ρ st = ((den Γ a).e ρ st).bind (kSl Γ b c ρ) := rfl
@[simp] theorem e_emp : (den Γ .emp).e ρ st = .ok (.dic [] []) st := rfl
@[simp] theorem e_addR : (den Γ (.addR a b)).e ρ st = ((den Γ a).e ρ st).bind (kAddR Γ b ρ) := rfl
@[simp] theorem t_ts1 : (den Γ (.ts1 c)).t ρ st = (den Γ c).t ρ st := rfl
@[simp] theorem part_none (f) : partD .none f ρ st = .ok none st := rfl
@[simp] theorem part_int (f) : partD (.int n) f ρ st = (f ρ st).bind kPart := rfl
@[simp] theorem part_var (f) : partD (.var i) f ρ st = (f ρ st).bind kPart := rfl
@[simp] theorem part_bin (f op) : partD (.bin op a b) f ρ st = (f ρ st).bind kPart := rfl
@[simp] theorem part_neg (f) : partD (.neg a) f ρ st = (f ρ st).bind kPart := rfl
@[simp] theorem part_call (f) : partD (.call i a) f ρ st = (f ρ st).bind kPart := rfl
@[simp] theorem intO_int : intO (.int n) = some (some n) := rfl
@[simp] theorem s_own : (den Γ (.own i a)).s ρ st = ((den Γ a).l ρ st).bind (kOwn i ρ) := rfl
theorem s_chgO (m : Mut) {mo : MO} (h : ρ[i]? = some (.own mo)) : (den Γ (.chg m i a)).s ρ st = ((den Γ a).l ρ st).bind (kChgO m i mo ρ) := by
  show (match ρ[i]? with | some (.own mo) => _ | some (.val (.ref n)) => _ | _ => _) = _
  rw [h]
  rfl
theorem s_chgR (m : Mut) {k : Nat} {mo : MO} (h : ρ[i]? = some (.val (.ref k))) (h2 : st[k]? = some mo) : (den Γ (.chg m i a)).s ρ st = ((den Γ a).l ρ st).bind (kChgR m k ρ) := by
  show (match ρ[i]? with | some (.own mo) => _ | some (.val (.ref n)) => _ | _ => _) = _
  rw [h]
  show (match st[k]? with | some _ => _ | none => _) = _
  rw [h2]
  rfl
theorem s_frz {ds : List D} (h : ρ[i]? = some (.own (.ml ds))) : (den Γ (.frz i a)).s ρ st = (den Γ a).s (ρ.set i (.val (.lst ds))) st := by
  show (match ρ[i]? with | some (.own (.ml ds)) => _ | _ => _) = _
  rw [h]
end
section
variable (st : Store)
@[simp] theorem add_tup (a b : List D) (h : a.length + b.length ≤ sizeLine) : binD .Add (.tup a) (.tup b) st = some (.tup (a ++ b)) := by
  show (if _ then _ else _) = _
  rw [if_pos h]
@[simp] theorem add_lst (a b : List D) (h : a.length + b.length ≤ sizeLine) : binD .Add (.lst a) (.lst b) st = some (.lst (a ++ b)) := by
  show (if _ then _ else _) = _
  rw [if_pos h]
@[simp] theorem mul_tup (a : List D) (k : Int) (h : -1000 ≤ k ∧ k ≤ 1000 ∧ a.length ≤ 1000) : binD .Mult (.tup a) (.int k) st = some (.tup (List.replicate k.toNat a).flatten) := by
  show (if _ then _ else _) = _
  rw [if_pos h]
@[simp] theorem sl_tup (ds : List D) (lo hi) : slD (.tup ds) lo hi st = some (.tup (cutD ds lo hi)) := rfl
@[simp] theorem sl_lst (ds : List D) (lo hi) : slD (.lst ds) lo hi st = some (.lst (cutD ds lo hi)) := rfl
theorem cut_from (ds : List D) (n : Nat) : cutD ds (some (n : Int)) none = ds.drop n := by
  unfold cutD
  rw [HT.sIx_nat, HT.sIx_none]
  have h : (ds.drop (min n ds.length)).length ≤ ds.length - min n ds.length := by simp
  rw [List.take_of_length_le h]
  rcases Nat.le_total n ds.length with h | h
  · rw [Nat.min_eq_left h]
  · rw [Nat.min_eq_right h, List.drop_eq_nil_of_le h, List.drop_eq_nil_of_le (Nat.le_refl _)]
theorem cut_to (ds : List D) (n : Nat) : cutD ds none (some (n : Int)) = ds.take n := by
  unfold cutD
  rw [HT.sIx_nat, HT.sIx_none, List.drop_zero]
  rcases Nat.le_total n ds.length with h | h
  · rw [Nat.min_eq_left h]; rfl
  · rw [Nat.min_eq_right h, List.take_of_length_le h, Nat.sub_zero, List.take_of_length_le (Nat.le_refl _)]
@[simp] theorem blt_repr (k : Bool) : bltD .repr [.bl k] st = some (.str (if k then "True" else "False")) := rfl
@[simp] theorem blt_tuple (ds : List D) : bltD .tuple [.lst ds] st = some (.tup ds) := rfl
@[simp] theorem blt_tuplet (ds : List D) : bltD .tuple [.tup ds] st = some (.tup ds) := rfl
@[simp] theorem blt_list (ds : List D) : bltD .list [.tup ds] st = some (.lst ds) := rfl
@[simp] theorem blt_listl (ds : List D) : bltD .list [.lst ds] st = some (.lst ds) := rfl
theorem boolsOf_map {α : Type} (p : α → Bool) : ∀ xs : List α, boolsOf (xs.map fun x => .bl (p x)) = some (xs.map p)
  | [] => rfl
  | x :: xs => by simp [boolsOf, boolsOf_map p xs]
theorem intsOf_map {α : Type} (p : α → Int) : ∀ xs : List α, intsOf (xs.map fun x => .int (p x)) = some (xs.map p)
  | [] => rfl
  | x :: xs => by simp [intsOf, intsOf_map p xs]
theorem blt_all {α : Type} (p : α → Bool) (xs : List α) : bltD .all [.lst (xs.map fun x => .bl (p x))] st = some (.bl (xs.all p)) := by
  show ((seqOf st _).bind boolsOf).map _ = _
  simp [seqOf, boolsOf_map]
theorem blt_any {α : Type} (p : α → Bool) (xs : List α) : bltD .any [.lst (xs.map fun x => .bl (p x))] st = some (.bl (xs.any p)) := by
  show ((seqOf st _).bind boolsOf).map _ = _
  simp [seqOf, boolsOf_map]
theorem blt_sum {α : Type} (p : α → Int) (xs : List α) : bltD .sum [.lst (xs.map fun x => .int (p x))] st = some (.int (xs.map p).sum) := by
  show ((seqOf st _).bind intsOf).map _ = _
  simp [seqOf, intsOf_map]
@[simp] theorem walk_lst (ds : List D) : walkO (.lst ds) = some ds := rfl
@[simp] theorem walk_tup (ds : List D) : walkO (.tup ds) = some ds := rfl
@[simp] theorem eq_bl (a b : Bool) : cmpD .Eq (.bl a) (.bl b) st = some (a == b) := by
  show (if SeqAt.shaped (.bool a) && SeqAt.shaped (.bool b) then some (PyData.eqv (.bool a) (.bool b)) else none) = _
  rw [if_pos (by cases a <;> cases b <;> rfl)]
  rfl
/-- a value's class asked -/
def isTy : D → Ty → Bool
  | .bl _, .bool => true
  | .bl _, .int => true
  | .int _, .int => true
  | .str _, .str => true
  | .tup _, .tuple => true
  | .lst _, .list => true
  | .dic _ _, .dict => true
  | _, _ => false
/-- data that stand for themselves -/
def D.flat : D → Bool
  | .ref _ => false
  | .fn _ => false
  | .vl _ => false
  | _ => true
theorem isin_flat {v : D} (h : v.flat = true) (t : Ty) : isinD st v t = some (isTy v t) := by
  cases v <;> cases t <;> first | rfl | cases h
end
/-! ### comprehensions -/
theorem lcD_map {turn : D → Store → R (Option D)} {st : Store} (f : D → D) : ∀ xs : List D, (∀ x ∈ xs, turn x st = .ok (some (f x)) st) → lcD turn xs st = .ok (xs.map f) st
  | [], _ => rfl
  | x :: xs, h => by
    unfold lcD
    rw [h x (by simp), R.bind_ok, lcD_map f xs fun y hy => h y (by simp [hy])]
    rfl
theorem lcD_filter {turn : D → Store → R (Option D)} {st : Store} (f : D → Option D) : ∀ xs : List D, (∀ x ∈ xs, turn x st = .ok (f x) st) → lcD turn xs st = .ok (xs.filterMap f) st
  | [], _ => rfl
  | x :: xs, h => by
    unfold lcD
    rw [h x (by simp), R.bind_ok, lcD_filter f xs fun y hy => h y (by simp [hy])]
    cases e : f x <;> simp [e]
/-- a comprehension whose turns change nothing -/
theorem lc_map {fit : Env → Store → R (List D)} {fg : D → Env → Store → R Env} {gt : Env → Store → R Bool} {fe : Env → Store → R D} {vs : List Nat} {ρ : Env} {st : Store} (xs : List D) (f : D → D)
    (h0 : fit ρ st = .ok xs st) (hl : xs.length < sizeLine) (ht : ∀ x ∈ xs, lcT fg gt fe (wipeE ρ vs) x st = .ok (some (f x)) st) : lcE fit fg gt fe vs ρ st = .ok (.lst (xs.map f)) st := by
  unfold lcE
  rw [h0, R.bind_ok, lcD_map f xs ht]
  show (if (xs.map f).length < sizeLine then _ else _) = _
  rw [if_pos (by rw [List.length_map]; exact hl)]
theorem lc_filter {fit : Env → Store → R (List D)} {fg : D → Env → Store → R Env} {gt : Env → Store → R Bool} {fe : Env → Store → R D} {vs : List Nat} {ρ : Env} {st : Store} (xs : List D) (f : D → Option D)
    (h0 : fit ρ st = .ok xs st) (hl : xs.length < sizeLine) (ht : ∀ x ∈ xs, lcT fg gt fe (wipeE ρ vs) x st = .ok (f x) st) : lcE fit fg gt fe vs ρ st = .ok (.lst (xs.filterMap f)) st := by
  unfold lcE
  rw [h0, R.bind_ok, lcD_filter f xs ht]
  show (if (xs.filterMap f).length < sizeLine then _ else _) = _
  rw [if_pos (Nat.lt_of_le_of_lt (List.length_filterMap_le _ _) hl)]
/-! ### rows of ints are equal -/
theorem pyL_ints : ∀ ns : List Int, pyD.pyL (ns.map D.int) = some (ns.map PyData.int)
  | [] => rfl
  | n :: ns => by simp [pyD.pyL, pyD, pyL_ints ns]
theorem lay_ints : ∀ ns : List Int, PyData.canLayAll0 (ns.map PyData.int) = true ∧ PyData.depthAll (ns.map PyData.int) = 0
  | [] => ⟨rfl, rfl⟩
  | n :: ns => by
    obtain ⟨h1, h2⟩ := lay_ints ns
    exact ⟨by simp [PyData.canLayAll0, PyData.canLay0, h1], by simp [PyData.depthAll, PyData.depth, h2]⟩
theorem shaped_ints (ns : List Int) : SeqAt.shaped (.list (ns.map PyData.int)) = true ∧ SeqAt.shaped (.tuple (ns.map PyData.int)) = true := by
  obtain ⟨h1, h2⟩ := lay_ints ns
  constructor <;> simp [SeqAt.shaped, PyData.canLay0, PyData.depth, h1, h2]
theorem eqv_ints : ∀ ns ms : List Int, PyData.eqvAll (ns.map PyData.int) (ms.map PyData.int) = decide (ns = ms)
  | [], [] => by simp [PyData.eqvAll]
  | [], _ :: _ => by simp [PyData.eqvAll]
  | _ :: _, [] => by simp [PyData.eqvAll]
  | n :: ns, m :: ms => by
    simp only [List.map_cons, PyData.eqvAll, PyData.eqv, eqv_ints ns ms]
    by_cases h : n = m <;> simp [h]
theorem eq_lints (st : Store) (ns ms : List Int) : cmpD .Eq (.lst (ns.map D.int)) (.lst (ms.map D.int)) st = some (decide (ns = ms)) := by
  show (match pyV st (.lst (ns.map D.int)), pyV st (.lst (ms.map D.int)) with | some a, some b => if SeqAt.shaped a && SeqAt.shaped b then some (PyData.eqv a b) else none | _, _ => none) = _
  simp [pyV, pyD, pyL_ints, shaped_ints, PyData.eqv, eqv_ints]
end DL
namespace DL
/-! ### statement by statement -/
theorem seq_ok {Γ : Fns} {a b : I} {ρ ρ1 : Env} {st st1 : Store} {X : R Fl} (h : (den Γ a).s ρ st = .ok (.nx ρ1) st1) (h2 : (den Γ b).s ρ1 st1 = X) : (den Γ (.cons a b)).s ρ st = X := by
  rw [s_cons, h]
  exact h2
theorem seq_rt {Γ : Fns} {a b : I} {ρ : Env} {st st1 : Store} {d : D} (h : (den Γ a).s ρ st = .ok (.rt d) st1) : (den Γ (.cons a b)).s ρ st = .ok (.rt d) st1 := by
  rw [s_cons, h]
  rfl
theorem Dice.push {m : Nat} {st : Store} {r : Nat} (h : Dice m st r) (mo : MO) : Dice m (st ++ [mo]) r := by
  obtain ⟨a, b, c, e, z⟩ := h
  have hr : r < st.length := by
    rcases Nat.lt_or_ge r st.length with h | h
    · exact h
    · rw [List.getElem?_eq_none h] at e; cases e
  exact ⟨a, b, c, by rw [List.getElem?_append_left hr]; exact e, z⟩
theorem Dice.lt {m : Nat} {st : Store} {r : Nat} (h : Dice m st r) : r < st.length := by
  obtain ⟨a, b, c, e, z⟩ := h
  rcases Nat.lt_or_ge r st.length with h | h
  · exact h
  · rw [List.getElem?_eq_none h] at e; cases e
theorem Dice.set {m : Nat} {st : Store} {r n : Nat} (h : Dice m st r) (hn : n ≠ r) (mo : MO) : Dice m (st.set n mo) r := by
  obtain ⟨a, b, c, e, z⟩ := h
  exact ⟨a, b, c, by rw [List.getElem?_set_ne hn]; exact e, z⟩
@[simp] theorem strict_dic (ks : List L2.Key) (n : List D) : D.strict (.dic ks n) = true := rfl
end DL
namespace DL
open PySem PySem.Spec L2
/-- x.append(e), x a changing object -/
theorem chg_app {Γ : Fns} {a : I} {i n : Nat} {ρ : Env} {st st1 : Store} {ds : List D} {d : D} (h : ρ[i]? = some (.val (.ref n))) (h2 : st[n]? = some (.ml ds)) (ha : (den Γ a).l ρ st = .ok [d] st1) (h3 : st1[n]? = some (.ml ds)) (hs : d.strict = true)
    (hl : ds.length < sizeLine) : (den Γ (.chg .append i a)).s ρ st = .ok (.nx ρ) (st1.set n (.ml (ds ++ [d]))) := by
  have hm : mutD .append [d] (.ml ds) = some (.ml (ds ++ [d])) := by
    show (if _ then _ else _) = _
    rw [if_pos (by rw [hs, decide_eq_true hl]; rfl)]
  rw [s_chgR (h := h) (h2 := h2), ha]
  simp [h3, hm]
/-- x.append(e), x's own list -/
theorem chg_own {Γ : Fns} {a : I} {i : Nat} {ρ : Env} {st st1 : Store} {ds : List D} {d : D} (h : ρ[i]? = some (.own (.ml ds))) (ha : (den Γ a).l ρ st = .ok [d] st1) (hs : d.strict = true)
    (hl : ds.length < sizeLine) : (den Γ (.chg .append i a)).s ρ st = .ok (.nx (ρ.set i (.own (.ml (ds ++ [d]))))) st1 := by
  have hm : mutD .append [d] (.ml ds) = some (.ml (ds ++ [d])) := by
    show (if _ then _ else _) = _
    rw [if_pos (by rw [hs, decide_eq_true hl]; rfl)]
  rw [s_chgO (h := h), ha]
  simp [hm]
end DL

set_option Elab.async false
set_option linter.all false
set_option maxRecDepth 100000
set_option maxHeartbeats 4000000
/-! the program of the law k14, as data -/
namespace K14
open PySem DL
def top (i : Nat) : Stmt := PySem.Challenge.pw_wholemoment_k14_whole_leases_held_exactl.main.body.getD i (.Pass ⟨0, 0, 0, 0⟩)
/-- is_whole('value',) -/
def ir_is_whole : I :=
    (.cons (.ret (.and_ (.isin (.var 0) .int) (.not_ (.isin (.var 0) .bool))))
    .nil)
/-- is_short('value',) -/
def ir_is_short : I :=
    (.cons (.ret (.and_ (.call 0 (.cons (.var 0) .nil)) (.chain .Lt .Lt (.neg (.glob 0)) (.var 0) (.glob 0))))
    .nil)
/-- is_from('value', 'least', 'most') -/
def ir_is_from : I :=
    (.cons (.ret (.and_ (.call 0 (.cons (.var 0) .nil)) (.chain .LtE .LtE (.var 1) (.var 0) (.var 2))))
    .nil)
/-- is_tick('value',) -/
def ir_is_tick : I :=
    (.cons (.ret (.and_ (.call 1 (.cons (.var 0) .nil)) (.cmp .GtE (.var 0) (.int 0))))
    .nil)
/-- are_from('value', 'least', 'most', 'entry') -/
def ir_are_from : I :=
    (.cons (.ret (.and_ (.isin (.var 0) .tuple) (.blt .all (.cons (.lc [("entry", 3)] (.call 2 (.cons (.var 3) (.cons (.var 1) (.cons (.var 2) .nil)))) (.tvar 3) (.walk (.var 0)) .nil) .nil))))
    .nil)
/-- require_from('value', 'least', 'most') -/
def ir_require_from : I :=
    (.cons (.if_ (.not_ (.call 2 (.cons (.var 0) (.cons (.var 1) (.cons (.var 2) .nil))))) (.cons .never
    .nil) .nil)
    .nil)
/-- require_tick('value',) -/
def ir_require_tick : I :=
    (.cons (.if_ (.not_ (.call 3 (.cons (.var 0) .nil))) (.cons .never
    .nil) .nil)
    .nil)
/-- is_course_in('spread', 'machines', 'value', 'beat') -/
def ir_is_course_in : I :=
    (.cons (.if_ (.or_ (.not_ (.isin (.var 2) .tuple)) (.cmp .Gt (.blt .len (.cons (.var 2) .nil)) (.glob 2))) (.cons (.ret (.bool false))
    .nil) .nil)
    (.cons (.ret (.blt .all (.cons (.lc [("beat", 3)] (.and_ (.call 4 (.cons (.var 3) (.cons (.int 1) (.cons (.var 0) .nil)))) (.cmp .Eq (.blt .len (.cons (.var 3) .nil)) (.var 1))) (.tvar 3) (.walk (.var 2)) .nil) .nil)))
    .nil))
/-- readings_in('machines', 'course', 'at', 'beat') -/
def ir_readings_in : I :=
    (.cons (.ret (.blt .tuple (.cons (.lc [("at", 2)] (.blt .sum (.cons (.lc [("beat", 3)] (.ix (.var 3) (.var 2)) (.tvar 3) (.walk (.var 1)) .nil) .nil)) (.tvar 2) (.rng1 (.var 0)) .nil) .nil)))
    .nil)
/-- power_in('spread', 'many', 'found', 'left') -/
def ir_power_in : I :=
    (.cons (.par2 2 3 (.int 1) (.var 1))
    (.cons (.while_ 1000000 (.cmp .Gt (.var 3) (.int 0)) (.cons (.par2 2 3 (.bin .Mult (.var 2) (.var 0)) (.bin .Sub (.var 3) (.int 1)))
    .nil))
    (.cons (.ret (.var 2))
    .nil)))
/-- require_spread('spread',) -/
def ir_require_spread : I :=
    (.cons (.expr (.call 5 (.cons (.var 0) (.cons (.int 1) (.cons (.glob 1) .nil)))))
    .nil)
/-- require_lease('spread', 'length', 'mine') -/
def ir_require_lease : I :=
    (.cons (.expr (.call 10 (.cons (.var 0) .nil)))
    (.cons (.expr (.call 5 (.cons (.var 1) (.cons (.int 0) (.cons (.glob 3) .nil)))))
    (.cons (.expr (.call 5 (.cons (.var 2) (.cons (.int 0) (.cons (.glob 3) .nil)))))
    .nil)))
/-- held_for('spread', 'length') -/
def ir_held_for : I :=
    (.cons (.expr (.call 10 (.cons (.var 0) .nil)))
    (.cons (.expr (.call 6 (.cons (.var 1) .nil)))
    (.cons (.ret (.bin .FloorDiv (.var 1) (.var 0)))
    .nil)))
/-- held_below('spread', 'length', 'depth') -/
def ir_held_below : I :=
    (.cons (.expr (.call 10 (.cons (.var 0) .nil)))
    (.cons (.expr (.call 6 (.cons (.var 1) .nil)))
    (.cons (.expr (.call 5 (.cons (.var 2) (.cons (.int 0) (.cons (.glob 4) .nil)))))
    (.cons (.ret (.bin .FloorDiv (.var 1) (.call 9 (.cons (.var 0) (.cons (.var 2) .nil)))))
    .nil))))
/-- breaking_course('spread', 'length', 'mine') -/
def ir_breaking_course : I :=
    (.cons (.expr (.call 11 (.cons (.var 0) (.cons (.var 1) (.cons (.var 2) .nil)))))
    (.cons (.if_ (.cmp .LtE (.var 2) (.bin .FloorDiv (.var 1) (.var 0))) (.cons (.ret .none)
    .nil) .nil)
    (.cons (.ret (.bin .Mult (.tup (.cons (.tup (.cons (.int 1) (.cons (.var 0) .nil))) .nil)) (.bin .Add (.bin .FloorDiv (.var 1) (.var 0)) (.int 1))))
    .nil)))
/-- is_breaking_course('spread', 'length', 'mine', 'value', 'own', 'other') -/
def ir_is_breaking_course : I :=
    (.cons (.expr (.call 11 (.cons (.var 0) (.cons (.var 1) (.cons (.var 2) .nil)))))
    (.cons (.if_ (.not_ (.call 7 (.cons (.var 0) (.cons (.glob 5) (.cons (.var 3) .nil))))) (.cons (.ret (.bool false))
    .nil) .nil)
    (.cons (.asg (.ttup 2 (.cons (.tvar 4) (.cons (.tvar 5) .nil))) (.call 8 (.cons (.glob 5) (.cons (.var 3) .nil))))
    (.cons (.ret (.and_ (.cmp .LtE (.var 4) (.var 2)) (.cmp .Gt (.var 5) (.var 1))))
    .nil))))
/-- _law_dice('_law_script', '_law_spot', '_law_cell', '_law_left') -/
def ir__law_dice : I :=
    (.cons (.asg (.tvar 2) (.ife (.cmp .Lt (.var 1) (.blt .len (.cons (.var 0) .nil))) (.blt .int (.cons (.ix (.var 0) (.var 1)) .nil)) (.bin .Add (.bin .Mult (.int 83) (.var 1)) (.int 57))))
    (.cons (.asg (.tvar 3) (.bin .Mod (.blt .max (.cons (.int 0) (.cons (.bin .Sub (.blt .abs (.cons (.var 2) .nil)) (.bin .Pow (.int 10) (.int 16))) .nil))) (.bin .Mult (.bin .Pow (.int 10) (.int 58)) (.bin .Pow (.int 10) (.int 60)))))
    (.cons (.ret (.lst true (.cons (.var 3) (.cons (.bin .Add (.bin .Add (.bin .Add (.bin .Mult (.bin .Mod (.blt .abs (.cons (.var 2) .nil)) (.int 1152921504606846883)) (.int 97)) (.bin .Mult (.int 1009) (.var 1))) (.bin .Mult (.int 53) (.blt .int (.cons (.cmp .Lt (.var 2) (.int 0)) .nil)))) (.int 29)) (.cons (.int 0) .nil)))))
    .nil)))
/-- _law_roll('_law_dice_here', '_law_most', '_law_found', '_law_one', '_law_two') -/
def ir__law_roll : I :=
    (.cons (.if_ (.cmp .Gt (.ix (.var 0) (.int 0)) (.int 0)) (.cons (.asg (.tvar 2) (.bin .Mod (.blt .int (.cons (.ix (.var 0) (.int 0)) .nil)) (.var 1)))
    (.cons (.asg (.tix (.var 0) (.int 0)) (.bin .FloorDiv (.ix (.var 0) (.int 0)) (.var 1)))
    (.cons (.ret (.var 2))
    .nil))) .nil)
    (.cons (.asg (.tix (.var 0) (.int 2)) (.bin .Add (.ix (.var 0) (.int 2)) (.int 1)))
    (.cons (.asg (.tvar 3) (.bin .Mod (.blt .int (.cons (.bin .Add (.ix (.var 0) (.int 1)) (.bin .Mult (.int 68718953) (.ix (.var 0) (.int 2)))) .nil)) (.int 2305843009213693487)))
    (.cons (.asg (.tvar 4) (.bin .Add (.bin .Mult (.bin .Mod (.blt .int (.cons (.bin .Add (.bin .Mult (.var 3) (.var 3)) (.bin .Mult (.int 83) (.ix (.var 0) (.int 2)))) .nil)) (.int 2305843009213693253)) (.int 7368787)) (.var 3)))
    (.cons (.ret (.bin .Mod (.blt .int (.cons (.bin .FloorDiv (.var 4) (.int 65563)) .nil)) (.var 1)))
    .nil)))))
/-- _law_pick('_law_dice_here', '_law_items') -/
def ir__law_pick : I :=
    (.cons (.ret (.ix (.var 1) (.call 17 (.cons (.var 0) (.cons (.blt .len (.cons (.var 1) .nil)) .nil)))))
    .nil)
/-- _law_is_beat('_law_spread', '_law_value', '_law_one') -/
def ir__law_is_beat : I :=
    (.cons (.if_ (.or_ (.not_ (.isin (.var 1) .tuple)) (.cmp .NotEq (.blt .len (.cons (.var 1) .nil)) (.int 2))) (.cons (.ret (.bool false))
    .nil) .nil)
    (.cons (.ret (.blt .all (.cons (.lc [("_law_one", 2)] (.and_ (.isin (.var 2) .int) (.and_ (.not_ (.isin (.var 2) .bool)) (.chain .LtE .LtE (.int 1) (.var 2) (.var 0)))) (.tvar 2) (.walk (.var 1)) .nil) .nil)))
    .nil))
/-- _law_breaks('_law_spread', '_law_length', '_law_mine', '_law_value', '_law_beat') -/
def ir__law_breaks : I :=
    (.cons (.if_ (.or_ (.not_ (.isin (.var 3) .tuple)) (.or_ (.cmp .Gt (.blt .len (.cons (.var 3) .nil)) (.int 400)) (.not_ (.blt .all (.cons (.lc [("_law_beat", 4)] (.call 19 (.cons (.var 0) (.cons (.var 4) .nil))) (.tvar 4) (.walk (.var 3)) .nil) .nil))))) (.cons (.ret (.bool false))
    .nil) .nil)
    (.cons (.ret (.and_ (.cmp .LtE (.blt .sum (.cons (.lc [("_law_beat", 4)] (.ix (.var 4) (.int 0)) (.tvar 4) (.walk (.var 3)) .nil) .nil)) (.var 2)) (.cmp .Gt (.blt .sum (.cons (.lc [("_law_beat", 4)] (.ix (.var 4) (.int 1)) (.tvar 4) (.walk (.var 3)) .nil) .nil)) (.var 1))))
    .nil))
/-- _law_can_break('_law_spread', '_law_length', '_law_mine', '_law_beats') -/
def ir__law_can_break : I :=
    (.cons (.ret (.cmp .NotEq (.lc [("_law_beats", 3)] (.var 3) (.tvar 3) (.rng1 (.bin .Add (.var 2) (.int 1))) (.ts1 (.and_ (.cmp .LtE (.var 3) (.int 400)) (.cmp .Gt (.bin .Mult (.var 0) (.var 3)) (.var 1))))) (.lst false .nil)))
    .nil)
/-- _law_near('_law_dice_here', '_law_spread', '_law_length', '_law_mine', '_law_beats', '_law_fast', '_law_found', '_law_row', '_law_beat', '_law_units') -/
def ir__law_near : I :=
    (.cons (.asg (.tvar 4) (.bin .Add (.bin .FloorDiv (.var 2) (.var 1)) (.int 1)))
    (.cons (.asg (.tvar 5) (.bin .Mult (.tup (.cons (.tup (.cons (.int 1) (.cons (.var 1) .nil))) .nil)) (.var 4)))
    (.cons (.asg (.tvar 6) (.lst true (.cons (.var 5) (.cons (.slc (.var 5) (.int 1) .none) (.cons (.bin .Add (.var 5) (.tup (.cons (.tup (.cons (.int 1) (.cons (.int 1) .nil))) .nil))) (.cons (.bin .Add (.var 5) (.tup (.cons (.tup (.cons (.var 1) (.cons (.var 1) .nil))) .nil))) (.cons (.blt .list (.cons (.var 5) .nil)) (.cons .none (.cons (.tup .nil) (.cons .emp (.cons (.int 0) (.cons (.bin .Add (.var 5) (.tup (.cons (.int 1) .nil))) (.cons (.bin .Add (.var 5) (.tup (.cons (.tup (.cons (.int 1) .nil)) .nil))) .nil)))))))))))))
    (.cons (.asg (.tvar 6) (.addR (.var 6) (.lst false (.cons (.bin .Add (.slc (.var 5) (.int 1) .none) (.tup (.cons (.tup (.cons (.int 1) (.cons (.bin .Add (.var 1) (.int 1)) .nil))) .nil))) (.cons (.bin .Add (.slc (.var 5) (.int 1) .none) (.tup (.cons (.tup (.cons (.int 0) (.cons (.var 1) .nil))) .nil))) (.cons (.bin .Add (.slc (.var 5) (.int 1) .none) (.tup (.cons (.tup (.cons (.bool true) (.cons (.var 1) .nil))) .nil))) (.cons (.bin .Mult (.tup (.cons (.tup (.cons (.var 1) (.cons (.int 1) .nil))) .nil)) (.var 4)) .nil)))))))
    (.cons (.chg .append 6 (.cons (.bin .Mult (.tup (.cons (.tup (.cons (.int 1) (.cons (.var 1) .nil))) .nil)) (.int 400)) .nil))
    (.cons (.chg .append 6 (.cons (.bin .Mult (.tup (.cons (.tup (.cons (.int 1) (.cons (.var 1) .nil))) .nil)) (.int 401)) .nil))
    (.cons (.own 7 .nil)
    (.cons (.for_ (.tvar 8) (.rng1 (.call 17 (.cons (.var 0) (.cons (.int 40) .nil)))) (.cons (.chg .append 7 (.cons (.tup (.cons (.bin .Add (.int 1) (.call 17 (.cons (.var 0) (.cons (.var 1) .nil)))) (.cons (.bin .Add (.int 1) (.call 17 (.cons (.var 0) (.cons (.var 1) .nil)))) .nil))) .nil))
    .nil))
    (.cons (.frz 7 (.ret (.bin .Add (.var 6) (.lst false (.cons (.blt .tuple (.cons (.var 7) .nil)) (.cons (.blt .tuple (.cons (.lc [("_law_units", 9)] (.tup (.cons (.int 1) (.cons (.ix (.var 9) (.int 1)) .nil))) (.tvar 9) (.walk (.var 7)) .nil) .nil)) .nil))))))
    .nil)))))))))
/-- _law_right('_law_dice_here', '_law_spread', '_law_length', '_law_edge', '_law_mine', '_law_told', '_law_can', '_law_value', '_law_great', '_law_depth', '_law_left', '_law_turn') -/
def ir__law_right : I :=
    (.cons (.asg (.tvar 1) (.bin .Add (.int 1) (.call 17 (.cons (.var 0) (.cons (.int 6) .nil)))))
    (.cons (.asg (.tvar 2) (.call 18 (.cons (.var 0) (.cons (.lst false (.cons (.call 17 (.cons (.var 0) (.cons (.int 12) .nil))) (.cons (.call 17 (.cons (.var 0) (.cons (.int 60) .nil))) (.cons (.call 17 (.cons (.var 0) (.cons (.int 400) .nil))) (.cons (.int 399) (.cons (.int 0) .nil)))))) .nil))))
    (.cons (.asg (.tvar 3) (.bin .FloorDiv (.var 2) (.var 1)))
    (.cons (.for_ (.tvar 4) (.walk (.tup (.cons (.var 3) (.cons (.bin .Add (.var 3) (.int 1)) (.cons (.blt .max (.cons (.int 0) (.cons (.bin .Sub (.var 3) (.int 1)) .nil))) (.cons (.call 17 (.cons (.var 0) (.cons (.int 400) .nil))) .nil)))))) (.cons (.asg (.tvar 4) (.blt .min (.cons (.var 4) (.cons (.int 399) .nil))))
    (.cons (.par2 5 6 (.call 14 (.cons (.var 1) (.cons (.var 2) (.cons (.var 4) .nil)))) (.call 21 (.cons (.var 1) (.cons (.var 2) (.cons (.var 4) .nil)))))
    (.cons (.if_ (.or_ (.cmp .Eq (.cmp .Is (.var 5) .none) (.var 6)) (.and_ (.cmp .IsNot (.var 5) .none) (.not_ (.call 20 (.cons (.var 1) (.cons (.var 2) (.cons (.var 4) (.cons (.var 5) .nil)))))))) (.cons (.ret (.bool false))
    .nil) .nil)
    (.cons (.for_ (.tvar 7) (.walk (.bin .Add (.lst false (.cons (.var 5) .nil)) (.call 22 (.cons (.var 0) (.cons (.var 1) (.cons (.var 2) (.cons (.var 4) .nil))))))) (.cons (.if_ (.cmp .NotEq (.blt .repr (.cons (.call 15 (.cons (.var 1) (.cons (.var 2) (.cons (.var 4) (.cons (.var 7) .nil))))) .nil)) (.blt .repr (.cons (.call 20 (.cons (.var 1) (.cons (.var 2) (.cons (.var 4) (.cons (.var 7) .nil))))) .nil))) (.cons (.ret (.bool false))
    .nil) .nil)
    .nil))
    .nil)))))
    (.cons (.par2 8 9 (.call 17 (.cons (.var 0) (.cons (.bin .Pow (.int 10) (.int 40)) .nil))) (.call 17 (.cons (.var 0) (.cons (.int 7) .nil))))
    (.cons (.asg (.tvar 10) (.var 8))
    (.cons (.for_ (.tvar 11) (.rng1 (.var 9)) (.cons (.asg (.tvar 10) (.call 12 (.cons (.var 1) (.cons (.var 10) .nil))))
    .nil))
    (.cons (.ret (.and_ (.cmp .Eq (.call 12 (.cons (.var 1) (.cons (.var 2) .nil))) (.var 3)) (.cmp .Eq (.call 13 (.cons (.var 1) (.cons (.var 8) (.cons (.var 9) .nil)))) (.var 10))))
    .nil))))))))
/-- law('_law_script', '_law_spot', '_law_dice_here', '_law_told') -/
def ir_law : I :=
    (.cons (.for_ (.tvar 1) (.rng1 (.blt .max (.cons (.int 1) (.cons (.blt .min (.cons (.int 4) (.cons (.blt .len (.cons (.var 0) .nil)) .nil))) .nil)))) (.cons (.asg (.tvar 2) (.call 16 (.cons (.var 0) (.cons (.var 1) .nil))))
    (.cons (.if_ (.or_ (.not_ (.call 23 (.cons (.var 2) .nil))) (.not_ (.call 23 (.cons (.var 2) .nil)))) (.cons (.ret (.bool false))
    .nil) .nil)
    .nil)))
    (.cons (.asg (.tvar 3) (.lst false (.cons (.call 12 (.cons (.int 3) (.cons (.int 20) .nil))) (.cons (.call 13 (.cons (.int 3) (.cons (.int 20) (.cons (.int 2) .nil)))) (.cons (.call 13 (.cons (.int 3) (.cons (.int 20) (.cons (.int 3) .nil)))) (.cons (.call 13 (.cons (.int 6) (.cons (.int 46656) (.cons (.int 6) .nil)))) (.cons (.call 13 (.cons (.int 6) (.cons (.int 46655) (.cons (.int 6) .nil)))) (.cons (.call 13 (.cons (.int 1) (.cons (.int 7) (.cons (.int 6) .nil)))) .nil))))))))
    (.cons (.if_ (.or_ (.cmp .NotEq (.var 3) (.lst false (.cons (.int 6) (.cons (.int 2) (.cons (.int 0) (.cons (.int 1) (.cons (.int 0) (.cons (.int 7) .nil)))))))) (.or_ (.cmp .IsNot (.call 14 (.cons (.int 2) (.cons (.int 5) (.cons (.int 2) .nil)))) .none) (.cmp .IsNot (.call 14 (.cons (.int 1) (.cons (.int 399) (.cons (.int 399) .nil)))) .none))) (.cons (.ret (.bool false))
    .nil) .nil)
    (.cons (.ret (.and_ (.call 15 (.cons (.int 2) (.cons (.int 5) (.cons (.int 3) (.cons (.call 14 (.cons (.int 2) (.cons (.int 5) (.cons (.int 3) .nil)))) .nil))))) (.call 15 (.cons (.int 2) (.cons (.int 5) (.cons (.int 3) (.cons (.bin .Mult (.tup (.cons (.tup (.cons (.int 1) (.cons (.int 2) .nil))) .nil)) (.int 3)) .nil)))))))
    .nil))))
abbrev f_is_whole : Nat := 0
def d_is_whole : DefI := ⟨("is_whole", none), "is_whole", "is_whole", L2.defArgs (top 4), L2.defBody (top 4), L2.defScope (top 4), ["value"], ["value"], ir_is_whole⟩
abbrev f_is_short : Nat := 1
def d_is_short : DefI := ⟨("is_short", none), "is_short", "is_short", L2.defArgs (top 5), L2.defBody (top 5), L2.defScope (top 5), ["value"], ["value"], ir_is_short⟩
abbrev f_is_from : Nat := 2
def d_is_from : DefI := ⟨("is_from", none), "is_from", "is_from", L2.defArgs (top 6), L2.defBody (top 6), L2.defScope (top 6), ["value", "least", "most"], ["value", "least", "most"], ir_is_from⟩
abbrev f_is_tick : Nat := 3
def d_is_tick : DefI := ⟨("is_tick", none), "is_tick", "is_tick", L2.defArgs (top 7), L2.defBody (top 7), L2.defScope (top 7), ["value"], ["value"], ir_is_tick⟩
abbrev f_are_from : Nat := 4
def d_are_from : DefI := ⟨("are_from", none), "are_from", "are_from", L2.defArgs (top 8), L2.defBody (top 8), L2.defScope (top 8), ["value", "least", "most", "entry"], ["value", "least", "most"], ir_are_from⟩
abbrev f_require_from : Nat := 5
def d_require_from : DefI := ⟨("require_from", none), "require_from", "require_from", L2.defArgs (top 9), L2.defBody (top 9), L2.defScope (top 9), ["value", "least", "most"], ["value", "least", "most"], ir_require_from⟩
abbrev f_require_tick : Nat := 6
def d_require_tick : DefI := ⟨("require_tick", none), "require_tick", "require_tick", L2.defArgs (top 10), L2.defBody (top 10), L2.defScope (top 10), ["value"], ["value"], ir_require_tick⟩
abbrev f_is_course_in : Nat := 7
def d_is_course_in : DefI := ⟨("is_course_in", none), "is_course_in", "is_course_in", L2.defArgs (top 17), L2.defBody (top 17), L2.defScope (top 17), ["spread", "machines", "value", "beat"], ["spread", "machines", "value"], ir_is_course_in⟩
abbrev f_readings_in : Nat := 8
def d_readings_in : DefI := ⟨("readings_in", none), "readings_in", "readings_in", L2.defArgs (top 18), L2.defBody (top 18), L2.defScope (top 18), ["machines", "course", "at", "beat"], ["machines", "course"], ir_readings_in⟩
abbrev f_power_in : Nat := 9
def d_power_in : DefI := ⟨("power_in", none), "power_in", "power_in", L2.defArgs (top 19), L2.defBody (top 19), L2.defScope (top 19), ["spread", "many", "found", "left"], ["spread", "many"], ir_power_in⟩
abbrev f_require_spread : Nat := 10
def d_require_spread : DefI := ⟨("require_spread", none), "require_spread", "require_spread", L2.defArgs (top 20), L2.defBody (top 20), L2.defScope (top 20), ["spread"], ["spread"], ir_require_spread⟩
abbrev f_require_lease : Nat := 11
def d_require_lease : DefI := ⟨("require_lease", none), "require_lease", "require_lease", L2.defArgs (top 21), L2.defBody (top 21), L2.defScope (top 21), ["spread", "length", "mine"], ["spread", "length", "mine"], ir_require_lease⟩
abbrev f_held_for : Nat := 12
def d_held_for : DefI := ⟨("held_for", none), "held_for", "held_for", L2.defArgs (top 22), L2.defBody (top 22), L2.defScope (top 22), ["spread", "length"], ["spread", "length"], ir_held_for⟩
abbrev f_held_below : Nat := 13
def d_held_below : DefI := ⟨("held_below", none), "held_below", "held_below", L2.defArgs (top 23), L2.defBody (top 23), L2.defScope (top 23), ["spread", "length", "depth"], ["spread", "length", "depth"], ir_held_below⟩
abbrev f_breaking_course : Nat := 14
def d_breaking_course : DefI := ⟨("breaking_course", none), "breaking_course", "breaking_course", L2.defArgs (top 24), L2.defBody (top 24), L2.defScope (top 24), ["spread", "length", "mine"], ["spread", "length", "mine"], ir_breaking_course⟩
abbrev f_is_breaking_course : Nat := 15
def d_is_breaking_course : DefI := ⟨("is_breaking_course", none), "is_breaking_course", "is_breaking_course", L2.defArgs (top 25), L2.defBody (top 25), L2.defScope (top 25), ["spread", "length", "mine", "value", "own", "other"], ["spread", "length", "mine", "value"], ir_is_breaking_course⟩
abbrev f__law_dice : Nat := 16
def d__law_dice : DefI := ⟨("_law_dice", none), "_law_dice", "_law_dice", L2.defArgs (top 27), L2.defBody (top 27), L2.defScope (top 27), ["_law_script", "_law_spot", "_law_cell", "_law_left"], ["_law_script", "_law_spot"], ir__law_dice⟩
abbrev f__law_roll : Nat := 17
def d__law_roll : DefI := ⟨("_law_roll", none), "_law_roll", "_law_roll", L2.defArgs (top 28), L2.defBody (top 28), L2.defScope (top 28), ["_law_dice_here", "_law_most", "_law_found", "_law_one", "_law_two"], ["_law_dice_here", "_law_most"], ir__law_roll⟩
abbrev f__law_pick : Nat := 18
def d__law_pick : DefI := ⟨("_law_pick", none), "_law_pick", "_law_pick", L2.defArgs (top 29), L2.defBody (top 29), L2.defScope (top 29), ["_law_dice_here", "_law_items"], ["_law_dice_here", "_law_items"], ir__law_pick⟩
abbrev f__law_is_beat : Nat := 19
def d__law_is_beat : DefI := ⟨("_law_is_beat", none), "_law_is_beat", "_law_is_beat", L2.defArgs (top 30), L2.defBody (top 30), L2.defScope (top 30), ["_law_spread", "_law_value", "_law_one"], ["_law_spread", "_law_value"], ir__law_is_beat⟩
abbrev f__law_breaks : Nat := 20
def d__law_breaks : DefI := ⟨("_law_breaks", none), "_law_breaks", "_law_breaks", L2.defArgs (top 31), L2.defBody (top 31), L2.defScope (top 31), ["_law_spread", "_law_length", "_law_mine", "_law_value", "_law_beat"], ["_law_spread", "_law_length", "_law_mine", "_law_value"], ir__law_breaks⟩
abbrev f__law_can_break : Nat := 21
def d__law_can_break : DefI := ⟨("_law_can_break", none), "_law_can_break", "_law_can_break", L2.defArgs (top 32), L2.defBody (top 32), L2.defScope (top 32), ["_law_spread", "_law_length", "_law_mine", "_law_beats"], ["_law_spread", "_law_length", "_law_mine"], ir__law_can_break⟩
abbrev f__law_near : Nat := 22
def d__law_near : DefI := ⟨("_law_near", none), "_law_near", "_law_near", L2.defArgs (top 33), L2.defBody (top 33), L2.defScope (top 33), ["_law_dice_here", "_law_spread", "_law_length", "_law_mine", "_law_beats", "_law_fast", "_law_found", "_law_row", "_law_beat", "_law_units"], ["_law_dice_here", "_law_spread", "_law_length", "_law_mine"], ir__law_near⟩
abbrev f__law_right : Nat := 23
def d__law_right : DefI := ⟨("_law_right", none), "_law_right", "_law_right", L2.defArgs (top 34), L2.defBody (top 34), L2.defScope (top 34), ["_law_dice_here", "_law_spread", "_law_length", "_law_edge", "_law_mine", "_law_told", "_law_can", "_law_value", "_law_great", "_law_depth", "_law_left", "_law_turn"], ["_law_dice_here"], ir__law_right⟩
abbrev f_law : Nat := 24
def d_law : DefI := ⟨("law", none), "law", "law", L2.defArgs (top 35), L2.defBody (top 35), L2.defScope (top 35), ["_law_script", "_law_spot", "_law_dice_here", "_law_told"], ["_law_script"], ir_law⟩
def pg : Pg := ⟨[d_is_whole, d_is_short, d_is_from, d_is_tick, d_are_from, d_require_from, d_require_tick, d_is_course_in, d_readings_in, d_power_in, d_require_spread, d_require_lease, d_held_for, d_held_below, d_breaking_course, d_is_breaking_course, d__law_dice, d__law_roll, d__law_pick, d__law_is_beat, d__law_breaks, d__law_can_break, d__law_near, d__law_right, d_law],
  ["abs", "all", "bool", "int", "isinstance", "len", "list", "max", "min", "range", "repr", "sum", "tuple"],
  [("GREATEST", .int 1000000000000000000000000000000000000000000000000000000000000), ("MAX_SPREAD", .int 6), ("MAX_BEATS", .int 400), ("MAX_LEASE", .int 399), ("MAX_DEPTH", .int 6), ("BORROWER_AND_LENDER", .int 2)]⟩
theorem r_is_whole (k : Nat) (xs : List D) (st : Store) (h : xs.length = 1) : pg.run (k + 1) 0 xs st = ((den ⟨pg.run k, pg.cs⟩ ir_is_whole).s (xs.map Slot.val ++ List.replicate 0 .un) st).bind endR := Df.run_ok _ 1 1 _ xs st h
theorem r_is_short (k : Nat) (xs : List D) (st : Store) (h : xs.length = 1) : pg.run (k + 1) 1 xs st = ((den ⟨pg.run k, pg.cs⟩ ir_is_short).s (xs.map Slot.val ++ List.replicate 0 .un) st).bind endR := Df.run_ok _ 1 1 _ xs st h
theorem r_is_from (k : Nat) (xs : List D) (st : Store) (h : xs.length = 3) : pg.run (k + 1) 2 xs st = ((den ⟨pg.run k, pg.cs⟩ ir_is_from).s (xs.map Slot.val ++ List.replicate 0 .un) st).bind endR := Df.run_ok _ 3 3 _ xs st h
theorem r_is_tick (k : Nat) (xs : List D) (st : Store) (h : xs.length = 1) : pg.run (k + 1) 3 xs st = ((den ⟨pg.run k, pg.cs⟩ ir_is_tick).s (xs.map Slot.val ++ List.replicate 0 .un) st).bind endR := Df.run_ok _ 1 1 _ xs st h
theorem r_are_from (k : Nat) (xs : List D) (st : Store) (h : xs.length = 3) : pg.run (k + 1) 4 xs st = ((den ⟨pg.run k, pg.cs⟩ ir_are_from).s (xs.map Slot.val ++ List.replicate 1 .un) st).bind endR := Df.run_ok _ 4 3 _ xs st h
theorem r_require_from (k : Nat) (xs : List D) (st : Store) (h : xs.length = 3) : pg.run (k + 1) 5 xs st = ((den ⟨pg.run k, pg.cs⟩ ir_require_from).s (xs.map Slot.val ++ List.replicate 0 .un) st).bind endR := Df.run_ok _ 3 3 _ xs st h
theorem r_require_tick (k : Nat) (xs : List D) (st : Store) (h : xs.length = 1) : pg.run (k + 1) 6 xs st = ((den ⟨pg.run k, pg.cs⟩ ir_require_tick).s (xs.map Slot.val ++ List.replicate 0 .un) st).bind endR := Df.run_ok _ 1 1 _ xs st h
theorem r_is_course_in (k : Nat) (xs : List D) (st : Store) (h : xs.length = 3) : pg.run (k + 1) 7 xs st = ((den ⟨pg.run k, pg.cs⟩ ir_is_course_in).s (xs.map Slot.val ++ List.replicate 1 .un) st).bind endR := Df.run_ok _ 4 3 _ xs st h
theorem r_readings_in (k : Nat) (xs : List D) (st : Store) (h : xs.length = 2) : pg.run (k + 1) 8 xs st = ((den ⟨pg.run k, pg.cs⟩ ir_readings_in).s (xs.map Slot.val ++ List.replicate 2 .un) st).bind endR := Df.run_ok _ 4 2 _ xs st h
theorem r_power_in (k : Nat) (xs : List D) (st : Store) (h : xs.length = 2) : pg.run (k + 1) 9 xs st = ((den ⟨pg.run k, pg.cs⟩ ir_power_in).s (xs.map Slot.val ++ List.replicate 2 .un) st).bind endR := Df.run_ok _ 4 2 _ xs st h
theorem r_require_spread (k : Nat) (xs : List D) (st : Store) (h : xs.length = 1) : pg.run (k + 1) 10 xs st = ((den ⟨pg.run k, pg.cs⟩ ir_require_spread).s (xs.map Slot.val ++ List.replicate 0 .un) st).bind endR := Df.run_ok _ 1 1 _ xs st h
theorem r_require_lease (k : Nat) (xs : List D) (st : Store) (h : xs.length = 3) : pg.run (k + 1) 11 xs st = ((den ⟨pg.run k, pg.cs⟩ ir_require_lease).s (xs.map Slot.val ++ List.replicate 0 .un) st).bind endR := Df.run_ok _ 3 3 _ xs st h
theorem r_held_for (k : Nat) (xs : List D) (st : Store) (h : xs.length = 2) : pg.run (k + 1) 12 xs st = ((den ⟨pg.run k, pg.cs⟩ ir_held_for).s (xs.map Slot.val ++ List.replicate 0 .un) st).bind endR := Df.run_ok _ 2 2 _ xs st h
theorem r_held_below (k : Nat) (xs : List D) (st : Store) (h : xs.length = 3) : pg.run (k + 1) 13 xs st = ((den ⟨pg.run k, pg.cs⟩ ir_held_below).s (xs.map Slot.val ++ List.replicate 0 .un) st).bind endR := Df.run_ok _ 3 3 _ xs st h
theorem r_breaking_course (k : Nat) (xs : List D) (st : Store) (h : xs.length = 3) : pg.run (k + 1) 14 xs st = ((den ⟨pg.run k, pg.cs⟩ ir_breaking_course).s (xs.map Slot.val ++ List.replicate 0 .un) st).bind endR := Df.run_ok _ 3 3 _ xs st h
theorem r_is_breaking_course (k : Nat) (xs : List D) (st : Store) (h : xs.length = 4) : pg.run (k + 1) 15 xs st = ((den ⟨pg.run k, pg.cs⟩ ir_is_breaking_course).s (xs.map Slot.val ++ List.replicate 2 .un) st).bind endR := Df.run_ok _ 6 4 _ xs st h
theorem r__law_dice (k : Nat) (xs : List D) (st : Store) (h : xs.length = 2) : pg.run (k + 1) 16 xs st = ((den ⟨pg.run k, pg.cs⟩ ir__law_dice).s (xs.map Slot.val ++ List.replicate 2 .un) st).bind endR := Df.run_ok _ 4 2 _ xs st h
theorem r__law_roll (k : Nat) (xs : List D) (st : Store) (h : xs.length = 2) : pg.run (k + 1) 17 xs st = ((den ⟨pg.run k, pg.cs⟩ ir__law_roll).s (xs.map Slot.val ++ List.replicate 3 .un) st).bind endR := Df.run_ok _ 5 2 _ xs st h
theorem r__law_pick (k : Nat) (xs : List D) (st : Store) (h : xs.length = 2) : pg.run (k + 1) 18 xs st = ((den ⟨pg.run k, pg.cs⟩ ir__law_pick).s (xs.map Slot.val ++ List.replicate 0 .un) st).bind endR := Df.run_ok _ 2 2 _ xs st h
theorem r__law_is_beat (k : Nat) (xs : List D) (st : Store) (h : xs.length = 2) : pg.run (k + 1) 19 xs st = ((den ⟨pg.run k, pg.cs⟩ ir__law_is_beat).s (xs.map Slot.val ++ List.replicate 1 .un) st).bind endR := Df.run_ok _ 3 2 _ xs st h
theorem r__law_breaks (k : Nat) (xs : List D) (st : Store) (h : xs.length = 4) : pg.run (k + 1) 20 xs st = ((den ⟨pg.run k, pg.cs⟩ ir__law_breaks).s (xs.map Slot.val ++ List.replicate 1 .un) st).bind endR := Df.run_ok _ 5 4 _ xs st h
theorem r__law_can_break (k : Nat) (xs : List D) (st : Store) (h : xs.length = 3) : pg.run (k + 1) 21 xs st = ((den ⟨pg.run k, pg.cs⟩ ir__law_can_break).s (xs.map Slot.val ++ List.replicate 1 .un) st).bind endR := Df.run_ok _ 4 3 _ xs st h
theorem r__law_near (k : Nat) (xs : List D) (st : Store) (h : xs.length = 4) : pg.run (k + 1) 22 xs st = ((den ⟨pg.run k, pg.cs⟩ ir__law_near).s (xs.map Slot.val ++ List.replicate 6 .un) st).bind endR := Df.run_ok _ 10 4 _ xs st h
theorem r__law_right (k : Nat) (xs : List D) (st : Store) (h : xs.length = 1) : pg.run (k + 1) 23 xs st = ((den ⟨pg.run k, pg.cs⟩ ir__law_right).s (xs.map Slot.val ++ List.replicate 11 .un) st).bind endR := Df.run_ok _ 12 1 _ xs st h
theorem r_law (k : Nat) (xs : List D) (st : Store) (h : xs.length = 1) : pg.run (k + 1) 24 xs st = ((den ⟨pg.run k, pg.cs⟩ ir_law).s (xs.map Slot.val ++ List.replicate 3 .un) st).bind endR := Df.run_ok _ 4 1 _ xs st h
@[simp] theorem c_GREATEST : pg.cs 0 = .int 1000000000000000000000000000000000000000000000000000000000000 := rfl
@[simp] theorem c_MAX_SPREAD : pg.cs 1 = .int 6 := rfl
@[simp] theorem c_MAX_BEATS : pg.cs 2 = .int 400 := rfl
@[simp] theorem c_MAX_LEASE : pg.cs 3 = .int 399 := rfl
@[simp] theorem c_MAX_DEPTH : pg.cs 4 = .int 6 := rfl
@[simp] theorem c_BORROWER_AND_LENDER : pg.cs 5 = .int 2 := rfl
theorem pg_ok : pg.ok = true := by decide +kernel
theorem pg_consts : pg.consts.all (fun p => (constFa p).isSome) = true := by decide +kernel
theorem pg_bind : BdAll pg.defs :=
  ⟨(fun _ _ _ _ _ _ us hl => match us, hl with | [_], _ => rfl),
  (fun _ _ _ _ _ _ us hl => match us, hl with | [_], _ => rfl),
  (fun _ _ _ _ _ _ us hl => match us, hl with | [_, _, _], _ => rfl),
  (fun _ _ _ _ _ _ us hl => match us, hl with | [_], _ => rfl),
  (fun _ _ _ _ _ _ us hl => match us, hl with | [_, _, _], _ => rfl),
  (fun _ _ _ _ _ _ us hl => match us, hl with | [_, _, _], _ => rfl),
  (fun _ _ _ _ _ _ us hl => match us, hl with | [_], _ => rfl),
  (fun _ _ _ _ _ _ us hl => match us, hl with | [_, _, _], _ => rfl),
  (fun _ _ _ _ _ _ us hl => match us, hl with | [_, _], _ => rfl),
  (fun _ _ _ _ _ _ us hl => match us, hl with | [_, _], _ => rfl),
  (fun _ _ _ _ _ _ us hl => match us, hl with | [_], _ => rfl),
  (fun _ _ _ _ _ _ us hl => match us, hl with | [_, _, _], _ => rfl),
  (fun _ _ _ _ _ _ us hl => match us, hl with | [_, _], _ => rfl),
  (fun _ _ _ _ _ _ us hl => match us, hl with | [_, _, _], _ => rfl),
  (fun _ _ _ _ _ _ us hl => match us, hl with | [_, _, _], _ => rfl),
  (fun _ _ _ _ _ _ us hl => match us, hl with | [_, _, _, _], _ => rfl),
  (fun _ _ _ _ _ _ us hl => match us, hl with | [_, _], _ => rfl),
  (fun _ _ _ _ _ _ us hl => match us, hl with | [_, _], _ => rfl),
  (fun _ _ _ _ _ _ us hl => match us, hl with | [_, _], _ => rfl),
  (fun _ _ _ _ _ _ us hl => match us, hl with | [_, _], _ => rfl),
  (fun _ _ _ _ _ _ us hl => match us, hl with | [_, _, _, _], _ => rfl),
  (fun _ _ _ _ _ _ us hl => match us, hl with | [_, _, _], _ => rfl),
  (fun _ _ _ _ _ _ us hl => match us, hl with | [_, _, _, _], _ => rfl),
  (fun _ _ _ _ _ _ us hl => match us, hl with | [_], _ => rfl),
  (fun _ _ _ _ _ _ us hl => match us, hl with | [_], _ => rfl), trivial⟩
end K14

set_option Elab.async false
set_option linter.all false
set_option maxRecDepth 100000
set_option maxHeartbeats 4000000
/-! what k14's defs answer -/
namespace K14
open PySem DL
/-- an int from a to b -/
def inR : D → Int → Int → Bool
  | .int n, a, b => decide (a ≤ n) && decide (n ≤ b)
  | _, _, _ => false
def areR : D → Int → Int → Bool
  | .tup ds, a, b => ds.all fun d => inR d a b
  | _, _, _ => false
def lenE : D → Int → Bool
  | .tup es, m => decide ((es.length : Int) = m)
  | _, _ => false
def courseB (s m : Int) : D → Bool
  | .tup ds => decide (ds.length ≤ 400) && ds.all fun d => areR d 1 s && lenE d m
  | _ => false
def atInt (i : Nat) : D → Int
  | .tup es => match es[i]? with
    | some (.int n) => n
    | _ => 0
  | _ => 0
def breakB (s l m : Int) : D → Bool
  | .tup ds => courseB s 2 (.tup ds) && (decide ((ds.map (atInt 0)).sum ≤ m) && decide (l < (ds.map (atInt 1)).sum))
  | _ => false
/-- data of any form, two rows deep -/
def g1 (d : D) : Bool := d.flat && (match d with | .tup es => es.all D.flat && decide (es.length < 1000) | _ => true)
def g2 (d : D) : Bool := d.flat && (match d with | .tup es => es.all g1 && decide (es.length < 1000) | _ => true)
@[simp] theorem flat_int (n : Int) : D.flat (.int n) = true := rfl
@[simp] theorem flat_bl (n : Bool) : D.flat (.bl n) = true := rfl
@[simp] theorem flat_non : D.flat .non = true := rfl
@[simp] theorem flat_str (n : Str) : D.flat (.str n) = true := rfl
@[simp] theorem flat_tup (n : List D) : D.flat (.tup n) = true := rfl
@[simp] theorem flat_lst (n : List D) : D.flat (.lst n) = true := rfl
@[simp] theorem flat_dic (ks : List L2.Key) (n : List D) : D.flat (.dic ks n) = true := rfl
theorem small_line {n : Nat} (h : n < 1000) : n < sizeLine := Nat.lt_trans h (by decide)

theorem s_is_whole (k : Nat) (v : D) (st : Store) (h : v.flat = true) : pg.run (k + 1) 0 [v] st = .ok (.bl (isTy v .int && !isTy v .bool)) st := by
  rw [r_is_whole _ _ _ rfl, ir_is_whole]
  cases e : isTy v .int <;> simp [isin_flat st h, e]
theorem s_is_from (k : Nat) (v : D) (a b : Int) (st : Store) (h : v.flat = true) : pg.run (k + 2) 2 [v, .int a, .int b] st = .ok (.bl (inR v a b)) st := by
  rw [r_is_from _ _ _ rfl, ir_is_from]
  have e := s_is_whole k v st h
  cases v <;> first | (cases h; done) | skip
  case int n => by_cases z : a ≤ n <;> simp [e, isTy, inR, z]
  all_goals simp [e, isTy, inR]
theorem s_require_from (k : Nat) (n a b : Int) (st : Store) (h1 : a ≤ n) (h2 : n ≤ b) : pg.run (k + 3) 5 [.int n, .int a, .int b] st = .ok .non st := by
  simp [r_require_from, ir_require_from, s_is_from k (.int n) a b st rfl, inR, h1, h2]
theorem s_require_tick (k : Nat) (n : Int) (st : Store) (h1 : 0 ≤ n) (h2 : n < 10 ^ 60) : pg.run (k + 4) 6 [.int n] st = .ok .non st := by
  have h3 : -1000000000000000000000000000000000000000000000000000000000000 < n := by omega
  have h4 : n < 1000000000000000000000000000000000000000000000000000000000000 := by omega
  simp [r_require_tick, ir_require_tick, r_is_tick, ir_is_tick, r_is_short, ir_is_short, s_is_whole k (.int n) st rfl, isTy, h1, h3, h4]
theorem s_are_from (k : Nat) (v : D) (a b : Int) (st : Store) (h : g1 v = true) : pg.run (k + 3) 4 [v, .int a, .int b] st = .ok (.bl (areR v a b)) st := by
  rw [r_are_from _ _ _ rfl, ir_are_from]
  unfold g1 at h
  rw [Bool.and_eq_true] at h
  obtain ⟨hf, h⟩ := h
  cases v <;> first | (cases hf; done) | skip
  case tup ds =>
    simp at h
    have e := lc_map (fit := (den ⟨pg.run (k + 2), pg.cs⟩ (.walk (.var 0))).it) (fg := (den ⟨pg.run (k + 2), pg.cs⟩ (.tvar 3)).g) (gt := (den ⟨pg.run (k + 2), pg.cs⟩ .nil).t) (fe := (den ⟨pg.run (k + 2), pg.cs⟩ (.call 2 (.cons (.var 3) (.cons (.var 1) (.cons (.var 2) .nil))))).e)
      (vs := [3]) (ρ := [.val (.tup ds), .val (.int a), .val (.int b), .un]) (st := st) ds (fun x => .bl (inR x a b)) (by simp) (small_line h.2)
      (fun x hx => by
        have hx := h.1 x hx
        have hs : x.strict = true := by cases x <;> first | rfl | cases hx
        simp [lcT, wipeE, hs, s_is_from k x a b st hx])
    simp [isin_flat st (v := .tup ds) rfl, isTy, e, blt_all, areR]
  all_goals simp [isin_flat st hf, isTy, areR]
theorem s_course_in (k : Nat) (s m : Int) (v : D) (st : Store) (h : g2 v = true) : pg.run (k + 4) 7 [.int s, .int m, v] st = .ok (.bl (courseB s m v)) st := by
  rw [r_is_course_in _ _ _ rfl, ir_is_course_in]
  unfold g2 at h
  rw [Bool.and_eq_true] at h
  obtain ⟨hf, h⟩ := h
  cases v <;> first | (cases hf; done) | skip
  case tup ds =>
    simp at h
    by_cases hz : ds.length ≤ 400
    · have e := lc_map (fit := (den ⟨pg.run (k + 3), pg.cs⟩ (.walk (.var 2))).it) (fg := (den ⟨pg.run (k + 3), pg.cs⟩ (.tvar 3)).g) (gt := (den ⟨pg.run (k + 3), pg.cs⟩ .nil).t)
        (fe := (den ⟨pg.run (k + 3), pg.cs⟩ (.and_ (.call 4 (.cons (.var 3) (.cons (.int 1) (.cons (.var 0) .nil)))) (.cmp .Eq (.blt .len (.cons (.var 3) .nil)) (.var 1)))).e)
        (vs := [3]) (ρ := [.val (.int s), .val (.int m), .val (.tup ds), .un]) (st := st) ds (fun x => .bl (areR x 1 s && lenE x m)) (by simp) (small_line h.2)
        (fun x hx => by
          have hx := h.1 x hx
          have hs : x.strict = true := by cases x <;> first | rfl | cases hx
          cases q : areR x 1 s with
          | false => simp [lcT, wipeE, hs, s_are_from k x 1 s st hx, q]
          | true =>
            cases x with
            | tup es => simp [lcT, wipeE, hs, s_are_from k (.tup es) 1 s st hx, q, lenE]
            | _ => cases q)
      have hz' : ¬ (400 : Int) < ds.length := by omega
      simp [isin_flat st hf, isTy, e, blt_all, courseB, hz, hz']
    · have hz' : (400 : Int) < ds.length := by omega
      simp [isin_flat st hf, isTy, courseB, hz, hz']
  all_goals simp [isin_flat st hf, isTy, courseB]

def pairD (p : Int × Int) : D := .tup [.int p.1, .int p.2]
theorem pair_of {d : D} {s : Int} (h : (areR d 1 s && lenE d 2) = true) : ∃ p : Int × Int, d = pairD p := by
  rw [Bool.and_eq_true] at h
  obtain ⟨h1, h2⟩ := h
  cases d with
  | tup es =>
    simp [lenE] at h2
    match es, h2 with
    | [x, y], _ =>
      simp [areR] at h1
      cases x with
      | int a => cases y with
        | int b => exact ⟨(a, b), rfl⟩
        | _ => simp [inR] at h1
      | _ => simp [inR] at h1
  | _ => cases h1
theorem pairs_of {s : Int} : ∀ ds : List D, (ds.all fun d => areR d 1 s && lenE d 2) = true → ∃ ps : List (Int × Int), ds = ps.map pairD
  | [], _ => ⟨[], rfl⟩
  | d :: ds, h => by
    rw [List.all_cons, Bool.and_eq_true] at h
    obtain ⟨p, rfl⟩ := pair_of h.1
    obtain ⟨ps, rfl⟩ := pairs_of ds h.2
    exact ⟨p :: ps, rfl⟩
theorem rng2 : rngD 0 2 = [.int 0, .int 1] := rfl
theorem at0 (ps : List (Int × Int)) : ((ps.map pairD).map (atInt 0)) = ps.map (·.1) := by
  rw [List.map_map]; rfl
theorem at1 (ps : List (Int × Int)) : ((ps.map pairD).map (atInt 1)) = ps.map (·.2) := by
  rw [List.map_map]; rfl
theorem s_readings (k : Nat) (ps : List (Int × Int)) (st : Store) (hl : ps.length ≤ 400) : pg.run (k + 1) 8 [.int 2, .tup (ps.map pairD)] st = .ok (.tup [.int (ps.map (·.1)).sum, .int (ps.map (·.2)).sum]) st := by
  rw [r_readings_in _ _ _ rfl, ir_readings_in]
  have inner : ∀ (i : Int) (f : Int × Int → Int), (∀ p, L2.atI [D.int p.1, D.int p.2] i = some (.int (f p))) → lcE (den ⟨pg.run k, pg.cs⟩ (.walk (.var 1))).it (den ⟨pg.run k, pg.cs⟩ (.tvar 3)).g (den ⟨pg.run k, pg.cs⟩ .nil).t (den ⟨pg.run k, pg.cs⟩ (.ix (.var 3) (.var 2))).e [3]
      [.val (.int 2), .val (.tup (ps.map pairD)), .val (.int i), .un] st = .ok (.lst (ps.map fun p => .int (f p))) st := by
    intro i f hf
    have e := lc_map (fit := (den ⟨pg.run k, pg.cs⟩ (.walk (.var 1))).it) (fg := (den ⟨pg.run k, pg.cs⟩ (.tvar 3)).g) (gt := (den ⟨pg.run k, pg.cs⟩ .nil).t) (fe := (den ⟨pg.run k, pg.cs⟩ (.ix (.var 3) (.var 2))).e)
      (vs := [3]) (ρ := [.val (.int 2), .val (.tup (ps.map pairD)), .val (.int i), .un]) (st := st) (ps.map pairD) (fun x => match x with | .tup es => (L2.atI es i).getD .non | _ => .non) (by simp) (small_line (by simp; omega))
      (fun x hx => by
        obtain ⟨p, _, rfl⟩ := List.mem_map.mp hx
        simp [lcT, wipeE, pairD, hf p])
    rw [e, List.map_map]
    congr 2
    apply List.map_congr_left
    intro p _
    simp [pairD, hf p]
  have i0 := inner 0 (·.1) (fun p => rfl)
  have i1 := inner 1 (·.2) (fun p => rfl)
  have e := lc_map (fit := (den ⟨pg.run k, pg.cs⟩ (.rng1 (.var 0))).it) (fg := (den ⟨pg.run k, pg.cs⟩ (.tvar 2)).g) (gt := (den ⟨pg.run k, pg.cs⟩ .nil).t)
    (fe := (den ⟨pg.run k, pg.cs⟩ (.blt .sum (.cons (.lc [("beat", 3)] (.ix (.var 3) (.var 2)) (.tvar 3) (.walk (.var 1)) .nil) .nil))).e)
    (vs := [2]) (ρ := [.val (.int 2), .val (.tup (ps.map pairD)), .un, .un]) (st := st) [.int 0, .int 1] (fun x => match x with | .int 0 => .int (ps.map (·.1)).sum | _ => .int (ps.map (·.2)).sum)
    (by rw [it_rng1]; simp [rng1_ok (n := 2) (by decide) (by decide), rng2]) (by decide)
    (fun x hx => by
      simp at hx
      rcases hx with rfl | rfl
      · simp [lcT, wipeE, i0, blt_sum]
      · simp [lcT, wipeE, i1, blt_sum])
  simp [e]
theorem s_require_lease (k : Nat) (s l m : Int) (st : Store) (h1 : 1 ≤ s) (h2 : s ≤ 6) (h3 : 0 ≤ l) (h4 : l ≤ 399) (h5 : 0 ≤ m) (h6 : m ≤ 399) : pg.run (k + 5) 11 [.int s, .int l, .int m] st = .ok .non st := by
  have e : pg.run (k + 4) 10 [.int s] st = .ok .non st := by simp [r_require_spread, ir_require_spread, s_require_from, h1, h2]
  simp [r_require_lease, ir_require_lease, s_require_from, e, h3, h4, h5, h6]
theorem s_is_breaking (k : Nat) (s l m : Int) (v : D) (st : Store) (h1 : 1 ≤ s) (h2 : s ≤ 6) (h3 : 0 ≤ l) (h4 : l ≤ 399) (h5 : 0 ≤ m) (h6 : m ≤ 399) (h : g2 v = true) : pg.run (k + 6) 15 [.int s, .int l, .int m, v] st = .ok (.bl (breakB s l m v)) st := by
  rw [r_is_breaking_course _ _ _ rfl, ir_is_breaking_course]
  have e1 := s_require_lease k s l m st h1 h2 h3 h4 h5 h6
  have e2 := s_course_in (k + 1) s 2 v st h
  cases q : courseB s 2 v with
  | false =>
    have : breakB s l m v = false := by
      cases v with
      | tup ds => simp [breakB, q]
      | _ => rfl
    simp [e1, e2, q, this]
  | true =>
    cases v with
    | tup ds =>
      have q' := q
      simp [courseB] at q'
      obtain ⟨ps, rfl⟩ := pairs_of (s := s) ds (by simpa using q'.2)
      have e3 := s_readings (k + 4) ps st (by simpa using q'.1)
      have b : breakB s l m (.tup (ps.map pairD)) = (decide ((ps.map (·.1)).sum ≤ m) && decide (l < (ps.map (·.2)).sum)) := by
        show (courseB s 2 (.tup (ps.map pairD)) && (decide (((ps.map pairD).map (atInt 0)).sum ≤ m) && decide (l < ((ps.map pairD).map (atInt 1)).sum))) = _
        rw [q, at0, at1]
        rfl
      rw [b]
      by_cases z : (ps.map (·.1)).sum ≤ m <;> simp [e1, e2, q, e3, z]
    | _ => cases q
theorem s_is_beat (k : Nat) (s : Int) (v : D) (st : Store) (h : g1 v = true) : pg.run (k + 1) 19 [.int s, v] st = .ok (.bl (areR v 1 s && lenE v 2)) st := by
  rw [r__law_is_beat _ _ _ rfl, ir__law_is_beat]
  unfold g1 at h
  rw [Bool.and_eq_true] at h
  obtain ⟨hf, h⟩ := h
  cases v <;> first | (cases hf; done) | skip
  case tup ds =>
    simp at h
    have key : ∀ x : D, x.flat = true → lcT (den ⟨pg.run k, pg.cs⟩ (.tvar 2)).g (den ⟨pg.run k, pg.cs⟩ .nil).t (den ⟨pg.run k, pg.cs⟩ (.and_ (.isin (.var 2) .int) (.and_ (.not_ (.isin (.var 2) .bool)) (.chain .LtE .LtE (.int 1) (.var 2) (.var 0))))).e
        (wipeE [.val (.int s), .val (.tup ds), .un] [2]) x st = .ok (some (.bl (inR x 1 s))) st := by
      intro x hx
      have hi := isin_flat st hx
      cases x <;> first | (cases hx; done) | skip
      case int n => by_cases z : 1 ≤ n <;> simp [lcT, wipeE, hi, isTy, inR, z]
      all_goals simp [lcT, wipeE, hi, isTy, inR]
    by_cases hz : (ds.length : Int) = 2
    · have e := lc_map (fit := (den ⟨pg.run k, pg.cs⟩ (.walk (.var 1))).it) (fg := (den ⟨pg.run k, pg.cs⟩ (.tvar 2)).g) (gt := (den ⟨pg.run k, pg.cs⟩ .nil).t)
        (fe := (den ⟨pg.run k, pg.cs⟩ (.and_ (.isin (.var 2) .int) (.and_ (.not_ (.isin (.var 2) .bool)) (.chain .LtE .LtE (.int 1) (.var 2) (.var 0))))).e)
        (vs := [2]) (ρ := [.val (.int s), .val (.tup ds), .un]) (st := st) ds (fun x => .bl (inR x 1 s)) (by simp) (small_line h.2)
        (fun x hx => key x (h.1 x hx))
      simp [isin_flat st hf, isTy, e, blt_all, areR, lenE, hz]
    · simp [isin_flat st hf, isTy, areR, lenE, hz]
  all_goals simp [isin_flat st hf, isTy, areR]

theorem strict_of_flat {x : D} (h : x.flat = true) : x.strict = true := by cases x <;> first | rfl | cases h
theorem flat_of_g1 {x : D} (h : g1 x = true) : x.flat = true := by
  unfold g1 at h
  rw [Bool.and_eq_true] at h
  exact h.1
theorem s_breaks (k : Nat) (s l m : Int) (v : D) (st : Store) (h : g2 v = true) : pg.run (k + 2) 20 [.int s, .int l, .int m, v] st = .ok (.bl (breakB s l m v)) st := by
  rw [r__law_breaks _ _ _ rfl, ir__law_breaks]
  unfold g2 at h
  rw [Bool.and_eq_true] at h
  obtain ⟨hf, h⟩ := h
  cases v <;> first | (cases hf; done) | skip
  case tup ds =>
    simp at h
    by_cases hz : ds.length ≤ 400
    · have e := lc_map (fit := (den ⟨pg.run (k + 1), pg.cs⟩ (.walk (.var 3))).it) (fg := (den ⟨pg.run (k + 1), pg.cs⟩ (.tvar 4)).g) (gt := (den ⟨pg.run (k + 1), pg.cs⟩ .nil).t) (fe := (den ⟨pg.run (k + 1), pg.cs⟩ (.call 19 (.cons (.var 0) (.cons (.var 4) .nil)))).e)
        (vs := [4]) (ρ := [.val (.int s), .val (.int l), .val (.int m), .val (.tup ds), .un]) (st := st) ds (fun x => .bl (areR x 1 s && lenE x 2)) (by simp) (small_line h.2)
        (fun x hx => by
          have hx := h.1 x hx
          simp [lcT, wipeE, strict_of_flat (flat_of_g1 hx), s_is_beat k s x st hx])
      have hz' : ¬ (400 : Int) < ds.length := by omega
      cases q : ds.all fun x => areR x 1 s && lenE x 2 with
      | false =>
        have b : breakB s l m (.tup ds) = false := by
          show (courseB s 2 (.tup ds) && _) = false
          have : courseB s 2 (.tup ds) = false := by
            show (decide (ds.length ≤ 400) && ds.all fun d => areR d 1 s && lenE d 2) = false
            rw [q, Bool.and_false]
          rw [this]
          rfl
        rw [b]
        have e2 := blt_all st (fun x => areR x 1 s && lenE x 2) ds
        rw [q] at e2
        simp [isin_flat st hf, isTy, e, e2, hz']
      | true =>
        obtain ⟨ps, rfl⟩ := pairs_of (s := s) ds q
        have c : courseB s 2 (.tup (ps.map pairD)) = true := by
          show (decide ((ps.map pairD).length ≤ 400) && (ps.map pairD).all fun d => areR d 1 s && lenE d 2) = true
          rw [q, decide_eq_true hz]
          rfl
        have b : breakB s l m (.tup (ps.map pairD)) = (decide ((ps.map (·.1)).sum ≤ m) && decide (l < (ps.map (·.2)).sum)) := by
          show (courseB s 2 (.tup (ps.map pairD)) && (decide (((ps.map pairD).map (atInt 0)).sum ≤ m) && decide (l < ((ps.map pairD).map (atInt 1)).sum))) = _
          rw [c, at0, at1]
          rfl
        rw [b]
        have hl : ps.length ≤ 400 := by simpa using hz
        have sums : ∀ (i : Int) (f : Int × Int → Int), (∀ p, L2.atI [D.int p.1, D.int p.2] i = some (.int (f p))) → lcE (den ⟨pg.run (k + 1), pg.cs⟩ (.walk (.var 3))).it (den ⟨pg.run (k + 1), pg.cs⟩ (.tvar 4)).g (den ⟨pg.run (k + 1), pg.cs⟩ .nil).t (den ⟨pg.run (k + 1), pg.cs⟩ (.ix (.var 4) (.int i))).e [4]
            [.val (.int s), .val (.int l), .val (.int m), .val (.tup (ps.map pairD)), .un] st = .ok (.lst (ps.map fun p => .int (f p))) st := by
          intro i f hf
          have e := lc_map (fit := (den ⟨pg.run (k + 1), pg.cs⟩ (.walk (.var 3))).it) (fg := (den ⟨pg.run (k + 1), pg.cs⟩ (.tvar 4)).g) (gt := (den ⟨pg.run (k + 1), pg.cs⟩ .nil).t) (fe := (den ⟨pg.run (k + 1), pg.cs⟩ (.ix (.var 4) (.int i))).e)
            (vs := [4]) (ρ := [.val (.int s), .val (.int l), .val (.int m), .val (.tup (ps.map pairD)), .un]) (st := st) (ps.map pairD) (fun x => match x with | .tup es => (L2.atI es i).getD .non | _ => .non) (by simp) (small_line (by simp; omega))
            (fun x hx => by
              obtain ⟨p, _, rfl⟩ := List.mem_map.mp hx
              simp [lcT, wipeE, pairD, hf p])
          rw [e, List.map_map]
          congr 2
          apply List.map_congr_left
          intro p _
          simp [pairD, hf p]
        have s0 := sums 0 (·.1) (fun p => rfl)
        have s1 := sums 1 (·.2) (fun p => rfl)
        have e2 := blt_all st (fun x => areR x 1 s && lenE x 2) (ps.map pairD)
        rw [q] at e2
        have t0 := blt_sum st (fun p : Int × Int => p.1) ps
        have t1 := blt_sum st (fun p : Int × Int => p.2) ps
        have hz2 : ¬ (400 : Int) < ps.length := by omega
        generalize (ps.map pairD).map (fun x => D.bl (areR x 1 s && lenE x 2)) = LB at e e2
        by_cases z : (ps.map (·.1)).sum ≤ m <;> simp [isin_flat st hf, isTy, e, e2, hz2, s0, s1, t0, t1, z]
    · have hz' : (400 : Int) < ds.length := by omega
      have b : breakB s l m (.tup ds) = false := by
        show (courseB s 2 (.tup ds) && _) = false
        have : courseB s 2 (.tup ds) = false := by
          show (decide (ds.length ≤ 400) && ds.all fun d => areR d 1 s && lenE d 2) = false
          rw [decide_eq_false hz]
          rfl
        rw [this]
        rfl
      simp [isin_flat st hf, isTy, hz', b]
  all_goals simp [isin_flat st hf, isTy, breakB]
def fastD (s q : Int) : List D := (List.replicate q.toNat [pairD (1, s)]).flatten
theorem fast_eq (s q : Int) : fastD s q = (List.replicate q.toNat (1, s)).map pairD := by
  unfold fastD
  induction q.toNat with
  | zero => rfl
  | succ n ih => rw [List.replicate_succ, List.flatten_cons, ih]; rfl
theorem s_breaking (k : Nat) (s l m : Int) (st : Store) (h1 : 1 ≤ s) (h2 : s ≤ 6) (h3 : 0 ≤ l) (h4 : l ≤ 399) (h5 : 0 ≤ m) (h6 : m ≤ 399) : pg.run (k + 6) 14 [.int s, .int l, .int m] st = .ok (if m ≤ l / s then .non else .tup (fastD s (l / s + 1))) st := by
  have e := s_require_lease k s l m st h1 h2 h3 h4 h5 h6
  have d0 : 0 ≤ l / s := Int.ediv_nonneg h3 (by omega)
  have d1 : l / s ≤ 399 := Int.le_trans (Int.ediv_le_self s h3) h4
  have e2 := bin_div st (i := l) (j := s) (by omega) (.of (by omega) (by omega))
  rw [r_breaking_course _ _ _ rfl, ir_breaking_course]
  generalize l / s = q at *
  have e3 := mul_tup st [.tup [.int 1, .int s]] (q + 1) ⟨by omega, by omega, by simp⟩
  by_cases z : m ≤ q <;> simp [e, e2, e3, z, fastD, pairD]
theorem s_can (k : Nat) (s l m : Int) (st : Store) (h1 : 1 ≤ s) (h2 : s ≤ 6) (h3 : 0 ≤ l) (h5 : 0 ≤ m) (h6 : m ≤ 399) : pg.run (k + 1) 21 [.int s, .int l, .int m] st = .ok (.bl (decide (l / s < m))) st := by
  have iff : l / s < m ↔ l < s * m := by
    rw [Int.ediv_lt_iff_lt_mul (by omega), Int.mul_comm]
  let f : D → Option D := fun x => match x with | .int b => if b ≤ 400 ∧ l < s * b then some (.int b) else none | _ => none
  have e := lc_filter (fit := (den ⟨pg.run k, pg.cs⟩ (.rng1 (.bin .Add (.var 2) (.int 1)))).it) (fg := (den ⟨pg.run k, pg.cs⟩ (.tvar 3)).g) (gt := (den ⟨pg.run k, pg.cs⟩ (.ts1 (.and_ (.cmp .LtE (.var 3) (.int 400)) (.cmp .Gt (.bin .Mult (.var 0) (.var 3)) (.var 1))))).t) (fe := (den ⟨pg.run k, pg.cs⟩ (.var 3)).e)
    (vs := [3]) (ρ := [.val (.int s), .val (.int l), .val (.int m), .un]) (st := st) (rngD 0 (m + 1).toNat) f (by rw [it_rng1]; simp [rng1_ok (n := m + 1) (by omega) (by omega)]) (small_line (by rw [rngD_len]; omega))
    (fun x hx => by
      obtain ⟨i, hi, rfl⟩ := rngD_mem hx
      have hb : binD .Mult (.int s) (.int (0 + (i : Int))) st = some (.int (s * (0 + (i : Int)))) := bin_mul st (.of (by omega) (by omega)) (.of (by omega) (by omega))
      generalize hI : (0 : Int) + (i : Int) = I at *
      have hI4 : I ≤ 400 := by omega
      by_cases z : l < s * I <;> simp [lcT, wipeE, f, hb, z, hI4])
  have allI : ∀ xs : List D, (∀ x ∈ xs, ∃ i : Int, x = .int i) → ∃ ns : List Int, xs = ns.map D.int := by
    intro xs
    induction xs with
    | nil => exact fun _ => ⟨[], rfl⟩
    | cons x xs ih =>
      intro h
      obtain ⟨i, rfl⟩ := h x (by simp)
      obtain ⟨ns, rfl⟩ := ih fun y hy => h y (by simp [hy])
      exact ⟨i :: ns, rfl⟩
  obtain ⟨ns, hns⟩ := allI ((rngD 0 (m + 1).toNat).filterMap f) (fun x hx => by
    obtain ⟨y, hy, e⟩ := List.mem_filterMap.mp hx
    obtain ⟨i, hi, rfl⟩ := rngD_mem hy
    simp only [f] at e
    split at e
    · exact ⟨_, (Option.some.inj e).symm⟩
    · cases e)
  have emp : ns = [] ↔ ¬ l / s < m := by
    rw [iff]
    constructor
    · intro z hm
      subst z
      have hmem : D.int m ∈ (rngD 0 (m + 1).toNat).filterMap f := by
        refine List.mem_filterMap.mpr ⟨.int m, ?_, ?_⟩
        · unfold rngD
          exact List.mem_map.mpr ⟨m.toNat, List.mem_range.mpr (by omega), by congr 1; omega⟩
        · show (if m ≤ 400 ∧ l < s * m then some (D.int m) else none) = some (.int m)
          rw [if_pos ⟨by omega, hm⟩]
      rw [hns] at hmem
      cases hmem
    · intro hm
      cases ns with
      | nil => rfl
      | cons n ns =>
        exfalso
        have hmem : D.int n ∈ (rngD 0 (m + 1).toNat).filterMap f := by rw [hns]; simp
        obtain ⟨y, hy, e⟩ := List.mem_filterMap.mp hmem
        obtain ⟨i, hi, rfl⟩ := rngD_mem hy
        simp only [f] at e
        split at e
        · rename_i z
          refine hm (Int.lt_of_lt_of_le z.2 (Int.mul_le_mul_of_nonneg_left (by omega) (by omega)))
        · cases e
  rw [hns] at e
  have q := eq_lints st ns []
  have q2 : cmpD .NotEq (.lst (ns.map D.int)) (.lst []) st = some (decide (l / s < m)) := by
    show (cmpD .Eq (.lst (ns.map D.int)) (.lst ([].map D.int)) st).map not = _
    rw [q]
    by_cases z : ns = [] <;> by_cases z2 : l / s < m <;> simp_all
  rw [r__law_can_break _ _ _ rfl, ir__law_can_break]
  simp [e, q2]

theorem s_roll (k : Nat) : Rolls (pg.run (k + 1) 17) := rolls _
theorem s_pick (k : Nat) (st : Store) (r n : Nat) (d : D) (ds : List D) (hd : rowOf d = some ds) (h0 : ds ≠ []) (h1 : ds.length < 2 ^ 60) (hs : ∀ d ∈ ds, d.strict = true) (h : Dice (n + 1) st r) :
    ∃ (st' : Store) (x : D), x ∈ ds ∧ pg.run (k + 2) 18 [.ref r, d] st = .ok x st' ∧ Dice n st' r ∧ st'.length = st.length ∧ ∀ j, j ≠ r → st'[j]? = st[j]? := pick_run _ 17 (s_roll k) st r n d ds hd h0 h1 hs h
theorem g2_tup {xs : List D} (h : xs.all g1 = true) (hl : xs.length < 1000) : g2 (.tup xs) = true := by
  show (true && (xs.all g1 && decide (xs.length < 1000))) = true
  rw [h, decide_eq_true hl]
  rfl
theorem g1_pair (p : Int × Int) : g1 (pairD p) = true := rfl
theorem fast_g (s q : Int) : (fastD s q).all g1 = true := by
  rw [fast_eq, List.all_map, List.all_eq_true]
  intro p _
  exact g1_pair p
theorem pairs_g (ps : List (Int × Int)) : (ps.map pairD).all g1 = true := by
  rw [List.all_map, List.all_eq_true]
  intro p _
  exact g1_pair p
theorem fast_len (s q : Int) : (fastD s q).length = q.toNat := by rw [fast_eq]; simp
theorem drop_g {xs : List D} (h : xs.all g1 = true) (n : Nat) : (xs.drop n).all g1 = true := by
  rw [List.all_eq_true] at h ⊢
  exact fun x hx => h x (List.mem_of_mem_drop hx)
/-- .. the near values -/
theorem s_near (k r n : Nat) (s l m : Int) (st : Store) (h1 : 1 ≤ s) (h2 : s ≤ 6) (h3 : 0 ≤ l) (h4 : l ≤ 399) (h : Dice (n + 81) st r) :
    ∃ (st' : Store) (vs : List D), pg.run (k + 2) 22 [.ref r, .int s, .int l, .int m] st = .ok (.lst vs) st' ∧ (∀ v ∈ vs, g2 v = true) ∧ vs.length ≤ 100 ∧ Dice n st' r := by
  have d0 : 0 ≤ l / s := Int.ediv_nonneg h3 (by omega)
  have d1 : l / s ≤ 399 := Int.le_trans (Int.ediv_le_self s h3) h4
  have e1 := bin_div st (i := l) (j := s) (by omega) (.of (by omega) (by omega))
  generalize hq : l / s = q0 at *
  generalize hq2 : q0 + 1 = q at *
  have e2 : binD .Mult (.tup [.tup [.int 1, .int s]]) (.int q) st = some (.tup (fastD s q)) := mul_tup st [.tup [.int 1, .int s]] q ⟨by omega, by omega, by simp⟩
  have hg := fast_g s q
  have hl := fast_len s q
  generalize hF : fastD s q = F at *
  have hl : F.length ≤ 400 := by omega
  have big : 1000 ≤ sizeLine := by decide
  have z1 : F.length + 1 ≤ sizeLine := by omega
  have c1 : cutD F (some 1) none = F.drop 1 := cut_from F 1
  generalize hG : F.drop 1 = F1 at *
  have hg1 : F1.all g1 = true := by rw [← hG]; exact drop_g hg 1
  have hl1 : F1.length ≤ 400 := by rw [← hG]; simp; omega
  have z3 : F1.length + 1 ≤ sizeLine := by omega
  have m3 : binD .Mult (.tup [.tup [.int s, .int 1]]) (.int q) st = some (.tup (List.replicate q.toNat [D.tup [.int s, .int 1]]).flatten) := mul_tup st _ q ⟨by omega, by omega, by simp⟩
  have e3 : (List.replicate q.toNat [D.tup [.int s, .int 1]]).flatten = (List.replicate q.toNat (s, (1 : Int))).map pairD := by
    induction q.toNat with
    | zero => rfl
    | succ n ih => rw [List.replicate_succ, List.flatten_cons, ih]; rfl
  rw [e3] at m3
  have hp3 := pairs_g (List.replicate q.toNat (s, (1 : Int)))
  have hl3 : ((List.replicate q.toNat (s, (1 : Int))).map pairD).length ≤ 400 := by simp; omega
  generalize (List.replicate q.toNat (s, (1 : Int))).map pairD = F3 at m3 hp3 hl3
  have m4 : ∀ (st : Store) (c : Int), 0 ≤ c → c ≤ 1000 → binD .Mult (.tup [.tup [.int 1, .int s]]) (.int c) st = some (.tup (fastD s c)) := fun st c z1 z2 => mul_tup st [.tup [.int 1, .int s]] c ⟨by omega, by omega, by simp⟩
  have f4 := fast_g s 400
  have f5 := fast_g s 401
  have l4 : (fastD s 400).length = 400 := fast_len s 400
  have l5 : (fastD s 401).length = 401 := fast_len s 401
  generalize hF4 : fastD s 400 = F4 at *
  generalize hF5 : fastD s 401 = F5 at *
  -- the first display
  obtain ⟨L1, hL1⟩ : ∃ L1 : List D, L1 = [.tup F, .tup F1, .tup (F ++ [.tup [.int 1, .int 1]]), .tup (F ++ [.tup [.int s, .int s]]), .lst F, .non, .tup [], .dic [] [], .int 0, .tup (F ++ [.int 1]), .tup (F ++ [.tup [.int 1]])] := ⟨_, rfl⟩
  obtain ⟨L2, hL2⟩ : ∃ L2 : List D, L2 = [.tup (F1 ++ [.tup [.int 1, .int (s + 1)]]), .tup (F1 ++ [.tup [.int 0, .int s]]), .tup (F1 ++ [.tup [.bl true, .int s]]), .tup F3] := ⟨_, rfl⟩
  have gS : ∀ (X : List D) (x : D), X.all g1 = true → X.length ≤ 402 → g1 x = true → g2 (.tup (X ++ [x])) = true := fun X x h1 h2 h3 => g2_tup (by rw [List.all_append, h1]; simp [h3]) (by simp; omega)
  have g1L : ∀ v ∈ L1, g2 v = true := by
    rw [hL1]
    simp only [List.forall_mem_cons]
    refine ⟨g2_tup hg (by omega), g2_tup hg1 (by omega), gS _ _ hg (by omega) rfl, gS _ _ hg (by omega) rfl, rfl, rfl, rfl, rfl, rfl, gS _ _ hg (by omega) rfl, gS _ _ hg (by omega) rfl, by simp⟩
  have g2L : ∀ v ∈ L2, g2 v = true := by
    rw [hL2]
    simp only [List.forall_mem_cons]
    exact ⟨gS _ _ hg1 (by omega) rfl, gS _ _ hg1 (by omega) rfl, gS _ _ hg1 (by omega) rfl, g2_tup hp3 (by omega), by simp⟩
  have len1 : L1.length = 11 := by rw [hL1]; rfl
  have len2 : L2.length = 4 := by rw [hL2]; rfl
  have sL1 : L1.all D.strict = true := by rw [hL1]; rfl
  -- the store at the loop
  have hr := h.lt
  obtain ⟨st2, hst2⟩ : ∃ st2 : Store, st2 = (st ++ [MO.ml L1]) ++ [MO.ml (L1 ++ L2 ++ [.tup F4] ++ [.tup F5])] := ⟨_, rfl⟩
  have hn2 : st2[st.length + 1]? = some (.ml (L1 ++ L2 ++ [.tup F4] ++ [.tup F5])) := by rw [hst2]; simp
  have hD2 : Dice (n + 81) st2 r := by rw [hst2]; exact (h.push _).push _
  obtain ⟨s3, c, e5, c0, c1', h3D, len3, oth3⟩ := s_roll k st2 r (n + 80) 40 (by decide) (by decide) hD2
  have loop := for_rng (body := forB ⟨pg.run (k + 1), pg.cs⟩ (.tvar 8) (.cons (.chg .append 7 (.cons (.tup (.cons (.bin .Add (.int 1) (.call 17 (.cons (.var 0) (.cons (.var 1) .nil)))) (.cons (.bin .Add (.int 1) (.call 17 (.cons (.var 0) (.cons (.var 1) .nil)))) .nil))) .nil)) .nil))
    (fun i ρ u => ∃ (ps : List (Int × Int)) (z : DL.Slot), ps.length = i ∧ ρ = [.val (.ref r), .val (.int s), .val (.int l), .val (.int m), .val (.int q), .val (.tup F), .val (.ref (st.length + 1)), .own (.ml (ps.map pairD)), z, .un] ∧ Dice (n + 80 - 2 * i) u r ∧ u[st.length + 1]? = some (.ml (L1 ++ L2 ++ [.tup F4] ++ [.tup F5])))
    c.toNat (ρ := [.val (.ref r), .val (.int s), .val (.int l), .val (.int m), .val (.int q), .val (.tup F), .val (.ref (st.length + 1)), .own (.ml []), .un, .un]) (st := s3) ⟨[], .un, rfl, rfl, h3D, by rw [oth3 _ (by omega)]; exact hn2⟩
    (fun i hi ρ u hI => by
      obtain ⟨ps, z, hps, rfl, hd, hu⟩ := hI
      obtain ⟨u1, x1, a1, b1, b2, d1, l1, o1⟩ := s_roll k u r (n + 80 - 2 * i - 1) s (by omega) (by omega) (hd.mono (by omega))
      obtain ⟨u2, x2, a2, b3, b4, d2, l2, o2⟩ := s_roll k u1 r (n + 80 - 2 * (i + 1)) s (by omega) (by omega) (d1.mono (by omega))
      refine ⟨[.val (.ref r), .val (.int s), .val (.int l), .val (.int m), .val (.int q), .val (.tup F), .val (.ref (st.length + 1)), .own (.ml ((ps ++ [(1 + x1, 1 + x2)]).map pairD)), .val (.int i), .un], u2, ?_, ps ++ [(1 + x1, 1 + x2)], .val (.int i), by simp [hps], rfl, d2, by rw [o2 _ (by omega), o1 _ (by omega)]; exact hu⟩
      have hz : (ps.map pairD).length < sizeLine := by simp; omega
      have hm : mutD .append [.tup [.int (1 + x1), .int (1 + x2)]] (.ml (ps.map pairD)) = some (.ml (ps.map pairD ++ [.tup [.int (1 + x1), .int (1 + x2)]])) := by
        show (if _ then _ else _) = _
        rw [if_pos (by rw [decide_eq_true hz]; rfl)]
      unfold forB
      simp only [g_tvar, strict_int, if_true, R.bind_ok, List.set_cons_succ, List.set_cons_zero, s_cons]
      rw [s_chgO (h := by rfl)]
      simp [a1, a2, hm, pairD])
  obtain ⟨ρ', st', eL, ps, z, hps, rfl, hD', hu'⟩ := loop
  have hp := pairs_g ps
  have hpl : ps.length < 40 := by omega
  have comp := lc_map (fit := (den ⟨pg.run (k + 1), pg.cs⟩ (.walk (.var 7))).it) (fg := (den ⟨pg.run (k + 1), pg.cs⟩ (.tvar 9)).g) (gt := (den ⟨pg.run (k + 1), pg.cs⟩ .nil).t) (fe := (den ⟨pg.run (k + 1), pg.cs⟩ (.tup (.cons (.int 1) (.cons (.ix (.var 9) (.int 1)) .nil)))).e)
    (vs := [9]) (ρ := [.val (.ref r), .val (.int s), .val (.int l), .val (.int m), .val (.int q), .val (.tup F), .val (.ref (st.length + 1)), .val (.lst (ps.map pairD)), z, .un]) (st := st') (ps.map pairD) (fun x => pairD (1, atInt 1 x)) (by simp) (small_line (by simp; omega))
    (fun x hx => by
      obtain ⟨p, _, rfl⟩ := List.mem_map.mp hx
      have : _root_.L2.atI [D.int p.1, D.int p.2] 1 = some (.int p.2) := rfl
      simp [lcT, wipeE, pairD, this, atInt])
  refine ⟨st', L1 ++ L2 ++ [.tup F4] ++ [.tup F5] ++ [.tup (ps.map pairD), .tup ((ps.map pairD).map fun x => pairD (1, atInt 1 x))], ?_, ?_, ?_, hD'.mono (by omega)⟩
  · rw [r__law_near _ _ _ rfl, ir__law_near]
    refine (congrArg (fun x => R.bind x endR) (?_ : _ = R.ok (.rt _) st')).trans rfl
    refine seq_ok (ρ1 := [.val (.ref r), .val (.int s), .val (.int l), .val (.int m), .val (.int q), .un, .un, .un, .un, .un]) (st1 := st) (by simp [e1, hq2]) ?_
    refine seq_ok (ρ1 := [.val (.ref r), .val (.int s), .val (.int l), .val (.int m), .val (.int q), .val (.tup F), .un, .un, .un, .un]) (st1 := st) (by simp [e2]) ?_
    refine seq_ok (ρ1 := [.val (.ref r), .val (.int s), .val (.int l), .val (.int m), .val (.int q), .val (.tup F), .val (.ref st.length), .un, .un, .un]) (st1 := st ++ [.ml L1]) (by simp [c1, z1, hL1]) ?_
    have q1 : (st ++ [MO.ml L1])[st.length]? = some (.ml L1) := by simp
    have a1 : seqB .Add (.ref st.length) (.lst L2) (st ++ [MO.ml L1]) = some (.lst (L1 ++ L2)) := by
      simp [seqB, isTup, seqOf, len1, len2]
    have m3' : ∀ st, binD .Mult (.tup [.tup [.int s, .int 1]]) (.int q) st = some (.tup F3) := fun _ => m3
    refine seq_ok (ρ1 := [.val (.ref r), .val (.int s), .val (.int l), .val (.int m), .val (.int q), .val (.tup F), .val (.ref (st.length + 1)), .un, .un, .un]) (st1 := (st ++ [MO.ml L1]) ++ [MO.ml (L1 ++ L2)]) (by rw [hL2] at a1; simp [c1, z3, m3', a1, addRD, hL2]) ?_
    obtain ⟨sA, hsA⟩ : ∃ sA : Store, sA = (st ++ [MO.ml L1]) ++ [MO.ml (L1 ++ L2)] := ⟨_, rfl⟩
    rw [← hsA]
    have qA : sA[st.length + 1]? = some (.ml (L1 ++ L2)) := by rw [hsA]; simp
    refine seq_ok (ρ1 := [.val (.ref r), .val (.int s), .val (.int l), .val (.int m), .val (.int q), .val (.tup F), .val (.ref (st.length + 1)), .un, .un, .un]) (st1 := sA.set (st.length + 1) (.ml (L1 ++ L2 ++ [.tup F4]))) (chg_app (by rfl) qA (by simp [m4 _ 400 (by decide) (by decide), hF4]) qA rfl (by rw [List.length_append, len1, len2]; decide)) ?_
    obtain ⟨sB, hsB⟩ : ∃ sB : Store, sB = sA.set (st.length + 1) (.ml (L1 ++ L2 ++ [.tup F4])) := ⟨_, rfl⟩
    rw [← hsB]
    have qB : sB[st.length + 1]? = some (.ml (L1 ++ L2 ++ [.tup F4])) := by rw [hsB, hsA]; simp
    refine seq_ok (ρ1 := [.val (.ref r), .val (.int s), .val (.int l), .val (.int m), .val (.int q), .val (.tup F), .val (.ref (st.length + 1)), .un, .un, .un]) (st1 := sB.set (st.length + 1) (.ml (L1 ++ L2 ++ [.tup F4] ++ [.tup F5]))) (chg_app (by rfl) qB (by simp [m4 _ 401 (by decide) (by decide), hF5]) qB rfl (by rw [List.length_append, List.length_append, len1, len2]; show 16 < sizeLine; decide)) ?_
    have eS : sB.set (st.length + 1) (.ml (L1 ++ L2 ++ [.tup F4] ++ [.tup F5])) = st2 := by
      rw [hsB, hsA, hst2]
      simp
    rw [eS]
    refine seq_ok (ρ1 := [.val (.ref r), .val (.int s), .val (.int l), .val (.int m), .val (.int q), .val (.tup F), .val (.ref (st.length + 1)), .own (.ml []), .un, .un]) (st1 := st2) (by simp) ?_
    refine seq_ok (ρ1 := [.val (.ref r), .val (.int s), .val (.int l), .val (.int m), .val (.int q), .val (.tup F), .val (.ref (st.length + 1)), .own (.ml (ps.map pairD)), z, .un]) (st1 := st') (by simp [e5, rng1_ok (n := c) (by omega) (by omega), eL]) ?_
    refine seq_rt ?_
    rw [s_frz (h := by rfl)]
    have a2 : seqB .Add (.ref (st.length + 1)) (.lst [.tup (ps.map pairD), .tup ((ps.map pairD).map fun x => pairD (1, atInt 1 x))]) st' = some (.lst (L1 ++ L2 ++ [.tup F4] ++ [.tup F5] ++ [.tup (ps.map pairD), .tup ((ps.map pairD).map fun x => pairD (1, atInt 1 x))])) := by
      simp [seqB, isTup, seqOf, hu', len1, len2]
    have a3 : binD .Add (.ref (st.length + 1)) (.lst [.tup (ps.map pairD), .tup ((ps.map pairD).map fun x => pairD (1, atInt 1 x))]) st' = some (.lst (L1 ++ L2 ++ [.tup F4] ++ [.tup F5] ++ [.tup (ps.map pairD), .tup ((ps.map pairD).map fun x => pairD (1, atInt 1 x))])) := a2
    generalize (ps.map pairD).map (fun x => pairD (1, atInt 1 x)) = PQ at *
    generalize L1 ++ L2 ++ [.tup F4] ++ [.tup F5] ++ [.tup (ps.map pairD), .tup PQ] = OUT at *
    generalize ps.map pairD = PP at *
    simp [comp, a3]
  · intro v hv
    simp only [List.mem_append, List.mem_cons, List.not_mem_nil, or_false] at hv
    rcases hv with (((hv | hv) | rfl) | rfl) | rfl | rfl
    · exact g1L v hv
    · exact g2L v hv
    · exact g2_tup f4 (by omega)
    · exact g2_tup f5 (by omega)
    · exact g2_tup hp (by simp; omega)
    · refine g2_tup ?_ (by simp; omega)
      rw [List.all_map, List.all_eq_true]
      intro x _
      rfl
  · simp [len1, len2]

theorem str_ne (st : Store) (b : Bool) : cmpD .NotEq (.str (if b then "True" else "False")) (.str (if b then "True" else "False")) st = some false := by
  have key : ∀ x : Str, PyData.strOk x = true → cmpD .NotEq (.str x) (.str x) st = some false := by
    intro x h
    have hs : SeqAt.shaped (.str x) = true := by simp [SeqAt.shaped, PyData.canLay0, PyData.depth, h]
    show (if SeqAt.shaped (.str x) && SeqAt.shaped (.str x) then some (PyData.eqv (.str x) (.str x)) else none).map not = _
    rw [hs]
    simp [PyData.eqv]
  cases b
  · exact key _ (by decide +kernel)
  · exact key _ (by decide +kernel)
theorem s_held_for (k : Nat) (s l : Int) (st : Store) (h1 : 1 ≤ s) (h2 : s ≤ 6) (h3 : 0 ≤ l) (h4 : l < 10 ^ 60) : pg.run (k + 5) 12 [.int s, .int l] st = .ok (.int (l / s)) st := by
  have e : pg.run (k + 4) 10 [.int s] st = .ok .non st := by simp [r_require_spread, ir_require_spread, s_require_from, h1, h2]
  have e3 := s_require_tick k l st h3 h4
  have e2 := bin_div st (i := l) (j := s) (by omega) (.of (by omega) (by omega))
  simp [r_held_for, ir_held_for, e, e3, e2]
theorem pow_small {s : Int} (h1 : 1 ≤ s) (h2 : s ≤ 6) {n : Nat} (hn : n ≤ 20) : 1 ≤ s ^ n ∧ s ^ n ≤ 6 ^ 20 := by
  have a : ∀ n : Nat, 1 ≤ s ^ n ∧ s ^ n ≤ 6 ^ n := by
    intro n
    induction n with
    | zero => simp
    | succ n ih =>
      rw [Int.pow_succ, Int.pow_succ]
      obtain ⟨i1, i2⟩ := ih
      constructor
      · exact Int.le_trans (by omega) (Int.mul_le_mul i1 h1 (by omega) (by omega))
      · exact Int.mul_le_mul i2 h2 (by omega) (by omega)
  obtain ⟨a1, a2⟩ := a n
  refine ⟨a1, Int.le_trans a2 ?_⟩
  have : (6 : Nat) ^ n ≤ 6 ^ 20 := Nat.pow_le_pow_right (by omega) hn
  exact_mod_cast this
theorem s_power_in (k : Nat) (s m : Int) (st : Store) (h1 : 1 ≤ s) (h2 : s ≤ 6) (h3 : 0 ≤ m) (h4 : m ≤ 20) : pg.run (k + 1) 9 [.int s, .int m] st = .ok (.int (s ^ m.toNat)) st := by
  have hw := while_ok (c := (den ⟨pg.run k, pg.cs⟩ (.cmp .Gt (.var 3) (.int 0))).t) (body := (den ⟨pg.run k, pg.cs⟩ (.cons (.par2 2 3 (.bin .Mult (.var 2) (.var 0)) (.bin .Sub (.var 3) (.int 1))) .nil)).s)
    (I := fun n ρ t => t = st ∧ n ≤ m.toNat ∧ ρ = [.val (.int s), .val (.int m), .val (.int (s ^ (m.toNat - n))), .val (.int n)])
    (fun n ρ t h => by
      obtain ⟨rfl, hn, rfl⟩ := h
      have hp := pow_small h1 h2 (n := m.toNat - (n + 1)) (by omega)
      refine ⟨by simp, _, t, ?_, rfl, by omega, rfl⟩
      simp [bin_mul (st := t) (i := s ^ (m.toNat - (n + 1))) (j := s) (.of (by omega) (by omega)) (.of (by omega) (by omega))]
      rw [← Int.pow_succ]
      congr 1
      omega)
    (fun ρ t h => by
      obtain ⟨rfl, hn, rfl⟩ := h
      simp) m.toNat 1000000 [.val (.int s), .val (.int m), .val (.int 1), .val (.int m)] st (by omega) ⟨rfl, Nat.le_refl _, by simp; omega⟩
  obtain ⟨ρ', st', e, rfl, _, rfl⟩ := hw
  simp [r_power_in, ir_power_in, e]
theorem s_held_below (k : Nat) (s l d : Int) (st : Store) (h1 : 1 ≤ s) (h2 : s ≤ 6) (h3 : 0 ≤ l) (h4 : l < 10 ^ 60) (h5 : 0 ≤ d) (h6 : d ≤ 6) : pg.run (k + 5) 13 [.int s, .int l, .int d] st = .ok (.int (l / s ^ d.toNat)) st := by
  have e : pg.run (k + 4) 10 [.int s] st = .ok .non st := by simp [r_require_spread, ir_require_spread, s_require_from, h1, h2]
  have e3 := s_require_tick k l st h3 h4
  have e4 := s_require_from (k + 1) d 0 6 st h5 h6
  have e5 := s_power_in (k + 3) s d st h1 h2 h5 (by omega)
  have hp := pow_small h1 h2 (n := d.toNat) (by omega)
  have e2 := bin_div st (i := l) (j := s ^ d.toNat) (by omega) (.of (by omega) (by omega))
  generalize s ^ d.toNat = P at *
  simp [r_held_below, ir_held_below, e, e3, e4, e5, e2]
/-- the inner loop over the values -/
theorem vals_loop (k : Nat) (r : Nat) (s l m : Int) (st : Store) (h1 : 1 ≤ s) (h2 : s ≤ 6) (h3 : 0 ≤ l) (h4 : l ≤ 399) (h5 : 0 ≤ m) (h6 : m ≤ 399) (vs : List D) (hv : ∀ v ∈ vs, g2 v = true) (a b c d e f g z : DL.Slot) :
    ∃ z', forD (forB ⟨pg.run (k + 6), pg.cs⟩ (.tvar 7) (.cons (.if_ (.cmp .NotEq (.blt .repr (.cons (.call 15 (.cons (.var 1) (.cons (.var 2) (.cons (.var 4) (.cons (.var 7) .nil))))) .nil)) (.blt .repr (.cons (.call 20 (.cons (.var 1) (.cons (.var 2) (.cons (.var 4) (.cons (.var 7) .nil))))) .nil))) (.cons (.ret (.bool false)) .nil) .nil) .nil)) vs
      [a, .val (.int s), .val (.int l), b, .val (.int m), c, d, z, e, f, g, .un] st = .ok (.nx [a, .val (.int s), .val (.int l), b, .val (.int m), c, d, z', e, f, g, .un]) st := by
  obtain ⟨ρ', st', e1, rfl, z', rfl⟩ := for_ok (body := forB ⟨pg.run (k + 6), pg.cs⟩ (.tvar 7) (.cons (.if_ (.cmp .NotEq (.blt .repr (.cons (.call 15 (.cons (.var 1) (.cons (.var 2) (.cons (.var 4) (.cons (.var 7) .nil))))) .nil)) (.blt .repr (.cons (.call 20 (.cons (.var 1) (.cons (.var 2) (.cons (.var 4) (.cons (.var 7) .nil))))) .nil))) (.cons (.ret (.bool false)) .nil) .nil) .nil))
    (fun n ρ u => u = st ∧ ∃ z, ρ = [a, .val (.int s), .val (.int l), b, .val (.int m), c, d, z, e, f, g, .un]) (xs := vs) (ρ := [a, .val (.int s), .val (.int l), b, .val (.int m), c, d, z, e, f, g, .un]) (st := st) ⟨rfl, z, rfl⟩
    (fun x hx n ρ u h => by
      obtain ⟨rfl, z, rfl⟩ := h
      have hx := hv x hx
      have hs : x.strict = true := by cases x <;> first | rfl | cases hx
      have i1 := s_is_breaking k s l m x u h1 h2 h3 h4 h5 h6 hx
      have i2 := s_breaks (k + 4) s l m x u hx
      generalize breakB s l m x = B at i1 i2
      refine ⟨[a, .val (.int s), .val (.int l), b, .val (.int m), c, d, .val x, e, f, g, .un], u, ?_, rfl, .val x, rfl⟩
      have i3 := str_ne u B
      have i4 := blt_repr u B
      generalize (if B = true then ("True" : Str) else "False") = T at i3 i4
      simp [forB, hs, i1, i2, i4, i3])
  exact ⟨z', e1⟩

theorem fast_breaks (s l m : Int) (h1 : 1 ≤ s) (h3 : 0 ≤ l) (h6 : m ≤ 399) (hm : l / s < m) : breakB s l m (.tup (fastD s (l / s + 1))) = true := by
  have d0 : 0 ≤ l / s := Int.ediv_nonneg h3 (by omega)
  have lt := Int.lt_ediv_add_one_mul_self l (show 0 < s by omega)
  have hq : ((l / s + 1).toNat : Int) = l / s + 1 := by omega
  rw [fast_eq]
  have c : courseB s 2 (.tup ((List.replicate (l / s + 1).toNat ((1 : Int), s)).map pairD)) = true := by
    show (decide (_ ≤ 400) && _) = true
    rw [decide_eq_true (by simp; omega), Bool.true_and, List.all_map, List.all_eq_true]
    intro p hp
    have := List.eq_of_mem_replicate hp
    subst this
    simp [pairD, areR, inR, lenE, h1]
  show (courseB s 2 _ && (decide ((((List.replicate (l / s + 1).toNat ((1 : Int), s)).map pairD).map (atInt 0)).sum ≤ m) && decide (l < (((List.replicate (l / s + 1).toNat ((1 : Int), s)).map pairD).map (atInt 1)).sum))) = true
  rw [c, at0, at1, List.map_replicate, List.map_replicate]
  have sums : ∀ (n : Nat) (x : Int), (List.replicate n x).sum = n * x := by
    intro n x
    induction n with
    | zero => simp
    | succ n ih => rw [List.replicate_succ, List.sum_cons, ih, Int.natCast_succ, Int.add_mul]; omega
  rw [sums, sums, hq]
  simp
  exact ⟨by omega, lt⟩
theorem s_right (k : Nat) (st : Store) (r n : Nat) (h : Dice (n + 400) st r) : ∃ st', pg.run (k + 7) 23 [.ref r] st = .ok (.bl true) st' ∧ Dice n st' r := by
  obtain ⟨s1, x1, e1, a1, b1, d1, -, -⟩ := s_roll (k + 5) st r (n + 399) 6 (by decide) (by decide) h
  obtain ⟨s2, x2, e2, a2, b2, d2, -, -⟩ := s_roll (k + 5) s1 r (n + 398) 12 (by decide) (by decide) d1
  obtain ⟨s3, x3, e3, a3, b3, d3, -, -⟩ := s_roll (k + 5) s2 r (n + 397) 60 (by decide) (by decide) d2
  obtain ⟨s4, x4, e4, a4, b4, d4, -, -⟩ := s_roll (k + 5) s3 r (n + 396) 400 (by decide) (by decide) d3
  obtain ⟨s5, u, hu, e5, d5, -, -⟩ := s_pick (k + 4) s4 r (n + 395) (.lst [.int x2, .int x3, .int x4, .int 399, .int 0]) [.int x2, .int x3, .int x4, .int 399, .int 0] rfl (by simp) (by simp) (by simp) d4
  have hu : ∃ U : Int, u = .int U ∧ 0 ≤ U ∧ U ≤ 399 := by
    simp at hu
    rcases hu with rfl | rfl | rfl | rfl | rfl <;> exact ⟨_, rfl, by omega, by omega⟩
  obtain ⟨l, rfl, l0, l1⟩ := hu
  generalize hs : 1 + x1 = s
  have q1 : 1 ≤ s := by omega
  have q2 : s ≤ 6 := by omega
  have hdiv := bin_div s5 (i := l) (j := s) (by omega) (.of (by omega) (by omega))
  have g0 : 0 ≤ l / s := Int.ediv_nonneg l0 (by omega)
  have g1' : l / s ≤ 399 := Int.le_trans (Int.ediv_le_self s l0) l1
  obtain ⟨s6, x5, e6, a6, b6, d6, -, -⟩ := s_roll (k + 5) s5 r (n + 394) 400 (by decide) (by decide) d5
  obtain ⟨edge, hedge⟩ : ∃ E : Int, E = l / s := ⟨_, rfl⟩
  rw [← hedge] at hdiv g0 g1'
  generalize hmx : (if 1 < edge then edge - 1 else 0) = mx
  have mxr : 0 ≤ mx ∧ mx ≤ 399 := by omega
  -- the loop over the edges
  have loop := for_ok (body := forB ⟨pg.run (k + 6), pg.cs⟩ (.tvar 4) (.cons (.asg (.tvar 4) (.blt .min (.cons (.var 4) (.cons (.int 399) .nil))))
    (.cons (.par2 5 6 (.call 14 (.cons (.var 1) (.cons (.var 2) (.cons (.var 4) .nil)))) (.call 21 (.cons (.var 1) (.cons (.var 2) (.cons (.var 4) .nil)))))
    (.cons (.if_ (.or_ (.cmp .Eq (.cmp .Is (.var 5) .none) (.var 6)) (.and_ (.cmp .IsNot (.var 5) .none) (.not_ (.call 20 (.cons (.var 1) (.cons (.var 2) (.cons (.var 4) (.cons (.var 5) .nil)))))))) (.cons (.ret (.bool false))
    .nil) .nil)
    (.cons (.for_ (.tvar 7) (.walk (.bin .Add (.lst false (.cons (.var 5) .nil)) (.call 22 (.cons (.var 0) (.cons (.var 1) (.cons (.var 2) (.cons (.var 4) .nil))))))) (.cons (.if_ (.cmp .NotEq (.blt .repr (.cons (.call 15 (.cons (.var 1) (.cons (.var 2) (.cons (.var 4) (.cons (.var 7) .nil))))) .nil)) (.blt .repr (.cons (.call 20 (.cons (.var 1) (.cons (.var 2) (.cons (.var 4) (.cons (.var 7) .nil))))) .nil))) (.cons (.ret (.bool false))
    .nil) .nil)
    .nil))
    .nil)))))
    (fun i ρ u => (∃ a b c d, ρ = [.val (.ref r), .val (.int s), .val (.int l), .val (.int edge), a, b, c, d, .un, .un, .un, .un]) ∧ Dice (n + 2 + 81 * i) u r)
    (xs := [.int edge, .int (edge + 1), .int mx, .int x5]) (ρ := [.val (.ref r), .val (.int s), .val (.int l), .val (.int edge), .un, .un, .un, .un, .un, .un, .un, .un]) (st := s6) ⟨⟨_, _, _, _, rfl⟩, d6.mono (by simp)⟩
    (fun x hx i ρ u hI => by
      obtain ⟨⟨a, b, c, d, rfl⟩, hD⟩ := hI
      have hx : ∃ M : Int, x = .int M ∧ 0 ≤ M := by
        simp at hx
        rcases hx with rfl | rfl | rfl | rfl <;> exact ⟨_, rfl, by omega⟩
      obtain ⟨M, rfl, hM⟩ := hx
      generalize hm : (if 399 < M then 399 else M) = m
      have m0 : 0 ≤ m ∧ m ≤ 399 := by omega
      obtain ⟨T, C, f1, f2, hT, hTs, hne, hbr⟩ : ∃ (T : D) (C : Bool), pg.run (k + 6) 14 [.int s, .int l, .int m] u = .ok T u ∧ pg.run (k + 6) 21 [.int s, .int l, .int m] u = .ok (.bl C) u ∧ g2 T = true ∧ T.strict = true ∧ (isNonD T == C) = false ∧ (isNonD T = false → breakB s l m T = true) := by
        have f1 := s_breaking k s l m u q1 q2 l0 l1 m0.1 m0.2
        have f2 := s_can (k + 5) s l m u q1 q2 l0 m0.1 m0.2
        by_cases z : m ≤ l / s
        · rw [if_pos z] at f1
          rw [decide_eq_false (by omega)] at f2
          exact ⟨.non, false, f1, f2, rfl, rfl, rfl, fun w => nomatch w⟩
        · rw [if_neg z] at f1
          rw [decide_eq_true (by omega)] at f2
          exact ⟨_, true, f1, f2, g2_tup (fast_g s _) (by rw [fast_len]; omega), rfl, rfl, fun _ => fast_breaks s l m q1 l0 m0.2 (by omega)⟩
      obtain ⟨u', vs, f3, hv, hvl, hD'⟩ := s_near (k + 4) r (n + 2 + 81 * i) s l m u q1 q2 l0 l1 (hD.mono (by omega))
      have i2 := s_breaks (k + 4) s l m T u hT
      obtain ⟨z', hin⟩ := vals_loop k r s l m u' q1 q2 l0 l1 m0.1 m0.2 (T :: vs) (by
        intro v hv'
        rcases List.mem_cons.mp hv' with rfl | hv'
        · exact hT
        · exact hv v hv') (.val (.ref r)) (.val (.int edge)) (.val T) (.val (.bl C)) .un .un .un d
      have hadd : binD .Add (.lst [T]) (.lst vs) u' = some (.lst (T :: vs)) := add_lst u' [T] vs (by
        have : 1000 ≤ sizeLine := by decide
        simp
        omega)
      refine ⟨[.val (.ref r), .val (.int s), .val (.int l), .val (.int edge), .val (.int m), .val T, .val (.bl C), z', .un, .un, .un, .un], u', ?_, ⟨_, _, _, _, rfl⟩, hD'⟩
      simp only [forB, g_tvar, strict_int, if_true, R.bind_ok, List.set_cons_succ, List.set_cons_zero]
      refine seq_ok (ρ1 := [.val (.ref r), .val (.int s), .val (.int l), .val (.int edge), .val (.int m), b, c, d, .un, .un, .un, .un]) (st1 := u) (by simp [hm]) ?_
      refine seq_ok (ρ1 := [.val (.ref r), .val (.int s), .val (.int l), .val (.int edge), .val (.int m), .val T, .val (.bl C), d, .un, .un, .un, .un]) (st1 := u) (by simp [f1, f2, hTs]) ?_
      refine seq_ok (ρ1 := [.val (.ref r), .val (.int s), .val (.int l), .val (.int edge), .val (.int m), .val T, .val (.bl C), d, .un, .un, .un, .un]) (st1 := u) (by
        cases C <;> cases hn : isNonD T <;> rw [hn] at hne
        · cases hne
        · simp [hn]
        · simp [hn, i2, hbr hn]
        · cases hne) ?_
      refine seq_ok (ρ1 := [.val (.ref r), .val (.int s), .val (.int l), .val (.int edge), .val (.int m), .val T, .val (.bl C), z', .un, .un, .un, .un]) (st1 := u') (by simp [hTs, f3, hadd, hin]) ?_
      rfl)
  obtain ⟨ρ', s7, eL, ⟨a, b, c, d, rfl⟩, d7⟩ := loop
  obtain ⟨s8, G, e8, a8, b8, d8, -, -⟩ := s_roll (k + 5) s7 r (n + 1) (10 ^ 40) (by decide) (by decide) (d7.mono (by omega))
  obtain ⟨s9, dp, e9, a9, b9, d9, -, -⟩ := s_roll (k + 5) s8 r n 7 (by decide) (by decide) d8
  have hpow : binD .Pow (.int 10) (.int 40) s7 = some (.int (10 ^ 40)) := rfl
  have loop2 := for_rng (body := forB ⟨pg.run (k + 6), pg.cs⟩ (.tvar 11) (.cons (.asg (.tvar 10) (.call 12 (.cons (.var 1) (.cons (.var 10) .nil)))) .nil))
    (fun i ρ u => u = s9 ∧ ∃ z, ρ = [.val (.ref r), .val (.int s), .val (.int l), .val (.int edge), a, b, c, d, .val (.int G), .val (.int dp), .val (.int (G / s ^ i)), z]) dp.toNat
    (ρ := [.val (.ref r), .val (.int s), .val (.int l), .val (.int edge), a, b, c, d, .val (.int G), .val (.int dp), .val (.int G), .un]) (st := s9) ⟨rfl, .un, by simp⟩
    (fun i hi ρ u h => by
      obtain ⟨rfl, z, rfl⟩ := h
      have gle : G / s ^ i ≤ G := Int.ediv_le_self _ a8
      have g0' : 0 ≤ G / s ^ i := Int.ediv_nonneg a8 (Int.pow_nonneg (by omega))
      have hh := s_held_for (k + 1) s (G / s ^ i) u q1 q2 g0' (by omega)
      rw [Int.ediv_ediv_of_nonneg (Int.pow_nonneg (by omega)), ← Int.pow_succ] at hh
      generalize G / s ^ i = Gi at *
      generalize G / s ^ (i + 1) = Gj at *
      refine ⟨[.val (.ref r), .val (.int s), .val (.int l), .val (.int edge), a, b, c, d, .val (.int G), .val (.int dp), .val (.int Gj), .val (.int i)], u, ?_, rfl, .val (.int i), rfl⟩
      simp [forB, hh])
  obtain ⟨ρ2, s10, eL2, rfl, z2, rfl⟩ := loop2
  have h12 := s_held_for (k + 1) s l s10 q1 q2 l0 (by omega)
  have h13 := s_held_below (k + 1) s G dp s10 q1 q2 a8 (by omega) a9 (by omega)
  rw [← hedge] at h12
  generalize G / s ^ dp.toNat = GL at *
  refine ⟨s10, ?_, d9⟩
  rw [r__law_right _ _ _ rfl, ir__law_right]
  refine (congrArg (fun x => R.bind x endR) (?_ : _ = R.ok (.rt (.bl true)) s10)).trans rfl
  refine seq_ok (ρ1 := [.val (.ref r), .val (.int s), .un, .un, .un, .un, .un, .un, .un, .un, .un, .un]) (st1 := s1) (by simp [e1, hs]) ?_
  refine seq_ok (ρ1 := [.val (.ref r), .val (.int s), .val (.int l), .un, .un, .un, .un, .un, .un, .un, .un, .un]) (st1 := s5) (by simp [e2, e3, e4, e5]) ?_
  refine seq_ok (ρ1 := [.val (.ref r), .val (.int s), .val (.int l), .val (.int edge), .un, .un, .un, .un, .un, .un, .un, .un]) (st1 := s5) (by simp [hdiv]) ?_
  refine seq_ok (ρ1 := [.val (.ref r), .val (.int s), .val (.int l), .val (.int edge), a, b, c, d, .un, .un, .un, .un]) (st1 := s7) (by simp [e6, hmx, eL]) ?_
  refine seq_ok (ρ1 := [.val (.ref r), .val (.int s), .val (.int l), .val (.int edge), a, b, c, d, .val (.int G), .val (.int dp), .un, .un]) (st1 := s10) (by simp [-Int.reducePow, hpow, e8, e9]) ?_
  refine seq_ok (ρ1 := [.val (.ref r), .val (.int s), .val (.int l), .val (.int edge), a, b, c, d, .val (.int G), .val (.int dp), .val (.int G), .un]) (st1 := s10) (by simp) ?_
  refine seq_ok (ρ1 := [.val (.ref r), .val (.int s), .val (.int l), .val (.int edge), a, b, c, d, .val (.int G), .val (.int dp), .val (.int GL), z2]) (st1 := s10) (by simp [rng1_ok (n := dp) (by omega) (by omega), eL2]) ?_
  refine seq_rt ?_
  simp [h12, h13]
theorem s_dice (k : Nat) (ns : List Int) (i : Int) (h0 : 0 ≤ i) (h1 : i < 2 ^ 20) (st : Store) : ∃ st', pg.run (k + 1) 16 [.lst (ns.map D.int), .int i] st = .ok (.ref st.length) st' ∧ Dice (2 ^ 90) st' st.length ∧ st'.length = st.length + 1 ∧ ∀ j, j < st.length → st'[j]? = st[j]? := dice_ok _ ns i h0 h1 st

theorem law_run : ∀ ns : List Int, ns.length ≤ 63 → ∃ st, pg.run 20 f_law [.lst (ns.map D.int)] [] = .ok (.bl true) st := by
  intro ns hns
  generalize hm : (if 1 < (if (ns.length : Int) < 4 then (ns.length : Int) else 4) then (if (ns.length : Int) < 4 then (ns.length : Int) else 4) else 1) = m
  have hm1 : 1 ≤ m ∧ m ≤ 4 := by omega
  have outer := for_rng (body := forB ⟨pg.run 19, pg.cs⟩ (.tvar 1) (.cons (.asg (.tvar 2) (.call 16 (.cons (.var 0) (.cons (.var 1) .nil)))) (.cons (.if_ (.or_ (.not_ (.call 23 (.cons (.var 2) .nil))) (.not_ (.call 23 (.cons (.var 2) .nil)))) (.cons (.ret (.bool false)) .nil) .nil) .nil)))
      (fun i ρ u => ∃ a b, ρ = [.val (.lst (ns.map D.int)), a, b, .un]) m.toNat (ρ := [.val (.lst (ns.map D.int)), .un, .un, .un]) (st := []) ⟨_, _, rfl⟩
      (fun i hi ρ u h => by
        obtain ⟨a, b, rfl⟩ := h
        obtain ⟨s1, e1, d1, -⟩ := s_dice 18 ns i (by omega) (by omega) u
        obtain ⟨s2, e2, d2⟩ := s_right 12 s1 u.length 400 (d1.mono (by decide))
        obtain ⟨s3, e3, d3⟩ := s_right 12 s2 u.length 0 (d2.mono (by decide))
        refine ⟨[.val (.lst (ns.map D.int)), .val (.int i), .val (.ref u.length), .un], s3, ?_, _, _, rfl⟩
        simp [forB, e1, e2, e3])
  obtain ⟨ρ', st', e, a, b, rfl⟩ := outer
  refine ⟨st', ?_⟩
  have a1 := s_held_for 14 3 20 st' (by decide) (by decide) (by decide) (by decide)
  have a2 := s_held_below 14 3 20 2 st' (by decide) (by decide) (by decide) (by decide) (by decide) (by decide)
  have a3 := s_held_below 14 3 20 3 st' (by decide) (by decide) (by decide) (by decide) (by decide) (by decide)
  have a4 := s_held_below 14 6 46656 6 st' (by decide) (by decide) (by decide) (by decide) (by decide) (by decide)
  have a5 := s_held_below 14 6 46655 6 st' (by decide) (by decide) (by decide) (by decide) (by decide) (by decide)
  have a6 := s_held_below 14 1 7 6 st' (by decide) (by decide) (by decide) (by decide) (by decide) (by decide)
  have b1 := s_breaking 13 2 5 2 st' (by decide) (by decide) (by decide) (by decide) (by decide) (by decide)
  have b2 := s_breaking 13 1 399 399 st' (by decide) (by decide) (by decide) (by decide) (by decide) (by decide)
  have b3 := s_breaking 13 2 5 3 st' (by decide) (by decide) (by decide) (by decide) (by decide) (by decide)
  rw [if_pos (by decide)] at b1 b2
  rw [if_neg (by decide)] at b3
  have g3 : g2 (.tup (fastD 2 (5 / 2 + 1))) = true := g2_tup (fast_g _ _) (by rw [fast_len]; decide)
  have c1 := s_is_breaking 13 2 5 3 _ st' (by decide) (by decide) (by decide) (by decide) (by decide) (by decide) g3
  rw [fast_breaks 2 5 3 (by decide) (by decide) (by decide) (by decide)] at c1
  have m1 : binD .Mult (.tup [.tup [.int 1, .int 2]]) (.int 3) st' = some (.tup (fastD 2 (5 / 2 + 1))) := mul_tup st' [.tup [.int 1, .int 2]] 3 ⟨by omega, by omega, by simp⟩
  generalize fastD 2 (5 / 2 + 1) = F at *
  have q := eq_lints st' [6, 2, 0, 1, 0, 7] [6, 2, 0, 1, 0, 7]
  have q2 : cmpD .NotEq (.lst [.int 6, .int 2, .int 0, .int 1, .int 0, .int 7]) (.lst [.int 6, .int 2, .int 0, .int 1, .int 0, .int 7]) st' = some false := by
    show (cmpD .Eq (.lst ([6, 2, 0, 1, 0, 7].map D.int)) (.lst ([6, 2, 0, 1, 0, 7].map D.int)) st').map not = _
    rw [q]
    rfl
  have a1 : pg.run 19 12 [.int 3, .int 20] st' = .ok (.int 6) st' := a1
  have a2 : pg.run 19 13 [.int 3, .int 20, .int 2] st' = .ok (.int 2) st' := a2
  have a3 : pg.run 19 13 [.int 3, .int 20, .int 3] st' = .ok (.int 0) st' := a3
  have a4 : pg.run 19 13 [.int 6, .int 46656, .int 6] st' = .ok (.int 1) st' := a4
  have a5 : pg.run 19 13 [.int 6, .int 46655, .int 6] st' = .ok (.int 0) st' := a5
  have a6 : pg.run 19 13 [.int 1, .int 7, .int 6] st' = .ok (.int 7) st' := a6
  show pg.run (19 + 1) 24 _ _ = _
  rw [r_law _ _ _ rfl, ir_law]
  refine (congrArg (fun x => R.bind x endR) (?_ : _ = R.ok (.rt (.bl true)) st')).trans rfl
  refine seq_ok (ρ1 := [.val (.lst (ns.map D.int)), a, b, .un]) (st1 := st') (by simp [hm, rng1_ok (n := m) (by omega) (by omega), e]) ?_
  refine seq_ok (ρ1 := [.val (.lst (ns.map D.int)), a, b, .val (.lst [.int 6, .int 2, .int 0, .int 1, .int 0, .int 7])]) (st1 := st') (by simp [a1, a2, a3, a4, a5, a6]) ?_
  refine seq_ok (ρ1 := [.val (.lst (ns.map D.int)), a, b, .val (.lst [.int 6, .int 2, .int 0, .int 1, .int 0, .int 7])]) (st1 := st') (by simp [q2, b1, b2]) ?_
  refine seq_rt ?_
  simp [b3, c1, m1]
end K14

set_option Elab.async false
set_option linter.all false
set_option maxRecDepth 100000
set_option maxHeartbeats 0
namespace K14
open PySem PySem.Spec PyProof.Rows L2 DL
abbrev R : PySem.W.OpenRow := PySem.W.OpenLaw.row PySem.Challenge.rw_wholemoment_k14_whole_leases_held_exactl
abbrev hk : PySem.W.Hook := He.hookD 4 pg.faL pg.fnL
def ob (s : PySem.W.SharedT) : He.AlD := He.obsDG 4 pg.faL pg.fnL (HandSHeadRun.getT s)
theorem ob_eq (s : PySem.W.SharedT) : ob s = hk.obs s.abs := He.obsDG_eq (HandSHeadRun.getT_eq s)
def loose : List PySem.Str := ["InvalidNumber", "GREATEST", "is_whole", "is_short", "is_from", "is_tick", "are_from", "require_from", "require_tick", "MAX_SPREAD", "MAX_BEATS", "MAX_LEASE", "MAX_DEPTH", "BORROWER_AND_LENDER", "is_course_in", "readings_in", "power_in", "require_spread", "require_lease", "held_for", "held_below", "breaking_course", "is_breaking_course", "_law_dice", "_law_roll", "_law_pick", "_law_is_beat", "_law_breaks", "_law_can_break", "_law_near", "_law_right"]
theorem hrun (w : World) : HandSHeadRun.RunEq R (PySem.W.view R.prog [35]) hk ob 4000 loose w := by
  intro os
  kernel_rfl
theorem hfacts {P : Program} {w : World} {K : PySem.W.Frag} {h : Heap} {mg : Str → Option Value} {f : Addr} (X : K.In h) (Gm : h.Ns mainGlobals mg) (hfa : mg ("law" : Str) = some (.ref f)) (c : He.SaysD pg.faL pg.fnL K) :
    ∃ fd : FuncData, (∀ (s : Shared) (v : Value), BindsTo s fd ⟨[v], []⟩ [("_law_script", v)]) ∧ ∀ base : Heap, K.In base → base.Ns mainGlobals mg → FnOk P w K mg base (L2.CX P w) 20 f fd ["_law_script"] (spOf (pg.gl K) (pg.run 20 f_law)) := by
  have F := Pg.facts X Gm c pg_consts
  obtain ⟨fd, hf⟩ := Pg.fun_ c f_law d_law rfl
  have e := hfa.symm.trans (F.defs f_law d_law "law" rfl rfl).1
  cases e
  refine ⟨fd, fun s v => hf.bindsA (ps := ["_law_script"]) (pg_bind.get (i := f_law) (d := d_law) rfl) s [v] rfl, fun base _ _ => ?_⟩
  exact prog_ok F pg_ok pg_bind (Pg.fun_ c) 20 f_law d_law rfl fd hf
end K14
open PySem PySem.W PySem.Calls PyProof.Rows
theorem PySem.Challenge.cw_wholemoment_k14_whole_leases_held_exactl_holds : PySem.Challenge.rw_wholemoment_k14_whole_leases_held_exactl.Holds := by
  w_on; o_law
  refine HandSHeadRun.head_any (r := OpenLaw.row PySem.Challenge.rw_wholemoment_k14_whole_leases_held_exactl) (q := view (OpenLaw.row PySem.Challenge.rw_wholemoment_k14_whole_leases_held_exactl).prog [35]) (H := K14.hk) (ob := K14.ob) (M := 4000) (loose := K14.loose) (d := HandSHeadRun.topDef (OpenLaw.row PySem.Challenge.rw_wholemoment_k14_whole_leases_held_exactl).prog 35) (kwd := []) K14.ob_eq
    (by kernel_rfl) (fun s => by kernel_rfl) K14.hrun (by kernel_rfl) (by kernel_rfl) (by kernel_rfl) (by rfl) (by first | assumption | decide +kernel) (by decide +kernel) ⟨rfl, rfl, rfl, rfl, rfl, by decide +kernel⟩ ?hw ?hc
  case hw => w_witness2
  case hc =>
    refine DL.walk_w (l := PySem.Challenge.rw_wholemoment_k14_whole_leases_held_exactl) (n := 63) (k := 20) (x := "_law_script") (CX := fun w => L2.CX (PySem.Challenge.rw_wholemoment_k14_whole_leases_held_exactl).prog w) rfl (by decide) (by kernel_rfl) ⟨rfl, by decide, by decide⟩ ?F DL.cx_none
    intro w mg fa h Y G hmg0
    obtain ⟨K, KX, c⟩ := Y
    have hmg : mg ("law" : PySem.Str) = some (.ref fa) := by
      have e : (HandSHeadRun.topDef (OpenLaw.row PySem.Challenge.rw_wholemoment_k14_whole_leases_held_exactl).prog 35).name = ("law" : PySem.Str) := by kernel_rfl
      rw [← e]
      exact hmg0
    obtain ⟨fd, hb, hF⟩ := K14.hfacts (P := (PySem.Challenge.rw_wholemoment_k14_whole_leases_held_exactl).prog) (w := w) KX G hmg c
    exact ⟨K, fd, DL.spOf (K14.pg.gl K) (K14.pg.run 20 K14.f_law), KX, hb, fun H a ns hl _ hS => DL.law_sp (K14.law_run ns hl) hS, hF⟩
