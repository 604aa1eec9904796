import PyProof.Rows.All
import HandS.ForMost
import HandS.Exc
import HandS.ExcOwn
import HandS.CallSlots
import HandS.WordsExc
import HandS.IsInst
import HandS.Lambda
import HandS.Deep
import HandS.Wide
import HandS.TupAny
import HandS.SortInts
import HandS.Walk
import HandS.Style
import HandS.DictTup
import HandS.ExcInit
import HandS.ExcField
import KE.KExcSuper
import KE.GoesEnum
import HandS.TryMany
import HandS.RaiseMore
import HandS.Words
import HandS.Conv
import HandS.EndTab
import KE.KNestM
import HandS.SetFor
import HandS.Strs
import PySem.Challenge.RW_linkholes_k75_whole_genus_of_words
set_option Elab.async false
set_option linter.all false
set_option maxRecDepth 100000
set_option maxHeartbeats 4000000
/-! Mz, part a: data D, how they lie on the abstract heap, the state of a running def. -/
namespace Mz
open PySem PySem.Spec PyProof.Rows L2

/-- data: values as trees; what is shared and changed is a bare address -/
inductive D where
  | non | bl (b : Bool) | int (i : Int) | str (x : Str) | ty (n : String)
  | tup (xs : List D) | lst (xs : List D)
  | dK (kvs : List (Key × D)) | dT (kvs : List (List Key × D))
  | ins (c : Nat) (fs : List (Str × D))
  | clo (n : Nat)
  | pen
  | ref (a : Addr)

/-- the pen's and the classes' addresses; how the n-th lambda of the law lies at an address, its code object at another; that one's name -/
structure CA where
  pn : Addr
  cl : Nat → Addr
  lo : Nat → Addr → Addr → HO
  cq : Str
  kn : List Nat
instance : CoeFun CA fun _ => Nat → Addr := ⟨CA.cl⟩
/-- fixed through a law: the pen's address, the tables of code objects, the classes' addresses -/
structure Cfg where
  T : List (Addr × Str)
  ca : CA

abbrev Cfg.pa (c : Cfg) : Addr := c.ca.pn

structure Pen where
  cells : List Int
  at_ : Int
  digits : Int
  count : Int
  fold : Int

structure Exn where
  c : Nat
  fs : List (Str × D)

/-- an instance's class and the names of its fields -/
structure InsOk (K : PySem.W.Frag) (C : Addr) (fs : List (Str × V)) : Prop where
  cls : Cls K C
  no : ∀ q ∈ fs, NoAttr K C q.1
mutual
inductive Rep (K : PySem.W.Frag) (ca : CA) (G : Hp) : V → D → Prop
  | non : Rep K ca G .non .non
  | bl (b : Bool) : Rep K ca G (.bl b) (.bl b)
  | int (i : Int) : Rep K ca G (.int i) (.int i)
  | str (x : Str) : Rep K ca G (.str x) (.str x)
  | ty (n : String) : Rep K ca G (.ty n) (.ty n)
  | ref (a : Addr) : Rep K ca G (.ref a) (.ref a)
  | pen : Rep K ca G (.ref ca.pn) .pen
  | clo {a c : Addr} {n : Nat} : G a = some (ca.lo n a c) → G c = some (LamX.CodeO c ca.cq) → Rep K ca G (.ref a) (.clo n)
  | tup {a : Addr} {vs : List V} {ds : List D} : G a = some (.tup vs) → Reps K ca G vs ds → Rep K ca G (.ref a) (.tup ds)
  | lst {a : Addr} {vs : List V} {ds : List D} : G a = some (.lst vs) → Reps K ca G vs ds → Rep K ca G (.ref a) (.lst ds)
  | dK {a : Addr} {kvs : List (Key × V)} {kds : List (Key × D)} : G a = some (.dK kvs) → RepK K ca G kvs kds → Rep K ca G (.ref a) (.dK kds)
  | dT {a : Addr} {kvs : List (List Key × V)} {kds : List (List Key × D)} : G a = some (.dT kvs) → RepT K ca G kvs kds → Rep K ca G (.ref a) (.dT kds)
  | ins {a dx : Addr} {n : Nat} {fs : List (Str × V)} {fds : List (Str × D)} : G a = some (.ins (ca n) dx fs) → n ∈ ca.kn → InsOk K (ca n) fs → RepF K ca G fs fds → Rep K ca G (.ref a) (.ins n fds)
inductive Reps (K : PySem.W.Frag) (ca : CA) (G : Hp) : List V → List D → Prop
  | nil : Reps K ca G [] []
  | cons {v : V} {vs : List V} {d : D} {ds : List D} : Rep K ca G v d → Reps K ca G vs ds → Reps K ca G (v :: vs) (d :: ds)
inductive RepK (K : PySem.W.Frag) (ca : CA) (G : Hp) : List (Key × V) → List (Key × D) → Prop
  | nil : RepK K ca G [] []
  | cons {k : Key} {v : V} {vs : List (Key × V)} {d : D} {ds : List (Key × D)} : Rep K ca G v d → RepK K ca G vs ds → RepK K ca G ((k, v) :: vs) ((k, d) :: ds)
inductive RepT (K : PySem.W.Frag) (ca : CA) (G : Hp) : List (List Key × V) → List (List Key × D) → Prop
  | nil : RepT K ca G [] []
  | cons {k : List Key} {v : V} {vs : List (List Key × V)} {d : D} {ds : List (List Key × D)} : Rep K ca G v d → RepT K ca G vs ds → RepT K ca G ((k, v) :: vs) ((k, d) :: ds)
inductive RepF (K : PySem.W.Frag) (ca : CA) (G : Hp) : List (Str × V) → List (Str × D) → Prop
  | nil : RepF K ca G [] []
  | cons {k : Str} {v : V} {vs : List (Str × V)} {d : D} {ds : List (Str × D)} : Rep K ca G v d → RepF K ca G vs ds → RepF K ca G ((k, v) :: vs) ((k, d) :: ds)
end

theorem Same.sqT {K : PySem.W.Frag} {H H' : Hp} {a : Addr} {xs : List V} (e : Same H H') (h : SqT K H a xs) : SqT K H' a xs := by
  rcases h with (h | ⟨o, h⟩) | h
  · exact .inl (.inl (e _ _ h))
  · exact .inl (.inr ⟨o, e _ _ h⟩)
  · exact .inr h

section
variable {K : PySem.W.Frag} {ca : CA} {G G' : Hp}
mutual
theorem Rep.mono (s : Same G G') : ∀ {v : V} {d : D}, Rep K ca G v d → Rep K ca G' v d
  | _, _, .non => .non
  | _, _, .bl b => .bl b
  | _, _, .int i => .int i
  | _, _, .str x => .str x
  | _, _, .ty n => .ty n
  | _, _, .ref a => .ref a
  | _, _, .pen => .pen
  | _, _, .clo h h2 => .clo (s _ _ h) (s _ _ h2)
  | _, _, .tup h r => .tup (s _ _ h) (Reps.mono s r)
  | _, _, .lst h r => .lst (s _ _ h) (Reps.mono s r)
  | _, _, .dK h r => .dK (s _ _ h) (RepK.mono s r)
  | _, _, .dT h r => .dT (s _ _ h) (RepT.mono s r)
  | _, _, .ins h k i r => .ins (s _ _ h) k i (RepF.mono s r)
theorem Reps.mono (s : Same G G') : ∀ {v : List V} {d : List D}, Reps K ca G v d → Reps K ca G' v d
  | _, _, .nil => .nil
  | _, _, .cons h r => .cons (Rep.mono s h) (Reps.mono s r)
theorem RepK.mono (s : Same G G') : ∀ {v : List (Key × V)} {d : List (Key × D)}, RepK K ca G v d → RepK K ca G' v d
  | _, _, .nil => .nil
  | _, _, .cons h r => .cons (Rep.mono s h) (RepK.mono s r)
theorem RepT.mono (s : Same G G') : ∀ {v : List (List Key × V)} {d : List (List Key × D)}, RepT K ca G v d → RepT K ca G' v d
  | _, _, .nil => .nil
  | _, _, .cons h r => .cons (Rep.mono s h) (RepT.mono s r)
theorem RepF.mono (s : Same G G') : ∀ {v : List (Str × V)} {d : List (Str × D)}, RepF K ca G v d → RepF K ca G' v d
  | _, _, .nil => .nil
  | _, _, .cons h r => .cons (Rep.mono s h) (RepF.mono s r)
end
theorem Reps.len : ∀ {v : List V} {d : List D}, Reps K ca G v d → v.length = d.length
  | _, _, .nil => rfl
  | _, _, .cons _ r => by rw [List.length_cons, List.length_cons, r.len]
theorem Reps.app : ∀ {v v' : List V} {d d' : List D}, Reps K ca G v d → Reps K ca G v' d' → Reps K ca G (v ++ v') (d ++ d')
  | _, _, _, _, .nil, s => s
  | _, _, _, _, .cons h r, s => .cons h (r.app s)
theorem Reps.get : ∀ {vs : List V} {ds : List D} {i : Nat} {d : D}, Reps K ca G vs ds → ds[i]? = some d → ∃ v, vs[i]? = some v ∧ Rep K ca G v d
  | _, _, i, d, .nil, h => by simp at h
  | _, _, 0, d, .cons h r, q => ⟨_, rfl, by simp at q; subst q; exact h⟩
  | _, _, i + 1, d, .cons h r, q => by
    obtain ⟨v, a, b⟩ := r.get (i := i) (d := d) (by simpa using q)
    exact ⟨v, by simpa using a, b⟩
theorem Reps.getV : ∀ {vs : List V} {ds : List D} {i : Nat} {v : V}, Reps K ca G vs ds → vs[i]? = some v → ∃ d, ds[i]? = some d ∧ Rep K ca G v d
  | _, _, i, d, .nil, h => by simp at h
  | _, _, 0, d, .cons h r, q => ⟨_, rfl, by simp at q; subst q; exact h⟩
  | _, _, i + 1, d, .cons h r, q => by
    obtain ⟨v, a, b⟩ := r.getV (i := i) (v := d) (by simpa using q)
    exact ⟨v, by simpa using a, b⟩
theorem Reps.take : ∀ {vs : List V} {ds : List D} (n : Nat), Reps K ca G vs ds → Reps K ca G (vs.take n) (ds.take n)
  | _, _, 0, _ => .nil
  | _, _, _ + 1, .nil => .nil
  | _, _, n + 1, .cons r t => .cons r (t.take n)
theorem Reps.drop : ∀ {vs : List V} {ds : List D} (n : Nat), Reps K ca G vs ds → Reps K ca G (vs.drop n) (ds.drop n)
  | _, _, 0, r => r
  | _, _, _ + 1, .nil => .nil
  | _, _, n + 1, .cons _ t => t.drop n
theorem Reps.set {v : V} {d : D} (q : Rep K ca G v d) : ∀ {vs : List V} {ds : List D} (n : Nat), Reps K ca G vs ds → Reps K ca G (vs.set n v) (ds.set n d)
  | _, _, _, .nil => .nil
  | _, _, 0, .cons _ t => .cons q t
  | _, _, n + 1, .cons r t => .cons r (t.set q n)
theorem Reps.rev {vs : List V} {ds : List D} (r : Reps K ca G vs ds) : Reps K ca G vs.reverse ds.reverse := by
  induction vs generalizing ds with
  | nil => cases r; exact .nil
  | cons v vs ih =>
    cases r with
    | cons h t =>
      rw [List.reverse_cons, List.reverse_cons]
      exact (ih t).app (.cons h .nil)
theorem Reps.rep {vs : List V} {ds : List D} (r : Reps K ca G vs ds) : ∀ k : Nat, Reps K ca G (List.replicate k vs).flatten (List.replicate k ds).flatten
  | 0 => .nil
  | k + 1 => by
    rw [List.replicate_succ, List.replicate_succ, List.flatten_cons, List.flatten_cons]
    exact r.app (r.rep k)
theorem Reps.dropLast {vs : List V} {ds : List D} (r : Reps K ca G vs ds) : Reps K ca G vs.dropLast ds.dropLast := by
  rw [List.dropLast_eq_take, List.dropLast_eq_take, r.len]
  exact r.take _
theorem Reps.nilV {ds : List D} (r : Reps K ca G [] ds) : ds = [] := by cases r; rfl
theorem Reps.nilD {vs : List V} (r : Reps K ca G vs []) : vs = [] := by cases r; rfl
theorem Reps.ints : ∀ ns : List Int, Reps K ca G (ns.map V.int) (ns.map D.int)
  | [] => .nil
  | n :: ns => .cons (.int n) (Reps.ints ns)
theorem Reps.intsV : ∀ {ns : List Int} {vs : List V}, Reps K ca G vs (ns.map D.int) → vs = ns.map V.int
  | [], _, .nil => rfl
  | n :: ns, _, .cons h r => by
    cases h
    rw [List.map_cons, Reps.intsV r]
theorem RepF.look {f : Str} : ∀ {vs : List (Str × V)} {ds : List (Str × D)} {d : D}, RepF K ca G vs ds → ds.lookup f = some d → ∃ v, vs.lookup f = some v ∧ Rep K ca G v d
  | _, _, d, .nil, h => by simp at h
  | _, _, d, .cons (k := k) (v := v) (d := d') h r, q => by
    rw [List.lookup_cons] at q ⊢
    by_cases e : f = k
    · subst e
      simp at q
      subst q
      exact ⟨v, by simp, h⟩
    · have e' : (f == k) = false := beq_eq_false_iff_ne.mpr e
      rw [e'] at q ⊢
      exact r.look q
end
end Mz
/-! Mz, part b: what a piece of code makes of data; the state's relation to the heap; the judgements. -/
namespace Mz
open PySem PySem.Spec PyProof.Rows L2

/-! ### results -/
inductive R (α : Type) where
  | ok (a : α) (p : Pen)
  | err (x : Exn) (p : Pen)
  | stuck
abbrev Env := List (Option D)
/-- what an expression does -/
abbrev M (α : Type) := Env → Pen → R α
def R.bind {α β : Type} (r : R α) (f : α → Pen → R β) : R β := match r with
  | .ok a p => f a p
  | .err x p => .err x p
  | .stuck => .stuck
@[simp] theorem R.bind_ok {α β : Type} (a : α) (p : Pen) (f : α → Pen → R β) : (R.ok a p).bind f = f a p := rfl
@[simp] theorem R.bind_err {α β : Type} (x : Exn) (p : Pen) (f : α → Pen → R β) : (R.err x p : R α).bind f = .err x p := rfl
@[simp] theorem R.bind_stuck {α β : Type} (f : α → Pen → R β) : (R.stuck : R α).bind f = .stuck := rfl
/-- what is wanted of a result -/
def Cont {α : Type} (r : R α) (ok : α → Pen → Prop) (er : Exn → Pen → Prop) : Prop := match r with
  | .ok a p => ok a p
  | .err x p => er x p
  | .stuck => False
theorem Cont.bind {α β : Type} {r : R α} {f : α → Pen → R β} {ok : β → Pen → Prop} {er : Exn → Pen → Prop} : Cont (r.bind f) ok er ↔ Cont r (fun a p => Cont (f a p) ok er) er := by
  cases r <;> exact Iff.rfl
theorem Cont.mono {α : Type} {r : R α} {ok ok' : α → Pen → Prop} {er er' : Exn → Pen → Prop} (h : Cont r ok er) (h1 : ∀ a p, ok a p → ok' a p) (h2 : ∀ x p, er x p → er' x p) : Cont r ok' er' := by
  cases r with
  | ok a p => exact h1 _ _ h
  | err x p => exact h2 _ _ h
  | stuck => exact h
/-- an answer that may be lacking -/
def lift {α : Type} (o : Option α) (p : Pen) : R α := match o with
  | some a => .ok a p
  | none => .stuck
@[simp] theorem lift_some {α : Type} (a : α) (p : Pen) : lift (some a) p = .ok a p := rfl
@[simp] theorem lift_none {α : Type} (p : Pen) : lift (none : Option α) p = .stuck := rfl
theorem Cont.lift {α : Type} {o : Option α} {p : Pen} {ok : α → Pen → Prop} {er : Exn → Pen → Prop} (h : Cont (lift o p) ok er) : ∃ a, o = some a ∧ ok a p := by
  cases o with
  | none => exact h.elim
  | some a => exact ⟨a, rfl, h⟩

/-- what a statement does -/
inductive SF where
  | next (e : Env) (p : Pen)
  | ret (d : D) (p : Pen)
  | brk (e : Env) (p : Pen)
  | cnt (e : Env) (p : Pen)
  | err (x : Exn) (e : Env) (p : Pen)
  | stuck
abbrev MS := Env → Pen → SF
def SF.bind (r : SF) (f : MS) : SF := match r with
  | .next e p => f e p
  | r => r
@[simp] theorem SF.bind_next (e : Env) (p : Pen) (f : MS) : (SF.next e p).bind f = f e p := rfl
@[simp] theorem SF.bind_ret (d : D) (p : Pen) (f : MS) : (SF.ret d p).bind f = .ret d p := rfl
@[simp] theorem SF.bind_brk (e : Env) (p : Pen) (f : MS) : (SF.brk e p).bind f = .brk e p := rfl
@[simp] theorem SF.bind_cnt (e : Env) (p : Pen) (f : MS) : (SF.cnt e p).bind f = .cnt e p := rfl
@[simp] theorem SF.bind_err (x : Exn) (e : Env) (p : Pen) (f : MS) : (SF.err x e p).bind f = .err x e p := rfl
@[simp] theorem SF.bind_stuck (f : MS) : SF.stuck.bind f = .stuck := rfl
/-- from an expression's result to a statement's -/
def R.st {α : Type} (r : R α) (e : Env) (f : α → Pen → SF) : SF := match r with
  | .ok a p => f a p
  | .err x p => .err x e p
  | .stuck => .stuck
@[simp] theorem R.st_ok {α : Type} (a : α) (p : Pen) (e : Env) (f : α → Pen → SF) : (R.ok a p).st e f = f a p := rfl
@[simp] theorem R.st_err {α : Type} (x : Exn) (p : Pen) (e : Env) (f : α → Pen → SF) : (R.err x p : R α).st e f = .err x e p := rfl
@[simp] theorem R.st_stuck {α : Type} (e : Env) (f : α → Pen → SF) : (R.stuck : R α).st e f = .stuck := rfl

/-! ### the heap -/
def isTbl : HO → Prop
  | .tbl _ => True
  | _ => False
def isDat : HO → Prop
  | .lst _ => True
  | .dK _ => True
  | .dT _ => True
  | .ins _ _ _ => True
  | _ => False
/-- nothing stood there at the entry (but, perhaps, a table) -/
def NewIn (H0 : Hp) (a : Addr) : Prop := ∀ u, H0 a = some u → isTbl u
theorem NewIn.of {H0 : Hp} {a : Addr} (h : H0 a = none) : NewIn H0 a := fun u e => by rw [h] at e; cases e
theorem not_tbl {u : HO} (h : ¬ isTbl u) (ps : Array Value) : u ≠ .tbl ps := fun e => by subst e; exact h True.intro

def penK (p : Pen) (l : Addr) : List (Key × V) :=
  [(.inr "cells", .ref l), (.inr "at", .int p.at_), (.inr "digits", .int p.digits), (.inr "count", .int p.count), (.inr "fold", .int p.fold)]
def PenAt (c : Cfg) (G : Hp) (p : Pen) (H : Hp) : Prop := ∃ l, H c.pa = some (.dK (penK p l)) ∧ G l = some (.lst (p.cells.map V.int))

/-- H0: the heap at the entry; G0: what of it may be read as data; G: .. now; H: the heap now -/
structure BR (c : Cfg) (H0 G0 G : Hp) (p : Pen) (H : Hp) : Prop where
  gh : Same G H
  g0 : Same G0 G
  gn : ∀ a u, G a = some u → G0 a = some u ∨ NewIn H0 a
  fr : ∀ a u, H0 a = some u → a ≠ c.pa → ¬ isTbl u → H a = some u
  st : ∀ a, H a = none → NewIn H0 a
  gp : G c.pa = none
  gt : ∀ a u, G a = some u → ¬ isTbl u
  tb : LamX.Tabs c.T H
  pen : PenAt c G p H

def IsMut : D → Bool
  | .lst _ => true
  | .dK _ => true
  | .dT _ => true
  | _ => false
/-- d lies at l, which nobody else knows -/
def OwnAt (K : PySem.W.Frag) (ca : CA) (G H : Hp) (l : Addr) : D → Prop
  | .lst ds => ∃ vs, H l = some (.lst vs) ∧ Reps K ca G vs ds
  | .dK ds => ∃ vs, H l = some (.dK vs) ∧ RepK K ca G vs ds
  | .dT ds => ∃ vs, H l = some (.dT vs) ∧ RepT K ca G vs ds
  | _ => False

abbrev Own := List Bool
def own (o : Own) (i : Nat) : Bool := o.getD i false

abbrev Pins := List (Addr × HO)
structure SR (K : PySem.W.Frag) (c : Cfg) (H0 G0 : Hp) (pn : Pins) (o : Own) (G : Hp) (e : Env) (p : Pen) (σ : L2.St) (H : Hp) : Prop where
  b : BR c H0 G0 G p H
  len : σ.length = e.length
  fz : ∀ (i : Nat) (d : D), e[i]? = some (some d) → (own o i = false ∨ IsMut d = false) → ∃ v, σ[i]? = some (some v) ∧ Rep K c.ca G v d
  ow : ∀ (i : Nat) (d : D), e[i]? = some (some d) → own o i = true → IsMut d = true → ∃ l, σ[i]? = some (some (.ref l)) ∧ OwnAt K c.ca G H l d ∧ NewIn H0 l ∧ G l = none ∧ l ≠ c.pa
  ne : ∀ (i j : Nat) (d d' : D), e[i]? = some (some d) → e[j]? = some (some d') → own o i = true → own o j = true → IsMut d = true → IsMut d' = true → i ≠ j → σ[i]? ≠ σ[j]?
  pi : ∀ q ∈ pn, H q.1 = some q.2 ∧ isDat q.2 ∧ G q.1 = none ∧ q.1 ≠ c.pa ∧ ∀ (i : Nat) (d : D), e[i]? = some (some d) → own o i = true → IsMut d = true → σ[i]? ≠ some (some (.ref q.1))

section
variable {K : PySem.W.Frag} {c : Cfg} {H0 G0 G G1 G2 H H1 H2 : Hp} {pn : Pins} {o : Own} {e : Env} {p p1 p2 : Pen} {σ : L2.St}

theorem OwnAt.there {ca : CA} {l : Addr} {d : D} (h : OwnAt K ca G H l d) : ∃ u, H l = some u ∧ ¬ isTbl u := by
  cases d with
  | lst ds => obtain ⟨vs, e, _⟩ := h; exact ⟨_, e, fun z => z⟩
  | dK ds => obtain ⟨vs, e, _⟩ := h; exact ⟨_, e, fun z => z⟩
  | dT ds => obtain ⟨vs, e, _⟩ := h; exact ⟨_, e, fun z => z⟩
  | _ => exact h.elim
theorem OwnAt.move {ca : CA} {l : Addr} {d : D} (h : OwnAt K ca G H l d) (s : Same G G1) (k : ∀ u, H l = some u → H1 l = some u) : OwnAt K ca G1 H1 l d := by
  cases d with
  | lst ds => obtain ⟨vs, e, r⟩ := h; exact ⟨vs, k _ e, r.mono s⟩
  | dK ds => obtain ⟨vs, e, r⟩ := h; exact ⟨vs, k _ e, r.mono s⟩
  | dT ds => obtain ⟨vs, e, r⟩ := h; exact ⟨vs, k _ e, r.mono s⟩
  | _ => exact h.elim
/-- what is owned becomes data for all -/
theorem OwnAt.rep {ca : CA} {l : Addr} {d : D} {u : HO} (h : OwnAt K ca G H l d) (e : H l = some u) (s : Same G G1) (k : G1 l = some u) : Rep K ca G1 (.ref l) d := by
  cases d with
  | lst ds => obtain ⟨vs, e', r⟩ := h; rw [e] at e'; cases e'; exact .lst k (r.mono s)
  | dK ds => obtain ⟨vs, e', r⟩ := h; rw [e] at e'; cases e'; exact .dK k (r.mono s)
  | dT ds => obtain ⟨vs, e', r⟩ := h; rw [e] at e'; cases e'; exact .dT k (r.mono s)
  | _ => exact h.elim

theorem BR.paH (b : BR c H0 G0 G p H) : ∃ kvs, H c.pa = some (.dK kvs) := let ⟨_, h, _⟩ := b.pen; ⟨_, h⟩
/-- for a callee: the heap as it stands is its entry -/
theorem BR.enter (b : BR c H0 G0 G p H) : BR c H G G p H where
  gh := b.gh
  g0 := Same.refl G
  gn := fun a u e => .inl e
  fr := fun a u e _ _ => e
  st := fun a e => NewIn.of e
  gp := b.gp
  gt := b.gt
  tb := b.tb
  pen := b.pen
theorem NewIn.back (b : BR c H0 G0 G p H) {a : Addr} (n : NewIn H a) (hp : a ≠ c.pa) : NewIn H0 a := fun u e => by
  by_cases t : isTbl u
  · exact t
  · exact n u (b.fr a u e hp t)
/-- behind a callee -/
theorem BR.trans (b : BR c H0 G0 G p H) (b2 : BR c H G G1 p1 H1) : BR c H0 G0 G1 p1 H1 where
  gh := b2.gh
  g0 := b.g0.trans b2.g0
  gn := fun a u e => by
    rcases b2.gn a u e with h | h
    · exact b.gn a u h
    · refine .inr (NewIn.back b h fun z => ?_)
      rw [z, b2.gp] at e; cases e
  fr := fun a u e hp t => b2.fr a u (b.fr a u e hp t) hp t
  st := fun a e => by
    refine NewIn.back b (b2.st a e) fun z => ?_
    obtain ⟨kvs, q⟩ := b2.paH
    rw [z, q] at e; cases e
  gp := b2.gp
  gt := b2.gt
  tb := b2.tb
  pen := b2.pen
theorem PenAt.move (h : PenAt c G p H) (s : Same G G1) (k : ∀ u, H c.pa = some u → H1 c.pa = some u) : PenAt c G1 p H1 := by
  obtain ⟨l, e, f⟩ := h
  exact ⟨l, k _ e, s _ _ f⟩
theorem Tabs.upd (h : LamX.Tabs c.T H) {a : Addr} {u : HO} (n : H a = none) : LamX.Tabs c.T (upd H a u) := h.ext fun b w e => by
  rw [upd_ne (ne_of_none e n)]; exact e
/-- a new object, known to all -/
theorem BR.new (b : BR c H0 G0 G p H) {a : Addr} {u : HO} (n : H a = none) (t : ¬ isTbl u) : BR c H0 G0 (upd G a u) p (upd H a u) ∧ Same G (upd G a u) := by
  have nG : G a = none := b.gh.free n
  have npa : a ≠ c.pa := fun z => by
    obtain ⟨_, q⟩ := b.paH
    rw [z, q] at n; cases n
  have sG : Same G (L2.upd G a u) := fun x w e => by rw [upd_ne (ne_of_none e nG)]; exact e
  have kH : ∀ x w, H x = some w → L2.upd H a u x = some w := fun x w e => by rw [upd_ne (ne_of_none e n)]; exact e
  refine ⟨⟨fun x w e => ?_, b.g0.trans sG, fun x w e => ?_, fun x w e hp ht => kH _ _ (b.fr x w e hp ht), fun x e => ?_, ?_, fun x w e => ?_, Tabs.upd b.tb n, b.pen.move sG fun w e => kH _ _ e⟩, sG⟩
  · by_cases h : x = a
    · rw [h, upd_same] at e; rw [h, upd_same]; exact e
    · rw [upd_ne h] at e; exact kH _ _ (b.gh _ _ e)
  · by_cases h : x = a
    · rw [h]; exact .inr (b.st a n)
    · rw [upd_ne h] at e; exact b.gn x w e
  · by_cases h : x = a
    · rw [h, upd_same] at e; cases e
    · rw [upd_ne h] at e; exact b.st x e
  · rw [upd_ne (Ne.symm npa)]; exact b.gp
  · by_cases h : x = a
    · rw [h, upd_same] at e; cases e; exact t
    · rw [upd_ne h] at e; exact b.gt x w e
/-- a new object, known to nobody -/
theorem BR.newH (b : BR c H0 G0 G p H) {a : Addr} {u : HO} (n : H a = none) : BR c H0 G0 G p (upd H a u) := by
  have kH : ∀ x w, H x = some w → L2.upd H a u x = some w := fun x w e => by rw [upd_ne (ne_of_none e n)]; exact e
  refine ⟨fun x w e => kH _ _ (b.gh _ _ e), b.g0, b.gn, fun x w e hp ht => kH _ _ (b.fr x w e hp ht), fun x e => ?_, b.gp, b.gt, Tabs.upd b.tb n, b.pen.move (Same.refl _) fun w e => kH _ _ e⟩
  by_cases h : x = a
  · rw [h, upd_same] at e; cases e
  · rw [upd_ne h] at e; exact b.st x e
/-- what nobody knew is known to all -/
theorem BR.give (b : BR c H0 G0 G p H) {a : Addr} {u : HO} (h : H a = some u) (nG : G a = none) (nw : NewIn H0 a) (npa : a ≠ c.pa) (t : ¬ isTbl u) : BR c H0 G0 (upd G a u) p H ∧ Same G (upd G a u) := by
  have sG : Same G (L2.upd G a u) := fun x w e => by rw [upd_ne (ne_of_none e nG)]; exact e
  refine ⟨⟨fun x w e => ?_, b.g0.trans sG, fun x w e => ?_, b.fr, b.st, ?_, fun x w e => ?_, b.tb, b.pen.move sG fun w e => e⟩, sG⟩
  · by_cases hx : x = a
    · rw [hx, upd_same] at e; cases e; rw [hx]; exact h
    · rw [upd_ne hx] at e; exact b.gh _ _ e
  · by_cases hx : x = a
    · rw [hx]; exact .inr nw
    · rw [upd_ne hx] at e; exact b.gn x w e
  · rw [upd_ne (Ne.symm npa)]; exact b.gp
  · by_cases hx : x = a
    · rw [hx, upd_same] at e; cases e; exact t
    · rw [upd_ne hx] at e; exact b.gt x w e
theorem isDat.ntbl {u : HO} (h : isDat u) : ¬ isTbl u := by cases u <;> first | exact fun z => z | exact absurd h id
theorem OwnAt.dat {ca : CA} {l : Addr} {d : D} (h : OwnAt K ca G H l d) : ∃ u, H l = some u ∧ isDat u := by
  cases d with
  | lst ds => obtain ⟨vs, e, _⟩ := h; exact ⟨_, e, True.intro⟩
  | dK ds => obtain ⟨vs, e, _⟩ := h; exact ⟨_, e, True.intro⟩
  | dT ds => obtain ⟨vs, e, _⟩ := h; exact ⟨_, e, True.intro⟩
  | _ => exact h.elim
theorem BR.write (b : BR c H0 G0 G p H) {a : Addr} {u w : HO} (h : H a = some w) (tw : isDat w) (nG : G a = none) (nw : NewIn H0 a) (npa : a ≠ c.pa) : BR c H0 G0 G p (upd H a u) := by
  refine ⟨fun x w e => ?_, b.g0, b.gn, fun x w e hp ht => ?_, fun x e => ?_, b.gp, b.gt, fun q hq => ?_, ?_⟩
  · rw [upd_ne (ne_of_none e nG)]; exact b.gh _ _ e
  · by_cases hx : x = a
    · rw [hx] at e; exact absurd (nw _ e) ht
    · rw [upd_ne hx]; exact b.fr x w e hp ht
  · by_cases hx : x = a
    · rw [hx, upd_same] at e; cases e
    · rw [upd_ne hx] at e; exact b.st x e
  · obtain ⟨ps, a1, a2, a3⟩ := b.tb q hq
    refine ⟨ps, ?_, a2, fun pos cv hc => ?_⟩
    · rw [upd_ne fun z => ?_]
      · exact a1
      · rw [z, h] at a1; cases a1; exact tw
    · obtain ⟨cd, e1, e2⟩ := a3 pos cv hc
      refine ⟨cd, e1, ?_⟩
      rw [upd_ne fun z => ?_]
      · exact e2
      · rw [z, h] at e2
        have e3 := Option.some.inj e2
        unfold LamX.CodeO at e3
        rw [e3] at tw
        exact tw
  · obtain ⟨l, e, f⟩ := b.pen
    refine ⟨l, ?_, f⟩
    rw [upd_ne (Ne.symm npa)]
    exact e

/-! ### the slots -/
/-- a is held by an owned slot, or by the context -/
def Priv (pn : Pins) (o : Own) (e : Env) (σ : L2.St) (a : Addr) : Prop := (∃ (i : Nat) (d : D), e[i]? = some (some d) ∧ own o i = true ∧ IsMut d = true ∧ σ[i]? = some (some (.ref a))) ∨ ∃ q ∈ pn, q.1 = a
theorem SR.priv (S : SR K c H0 G0 pn o G e p σ H) {a : Addr} (h : Priv pn o e σ a) : (∃ u, H a = some u ∧ isDat u) ∧ G a = none ∧ a ≠ c.pa := by
  rcases h with ⟨i, d, h1, h2, h3, h4⟩ | ⟨q, hq, rfl⟩
  · obtain ⟨l, e1, e2, e3, e4, e5⟩ := S.ow i d h1 h2 h3
    rw [h4] at e1
    cases e1
    exact ⟨e2.dat, e4, e5⟩
  · obtain ⟨h1, h2, h3, h4, _⟩ := S.pi q hq
    exact ⟨⟨_, h1, h2⟩, h3, h4⟩
theorem SR.move (S : SR K c H0 G0 pn o G e p σ H) (b : BR c H0 G0 G1 p1 H1) (s : Same G G1)
    (k : ∀ (l : Addr) (u : HO), Priv pn o e σ l → H l = some u → isDat u → G l = none → l ≠ c.pa → H1 l = some u ∧ G1 l = none) : SR K c H0 G0 pn o G1 e p1 σ H1 where
  b := b
  len := S.len
  fz := fun i d h q => let ⟨v, h1, h2⟩ := S.fz i d h q; ⟨v, h1, h2.mono s⟩
  ow := fun i d h q m => by
    obtain ⟨l, h1, h2, h3, h4, h5⟩ := S.ow i d h q m
    obtain ⟨u, hu, hd⟩ := h2.dat
    obtain ⟨k1, k2⟩ := k l u (.inl ⟨i, d, h, q, m, h1⟩) hu hd h4 h5
    exact ⟨l, h1, h2.move s fun w hw => by rw [hu] at hw; cases hw; exact k1, h3, k2, h5⟩
  ne := S.ne
  pi := fun q hq => by
    obtain ⟨h1, h2, h3, h4, h5⟩ := S.pi q hq
    obtain ⟨k1, k2⟩ := k q.1 q.2 (.inr ⟨q, hq, rfl⟩) h1 h2 h3 h4
    exact ⟨k1, h2, k2, h4, h5⟩
/-- behind a callee -/
theorem SR.call (S : SR K c H0 G0 pn o G e p σ H) (b2 : BR c H G G1 p1 H1) : SR K c H0 G0 pn o G1 e p1 σ H1 := by
  refine S.move (S.b.trans b2) b2.g0 fun l u _ hu hd hG hp => ⟨b2.fr _ _ hu hp hd.ntbl, ?_⟩
  cases g : G1 l with
  | none => rfl
  | some w' =>
    rcases b2.gn _ _ g with z | z
    · rw [hG] at z; cases z
    · exact absurd (z _ hu) hd.ntbl
theorem SR.new (S : SR K c H0 G0 pn o G e p σ H) {a : Addr} {u : HO} (n : H a = none) (t : ¬ isTbl u) : SR K c H0 G0 pn o (upd G a u) e p σ (upd H a u) ∧ Same G (upd G a u) := by
  obtain ⟨b, s⟩ := S.b.new n t
  refine ⟨S.move b s fun l w _ hw _ hG _ => ?_, s⟩
  have nl : l ≠ a := ne_of_none hw n
  exact ⟨by rw [upd_ne nl]; exact hw, by rw [upd_ne nl]; exact hG⟩
theorem SR.newH (S : SR K c H0 G0 pn o G e p σ H) {a : Addr} {u : HO} (n : H a = none) : SR K c H0 G0 pn o G e p σ (upd H a u) := by
  refine S.move (S.b.newH n) (Same.refl _) fun l w _ hw _ hG _ => ?_
  have nl : l ≠ a := ne_of_none hw n
  exact ⟨by rw [upd_ne nl]; exact hw, hG⟩
/-- what nobody knows, not even a slot, is known to all -/
theorem SR.give (S : SR K c H0 G0 pn o G e p σ H) {a : Addr} {u : HO} (h : H a = some u) (nG : G a = none) (nw : NewIn H0 a) (npa : a ≠ c.pa) (t : ¬ isTbl u) (ns : ¬ Priv pn o e σ a) :
    SR K c H0 G0 pn o (upd G a u) e p σ H ∧ Same G (upd G a u) := by
  obtain ⟨b, s⟩ := S.b.give h nG nw npa t
  refine ⟨S.move b s fun l w pl hw _ hG _ => ⟨hw, ?_⟩, s⟩
  have nl : l ≠ a := fun z => ns (by rw [← z]; exact pl)
  rw [upd_ne nl]; exact hG
/-- .. is changed -/
theorem SR.write (S : SR K c H0 G0 pn o G e p σ H) {a : Addr} {u w : HO} (h : H a = some w) (tw : isDat w) (nG : G a = none) (nw : NewIn H0 a) (npa : a ≠ c.pa) (ns : ¬ Priv pn o e σ a) : SR K c H0 G0 pn o G e p σ (upd H a u) := by
  refine S.move (S.b.write h tw nG nw npa) (Same.refl _) fun l w pl hw _ hG _ => ?_
  have nl : l ≠ a := fun z => ns (by rw [← z]; exact pl)
  exact ⟨by rw [upd_ne nl]; exact hw, hG⟩
theorem own_set {o : Own} {i j : Nat} {f : Bool} (h : own (o.set i f) j = true) : (j = i ∧ f = true) ∨ (j ≠ i ∧ own o j = true) := by
  unfold own at h ⊢
  rw [List.getD_eq_getElem?_getD] at h
  by_cases e : i = j
  · subst e
    by_cases hl : i < o.length
    · rw [List.getElem?_set_self hl] at h; exact .inl ⟨rfl, h⟩
    · rw [List.getElem?_eq_none (by simpa using Nat.le_of_not_lt hl)] at h; cases h
  · rw [List.getElem?_set_ne e] at h
    exact .inr ⟨fun z => e z.symm, by rw [List.getD_eq_getElem?_getD]; exact h⟩
theorem and_dec {a : Bool} {p : Prop} [Decidable p] (h : (a && decide p) = true) : a = true ∧ p := by simpa using h
/-- a slot is forgotten by the data -/
theorem SR.own_le {o' : Own} (S : SR K c H0 G0 pn o G e p σ H) (i : Nat) (hi : own o i = true) (ho : ∀ j, own o' j = (own o j && decide (j ≠ i))) : ∃ G1, Same G G1 ∧ SR K c H0 G0 pn o' G1 e p σ H := by
  by_cases hm : ∃ d, e[i]? = some (some d) ∧ IsMut d = true
  · obtain ⟨d, he, hm⟩ := hm
    obtain ⟨l, h1, h2, h3, h4, h5⟩ := S.ow i d he hi hm
    obtain ⟨u, hu, hd⟩ := h2.dat
    obtain ⟨b, s⟩ := S.b.give hu h4 h3 h5 hd.ntbl
    refine ⟨upd G l u, s, b, S.len, fun j d' h q => ?_, fun j d' h q m => ?_, fun j k d1 d2 a1 a2 q1 q2 => ?_, fun q hq => ?_⟩
    · by_cases hj : j = i
      · subst hj
        rw [he] at h; cases h
        exact ⟨_, h1, h2.rep hu s upd_same⟩
      · obtain ⟨v, e1, e2⟩ := S.fz j d' h (by
          rw [ho] at q
          simpa [hj] using q)
        exact ⟨v, e1, e2.mono s⟩
    · rw [ho] at q
      have qj : own o j = true ∧ j ≠ i := by simpa using q
      obtain ⟨l', e1, e2, e3, e4, e5⟩ := S.ow j d' h qj.1 m
      have nl : l' ≠ l := fun z => S.ne j i d' d h he qj.1 hi m hm qj.2 (by rw [e1, h1, z])
      exact ⟨l', e1, e2.move s fun u q => q, e3, by rw [upd_ne nl]; exact e4, e5⟩
    · rw [ho] at q1 q2
      have q1' : own o j = true ∧ j ≠ i := by simpa using q1
      have q2' : own o k = true ∧ k ≠ i := by simpa using q2
      exact S.ne j k d1 d2 a1 a2 q1'.1 q2'.1
    · obtain ⟨p1, p2, p3, p4, p5⟩ := S.pi q hq
      refine ⟨p1, p2, ?_, p4, fun j d' h1 h2 => p5 j d' h1 (by rw [ho] at h2; exact (and_dec h2).1)⟩
      rw [upd_ne fun z => p5 i d he hi hm (by rw [z]; exact h1)]; exact p3
  · refine ⟨G, Same.refl _, S.b, S.len, fun j d' h q => ?_, fun j d' h q m => ?_, fun j k d1 d2 a1 a2 q1 q2 => ?_, fun q hq => ?_⟩
    · by_cases hj : j = i
      · subst hj
        refine S.fz j d' h (.inr ?_)
        cases hd : IsMut d' with
        | false => rfl
        | true => exact absurd ⟨d', h, hd⟩ hm
      · refine S.fz j d' h ?_
        rw [ho] at q
        simpa [hj] using q
    · rw [ho] at q
      have qj : own o j = true ∧ j ≠ i := by simpa using q
      exact S.ow j d' h qj.1 m
    · rw [ho] at q1 q2
      have q1' : own o j = true ∧ j ≠ i := by simpa using q1
      have q2' : own o k = true ∧ k ≠ i := by simpa using q2
      exact S.ne j k d1 d2 a1 a2 q1'.1 q2'.1
    · obtain ⟨p1, p2, p3, p4, p5⟩ := S.pi q hq
      exact ⟨p1, p2, p3, p4, fun j d' h1 h2 => p5 j d' h1 (by rw [ho] at h2; exact (and_dec h2).1)⟩
def leO (o' o : Own) : Bool := (List.range (max o.length o'.length)).all fun i => !own o' i || own o i
theorem own_out {o : Own} {i : Nat} (h : o.length ≤ i) : own o i = false := by
  unfold own
  rw [List.getD_eq_getElem?_getD, List.getElem?_eq_none h]
  rfl
theorem leO_of {o' o : Own} (h : leO o' o = true) (i : Nat) (q : own o' i = true) : own o i = true := by
  by_cases hi : i < max o.length o'.length
  · have := List.all_eq_true.mp h i (List.mem_range.mpr hi)
    rw [q] at this
    simpa using this
  · have z : own o' i = false := own_out (Nat.le_trans (Nat.le_max_right _ _) (Nat.le_of_not_lt hi))
    rw [q] at z; cases z
/-- fewer slots are owned -/
theorem SR.less {o' : Own} (S : SR K c H0 G0 pn o G e p σ H) (h : leO o' o = true) : ∃ G1, Same G G1 ∧ SR K c H0 G0 pn o' G1 e p σ H := by
  have go : ∀ (n : Nat) (G : Hp) (o1 : Own), SR K c H0 G0 pn o1 G e p σ H → (∀ i, own o' i = true → own o1 i = true) → (∀ i, n ≤ i → own o1 i = own o' i) → ∃ G1, Same G G1 ∧ SR K c H0 G0 pn o' G1 e p σ H := by
    intro n
    induction n with
    | zero =>
      intro G o1 S1 h1 h2
      exact ⟨G, Same.refl _, S1.b, S1.len, fun i d a q => S1.fz i d a (by rw [h2 i (Nat.zero_le _)]; exact q), fun i d a q => S1.ow i d a (by rw [h2 i (Nat.zero_le _)]; exact q),
        fun i j d d' a1 a2 q1 q2 => S1.ne i j d d' a1 a2 (by rw [h2 i (Nat.zero_le _)]; exact q1) (by rw [h2 j (Nat.zero_le _)]; exact q2),
        fun q hq => let ⟨p1, p2, p3, p4, p5⟩ := S1.pi q hq; ⟨p1, p2, p3, p4, fun i d a b => p5 i d a (by rw [h2 i (Nat.zero_le _)]; exact b)⟩⟩
    | succ n ih =>
      intro G o1 S1 h1 h2
      by_cases hc : own o1 n = own o' n
      · exact ih G o1 S1 h1 fun i hi => by
          by_cases e : i = n
          · rw [e]; exact hc
          · exact h2 i (by omega)
      · have t1 : own o1 n = true := by
          cases z : own o1 n with
          | true => rfl
          | false =>
            cases z' : own o' n with
            | false => rw [z, z'] at hc; exact absurd rfl hc
            | true => rw [h1 n z'] at z; cases z
        have t2 : own o' n = false := by
          cases z' : own o' n with
          | false => rfl
          | true => rw [t1, z'] at hc; exact absurd rfl hc
        have ho : ∀ j, own (o1.set n false) j = (own o1 j && decide (j ≠ n)) := fun j => by
          unfold own
          rw [List.getD_eq_getElem?_getD, List.getD_eq_getElem?_getD]
          by_cases e : j = n
          · subst e
            by_cases hl : j < o1.length
            · rw [List.getElem?_set_self hl]; simp
            · rw [List.getElem?_eq_none (by simpa using Nat.le_of_not_lt hl)]; simp
          · rw [List.getElem?_set_ne (Ne.symm e)]; simp [e]
        obtain ⟨G1, s1, S2⟩ := S1.own_le n t1 ho
        obtain ⟨G2, s2, S3⟩ := ih G1 (o1.set n false) S2 (fun i q => by
          rw [ho, h1 i q]
          have : i ≠ n := fun e => by rw [e, t2] at q; cases q
          simp [this]) (fun i hi => by
          rw [ho]
          by_cases e : i = n
          · rw [e, t2]; simp
          · rw [h2 i (by omega)]; simp [e])
        exact ⟨G2, s1.trans s2, S3⟩
  exact go (max o.length o'.length) G o S (leO_of h) fun i hi => by
    rw [own_out (Nat.le_trans (Nat.le_max_left _ _) hi), own_out (Nat.le_trans (Nat.le_max_right _ _) hi)]
/-- a slot takes data -/
theorem SR.put {i : Nat} {v : V} {d : D} (S : SR K c H0 G0 pn o G e p σ H) (r : Rep K c.ca G v d) : SR K c H0 G0 pn (o.set i false) G (e.set i (some d)) p (σ.set i (some v)) H := by
  have oj : ∀ j, own (o.set i false) j = true → j ≠ i ∧ own o j = true := fun j h => by
    rcases own_set h with ⟨_, z⟩ | z
    · cases z
    · exact z
  refine ⟨S.b, by simpa using S.len, fun j d' h q => ?_, fun j d' h q m => ?_, fun j k d1 d2 a1 a2 q1 q2 m1 m2 => ?_, fun q hq => ?_⟩
  · by_cases hj : i = j
    · subst hj
      have hl : i < e.length := by
        have := (List.getElem?_eq_some_iff.mp h).1
        simpa using this
      rw [List.getElem?_set_self hl] at h
      cases h
      exact ⟨v, by rw [List.getElem?_set_self (by rw [S.len]; exact hl)], r⟩
    · rw [List.getElem?_set_ne hj] at h ⊢
      refine S.fz j d' h ?_
      rcases q with q | q
      · left
        cases z : own o j with
        | false => rfl
        | true =>
          have : own (o.set i false) j = true := by
            unfold own at z ⊢
            rw [List.getD_eq_getElem?_getD] at z ⊢
            rw [List.getElem?_set_ne hj]; exact z
          rw [this] at q; cases q
      · exact .inr q
  · obtain ⟨hj, q⟩ := oj j q
    rw [List.getElem?_set_ne (Ne.symm hj)] at h ⊢
    exact S.ow j d' h q m
  · obtain ⟨hj, q1⟩ := oj j q1
    obtain ⟨hk, q2⟩ := oj k q2
    rw [List.getElem?_set_ne (Ne.symm hj)] at a1 ⊢
    rw [List.getElem?_set_ne (Ne.symm hk)] at a2 ⊢
    exact S.ne j k d1 d2 a1 a2 q1 q2 m1 m2
  · obtain ⟨p1, p2, p3, p4, p5⟩ := S.pi q hq
    refine ⟨p1, p2, p3, p4, fun j d' h1 h2 => ?_⟩
    obtain ⟨hj, h2⟩ := oj j h2
    rw [List.getElem?_set_ne (Ne.symm hj)] at h1 ⊢
    exact p5 j d' h1 h2
/-- a slot takes what nobody knows -/
theorem SR.putO {i : Nat} {l : Addr} {d : D} (S : SR K c H0 G0 pn o G e p σ H) (hlo : i < o.length) (hw : OwnAt K c.ca G H l d) (nw : NewIn H0 l) (nG : G l = none) (npa : l ≠ c.pa)
    (ns : ¬ Priv pn o e σ l) : SR K c H0 G0 pn (o.set i true) G (e.set i (some d)) p (σ.set i (some (.ref l))) H := by
  have hmut : IsMut d = true := by
    cases d with
    | lst _ => rfl
    | dK _ => rfl
    | dT _ => rfl
    | _ => exact hw.elim
  have oi : own (o.set i true) i = true := by
    unfold own
    rw [List.getD_eq_getElem?_getD, List.getElem?_set_self hlo]; rfl
  have oj : ∀ j, j ≠ i → own (o.set i true) j = own o j := fun j hj => by
    unfold own
    rw [List.getD_eq_getElem?_getD, List.getD_eq_getElem?_getD, List.getElem?_set_ne (Ne.symm hj)]
  have il : ∀ {d' : D}, (e.set i (some d))[i]? = some (some d') → i < e.length ∧ d' = d := fun {d'} h => by
    have hl : i < e.length := by
      have := (List.getElem?_eq_some_iff.mp h).1
      simpa using this
    rw [List.getElem?_set_self hl] at h
    cases h
    exact ⟨hl, rfl⟩
  have nsl : ∀ (j : Nat) (d' : D), e[j]? = some (some d') → own o j = true → IsMut d' = true → σ[j]? ≠ some (some (.ref l)) := fun j d' h1 h2 h3 h4 => ns (.inl ⟨j, d', h1, h2, h3, h4⟩)
  refine ⟨S.b, by simpa using S.len, fun j d' h q => ?_, fun j d' h q m => ?_, fun j k d1 d2 a1 a2 q1 q2 m1 m2 hjk => ?_, fun q hq => ?_⟩
  · by_cases hj : i = j
    · subst hj
      obtain ⟨hl, rfl⟩ := il h
      rcases q with q | q
      · rw [oi] at q; cases q
      · rw [hmut] at q; cases q
    · rw [List.getElem?_set_ne hj] at h ⊢
      exact S.fz j d' h (by rw [oj j (Ne.symm hj)] at q; exact q)
  · by_cases hj : i = j
    · subst hj
      obtain ⟨hl, rfl⟩ := il h
      exact ⟨l, by rw [List.getElem?_set_self (by rw [S.len]; exact hl)], hw, nw, nG, npa⟩
    · rw [List.getElem?_set_ne hj] at h ⊢
      exact S.ow j d' h (by rw [oj j (Ne.symm hj)] at q; exact q) m
  · by_cases hj : i = j
    · subst hj
      have hk : k ≠ i := Ne.symm hjk
      obtain ⟨hl, rfl⟩ := il a1
      rw [List.getElem?_set_ne (Ne.symm hk)] at a2
      rw [List.getElem?_set_self (by rw [S.len]; exact hl), List.getElem?_set_ne (Ne.symm hk)]
      rw [oj k hk] at q2
      exact fun z => nsl k d2 a2 q2 m2 z.symm
    · by_cases hk : i = k
      · subst hk
        obtain ⟨hl, rfl⟩ := il a2
        rw [List.getElem?_set_ne hj] at a1
        rw [List.getElem?_set_self (l := σ) (by rw [S.len]; exact hl), List.getElem?_set_ne hj]
        rw [oj j (Ne.symm hj)] at q1
        exact nsl j d1 a1 q1 m1
      · rw [List.getElem?_set_ne hj] at a1 ⊢
        rw [List.getElem?_set_ne hk] at a2 ⊢
        rw [oj j (Ne.symm hj)] at q1
        rw [oj k (Ne.symm hk)] at q2
        exact S.ne j k d1 d2 a1 a2 q1 q2 m1 m2 hjk
  · obtain ⟨p1, p2, p3, p4, p5⟩ := S.pi q hq
    refine ⟨p1, p2, p3, p4, fun j d' h1 h2 h3 => ?_⟩
    by_cases hj : i = j
    · subst hj
      obtain ⟨hl, rfl⟩ := il h1
      rw [List.getElem?_set_self (by rw [S.len]; exact hl)]
      intro z
      cases z
      exact ns (.inr ⟨q, hq, rfl⟩)
    · rw [List.getElem?_set_ne hj] at h1 ⊢
      exact p5 j d' h1 (by rw [oj j (Ne.symm hj)] at h2; exact h2) h3
/-- a slot that holds nothing that may be changed may be said to be owned or not -/
theorem SR.as_own {o' : Own} {i : Nat} (S : SR K c H0 G0 pn o G e p σ H) (hm : ∀ d, e[i]? = some (some d) → IsMut d = false) (oj : ∀ j, j ≠ i → own o' j = own o j) : SR K c H0 G0 pn o' G e p σ H := by
  refine ⟨S.b, S.len, fun j d' h q => ?_, fun j d' h q m => ?_, fun j k d1 d2 a1 a2 q1 q2 m1 m2 => ?_, fun q hq => ?_⟩
  · by_cases hj : j = i
    · subst hj
      exact S.fz j d' h (.inr (hm d' h))
    · exact S.fz j d' h (by rw [← oj j hj]; exact q)
  · by_cases hj : j = i
    · subst hj
      rw [hm d' h] at m; cases m
    · exact S.ow j d' h (by rw [← oj j hj]; exact q) m
  · by_cases hj : j = i
    · subst hj
      rw [hm d1 a1] at m1; cases m1
    · by_cases hk : k = i
      · subst hk
        rw [hm d2 a2] at m2; cases m2
      · exact S.ne j k d1 d2 a1 a2 (by rw [← oj j hj]; exact q1) (by rw [← oj k hk]; exact q2) m1 m2
  · obtain ⟨p1, p2, p3, p4, p5⟩ := S.pi q hq
    refine ⟨p1, p2, p3, p4, fun j d' h1 h2 h3 => ?_⟩
    by_cases hj : j = i
    · subst hj
      rw [hm d' h1] at h3; cases h3
    · exact p5 j d' h1 (by rw [← oj j hj]; exact h2) h3
/-- the value of an owned slot is another one -/
theorem SR.turn {i : Nat} {d d' : D} {l : Addr} {u : HO} (S : SR K c H0 G0 pn o G e p σ H) (he : e[i]? = some (some d)) (hi : own o i = true) (hm : IsMut d = true) (hs : σ[i]? = some (some (.ref l)))
    (hw : OwnAt K c.ca G (upd H l u) l d') : SR K c H0 G0 pn o G (e.set i (some d')) p σ (upd H l u) := by
  have hmut : IsMut d' = true := by
    cases d' with
    | lst _ => rfl
    | dK _ => rfl
    | dT _ => rfl
    | _ => exact hw.elim
  obtain ⟨l', h1, h2, h3, h4, h5⟩ := S.ow i d he hi hm
  have el : l' = l := by rw [hs] at h1; cases h1; rfl
  subst el
  obtain ⟨w, hu, hd⟩ := h2.dat
  have hl : i < e.length := (List.getElem?_eq_some_iff.mp he).1
  have il : ∀ {d2 : D}, (e.set i (some d'))[i]? = some (some d2) → d2 = d' := fun {d2} h => by
    rw [List.getElem?_set_self hl] at h
    cases h; rfl
  have ol : ∀ (j : Nat) (d2 : D), j ≠ i → e[j]? = some (some d2) → own o j = true → IsMut d2 = true → ∀ l2, σ[j]? = some (some (.ref l2)) → l2 ≠ l' := fun j d2 hj a1 a2 a3 l2 a4 z => S.ne j i d2 d a1 he a2 hi a3 hm hj (by rw [a4, hs, z])
  refine ⟨S.b.write hu hd h4 h3 h5, by simpa using S.len, fun j d2 h q => ?_, fun j d2 h q m => ?_, fun j k d1 d2 a1 a2 q1 q2 m1 m2 hjk => ?_, fun q hq => ?_⟩
  · by_cases hj : i = j
    · subst hj
      rw [il h] at q
      rcases q with q | q
      · rw [hi] at q; cases q
      · rw [hmut] at q; cases q
    · rw [List.getElem?_set_ne hj] at h
      exact S.fz j d2 h q
  · by_cases hj : i = j
    · subst hj
      rw [il h]
      exact ⟨l', hs, hw, h3, h4, h5⟩
    · rw [List.getElem?_set_ne hj] at h
      obtain ⟨l2, e1, e2, e3, e4, e5⟩ := S.ow j d2 h q m
      have nl := ol j d2 (Ne.symm hj) h q m l2 e1
      exact ⟨l2, e1, e2.move (Same.refl _) fun w' hw' => by rw [upd_ne nl]; exact hw', e3, e4, e5⟩
  · have t : ∀ (j : Nat) (dj : D), (e.set i (some d'))[j]? = some (some dj) → own o j = true → IsMut dj = true → ∃ d0, e[j]? = some (some d0) ∧ IsMut d0 = true := fun j dj a q m => by
      by_cases hj : i = j
      · subst hj; exact ⟨d, he, hm⟩
      · rw [List.getElem?_set_ne hj] at a; exact ⟨dj, a, m⟩
    obtain ⟨b1, c1, c2⟩ := t j d1 a1 q1 m1
    obtain ⟨b2, c3, c4⟩ := t k d2 a2 q2 m2
    exact S.ne j k b1 b2 c1 c3 q1 q2 c2 c4 hjk
  · obtain ⟨p1, p2, p3, p4, p5⟩ := S.pi q hq
    refine ⟨?_, p2, p3, p4, fun j d2 a1 a2 a3 => ?_⟩
    · rw [upd_ne fun z => p5 i d he hi hm (by rw [z]; exact hs)]; exact p1
    · by_cases hj : i = j
      · subst hj; exact p5 i d he hi hm
      · rw [List.getElem?_set_ne hj] at a1; exact p5 j d2 a1 a2 a3
/-- slots forgotten -/
def wipeE (e : Env) : List Nat → Env
  | [] => e
  | v :: vs => (wipeE e vs).set v none
theorem wipeE_len (e : Env) : ∀ vs, (wipeE e vs).length = e.length
  | [] => rfl
  | v :: vs => by unfold wipeE; rw [List.length_set, wipeE_len e vs]
theorem wipeE_get {e : Env} {j : Nat} {d : D} : ∀ {vs : List Nat}, (wipeE e vs)[j]? = some (some d) → e[j]? = some (some d) ∧ j ∉ vs
  | [], h => ⟨h, by simp⟩
  | v :: vs, h => by
    unfold wipeE at h
    by_cases hj : v = j
    · subst hj
      by_cases hv : v < (wipeE e vs).length
      · rw [List.getElem?_set_self hv] at h; cases h
      · rw [List.getElem?_eq_none (by simpa using hv)] at h; cases h
    · rw [List.getElem?_set_ne hj] at h
      obtain ⟨h1, h2⟩ := wipeE_get h
      exact ⟨h1, by simp only [List.mem_cons, not_or]; exact ⟨fun z => hj z.symm, h2⟩⟩
theorem wipe_get {σ : L2.St} {j : Nat} : ∀ {vs : List Nat}, j ∉ vs → (wipe σ vs)[j]? = σ[j]?
  | [], _ => rfl
  | v :: vs, h => by
    simp only [List.mem_cons, not_or] at h
    unfold wipe
    rw [List.getElem?_set_ne (Ne.symm h.1), wipe_get h.2]
theorem SR.wiped (S : SR K c H0 G0 pn o G e p σ H) (vs : List Nat) : SR K c H0 G0 pn o G (wipeE e vs) p (wipe σ vs) H := by
  refine ⟨S.b, by rw [wipe_length, wipeE_len]; exact S.len, fun j d h q => ?_, fun j d h q m => ?_, fun j k d1 d2 a1 a2 q1 q2 m1 m2 hjk => ?_, fun q hq => ?_⟩
  · obtain ⟨h1, h2⟩ := wipeE_get h
    rw [wipe_get h2]
    exact S.fz j d h1 q
  · obtain ⟨h1, h2⟩ := wipeE_get h
    rw [wipe_get h2]
    exact S.ow j d h1 q m
  · obtain ⟨h1, h2⟩ := wipeE_get a1
    obtain ⟨h3, h4⟩ := wipeE_get a2
    rw [wipe_get h2, wipe_get h4]
    exact S.ne j k d1 d2 h1 h3 q1 q2 m1 m2 hjk
  · obtain ⟨p1, p2, p3, p4, p5⟩ := S.pi q hq
    refine ⟨p1, p2, p3, p4, fun j d' h1 h2 h3 => ?_⟩
    obtain ⟨h1, h4⟩ := wipeE_get h1
    rw [wipe_get h4]
    exact p5 j d' h1 h2 h3
end
end Mz
/-! Mz, part c: the judgements; names, constants, operators, tests. -/
namespace Mz
open PySem PySem.Spec PyProof.Rows L2

/-- where code stands; ob: what is owned at a loop's next turn and at its end -/
structure Z where
  X : Cx
  W : WX
  c : Cfg
  H0 : Hp
  G0 : Hp
  ob : Own
  pn : Pins

/-- how a value lies: fro: as data for all; bor: or in an owned slot; fre: what may be changed is new and known to nobody -/
inductive Mode where
  | fro | bor | fre
def Lies (K : PySem.W.Frag) (c : Cfg) (H0 : Hp) (pn : Pins) (o : Own) (G : Hp) (e : Env) (σ : L2.St) (H : Hp) (v : V) (d : D) : Mode → Prop
  | .fro => Rep K c.ca G v d
  | .bor => Rep K c.ca G v d ∨ ∃ i, own o i = true ∧ IsMut d = true ∧ e[i]? = some (some d) ∧ σ[i]? = some (some v)
  | .fre => if IsMut d = true then ∃ l, v = .ref l ∧ OwnAt K c.ca G H l d ∧ NewIn H0 l ∧ G l = none ∧ l ≠ c.pa ∧ ¬ Priv pn o e σ l else Rep K c.ca G v d
/-- an exception's class and dict -/
def ExcR (K : PySem.W.Frag) (c : Cfg) (G : Hp) (cls : Value) (dd : Option Addr) (x : Exn) : Prop :=
  cls = .ref (c.ca x.c) ∧ ∃ a vs, dd = some a ∧ G a = some (.xd vs) ∧ RepF K c.ca G vs x.fs

section
variable (z : Z) (o : Own)
/-- an expression's reading -/
def RE (md : Mode) (m : M D) : TE := fun σ H Q => ∃ G e p, SR z.X.K z.c z.H0 z.G0 z.pn o G e p σ H ∧
  Cont (m e p) (fun d p' => ∀ v G' H', Same G G' → SR z.X.K z.c z.H0 z.G0 z.pn o G' e p' σ H' → Lies z.X.K z.c z.H0 z.pn o G' e σ H' v d md → Q v H')
    (fun x p' => ∀ cls dd G' H', Same G G' → SR z.X.K z.c z.H0 z.G0 z.pn o G' e p' σ H' → ExcR z.X.K z.c G' cls dd x → z.W cls dd σ H')
def RT (m : M Bool) : TT := fun σ H Q => ∃ G e p, SR z.X.K z.c z.H0 z.G0 z.pn o G e p σ H ∧
  Cont (m e p) (fun b p' => ∀ G' H', Same G G' → SR z.X.K z.c z.H0 z.G0 z.pn o G' e p' σ H' → Q b H')
    (fun x p' => ∀ cls dd G' H', Same G G' → SR z.X.K z.c z.H0 z.G0 z.pn o G' e p' σ H' → ExcR z.X.K z.c G' cls dd x → z.W cls dd σ H')
def RA (m : M (List D)) : TA := fun σ H Q => ∃ G e p, SR z.X.K z.c z.H0 z.G0 z.pn o G e p σ H ∧
  Cont (m e p) (fun ds p' => ∀ vs G' H', Same G G' → SR z.X.K z.c z.H0 z.G0 z.pn o G' e p' σ H' → Reps z.X.K z.c.ca G' vs ds → Q vs H')
    (fun x p' => ∀ cls dd G' H', Same G G' → SR z.X.K z.c z.H0 z.G0 z.pn o G' e p' σ H' → ExcR z.X.K z.c G' cls dd x → z.W cls dd σ H')
/-- a statement's; o': what is owned behind it -/
def RS (o' : Own) (m : MS) : TS := fun D' σ H => ∃ G e p, SR z.X.K z.c z.H0 z.G0 z.pn o G e p σ H ∧
  match m e p with
  | .next e' p' => ∀ σ' G' H', Same G G' → SR z.X.K z.c z.H0 z.G0 z.pn o' G' e' p' σ' H' → D'.nx σ' H'
  | .ret d p' => ∀ v G' H', Same G G' → BR z.c z.H0 z.G0 G' p' H' → Rep z.X.K z.c.ca G' v d → D'.rt v H'
  | .brk e' p' => ∀ σ' G' H', Same G G' → SR z.X.K z.c z.H0 z.G0 z.pn z.ob G' e' p' σ' H' → D'.bk σ' H'
  | .cnt e' p' => ∀ σ' G' H', Same G G' → SR z.X.K z.c z.H0 z.G0 z.pn z.ob G' e' p' σ' H' → D'.ct σ' H'
  | .err x e' p' => ∀ cls dd σ' G' H', Same G G' → SR z.X.K z.c z.H0 z.G0 z.pn [] G' e' p' σ' H' → ExcR z.X.K z.c G' cls dd x → z.W cls dd σ' H'
  | .stuck => False
abbrev ME (md : Mode) (e : Expr) (m : M D) : Prop := PE z.X e (RE z o md m)
abbrev MT (e : Expr) (m : M Bool) : Prop := PT z.X e (RT z o m)
abbrev MW (e : Expr) (m : M Bool) : Prop := PW z.X e (RT z o m)
abbrev MA (es : List Expr) (m : M (List D)) : Prop := PA z.X es (RA z o m)
abbrev MSt (st : Stmt) (m : MS) (o' : Own) : Prop := PS z.X st (RS z o o' m)
abbrev MSs (sts : List Stmt) (m : MS) (o' : Own) : Prop := PSs z.X sts (RS z o o' m)
end

theorem PE.imp {X : Cx} {e : Expr} {t t' : TE} (h : PE X e t) (k : ∀ σ H Q, t' σ H Q → t σ H Q) : PE X e t' := ⟨fun pins s σ H Q I q => h.run pins s σ H Q I (k _ _ _ q)⟩
theorem PT.imp {X : Cx} {e : Expr} {t t' : TT} (h : PT X e t) (k : ∀ σ H Q, t' σ H Q → t σ H Q) : PT X e t' := ⟨fun pins s σ H Q I q => h.run pins s σ H Q I (k _ _ _ q)⟩
theorem PW.imp {X : Cx} {e : Expr} {t t' : TT} (h : PW X e t) (k : ∀ σ H Q, t' σ H Q → t σ H Q) : PW X e t' := ⟨fun w pins s σ H Q I q => h.run w pins s σ H Q I (k _ _ _ q)⟩
theorem PA.imp {X : Cx} {e : List Expr} {t t' : TA} (h : PA X e t) (k : ∀ σ H Q, t' σ H Q → t σ H Q) : PA X e t' := ⟨fun pos pins s σ H Q I q => h.run pos pins s σ H Q I (k _ _ _ q)⟩
theorem PS.imp {X : Cx} {e : Stmt} {t t' : TS} (h : PS X e t) (k : ∀ D σ H, t' D σ H → t D σ H) : PS X e t' := ⟨fun pins s σ H D I q => h.run pins s σ H D I (k _ _ _ q)⟩
theorem PSs.imp {X : Cx} {e : List Stmt} {t t' : TS} (h : PSs X e t) (k : ∀ D σ H, t' D σ H → t D σ H) : PSs X e t' := ⟨fun pins s σ H D I q => h.run pins s σ H D I (k _ _ _ q)⟩

section
variable {z : Z} {o o' : Own} {a b e' : Expr} {ma mb : M D} {pos : Pos}

theorem Lies.fro_bor {K : PySem.W.Frag} {c : Cfg} {H0 : Hp} {pn : Pins} {o : Own} {G : Hp} {e : Env} {σ : L2.St} {H : Hp} {v : V} {d : D} (h : Lies K c H0 pn o G e σ H v d .fro) : Lies K c H0 pn o G e σ H v d .bor := .inl h
/-- what is new is given to all -/
theorem Lies.fre_fro {K : PySem.W.Frag} {c : Cfg} {H0 G0 : Hp} {pn : Pins} {o : Own} {G : Hp} {e : Env} {p : Pen} {σ : L2.St} {H : Hp} {v : V} {d : D} (S : SR K c H0 G0 pn o G e p σ H) (h : Lies K c H0 pn o G e σ H v d .fre) :
    ∃ G', Same G G' ∧ SR K c H0 G0 pn o G' e p σ H ∧ Rep K c.ca G' v d := by
  unfold Lies at h
  by_cases hm : IsMut d = true
  · rw [if_pos hm] at h
    obtain ⟨l, rfl, h2, h3, h4, h5, h6⟩ := h
    obtain ⟨u, hu, hd⟩ := h2.dat
    obtain ⟨S', s⟩ := S.give hu h4 h3 h5 hd.ntbl h6
    exact ⟨_, s, S', h2.rep hu s upd_same⟩
  · rw [if_neg hm] at h
    exact ⟨G, Same.refl _, S, h⟩
/-- a borrowed value behind more code -/
theorem Lies.bor_move {K : PySem.W.Frag} {c : Cfg} {H0 : Hp} {pn : Pins} {o : Own} {G G' : Hp} {e : Env} {σ : L2.St} {H H' : Hp} {v : V} {d : D} (s : Same G G') (h : Lies K c H0 pn o G e σ H v d .bor) : Lies K c H0 pn o G' e σ H' v d .bor := by
  rcases h with h | h
  · exact .inl (h.mono s)
  · exact .inr h
theorem RE.mono {md md' : Mode} {m : M D} (h : ∀ (G : Hp) (e : Env) (p : Pen) (σ : L2.St) (H : Hp) (v : V) (d : D), SR z.X.K z.c z.H0 z.G0 z.pn o G e p σ H → Lies z.X.K z.c z.H0 z.pn o G e σ H v d md → ∃ G', Same G G' ∧ SR z.X.K z.c z.H0 z.G0 z.pn o G' e p σ H ∧ Lies z.X.K z.c z.H0 z.pn o G' e σ H v d md')
    (e' : ME z o md a m) : ME z o md' a m := PE.imp e' fun σ H Q ⟨G, e, p, S, q⟩ => ⟨G, e, p, S, q.mono (fun d p' k v G' H' s S' l => by
      obtain ⟨G2, s2, S2, l2⟩ := h G' e p' σ H' v d S' l
      exact k v G2 H' (s.trans s2) S2 l2) fun x p' k => k⟩
theorem me_bor {m : M D} (h : ME z o .fro a m) : ME z o .bor a m := RE.mono (md := .fro) (fun G e p σ H v d S l => ⟨G, Same.refl _, S, Lies.fro_bor l⟩) h
theorem me_fro {m : M D} (h : ME z o .fre a m) : ME z o .fro a m := RE.mono (md := .fre) (fun G e p σ H v d S l => Lies.fre_fro S l) h
theorem me_frb {m : M D} (h : ME z o .fre a m) : ME z o .bor a m := me_bor (me_fro h)

/-! ### names and constants -/
def mVar (i : Nat) : M D := fun e p => match e[i]? with
  | some (some d) => .ok d p
  | _ => .stuck
def mC (d : D) : M D := fun _ p => .ok d p
theorem mVar_cont {i : Nat} {e : Env} {p : Pen} {ok : D → Pen → Prop} {er : Exn → Pen → Prop} (h : Cont (mVar i e p) ok er) : ∃ d, e[i]? = some (some d) ∧ ok d p := by
  unfold mVar at h
  split at h
  · rename_i d q
    exact ⟨d, q, h⟩
  · exact h.elim
/-- a slot that is not owned -/
theorem me_var (i : Nat) {x : Str} (hf : own o i = false) (hN : z.X.N[i]? = some x := by rfl) (hv : Vis z.X.env.scope x := by first | exact Or.inl rfl | exact Or.inr (Or.inl rfl) | exact Or.inr (Or.inr rfl))
    (hd : (x == ("__debug__" : Str)) = false := by decide) (hcd : (x == ("__classdict__" : Str)) = false := by decide) : ME z o .fro (.Name x pos) (mVar i) :=
  PE.imp (pe_var hN hv hd hcd) fun σ H Q ⟨G, e, p, S, q⟩ => by
    obtain ⟨d, he, k⟩ := mVar_cont q
    obtain ⟨v, h1, h2⟩ := S.fz i d he (.inl hf)
    exact ⟨v, h1, k v G H (Same.refl _) S h2⟩
/-- any slot, to be looked at -/
theorem me_look (i : Nat) {x : Str} (hN : z.X.N[i]? = some x := by rfl) (hv : Vis z.X.env.scope x := by first | exact Or.inl rfl | exact Or.inr (Or.inl rfl) | exact Or.inr (Or.inr rfl))
    (hd : (x == ("__debug__" : Str)) = false := by decide) (hcd : (x == ("__classdict__" : Str)) = false := by decide) : ME z o .bor (.Name x pos) (mVar i) :=
  PE.imp (pe_var hN hv hd hcd) fun σ H Q ⟨G, e, p, S, q⟩ => by
    obtain ⟨d, he, k⟩ := mVar_cont q
    by_cases hm : own o i = true ∧ IsMut d = true
    · obtain ⟨l, h1, _⟩ := S.ow i d he hm.1 hm.2
      exact ⟨_, h1, k _ G H (Same.refl _) S (.inr ⟨i, hm.1, hm.2, he, h1⟩)⟩
    · obtain ⟨v, h1, h2⟩ := S.fz i d he (by
        cases h1 : own o i with
        | false => exact .inl rfl
        | true =>
          cases h2 : IsMut d with
          | false => exact .inr rfl
          | true => exact absurd ⟨h1, h2⟩ hm)
      exact ⟨v, h1, k v G H (Same.refl _) S (.inl h2)⟩
def Flat : V → D → Prop
  | .non, .non => True
  | .bl b, .bl b' => b = b'
  | .int i, .int i' => i = i'
  | .str x, .str x' => x = x'
  | .ty x, .ty x' => x = x'
  | .ref x, .ref x' => x = x'
  | _, _ => False
theorem Flat.rep {K : PySem.W.Frag} {ca : CA} {G : Hp} {v : V} {d : D} (h : Flat v d) : Rep K ca G v d := by
  cases v <;> cases d <;> first | exact h.elim | (cases (show _ = _ from h); constructor) | constructor
theorem Flat.nmut {v : V} {d : D} (h : Flat v d) : IsMut d = false := by
  cases v <;> cases d <;> first | exact h.elim | rfl
theorem Flat.lies {K : PySem.W.Frag} {c : Cfg} {H0 : Hp} {pn : Pins} {o : Own} {G : Hp} {e : Env} {σ : L2.St} {H : Hp} {v : V} {d : D} {md : Mode} (h : Flat v d) : Lies K c H0 pn o G e σ H v d md := by
  cases md with
  | fro => exact h.rep
  | bor => exact .inl h.rep
  | fre =>
    unfold Lies
    rw [if_neg (by rw [h.nmut]; exact Bool.false_ne_true)]
    exact h.rep
theorem me_c {v : V} {d : D} {md : Mode} (h : PE z.X a (tC v)) (f : Flat v d := by exact rfl) : ME z o md a (mC d) :=
  PE.imp h fun σ H Q ⟨G, e, p, S, q⟩ => q v G H (Same.refl _) S f.lies
theorem me_int {i j} {md : Mode} : ME z o md (.Constant (.int i) j pos) (mC (.int i)) := me_c pe_int rfl
theorem me_bl {b j} {md : Mode} : ME z o md (.Constant (.bool b) j pos) (mC (.bl b)) := me_c pe_bl rfl
theorem me_non {j} {md : Mode} : ME z o md (.Constant .none j pos) (mC .non) := me_c pe_non True.intro
theorem me_str {x j} {md : Mode} : ME z o md (.Constant (.str x) j pos) (mC (.str x)) := me_c pe_str rfl
/-- a module's constant -/
theorem me_glob {x : Str} {v : V} {d : D} {u : Value} {md : Mode} (hm : z.X.mg x = some u) (r : RelV v u) (f : Flat v d) (hg : Gl z.X x := by rfl) (hd : (x == ("__debug__" : Str)) = false := by decide) : ME z o md (.Name x pos) (mC d) := me_c (pe_glob hg hm r hd) f
/-- a built-in's name as a value -/
theorem me_bltn {x : Str} {v : V} {d : D} {u : Value} {md : Mode} (hm : z.X.mg x = none) (hv : bootBuiltins x = some u) (r : RelV v u) (f : Flat v d) (hg : Gl z.X x := by rfl) (hn : x ≠ "__name__" := by decide) (hd : (x == ("__debug__" : Str)) = false := by decide) : ME z o md (.Name x pos) (mC d) := me_c (pe_bltn hg hm hv r hn hd) f

/-! ### two operands -/
def mBin (f : D → D → Option D) (ma mb : M D) : M D := fun e p => (ma e p).bind fun x p => (mb e p).bind fun y p => lift (f x y) p
/-- an operator's soundness: from the operands, as they may be looked at, to its reading; the result as data or new -/
def Op2 (z : Z) (r : R2) (f : D → D → Option D) : Prop :=
  ∀ (o : Own) (G : Hp) (e : Env) (p : Pen) (σ : L2.St) (H : Hp) (x y : V) (dx dy d : D) (Q : VK), SR z.X.K z.c z.H0 z.G0 z.pn o G e p σ H → Lies z.X.K z.c z.H0 z.pn o G e σ H x dx .bor → Lies z.X.K z.c z.H0 z.pn o G e σ H y dy .bor → f dx dy = some d →
    (∀ v G' H', Same G G' → SR z.X.K z.c z.H0 z.G0 z.pn o G' e p σ H' → Lies z.X.K z.c z.H0 z.pn o G' e σ H' v d .fre → Q v H') → r x y H Q
theorem RE.bin {f : D → D → Option D} {r : R2} (hf : Op2 z r f) {σ : L2.St} {H : Hp} {Q : VK} (h : RE z o .fre (mBin f ma mb) σ H Q) : tOp r (RE z o .bor ma) (RE z o .bor mb) σ H Q := by
  obtain ⟨G, e, p, S, q⟩ := h
  unfold mBin at q
  rw [Cont.bind] at q
  refine ⟨G, e, p, S, q.mono (fun d1 p1 k1 v1 G1 H1 s1 S1 l1 => ?_) fun x p' k => k⟩
  rw [Cont.bind] at k1
  refine ⟨G1, e, p1, S1, k1.mono (fun d2 p2 k2 v2 G2 H2 s2 S2 l2 => ?_) fun x p' k cls dd G' H' s S' => k cls dd G' H' (s1.trans s) S'⟩
  obtain ⟨d, hd, k⟩ := k2.lift
  exact hf o G2 e p2 σ H2 v1 v2 d1 d2 d Q S2 (Lies.bor_move s2 l1) l2 hd fun v G' H' s S' l => k v G' H' ((s1.trans s2).trans s) S' l
theorem me_bin {op : Operator} {f : D → D → Option D} {r : R2} (ho : OpR z.X (binaryOp op) r) (hf : Op2 z r f) (ha : ME z o .bor a ma) (hb : ME z o .bor b mb) : ME z o .fre (.BinOp a op b pos) (mBin f ma mb) :=
  PE.imp (pe_op ho ha hb) fun σ H Q h => RE.bin hf h
theorem me_cmp {op : CmpOp} {f : D → D → Option D} {r : R2} (ho : OpR z.X (compareOp op) r) (hf : Op2 z r f) (ha : ME z o .bor a ma) (hb : ME z o .bor b mb) (hm : behindInMarks op b = false) : ME z o .fre (.Compare a [op] [b] pos) (mBin f ma mb) :=
  PE.imp (pe_cmpR ho ha hb hm) fun σ H Q h => RE.bin hf h
/-- scalars -/
theorem Lies.flat {K : PySem.W.Frag} {c : Cfg} {H0 : Hp} {pn : Pins} {o : Own} {G : Hp} {e : Env} {σ : L2.St} {H : Hp} {v : V} {d : D} (h : Lies K c H0 pn o G e σ H v d .bor) (hm : IsMut d = false) : Rep K c.ca G v d := by
  rcases h with h | ⟨i, _, m, _⟩
  · exact h
  · rw [hm] at m; cases m
theorem Lies.int {K : PySem.W.Frag} {c : Cfg} {H0 : Hp} {pn : Pins} {o : Own} {G : Hp} {e : Env} {σ : L2.St} {H : Hp} {v : V} {i : Int} (h : Lies K c H0 pn o G e σ H v (.int i) .bor) : v = .int i := by
  have := h.flat rfl
  cases this; rfl
theorem Lies.str {K : PySem.W.Frag} {c : Cfg} {H0 : Hp} {pn : Pins} {o : Own} {G : Hp} {e : Env} {σ : L2.St} {H : Hp} {v : V} {i : Str} (h : Lies K c H0 pn o G e σ H v (.str i) .bor) : v = .str i := by
  have := h.flat rfl
  cases this; rfl
theorem Lies.bl {K : PySem.W.Frag} {c : Cfg} {H0 : Hp} {pn : Pins} {o : Own} {G : Hp} {e : Env} {σ : L2.St} {H : Hp} {v : V} {i : Bool} (h : Lies K c H0 pn o G e σ H v (.bl i) .bor) : v = .bl i := by
  have := h.flat rfl
  cases this; rfl
theorem Lies.tup {K : PySem.W.Frag} {c : Cfg} {H0 : Hp} {pn : Pins} {o : Own} {G : Hp} {e : Env} {σ : L2.St} {H : Hp} {v : V} {ds : List D} (h : Lies K c H0 pn o G e σ H v (.tup ds) .bor) : ∃ a vs, v = .ref a ∧ SqT K G a vs ∧ Reps K c.ca G vs ds := by
  have := h.flat rfl
  cases this with
  | tup h1 h2 => exact ⟨_, _, rfl, SqT.of h1, h2⟩
theorem Lies.tupG {K : PySem.W.Frag} {c : Cfg} {H0 : Hp} {pn : Pins} {o : Own} {G : Hp} {e : Env} {σ : L2.St} {H : Hp} {v : V} {ds : List D} (h : Lies K c H0 pn o G e σ H v (.tup ds) .bor) : ∃ a vs, v = .ref a ∧ G a = some (.tup vs) ∧ Reps K c.ca G vs ds := by
  have := h.flat rfl
  cases this with
  | tup h1 h2 => exact ⟨_, _, rfl, h1, h2⟩
theorem Lies.lst {K : PySem.W.Frag} {c : Cfg} {H0 G0 : Hp} {pn : Pins} {o : Own} {G : Hp} {e : Env} {p : Pen} {σ : L2.St} {H : Hp} {v : V} {ds : List D} (S : SR K c H0 G0 pn o G e p σ H) (h : Lies K c H0 pn o G e σ H v (.lst ds) .bor) : ∃ a vs, v = .ref a ∧ H a = some (.lst vs) ∧ Reps K c.ca G vs ds := by
  rcases h with h | ⟨i, oi, m, he, hs⟩
  · cases h with
    | lst h1 h2 => exact ⟨_, _, rfl, S.b.gh _ _ h1, h2⟩
  · obtain ⟨l, h1, ⟨vs, h2, h3⟩, _⟩ := S.ow i _ he oi m
    rw [hs] at h1
    cases h1
    exact ⟨l, vs, rfl, h2, h3⟩
theorem Lies.ins {K : PySem.W.Frag} {c : Cfg} {H0 G0 : Hp} {pn : Pins} {o : Own} {G : Hp} {e : Env} {p : Pen} {σ : L2.St} {H : Hp} {v : V} {n : Nat} {ds : List (Str × D)} (S : SR K c H0 G0 pn o G e p σ H) (h : Lies K c H0 pn o G e σ H v (.ins n ds) .bor) :
    ∃ a dx vs, v = .ref a ∧ H a = some (.ins (c.ca n) dx vs) ∧ n ∈ c.ca.kn ∧ InsOk K (c.ca n) vs ∧ RepF K c.ca G vs ds := by
  have := h.flat rfl
  cases this with
  | ins h1 h2 h3 h4 => exact ⟨_, _, _, rfl, S.b.gh _ _ h1, h2, h3, h4⟩
theorem Lies.dK {K : PySem.W.Frag} {c : Cfg} {H0 G0 : Hp} {pn : Pins} {o : Own} {G : Hp} {e : Env} {p : Pen} {σ : L2.St} {H : Hp} {v : V} {ds : List (Key × D)} (S : SR K c H0 G0 pn o G e p σ H) (h : Lies K c H0 pn o G e σ H v (.dK ds) .bor) : ∃ a vs, v = .ref a ∧ H a = some (.dK vs) ∧ RepK K c.ca G vs ds := by
  rcases h with h | ⟨i, oi, m, he, hs⟩
  · cases h with
    | dK h1 h2 => exact ⟨_, _, rfl, S.b.gh _ _ h1, h2⟩
  · obtain ⟨l, h1, ⟨vs, h2, h3⟩, _⟩ := S.ow i _ he oi m
    rw [hs] at h1
    cases h1
    exact ⟨l, vs, rfl, h2, h3⟩
/-- a new list -/
theorem lies_new {K : PySem.W.Frag} {c : Cfg} {H0 G0 : Hp} {pn : Pins} {o : Own} {G : Hp} {e : Env} {p : Pen} {σ : L2.St} {H : Hp} {a : Addr} {vs : List V} {ds : List D} (S : SR K c H0 G0 pn o G e p σ H) (n : H a = none) (r : Reps K c.ca G vs ds) :
    SR K c H0 G0 pn o G e p σ (upd H a (.lst vs)) ∧ Lies K c H0 pn o G e σ (upd H a (.lst vs)) (.ref a) (.lst ds) .fre := by
  refine ⟨S.newH n, ?_⟩
  unfold Lies
  rw [if_pos (show IsMut (.lst ds) = true from rfl)]
  refine ⟨a, rfl, ⟨vs, upd_same, r⟩, S.b.st a n, S.b.gh.free n, fun z => ?_, fun h => ?_⟩
  · obtain ⟨_, q⟩ := S.b.paH
    rw [z, q] at n; cases n
  · obtain ⟨⟨u, hu, _⟩, _⟩ := S.priv h
    rw [n] at hu; cases hu
/-- a new tuple -/
theorem lies_tup {K : PySem.W.Frag} {c : Cfg} {H0 G0 : Hp} {pn : Pins} {o : Own} {G : Hp} {e : Env} {p : Pen} {σ : L2.St} {H : Hp} {a : Addr} {vs : List V} {ds : List D} (S : SR K c H0 G0 pn o G e p σ H) (n : H a = none) (r : Reps K c.ca G vs ds) :
    ∃ G', Same G G' ∧ SR K c H0 G0 pn o G' e p σ (upd H a (.tup vs)) ∧ Rep K c.ca G' (.ref a) (.tup ds) := by
  obtain ⟨S', s⟩ := S.new (u := .tup vs) n (fun z => z)
  exact ⟨_, s, S', .tup upd_same (r.mono s)⟩
theorem lies_rep {K : PySem.W.Frag} {c : Cfg} {H0 : Hp} {pn : Pins} {o : Own} {G : Hp} {e : Env} {σ : L2.St} {H : Hp} {v : V} {d : D} (hm : IsMut d = false) (r : Rep K c.ca G v d) : Lies K c H0 pn o G e σ H v d .fre := by
  unfold Lies
  rw [if_neg (by rw [hm]; exact Bool.false_ne_true)]
  exact r
end
end Mz
/-! Mz, part d: operators. -/
namespace Mz
open PySem PySem.Spec PyProof.Rows L2

/-! ### data as the library's own trees, for == -/
mutual
def D.py : D → Option PyData
  | .non => some .none
  | .bl b => some (.bool b)
  | .int i => some (.int i)
  | .str x => some (.str x)
  | .tup xs => match D.pys xs with | some l => some (.tuple l) | none => none
  | .lst xs => match D.pys xs with | some l => some (.list l) | none => none
  | _ => none
def D.pys : List D → Option (List PyData)
  | [] => some []
  | x :: xs => match D.py x with
    | some y => match D.pys xs with | some l => some (y :: l) | none => none
    | none => none
end
section
variable {K : PySem.W.Frag} {ca : CA} {G : Hp} {H : Hp}
mutual
theorem Rep.dp (s : Same G H) : ∀ {v : V} {d : D}, Rep K ca G v d → ∀ {y : PyData}, d.py = some y → Dp K H v y
  | _, _, .non, _, h => by simp only [D.py] at h; cases h; exact .non
  | _, _, .bl b, _, h => by simp only [D.py] at h; cases h; exact .bl b
  | _, _, .int i, _, h => by simp only [D.py] at h; cases h; exact .int i
  | _, _, .str x, _, h => by simp only [D.py] at h; cases h; exact .str x
  | _, _, .ty n, _, h => by simp only [D.py] at h; cases h
  | _, _, .ref a, _, h => by simp only [D.py] at h; cases h
  | _, _, .tup h1 h2, _, h => by
    simp only [D.py] at h
    split at h
    · rename_i l q
      cases h
      exact .tup (SqT.of (s _ _ h1)) (Reps.dps s h2 q)
    · cases h
  | _, _, .lst h1 h2, _, h => by
    simp only [D.py] at h
    split at h
    · rename_i l q
      cases h
      exact .lst (SqL.of (s _ _ h1)) (Reps.dps s h2 q)
    · cases h
  | _, _, .dK _ _, _, h => by simp only [D.py] at h; cases h
  | _, _, .dT _ _, _, h => by simp only [D.py] at h; cases h
  | _, _, .ins _ _ _ _, _, h => by simp only [D.py] at h; cases h
theorem Reps.dps (s : Same G H) : ∀ {v : List V} {d : List D}, Reps K ca G v d → ∀ {y : List PyData}, D.pys d = some y → DpAll K H v y
  | _, _, .nil, _, h => by simp only [D.pys] at h; cases h; exact .nil
  | _, _, .cons h1 h2, _, h => by
    simp only [D.pys] at h
    split at h
    · rename_i y q
      split at h
      · rename_i l q2
        cases h
        exact .cons (Rep.dp s h1 q) (Reps.dps s h2 q2)
      · cases h
    · cases h
end
end
section
variable {K : PySem.W.Frag} {c : Cfg} {H0 G0 G H : Hp} {pn : Pins} {o : Own} {e : Env} {p : Pen} {σ : L2.St} {v : V} {d : D}
theorem Lies.dp (S : SR K c H0 G0 pn o G e p σ H) (h : Lies K c H0 pn o G e σ H v d .bor) {y : PyData} (q : d.py = some y) : Dp K H v y := by
  cases d with
  | lst ds =>
    obtain ⟨a, vs, rfl, h1, h2⟩ := Lies.lst S h
    simp only [D.py] at q
    split at q
    · rename_i l q2
      cases q
      exact .lst (SqL.of h1) (Reps.dps S.b.gh h2 q2)
    · cases q
  | dK ds => simp only [D.py] at q; cases q
  | dT ds => simp only [D.py] at q; cases q
  | _ => exact Rep.dp S.b.gh (h.flat rfl) q
end
/-- may be compared -/
def D.okE (d : D) : Bool := match d.py with | some y => SeqAt.shaped y | none => false
def D.eqD (x y : D) : Bool := match x.py, y.py with | some a, some b => PyData.eqv a b | _, _ => false
def dEq (x y : D) : Option D := if x.okE && y.okE then some (.bl (D.eqD x y)) else none
def dNe (x y : D) : Option D := if x.okE && y.okE then some (.bl (!D.eqD x y)) else none
theorem okE_py {d : D} (h : d.okE = true) : ∃ y, d.py = some y ∧ SeqAt.shaped y = true := by
  unfold D.okE at h
  split at h
  · rename_i y q
    exact ⟨y, q, h⟩
  · cases h
section
variable {z : Z}
theorem op2_eq : Op2 z (rEqD z.X.K) dEq := by
  intro o G e p σ H x y dx dy d Q S lx ly h k
  unfold dEq at h
  split at h
  · rename_i hc
    rw [Bool.and_eq_true] at hc
    obtain ⟨a, ha, sa⟩ := okE_py hc.1
    obtain ⟨b, hb, sb⟩ := okE_py hc.2
    cases h
    refine ⟨a, b, lx.dp S ha, ly.dp S hb, sa, sb, ?_⟩
    have e1 : D.eqD dx dy = PyData.eqv a b := by unfold D.eqD; rw [ha, hb]
    rw [← e1]
    exact k _ G H (Same.refl _) S (lies_rep rfl (.bl _))
  · cases h
theorem op2_ne : Op2 z (rNeD z.X.K) dNe := by
  intro o G e p σ H x y dx dy d Q S lx ly h k
  unfold dNe at h
  split at h
  · rename_i hc
    rw [Bool.and_eq_true] at hc
    obtain ⟨a, ha, sa⟩ := okE_py hc.1
    obtain ⟨b, hb, sb⟩ := okE_py hc.2
    cases h
    refine ⟨a, b, lx.dp S ha, ly.dp S hb, sa, sb, ?_⟩
    have e1 : D.eqD dx dy = PyData.eqv a b := by unfold D.eqD; rw [ha, hb]
    rw [← e1]
    exact k _ G H (Same.refl _) S (lies_rep rfl (.bl _))
  · cases h
/-- ints -/
def dI (g : Int → Int → Option D) (x y : D) : Option D := match x, y with
  | .int i, .int j => g i j
  | _, _ => none
theorem dI_some {g : Int → Int → Option D} {x y d : D} (h : dI g x y = some d) : ∃ i j, x = .int i ∧ y = .int j ∧ g i j = some d := by
  unfold dI at h
  split at h
  · exact ⟨_, _, rfl, rfl, h⟩
  · cases h
theorem op2_I {C : Int → Int → Prop} {g : Int → Int → V} {gd : Int → Int → Option D} (hg : ∀ i j d, gd i j = some d → C i j ∧ Flat (g i j) d) : Op2 z (rI C g) (dI gd) := by
  intro o G e p σ H x y dx dy d Q S lx ly h k
  obtain ⟨i, j, rfl, rfl, h⟩ := dI_some h
  obtain ⟨hc, hf⟩ := hg i j d h
  exact ⟨i, j, lx.int, ly.int, hc, k _ G H (Same.refl _) S hf.lies⟩
theorem op2_I0 {g : Int → Int → V} {gd : Int → Int → D} (hg : ∀ i j, Flat (g i j) (gd i j)) : Op2 z (rI0 g) (dI fun i j => some (gd i j)) := by
  intro o G e p σ H x y dx dy d Q S lx ly h k
  obtain ⟨i, j, rfl, rfl, h⟩ := dI_some h
  cases h
  exact ⟨i, j, lx.int, ly.int, k _ G H (Same.refl _) S (hg i j).lies⟩
theorem Op2.or {r r' : R2} {f f' : D → D → Option D} (h : Op2 z r f) (h' : Op2 z r' f') : Op2 z (fun x y H Q => r x y H Q ∨ r' x y H Q) (fun x y => match f x y with | some d => some d | none => f' x y) := by
  intro o G e p σ H x y dx dy d Q S lx ly q k
  simp only at q
  split at q
  · rename_i d' q'
    cases q
    exact .inl (h o G e p σ H x y dx dy _ Q S lx ly q' k)
  · exact .inr (h' o G e p σ H x y dx dy d Q S lx ly q k)
theorem Op2.cong {r : R2} {f f' : D → D → Option D} (h : Op2 z r f) (e : ∀ x y, f' x y = f x y) : Op2 z r f' := by
  have : f' = f := by funext x y; exact e x y
  rw [this]; exact h
def dLt := dI fun i j => some (.bl (decide (i < j)))
def dLe := dI fun i j => some (.bl (decide (i ≤ j)))
def dGt := dI fun i j => some (.bl (decide (j < i)))
def dGe := dI fun i j => some (.bl (decide (j ≤ i)))
def dSub := dI fun i j => some (.int (i - j))
/-- // and % by a number above 0; a product with a small factor -/
def dDiv := dI fun i j => if 0 < j ∧ j < 1073741824 then some (.int (i / j)) else none
def dMod := dI fun i j => if 0 < j then some (.int (i % j)) else none
def dPow := dI fun i j => if 0 ≤ j ∧ j ≤ 1000000 ∧ i.natAbs < 2 ^ 64 then some (.int (i ^ j.toNat)) else none
theorem op2_lt : Op2 z (rI0 fun i j => .bl (decide (i < j))) dLt := op2_I0 fun _ _ => rfl
theorem op2_le : Op2 z (rI0 fun i j => .bl (decide (i ≤ j))) dLe := op2_I0 fun _ _ => rfl
theorem op2_gt : Op2 z (rI0 fun i j => .bl (decide (j < i))) dGt := op2_I0 fun _ _ => rfl
theorem op2_ge : Op2 z (rI0 fun i j => .bl (decide (j ≤ i))) dGe := op2_I0 fun _ _ => rfl
theorem op2_sub : Op2 z (rI0 fun i j => .int (i - j)) dSub := op2_I0 fun _ _ => rfl
theorem op2_div : Op2 z (rI CDiv fun i j => .int (i / j)) dDiv := op2_I fun i j d h => by
  split at h
  · rename_i q; cases h; exact ⟨q, rfl⟩
  · cases h
theorem op2_mod : Op2 z (rI (fun _ j => 0 < j) fun i j => .int (i % j)) dMod := op2_I fun i j d h => by
  split at h
  · rename_i q; cases h; exact ⟨q, rfl⟩
  · cases h
theorem op2_pow : Op2 z (rI CPow fun i j => .int (i ^ j.toNat)) dPow := op2_I fun i j d h => by
  split at h
  · rename_i q; cases h; exact ⟨q, rfl⟩
  · cases h
/-- + -/
def dCatL (x y : D) : Option D := match x, y with
  | .lst a, .lst b => if a.length + b.length ≤ sizeLine then some (.lst (a ++ b)) else none
  | _, _ => none
def dCatT (x y : D) : Option D := match x, y with
  | .tup a, .tup b => if a.length + b.length ≤ sizeLine then some (.tup (a ++ b)) else none
  | _, _ => none
def dCatS (x y : D) : Option D := match x, y with
  | .str a, .str b => if a.length + b.length ≤ sizeLine then some (.str (a ++ b)) else none
  | _, _ => none
theorem op2_catL : Op2 z rCat dCatL := by
  intro o G e p σ H x y dx dy d Q S lx ly h k
  unfold dCatL at h
  split at h
  · rename_i as bs
    split at h
    · rename_i hl
      cases h
      obtain ⟨a, vs, rfl, h1, r1⟩ := lx.lst S
      obtain ⟨b, ws, rfl, h2, r2⟩ := ly.lst S
      refine ⟨a, b, vs, ws, rfl, rfl, h1, h2, by rw [r1.len, r2.len]; exact hl, fun q n => ?_⟩
      obtain ⟨S', l⟩ := lies_new S n (r1.app r2)
      exact k _ G _ (Same.refl _) S' l
    · cases h
  · cases h
theorem op2_catT : Op2 z (rCatA z.X.K) dCatT := by
  intro o G e p σ H x y dx dy d Q S lx ly h k
  unfold dCatT at h
  split at h
  · rename_i as bs
    split at h
    · rename_i hl
      cases h
      obtain ⟨a, vs, rfl, h1, r1⟩ := lx.tupG
      obtain ⟨b, ws, rfl, h2, r2⟩ := ly.tupG
      refine ⟨a, b, vs, ws, rfl, rfl, SqT.of (S.b.gh _ _ h1), SqT.of (S.b.gh _ _ h2), by rw [r1.len, r2.len]; exact hl, fun q => ?_, fun q1 q2 => ?_, fun q1 q2 q n => ?_⟩
      · subst q
        have e0 := r1.nilV
        subst e0
        exact k _ G H (Same.refl _) S (lies_rep rfl (.tup h2 r2))
      · subst q2
        have e0 := r2.nilV
        subst e0
        rw [List.append_nil] at k
        exact k _ G H (Same.refl _) S (lies_rep rfl (.tup h1 r1))
      · obtain ⟨G', s, S', l⟩ := lies_tup S n (r1.app r2)
        exact k _ G' _ s S' (lies_rep rfl l)
    · cases h
  · cases h
theorem op2_catS : Op2 z (fun x y H Q => ∃ i j, x = .str i ∧ y = .str j ∧ i.length + j.length ≤ sizeLine ∧ Q (.str (i ++ j)) H) dCatS := by
  intro o G e p σ H x y dx dy d Q S lx ly h k
  unfold dCatS at h
  split at h
  · rename_i as bs
    split at h
    · rename_i hl
      cases h
      exact ⟨as, bs, lx.str, ly.str, hl, k _ G H (Same.refl _) S (lies_rep rfl (.str _))⟩
    · cases h
  · cases h
def dAdd (x y : D) : Option D := match x, y with
  | .int i, .int j => some (.int (i + j))
  | .lst a, .lst b => if a.length + b.length ≤ sizeLine then some (.lst (a ++ b)) else none
  | .tup a, .tup b => if a.length + b.length ≤ sizeLine then some (.tup (a ++ b)) else none
  | .str a, .str b => if a.length + b.length ≤ sizeLine then some (.str (a ++ b)) else none
  | _, _ => none
def rAddA (z : Z) : R2 := fun x y H Q => rI0 (fun i j => .int (i + j)) x y H Q ∨ rCat x y H Q ∨ rCatA z.X.K x y H Q ∨ (∃ i j, x = .str i ∧ y = .str j ∧ i.length + j.length ≤ sizeLine ∧ Q (.str (i ++ j)) H)
theorem op_addA : OpR z.X (binaryOp .Add) (rAddA z) := op_add.or (op_cat.or (op_catA.or op_add_str))
theorem op2_add : Op2 z (rAddA z) dAdd := (Op2.or (op2_I0 (g := fun i j => .int (i + j)) (gd := fun i j => .int (i + j)) fun _ _ => rfl) (Op2.or op2_catL (Op2.or op2_catT op2_catS))).cong fun x y => by
  cases x <;> cases y <;> first | rfl | (simp only [dAdd, dI, dCatL, dCatT, dCatS]; split <;> rfl)
/-- * -/
def dRepL (x y : D) : Option D := match x, y with
  | .lst a, .int k => if -(2 ^ 63) ≤ k ∧ k < 2 ^ 63 ∧ a.length * k.toNat ≤ sizeLine then some (.lst (List.replicate k.toNat a).flatten) else none
  | _, _ => none
def dMulI := dI fun i j => if (-(2 ^ 64) < i ∧ i < 2 ^ 64) ∨ (-(2 ^ 64) < j ∧ j < 2 ^ 64) then some (.int (i * j)) else none
theorem op2_mulI : Op2 z (rI CMul fun i j => .int (i * j)) dMulI := op2_I fun i j d h => by
  split at h
  · rename_i q; cases h; exact ⟨q, rfl⟩
  · cases h
theorem op2_repL : Op2 z rRep dRepL := by
  intro o G e p σ H x y dx dy d Q S lx ly h k
  unfold dRepL at h
  split at h
  · rename_i as i
    split at h
    · rename_i hl
      cases h
      obtain ⟨a, vs, rfl, h1, r1⟩ := lx.lst S
      refine ⟨a, i, vs, rfl, ly.int, h1, hl.1, hl.2.1, by rw [r1.len]; exact hl.2.2, fun q n => ?_⟩
      obtain ⟨S', l⟩ := lies_new S n (r1.rep i.toNat)
      exact k _ G _ (Same.refl _) S' l
    · cases h
  · cases h
def dMul (x y : D) : Option D := match x, y with
  | .int i, .int j => if (-(2 ^ 64) < i ∧ i < 2 ^ 64) ∨ (-(2 ^ 64) < j ∧ j < 2 ^ 64) then some (.int (i * j)) else none
  | .lst a, .int k => if -(2 ^ 63) ≤ k ∧ k < 2 ^ 63 ∧ a.length * k.toNat ≤ sizeLine then some (.lst (List.replicate k.toNat a).flatten) else none
  | _, _ => none
def rMulA : R2 := fun x y H Q => rI CMul (fun i j => .int (i * j)) x y H Q ∨ rRep x y H Q
theorem op_mulA : OpR z.X (binaryOp .Mult) rMulA := op_mul.or op_rep
theorem op2_mul : Op2 z rMulA dMul := (Op2.or op2_mulI op2_repL).cong fun x y => by
  cases x <;> cases y <;> first | rfl | (simp only [dMul, dMulI, dI, dRepL]; split <;> rfl)
end
end Mz
/-! Mz, part e: tests, and or not, displays, subscripts, slices, built-ins of one argument. -/
namespace Mz
open PySem PySem.Spec PyProof.Rows L2

section
variable {z : Z} {o o' : Own} {a b c' e' : Expr} {ma mb mc : M D} {ta tb : M Bool} {pos : Pos}

theorem RT.up {m : M Bool} {G G1 : Hp} {e : Env} {p1 : Pen} {σ : L2.St} {H1 : Hp} {Q : Bool → Hp → Prop} (s1 : Same G G1) (S1 : SR z.X.K z.c z.H0 z.G0 z.pn o G1 e p1 σ H1)
    (k : Cont (m e p1) (fun b p' => ∀ G' H', Same G G' → SR z.X.K z.c z.H0 z.G0 z.pn o G' e p' σ H' → Q b H')
      (fun x p' => ∀ cls dd G' H', Same G G' → SR z.X.K z.c z.H0 z.G0 z.pn o G' e p' σ H' → ExcR z.X.K z.c G' cls dd x → z.W cls dd σ H')) : RT z o m σ H1 Q :=
  ⟨G1, e, p1, S1, k.mono (fun b2 p2 k2 G2 H2 s2 S2 => k2 G2 H2 (s1.trans s2) S2) fun x p' k cls dd G' H' s S' => k cls dd G' H' (s1.trans s) S'⟩
theorem RE.up {md : Mode} {m : M D} {G G1 : Hp} {e : Env} {p1 : Pen} {σ : L2.St} {H1 : Hp} {Q : VK} (s1 : Same G G1) (S1 : SR z.X.K z.c z.H0 z.G0 z.pn o G1 e p1 σ H1)
    (k : Cont (m e p1) (fun d p' => ∀ v G' H', Same G G' → SR z.X.K z.c z.H0 z.G0 z.pn o G' e p' σ H' → Lies z.X.K z.c z.H0 z.pn o G' e σ H' v d md → Q v H')
      (fun x p' => ∀ cls dd G' H', Same G G' → SR z.X.K z.c z.H0 z.G0 z.pn o G' e p' σ H' → ExcR z.X.K z.c G' cls dd x → z.W cls dd σ H')) : RE z o md m σ H1 Q :=
  ⟨G1, e, p1, S1, k.mono (fun d2 p2 k2 v2 G2 H2 s2 S2 l2 => k2 v2 G2 H2 (s1.trans s2) S2 l2) fun x p' k cls dd G' H' s S' => k cls dd G' H' (s1.trans s) S'⟩
theorem ite_t {α : Sort _} {a b : α} : (if true = true then a else b) = a := if_pos rfl
theorem ite_f {α : Sort _} {a b : α} : (if false = true then a else b) = b := if_neg Bool.false_ne_true
/-! ### tests -/
/-- a value's truth -/
def dTru : D → Option Bool
  | .non => some false
  | .bl b => some b
  | .int i => some (i != 0)
  | .str x => if x.length ≤ sizeLine then some ((x.length : Int) != 0) else none
  | .lst xs => some (!xs.isEmpty)
  | .tup xs => some (!xs.isEmpty)
  | .dK xs => some (!xs.isEmpty)
  | _ => none
def tTru (m : M D) : M Bool := fun e p => (m e p).bind fun d p => lift (dTru d) p
theorem Reps.empty {K : PySem.W.Frag} {ca : CA} {G : Hp} {vs : List V} {ds : List D} (r : Reps K ca G vs ds) : vs.isEmpty = ds.isEmpty := by cases r <;> rfl
theorem RepK.empty {K : PySem.W.Frag} {ca : CA} {G : Hp} {vs : List (Key × V)} {ds : List (Key × D)} (r : RepK K ca G vs ds) : vs.isEmpty = ds.isEmpty := by cases r <;> rfl
theorem Lies.tru {K : PySem.W.Frag} {c : Cfg} {H0 G0 : Hp} {pn : Pins} {o : Own} {G : Hp} {e : Env} {p : Pen} {σ : L2.St} {H : Hp} {v : V} {d : D} {k : Bool} (S : SR K c H0 G0 pn o G e p σ H) (h : Lies K c H0 pn o G e σ H v d .bor) (q : dTru d = some k) : TruV K v H k := by
  cases d with
  | non => have := h.flat rfl; cases this; cases q; exact rfl
  | bl b => rw [h.bl]; cases q; exact rfl
  | int i => rw [h.int]; cases q; exact rfl
  | str x =>
    rw [h.str]
    simp only [dTru] at q
    split at q
    · rename_i hl; cases q; exact ⟨hl, rfl⟩
    · cases q
  | lst xs =>
    obtain ⟨a, vs, rfl, h1, h2⟩ := Lies.lst S h
    cases q
    exact .inl ⟨vs, SqL.of h1, by rw [h2.empty]⟩
  | tup xs =>
    obtain ⟨a, vs, rfl, h1, h2⟩ := Lies.tup h
    cases q
    exact .inr (.inl ⟨vs, Same.sqT S.b.gh h1, by rw [h2.empty]⟩)
  | dK xs =>
    obtain ⟨a, vs, rfl, h1, h2⟩ := Lies.dK S h
    cases q
    exact .inr (.inr ⟨vs, h1, by rw [h2.empty]⟩)
  | _ => cases q
theorem mt_val (h : ME z o .bor a ma) (he : ∀ whole, isTrue a z.X.env whole = (do let v ← whole; standAt a.pos; holding [v] (truthy v)) := by intro _; rfl) : MT z o a (tTru ma) :=
  PT.imp (pt_truth h he) fun σ H Q ⟨G, e, p, S, q⟩ => by
    unfold tTru at q
    rw [Cont.bind] at q
    refine ⟨G, e, p, S, q.mono (fun d p1 k v G1 H1 s1 S1 l1 => ?_) fun x p' k => k⟩
    obtain ⟨b, hb, k⟩ := k.lift
    exact ⟨b, l1.tru S1 hb, k G1 H1 s1 S1⟩
/-- a comparison as a test -/
def tBl (m : M D) : M Bool := fun e p => (m e p).bind fun d p => match d with | .bl b => .ok b p | _ => .stuck
theorem RT.of {m : M D} {σ : L2.St} {H : Hp} {Q : Bool → Hp → Prop} (h : RT z o (tBl m) σ H Q) : RE z o .fre m σ H fun x H' => ∃ k, x = .bl k ∧ Q k H' := by
  obtain ⟨G, e, p, S, q⟩ := h
  unfold tBl at q
  rw [Cont.bind] at q
  refine ⟨G, e, p, S, q.mono (fun d p1 k v G1 H1 s1 S1 l1 => ?_) fun x p' k => k⟩
  cases d with
  | bl b =>
    have l2 : Rep z.X.K z.c.ca G1 v (.bl b) := by
      unfold Lies at l1
      rw [if_neg (by exact Bool.false_ne_true)] at l1
      exact l1
    cases l2
    exact ⟨b, rfl, k G1 H1 s1 S1⟩
  | _ => exact k.elim
theorem mt_cmp {op : CmpOp} {f : D → D → Option D} {r : R2} (ho : OpR z.X (compareOp op) r) (hf : Op2 z r f) (ha : ME z o .bor a ma) (hb : ME z o .bor b mb) (hm : behindInMarks op b = false) : MT z o (.Compare a [op] [b] pos) (tBl (mBin f ma mb)) :=
  PT.imp (pt_cmpR ho ha hb hm) fun σ H Q h => by
    obtain ⟨G, e, p, S, q⟩ := RT.of h
    exact RE.bin hf ⟨G, e, p, S, q⟩
def tNotM (t : M Bool) : M Bool := fun e p => (t e p).bind fun b p => .ok (!b) p
def tAndM (t u : M Bool) : M Bool := fun e p => (t e p).bind fun b p => if b then u e p else .ok false p
def tOrM (t u : M Bool) : M Bool := fun e p => (t e p).bind fun b p => if b then .ok true p else u e p
theorem mt_not (h : MT z o a ta) : MT z o (.UnaryOp .Not a pos) (tNotM ta) :=
  PT.imp (pt_not h) fun σ H Q ⟨G, e, p, S, q⟩ => by
    unfold tNotM at q
    rw [Cont.bind] at q
    exact ⟨G, e, p, S, q.mono (fun b p1 k => k) fun x p' k => k⟩
variable {rest : List Expr}
theorem mw_and1 (h : MT z o a ta) : MW z o (.BoolOp .And [a] pos) ta := pw_and1 h
theorem mw_or1 (h : MT z o a ta) : MW z o (.BoolOp .Or [a] pos) ta := pw_or1 h
theorem mw_and (h : MT z o a ta) (h2 : MW z o (.BoolOp .And (b :: rest) pos) tb) : MW z o (.BoolOp .And (a :: b :: rest) pos) (tAndM ta tb) :=
  PW.imp (pw_and h h2) fun σ H Q ⟨G, e, p, S, q⟩ => by
    unfold tAndM at q
    rw [Cont.bind] at q
    refine ⟨G, e, p, S, q.mono (fun b p1 k G1 H1 s1 S1 => ?_) fun x p' k => k⟩
    cases b with
    | true =>
      rw [ite_t] at k ⊢
      exact RT.up s1 S1 k
    | false => rw [ite_f] at k ⊢; exact k G1 H1 s1 S1
theorem mw_or (h : MT z o a ta) (h2 : MW z o (.BoolOp .Or (b :: rest) pos) tb) : MW z o (.BoolOp .Or (a :: b :: rest) pos) (tOrM ta tb) :=
  PW.imp (pw_or h h2) fun σ H Q ⟨G, e, p, S, q⟩ => by
    unfold tOrM at q
    rw [Cont.bind] at q
    refine ⟨G, e, p, S, q.mono (fun b p1 k G1 H1 s1 S1 => ?_) fun x p' k => k⟩
    cases b with
    | false =>
      rw [ite_f] at k ⊢
      exact RT.up s1 S1 k
    | true => rw [ite_t] at k ⊢; exact k G1 H1 s1 S1
theorem mt_w (h : MW z o a ta) : MT z o a ta := h.pt
/-- and, or, not as values; what stands ahead gives True or False -/
def mAndM (x y : M D) : M D := fun e p => (x e p).bind fun d p => match d with | .bl b => if b then y e p else .ok (.bl false) p | _ => .stuck
def mOrM (x y : M D) : M D := fun e p => (x e p).bind fun d p => match d with | .bl b => if b then .ok (.bl true) p else y e p | _ => .stuck
def mNotM (x : M D) : M D := fun e p => (x e p).bind fun d p => match d with | .bl b => .ok (.bl (!b)) p | _ => .stuck
theorem me_one {op} {md : Mode} (h : ME z o md a ma) : ME z o md (.BoolOp op [a] pos) ma := pe_one h
theorem me_and {md : Mode} (h : ME z o .bor a ma) (h2 : ME z o md (.BoolOp .And (b :: rest) pos) mb) : ME z o md (.BoolOp .And (a :: b :: rest) pos) (mAndM ma mb) :=
  PE.imp (pe_and h h2) fun σ H Q ⟨G, e, p, S, q⟩ => by
    unfold mAndM at q
    rw [Cont.bind] at q
    refine ⟨G, e, p, S, q.mono (fun d p1 k v G1 H1 s1 S1 l1 => ?_) fun x p' k => k⟩
    cases d with
    | bl t =>
      refine ⟨t, l1.bl, ?_⟩
      cases t with
      | true =>
        rw [ite_t]
        dsimp only at k
        rw [ite_t] at k
        exact RE.up s1 S1 k
      | false =>
        rw [ite_f]
        dsimp only at k
        rw [ite_f] at k
        exact k _ G1 H1 s1 S1 (Flat.lies (v := .bl false) (d := .bl false) rfl)
    | _ => exact k.elim
theorem me_or {md : Mode} (h : ME z o .bor a ma) (h2 : ME z o md (.BoolOp .Or (b :: rest) pos) mb) : ME z o md (.BoolOp .Or (a :: b :: rest) pos) (mOrM ma mb) :=
  PE.imp (pe_or h h2) fun σ H Q ⟨G, e, p, S, q⟩ => by
    unfold mOrM at q
    rw [Cont.bind] at q
    refine ⟨G, e, p, S, q.mono (fun d p1 k v G1 H1 s1 S1 l1 => ?_) fun x p' k => k⟩
    cases d with
    | bl t =>
      refine ⟨t, l1.bl, ?_⟩
      cases t with
      | false =>
        rw [ite_f]
        dsimp only at k
        rw [ite_f] at k
        exact RE.up s1 S1 k
      | true =>
        rw [ite_t]
        dsimp only at k
        rw [ite_t] at k
        exact k _ G1 H1 s1 S1 (Flat.lies (v := .bl true) (d := .bl true) rfl)
    | _ => exact k.elim
theorem me_not {md : Mode} (h : ME z o .bor a ma) : ME z o md (.UnaryOp .Not a pos) (mNotM ma) :=
  PE.imp (pe_not h) fun σ H Q ⟨G, e, p, S, q⟩ => by
    unfold mNotM at q
    rw [Cont.bind] at q
    refine ⟨G, e, p, S, q.mono (fun d p1 k v G1 H1 s1 S1 l1 => ?_) fun x p' k => k⟩
    cases d with
    | bl t => exact ⟨t, l1.bl, k _ G1 H1 s1 S1 (Flat.lies (v := .bl (!t)) (d := .bl (!t)) rfl)⟩
    | _ => exact k.elim
/-- a if t else b -/
def mIf (t : M Bool) (x y : M D) : M D := fun e p => (t e p).bind fun b p => if b then x e p else y e p
theorem me_if {md : Mode} (h : MT z o c' ta) (ha : ME z o md a ma) (hb : ME z o md b mb) : ME z o md (.IfExp c' a b pos) (mIf ta ma mb) :=
  PE.imp (pe_ifExp h ha hb) fun σ H Q ⟨G, e, p, S, q⟩ => by
    unfold mIf at q
    rw [Cont.bind] at q
    refine ⟨G, e, p, S, q.mono (fun t p1 k G1 H1 s1 S1 => ?_) fun x p' k => k⟩
    cases t with
    | true =>
      rw [ite_t] at k
      show if true = true then _ else _
      rw [ite_t]
      exact RE.up s1 S1 k
    | false =>
      rw [ite_f] at k
      show if false = true then _ else _
      rw [ite_f]
      exact RE.up s1 S1 k
/-- a op b op' c -/
def mChain (f g : D → D → Option D) (x y w : M D) : M D := fun e p => (x e p).bind fun dx p => (y e p).bind fun dy p => match f dx dy with
  | some (.bl true) => (w e p).bind fun dw p => lift (g dy dw) p
  | some (.bl false) => .ok (.bl false) p
  | _ => .stuck
theorem RE.chain {f g : D → D → Option D} {r r' : R2} (hf : Op2 z r f) (hg : Op2 z r' g) {σ : L2.St} {H : Hp} {Q : VK} (h : RE z o .fre (mChain f g ma mb mc) σ H Q) : tChain r r' (RE z o .bor ma) (RE z o .bor mb) (RE z o .bor mc) σ H Q := by
  obtain ⟨G, e, p, S, q⟩ := h
  unfold mChain at q
  rw [Cont.bind] at q
  refine ⟨G, e, p, S, q.mono (fun d1 p1 k1 v1 G1 H1 s1 S1 l1 => ?_) fun x p' k => k⟩
  rw [Cont.bind] at k1
  refine ⟨G1, e, p1, S1, k1.mono (fun d2 p2 k2 v2 G2 H2 s2 S2 l2 => ?_) fun x p' k cls dd G' H' s S' => k cls dd G' H' (s1.trans s) S'⟩
  split at k2
  · rename_i hb
    refine hf o G2 e p2 σ H2 v1 v2 d1 d2 _ _ S2 (Lies.bor_move s2 l1) l2 hb fun v3 G3 H3 s3 S3 l3 => ?_
    have l3' : Rep z.X.K z.c.ca G3 v3 (.bl true) := by
      unfold Lies at l3
      rw [if_neg (by exact Bool.false_ne_true)] at l3
      exact l3
    cases l3'
    refine ⟨true, rfl, ite_t.symm ▸ ?_⟩
    rw [Cont.bind] at k2
    refine ⟨G3, e, p2, S3, k2.mono (fun d4 p4 k4 v4 G4 H4 s4 S4 l4 => ?_) fun x p' k cls dd G' H' s S' => k cls dd G' H' (((s1.trans s2).trans s3).trans s) S'⟩
    obtain ⟨d, hd, k⟩ := k4.lift
    exact hg o G4 e p4 σ H4 v2 v4 d2 d4 d Q S4 (Lies.bor_move (s3.trans s4) l2) l4 hd fun v G' H' s S' l => k v G' H' ((((s1.trans s2).trans s3).trans s4).trans s) S' l
  · rename_i hb
    refine hf o G2 e p2 σ H2 v1 v2 d1 d2 _ _ S2 (Lies.bor_move s2 l1) l2 hb fun v3 G3 H3 s3 S3 l3 => ?_
    have l3' : Rep z.X.K z.c.ca G3 v3 (.bl false) := by
      unfold Lies at l3
      rw [if_neg (by exact Bool.false_ne_true)] at l3
      exact l3
    cases l3'
    exact ⟨false, rfl, ite_f.symm ▸ k2 _ G3 H3 ((s1.trans s2).trans s3) S3 (Flat.lies (v := .bl false) (d := .bl false) rfl)⟩
  · exact k2.elim
theorem me_chain {op op' : CmpOp} {f g : D → D → Option D} {r r' : R2} (ho : OpR z.X (compareOp op) r) (hf : Op2 z r f) (ho' : OpR z.X (compareOp op') r') (hg : Op2 z r' g) (ha : ME z o .bor a ma) (hb : ME z o .bor b mb) (hc : ME z o .bor c' mc)
    (hm : lastMarks [op, op'] [b, c'] = false := by with_unfolding_all rfl) : ME z o .fre (.Compare a [op, op'] [b, c'] pos) (mChain f g ma mb mc) :=
  PE.imp (pe_chain ho ho' ha hb hc hm) fun σ H Q h => RE.chain hf hg h
theorem mt_chain {op op' : CmpOp} {f g : D → D → Option D} {r r' : R2} (ho : OpR z.X (compareOp op) r) (hf : Op2 z r f) (ho' : OpR z.X (compareOp op') r') (hg : Op2 z r' g) (ha : ME z o .bor a ma) (hb : ME z o .bor b mb) (hc : ME z o .bor c' mc)
    (hm : lastMarks [op, op'] [b, c'] = false := by with_unfolding_all rfl) : MT z o (.Compare a [op, op'] [b, c'] pos) (tBl (mChain f g ma mb mc)) :=
  PT.imp (pt_chain ho ho' ha hb hc hm) fun σ H Q h => RE.chain hf hg (RT.of h)

/-! ### one operand -/
def mUn (f : D → Option D) (ma : M D) : M D := fun e p => (ma e p).bind fun x p => lift (f x) p
def dNeg : D → Option D
  | .int i => some (.int (-i))
  | _ => none
theorem me_neg {md : Mode} (h : ME z o .bor a ma) : ME z o md (.UnaryOp .USub a pos) (mUn dNeg ma) :=
  PE.imp (pe_un un_neg h) fun σ H Q ⟨G, e, p, S, q⟩ => by
    unfold mUn at q
    rw [Cont.bind] at q
    refine ⟨G, e, p, S, q.mono (fun d p1 k v G1 H1 s1 S1 l1 => ?_) fun x p' k => k⟩
    obtain ⟨b, hb, k⟩ := k.lift
    cases d with
    | int i =>
      cases hb
      exact ⟨i, l1.int, k _ G1 H1 s1 S1 (Flat.lies (v := .int (-i)) (d := .int (-i)) rfl)⟩
    | _ => cases hb

/-! ### arguments, displays -/
def maNil : M (List D) := fun _ p => .ok [] p
def maCons (m : M D) (r : M (List D)) : M (List D) := fun e p => (m e p).bind fun d p => (r e p).bind fun ds p => .ok (d :: ds) p
theorem ma_nil : MA z o [] maNil := PA.imp pa_nil fun σ H Q ⟨G, e, p, S, q⟩ => q [] G H (Same.refl _) S .nil
theorem ma_cons {es : List Expr} {mr : M (List D)} (ha : ME z o .fro a ma) (hr : MA z o es mr) (hs : starEach (a :: es) z.X.env = (false, eval a z.X.env) :: starEach es z.X.env := by rfl) : MA z o (a :: es) (maCons ma mr) :=
  PA.imp (pa_cons ha hr hs) fun σ H Q ⟨G, e, p, S, q⟩ => by
    unfold maCons at q
    rw [Cont.bind] at q
    refine ⟨G, e, p, S, q.mono (fun d1 p1 k1 v1 G1 H1 s1 S1 l1 => ?_) fun x p' k => k⟩
    rw [Cont.bind] at k1
    exact ⟨G1, e, p1, S1, k1.mono (fun d2 p2 k2 v2 G2 H2 s2 S2 l2 => k2 (v1 :: v2) G2 H2 (s1.trans s2) S2 (.cons (Rep.mono s2 l1) l2)) fun x p' k cls dd G' H' s S' => k cls dd G' H' (s1.trans s) S'⟩
variable {es : List Expr} {mr : M (List D)}
def mTup (m : M (List D)) : M D := fun e p => (m e p).bind fun ds p => if ds.length ≤ sizeLine then .ok (.tup ds) p else .stuck
def mLst (m : M (List D)) : M D := fun e p => (m e p).bind fun ds p => if ds.length ≤ sizeLine then .ok (.lst ds) p else .stuck
theorem me_tup {x1} (h : MA z o es mr) : ME z o .fro (.Tuple es x1 pos) (mTup mr) :=
  PE.imp (pe_tup h) fun σ H Q ⟨G, e, p, S, q⟩ => by
    unfold mTup at q
    rw [Cont.bind] at q
    refine ⟨G, e, p, S, q.mono (fun d1 p1 k v1 G1 H1 s1 S1 l1 => ?_) fun x p' k => k⟩
    split at k
    · rename_i hl
      refine ⟨by rw [l1.len]; exact hl, fun q n => ?_⟩
      obtain ⟨G2, s2, S2, r2⟩ := lies_tup S1 n l1
      exact k _ G2 _ (s1.trans s2) S2 r2
    · exact k.elim
theorem me_lst {x1} (h : MA z o es mr) : ME z o .fre (.List es x1) (mLst mr) :=
  PE.imp (pe_lst h) fun σ H Q ⟨G, e, p, S, q⟩ => by
    unfold mLst at q
    rw [Cont.bind] at q
    refine ⟨G, e, p, S, q.mono (fun d1 p1 k v1 G1 H1 s1 S1 l1 => ?_) fun x p' k => k⟩
    split at k
    · rename_i hl
      refine ⟨by rw [l1.len]; exact hl, fun q n => ?_⟩
      obtain ⟨S2, r2⟩ := lies_new S1 n l1
      exact k _ G1 _ s1 S2 r2
    · exact k.elim

/-! ### subscripts -/
def dIx (x y : D) : Option D := match x, y with
  | .lst xs, .int i => atI xs i
  | .tup xs, .int i => atI xs i
  | .str w, .int i => if w.length ≤ sizeLine then (atI w.cps.toList i).map fun c => .str ⟨#[c]⟩ else none
  | _, _ => none
theorem Reps.atI {K : PySem.W.Frag} {ca : CA} {G : Hp} {vs : List V} {ds : List D} {i : Int} {d : D} (r : Reps K ca G vs ds) (h : L2.atI ds i = some d) : ∃ v, L2.atI vs i = some v ∧ Rep K ca G v d := by
  unfold L2.atI at h ⊢
  rw [r.len]
  obtain ⟨j, e1, e2⟩ := Option.bind_eq_some_iff.mp h
  obtain ⟨v, f1, f2⟩ := r.get e2
  exact ⟨v, by rw [e1]; exact f1, f2⟩
theorem Rep.lies_of_elem {K : PySem.W.Frag} {c : Cfg} {H0 G0 : Hp} {pn : Pins} {o : Own} {G : Hp} {e : Env} {σ : L2.St} {H : Hp} {v : V} {d : D} (r : Rep K c.ca G v d) : Lies K c H0 pn o G e σ H v d .fro := r
/-- an item, as data for all -/
def OpF (z : Z) (r : R2) (f : D → D → Option D) : Prop :=
  ∀ (o : Own) (G : Hp) (e : Env) (p : Pen) (σ : L2.St) (H : Hp) (x y : V) (dx dy d : D) (Q : VK), SR z.X.K z.c z.H0 z.G0 z.pn o G e p σ H → Lies z.X.K z.c z.H0 z.pn o G e σ H x dx .bor → Lies z.X.K z.c z.H0 z.pn o G e σ H y dy .bor → f dx dy = some d →
    (∀ v, Rep z.X.K z.c.ca G v d → Q v H) → r x y H Q
theorem opF_ix : OpF z (rIx z.X.K) dIx := by
  intro o G e p σ H x y dx dy d Q S lx ly h k
  unfold dIx at h
  split at h
  · rename_i xs i
    obtain ⟨a, vs, rfl, h1, r1⟩ := lx.lst S
    obtain ⟨v, e1, e2⟩ := r1.atI h
    exact .inl ⟨a, vs, i, v, rfl, ly.int, SqL.of h1, e1, k v e2⟩
  · rename_i xs i
    obtain ⟨a, vs, rfl, h1, r1⟩ := lx.tup
    obtain ⟨v, e1, e2⟩ := r1.atI h
    exact .inr (.inl ⟨a, vs, i, v, rfl, ly.int, Same.sqT S.b.gh h1, e1, k v e2⟩)
  · rename_i w i
    split at h
    · rename_i hl
      obtain ⟨c, e1, e2⟩ := Option.map_eq_some_iff.mp h
      subst e2
      exact .inr (.inr ⟨w, i, c, lx.str, ly.int, hl, e1, k _ (.str _)⟩)
    · cases h
  · cases h
theorem me_ix (ha : ME z o .bor a ma) (hb : ME z o .bor b mb) (hs : PlainIx b := by exact fun _ _ => rfl) : ME z o .fro (.Subscript a b pos) (mBin dIx ma mb) :=
  PE.imp (pe_ix ix_seq ha hb hs) fun σ H Q ⟨G, e, p, S, q⟩ => by
    unfold mBin at q
    rw [Cont.bind] at q
    refine ⟨G, e, p, S, q.mono (fun d1 p1 k1 v1 G1 H1 s1 S1 l1 => ?_) fun x p' k => k⟩
    rw [Cont.bind] at k1
    refine ⟨G1, e, p1, S1, k1.mono (fun d2 p2 k2 v2 G2 H2 s2 S2 l2 => ?_) fun x p' k cls dd G' H' s S' => k cls dd G' H' (s1.trans s) S'⟩
    obtain ⟨d, hd, k⟩ := k2.lift
    exact opF_ix o G2 e p2 σ H2 v1 v2 d1 d2 d Q S2 (Lies.bor_move s2 l1) l2 hd fun v r => k v G2 H2 (s1.trans s2) S2 r

/-! ### slices -/
def moNone : M (Option Int) := fun _ p => .ok none p
def moSome (m : M D) : M (Option Int) := fun e p => (m e p).bind fun d p => match d with | .int i => .ok (some i) p | _ => .stuck
def RO (z : Z) (o : Own) (m : M (Option Int)) : TO := fun σ H Q => ∃ G e p, SR z.X.K z.c z.H0 z.G0 z.pn o G e p σ H ∧
  Cont (m e p) (fun b p' => ∀ G' H', Same G G' → SR z.X.K z.c z.H0 z.G0 z.pn o G' e p' σ H' → Q b H')
    (fun x p' => ∀ cls dd G' H', Same G G' → SR z.X.K z.c z.H0 z.G0 z.pn o G' e p' σ H' → ExcR z.X.K z.c G' cls dd x → z.W cls dd σ H')
abbrev MO (z : Z) (o : Own) (e : Option Expr) (m : M (Option Int)) : Prop := PO z.X e (RO z o m)
theorem PO.imp {X : Cx} {e : Option Expr} {t t' : TO} (h : PO X e t) (k : ∀ σ H Q, t' σ H Q → t σ H Q) : PO X e t' := ⟨fun pins s σ H Q I q => h.run pins s σ H Q I (k _ _ _ q)⟩
theorem mo_none : MO z o none moNone := PO.imp po_none fun σ H Q ⟨G, e, p, S, q⟩ => q G H (Same.refl _) S
theorem mo_some (h : ME z o .bor a ma) : MO z o (some a) (moSome ma) := PO.imp (po_some h) fun σ H Q ⟨G, e, p, S, q⟩ => by
  unfold moSome at q
  rw [Cont.bind] at q
  refine ⟨G, e, p, S, q.mono (fun d p1 k v G1 H1 s1 S1 l1 => ?_) fun x p' k => k⟩
  cases d with
  | int i => exact ⟨i, l1.int, k G1 H1 s1 S1⟩
  | _ => exact k.elim
def cutD (xs : List D) (lo hi : Option Int) : List D := (xs.drop (HT.sIx xs.length 0 lo)).take (HT.sIx xs.length xs.length hi - HT.sIx xs.length 0 lo)
def dSl (x : D) (lo hi : Option Int) : Option D := match x with
  | .lst xs => some (.lst (cutD xs lo hi))
  | .tup xs => some (.tup (cutD xs lo hi))
  | _ => none
theorem Reps.cut {K : PySem.W.Frag} {ca : CA} {G : Hp} {vs : List V} {ds : List D} (lo hi : Option Int) (r : Reps K ca G vs ds) : Reps K ca G (cutV vs lo hi) (cutD ds lo hi) := by
  unfold cutV cutD
  rw [r.len]
  exact (r.drop _).take _
theorem cut_whole {xs : List D} {lo hi : Option Int} (h : HT.sIx xs.length 0 lo = 0 ∧ HT.sIx xs.length xs.length hi = xs.length) : cutD xs lo hi = xs := by
  unfold cutD
  rw [h.1, h.2]
  simp
def mSl (ma : M D) (ml mh : M (Option Int)) : M D := fun e p => (ma e p).bind fun x p => (ml e p).bind fun lo p => (mh e p).bind fun hi p => lift (dSl x lo hi) p
def rSlB2 (K : PySem.W.Frag) : V → Option Int → Option Int → Hp → VK → Prop := fun x lo hi H Q => rSlL K x lo hi H Q ∨ rSlA K x lo hi H Q
theorem me_slice {lo hi : Option Expr} {ml mh : M (Option Int)} {p2 : Pos} (ha : ME z o .bor a ma) (hl : MO z o lo ml) (hh : MO z o hi mh) : ME z o .fre (.Subscript a (.Slice lo hi none p2) pos) (mSl ma ml mh) :=
  PE.imp (pe_slice (r := rSlB2 z.X.K) (SlR.or sl_list sl_tupA) ha hl hh) fun σ H Q ⟨G, e, p, S, q⟩ => by
    unfold mSl at q
    rw [Cont.bind] at q
    refine ⟨G, e, p, S, q.mono (fun d1 p1 k1 v1 G1 H1 s1 S1 l1 => ?_) fun x p' k => k⟩
    rw [Cont.bind] at k1
    refine ⟨G1, e, p1, S1, k1.mono (fun lo' p2 k2 G2 H2 s2 S2 => ?_) fun x p' k cls dd G' H' s S' => k cls dd G' H' (s1.trans s) S'⟩
    rw [Cont.bind] at k2
    refine ⟨G2, e, p2, S2, k2.mono (fun hi' p3 k3 G3 H3 s3 S3 => ?_) fun x p' k cls dd G' H' s S' => k cls dd G' H' ((s1.trans s2).trans s) S'⟩
    obtain ⟨d, hd, k⟩ := k3.lift
    have l3 := Lies.bor_move (H' := H3) (s2.trans s3) l1
    have sa := (s1.trans s2).trans s3
    unfold dSl at hd
    split at hd
    · rename_i xs
      cases hd
      obtain ⟨a, vs, rfl, h1, r1⟩ := Lies.lst S3 l3
      refine .inl ⟨a, vs, rfl, SqL.of h1, fun q n => ?_⟩
      obtain ⟨S4, r2⟩ := lies_new S3 n (r1.cut lo' hi')
      exact k _ G3 _ sa S4 r2
    · rename_i xs
      cases hd
      obtain ⟨a, vs, rfl, h1, r1⟩ := Lies.tupG l3
      refine .inr ⟨a, vs, rfl, SqT.of (S3.b.gh _ _ h1), fun w => ?_, fun w q n => ?_⟩
      · rw [r1.len] at w
        rw [cut_whole w] at k
        exact k _ G3 _ sa S3 (lies_rep rfl (.tup h1 r1))
      · obtain ⟨G4, s4, S4, r2⟩ := lies_tup S3 n (r1.cut lo' hi')
        exact k _ G4 _ (sa.trans s4) S4 (lies_rep rfl r2)
    · cases hd

/-! ### built-ins -/
/-- a built-in of one argument -/
def Call1 (z : Z) (r : List V → Hp → VK → Prop) (f : D → Option D) : Prop :=
  ∀ (o : Own) (G : Hp) (e : Env) (p : Pen) (σ : L2.St) (H : Hp) (x : V) (dx d : D) (Q : VK), SR z.X.K z.c z.H0 z.G0 z.pn o G e p σ H → Lies z.X.K z.c z.H0 z.pn o G e σ H x dx .bor → f dx = some d →
    (∀ v G' H', Same G G' → SR z.X.K z.c z.H0 z.G0 z.pn o G' e p σ H' → Lies z.X.K z.c z.H0 z.pn o G' e σ H' v d .fre → Q v H') → r [x] H Q
theorem RE.call1 {r : List V → Hp → VK → Prop} {f : D → Option D} (hf : Call1 z r f) {σ : L2.St} {H : Hp} {Q : VK} (h : RE z o .fre (mUn f ma) σ H Q) : tCB r (tCons (RE z o .bor ma) tNil) σ H Q := by
  obtain ⟨G, e, p, S, q⟩ := h
  unfold mUn at q
  rw [Cont.bind] at q
  refine ⟨G, e, p, S, q.mono (fun d p1 k v G1 H1 s1 S1 l1 => ?_) fun x p' k => k⟩
  obtain ⟨b, hb, k⟩ := k.lift
  exact hf o G1 e p1 σ H1 v d b Q S1 l1 hb fun v' G' H' s S' l => k v' G' H' (s1.trans s) S' l
theorem me_callB {x : Str} {id : String} {p : Pos} {r : List V → Hp → VK → Prop} {f : D → Option D} (hc : CallR z.X (.builtin id) r) (hf : Call1 z r f) (hm : z.X.mg x = none) (hv : bootBuiltins x = some (.builtin id)) (ha : ME z o .bor a ma)
    (hg : Gl z.X x := by rfl) (hs : starEach (a :: []) z.X.env = (false, eval a z.X.env) :: starEach [] z.X.env := by rfl) (hn : x ≠ "__name__" := by decide) (hdb : (x == ("__debug__" : Str)) = false := by decide) : ME z o .fre (.Call (.Name x p) [a] [] pos) (mUn f ma) :=
  PE.imp (pe_callB hc hg hm hv (pa_cons ha pa_nil hs) hn hdb hs) fun σ H Q h => RE.call1 hf h
theorem me_callTy {x : Str} {T : String} {p : Pos} {r : List V → Hp → VK → Prop} {f : D → Option D} (hc : CallR z.X (.type T) r) (hf : Call1 z r f) (hm : z.X.mg x = none) (hv : bootBuiltins x = some (.type T)) (ha : ME z o .bor a ma)
    (hg : Gl z.X x := by rfl) (hs : starEach (a :: []) z.X.env = (false, eval a z.X.env) :: starEach [] z.X.env := by rfl) (hn : x ≠ "__name__" := by decide) (hdb : (x == ("__debug__" : Str)) = false := by decide) : ME z o .fre (.Call (.Name x p) [a] [] pos) (mUn f ma) :=
  PE.imp (pe_callTy hc hg hm hv (pa_cons ha pa_nil hs) hn hdb hs) fun σ H Q h => RE.call1 hf h
def dLen : D → Option D
  | .lst xs => some (.int xs.length)
  | .tup xs => some (.int xs.length)
  | .str x => if x.length ≤ sizeLine then some (.int x.length) else none
  | _ => none
theorem call1_len : Call1 z (fun xs H Q => ∃ x n, xs = [x] ∧ LenV z.X.K x H n ∧ Q (.int n) H) dLen := by
  intro o G e p σ H x dx d Q S lx h k
  have fin : ∀ n : Nat, d = .int n → Q (.int n) H := fun n e => k _ G H (Same.refl _) S (by rw [e]; exact Flat.lies (v := .int n) (d := .int n) rfl)
  cases dx with
  | lst xs =>
    obtain ⟨a, vs, rfl, h1, r1⟩ := lx.lst S
    cases h
    exact ⟨_, vs.length, rfl, .inl ⟨vs, SqL.of h1, rfl⟩, fin _ (by rw [r1.len])⟩
  | tup xs =>
    obtain ⟨a, vs, rfl, h1, r1⟩ := lx.tup
    cases h
    exact ⟨_, vs.length, rfl, .inr ⟨vs, Same.sqT S.b.gh h1, rfl⟩, fin _ (by rw [r1.len])⟩
  | str w =>
    simp only [dLen] at h
    split at h
    · rename_i hl
      cases h
      exact ⟨_, w.length, rfl, by rw [lx.str]; exact ⟨hl, rfl⟩, fin _ rfl⟩
    · cases h
  | _ => cases h
def dAbs : D → Option D
  | .int i => some (.int (if i < 0 then -i else i))
  | _ => none
theorem call1_abs : Call1 z (fun xs H Q => ∃ i, xs = [.int i] ∧ Q (.int (if i < 0 then -i else i)) H) dAbs := by
  intro o G e p σ H x dx d Q S lx h k
  cases dx with
  | int i =>
    cases h
    exact ⟨i, by rw [lx.int], k _ G H (Same.refl _) S (Flat.lies (v := .int _) (d := .int _) rfl)⟩
  | _ => cases h
def dInt : D → Option D
  | .int i => some (.int i)
  | .bl b => some (.int (if b then 1 else 0))
  | _ => none
theorem call1_int : Call1 z (fun xs H Q => (∃ i, xs = [.int i] ∧ Q (.int i) H) ∨ ∃ k, xs = [.bl k] ∧ Q (.int (if k then 1 else 0)) H) dInt := by
  intro o G e p σ H x dx d Q S lx h k
  cases dx with
  | int i =>
    cases h
    exact .inl ⟨i, by rw [lx.int], k _ G H (Same.refl _) S (Flat.lies (v := .int _) (d := .int _) rfl)⟩
  | bl i =>
    cases h
    exact .inr ⟨i, by rw [lx.bl], k _ G H (Same.refl _) S (Flat.lies (v := .int _) (d := .int _) rfl)⟩
  | _ => cases h
def dList : D → Option D
  | .lst xs => some (.lst xs)
  | .tup xs => some (.lst xs)
  | _ => none
theorem call1_list : Call1 z (fun xs H Q => ∃ p ys, xs = [.ref p] ∧ (SqL z.X.K H p ys ∨ SqT z.X.K H p ys) ∧ ∀ l, H l = none → Q (.ref l) (upd H l (.lst ys))) dList := by
  intro o G e p σ H x dx d Q S lx h k
  have fin : ∀ (vs : List V) (xs : List D), d = .lst xs → Reps z.X.K z.c.ca G vs xs → ∀ l, H l = none → Q (.ref l) (upd H l (.lst vs)) := fun vs xs e r l n => by
    obtain ⟨S4, r2⟩ := lies_new S n r
    exact k _ G _ (Same.refl _) S4 (by rw [e]; exact r2)
  cases dx with
  | lst xs =>
    obtain ⟨a, vs, rfl, h1, r1⟩ := lx.lst S
    cases h
    exact ⟨a, vs, rfl, .inl (SqL.of h1), fin vs xs rfl r1⟩
  | tup xs =>
    obtain ⟨a, vs, rfl, h1, r1⟩ := lx.tup
    cases h
    exact ⟨a, vs, rfl, .inr (Same.sqT S.b.gh h1), fin vs xs rfl r1⟩
  | _ => cases h
def dTuple : D → Option D
  | .lst xs => some (.tup xs)
  | .tup xs => some (.tup xs)
  | _ => none
theorem call1_tuple : Call1 z (fun xs H Q => ∃ p ys, xs = [.ref p] ∧ ((SqL z.X.K H p ys ∧ ∀ l, H l = none → Q (.ref l) (upd H l (.tup ys))) ∨ (SqT z.X.K H p ys ∧ Q (.ref p) H))) dTuple := by
  intro o G e p σ H x dx d Q S lx h k
  cases dx with
  | lst xs =>
    obtain ⟨a, vs, rfl, h1, r1⟩ := lx.lst S
    cases h
    refine ⟨a, vs, rfl, .inl ⟨SqL.of h1, fun l n => ?_⟩⟩
    obtain ⟨G2, s2, S2, r2⟩ := lies_tup S n r1
    exact k _ G2 _ s2 S2 (lies_rep rfl r2)
  | tup xs =>
    obtain ⟨a, vs, rfl, h1, r1⟩ := lx.tupG
    cases h
    exact ⟨a, vs, rfl, .inr ⟨SqT.of (S.b.gh _ _ h1), k _ G H (Same.refl _) S (lies_rep rfl (.tup h1 r1))⟩⟩
  | _ => cases h
/-- lists of ints, of bools as they lie -/
def toInts : List D → Option (List Int)
  | [] => some []
  | .int i :: r => match toInts r with | some l => some (i :: l) | none => none
  | _ => none
def toBls : List D → Option (List Bool)
  | [] => some []
  | .bl i :: r => match toBls r with | some l => some (i :: l) | none => none
  | _ => none
theorem Reps.toInts {K : PySem.W.Frag} {ca : CA} {G : Hp} : ∀ {vs : List V} {ds : List D} {ns : List Int}, Reps K ca G vs ds → Mz.toInts ds = some ns → vs = ns.map V.int
  | _, _, _, .nil, h => by cases h; rfl
  | _, _, ns, .cons (d := d) a r, h => by
    cases a with
    | int i =>
      unfold Mz.toInts at h
      split at h
      · rename_i l q
        cases h
        rw [List.map_cons, Reps.toInts r q]
      · cases h
    | _ => cases h
theorem Reps.toBls {K : PySem.W.Frag} {ca : CA} {G : Hp} : ∀ {vs : List V} {ds : List D} {ns : List Bool}, Reps K ca G vs ds → Mz.toBls ds = some ns → vs = ns.map V.bl
  | _, _, _, .nil, h => by cases h; rfl
  | _, _, ns, .cons (d := d) a r, h => by
    cases a with
    | bl i =>
      unfold Mz.toBls at h
      split at h
      · rename_i l q
        cases h
        rw [List.map_cons, Reps.toBls r q]
      · cases h
    | _ => cases h
@[simp] theorem toInts_map (ns : List Int) : toInts (ns.map D.int) = some ns := by
  induction ns with
  | nil => rfl
  | cons n ns ih => rw [List.map_cons]; unfold toInts; rw [ih]
@[simp] theorem toBls_map (ns : List Bool) : toBls (ns.map D.bl) = some ns := by
  induction ns with
  | nil => rfl
  | cons n ns ih => rw [List.map_cons]; unfold toBls; rw [ih]
def dSeq : D → Option (List D)
  | .lst xs => some xs
  | .tup xs => some xs
  | _ => none
def dLst : D → Option (List D)
  | .lst xs => some xs
  | _ => none
def dAny (x : D) : Option D := (dLst x).bind fun xs => (toBls xs).map fun l => .bl (l.any id)
def dAll (x : D) : Option D := (dLst x).bind fun xs => (toBls xs).map fun l => .bl (l.all id)
def dSum (x : D) : Option D := (dLst x).bind fun xs => (toInts xs).map fun l => .int l.sum
theorem dLst_some {x : D} {xs : List D} (h : dLst x = some xs) : x = .lst xs := by
  cases x with
  | lst ys => cases h; rfl
  | _ => cases h
theorem call1_any : Call1 z (rAny z.X.K) dAny := by
  intro o G e p σ H x dx d Q S lx h k
  unfold dAny at h
  obtain ⟨xs, q, h1⟩ := Option.bind_eq_some_iff.mp h
  obtain ⟨l, q2, h2⟩ := Option.map_eq_some_iff.mp h1
  have := dLst_some q
  subst this
  subst h2
  obtain ⟨a, vs, rfl, h1, r1⟩ := lx.lst S
  exact ⟨a, l, rfl, by rw [← r1.toBls q2]; exact SqL.of h1, k _ G H (Same.refl _) S (Flat.lies (v := .bl _) (d := .bl _) rfl)⟩
theorem call1_all : Call1 z (rAll z.X.K) dAll := by
  intro o G e p σ H x dx d Q S lx h k
  unfold dAll at h
  obtain ⟨xs, q, h1⟩ := Option.bind_eq_some_iff.mp h
  obtain ⟨l, q2, h2⟩ := Option.map_eq_some_iff.mp h1
  have := dLst_some q
  subst this
  subst h2
  obtain ⟨a, vs, rfl, h1, r1⟩ := lx.lst S
  exact ⟨a, l, rfl, by rw [← r1.toBls q2]; exact SqL.of h1, k _ G H (Same.refl _) S (Flat.lies (v := .bl _) (d := .bl _) rfl)⟩
theorem call1_sum : Call1 z (rSum z.X.K) dSum := by
  intro o G e p σ H x dx d Q S lx h k
  unfold dSum at h
  obtain ⟨xs, q, h1⟩ := Option.bind_eq_some_iff.mp h
  obtain ⟨l, q2, h2⟩ := Option.map_eq_some_iff.mp h1
  have := dLst_some q
  subst this
  subst h2
  obtain ⟨a, vs, rfl, h1, r1⟩ := lx.lst S
  exact ⟨a, l, rfl, by rw [← r1.toInts q2]; exact SqL.of h1, k _ G H (Same.refl _) S (Flat.lies (v := .int _) (d := .int _) rfl)⟩
/-- sorted, of ints -/
def insI (n : Int) : List Int → List Int
  | [] => [n]
  | x :: r => if n ≤ x then n :: x :: r else x :: insI n r
def sortI : List Int → List Int
  | [] => []
  | n :: r => insI n (sortI r)
theorem insI_perm (n : Int) : ∀ l : List Int, (insI n l).Perm (n :: l)
  | [] => List.Perm.refl _
  | x :: r => by
    unfold insI
    split
    · exact List.Perm.refl _
    · exact (List.Perm.cons x (insI_perm n r)).trans (List.Perm.swap n x r)
theorem sortI_perm : ∀ l : List Int, (sortI l).Perm l
  | [] => List.Perm.refl _
  | n :: r => (insI_perm n (sortI r)).trans (List.Perm.cons n (sortI_perm r))
theorem insI_sorted {n : Int} : ∀ {l : List Int}, l.Pairwise (· ≤ ·) → (insI n l).Pairwise (· ≤ ·)
  | [], _ => List.pairwise_singleton _ _
  | x :: r, h => by
    unfold insI
    split
    · rename_i hn
      refine List.Pairwise.cons (fun y hy => ?_) h
      rcases List.mem_cons.mp hy with e | hy
      · rw [e]; exact hn
      · exact Int.le_trans hn ((List.pairwise_cons.mp h).1 y hy)
    · rename_i hn
      obtain ⟨h1, h2⟩ := List.pairwise_cons.mp h
      refine List.Pairwise.cons (fun y hy => ?_) (insI_sorted h2)
      rcases List.mem_cons.mp ((insI_perm n r).mem_iff.mp hy) with e | hy
      · rw [e]; omega
      · exact h1 y hy
theorem sortI_sorted : ∀ l : List Int, (sortI l).Pairwise (· ≤ ·)
  | [] => List.Pairwise.nil
  | n :: r => insI_sorted (sortI_sorted r)
theorem sorted_one : ∀ {l m : List Int}, l.Perm m → l.Pairwise (· ≤ ·) → m.Pairwise (· ≤ ·) → l = m
  | [], m, h, _, _ => (List.Perm.nil_eq h)
  | x :: l, [], h, _, _ => absurd h.length_eq (by simp)
  | x :: l, y :: m, h, h1, h2 => by
    obtain ⟨a1, a2⟩ := List.pairwise_cons.mp h1
    obtain ⟨b1, b2⟩ := List.pairwise_cons.mp h2
    have e : x = y := by
      have i1 : x ∈ y :: m := h.mem_iff.mp List.mem_cons_self
      have i2 : y ∈ x :: l := h.mem_iff.mpr List.mem_cons_self
      rcases List.mem_cons.mp i1 with q | q
      · exact q
      · rcases List.mem_cons.mp i2 with q2 | q2
        · exact q2.symm
        · have := b1 x q
          have := a1 y q2
          omega
    subst e
    rw [sorted_one (List.Perm.cons_inv h) a2 b2]
def dSorted (x : D) : Option D := (dLst x).bind fun xs => (toInts xs).map fun l => .lst ((sortI l).map D.int)
theorem call1_sorted : Call1 z (rSortedI z.X.K) dSorted := by
  intro o G e p σ H x dx d Q S lx h k
  unfold dSorted at h
  obtain ⟨xs, q, h1⟩ := Option.bind_eq_some_iff.mp h
  obtain ⟨l, q2, h2⟩ := Option.map_eq_some_iff.mp h1
  have := dLst_some q
  subst this
  subst h2
  obtain ⟨a, vs, rfl, h1, r1⟩ := lx.lst S
  refine ⟨a, l, rfl, by rw [← r1.toInts q2]; exact SqL.of h1, fun ns' pp perm rising new => ?_⟩
  have e0 : ns' = sortI l := sorted_one (perm.trans (sortI_perm l).symm) rising (sortI_sorted l)
  rw [e0]
  obtain ⟨S2, r2⟩ := lies_new S new (Reps.ints (K := z.X.K) (ca := z.c.ca) (G := G) (sortI l))
  exact k _ G _ (Same.refl _) S2 r2
end
end Mz
/-! Mz, part f: statements, targets, loops. -/
namespace Mz
open PySem PySem.Spec PyProof.Rows L2

/-- what is wanted behind a statement, from the known heap G on -/
def PostS (z : Z) (o' : Own) (D' : Ends) (G : Hp) : SF → Prop
  | .next e' p' => ∀ σ' G' H', Same G G' → SR z.X.K z.c z.H0 z.G0 z.pn o' G' e' p' σ' H' → D'.nx σ' H'
  | .ret d p' => ∀ v G' H', Same G G' → BR z.c z.H0 z.G0 G' p' H' → Rep z.X.K z.c.ca G' v d → D'.rt v H'
  | .brk e' p' => ∀ σ' G' H', Same G G' → SR z.X.K z.c z.H0 z.G0 z.pn z.ob G' e' p' σ' H' → D'.bk σ' H'
  | .cnt e' p' => ∀ σ' G' H', Same G G' → SR z.X.K z.c z.H0 z.G0 z.pn z.ob G' e' p' σ' H' → D'.ct σ' H'
  | .err x e' p' => ∀ cls dd σ' G' H', Same G G' → SR z.X.K z.c z.H0 z.G0 z.pn [] G' e' p' σ' H' → ExcR z.X.K z.c G' cls dd x → z.W cls dd σ' H'
  | .stuck => False

section
variable {z : Z} {o o1 o2 o3 : Own} {D' : Ends} {G G1 H : Hp} {e : Env} {p : Pen} {σ : L2.St} {r : SF}
theorem RS.iff {m : MS} {D' : Ends} : RS z o o1 m D' σ H ↔ ∃ G e p, SR z.X.K z.c z.H0 z.G0 z.pn o G e p σ H ∧ PostS z o1 D' G (m e p) := by
  constructor
  · rintro ⟨G, e, p, S, q⟩
    refine ⟨G, e, p, S, ?_⟩
    cases h : m e p <;> (rw [h] at q; exact q)
  · rintro ⟨G, e, p, S, q⟩
    refine ⟨G, e, p, S, ?_⟩
    cases h : m e p <;> (rw [h] at q; exact q)
theorem PostS.mono (h : PostS z o1 D' G r) (s : Same G G1) : PostS z o1 D' G1 r := by
  cases r with
  | next e' p' => exact fun σ' G' H' s' => h σ' G' H' (s.trans s')
  | ret d p' => exact fun v G' H' s' => h v G' H' (s.trans s')
  | brk e' p' => exact fun σ' G' H' s' => h σ' G' H' (s.trans s')
  | cnt e' p' => exact fun σ' G' H' s' => h σ' G' H' (s.trans s')
  | err x e' p' => exact fun cls dd σ' G' H' s' => h cls dd σ' G' H' (s.trans s')
  | stuck => exact h
/-- another end -/
theorem PostS.imp {D2 : Ends} (h : PostS z o1 D' G r)
    (h1 : ∀ e' p', r = .next e' p' → (∀ σ' G' H', Same G G' → SR z.X.K z.c z.H0 z.G0 z.pn o1 G' e' p' σ' H' → D'.nx σ' H') → ∀ σ' G' H', Same G G' → SR z.X.K z.c z.H0 z.G0 z.pn o2 G' e' p' σ' H' → D2.nx σ' H')
    (h2 : ∀ v H, D'.rt v H → D2.rt v H)
    (h3 : ∀ σ H, D'.bk σ H → D2.bk σ H) (h4 : ∀ σ H, D'.ct σ H → D2.ct σ H) : PostS z o2 D2 G r := by
  cases r with
  | next e' p' => exact h1 e' p' rfl h
  | ret d p' => exact fun v G' H' s b q => h2 v H' (h v G' H' s b q)
  | brk e' p' => exact fun σ' G' H' s S => h3 _ _ (h σ' G' H' s S)
  | cnt e' p' => exact fun σ' G' H' s S => h4 _ _ (h σ' G' H' s S)
  | err x e' p' => exact h
  | stuck => exact h
theorem SR.none_of (S : SR z.X.K z.c z.H0 z.G0 z.pn o G e p σ H) : ∃ G1, Same G G1 ∧ SR z.X.K z.c z.H0 z.G0 z.pn [] G1 e p σ H := S.less (by
  unfold leO
  refine List.all_eq_true.mpr fun i _ => ?_
  have : own [] i = false := by simp [own]
  rw [this]; rfl)
/-- the way from an expression's reading to a statement's -/
theorem Cont.st {α : Type} {r : R α} {f : α → Pen → SF} (h : PostS z o1 D' G (r.st e f)) (S : SR z.X.K z.c z.H0 z.G0 z.pn o G e p σ H) :
    Cont r (fun a p' => PostS z o1 D' G (f a p')) (fun x p' => ∀ cls dd G' H', Same G G' → SR z.X.K z.c z.H0 z.G0 z.pn o G' e p' σ H' → ExcR z.X.K z.c G' cls dd x → z.W cls dd σ H') := by
  cases r with
  | ok a p' => exact h
  | err x p' =>
    intro cls dd G' H' s S' er
    obtain ⟨G2, s2, S2⟩ := SR.none_of S'
    refine h cls dd σ G2 H' (s.trans s2) S2 ?_
    obtain ⟨e1, a, vs, e2, e3, e4⟩ := er
    exact ⟨e1, a, vs, e2, s2 _ _ e3, RepF.mono s2 e4⟩
  | stuck => exact h

theorem ms_of {st : Stmt} {t : TS} {m : MS} (h : PS z.X st t) (k : ∀ D' σ H G e p, SR z.X.K z.c z.H0 z.G0 z.pn o G e p σ H → PostS z o1 D' G (m e p) → t D' σ H) : MSt z o st m o1 :=
  PS.imp h fun D' σ H q => by
    obtain ⟨G, e, p, S, q⟩ := RS.iff.mp q
    exact k D' σ H G e p S q

/-! ### blocks -/
def sNext : MS := fun e p => .next e p
def sSeq (a b : MS) : MS := fun e p => (a e p).bind b
theorem mss_nil : MSs z o [] sNext o := PSs.imp pss_nil fun D' σ H q => by
  obtain ⟨G, e, p, S, q⟩ := RS.iff.mp q
  exact q σ G H (Same.refl _) S
theorem mss_cons {st : Stmt} {sts : List Stmt} {a b : MS} (h1 : MSt z o st a o1) (h2 : MSs z o1 sts b o2) : MSs z o (st :: sts) (sSeq a b) o2 :=
  PSs.imp (pss_cons h1 h2) fun D' σ H q => by
    obtain ⟨G, e, p, S, q⟩ := RS.iff.mp q
    refine RS.iff.mpr ⟨G, e, p, S, ?_⟩
    unfold sSeq at q
    cases h : a e p with
    | next e' p' =>
      rw [h] at q
      intro σ' G' H' s S'
      exact RS.iff.mpr ⟨G', e', p', S', PostS.mono (r := b e' p') q s⟩
    | ret d p' => rw [h] at q; exact q
    | brk e' p' => rw [h] at q; exact q
    | cnt e' p' => rw [h] at q; exact q
    | err x e' p' => rw [h] at q; exact q
    | stuck => rw [h] at q; exact q
theorem mss_one {st : Stmt} {a : MS} (h1 : MSt z o st a o1) : MSs z o [st] a o1 := pss_one h1
/-- fewer slots owned: ahead, behind -/
theorem mss_less {sts : List Stmt} {a : MS} (h1 : MSs z o1 sts a o2) (h : leO o1 o = true) : MSs z o sts a o2 := PSs.imp h1 fun D' σ H q => by
  obtain ⟨G, e, p, S, q⟩ := RS.iff.mp q
  obtain ⟨G1, s, S1⟩ := S.less h
  exact RS.iff.mpr ⟨G1, e, p, S1, q.mono s⟩
theorem mss_end {sts : List Stmt} {a : MS} (h1 : MSs z o sts a o1) (h : leO o2 o1 = true) : MSs z o sts a o2 := PSs.imp h1 fun D' σ H q => by
  obtain ⟨G, e, p, S, q⟩ := RS.iff.mp q
  refine RS.iff.mpr ⟨G, e, p, S, q.imp (fun e' p' _ k σ' G' H' s S' => ?_) (fun _ _ h => h) (fun _ _ h => h) fun _ _ h => h⟩
  obtain ⟨G1, s1, S1⟩ := S'.less h
  exact k σ' G1 H' (s.trans s1) S1
theorem ms_end {st : Stmt} {a : MS} (h1 : MSt z o st a o1) (h : leO o2 o1 = true) : MSt z o st a o2 := PS.imp h1 fun D' σ H q => by
  obtain ⟨G, e, p, S, q⟩ := RS.iff.mp q
  refine RS.iff.mpr ⟨G, e, p, S, q.imp (fun e' p' _ k σ' G' H' s S' => ?_) (fun _ _ h => h) (fun _ _ h => h) fun _ _ h => h⟩
  obtain ⟨G1, s1, S1⟩ := S'.less h
  exact k σ' G1 H' (s.trans s1) S1
/-! ### small statements -/
variable {a b : Expr} {ma mb : M D} {pos : Pos}
theorem ms_pass : MSt z o (.Pass pos) sNext o := ms_of ps_pass fun D' σ H G e p S q => q σ G H (Same.refl _) S
def sBrk : MS := fun e p => .brk e p
def sCnt : MS := fun e p => .cnt e p
theorem ms_break (h : leO z.ob o = true) : MSt z o (.Break pos) sBrk o1 := ms_of ps_break fun D' σ H G e p S q => by
  obtain ⟨G1, s1, S1⟩ := S.less h
  exact q σ G1 H s1 S1
theorem ms_cont (h : leO z.ob o = true) : MSt z o (.Continue pos) sCnt o1 := ms_of ps_continue fun D' σ H G e p S q => by
  obtain ⟨G1, s1, S1⟩ := S.less h
  exact q σ G1 H s1 S1
def sExpr (m : M D) : MS := fun e p => (m e p).st e fun _ p => .next e p
theorem ms_expr {md : Mode} (h : ME z o md a ma) (hs : swapsWith a none pos.line z.X.env = pure false := by rfl) : MSt z o (.Expr a pos) (sExpr ma) o :=
  ms_of (ps_expr h hs) fun D' σ H G e p S q => by
    unfold sExpr at q
    exact ⟨G, e, p, S, (Cont.st q S).mono (fun d p' k v G' H' s S' _ => k σ G' H' s S') fun x p' k => k⟩
def sRet (m : M D) : MS := fun e p => (m e p).st e fun d p => .ret d p
theorem ms_ret (h : ME z o .fro a ma) : MSt z o (.Return (some a) pos) (sRet ma) o1 :=
  ms_of (ps_ret h) fun D' σ H G e p S q => by
    unfold sRet at q
    exact ⟨G, e, p, S, (Cont.st q S).mono (fun d p' k v G' H' s S' l => k v G' H' s S'.b l) fun x p' k => k⟩
def sRetN : MS := fun _ p => .ret .non p
theorem ms_retN : MSt z o (.Return none pos) sRetN o1 := ms_of ps_retN fun D' σ H G e p S q => q .non G H (Same.refl _) S.b .non
def sIf (t : M Bool) (x y : MS) : MS := fun e p => (t e p).st e fun b p => if b then x e p else y e p
theorem ms_if {c : Expr} {xs ys : List Stmt} {t : M Bool} {x y : MS} (hc : MT z o c t) (hx : MSs z o xs x o1) (hy : MSs z o ys y o1) : MSt z o (.If c xs ys pos) (sIf t x y) o1 :=
  ms_of (ps_if hc hx hy) fun D' σ H G e p S q => by
    unfold sIf at q
    refine ⟨G, e, p, S, (Cont.st q S).mono (fun b p' k G' H' s S' => ?_) fun x p' k => k⟩
    cases b with
    | true =>
      rw [ite_t] at k
      show if true = true then _ else _
      rw [ite_t]
      exact RS.iff.mpr ⟨G', e, p', S', k.mono s⟩
    | false =>
      rw [ite_f] at k
      show if false = true then _ else _
      rw [ite_f]
      exact RS.iff.mpr ⟨G', e, p', S', k.mono s⟩
/-! ### name = e -/
def sSet (i : Nat) (m : M D) : MS := fun e p => (m e p).st e fun d p => .next (e.set i (some d)) p
theorem set_of {i : Nat} {σ : L2.St} {H : Hp} {D' : Ends} {m : M D} (S : SR z.X.K z.c z.H0 z.G0 z.pn o G e p σ H) (q : PostS z (o.set i false) D' G (sSet i m e p)) : RE z o .fro m σ H fun x H1 => D'.nx (σ.set i (some x)) H1 := by
  unfold sSet at q
  exact ⟨G, e, p, S, (Cont.st q S).mono (fun d p' k v G' H' s S' l => k _ G' H' s (S'.put l)) fun x p' k => k⟩
theorem ms_set (i : Nat) {x : Str} {pos' : Pos} (h : ME z o .fro a ma) (hN : z.X.N.Nodup) (hi : z.X.N[i]? = some x := by rfl) (hx : Loc z.X.env.scope x := by first | exact Or.inl rfl | exact Or.inr rfl) (hs : swapsWith a (some (.Name x pos')) pos.line z.X.env = pure false := by rfl)
    (hf : z.X.fn x = true ∨ z.X.env.scope.names.lookup x = some .local := by first | exact .inl rfl | exact .inr rfl | assumption) : MSt z o (.Assign [.Name x pos'] a pos) (sSet i ma) (o.set i false) :=
  ms_of (ps_set hN hi hx h hs hf) fun D' σ H G e p S q => set_of S q
theorem Lies.fre_mut {K : PySem.W.Frag} {c : Cfg} {H0 : Hp} {pn : Pins} {o : Own} {G : Hp} {e : Env} {σ : L2.St} {H : Hp} {v : V} {d : D} (h : Lies K c H0 pn o G e σ H v d .fre) (hm : IsMut d = true) :
    ∃ l, v = .ref l ∧ OwnAt K c.ca G H l d ∧ NewIn H0 l ∧ G l = none ∧ l ≠ c.pa ∧ ¬ Priv pn o e σ l := by
  unfold Lies at h
  dsimp only at h
  rw [if_pos hm] at h
  exact h
theorem Lies.fre_flat {K : PySem.W.Frag} {c : Cfg} {H0 : Hp} {pn : Pins} {o : Own} {G : Hp} {e : Env} {σ : L2.St} {H : Hp} {v : V} {d : D} (h : Lies K c H0 pn o G e σ H v d .fre) (hm : IsMut d = false) : Rep K c.ca G v d := by
  unfold Lies at h
  dsimp only at h
  rw [if_neg (by rw [hm]; exact Bool.false_ne_true)] at h
  exact h
theorem setO_of {i : Nat} {σ : L2.St} {H : Hp} {D' : Ends} {m : M D} (hl : i < o.length) (S : SR z.X.K z.c z.H0 z.G0 z.pn o G e p σ H) (q : PostS z (o.set i true) D' G (sSet i m e p)) : RE z o .fre m σ H fun x H1 => D'.nx (σ.set i (some x)) H1 := by
  unfold sSet at q
  refine ⟨G, e, p, S, (Cont.st q S).mono (fun d p' k v G' H' s S' l => ?_) fun x p' k => k⟩
  by_cases hm : IsMut d = true
  · obtain ⟨a, rfl, h1, h2, h3, h4, h5⟩ := l.fre_mut hm
    exact k _ G' H' s (S'.putO hl h1 h2 h3 h4 h5)
  · have hm' : IsMut d = false := by cases h : IsMut d with | true => exact absurd h hm | false => rfl
    have l := l.fre_flat hm'
    refine k _ G' H' s ((S'.put (i := i) l).as_own (i := i) (fun d' h => ?_) fun j hj => ?_)
    · have hl : i < e.length := by
        have := (List.getElem?_eq_some_iff.mp h).1
        simpa using this
      rw [List.getElem?_set_self hl] at h
      cases h; exact hm'
    · unfold own
      rw [List.getD_eq_getElem?_getD, List.getD_eq_getElem?_getD, List.getElem?_set_ne (Ne.symm hj), List.getElem?_set_ne (Ne.symm hj)]
theorem ms_setO (i : Nat) {x : Str} {pos' : Pos} (h : ME z o .fre a ma) (hl : i < o.length) (hN : z.X.N.Nodup) (hi : z.X.N[i]? = some x := by rfl) (hx : Loc z.X.env.scope x := by first | exact Or.inl rfl | exact Or.inr rfl) (hs : swapsWith a (some (.Name x pos')) pos.line z.X.env = pure false := by rfl)
    (hf : z.X.fn x = true ∨ z.X.env.scope.names.lookup x = some .local := by first | exact .inl rfl | exact .inr rfl | assumption) : MSt z o (.Assign [.Name x pos'] a pos) (sSet i ma) (o.set i true) :=
  ms_of (ps_set hN hi hx h hs hf) fun D' σ H G e p S q => setO_of hl S q
/-- name += e, of ints -/
def sAug (i : Nat) (f : Int → Int → Int) (m : M D) : MS := fun e p => match e[i]? with
  | some (some (.int a)) => (m e p).st e fun d p => match d with
    | .int b => .next (e.set i (some (.int (f a b)))) p
    | _ => .stuck
  | _ => .stuck
theorem ms_aug (i : Nat) {x : Str} {pos' : Pos} {op : Operator} {f : Int → Int → Int} (ho : PIp z.X op (ipI f)) (h : ME z o .bor a ma) (hN : z.X.N.Nodup) (hi : z.X.N[i]? = some x := by rfl) (hx : Loc z.X.env.scope x := by first | exact Or.inl rfl | exact Or.inr rfl)
    (hf : z.X.fn x = true ∨ z.X.env.scope.names.lookup x = some .local := by first | exact .inl rfl | exact .inr rfl | assumption) : MSt z o (.AugAssign (.Name x pos') op a pos) (sAug i f ma) (o.set i false) :=
  ms_of (ps_aug hN hi hx h ho hf) fun D' σ H G e p S q => by
    unfold sAug at q
    split at q
    · rename_i a0 he
      obtain ⟨v, h1, h2⟩ := S.fz i _ he (.inr rfl)
      cases h2
      have q' := Cont.st (o1 := o.set i false) q S
      refine ⟨_, h1, G, e, p, S, q'.mono (fun d p' k v G' H' s S' l => ?_) fun x p' k => k⟩
      cases d with
      | int b =>
        exact ⟨a0, b, rfl, l.int, k _ G' H' s (S'.put (.int _))⟩
      | _ => exact k.elim
    · exact q.elim
end
end Mz
/-! Mz, part g: targets, loops, what is walked. -/
namespace Mz
open PySem PySem.Spec PyProof.Rows L2
section
variable {z : Z} {o o1 o2 o3 : Own} {D' : Ends} {G G1 H : Hp} {e : Env} {p : Pen} {σ : L2.St} {r : SF}
/-! ### targets -/
abbrev GT := D → Env → Option Env
abbrev GTs := List D → Env → Option Env
/-- alike but at ts -/
def But {α : Type} (ts : List Nat) (σ σ' : List α) : Prop := σ'.length = σ.length ∧ ∀ j, j ∉ ts → σ'[j]? = σ[j]?
theorem But.refl {α : Type} (ts : List Nat) (σ : List α) : But ts σ σ := ⟨rfl, fun _ _ => rfl⟩
theorem But.set {α : Type} (i : Nat) (σ : List α) (x : α) : But [i] σ (σ.set i x) := ⟨List.length_set, fun j hj => List.getElem?_set_ne (fun z => hj (by simp [z]))⟩
theorem But.trans {α : Type} {ts us : List Nat} {a b c : List α} (h : But ts a b) (k : But us b c) : But (ts ++ us) a c := ⟨k.1.trans h.1, fun j hj => by
  simp only [List.mem_append, not_or] at hj
  rw [k.2 j hj.2, h.2 j hj.1]⟩
def RG (z : Z) (o o1 : Own) (ts : List Nat) (g : GT) : TG := fun v σ H Q => ∃ G e p d e', SR z.X.K z.c z.H0 z.G0 z.pn o G e p σ H ∧ Rep z.X.K z.c.ca G v d ∧ g d e = some e' ∧ ∀ σ', SR z.X.K z.c z.H0 z.G0 z.pn o1 G e' p σ' H → But ts e e' → But ts σ σ' → Q σ' H
def RGs (z : Z) (o o1 : Own) (ts : List Nat) (g : GTs) : TGs := fun vs σ H Q => ∃ G e p ds e', SR z.X.K z.c z.H0 z.G0 z.pn o G e p σ H ∧ Reps z.X.K z.c.ca G vs ds ∧ g ds e = some e' ∧ ∀ σ', SR z.X.K z.c z.H0 z.G0 z.pn o1 G e' p σ' H → But ts e e' → But ts σ σ' → Q σ' H
abbrev MG (z : Z) (o : Own) (t : Expr) (g : GT) (o1 : Own) (ts : List Nat) : Prop := PG z.X t (RG z o o1 ts g)
abbrev MGs (z : Z) (o : Own) (t : List Expr) (g : GTs) (o1 : Own) (ts : List Nat) : Prop := PGs z.X t (RGs z o o1 ts g)
theorem PG.imp {X : Cx} {e : Expr} {t t' : TG} (h : PG X e t) (k : ∀ v σ H Q, t' v σ H Q → t v σ H Q) : PG X e t' := ⟨fun pins s σ H v u Q I r q => h.run pins s σ H v u Q I r (k _ _ _ _ q)⟩
theorem PGs.imp {X : Cx} {e : List Expr} {t t' : TGs} (h : PGs X e t) (k : ∀ v σ H Q, t' v σ H Q → t v σ H Q) : PGs X e t' := ⟨fun pins s σ H v u Q I r q => h.run pins s σ H v u Q I r (k _ _ _ _ q)⟩
def gtName (i : Nat) : GT := fun d e => some (e.set i (some d))
def gtNil : GTs := fun ds e => match ds with | [] => some e | _ => none
def gtCons (g : GT) (r : GTs) : GTs := fun ds e => match ds with | d :: ds => (g d e).bind fun e => r ds e | _ => none
def gtTup (g : GTs) : GT := fun d e => match d with | .tup ds => g ds e | _ => none
theorem mg_name (i : Nat) {x : Str} {pos : Pos} (hN : z.X.N.Nodup) (hi : z.X.N[i]? = some x := by rfl) (hx : Loc z.X.env.scope x := by first | exact Or.inl rfl | exact Or.inr rfl)
    (hf : z.X.fn x = true ∨ z.X.env.scope.names.lookup x = some .local := by first | exact .inl rfl | exact .inr rfl | assumption) : MG z o (.Name x pos) (gtName i) (o.set i false) [i] :=
  PG.imp (pg_name hN hi hx hf) fun v σ H Q ⟨G, e, p, d, e', S, r, h, k⟩ => by
    cases h
    exact k _ (S.put r) (But.set _ _ _) (But.set _ _ _)
theorem mgs_nil : MGs z o [] gtNil o [] := PGs.imp pgs_nil fun vs σ H Q ⟨G, e, p, ds, e', S, r, h, k⟩ => by
  cases ds with
  | nil =>
    cases h
    exact ⟨r.nilD, k _ S (But.refl _ _) (But.refl _ _)⟩
  | cons d ds => cases h
theorem mgs_cons {t : Expr} {ts : List Expr} {g : GT} {gs : GTs} {us ws : List Nat} (h1 : MG z o t g o1 us) (h2 : MGs z o1 ts gs o2 ws)
    (hs : (assignEach (t :: ts) z.X.env).map (·.2) = assign t z.X.env :: (assignEach ts z.X.env).map (·.2) := by rfl) : MGs z o (t :: ts) (gtCons g gs) o2 (us ++ ws) :=
  PGs.imp (pgs_cons h1 h2 hs) fun vs σ H Q ⟨G, e, p, ds, e', S, r, h, k⟩ => by
    cases r with
    | nil => cases h
    | cons a b =>
      unfold gtCons at h
      obtain ⟨e1, q1, q2⟩ := Option.bind_eq_some_iff.mp h
      exact ⟨_, _, rfl, G, e, p, _, e1, S, a, q1, fun σ1 S1 b1 b2 => ⟨G, e1, p, _, e', S1, b, q2, fun σ' S' b3 b4 => k σ' S' (b1.trans b3) (b2.trans b4)⟩⟩
theorem mg_tup {ts : List Expr} {kk : Nat} {gs : GTs} {us : List Nat} {pos : Pos} {n : Nat} (hc : z.X.calm = true) (h : MGs z o ts gs o1 us) (hlen : ∀ ds e e', gs ds e = some e' → ds.length = n)
    (hn : (assignEach ts z.X.env).length = n := by rfl) (hst : (assignEach ts z.X.env).findIdx? (·.1) = none := by rfl) : MG z o (.Tuple ts kk pos) (gtTup gs) o1 us :=
  PG.imp (pg_tup hc h hn hst) fun v σ H Q ⟨G, e, p, d, e', S, r, h, k⟩ => by
    cases r with
    | tup h1 h2 =>
      exact ⟨_, _, rfl, SqT.of (S.b.gh _ _ h1), by rw [h2.len]; exact hlen _ _ _ h, G, e, p, _, e', S, h2, h, k⟩
    | _ => cases h
theorem gt_nil_len {ds : List D} {e e' : Env} (h : gtNil ds e = some e') : ds.length = 0 := by
  cases ds with
  | nil => rfl
  | cons _ _ => cases h
theorem gt_cons_len {n : Nat} {g : GT} {gs : GTs} (hr : ∀ ds e e', gs ds e = some e' → ds.length = n) {ds : List D} {e e' : Env} (h : gtCons g gs ds e = some e') : ds.length = n + 1 := by
  cases ds with
  | nil => cases h
  | cons d ds =>
    unfold gtCons at h
    obtain ⟨e1, _, q2⟩ := Option.bind_eq_some_iff.mp h
    rw [List.length_cons, hr _ _ _ q2]
/-- target = e -/
def sAsg (g : GT) (m : M D) : MS := fun e p => (m e p).st e fun d p => match g d e with | some e' => .next e' p | none => .stuck
theorem ms_asg {t a : Expr} {g : GT} {ma : M D} {pos : Pos} {us : List Nat} (ha : ME z o .fro a ma) (hg : MG z o t g o1 us) (hs : swapsWithSole [t] a pos.line z.X.env = pure false := by rfl) (hw : swappedStores [t] a z.X.env = pure none := by rfl)
    (h1 : (assignEach [t] z.X.env).map (·.2) = [assign t z.X.env] := by rfl) : MSt z o (.Assign [t] a pos) (sAsg g ma) o1 :=
  ms_of (ps_asg ha hg hs hw h1) fun D' σ H G e p S q => by
    unfold sAsg at q
    refine ⟨G, e, p, S, (Cont.st q S).mono (fun d p' k v G' H' s S' l => ?_) fun x p' k => k⟩
    cases hd : g d e with
    | none => rw [hd] at k; exact k.elim
    | some e' =>
      rw [hd] at k
      exact ⟨G', e, p', d, e', S', l, hd, fun σ' S2 _ _ => k σ' G' H' s S2⟩
/-- a, b = x, y, both plain local names -/
def sPar (i j : Nat) (x y : M D) : MS := fun e p => (x e p).st e fun dx p => (y e p).st e fun dy p => .next ((e.set i (some dx)).set j (some dy)) p
/-! ### what is walked -/
/-- while G's objects stand: the i-th turn gives the i-th of ds, as it lies or in a new object -/
def ItIs (K : PySem.W.Frag) (ca : CA) (J : It) (G : Hp) (ds : List D) : Prop := ∀ (G' H' : Hp), Same G G' → Same G' H' → ∀ i : Nat,
  (∀ d, ds[i]? = some d → J.go i H' ∧ ∀ x H'', J.yld i H' x H'' → (H'' = H' ∧ Rep K ca G' x d) ∨ ∃ T u, H' T = none ∧ ¬ isTbl u ∧ H'' = upd H' T u ∧ Rep K ca (upd G' T u) x d) ∧ (ds.length ≤ i → J.stop i H')
theorem ItIs.mono {K : PySem.W.Frag} {ca : CA} {J : It} {ds : List D} (h : ItIs K ca J G ds) (s : Same G G1) : ItIs K ca J G1 ds := fun G' H' s1 s2 => h G' H' (s.trans s1) s2
def RI (z : Z) (o : Own) (m : M (List D)) : TI := fun σ H R => ∃ G e p, SR z.X.K z.c z.H0 z.G0 z.pn o G e p σ H ∧
  Cont (m e p) (fun ds p' => ∀ J G' H', Same G G' → SR z.X.K z.c z.H0 z.G0 z.pn o G' e p' σ H' → ItIs z.X.K z.c.ca J G' ds → R J H')
    (fun x p' => ∀ cls dd G' H', Same G G' → SR z.X.K z.c z.H0 z.G0 z.pn o G' e p' σ H' → ExcR z.X.K z.c G' cls dd x → z.W cls dd σ H')
abbrev MI (z : Z) (o : Own) (t : Expr) (a : Expr) (m : M (List D)) : Prop := PI z.X t a (RI z o m)
theorem PI.imp {X : Cx} {t a : Expr} {w w' : TI} (h : PI X t a w) (k : ∀ σ H R, w' σ H R → w σ H R) : PI X t a w' := ⟨fun pins s σ H R I q => h.run pins s σ H R I (k _ _ _ q)⟩
/-- a list or a tuple -/
theorem pi_seq {X : Cx} {tg l : Expr} {tl : TE} (hl : PE X l tl) : PI X tg l (fun σ H R => tl σ H fun x H1 => (∃ a, x = .ref a ∧ (∃ xs, SqL X.K H1 a xs) ∧ R (Itl X.K a) H1) ∨ (∃ a, x = .ref a ∧ (∃ xs, SqT X.K H1 a xs) ∧ R (Itt X.K a) H1)) := by
  refine ⟨fun pins s σ H R I h => ?_⟩
  refine thn (hl.run pins s σ H _ I h) fun v s1 ⟨x, H1, I1, r1, q1⟩ => ?_
  rcases q1 with ⟨a, ea, ⟨xs, hq⟩, q⟩ | ⟨a, ea, ⟨xs, hq⟩, q⟩
  · subst ea
    cases r1
    obtain ⟨its, rv, pl, hz⟩ := I1.list hq
    refine wpAny_pyIter_list pl.isList ?_
    refine ⟨s1.heap.objs.size, [s1.heap.objs.size], _, _, H1, rfl, I1.kept (t' := s1.toks) fun b o e => Heap.get?_push_of_some _ e, turn_list a _, ⟨_, Heap.get?_push_size _ rfl, rfl, rfl⟩, fun b hb => ?_, q⟩
    have eb : b = s1.heap.objs.size := by simpa using hb
    subst eb
    exact I1.fpOk (Nat.le_refl _) (I1.hok.fresh (Nat.le_refl _))
  · subst ea
    cases r1
    obtain ⟨its, rv, pl, hz⟩ := I1.tuple hq
    refine wpAny_pyIter_tuple (show s1.heap.IsTuple a its.toArray from pl) ?_
    refine ⟨s1.heap.objs.size, [s1.heap.objs.size], _, _, H1, rfl, I1.kept (t' := s1.toks) fun b o e => Heap.get?_push_of_some _ e, turn_tuple a _, ⟨_, Heap.get?_push_size _ rfl, rfl, rfl⟩, fun b hb => ?_, q⟩
    have eb : b = s1.heap.objs.size := by simpa using hb
    subst eb
    exact I1.fpOk (Nat.le_refl _) (I1.hok.fresh (Nat.le_refl _))
def miSeq (m : M D) : M (List D) := fun e p => (m e p).bind fun d p => lift (dSeq d) p
theorem itis_lst {K : PySem.W.Frag} {ca : CA} {a : Addr} {vs : List V} {ds : List D} (h : G a = some (.lst vs)) (r : Reps K ca G vs ds) : ItIs K ca (Itl K a) G ds := by
  intro G' H' s1 s2 i
  have hL : SqL K H' a vs := SqL.of (s2 _ _ (s1 _ _ h))
  refine ⟨fun d hd => ?_, fun hi => ⟨vs, hL, by rw [r.len]; exact hi⟩⟩
  obtain ⟨v, e1, e2⟩ := r.get hd
  exact ⟨⟨vs, v, hL, e1⟩, fun x H'' ⟨eh, y⟩ => .inl ⟨eh, by rw [y vs hL] at e1; cases e1; exact e2.mono s1⟩⟩
theorem itis_tup {K : PySem.W.Frag} {ca : CA} {a : Addr} {vs : List V} {ds : List D} (h : SqT K G a vs) (r : Reps K ca G vs ds) : ItIs K ca (Itt K a) G ds := by
  intro G' H' s1 s2 i
  have hL : SqT K H' a vs := Same.sqT (s1.trans s2) h
  refine ⟨fun d hd => ?_, fun hi => ⟨vs, hL, by rw [r.len]; exact hi⟩⟩
  obtain ⟨v, e1, e2⟩ := r.get hd
  exact ⟨⟨vs, v, hL, e1⟩, fun x H'' ⟨eh, y⟩ => .inl ⟨eh, by rw [y vs hL] at e1; cases e1; exact e2.mono s1⟩⟩
theorem mi_seq {t a : Expr} {ma : M D} (ha : ME z o .fro a ma) : MI z o t a (miSeq ma) :=
  PI.imp (pi_seq ha) fun σ H R ⟨G, e, p, S, q⟩ => by
    unfold miSeq at q
    rw [Cont.bind] at q
    refine ⟨G, e, p, S, q.mono (fun d p1 k v G1 H1 s1 S1 l1 => ?_) fun x p' k => k⟩
    obtain ⟨ds, hd, k⟩ := k.lift
    cases l1 with
    | lst h r =>
      cases hd
      exact .inl ⟨_, rfl, ⟨_, SqL.of (S1.b.gh _ _ h)⟩, k _ G1 H1 s1 S1 (itis_lst h r)⟩
    | tup h r =>
      cases hd
      exact .inr ⟨_, rfl, ⟨_, SqT.of (S1.b.gh _ _ h)⟩, k _ G1 H1 s1 S1 (itis_tup (SqT.of h) r)⟩
    | _ => cases hd
/-- range -/
def rngD (lo : Int) (n : Nat) : List D := (List.range n).map fun k : Nat => D.int (lo + (k : Int))
theorem rngD_len (lo : Int) (n : Nat) : (rngD lo n).length = n := by simp [rngD]
theorem rngD_get {lo : Int} {n i : Nat} {d : D} (h : (rngD lo n)[i]? = some d) : i < n ∧ d = .int (lo + i) := by
  unfold rngD at h
  rw [List.getElem?_map] at h
  obtain ⟨k, e1, e2⟩ := Option.map_eq_some_iff.mp h
  have hi : i < (List.range n).length := (List.getElem?_eq_some_iff.mp e1).1
  rw [List.length_range] at hi
  rw [List.getElem?_range hi] at e1
  cases e1
  exact ⟨hi, e2.symm⟩
theorem itis_rng {K : PySem.W.Frag} {ca : CA} (lo : Int) (n : Nat) : ItIs K ca (Itr lo n) G (rngD lo n) := by
  intro G' H' s1 s2 i
  refine ⟨fun d hd => ?_, fun hi => by rw [rngD_len] at hi; exact hi⟩
  obtain ⟨hi, rfl⟩ := rngD_get hd
  exact ⟨hi, fun x H'' ⟨e1, e2⟩ => .inl ⟨e1, by rw [e2]; exact .int _⟩⟩
def miRng1 (m : M D) : M (List D) := fun e p => (m e p).bind fun d p => match d with
  | .int j => if -(2 ^ 62) ≤ j ∧ j < 2 ^ 62 then .ok (rngD 0 j.toNat) p else .stuck
  | _ => .stuck
def miRng2 (m m2 : M D) : M (List D) := fun e p => (m e p).bind fun d p => (m2 e p).bind fun d2 p => match d, d2 with
  | .int i, .int j => if -(2 ^ 62) ≤ i ∧ i < 2 ^ 62 ∧ -(2 ^ 62) ≤ j ∧ j < 2 ^ 62 then .ok (rngD i (j - i).toNat) p else .stuck
  | _, _ => .stuck
theorem mi_rng1 {t a : Expr} {ma : M D} {pp pos : Pos} (hm : z.X.mg "range" = none) (ha : ME z o .bor a ma) (hg : Gl z.X "range" := by rfl) (hs : starEach [a] z.X.env = [(false, eval a z.X.env)] := by rfl) (hs' : starEach (a :: []) z.X.env = (false, eval a z.X.env) :: starEach [] z.X.env := by rfl) : MI z o t (.Call (.Name "range" pp) [a] [] pos) (miRng1 ma) :=
  PI.imp (pi_range1 hg hm (pa_cons ha pa_nil hs') hs) fun σ H R ⟨G, e, p, S, q⟩ => by
    unfold miRng1 at q
    rw [Cont.bind] at q
    refine ⟨G, e, p, S, q.mono (fun d p1 k v G1 H1 s1 S1 l1 => ?_) fun x p' k => k⟩
    cases d with
    | int j =>
      dsimp only at k
      split at k
      · rename_i hj
        exact ⟨j, by rw [l1.int], hj.1, hj.2, k _ G1 H1 s1 S1 (itis_rng 0 j.toNat)⟩
      · exact k.elim
    | _ => exact k.elim
theorem mi_rng2 {t a b : Expr} {ma mb : M D} {pp pos : Pos} (hm : z.X.mg "range" = none) (ha : ME z o .bor a ma) (hb : ME z o .bor b mb) (hg : Gl z.X "range" := by rfl) (hs : starEach [a, b] z.X.env = [(false, eval a z.X.env), (false, eval b z.X.env)] := by rfl) (hs2 : starEach [b] z.X.env = [(false, eval b z.X.env)] := by rfl)
    (hs' : starEach (a :: [b]) z.X.env = (false, eval a z.X.env) :: starEach [b] z.X.env := by rfl) (hs'' : starEach (b :: []) z.X.env = (false, eval b z.X.env) :: starEach [] z.X.env := by rfl) : MI z o t (.Call (.Name "range" pp) [a, b] [] pos) (miRng2 ma mb) :=
  PI.imp (pi_range2 hg hm (pa_cons ha (pa_cons hb pa_nil hs'') hs') hs hs2) fun σ H R ⟨G, e, p, S, q⟩ => by
    unfold miRng2 at q
    rw [Cont.bind] at q
    refine ⟨G, e, p, S, q.mono (fun d p1 k v G1 H1 s1 S1 l1 => ?_) fun x p' k => k⟩
    rw [Cont.bind] at k
    refine ⟨G1, e, p1, S1, k.mono (fun d2 p2 k v2 G2 H2 s2 S2 l2 => ?_) fun x p' k cls dd G' H' s S' => k cls dd G' H' (s1.trans s) S'⟩
    cases d with
    | int i =>
      cases d2 with
      | int j =>
        dsimp only at k
        split at k
        · rename_i hj
          exact ⟨i, j, by rw [l1.int, l2.int], hj, k _ G2 H2 (s1.trans s2) S2 (itis_rng i _)⟩
        · exact k.elim
      | _ => exact k.elim
    | _ => exact k.elim
/-- enumerate of a list -/
def enumD (ds : List D) : List D := ds.mapIdx fun i d => .tup [.int (i : Nat), d]
def miEnumL (m : M D) : M (List D) := fun e p => (m e p).bind fun d p => lift ((dLst d).map enumD) p
theorem mi_enumL {a : Expr} {ma : M D} {elts : List Expr} {kk : Nat} {tpos pp pos : Pos} (hm : z.X.mg "enumerate" = none) (ha : ME z o .fro a ma) (hg : Gl z.X "enumerate" := by rfl) (hs : starEach [a] z.X.env = [(false, eval a z.X.env)] := by rfl) (hs' : starEach (a :: []) z.X.env = (false, eval a z.X.env) :: starEach [] z.X.env := by rfl) :
    MI z o (.Tuple elts kk tpos) (.Call (.Name "enumerate" pp) [a] [] pos) (miEnumL ma) :=
  PI.imp (pi_enum hg hm (pa_cons ha pa_nil hs') hs) fun σ H R ⟨G, e, p, S, q⟩ => by
    unfold miEnumL at q
    rw [Cont.bind] at q
    refine ⟨G, e, p, S, q.mono (fun d p1 k v G1 H1 s1 S1 l1 => ?_) fun x p' k => k⟩
    obtain ⟨es, he, k2⟩ := k.lift
    obtain ⟨ds, hd, he2⟩ := Option.map_eq_some_iff.mp he
    have := dLst_some hd
    subst this
    subst he2
    cases l1 with
    | @lst a vs _ h r =>
      refine ⟨a, vs, rfl, SqL.of (S1.b.gh _ _ h), k2 _ G1 H1 s1 S1 ?_⟩
      intro G' H' s2 s3 i
      have hL : SqL z.X.K H' a vs := SqL.of (s3 _ _ (s2 _ _ h))
      refine ⟨fun d hd => ?_, fun hi => ⟨vs, hL, by rw [r.len]; simpa [enumD] using hi⟩⟩
      unfold enumD at hd
      rw [List.getElem?_mapIdx] at hd
      obtain ⟨d0, e1, e2⟩ := Option.map_eq_some_iff.mp hd
      subst e2
      obtain ⟨v, f1, f2⟩ := r.get e1
      refine ⟨⟨vs, v, hL, f1⟩, fun x H'' ⟨T, y, ex, nT, eH, hy⟩ => .inr ⟨T, .tup [.int (i : Nat), y], nT, fun q => q, eH, ?_⟩⟩
      have ey : y = v := by
        have := hy vs hL
        rw [f1] at this; cases this; rfl
      subst ey
      rw [ex]
      have nG : G' T = none := Same.free s3 nT
      have sG : Same G' (upd G' T (.tup [.int (i : Nat), y])) := fun b u eb => by rw [upd_ne (ne_of_none eb nG)]; exact eb
      exact .tup upd_same (.cons (.int _) (.cons (f2.mono (s2.trans sG)) .nil))

/-! ### for -/
def mFor (g : GT) (body : MS) : List D → MS
  | [] => fun e p => .next e p
  | d :: ds => fun e p => match g d e with
    | none => .stuck
    | some e' => match body e' p with
      | .next e2 p2 => mFor g body ds e2 p2
      | .cnt e2 p2 => mFor g body ds e2 p2
      | .brk e2 p2 => .next e2 p2
      | r => r
def sFor (m : M (List D)) (g : GT) (body : MS) : MS := fun e p => (m e p).st e fun ds p => mFor g body ds e p
theorem ms_for {t a : Expr} {m : M (List D)} {g : GT} {body : List Stmt} {mb : MS} {pos : Pos} (hp : PassesOwn (model z.X.prog z.X.w) z.X.A z.X.env z.X.xe) (hc : z.X.calm = true) {us : List Nat} (hi : MI z o t a m) (hg : MG z o t g o us) (hb : MSs { z with ob := o } o body mb o)
    (hs : ∀ x, foldedSetIterable a z.X.env x = pure x := by intro _; rfl) : MSt z o (.For t a body [] pos) (sFor m g mb) o :=
  ms_of (ps_for hp hc hi hg hb hs) fun D' σ H G e p S q => by
    unfold sFor at q
    refine ⟨G, e, p, S, (Cont.st q S).mono (fun ds p1 k J G1 H1 s1 S1 it => ?_) fun x p' k => k⟩
    refine ⟨fun i n σ' H' => n = ds.length - i ∧ i ≤ ds.length ∧ ∃ G' e' p', Same G1 G' ∧ SR z.X.K z.c z.H0 z.G0 z.pn o G' e' p' σ' H' ∧ PostS z o D' G' (mFor g mb (ds.drop i) e' p'), ⟨_, rfl, Nat.zero_le _, G1, e, p1, Same.refl _, S1, by rw [List.drop_zero]; exact k.mono s1⟩, ?_⟩
    rintro i n σ' H' ⟨rfl, hi, G', e', p', s2, S', q'⟩
    by_cases hlt : i < ds.length
    · right
      have hd : ds[i]? = some ds[i] := by simp [hlt]
      have hdrop : ds.drop i = ds[i] :: ds.drop (i + 1) := List.drop_eq_getElem_cons hlt
      rw [hdrop] at q'
      obtain ⟨go, yl⟩ := (it G' H' s2 S'.b.gh i).1 _ hd
      refine ⟨go, fun σ2 H2 => ∃ G2 e2 p2, Same G1 G2 ∧ SR z.X.K z.c z.H0 z.G0 z.pn o G2 e2 p2 σ2 H2 ∧ PostS z o D' G2 (mFor g mb (ds.drop (i + 1)) e2 p2), fun σ2 H2 h => ⟨ds.length - (i + 1), by omega, rfl, hlt, h⟩, fun x H'' y => ?_⟩
      have core : ∀ (G3 H3 : Hp), Same G' G3 → SR z.X.K z.c z.H0 z.G0 z.pn o G3 e' p' σ' H3 → Rep z.X.K z.c.ca G3 x ds[i] →
          RG z o o us g x σ' H3 fun σ2 H2 => RS { z with ob := o } o o mb { D' with nx := fun σ2 H2 => ∃ G2 e2 p2, Same G1 G2 ∧ SR z.X.K z.c z.H0 z.G0 z.pn o G2 e2 p2 σ2 H2 ∧ PostS z o D' G2 (mFor g mb (ds.drop (i + 1)) e2 p2), ct := fun σ2 H2 => ∃ G2 e2 p2, Same G1 G2 ∧ SR z.X.K z.c z.H0 z.G0 z.pn o G2 e2 p2 σ2 H2 ∧ PostS z o D' G2 (mFor g mb (ds.drop (i + 1)) e2 p2), bk := D'.nx } σ2 H2 := by
        intro G3 H3 s3 S3 r3
        have q3 := q'.mono s3
        unfold mFor at q3
        cases hg' : g ds[i] e' with
        | none => rw [hg'] at q3; exact q3.elim
        | some e3 =>
          rw [hg'] at q3
          refine ⟨G3, e', p', _, e3, S3, r3, hg', fun σ4 S4 _ _ => RS.iff.mpr ⟨G3, e3, p', S4, ?_⟩⟩
          dsimp only at q3
          cases hb' : mb e3 p' with
          | next e5 p5 =>
            rw [hb'] at q3
            exact fun σ5 G5 H5 s5 S5 => ⟨G5, e5, p5, (s2.trans s3).trans s5, S5, PostS.mono q3 s5⟩
          | cnt e5 p5 =>
            rw [hb'] at q3
            exact fun σ5 G5 H5 s5 S5 => ⟨G5, e5, p5, (s2.trans s3).trans s5, S5, PostS.mono q3 s5⟩
          | brk e5 p5 =>
            rw [hb'] at q3
            exact fun σ5 G5 H5 s5 S5 => q3 σ5 G5 H5 s5 S5
          | ret d p5 => rw [hb'] at q3; exact q3
          | err x e5 p5 => rw [hb'] at q3; exact q3
          | stuck => rw [hb'] at q3; exact q3
      rcases yl x H'' y with ⟨rfl, r⟩ | ⟨T, u, nT, hu, rfl, r⟩
      · exact core G' _ (Same.refl _) S' r
      · obtain ⟨S3, s3⟩ := S'.new nT hu
        exact core _ _ s3 S3 r
    · left
      have ei : i = ds.length := by omega
      subst ei
      rw [List.drop_length] at q'
      refine ⟨(it G' H' s2 S'.b.gh ds.length).2 (Nat.le_refl _), q' σ' G' H' (Same.refl _) S'⟩

/-! ### while -/
def mWhile (t : M Bool) (body : MS) : Nat → MS
  | 0 => fun _ _ => .stuck
  | n + 1 => fun e p => (t e p).st e fun b p => if b then match body e p with
      | .next e2 p2 => mWhile t body n e2 p2
      | .cnt e2 p2 => mWhile t body n e2 p2
      | .brk e2 p2 => .next e2 p2
      | r => r
    else .next e p
def sWhile (f : Env → Nat) (t : M Bool) (body : MS) : MS := fun e p => mWhile t body (f e) e p
theorem ms_while {c : Expr} {t : M Bool} {body : List Stmt} {mb : MS} {pos : Pos} (f : Env → Nat) (hp : PassesOwn (model z.X.prog z.X.w) z.X.A z.X.env z.X.xe) (hc : MT z o c t) (hb : MSs { z with ob := o } o body mb o) : MSt z o (.While c body [] pos) (sWhile f t mb) o :=
  ms_of (ps_while hp hc hb) fun D' σ H G e p S q => by
    refine ⟨fun n σ' H' => ∃ G' e' p', SR z.X.K z.c z.H0 z.G0 z.pn o G' e' p' σ' H' ∧ PostS z o D' G' (mWhile t mb n e' p'), ⟨_, G, e, p, S, q⟩, ?_⟩
    rintro n σ' H' ⟨G', e', p', S', q'⟩
    cases n with
    | zero => exact q'.elim
    | succ n =>
      unfold mWhile at q'
      refine ⟨G', e', p', S', (Cont.st q' S').mono (fun b p1 k G1 H1 s1 S1 => ?_) fun x p' k => k⟩
      cases b with
      | false =>
        rw [ite_f] at k
        show if false = true then _ else _
        rw [ite_f]
        exact k σ' G1 H1 s1 S1
      | true =>
        rw [ite_t] at k
        show if true = true then _ else _
        rw [ite_t]
        refine ⟨fun σ2 H2 => ∃ G2 e2 p2, SR z.X.K z.c z.H0 z.G0 z.pn o G2 e2 p2 σ2 H2 ∧ PostS z o D' G2 (mWhile t mb n e2 p2), fun σ2 H2 h => ⟨n, Nat.lt_succ_self n, h⟩, RS.iff.mpr ⟨G1, e', p1, S1, ?_⟩⟩
        have k2 := PostS.mono k s1
        cases hb' : mb e' p1 with
        | next e5 p5 =>
          rw [hb'] at k2
          exact fun σ5 G5 H5 s5 S5 => ⟨G5, e5, p5, S5, PostS.mono k2 s5⟩
        | cnt e5 p5 =>
          rw [hb'] at k2
          exact fun σ5 G5 H5 s5 S5 => ⟨G5, e5, p5, S5, PostS.mono k2 s5⟩
        | brk e5 p5 =>
          rw [hb'] at k2
          exact fun σ5 G5 H5 s5 S5 => k2 σ5 G5 H5 s5 S5
        | ret d p5 => rw [hb'] at k2; exact k2
        | err x e5 p5 => rw [hb'] at k2; exact k2
        | stuck => rw [hb'] at k2; exact k2
end
end Mz
/-! Mz, part h: stores into owned lists and dicts, comprehensions, defs and their calls. -/
namespace Mz
open PySem PySem.Spec PyProof.Rows L2
section
variable {z : Z} {o o1 o2 o3 : Own} {D' : Ends} {G G1 H : Hp} {e : Env} {p : Pen} {σ : L2.St} {r : SF} {a b : Expr} {ma mb : M D} {pos : Pos}

/-! ### what is held by an owned slot -/
theorem SR.lst (S : SR z.X.K z.c z.H0 z.G0 z.pn o G e p σ H) {j : Nat} {ds : List D} (he : e[j]? = some (some (.lst ds))) (hj : own o j = true) :
    ∃ l vs, σ[j]? = some (some (.ref l)) ∧ H l = some (.lst vs) ∧ Reps z.X.K z.c.ca G vs ds ∧ ∀ vs' ds', Reps z.X.K z.c.ca G vs' ds' → SR z.X.K z.c z.H0 z.G0 z.pn o G (e.set j (some (.lst ds'))) p σ (upd H l (.lst vs')) := by
  obtain ⟨l, h1, ⟨vs, h2, h3⟩, _⟩ := S.ow j _ he hj rfl
  exact ⟨l, vs, h1, h2, h3, fun vs' ds' r => S.turn he hj rfl h1 ⟨vs', upd_same, r⟩⟩
theorem SR.dK (S : SR z.X.K z.c z.H0 z.G0 z.pn o G e p σ H) {j : Nat} {ds : List (Key × D)} (he : e[j]? = some (some (.dK ds))) (hj : own o j = true) :
    ∃ l vs, σ[j]? = some (some (.ref l)) ∧ H l = some (.dK vs) ∧ RepK z.X.K z.c.ca G vs ds ∧ ∀ vs' ds', RepK z.X.K z.c.ca G vs' ds' → SR z.X.K z.c z.H0 z.G0 z.pn o G (e.set j (some (.dK ds'))) p σ (upd H l (.dK vs')) := by
  obtain ⟨l, h1, ⟨vs, h2, h3⟩, _⟩ := S.ow j _ he hj rfl
  exact ⟨l, vs, h1, h2, h3, fun vs' ds' r => S.turn he hj rfl h1 ⟨vs', upd_same, r⟩⟩
theorem SR.dT (S : SR z.X.K z.c z.H0 z.G0 z.pn o G e p σ H) {j : Nat} {ds : List (List Key × D)} (he : e[j]? = some (some (.dT ds))) (hj : own o j = true) :
    ∃ l vs, σ[j]? = some (some (.ref l)) ∧ H l = some (.dT vs) ∧ RepT z.X.K z.c.ca G vs ds ∧ ∀ vs' ds', RepT z.X.K z.c.ca G vs' ds' → SR z.X.K z.c z.H0 z.G0 z.pn o G (e.set j (some (.dT ds'))) p σ (upd H l (.dT vs')) := by
  obtain ⟨l, h1, ⟨vs, h2, h3⟩, _⟩ := S.ow j _ he hj rfl
  exact ⟨l, vs, h1, h2, h3, fun vs' ds' r => S.turn he hj rfl h1 ⟨vs', upd_same, r⟩⟩

/-! ### name[i] = e, a list -/
def sSetL (j : Nat) (mi m : M D) : MS := fun e p => (m e p).st e fun d p => match e[j]? with
  | some (some (.lst ds)) => (mi e p).st e fun di p => match di with
    | .int k => match ixN ds.length k with
      | some n => .next (e.set j (some (.lst (ds.set n d)))) p
      | none => .stuck
    | _ => .stuck
  | _ => .stuck
theorem ms_setL (j : Nat) {x : Str} {px ps : Pos} (hj : own o j = true) (hi : ME z o .bor b mb) (h : ME z o .fro a ma) (hN : z.X.N[j]? = some x := by rfl) (hv : Vis z.X.env.scope x := by first | exact Or.inl rfl | exact Or.inr (Or.inl rfl))
    (hd : (x == ("__debug__" : Str)) = false := by decide) (hcd : (x == ("__classdict__" : Str)) = false := by decide)
    (hs : swapsWithSole [.Subscript (.Name x px) b ps] a pos.line z.X.env = pure false := by rfl) (hw : swappedStores [.Subscript (.Name x px) b ps] a z.X.env = pure none := by rfl)
    (h1 : (assignEach [.Subscript (.Name x px) b ps] z.X.env).map (·.2) = [assign (.Subscript (.Name x px) b ps) z.X.env] := by rfl)
    (ha : ∀ v, assign (.Subscript (.Name x px) b ps) z.X.env v = (do
      let ov ← holding [v] (eval (.Name x px) z.X.env)
      let iv ← holding [v, ov] (eval b z.X.env)
      standAt ps
      holding [v, ov, iv] (setItem ov iv v)
      release [v, ov, iv] []) := by intro _; rfl) : MSt z o (.Assign [.Subscript (.Name x px) b ps] a pos) (sSetL j mb ma) o :=
  ms_of (ps_asg h (pg_sub (pe_var hN hv hd hcd) hi set_list ha) hs hw h1) fun D' σ H G e p S q => by
    unfold sSetL at q
    refine ⟨G, e, p, S, (Cont.st q S).mono (fun d p1 k v G1 H1 s1 S1 l1 => ?_) fun x p' k => k⟩
    have k' := PostS.mono k s1
    split at k'
    · rename_i ds he
      obtain ⟨l, _, g1, _⟩ := S1.lst he hj
      refine ⟨_, g1, G1, e, p1, S1, (Cont.st k' S1).mono (fun di p2 k2 vi G2 H2 s2 S2 l2 => ?_) fun x p' k cls dd G' H' s S' => k cls dd G' H' s S'⟩
      cases di with
      | int n0 =>
        dsimp only at k2
        split at k2
        · rename_i n hn
          obtain ⟨l', vs, g1', g2, g3, g4⟩ := S2.lst he hj
          have el : l' = l := by rw [g1] at g1'; cases g1'; rfl
          subst el
          refine ⟨l', vs, n0, n, rfl, l2.int, g2, by rw [g3.len]; exact hn, k2 σ G2 _ s2 (g4 _ _ (g3.set (Rep.mono s2 l1) n))⟩
        · exact k2.elim
      | _ => exact k2.elim
    · exact k'.elim
/-- name.append(e) -/
def sApp (j : Nat) (m : M D) : MS := fun e p => match e[j]? with
  | some (some (.lst ds)) => (m e p).st e fun d p => if ds.length < sizeLine then .next (e.set j (some (.lst (ds ++ [d])))) p else .stuck
  | _ => .stuck
theorem ms_app (j : Nat) {x : Str} {px ap cp : Pos} (hj : own o j = true) (h : ME z o .fro a ma) (hN : z.X.N[j]? = some x := by rfl) (hv : Vis z.X.env.scope x := by first | exact Or.inl rfl | exact Or.inr (Or.inl rfl))
    (hd : (x == ("__debug__" : Str)) = false := by decide) (hcd : (x == ("__classdict__" : Str)) = false := by decide)
    (hn : starEach (a :: []) z.X.env = (false, eval a z.X.env) :: starEach [] z.X.env := by rfl)
    (hbase : attributeBase (.Name x px) "append" z.X.env (eval (.Name x px) z.X.env) = eval (.Name x px) z.X.env := by rfl)
    (hfew : ((backTo cp (starEach (a :: []) z.X.env)).all (fun x => !x.1) && (backToKw cp (keywordEach [] z.X.env)).all (fun x => x.1.isSome)
      && decide ((a :: []).length + ([] : List Keyword).length + (if ([] : List Keyword).isEmpty then 0 else 1) < 30)) = true := by rfl)
    (hline : (ap.endLine == cp.line) = true := by rfl)
    (hs : swapsWith (.Call (.Attribute (.Name x px) "append" ap) [a] [] cp) none pos.line z.X.env = pure false := by rfl) : MSt z o (.Expr (.Call (.Attribute (.Name x px) "append" ap) [a] [] cp) pos) (sApp j ma) o :=
  ms_of (ps_expr (pe_bm PySem.F.plainAttrs_list PySem.F.slot_list_append PySem.F.type_list_append mt_append (pe_var hN hv hd hcd) (pa_cons h pa_nil hn) hbase hfew hline hn) hs) fun D' σ H G e p S q => by
    unfold sApp at q
    split at q
    · rename_i ds he
      obtain ⟨l, vs, g1, g2, _⟩ := S.lst he hj
      refine ⟨_, g1, .inl ⟨rfl, vs, SqL.of g2⟩, G, e, p, S, (Cont.st q S).mono (fun d p1 k v G1 H1 s1 S1 l1 => ?_) fun x p' k => k⟩
      split at k
      · rename_i hl
        obtain ⟨l', vs', g1', g2', g3', g4⟩ := S1.lst he hj
        have el : l' = l := by rw [g1] at g1'; cases g1'; rfl
        subst el
        exact ⟨l', vs', v, rfl, rfl, g2', by rw [g3'.len]; exact hl, k σ G1 _ s1 (g4 _ _ (g3'.app (.cons l1 .nil)))⟩
      · exact k.elim
    · exact q.elim
/-- x = name.pop() -/
def sPopSet (i j : Nat) : MS := fun e p => match e[j]? with
  | some (some (.lst ds)) => match ds.getLast? with
    | some d => .next ((e.set j (some (.lst ds.dropLast))).set i (some d)) p
    | none => .stuck
  | _ => .stuck
theorem Reps.last {K : PySem.W.Frag} {ca : CA} {G : Hp} {vs : List V} {ds : List D} {d : D} (r : Reps K ca G vs ds) (h : ds.getLast? = some d) : ∃ v, vs[vs.length - 1]? = some v ∧ Rep K ca G v d := by
  rw [List.getLast?_eq_getElem?] at h
  obtain ⟨v, h1, h2⟩ := r.get h
  exact ⟨v, by rw [r.len]; exact h1, h2⟩
theorem ms_popSet (i j : Nat) {x y : Str} {px py ap cp : Pos} (hj : own o j = true) (hij : i ≠ j) (hN : z.X.N.Nodup) (hi : z.X.N[i]? = some y := by rfl) (hy : Loc z.X.env.scope y := by first | exact Or.inl rfl | exact Or.inr rfl)
    (hjN : z.X.N[j]? = some x := by rfl) (hv : Vis z.X.env.scope x := by first | exact Or.inl rfl | exact Or.inr (Or.inl rfl))
    (hd : (x == ("__debug__" : Str)) = false := by decide) (hcd : (x == ("__classdict__" : Str)) = false := by decide)
    (hbase : attributeBase (.Name x px) "pop" z.X.env (eval (.Name x px) z.X.env) = eval (.Name x px) z.X.env := by rfl) (hline : (ap.endLine == cp.line) = true := by rfl)
    (hs : swapsWith (.Call (.Attribute (.Name x px) "pop" ap) [] [] cp) (some (.Name y py)) pos.line z.X.env = pure false := by rfl)
    (hf : z.X.fn y = true ∨ z.X.env.scope.names.lookup y = some .local := by first | exact .inl rfl | exact .inr rfl | assumption) :
    MSt z o (.Assign [.Name y py] (.Call (.Attribute (.Name x px) "pop" ap) [] [] cp) pos) (sPopSet i j) (o.set i false) :=
  ms_of (ps_set hN hi hy (pe_bm0 PySem.F.plainAttrs_list PySem.F.slot_list_pop PySem.F.type_list_pop mt_pop (pe_var hjN hv hd hcd) hbase hline) hs hf) fun D' σ H G e p S q => by
    unfold sPopSet at q
    split at q
    · rename_i ds he
      split at q
      · rename_i d hl
        obtain ⟨l, vs, g1, g2, g3, g4⟩ := S.lst he hj
        obtain ⟨v, f1, f2⟩ := g3.last hl
        refine ⟨_, g1, .inl ⟨rfl, vs, SqL.of g2⟩, l, vs, v, rfl, rfl, g2, f1, ?_⟩
        exact q _ G _ (Same.refl _) ((g4 _ _ g3.dropLast).put f2)
      · exact q.elim
    · exact q.elim

/-! ### dicts -/
def toKey : D → Option Key
  | .int i => some (.inl i)
  | .str x => some (.inr x)
  | _ => none
def toKeys : List D → Option (List Key)
  | [] => some []
  | d :: r => match toKey d with
    | some k => match toKeys r with
      | some l => some (k :: l)
      | none => none
    | none => none
theorem toKey_v {K : PySem.W.Frag} {ca : CA} {G : Hp} {v : V} {d : D} {k : Key} (r : Rep K ca G v d) (h : toKey d = some k) : v = kV k := by
  cases d with
  | int i => cases h; cases r; rfl
  | str i => cases h; cases r; rfl
  | _ => cases h
theorem toKeys_v {K : PySem.W.Frag} {ca : CA} {G : Hp} : ∀ {vs : List V} {ds : List D} {ks : List Key}, Reps K ca G vs ds → toKeys ds = some ks → vs = ks.map kV
  | _, _, _, .nil, h => by cases h; rfl
  | _, _, _, .cons a r, h => by
    unfold toKeys at h
    split at h
    · rename_i k q
      split at h
      · rename_i l q2
        cases h
        rw [List.map_cons, toKey_v a q, toKeys_v r q2]
      · cases h
    · cases h
def lookKV {κ : Type} [DecidableEq κ] (kvs : List (κ × D)) (k : κ) : Option D := (kvs.find? fun kv => decide (kv.1 = k)).map (·.2)
def putKD {κ : Type} [DecidableEq κ] (kvs : List (κ × D)) (k : κ) (v : D) : List (κ × D) :=
  if (kvs.any fun kv => decide (kv.1 = k)) = true then kvs.map (fun kv => if kv.1 = k then (kv.1, v) else kv) else kvs ++ [(k, v)]
theorem RepK.len {K : PySem.W.Frag} {ca : CA} {G : Hp} : ∀ {vs : List (Key × V)} {ds : List (Key × D)}, RepK K ca G vs ds → vs.length = ds.length
  | _, _, .nil => rfl
  | _, _, .cons _ r => by rw [List.length_cons, List.length_cons, r.len]
theorem RepT.len {K : PySem.W.Frag} {ca : CA} {G : Hp} : ∀ {vs : List (List Key × V)} {ds : List (List Key × D)}, RepT K ca G vs ds → vs.length = ds.length
  | _, _, .nil => rfl
  | _, _, .cons _ r => by rw [List.length_cons, List.length_cons, r.len]
theorem RepK.any {K : PySem.W.Frag} {ca : CA} {G : Hp} {k : Key} : ∀ {vs : List (Key × V)} {ds : List (Key × D)}, RepK K ca G vs ds → (vs.any fun kv => decide (kv.1 = k)) = (ds.any fun kv => decide (kv.1 = k))
  | _, _, .nil => rfl
  | _, _, .cons _ r => by rw [List.any_cons, List.any_cons, r.any]
theorem RepT.any {K : PySem.W.Frag} {ca : CA} {G : Hp} {k : List Key} : ∀ {vs : List (List Key × V)} {ds : List (List Key × D)}, RepT K ca G vs ds → (vs.any fun kv => decide (kv.1 = k)) = (ds.any fun kv => decide (kv.1 = k))
  | _, _, .nil => rfl
  | _, _, .cons _ r => by rw [List.any_cons, List.any_cons, r.any]
theorem RepK.look {K : PySem.W.Frag} {ca : CA} {G : Hp} {k : Key} : ∀ {vs : List (Key × V)} {ds : List (Key × D)}, RepK K ca G vs ds → (lookKV ds k = none ∧ valV vs k = none) ∨ ∃ v d, lookKV ds k = some d ∧ valV vs k = some v ∧ Rep K ca G v d
  | _, _, .nil => .inl ⟨rfl, rfl⟩
  | _, _, .cons (k := k') (v := v) (d := d) a r => by
    by_cases h : k' = k
    · subst h
      exact .inr ⟨v, d, by simp [lookKV], by simp [valV], a⟩
    · rcases RepK.look (k := k) r with ⟨h1, h2⟩ | ⟨v, d, h1, h2, h3⟩
      · exact .inl ⟨by unfold lookKV at h1 ⊢; rw [List.find?_cons]; simpa [h] using h1, by rw [valV_neg (by exact h)]; exact h2⟩
      · exact .inr ⟨v, d, by unfold lookKV at h1 ⊢; rw [List.find?_cons]; simpa [h] using h1, by rw [valV_neg (by exact h)]; exact h2, h3⟩
theorem RepT.look {K : PySem.W.Frag} {ca : CA} {G : Hp} {k : List Key} : ∀ {vs : List (List Key × V)} {ds : List (List Key × D)}, RepT K ca G vs ds → (lookKV ds k = none ∧ valV vs k = none) ∨ ∃ v d, lookKV ds k = some d ∧ valV vs k = some v ∧ Rep K ca G v d
  | _, _, .nil => .inl ⟨rfl, rfl⟩
  | _, _, .cons (k := k') (v := v) (d := d) a r => by
    by_cases h : k' = k
    · subst h
      exact .inr ⟨v, d, by simp [lookKV], by simp [valV], a⟩
    · rcases RepT.look (k := k) r with ⟨h1, h2⟩ | ⟨v, d, h1, h2, h3⟩
      · exact .inl ⟨by unfold lookKV at h1 ⊢; rw [List.find?_cons]; simpa [h] using h1, by rw [valV_neg (by exact h)]; exact h2⟩
      · exact .inr ⟨v, d, by unfold lookKV at h1 ⊢; rw [List.find?_cons]; simpa [h] using h1, by rw [valV_neg (by exact h)]; exact h2, h3⟩
theorem RepK.mapPut {K : PySem.W.Frag} {ca : CA} {G : Hp} {k : Key} {v : V} {d : D} (q : Rep K ca G v d) : ∀ {vs : List (Key × V)} {ds : List (Key × D)}, RepK K ca G vs ds → RepK K ca G (vs.map fun kv => if kv.1 = k then (kv.1, v) else kv) (ds.map fun kv => if kv.1 = k then (kv.1, d) else kv)
  | _, _, .nil => .nil
  | _, _, .cons (k := k') a r => by
    rw [List.map_cons, List.map_cons]
    by_cases h : k' = k
    · simp only [h, if_true]
      exact .cons q (r.mapPut q)
    · simp only [h, if_false]
      exact .cons a (r.mapPut q)
theorem RepT.mapPut {K : PySem.W.Frag} {ca : CA} {G : Hp} {k : List Key} {v : V} {d : D} (q : Rep K ca G v d) : ∀ {vs : List (List Key × V)} {ds : List (List Key × D)}, RepT K ca G vs ds → RepT K ca G (vs.map fun kv => if kv.1 = k then (kv.1, v) else kv) (ds.map fun kv => if kv.1 = k then (kv.1, d) else kv)
  | _, _, .nil => .nil
  | _, _, .cons (k := k') a r => by
    rw [List.map_cons, List.map_cons]
    by_cases h : k' = k
    · simp only [h, if_true]
      exact .cons q (r.mapPut q)
    · simp only [h, if_false]
      exact .cons a (r.mapPut q)
theorem RepK.app {K : PySem.W.Frag} {ca : CA} {G : Hp} : ∀ {vs vs' : List (Key × V)} {ds ds' : List (Key × D)}, RepK K ca G vs ds → RepK K ca G vs' ds' → RepK K ca G (vs ++ vs') (ds ++ ds')
  | _, _, _, _, .nil, s => s
  | _, _, _, _, .cons h r, s => .cons h (r.app s)
theorem RepT.app {K : PySem.W.Frag} {ca : CA} {G : Hp} : ∀ {vs vs' : List (List Key × V)} {ds ds' : List (List Key × D)}, RepT K ca G vs ds → RepT K ca G vs' ds' → RepT K ca G (vs ++ vs') (ds ++ ds')
  | _, _, _, _, .nil, s => s
  | _, _, _, _, .cons h r, s => .cons h (r.app s)
theorem RepK.put {K : PySem.W.Frag} {ca : CA} {G : Hp} {k : Key} {v : V} {d : D} {vs : List (Key × V)} {ds : List (Key × D)} (r : RepK K ca G vs ds) (q : Rep K ca G v d) : RepK K ca G (putK vs k v) (putKD ds k d) := by
  unfold putK putKD
  rw [r.any]
  split
  · exact r.mapPut q
  · exact r.app (.cons q .nil)
theorem RepT.put {K : PySem.W.Frag} {ca : CA} {G : Hp} {k : List Key} {v : V} {d : D} {vs : List (List Key × V)} {ds : List (List Key × D)} (r : RepT K ca G vs ds) (q : Rep K ca G v d) : RepT K ca G (putK vs k v) (putKD ds k d) := by
  unfold putK putKD
  rw [r.any]
  split
  · exact r.mapPut q
  · exact r.app (.cons q .nil)
/-- {} -/
theorem me_dnewK : ME z o .fre (.Dict [] [] pos) (mC (.dK [])) := PE.imp pe_dnewK fun σ H Q ⟨G, e, p, S, q⟩ => fun a n => by
  refine q _ G _ (Same.refl _) (S.newH n) ?_
  unfold Lies
  rw [if_pos (show IsMut (.dK []) = true from rfl)]
  refine ⟨a, rfl, ⟨[], upd_same, .nil⟩, S.b.st a n, S.b.gh.free n, fun z => ?_, fun h => ?_⟩
  · obtain ⟨_, q⟩ := S.b.paH
    rw [z, q] at n; cases n
  · obtain ⟨⟨u, hu, _⟩, _⟩ := S.priv h
    rw [n] at hu; cases hu
theorem me_dnewT : ME z o .fre (.Dict [] [] pos) (mC (.dT [])) := PE.imp pe_dnewT fun σ H Q ⟨G, e, p, S, q⟩ => fun a n => by
  refine q _ G _ (Same.refl _) (S.newH n) ?_
  unfold Lies
  rw [if_pos (show IsMut (.dT []) = true from rfl)]
  refine ⟨a, rfl, ⟨[], upd_same, .nil⟩, S.b.st a n, S.b.gh.free n, fun z => ?_, fun h => ?_⟩
  · obtain ⟨_, q⟩ := S.b.paH
    rw [z, q] at n; cases n
  · obtain ⟨⟨u, hu, _⟩, _⟩ := S.priv h
    rw [n] at hu; cases hu
/-- what a dict holds under a key; none: no key -/
def dLook (x y : D) : Option (Option D) := match x with
  | .dK kvs => (toKey y).map fun k => lookKV kvs k
  | .dT kvs => match y with
    | .tup ds => (toKeys ds).map fun k => lookKV kvs k
    | _ => none
  | _ => none
theorem Lies.dT {K : PySem.W.Frag} {c : Cfg} {H0 G0 : Hp} {pn : Pins} {o : Own} {G : Hp} {e : Env} {p : Pen} {σ : L2.St} {H : Hp} {v : V} {ds : List (List Key × D)} (S : SR K c H0 G0 pn o G e p σ H) (h : Lies K c H0 pn o G e σ H v (.dT ds) .bor) : ∃ a vs, v = .ref a ∧ H a = some (.dT vs) ∧ RepT K c.ca G vs ds := by
  rcases h with h | ⟨i, oi, m, he, hs⟩
  · cases h with
    | dT h1 h2 => exact ⟨_, _, rfl, S.b.gh _ _ h1, h2⟩
  · obtain ⟨l, h1, ⟨vs, h2, h3⟩, _⟩ := S.ow i _ he oi m
    rw [hs] at h1
    cases h1
    exact ⟨l, vs, rfl, h2, h3⟩
theorem look_of {K : PySem.W.Frag} {c : Cfg} {H0 G0 : Hp} {pn : Pins} {o : Own} {G : Hp} {e : Env} {p : Pen} {σ : L2.St} {H : Hp} {x y : V} {dx dy : D} {r : Option D} (S : SR K c H0 G0 pn o G e p σ H) (lx : Lies K c H0 pn o G e σ H x dx .bor) (ly : Lies K c H0 pn o G e σ H y dy .bor)
    (h : dLook dx dy = some r) : ∃ a ov, x = .ref a ∧ DGet H a y ov ∧ ((r = none ∧ ov = none) ∨ ∃ v d, r = some d ∧ ov = some v ∧ Rep K c.ca G v d) := by
  cases dx with
  | dK kvs =>
    obtain ⟨a, vs, rfl, h1, h2⟩ := lx.dK S
    obtain ⟨k, hk, hr⟩ := Option.map_eq_some_iff.mp h
    have ey : y = kV k := by
      refine toKey_v (ly.flat ?_) hk
      cases dy <;> first | rfl | (exfalso; simp [toKey] at hk)
    refine ⟨a, valV vs k, rfl, by rw [ey]; exact DGet.k h1, ?_⟩
    subst hr
    exact h2.look
  | dT kvs =>
    obtain ⟨a, vs, rfl, h1, h2⟩ := Lies.dT S lx
    cases dy with
    | tup ds =>
      obtain ⟨k, hk, hr⟩ := Option.map_eq_some_iff.mp h
      obtain ⟨b, ws, rfl, g1, g2⟩ := ly.tupG
      refine ⟨a, valV vs k, rfl, DGet.t h1 (by rw [← toKeys_v g2 hk]; exact S.b.gh _ _ g1), ?_⟩
      subst hr
      exact h2.look
    | _ => cases h
  | _ => cases h
def dGet (x y : D) : Option D := (dLook x y).bind id
def dIn (y x : D) : Option D := (dLook x y).map fun r => .bl r.isSome
def dNotIn (y x : D) : Option D := (dLook x y).map fun r => .bl (!r.isSome)
theorem me_dget (hu : z.X.A.units + 1 < cLine) (ha : ME z o .bor a ma) (hb : ME z o .bor b mb) (hs : NoSl b := by exact fun _ _ => rfl) : ME z o .fro (.Subscript a b pos) (mBin dGet ma mb) :=
  PE.imp (pe_dget hu ha hb hs) fun σ H Q ⟨G, e, p, S, q⟩ => by
    unfold mBin at q
    rw [Cont.bind] at q
    refine ⟨G, e, p, S, q.mono (fun d1 p1 k1 v1 G1 H1 s1 S1 l1 => ?_) fun x p' k => k⟩
    rw [Cont.bind] at k1
    refine ⟨G1, e, p1, S1, k1.mono (fun d2 p2 k2 v2 G2 H2 s2 S2 l2 => ?_) fun x p' k cls dd G' H' s S' => k cls dd G' H' (s1.trans s) S'⟩
    obtain ⟨d, hd, k⟩ := k2.lift
    obtain ⟨r, hr, hd⟩ := Option.bind_eq_some_iff.mp hd
    have hd : r = some d := hd
    subst hd
    obtain ⟨a, ov, ex, g, h⟩ := look_of S2 (Lies.bor_move (H' := H2) s2 l1) l2 hr
    rcases h with ⟨h, _⟩ | ⟨v, d', h1, h2, h3⟩
    · cases h
    · cases h1
      subst h2
      exact ⟨a, v, ex, g, k v G2 H2 (s1.trans s2) S2 h3⟩
theorem RE.din {neg : Bool} {f : D → D → Option D} (hf : ∀ x y, f y x = (dLook x y).map fun r => .bl (if neg then !r.isSome else r.isSome)) {σ : L2.St} {H : Hp} {Q : VK} (h : RE z o .fre (mBin f ma mb) σ H Q) :
    RE z o .bor ma σ H fun y H1 => RE z o .bor mb σ H1 fun x H2 => ∃ a o', x = .ref a ∧ DGet H2 a y o' ∧ Q (.bl (if neg then !o'.isSome else o'.isSome)) H2 := by
  obtain ⟨G, e, p, S, q⟩ := h
  unfold mBin at q
  rw [Cont.bind] at q
  refine ⟨G, e, p, S, q.mono (fun d1 p1 k1 v1 G1 H1 s1 S1 l1 => ?_) fun x p' k => k⟩
  rw [Cont.bind] at k1
  refine ⟨G1, e, p1, S1, k1.mono (fun d2 p2 k2 v2 G2 H2 s2 S2 l2 => ?_) fun x p' k cls dd G' H' s S' => k cls dd G' H' (s1.trans s) S'⟩
  obtain ⟨d, hd, k⟩ := k2.lift
  rw [hf] at hd
  obtain ⟨r, hr, hd2⟩ := Option.map_eq_some_iff.mp hd
  subst hd2
  obtain ⟨a, ov, ex, g, h⟩ := look_of S2 l2 (Lies.bor_move (H' := H2) s2 l1) hr
  have er : ov.isSome = r.isSome := by
    rcases h with ⟨h1, h2⟩ | ⟨v, d', h1, h2, _⟩
    · rw [h1, h2]; rfl
    · rw [h1, h2]; rfl
  refine ⟨a, ov, ex, g, ?_⟩
  rw [er]
  exact k _ G2 H2 (s1.trans s2) S2 (Flat.lies (v := .bl _) (d := .bl _) rfl)
theorem me_din (hu : z.X.A.units + 1 < cLine) (ha : ME z o .bor a ma) (hb : ME z o .bor b mb) (h1 : behindInMarks .In b = false := by rfl) : ME z o .fre (.Compare a [.In] [b] pos) (mBin dIn ma mb) :=
  PE.imp (pe_cmp (pc_din hu ha hb) h1) fun σ H Q h => RE.din (neg := false) (fun _ _ => rfl) h
theorem me_dnotin (hu : z.X.A.units + 1 < cLine) (ha : ME z o .bor a ma) (hb : ME z o .bor b mb) (h1 : behindInMarks .NotIn b = false := by rfl) : ME z o .fre (.Compare a [.NotIn] [b] pos) (mBin dNotIn ma mb) :=
  PE.imp (pe_cmp (pc_dnotin hu ha hb) h1) fun σ H Q h => RE.din (neg := true) (fun _ _ => rfl) h
theorem mt_din (hu : z.X.A.units + 1 < cLine) (ha : ME z o .bor a ma) (hb : ME z o .bor b mb) (h1 : behindInMarks .In b = false := by rfl) : MT z o (.Compare a [.In] [b] pos) (tBl (mBin dIn ma mb)) :=
  PT.imp (pt_cmp (pc_din hu ha hb) h1) fun σ H Q h => RE.din (neg := false) (fun _ _ => rfl) (RT.of h)
theorem mt_dnotin (hu : z.X.A.units + 1 < cLine) (ha : ME z o .bor a ma) (hb : ME z o .bor b mb) (h1 : behindInMarks .NotIn b = false := by rfl) : MT z o (.Compare a [.NotIn] [b] pos) (tBl (mBin dNotIn ma mb)) :=
  PT.imp (pt_cmp (pc_dnotin hu ha hb) h1) fun σ H Q h => RE.din (neg := true) (fun _ _ => rfl) (RT.of h)
/-- name[i] = e, a dict -/
def sSetD (j : Nat) (mi m : M D) : MS := fun e p => (m e p).st e fun d p => match e[j]? with
  | some (some (.dK kvs)) => (mi e p).st e fun di p => match toKey di with
    | some k => if kvs.length < sizeLine then .next (e.set j (some (.dK (putKD kvs k d)))) p else .stuck
    | none => .stuck
  | some (some (.dT kvs)) => (mi e p).st e fun di p => match di with
    | .tup ks => match toKeys ks with
      | some k => if kvs.length < sizeLine then .next (e.set j (some (.dT (putKD kvs k d)))) p else .stuck
      | none => .stuck
    | _ => .stuck
  | _ => .stuck
theorem ms_setD (j : Nat) {x : Str} {px ps : Pos} (hu : z.X.A.units + 1 < cLine) (hj : own o j = true) (hi : ME z o .fro b mb) (h : ME z o .fro a ma) (hN : z.X.N[j]? = some x := by rfl) (hv : Vis z.X.env.scope x := by first | exact Or.inl rfl | exact Or.inr (Or.inl rfl))
    (hd : (x == ("__debug__" : Str)) = false := by decide) (hcd : (x == ("__classdict__" : Str)) = false := by decide)
    (hs : swapsWith a (some (.Subscript (.Name x px) b ps)) pos.line z.X.env = pure false := by rfl) : MSt z o (.Assign [.Subscript (.Name x px) b ps] a pos) (sSetD j mb ma) o :=
  ms_of (ps_dput hu (pe_var hN hv hd hcd) hi h hs) fun D' σ H G e p S q => by
    unfold sSetD at q
    refine ⟨G, e, p, S, (Cont.st q S).mono (fun d p1 k v G1 H1 s1 S1 l1 => ?_) fun x p' k => k⟩
    have k' := PostS.mono k s1
    split at k'
    · rename_i kvs he
      obtain ⟨l, _, g1, _⟩ := S1.dK he hj
      refine ⟨_, g1, G1, e, p1, S1, (Cont.st k' S1).mono (fun di p2 k2 vi G2 H2 s2 S2 l2 => ?_) fun x p' k cls dd G' H' s S' => k cls dd G' H' s S'⟩
      split at k2
      · rename_i kk hk
        split at k2
        · rename_i hl
          obtain ⟨l', vs, g1', g2, g3, g4⟩ := S2.dK he hj
          have el : l' = l := by rw [g1] at g1'; cases g1'; rfl
          subst el
          have ey := toKey_v l2 hk
          subst ey
          exact ⟨l', _, rfl, DPut.k g2 (by rw [g3.len]; exact hl), k2 σ G2 _ s2 (g4 _ _ (g3.put (Rep.mono s2 l1)))⟩
        · exact k2.elim
      · exact k2.elim
    · rename_i kvs he
      obtain ⟨l, _, g1, _⟩ := S1.dT he hj
      refine ⟨_, g1, G1, e, p1, S1, (Cont.st k' S1).mono (fun di p2 k2 vi G2 H2 s2 S2 l2 => ?_) fun x p' k cls dd G' H' s S' => k cls dd G' H' s S'⟩
      cases di with
      | tup ks =>
        dsimp only at k2
        split at k2
        · rename_i kk hk
          split at k2
          · rename_i hl
            obtain ⟨l', vs, g1', g2, g3, g4⟩ := S2.dT he hj
            have el : l' = l := by rw [g1] at g1'; cases g1'; rfl
            subst el
            cases l2 with
            | tup f1 f2 =>
              exact ⟨l', _, rfl, DPut.t g2 (by rw [← toKeys_v f2 hk]; exact S2.b.gh _ _ f1) (by rw [g3.len]; exact hl), k2 σ G2 _ s2 (g4 _ _ (g3.put (Rep.mono s2 l1)))⟩
          · exact k2.elim
        · exact k2.elim
      | _ => exact k2.elim
    · exact k'.elim
end
end Mz
/-! Mz, part i: comprehensions, defs and their calls. -/
namespace Mz
open PySem PySem.Spec PyProof.Rows L2
section
variable {K : PySem.W.Frag} {c : Cfg} {H0 G0 G G1 G2 H H1 H2 : Hp} {pn : Pins} {o : Own} {e : Env} {p p1 p2 : Pen} {σ : L2.St}
/-- the context holds one thing more -/
theorem SR.pin (S : SR K c H0 G0 pn o G e p σ H) {a : Addr} {u : HO} (h : H a = some u) (hd : isDat u) (hG : G a = none) (hp : a ≠ c.pa) (hn : ¬ Priv pn o e σ a) : SR K c H0 G0 ((a, u) :: pn) o G e p σ H :=
  ⟨S.b, S.len, S.fz, S.ow, S.ne, fun q hq => by
    rcases List.mem_cons.mp hq with e' | hq
    · subst e'
      exact ⟨h, hd, hG, hp, fun i d h1 h2 h3 h4 => hn (.inl ⟨i, d, h1, h2, h3, h4⟩)⟩
    · exact S.pi q hq⟩
theorem SR.unpin {q : Addr × HO} (S : SR K c H0 G0 (q :: pn) o G e p σ H) : SR K c H0 G0 pn o G e p σ H ∧ H q.1 = some q.2 ∧ isDat q.2 ∧ G q.1 = none :=
  ⟨⟨S.b, S.len, S.fz, S.ow, S.ne, fun r hr => S.pi r (List.mem_cons_of_mem _ hr)⟩, (S.pi q List.mem_cons_self).1, (S.pi q List.mem_cons_self).2.1, (S.pi q List.mem_cons_self).2.2.1⟩
/-- the block's own slots, as they were ahead -/
theorem SR.unwipe {vs : List Nat} (S1 : SR K c H0 G0 pn o G1 e p1 σ H1) (S2 : SR K c H0 G0 pn o G2 (wipeE e vs) p2 (wipe σ vs) H2) (s : Same G1 G2) (hv : ∀ j ∈ vs, own o j = false) : SR K c H0 G0 pn o G2 e p2 σ H2 := by
  have wg : ∀ j, j ∉ vs → (wipeE e vs)[j]? = e[j]? := fun j hj => by
    induction vs with
    | nil => rfl
    | cons v vs ih =>
      simp only [List.mem_cons, not_or] at hj
      unfold wipeE
      rw [List.getElem?_set_ne (Ne.symm hj.1)]
      clear ih S2
      have : ∀ vs : List Nat, j ∉ vs → (wipeE e vs)[j]? = e[j]? := fun vs => by
        induction vs with
        | nil => intro _; rfl
        | cons w ws ih =>
          intro h
          simp only [List.mem_cons, not_or] at h
          unfold wipeE
          rw [List.getElem?_set_ne (Ne.symm h.1), ih h.2]
      exact this vs hj.2
  have nv : ∀ j, own o j = true → j ∉ vs := fun j h hj => by rw [hv j hj] at h; cases h
  refine ⟨S2.b, S1.len, fun j d h q => ?_, fun j d h q m => ?_, fun j k d1 d2 a1 a2 q1 q2 m1 m2 hjk => S1.ne j k d1 d2 a1 a2 q1 q2 m1 m2 hjk, fun q hq => ?_⟩
  · by_cases hj : j ∈ vs
    · obtain ⟨v, h1, h2⟩ := S1.fz j d h (.inl (hv j hj))
      exact ⟨v, h1, h2.mono s⟩
    · have := S2.fz j d (by rw [wg j hj]; exact h) q
      rw [wipe_get hj] at this
      exact this
  · have hj := nv j q
    have := S2.ow j d (by rw [wg j hj]; exact h) q m
    rw [wipe_get hj] at this
    exact this
  · obtain ⟨p1, p2, p3, p4, p5⟩ := S2.pi q hq
    refine ⟨p1, p2, p3, p4, fun j d h1 h2 h3 => ?_⟩
    have hj := nv j h2
    have := p5 j d (by rw [wg j hj]; exact h1) h2 h3
    rw [wipe_get hj] at this
    exact this
theorem wipe_but {ts vs : List Nat} {a b : L2.St} (h : But ts a b) (hs : ∀ j ∈ ts, j ∈ vs) : wipe b vs = wipe a vs := by
  apply List.ext_getElem?
  intro j
  by_cases hj : j ∈ vs
  · have at_ : ∀ (σ : L2.St) (ws : List Nat), j ∈ ws → (wipe σ ws)[j]? = if j < σ.length then some none else none := fun σ ws hw => by
      induction ws with
      | nil => cases hw
      | cons w ws ih =>
        unfold wipe
        by_cases e : w = j
        · subst e
          by_cases hl : w < (wipe σ ws).length
          · rw [List.getElem?_set_self hl, if_pos (by rw [wipe_length] at hl; exact hl)]
          · rw [List.getElem?_eq_none (by simpa using hl), if_neg (by rw [wipe_length] at hl; exact hl)]
        · rw [List.getElem?_set_ne e]
          rcases List.mem_cons.mp hw with z | z
          · exact absurd z.symm e
          · exact ih z
    rw [at_ b vs hj, at_ a vs hj, h.1]
  · rw [wipe_get hj, wipe_get hj]
    exact h.2 j fun z => hj (hs j z)
theorem wipeE_but {ts vs : List Nat} {a b : Env} (h : But ts a b) (hs : ∀ j ∈ ts, j ∈ vs) : wipeE b vs = wipeE a vs := by
  have wn : ∀ (e : Env) (ws : List Nat) (j : Nat), j ∉ ws → (wipeE e ws)[j]? = e[j]? := fun e ws j => by
    induction ws with
    | nil => intro _; rfl
    | cons w ws ih =>
      intro h
      simp only [List.mem_cons, not_or] at h
      unfold wipeE
      rw [List.getElem?_set_ne (Ne.symm h.1), ih h.2]
  apply List.ext_getElem?
  intro j
  by_cases hj : j ∈ vs
  · have at_ : ∀ (σ : Env) (ws : List Nat), j ∈ ws → (wipeE σ ws)[j]? = if j < σ.length then some none else none := fun σ ws hw => by
      induction ws with
      | nil => cases hw
      | cons w ws ih =>
        unfold wipeE
        by_cases e : w = j
        · subst e
          by_cases hl : w < (wipeE σ ws).length
          · rw [List.getElem?_set_self hl, if_pos (by rw [wipeE_len] at hl; exact hl)]
          · rw [List.getElem?_eq_none (by simpa using hl), if_neg (by rw [wipeE_len] at hl; exact hl)]
        · rw [List.getElem?_set_ne e]
          rcases List.mem_cons.mp hw with z | z
          · exact absurd z.symm e
          · exact ih z
    rw [at_ b vs hj, at_ a vs hj, h.1]
  · rw [wn b vs j hj, wn a vs j hj]
    exact h.2 j fun z => hj (hs j z)
theorem wipe_wipe (σ : L2.St) (vs : List Nat) : wipe (wipe σ vs) vs = wipe σ vs := (wipe_but (ts := vs) (a := σ) (b := wipe σ vs) ⟨wipe_length σ vs, fun j hj => wipe_get hj⟩ fun j h => h)
theorem wipeE_wipeE (e : Env) (vs : List Nat) : wipeE (wipeE e vs) vs = wipeE e vs := (wipeE_but (ts := vs) (a := e) (b := wipeE e vs) ⟨wipeE_len e vs, fun j hj => by
  have wn : ∀ (ws : List Nat), j ∉ ws → (wipeE e ws)[j]? = e[j]? := fun ws => by
    induction ws with
    | nil => intro _; rfl
    | cons w ws ih =>
      intro h
      simp only [List.mem_cons, not_or] at h
      unfold wipeE
      rw [List.getElem?_set_ne (Ne.symm h.1), ih h.2]
  exact wn vs hj⟩ fun j h => h)
end

/-! ### list comprehensions -/
/-- nothing is let out of the block -/
def R.calm {α : Type} (r : R α) : R α := match r with
  | .err _ _ => .stuck
  | r => r
def lcGo (g : GT) (t : M Bool) (m : M D) (ew : Env) : List D → List D → Pen → R D
  | [], acc, p => .ok (.lst acc) p
  | d :: ds, acc, p => match g d ew with
    | none => .stuck
    | some e' => (t e' p).calm.bind fun b p => if b then (m e' p).calm.bind fun y p => if acc.length < sizeLine then lcGo g t m ew ds (acc ++ [y]) p else .stuck else lcGo g t m ew ds acc p
def mLc (mi : M (List D)) (g : GT) (t : M Bool) (m : M D) (vs : List Nat) : M D := fun e p => (mi e p).bind fun ds p => lcGo g t m (wipeE e vs) ds [] p
def tYesM : M Bool := fun _ p => .ok true p
/-- the context of a comprehension's block -/
abbrev Z.blk (z : Z) (s : Shared) (H : Hp) (scope : Scope) (cenv : PySem.Env) (fp : List Addr) (pn : Pins) : Z := { z with X := z.X.blk s H scope cenv fp, W := fun _ _ _ _ => False, pn := pn }
theorem Cont.calm {α : Type} {r : R α} {ok : α → Pen → Prop} {er er' : Exn → Pen → Prop} (h : Cont r.calm ok er) : Cont r ok er' := by
  cases r with
  | ok a p => exact h
  | err x p => exact h.elim
  | stuck => exact h
section
variable {z : Z} {o o1 o2 o3 : Own} {D' : Ends} {G G1 H : Hp} {e : Env} {p : Pen} {σ : L2.St} {r : SF} {a b : Expr} {ma mb : M D} {pos : Pos}
theorem lc_read {mi : M (List D)} {g : GT} {t : M Bool} {m : M D} {vs us : List Nat} (hu : ∀ j ∈ us, j ∈ vs) (hv : ∀ j ∈ vs, own o j = false) {σ : L2.St} {H : Hp} {Q : VK}
    (h : RE z o .fre (mLc mi g t m vs) σ H Q) (W : WX) :
    tLc (RI z o mi) (fun v σ H Q => ∃ pn, RG { z with W := W, pn := pn } o o us g v σ H Q) (fun σ H Q => ∃ pn, RT { z with W := fun _ _ _ _ => False, pn := pn } o t σ H Q) (fun σ H Q => ∃ pn, RE { z with W := fun _ _ _ _ => False, pn := pn } o .fro m σ H Q) vs σ H Q := by
  obtain ⟨G, e, p, S, q⟩ := h
  unfold mLc at q
  rw [Cont.bind] at q
  refine ⟨G, e, p, S, q.mono (fun ds p1 k J G1 H1 s1 S1 it => ?_) fun x p' k => k⟩
  intro D nD
  have Sw := S1.wiped vs
  have npa : D ≠ z.c.pa := fun zz => by
    obtain ⟨_, q⟩ := S1.b.paH
    rw [zz, q] at nD; cases nD
  have nPr : ¬ Priv z.pn o (wipeE e vs) (wipe σ vs) D := fun hp => by
    obtain ⟨⟨u, hu, _⟩, _⟩ := Sw.priv hp
    rw [nD] at hu; cases hu
  have nw : NewIn z.H0 D := S1.b.st D nD
  refine ⟨fun i n H' => n = ds.length - i ∧ i ≤ ds.length ∧ ∃ G' p' va da, Same G1 G' ∧ SR z.X.K z.c z.H0 z.G0 z.pn o G' (wipeE e vs) p' (wipe σ vs) H' ∧ H' D = some (.lst va) ∧ G' D = none ∧ Reps z.X.K z.c.ca G' va da ∧
      Cont (lcGo g t m (wipeE e vs) (ds.drop i) da p') (fun d p' => ∀ v G2 H2, Same G G2 → SR z.X.K z.c z.H0 z.G0 z.pn o G2 e p' σ H2 → Lies z.X.K z.c z.H0 z.pn o G2 e σ H2 v d .fre → Q v H2)
        (fun x p' => ∀ cls dd G' H', Same G G' → SR z.X.K z.c z.H0 z.G0 z.pn o G' e p' σ H' → ExcR z.X.K z.c G' cls dd x → z.W cls dd σ H'),
    ⟨_, rfl, Nat.zero_le _, G1, p1, [], [], Same.refl _, Sw.newH nD, upd_same, S1.b.gh.free nD, .nil, by rw [List.drop_zero]; exact k⟩, ?_⟩
  rintro i n H' ⟨rfl, hi, G', p', va, da, s2, S', hD, hGD, ra, q'⟩
  by_cases hlt : i < ds.length
  · right
    have hd : ds[i]? = some ds[i] := by simp [hlt]
    have hdrop : ds.drop i = ds[i] :: ds.drop (i + 1) := List.drop_eq_getElem_cons hlt
    rw [hdrop] at q'
    obtain ⟨go, yl⟩ := (it G' H' s2 S'.b.gh i).1 _ hd
    refine ⟨go, fun H2 => ∃ G' p' va da, Same G1 G' ∧ SR z.X.K z.c z.H0 z.G0 z.pn o G' (wipeE e vs) p' (wipe σ vs) H2 ∧ H2 D = some (.lst va) ∧ G' D = none ∧ Reps z.X.K z.c.ca G' va da ∧
      Cont (lcGo g t m (wipeE e vs) (ds.drop (i + 1)) da p') (fun d p' => ∀ v G2 H2, Same G G2 → SR z.X.K z.c z.H0 z.G0 z.pn o G2 e p' σ H2 → Lies z.X.K z.c z.H0 z.pn o G2 e σ H2 v d .fre → Q v H2)
        (fun x p' => ∀ cls dd G' H', Same G G' → SR z.X.K z.c z.H0 z.G0 z.pn o G' e p' σ H' → ExcR z.X.K z.c G' cls dd x → z.W cls dd σ H'), fun H2 h => ⟨ds.length - (i + 1), by omega, rfl, hlt, h⟩, fun x H'' y => ?_⟩
    -- the turn, from a state in which the item lies
    have core : ∀ (G3 H3 : Hp), Same G' G3 → SR z.X.K z.c z.H0 z.G0 ((D, .lst va) :: z.pn) o G3 (wipeE e vs) p' (wipe σ vs) H3 → Rep z.X.K z.c.ca G3 x ds[i] →
        ∃ pn, RG { z with W := W, pn := pn } o o us g x (wipe σ vs) H3 fun σ2 H2 => wipe σ2 vs = wipe σ vs ∧ ∃ pn, RT { z with W := fun _ _ _ _ => False, pn := pn } o t σ2 H2 fun b H3 =>
          if b = true then ∃ pn, RE { z with W := fun _ _ _ _ => False, pn := pn } o .fro m σ2 H3 fun y H4 => ∃ acc, H4 D = some (.lst acc) ∧ acc.length < sizeLine ∧
            (∃ G' p' va da, Same G1 G' ∧ SR z.X.K z.c z.H0 z.G0 z.pn o G' (wipeE e vs) p' (wipe σ vs) (upd H4 D (.lst (acc ++ [y]))) ∧ (upd H4 D (.lst (acc ++ [y]))) D = some (.lst va) ∧ G' D = none ∧ Reps z.X.K z.c.ca G' va da ∧
      Cont (lcGo g t m (wipeE e vs) (ds.drop (i + 1)) da p') (fun d p' => ∀ v G2 H2, Same G G2 → SR z.X.K z.c z.H0 z.G0 z.pn o G2 e p' σ H2 → Lies z.X.K z.c z.H0 z.pn o G2 e σ H2 v d .fre → Q v H2)
        (fun x p' => ∀ cls dd G' H', Same G G' → SR z.X.K z.c z.H0 z.G0 z.pn o G' e p' σ H' → ExcR z.X.K z.c G' cls dd x → z.W cls dd σ H')) else
            (∃ G' p' va da, Same G1 G' ∧ SR z.X.K z.c z.H0 z.G0 z.pn o G' (wipeE e vs) p' (wipe σ vs) H3 ∧ H3 D = some (.lst va) ∧ G' D = none ∧ Reps z.X.K z.c.ca G' va da ∧
      Cont (lcGo g t m (wipeE e vs) (ds.drop (i + 1)) da p') (fun d p' => ∀ v G2 H2, Same G G2 → SR z.X.K z.c z.H0 z.G0 z.pn o G2 e p' σ H2 → Lies z.X.K z.c z.H0 z.pn o G2 e σ H2 v d .fre → Q v H2)
        (fun x p' => ∀ cls dd G' H', Same G G' → SR z.X.K z.c z.H0 z.G0 z.pn o G' e p' σ H' → ExcR z.X.K z.c G' cls dd x → z.W cls dd σ H')) := by
      intro G3 H3 s3 S3 r3
      unfold lcGo at q'
      cases hg' : g ds[i] (wipeE e vs) with
      | none => rw [hg'] at q'; exact q'.elim
      | some e3 =>
        rw [hg'] at q'
        dsimp only at q'
        refine ⟨(D, .lst va) :: z.pn, G3, wipeE e vs, p', _, e3, S3, r3, hg', fun σ4 S4 b1 b2 => ⟨?_, ?_⟩⟩
        · rw [wipe_but b2 hu, wipe_wipe]
        have e1 : wipeE e3 vs = wipeE e vs := by rw [wipeE_but b1 hu, wipeE_wipeE]
        have e2 : wipe σ4 vs = wipe σ vs := by rw [wipe_but b2 hu, wipe_wipe]
        rw [Cont.bind] at q'
        refine ⟨(D, .lst va) :: z.pn, G3, e3, p', S4, (Cont.calm q').mono (fun b5 p5 k5 G5 H5 s5 S5 => ?_) fun x p' k => k⟩
        cases b5 with
        | false =>
          rw [ite_f] at k5
          rw [ite_f]
          obtain ⟨S6, h1, _, h3⟩ := S5.unpin
          have S7 := S6.wiped vs
          rw [e1, e2] at S7
          exact ⟨G5, p5, va, da, (s2.trans s3).trans s5, S7, h1, h3, ra.mono (s3.trans s5), k5⟩
        | true =>
          rw [ite_t] at k5
          rw [ite_t]
          rw [Cont.bind] at k5
          refine ⟨(D, .lst va) :: z.pn, G5, e3, p5, S5, (Cont.calm k5).mono (fun d6 p6 k6 v6 G6 H6 s6 S6 l6 => ?_) fun x p' k => k⟩
          obtain ⟨S7, h1, h2, h3⟩ := S6.unpin
          have S8 := S7.wiped vs
          rw [e1, e2] at S8
          have lenA : va.length = da.length := ra.len
          split at k6
          · rename_i hl
            refine ⟨va, h1, by rw [lenA]; exact hl, G6, p6, va ++ [v6], da ++ [d6], ((s2.trans s3).trans s5).trans s6, S8.write h1 h2 h3 nw npa nPr, upd_same, h3, (ra.mono ((s3.trans s5).trans s6)).app (.cons l6 .nil), k6⟩
          · exact k6.elim
    have Sp : SR z.X.K z.c z.H0 z.G0 ((D, .lst va) :: z.pn) o G' (wipeE e vs) p' (wipe σ vs) H' := S'.pin hD True.intro hGD npa nPr
    rcases yl x H'' y with ⟨rfl, r⟩ | ⟨T, u, nT, hu', rfl, r⟩
    · exact core G' _ (Same.refl _) Sp r
    · obtain ⟨S3, s3⟩ := Sp.new nT hu'
      exact core _ _ s3 S3 r
  · left
    have ei : i = ds.length := by omega
    subst ei
    rw [List.drop_length] at q'
    refine ⟨(it G' H' s2 S'.b.gh ds.length).2 (Nat.le_refl _), ?_⟩
    have S9 := SR.unwipe S1 S' s2 hv
    refine q' (.ref D) G' H' (s1.trans s2) S9 ?_
    unfold Lies
    rw [if_pos (show IsMut (.lst da) = true from rfl)]
    refine ⟨D, rfl, ⟨va, hD, ra⟩, nw, hGD, npa, fun hp => ?_⟩
    -- D is in no slot: not in a wiped one, nor in those of the block, which are not owned
    rcases hp with ⟨j, d, h1, h2, h3, h4⟩ | hp
    · have hj : j ∉ vs := fun hj => by rw [hv j hj] at h2; cases h2
      refine nPr (.inl ⟨j, d, ?_, h2, h3, by rw [wipe_get hj]; exact h4⟩)
      have : ∀ ws : List Nat, j ∉ ws → (wipeE e ws)[j]? = e[j]? := fun ws => by
        induction ws with
        | nil => intro _; rfl
        | cons w ws ih =>
          intro h
          simp only [List.mem_cons, not_or] at h
          unfold wipeE
          rw [List.getElem?_set_ne (Ne.symm h.1), ih h.2]
      rw [this vs hj]; exact h1
    · exact nPr (.inr hp)
theorem me_lc {elt tg iter : Expr} {ifs : List Expr} {scope : Scope} {own' : List (Str × Nat)} {mi : M (List D)} {g : GT} {t : M Bool} {m : M D} {us : List Nat} (hc : z.X.calm = true) (hN : z.X.N.Nodup) (hi : MI z o tg iter mi) (ok : BlkOk z.X.N z.X.env.scope scope own')
    (hu : ∀ j ∈ us, j ∈ own'.map (·.2)) (hv : ∀ j ∈ own'.map (·.2), own o j = false)
    (hg : ∀ (s : Shared) (H : Hp) (C : Addr) (cl : List (Str × Addr)) (fp : List Addr) (pn : Pins), MG (z.blk s H scope (compEnvC scope cl C z.X.env) fp pn) o tg g o us)
    (ht : ∀ (s : Shared) (H : Hp) (C : Addr) (cl : List (Str × Addr)) (fp : List Addr) (pn : Pins), PTs (z.X.blk s H scope (compEnvC scope cl C z.X.env) fp) ifs (RT (z.blk s H scope (compEnvC scope cl C z.X.env) fp pn) o t))
    (he : ∀ (s : Shared) (H : Hp) (C : Addr) (cl : List (Str × Addr)) (fp : List Addr) (pn : Pins), ME (z.blk s H scope (compEnvC scope cl C z.X.env) fp pn) o .fro elt m)
    (hs : ∀ x, foldedSetIterable iter z.X.env x = pure x := by intro _; rfl) : ME z o .fre (.ListComp elt [⟨tg, iter, ifs, 0⟩] scope pos) (mLc mi g t m (own'.map (·.2))) :=
  PE.imp (pe_lc (g := fun v σ H Q => ∃ pn, RG { z with W := fun _ _ _ _ => False, pn := pn } o o us g v σ H Q) (tt := fun σ H Q => ∃ pn, RT { z with W := fun _ _ _ _ => False, pn := pn } o t σ H Q) (te := fun σ H Q => ∃ pn, RE { z with W := fun _ _ _ _ => False, pn := pn } o .fro m σ H Q) hc hN hi ok
    (fun s H C cl fp => ⟨fun pins s' σ H' v u Q I r ⟨pn, h⟩ => (hg s H C cl fp pn).run pins s' σ H' v u Q I r h⟩)
    (fun s H C cl fp => ⟨fun pins s' σ H' Q I ⟨pn, h⟩ => (ht s H C cl fp pn).run pins s' σ H' Q I h⟩)
    (fun s H C cl fp => ⟨fun pins s' σ H' Q I ⟨pn, h⟩ => (he s H C cl fp pn).run pins s' σ H' Q I h⟩) hs) fun σ H Q h => lc_read hu hv h _
/-- name = [..] on one line -/
theorem fro_of_fre {m : M D} {σ : L2.St} {H : Hp} {Q : VK} (h : RE z o .fro m σ H Q) : RE z o .fre m σ H Q := by
  obtain ⟨G, e, p, S, q⟩ := h
  refine ⟨G, e, p, S, q.mono (fun d p' k v G' H' s S' l => ?_) fun x p' k => k⟩
  obtain ⟨G2, s2, S2, l2⟩ := Lies.fre_fro S' l
  exact k v G2 H' (s.trans s2) S2 l2
theorem ms_setLc {i : Nat} {y : Str} {py : Pos} {spos : Pos} {elt tg iter : Expr} {ifs : List Expr} {scope : Scope} {own' : List (Str × Nat)} {mi : M (List D)} {g : GT} {t : M Bool} {m : M D} {us : List Nat} (fl : Bool) (hlen : fl = true → i < o.length) (hc : z.X.calm = true) (hN : z.X.N.Nodup)
    (hy : z.X.N[i]? = some y) (hyl : z.X.env.scope.names.lookup y = some .local) (hsw : swapsWith (.ListComp elt [⟨tg, iter, ifs, 0⟩] scope pos) (some (.Name y py)) spos.line z.X.env = pure true) (hi : MI z o tg iter mi) (ok : BlkOk z.X.N z.X.env.scope scope own')
    (hu : ∀ j ∈ us, j ∈ own'.map (·.2)) (hv : ∀ j ∈ own'.map (·.2), own o j = false)
    (hg : ∀ (s : Shared) (H : Hp) (C : Addr) (cl : List (Str × Addr)) (fp : List Addr) (pn : Pins), MG (z.blk s H scope (compEnvC scope cl C z.X.env) fp pn) o tg g o us)
    (ht : ∀ (s : Shared) (H : Hp) (C : Addr) (cl : List (Str × Addr)) (fp : List Addr) (pn : Pins), PTs (z.X.blk s H scope (compEnvC scope cl C z.X.env) fp) ifs (RT (z.blk s H scope (compEnvC scope cl C z.X.env) fp pn) o t))
    (he : ∀ (s : Shared) (H : Hp) (C : Addr) (cl : List (Str × Addr)) (fp : List Addr) (pn : Pins), ME (z.blk s H scope (compEnvC scope cl C z.X.env) fp pn) o .fro elt m)
    (hs : ∀ x, foldedSetIterable iter z.X.env x = pure x := by intro _; rfl) : MSt z o (.Assign [.Name y py] (.ListComp elt [⟨tg, iter, ifs, 0⟩] scope pos) spos) (sSet i (mLc mi g t m (own'.map (·.2)))) (o.set i fl) :=
  ms_of (ps_setLc (g := fun v σ H Q => ∃ pn, RG { z with W := fun _ _ _ _ => False, pn := pn } o o us g v σ H Q) (tt := fun σ H Q => ∃ pn, RT { z with W := fun _ _ _ _ => False, pn := pn } o t σ H Q) (te := fun σ H Q => ∃ pn, RE { z with W := fun _ _ _ _ => False, pn := pn } o .fro m σ H Q) hc hN hy hyl hsw hi ok
    (fun s H C cl fp => ⟨fun pins s' σ H' v u Q I r ⟨pn, h⟩ => (hg s H C cl fp pn).run pins s' σ H' v u Q I r h⟩)
    (fun s H C cl fp => ⟨fun pins s' σ H' Q I ⟨pn, h⟩ => (ht s H C cl fp pn).run pins s' σ H' Q I h⟩)
    (fun s H C cl fp => ⟨fun pins s' σ H' Q I ⟨pn, h⟩ => (he s H C cl fp pn).run pins s' σ H' Q I h⟩) hs) fun D' σ H G e p S q => by
    have h : RE z o .fre (mLc mi g t m (own'.map (·.2))) σ H fun x H1 => D'.nx (σ.set i (some x)) H1 := by
      cases fl with
      | true => exact setO_of (hlen rfl) S q
      | false => exact fro_of_fre (set_of S q)
    exact lc_read hu hv h (fun _ _ _ _ => False)
theorem mts_nil : PTs z.X [] (RT z o tYesM) := ⟨fun pins s σ H Q I ⟨G, e, p, S, q⟩ => pts_nil.run pins s σ H Q I (q G H (Same.refl _) S)⟩
theorem mts_one {c : Expr} {t : M Bool} (h : MT z o c t) : PTs z.X [c] (RT z o t) := pts_one h

/-! ### defs -/
/-- what a def makes of its arguments -/
abbrev Fd := List D → Pen → R D
/-- n: how many slots -/
def fdOf (n : Nat) (b : MS) : Fd := fun ds p => match b (ds.map some ++ List.replicate (n - ds.length) none) p with
  | .next _ p => .ok .non p
  | .ret d p => .ok d p
  | .err x _ p => .err x p
  | _ => .stuck
/-- a def's promise -/
def spD (K : PySem.W.Frag) (c : Cfg) (n : Nat) (m : Fd) : Sp := fun vs H Q E => ∃ G ds p, BR c H G G p H ∧ Reps K c.ca G vs ds ∧ ds.length = n ∧
  Cont (m ds p) (fun d p' => ∀ v G' H', BR c H G G' p' H' → Rep K c.ca G' v d → Q v H') (fun x p' => ∀ cls dd G' H', BR c H G G' p' H' → ExcR K c G' cls dd x → E cls dd H')
theorem SR.start {K : PySem.W.Frag} {c : Cfg} {H0 G0 G H : Hp} {p : Pen} {vs : List V} {ds : List D} {N : List Str} (b : BR c H0 G0 G p H) (r : Reps K c.ca G vs ds) : SR K c H0 G0 [] [] G (ds.map some ++ List.replicate (N.length - ds.length) none) p (L2.start N vs) H := by
  have own_nil : ∀ i, own [] i = false := fun i => by simp [own]
  refine ⟨b, ?_, fun i d h _ => ?_, fun i d h q => (by rw [own_nil] at q; cases q), fun i j d d' _ _ q => (by rw [own_nil] at q; cases q), fun q hq => (nomatch hq)⟩
  · unfold L2.start
    rw [List.length_append, List.length_append, List.length_map, List.length_map, List.length_replicate, List.length_replicate, r.len]
  · unfold L2.start
    by_cases hi : i < ds.length
    · rw [List.getElem?_append_left (by simpa using hi)] at h
      rw [List.getElem?_append_left (by simpa [r.len] using hi)]
      rw [List.getElem?_map] at h ⊢
      obtain ⟨d', e1, e2⟩ := Option.map_eq_some_iff.mp h
      cases e2
      obtain ⟨v, f1, f2⟩ := r.get e1
      exact ⟨v, by rw [f1]; rfl, f2⟩
    · rw [List.getElem?_append_right (by simpa using Nat.le_of_not_lt hi)] at h
      exfalso
      by_cases h2 : i - (ds.map some).length < N.length - ds.length
      · rw [List.getElem?_replicate_of_lt h2] at h; cases h
      · rw [List.getElem?_eq_none (by simpa using Nat.le_of_not_lt h2)] at h; cases h
/-- where a def's body runs -/
abbrev zD (P : Program) (w : World) (K : PySem.W.Frag) (mg : Str → Option Value) (base : Heap) (N : List Str) (qual : Str) (st : Stmt) (f : Addr) (cdv : Value) (A : Around) (outer : List PySem.Env) (s : Shared) (H : Hp) (E : XK) (c : Cfg) (G : Hp) (ob : Own) : Z :=
  { X := cxOf (L2.CX P w) P w K mg base N qual (defScope st) f cdv A outer s H E, W := fun cls dd _ H => E cls dd H, c := c, H0 := H, G0 := G, ob := ob, pn := [] }
theorem fn_d {P : Program} {w : World} {K : PySem.W.Frag} {mg : Str → Option Value} {base : Heap} {x qual : Str} {st : Stmt} {f : Addr} {fd : FuncData} {N ps : List Str} {k : Nat} {c : Cfg} {b : MS} (F : Fun K x qual st f fd) (S : FnScope N ps (defScope st)) (o1 : Own)
    (body : ∀ (cdv : Value) (A : Around) (outer : List PySem.Env) (s : Shared) (H : Hp) (E : XK) (G : Hp), Room k (A.deeper (envOfC qual (defScope st) s.heap.objs.size f cdv)) →
      MSs (zD P w K mg base N qual st f cdv A outer s H E c G []) [] (defBody st) b o1) : FnOk P w K mg base (L2.CX P w) (k + 1) f fd ps (spD K c ps.length (fdOf N.length b)) := by
  refine F.okX S (fun vs H Q E h => ?_) (fun cdv A outer s H vs Q E hr h => ?_)
  · obtain ⟨G, ds, p, _, r, hl, _⟩ := h
    rw [r.len, hl]
  · obtain ⟨G, ds, p, br, r, hl, q⟩ := h
    refine ⟨_, body cdv A outer s H E G hr, RS.iff.mpr ⟨G, _, p, SR.start br r, ?_⟩⟩
    unfold fdOf at q
    cases hb : b (ds.map some ++ List.replicate (N.length - ds.length) none) p with
    | next e' p' =>
      rw [hb] at q
      exact fun σ' G' H' s S' => q .non G' H' S'.b .non
    | ret d p' =>
      rw [hb] at q
      exact fun v G' H' s br' r' => q v G' H' br' r'
    | err x e' p' =>
      rw [hb] at q
      exact fun cls dd σ' G' H' s S' er => q cls dd G' H' S'.b er
    | brk e' p' => rw [hb] at q; exact q.elim
    | cnt e' p' => rw [hb] at q; exact q.elim
    | stuck => rw [hb] at q; exact q.elim
/-- f(..) -/
def mCall (f : Fd) (ma : M (List D)) : M D := fun e p => (ma e p).bind fun ds p => f ds p
theorem call_read {K : PySem.W.Frag} {n : Nat} {f : Fd} {ds : List D} (hK : K = z.X.K) {σ : L2.St} {H1 : Hp} {vs : List V} {p1 : Pen} {Q : VK} {W : XK} (s1 : Same G G1) (S1 : SR z.X.K z.c z.H0 z.G0 z.pn o G1 e p1 σ H1) (r : Reps z.X.K z.c.ca G1 vs ds) (hn : ds.length = n)
    (k : Cont (f ds p1) (fun d p' => ∀ v G' H', Same G G' → SR z.X.K z.c z.H0 z.G0 z.pn o G' e p' σ H' → Rep z.X.K z.c.ca G' v d → Q v H')
      (fun x p' => ∀ cls dd G' H', Same G G' → SR z.X.K z.c z.H0 z.G0 z.pn o G' e p' σ H' → ExcR z.X.K z.c G' cls dd x → W cls dd H')) : spD K z.c n f vs H1 Q W := by
  subst hK
  exact ⟨G1, ds, p1, S1.b.enter, r, hn, k.mono (fun d p' k v G' H' b2 r' => k v G' H' (s1.trans b2.g0) (S1.call b2) r') fun x p' k cls dd G' H' b2 er => k cls dd G' H' (s1.trans b2.g0) (S1.call b2) er⟩
/-- how the lengths of arguments are known -/
theorem me_call {x : Str} {k n : Nat} {f : Addr} {fd : FuncData} {ps : List Str} {m : Fd} {es : List Expr} {mas : M (List D)} {pp : Pos} (F : FnOk z.X.prog z.X.w z.X.K z.X.mg z.X.base (L2.CX z.X.prog z.X.w) k f fd ps (spD z.X.K z.c n m)) (hr : Room k z.X.A) (hm : z.X.mg x = some (.ref f)) (hk : PySem.W.keepIn z.X.K (.ref f) = true) (hb : Binds z.X.K fd ps [])
    (tk : Takes z.X z.W) (hlen : ∀ e p ds p', mas e p = .ok ds p' → ds.length = n) (ha : MA z o (a :: es) mas) (hg : Gl z.X x := by rfl) (hdb : (x == ("__debug__" : Str)) = false := by decide)
    (he : starEach (a :: es) z.X.env = (false, eval a z.X.env) :: starEach es z.X.env := by rfl) (hpl : (backTo pos (starEach es z.X.env)).any (·.1) = false := by rfl) : ME z o .fro (.Call (.Name x pp) (a :: es) [] pos) (mCall m mas) :=
  PE.imp (pe_callS (E := fun σ => WE z.W σ) F hr hg hm hk hb (fun σ => passAt tk σ) ha hdb he hpl) fun σ H Q ⟨G, e, p, S, q⟩ => by
    unfold mCall at q
    rw [Cont.bind] at q
    cases hc : mas e p with
    | stuck => rw [hc] at q; exact q.elim
    | err x p' =>
      rw [hc] at q
      refine ⟨G, e, p, S, ?_⟩
      rw [hc]
      exact q
    | ok ds p1 =>
      have hl := hlen e p ds p1 hc
      rw [hc] at q
      refine ⟨G, e, p, S, ?_⟩
      rw [hc]
      intro vs G1 H1 s1 S1 r
      exact call_read rfl s1 S1 r hl q
theorem ma_nil_len {e : Env} {p : Pen} {ds : List D} {p' : Pen} (h : maNil e p = .ok ds p') : ds.length = 0 := by cases h; rfl
theorem ma_cons_len {m : M D} {r : M (List D)} {n : Nat} (hr : ∀ e p ds p', r e p = .ok ds p' → ds.length = n) {e : Env} {p : Pen} {ds : List D} {p' : Pen} (h : maCons m r e p = .ok ds p') : ds.length = n + 1 := by
  unfold maCons at h
  cases h1 : m e p with
  | ok d p1 =>
    rw [h1] at h
    dsimp only [R.bind] at h
    cases h2 : r e p1 with
    | ok ds2 p2 =>
      rw [h2] at h
      dsimp only [R.bind] at h
      cases h
      rw [List.length_cons, hr _ _ _ _ h2]
    | err x p' => rw [h2] at h; cases h
    | stuck => rw [h2] at h; cases h
  | err x p' => rw [h1] at h; cases h
  | stuck => rw [h1] at h; cases h
/-- a def without arguments -/
theorem me_call0 {x : Str} {k : Nat} {f : Addr} {fd : FuncData} {ps : List Str} {m : Fd} {pp : Pos} (F : FnOk z.X.prog z.X.w z.X.K z.X.mg z.X.base (L2.CX z.X.prog z.X.w) k f fd ps (spD z.X.K z.c 0 m)) (hr : Room k z.X.A) (hm : z.X.mg x = some (.ref f)) (hk : PySem.W.keepIn z.X.K (.ref f) = true) (hb : Binds z.X.K fd ps [])
    (E : XK) (tk : Passes (L2.CX z.X.prog z.X.w) z.X E) (hE : ∀ cls dd σ H, z.W cls dd σ H → E cls dd H) (hg : Gl z.X x := by rfl) (hdb : (x == ("__debug__" : Str)) = false := by decide) : ME z o .fro (.Call (.Name x pp) [] [] pos) (mCall m maNil) :=
  PE.imp (pe_call0 F hr hg hm hk hb .nil tk hdb) fun σ H Q ⟨G, e, p, S, q⟩ => by
    unfold mCall at q
    rw [Cont.bind] at q
    exact call_read (n := 0) rfl (Same.refl _) S .nil rfl (Cont.mono q (fun d p' k => k) fun x p' k cls dd G' H' s S' er => hE cls dd σ H' (k cls dd G' H' s S' er))
end
end Mz
/-! Mz, part j: own exceptions whose __init__ calls super().__init__ and stores its arguments. -/
namespace Mz
open PySem PySem.W PySem.Calls PyProof.Rows PySem.HandSPX
open L2 (defArgs defBody defScope)
/-- what the written part says of the class at C, its __init__ at fI (closure cell at cc, code object at cda) -/
structure XIn (P : Program) (K : Frag) (mg : Str → Option Value) (C fI cc cda : Addr) (qual : Str) (ag : Arguments) (bd : List Stmt) (sc : Scope) : Prop where
  cls : ∃ nm q N bs bm sn sub ab col dd k0 k1 k2 k3 k5, K.lookup C = some (excClassObj nm q C N bs bm true sn sub ab col dd k0 k1 k2 k3 k5 "ValueError.__new__") ∧ refsVE bm = true
  sa : findIn K (.ref C) "__setattr__" = some (some (.builtin "object.__setattr__"))
  iC : findIn K (.ref C) "__init__" = some (some (.ref fI))
  tC : typeIn K (.ref fI) = some (.type "function")
  kC : keepIn K (.ref C) = true
  exC : subIn K (.ref C) (.type "BaseException") = some true
  tyC : typeIn K (.ref C) = some (.type "type")
  fn : ∃ (oc : Value) (od : Option Addr) (kV doc pm : Value) (an : Option Addr) (ct : Value) (osl : Array (Option Value)), K.lookup fI = some ⟨oc, od, .func (fnX "__init__" qual ag bd sc [("__class__", cc)] .none kV doc pm an (.ref cda) ct), osl⟩
  cd : codeIn K (.ref cda) qual = true
  co : ∃ (ccl : Value) (cdd : Option Addr) (vs : Array Value) (ccs : Array (Option Value)) (file : Str) (tf : Tok), K.lookup cda = some ⟨ccl, cdd, .fields vs, ccs⟩ ∧ vs[2]? = some (.str file tf) ∧ ((P.main.file : Str) == file) = true
  ce : ∃ (cl : Value) (cld : Option Addr) (csl : Array (Option Value)), K.lookup cc = some ⟨cl, cld, .cell (some (.ref C)), csl⟩
  sup : ks_superIn K C C "__init__" = some (some (.builtin "ValueError.__init__"))
  th : nsIn K cStatics "thirdparty.any" = some none
  gs : mg "super" = none
  ps : (P.main.scope.names.lookup ("super" : Str)).isSome = false
  subC : mroIn K C (.ref C) = some true
  subV : subIn K (.ref C) (.type "ValueError") = some true
/-- the scope of such an __init__ -/
structure XSc (sc : Scope) : Prop where
  s1 : sc.names.lookup ("super" : Str) = some .globalImplicit
  s2 : sc.names.lookup ("__class__" : Str) = some .free
  s3 : sc.names.lookup ("self" : Str) = some .local
  s4 : ∀ x ∈ sc.names, x.2 ≠ .cell
  s5 : sc.isCoroutine = false
  s6 : sc.isGenerator = false
  s7 : sc.kind = .function

section
variable {P : Program} {w : World} {A : Around} {E : Value → Shared → Prop} {K : Frag} {mg : Str → Option Value} {C fI cc cda : Addr} {qual : Str} {ag : Arguments} {bd : List Stmt} {sc : Scope} {h : Heap} {g : Array GenState} {d : Drawn} {t : Nat} {os : OsState}
/-- the bound __init__ called -/
theorem call_mw {u x t0 : Addr} {rest : List Value} {Q : Value → Shared → Prop} (T : XIn P K mg C fI cc cda qual ag bd sc) (X : K.In h) (hx : h.get? x = some (excO C t0)) (hu : h.get? u = some (kxs_mw "ValueError.__init__" x)) (hrest : rest.length ≤ sizeLine)
    (hq : ∀ h' t1, (∀ b o, b ≠ x → h.get? b = some o → h'.get? b = some o) → h'.get? x = some (excO C t1) → Q .none ⟨h', g, d, t, os⟩) :
    wpAny (model P w) A (call (.ref u) rest) Q E ⟨h, g, d, t, os⟩ := by
  obtain ⟨nm, q, N, bs, bm, sn, sub, ab, col, dd, k0, k1, k2, k3, k5, hC0, hbm⟩ := T.cls
  have hC := X _ _ hC0
  have FB := F.excBase_ValueError
  refine wpAny_call (codeAny_of_tree ?_)
  show wpAny _ A.in1 (callAny (.ref u) ⟨rest, []⟩) _ _ _
  simp only [callAny]
  refine wpAny_bind (wpAny_load hu ?_)
  simp only [kxs_mw, show (Value.type "method-wrapper" == Value.type "method" || Value.type "method-wrapper" == Value.type "builtin_function_or_method" || Value.type "method-wrapper" == Value.type "method-wrapper") = true by decide, if_true]
  refine KFB.if_so (by decide) ?_
  refine wpAny_bind (check_bound_init FB.toExcCallFacts hC hx rfl ?_)
  refine wpAny_bind (wpAny_pure (wpAny_pure ?_))
  refine ⟨plainId_quiet FB.init.plain _, codeAny_builtin FB.initEntry ?_⟩
  exact exc_init_tree (cls := .ref C) (t0 := t0) (dv := none) (c2 := .none) (c3 := .none) (b4 := .bool false) hx hrest fun h' k e' _ => hq h' _ k e'

theorem cw1 {M : Model} {s : Shared} {i : String} {u x : Addr} {pos : Pos} {env : PySem.Env} {e : Expr} {rest : List Expr} {Q : Value → Shared → Prop}
    (h : wpAny M A (spliced (backTo pos (starEach (e :: rest) env))) (fun vs s₁ => KxsAt i u x s₁.heap ∧ wpAny M A (call (.ref u) vs) Q E s₁) E s)
    (he : starEach (e :: rest) env = (false, eval e env) :: starEach rest env) (hplain : (backTo pos (starEach rest env)).any (·.1) = false) :
    wpAny M A (callWith pos (.ref u) [] (backTo pos (starEach (e :: rest) env)) []) Q E s := by
  rw [he] at h ⊢
  refine kxs_callWith (i := i) (x := x) (by show (false || (backTo pos (starEach rest env)).any (·.1)) = false; rw [hplain]; rfl) ?_
  exact evalArgs_plain h
theorem xi_super {body : List Stmt} {L x t0 : Addr} {m : Str → Option Value} {us : List Value} {e : Expr} {es : List Expr} {ar : Arg} {p0 p1 p2 p3 p4 : Pos} {pl : Sem Bool} {Q : Flow → Shared → Prop} (T : XIn P K mg C fI cc cda qual ag bd sc) (S : XSc sc)
    (har : (ag.posonlyargs ++ ag.args).head? = some ar) (harn : ar.arg = "self")
    (X : K.In h) (hn : h.Ns L m) (hself : m "self" = some (.ref x)) (hx : h.get? x = some (excO C t0)) (hg : h.Ns mainGlobals mg) (hb : ∃ mb, h.Ns builtinsNs mb ∧ ∀ x : Str, x ≠ "__name__" → mb x = bootBuiltins x)
    (hargs : ∀ (s : Shared) (Q : List Value → Shared → Prop), s.heap.Ns L m → Q us s → wpAny (model P w) A (spliced (backTo p3 (starEach (e :: es) (ksEnv qual sc L fI (.ref cda) cc)))) Q E s) (hus : us.length ≤ sizeLine)
    (hq : ∀ h' tk t1, (∀ b o, b ≠ x → h.get? b = some o → h'.get? b = some o) → h'.get? x = some (excO C t1) → Q .next ⟨h', g, d, tk, os⟩)
    (hev : eval (.Call (.Attribute (.Call (.Name "super" p0) [] [] p1) "__init__" p2) (e :: es) [] p3) (ksEnv qual sc L fI (.ref cda) cc) = (do
      let ov ← attributeBase (.Call (.Name "super" p0) [] [] p1) "__init__" (ksEnv qual sc L fI (.ref cda) cc) (eval (.Call (.Name "super" p0) [] [] p1) (ksEnv qual sc L fI (.ref cda) cc))
      standAt p2.atName
      let (f, first) ← holding [ov] (getMethod ov "__init__" pl)
      callWith p3 f first (backTo p3 (starEach (e :: es) (ksEnv qual sc L fI (.ref cda) cc))) []) := by rfl)
    (hi : interactive (ksEnv qual sc L fI (.ref cda) cc) = false := by rfl)
    (hs : swapsWith (.Call (.Attribute (.Call (.Name "super" p0) [] [] p1) "__init__" p2) (e :: es) [] p3) none p4.line (ksEnv qual sc L fI (.ref cda) cc) = pure false := by rfl)
    (he : starEach (e :: es) (ksEnv qual sc L fI (.ref cda) cc) = (false, eval e (ksEnv qual sc L fI (.ref cda) cc)) :: starEach es (ksEnv qual sc L fI (.ref cda) cc) := by rfl)
    (hpl : (backTo p3 (starEach es (ksEnv qual sc L fI (.ref cda) cc))).any (·.1) = false := by rfl) :
    PySem.wpAt (model P w) A (.func body (ksEnv qual sc L fI (.ref cda) cc)) (exec (.Expr (.Call (.Attribute (.Call (.Name "super" p0) [] [] p1) "__init__" p2) (e :: es) [] p3) p4) (ksEnv qual sc L fI (.ref cda) cc)) Q E ⟨h, g, d, t, os⟩ := by
  obtain ⟨nm, q, N, bs, bm, sn, sub, ab, col, dd, k0, k1, k2, k3, k5, hC0, hbm⟩ := T.cls
  obtain ⟨oc, od, kV, doc, pm, an, ct, osl, hf⟩ := T.fn
  obtain ⟨ccl, cdd, vs, ccs, file, tf, hcode, hvs, hfile⟩ := T.co
  obtain ⟨cl, cld, csl, hcell⟩ := T.ce
  obtain ⟨mb, hb1, hb2⟩ := hb
  have hC := X _ _ hC0
  have hcl : clsIn K C = some { name := nm, bases := bs, mro := .ref C :: bm, ns := N, qualname := q, hasDict := true, slotNames := sn, subclasses := sub, abstract := ab, collection := col, hasDel := false } := by unfold clsIn; rw [hC0] <;> rfl
  have IA : InstAt h x (excO C t0) C none := ⟨hx, rfl, rfl, trivial⟩
  have hxC : x ≠ C := ks_ne X IA hcl
  refine ks_wpAt_Expr_any (ks_wpAt_MethodCall (pl := pl) ?_ hev) hi hs
  refine ks_wpAt_super_base S.s1 S.s2 (by decide) rfl (X _ _ hf) rfl har rfl (X _ _ hcode) rfl hvs hfile T.ps ?_
  refine ks_loadName_global S.s7 S.s1 (loadGlobal_builtin hg T.gs hb1 ((hb2 _ (by decide)).trans PyProof.Rows.Boot.«super») ⟨rfl, ?_⟩)
  refine wpAny_loadName_free S.s7 S.s2 rfl ⟨_, X _ _ hcell, rfl⟩ ?_
  rw [harn]
  refine wpAny_loadName_local S.s7 S.s3 hn hself ?_
  refine ks_wpAny_isType_cls hC rfl ⟨rfl, ?_⟩
  refine ks_wpAny_call_super hC rfl hx rfl (fun c e => by cases e) (looks_mroIn X T.subC) (fun h₁ e₁ kp₁ => ?_)
  have X₁ : K.In h₁ := X.keeps kp₁
  have hx₁ := kp₁ _ _ hx
  have IA₁ : InstAt h₁ x (excO C t0) C none := ⟨hx₁, rfl, rfl, trivial⟩
  have hI : Looks (model P w) h₁ (isInstance (.ref x) (.type "ValueError")) true := IA₁.type.andThen (looks_subIn X₁ T.subV)
  have hm := T.sup
  unfold ks_superIn at hm
  rw [hcl] at hm
  refine kxs_getMethod kxs_ValueError (l₀ := .ref C :: bm) (D := C) (C := C) e₁ (looks_opaque X₁ T.th) (fun A Q E s k q => wpAny_bind ((looks_clsIn X₁ hcl) A _ E s k (wpAny_pure q))) rfl X₁ hm hI hxC (by decide) ?_
  have k₂ : ∀ b o, h₁.get? b = some o → (h₁.push (kxs_mw "ValueError.__init__" x)).get? b = some o := fun b o e => Heap.get?_push_of_some _ e
  refine cw1 (i := "ValueError.__init__") (x := x) ?_ he hpl
  refine hargs _ _ ((hn.at fun o e => k₂ _ _ (kp₁ _ _ e))) ⟨Heap.get?_push_at rfl rfl, ?_⟩
  refine call_mw T (X₁.keeps k₂) (k₂ _ _ hx₁) (Heap.get?_push_at rfl rfl) hus fun h' t1 k' e' => hq h' _ t1 (fun b o hb e => k' b o hb (k₂ _ _ (kp₁ _ _ e))) e'
end
/-! ### the texts -/
def iA1 (a : Str) (p1 p2 : Pos) : Arguments := { posonlyargs := [], args := [{ arg := "self", annotation := none, pos := p1 }, { arg := a, annotation := none, pos := p2 }], vararg := none, kwonlyargs := [], kw_defaults := [], kwarg := none, defaults := [] }
def iA2 (a b : Str) (p1 p2 p3 : Pos) : Arguments := { posonlyargs := [], args := [{ arg := "self", annotation := none, pos := p1 }, { arg := a, annotation := none, pos := p2 }, { arg := b, annotation := none, pos := p3 }], vararg := none, kwonlyargs := [], kw_defaults := [], kwarg := none, defaults := [] }
def iSup (es : List Expr) (p0 p1 p2 p3 p4 : Pos) : Stmt := .Expr (.Call (.Attribute (.Call (.Name "super" p0) [] [] p1) "__init__" p2) es [] p3) p4
def iSt (a : Str) (q1 q2 q3 q4 : Pos) : Stmt := .Assign [.Attribute (.Name "self" q1) a q2] (.Name a q3) q4
def iS1 (a : Str) : Scope := { kind := .function, names := [(PySem.Str.ofString "self", .local), (a, .local), (PySem.Str.ofString "__class__", .free), (PySem.Str.ofString "super", .globalImplicit)], isGenerator := false, isCoroutine := false, more := [] }
def iS2 (a b : Str) : Scope := { kind := .function, names := [(PySem.Str.ofString "self", .local), (a, .local), (b, .local), (PySem.Str.ofString "__class__", .free), (PySem.Str.ofString "super", .globalImplicit)], isGenerator := false, isCoroutine := false, more := [] }
/-- a name that may be a field's -/
structure NmOk (a : Str) : Prop where
  n1 : (("super" : Str) == a) = false
  n2 : (("__class__" : Str) == a) = false
  n3 : (("self" : Str) == a) = false
  n4 : (a == ("self" : Str)) = false
  n5 : (a == ("__debug__" : Str)) = false
theorem lk_ne {κ α : Type} [BEq κ] {x k : κ} {v : α} {l : List (κ × α)} (h : (x == k) = false) : ((k, v) :: l).lookup x = l.lookup x := by
  rw [List.lookup_cons, h]
theorem lk_eq {κ α : Type} [BEq κ] {x k : κ} {v : α} {l : List (κ × α)} (h : (x == k) = true) : ((k, v) :: l).lookup x = some v := by
  rw [List.lookup_cons, h]
theorem iS1_ok {a : Str} (h : NmOk a) : XSc (iS1 a) := by
  refine ⟨?_, ?_, ?_, ?_, rfl, rfl, rfl⟩
  · unfold iS1
    rw [lk_ne (by decide), lk_ne h.n1, lk_ne (by decide), lk_eq (by decide)]
  · unfold iS1
    rw [lk_ne (by decide), lk_ne h.n2, lk_eq (by decide)]
  · unfold iS1
    rw [lk_eq (by decide)]
  · intro x hx
    unfold iS1 at hx
    simp at hx
    rcases hx with rfl | rfl | rfl | rfl <;> simp
theorem iS2_ok {a b : Str} (h : NmOk a) (h' : NmOk b) : XSc (iS2 a b) := by
  refine ⟨?_, ?_, ?_, ?_, rfl, rfl, rfl⟩
  · unfold iS2
    rw [lk_ne (by decide), lk_ne h.n1, lk_ne h'.n1, lk_ne (by decide), lk_eq (by decide)]
  · unfold iS2
    rw [lk_ne (by decide), lk_ne h.n2, lk_ne h'.n2, lk_eq (by decide)]
  · unfold iS2
    rw [lk_eq (by decide)]
  · intro x hx
    unfold iS2 at hx
    simp at hx
    rcases hx with rfl | rfl | rfl | rfl | rfl <;> simp
/-- what such an __init__ leaves of a fresh exception at x -/
structure XEnd (h h' : Heap) (x C dx : Addr) (m : Str → Option Value) : Prop where
  keep : ∀ b o, b ≠ x → h.get? b = some o → h'.get? b = some o
  obj : ∃ t1 : Addr, h'.get? x = some { cls := .ref C, dict := some dx, data := .fields #[.ref t1, .none, .none, .none, .bool false, .none] }
  dbig : h.objs.size ≤ dx
  dne : dx ≠ x
  ns : h'.Ns1 dx m
/-- a made one -/
structure XMade (h h' : Heap) (e C d : Addr) (m : Str → Option Value) : Prop where
  keep : ∀ b o, h.get? b = some o → h'.get? b = some o
  new : h.objs.size ≤ e
  obj : ∃ oe vs, h'.get? e = some oe ∧ oe.cls = .ref C ∧ oe.dict = some d ∧ oe.data = .fields vs ∧ vs[1]? = some .none
  dbig : h.objs.size ≤ d
  dne : d ≠ e
  ns : h'.Ns1 d m
section
variable {P : Program} {w : World} {A : Around} {E : Value → Shared → Prop} {R : Result → Shared → Prop} {K : Frag} {mg : Str → Option Value} {C fI cc cda : Addr} {qual : Str} {h : Heap} {g : Array GenState} {d : Drawn} {t : Nat} {os : OsState}
theorem ld_x {M : Model} {s : Shared} {sc : Scope} {L fI cc : Addr} {cd : Value} {m : Str → Option Value} {x : Str} {pos : Pos} {v : Value} {Q : Value → Shared → Prop} (hn : s.heap.Ns L m) (hv : m x = some v) (h : Q v s) (hk : sc.kind = .function) (hl : sc.names.lookup x = some .local) (hd : (x == ("__debug__" : Str)) = false) :
    wpAny M A (eval (.Name x pos) (ksEnv qual sc L fI cd cc)) Q E s := wpAny_Name (wpAny_loadName_local hk hl hn hv h) hd
/-- the walk of the text: what rfl tells of it -/
structure XTx (qual : Str) (fI cda cc : Addr) (sc : Scope) (es : List Expr) (q0 q1 q2 q3 q4 : Pos) : Prop where
  ev : ∀ L, ∃ pl, eval (.Call (.Attribute (.Call (.Name "super" q0) [] [] q1) "__init__" q2) es [] q3) (ksEnv qual sc L fI (.ref cda) cc) = (do
      let ov ← attributeBase (.Call (.Name "super" q0) [] [] q1) "__init__" (ksEnv qual sc L fI (.ref cda) cc) (eval (.Call (.Name "super" q0) [] [] q1) (ksEnv qual sc L fI (.ref cda) cc))
      standAt q2.atName
      let (f, first) ← holding [ov] (getMethod ov "__init__" pl)
      callWith q3 f first (backTo q3 (starEach es (ksEnv qual sc L fI (.ref cda) cc))) [])
  sw : ∀ L, swapsWith (.Call (.Attribute (.Call (.Name "super" q0) [] [] q1) "__init__" q2) es [] q3) none q4.line (ksEnv qual sc L fI (.ref cda) cc) = pure false
abbrev XSw (qual : Str) (fI cda cc : Addr) (sc : Scope) (a : Str) (r1 r2 r3 r4 : Pos) : Prop := ∀ L, swapsWith (.Name a r3) (some (.Attribute (.Name "self" r1) a r2)) r4.line (ksEnv qual sc L fI (.ref cda) cc) = pure false
theorem kept_but {h' : Heap} {x : Addr} (X : K.In h) (hx : K.lookup x = none) (k : ∀ b o, b ≠ x → h.get? b = some o → h'.get? b = some o) : K.In h' := fun a o e =>
  k a o (fun z => by rw [z, hx] at e; cases e) (X a o e)
theorem xi_init1 {a : Str} {p1 p2 q0 q1 q2 q3 q4 r1 r2 r3 r4 u1 : Pos} (T : XIn P K mg C fI cc cda qual (iA1 a p1 p2) [iSup [.Name a u1] q0 q1 q2 q3 q4, iSt a r1 r2 r3 r4] (iS1 a)) (ha : NmOk a) (na : findIn K (.ref C) a = some none)
    (tx : XTx qual fI cda cc (iS1 a) [.Name a u1] q0 q1 q2 q3 q4) (ts : XSw qual fI cda cc (iS1 a) a r1 r2 r3 r4)
    {x t0 : Addr} {v : Value} (X : K.In h) (hlim : h.NoLimit) (hg : h.Ns mainGlobals mg) (hb : ∃ mb, h.Ns builtinsNs mb ∧ ∀ x : Str, x ≠ "__name__" → mb x = bootBuiltins x)
    (hx : h.get? x = some (excO C t0)) (hkx : K.lookup x = none) (hroom : A.depth < recursionLimit) (hbd : ∀ fd : FuncData, fd.params = iA1 a p1 p2 → fd.defaults = .none → ∀ s, BindsTo s fd ⟨[.ref x, v], []⟩ [("self", .ref x), (a, v)])
    (hq : ∀ h' tk dx, XEnd h h' x C dx (fun y => if y = a then some v else none) → R (.ok (.ret .none)) ⟨h', g, d, tk, os⟩) :
    codeAny (model P w) A (.call (.ref fI) ⟨[.ref x, v], []⟩) R ⟨h, g, d, t, os⟩ := by
  have S := iS1_ok ha
  obtain ⟨nm, q, N, bs, bm, sn, sub, ab, col, dd, k0, k1, k2, k3, k5, hC, hbm⟩ := T.cls
  have hcl : clsIn K C = some { name := nm, bases := bs, mro := .ref C :: bm, ns := N, qualname := q, hasDict := true, slotNames := sn, subclasses := sub, abstract := ab, collection := col, hasDel := false } := by unfold clsIn; rw [hC] <;> rfl
  obtain ⟨oc, od, kV, doc, pm, an, ct, osl, hf⟩ := T.fn
  have la : (iS1 a).names.lookup a = some .local := by
    unfold iS1
    rw [lk_ne ha.n4, lk_eq (by simp)]
  refine ks_codeAny_call_defAt (binds := [("self", .ref x), (a, v)]) hroom (X _ _ hf) rfl hlim (codeRec_of X T.cd) rfl (hbd _ rfl rfl _) S.s4 (fun y hy => ?_) (fun h₁ hns k => ?_) rfl rfl rfl
  · rcases List.mem_cons.mp hy with rfl | hy
    · exact S.s3
    · rcases List.mem_cons.mp hy with rfl | hy
      · exact la
      · cases hy
  have mself : (fun y => ([("self", Value.ref x), (a, v)] : List (Str × Value)).reverse.lookup y) "self" = some (.ref x) := by
    show List.lookup _ [(a, v), ("self", Value.ref x)] = _
    rw [lk_ne ha.n3, lk_eq (by decide)]
  have ma : (fun y => ([("self", Value.ref x), (a, v)] : List (Str × Value)).reverse.lookup y) a = some v := by
    show List.lookup _ [(a, v), ("self", Value.ref x)] = _
    rw [lk_eq (by simp)]
  obtain ⟨pl, ev⟩ := tx.ev h.objs.size
  refine ks_wpAt_execs_cons (xi_super T S rfl rfl (X.keeps k) hns mself (k _ _ hx) (hg.keeps k) (let ⟨mb, b1, b2⟩ := hb; ⟨mb, b1.keeps k, b2⟩) (us := [v]) (fun s Q hn q => ?_) (by rw [sizeLine_eq]; exact (by decide : 1 ≤ 16777216)) (fun h₂ tk₂ t1 k₂ e₂ => ?_) (pl := pl) ev rfl (tx.sw _) rfl rfl)
  · exact spliced_more (ld_x hn ma (spliced_none q) rfl la ha.n5)
  have hLx : h.objs.size ≠ x := Nat.ne_of_gt (Heap.lt_size hx)
  have hns₂ : h₂.Ns h.objs.size (fun y => ([("self", Value.ref x), (a, v)] : List (Str × Value)).reverse.lookup y) := hns.at fun o e => k₂ _ _ hLx e
  have K₂ : K.In h₂ := kept_but (X.keeps k) hkx k₂
  refine wpAt_of_wpAny (wpAny_execs_cons (plainObj_wpAny_Assign_Attribute ?_ (ts _)))
  refine ld_x hns₂ ma ?_ rfl la ha.n5
  refine ld_x hns₂ mself ?_ rfl S.s3 (by decide)
  refine set_plain K₂ (ox := excO C t1) (od := none) ⟨e₂, rfl, rfl, trivial⟩ T.sa ?_
  refine exc_osa K₂ e₂ hcl (show refsVE (.ref C :: bm) = true from hbm) rfl na (fun h₃ tk₃ dx k₃ dn dne hx₃ hn₃ => ?_)
  show wpAny _ _ (execs _ _) _ _ _
  exact wpAny_execs_nil (hq h₃ tk₃ dx ⟨fun b o hb e => k₃ b o hb (k₂ b o hb (k b o e)), ⟨_, hx₃⟩, Nat.le_trans (Nat.le_of_lt hns₂.lt) dn, dne, hn₃⟩)
theorem xi_init2 {a b : Str} {p1 p2 p3 q0 q1 q2 q3 q4 r1 r2 r3 r4 t1 t2 t3 t4 u1 u2 : Pos} (T : XIn P K mg C fI cc cda qual (iA2 a b p1 p2 p3) [iSup [.Name a u1, .Name b u2] q0 q1 q2 q3 q4, iSt a r1 r2 r3 r4, iSt b t1 t2 t3 t4] (iS2 a b)) (ha : NmOk a) (hb' : NmOk b) (hab : (a == b) = false) (hba : (b == a) = false)
    (na : findIn K (.ref C) a = some none) (nb : findIn K (.ref C) b = some none)
    (tx : XTx qual fI cda cc (iS2 a b) [.Name a u1, .Name b u2] q0 q1 q2 q3 q4) (ts : XSw qual fI cda cc (iS2 a b) a r1 r2 r3 r4) (ts2 : XSw qual fI cda cc (iS2 a b) b t1 t2 t3 t4)
    {x t0 : Addr} {v v2 : Value} (X : K.In h) (hlim : h.NoLimit) (hg : h.Ns mainGlobals mg) (hb : ∃ mb, h.Ns builtinsNs mb ∧ ∀ x : Str, x ≠ "__name__" → mb x = bootBuiltins x)
    (hx : h.get? x = some (excO C t0)) (hkx : K.lookup x = none) (hroom : A.depth < recursionLimit) (hbd : ∀ fd : FuncData, fd.params = iA2 a b p1 p2 p3 → fd.defaults = .none → ∀ s, BindsTo s fd ⟨[.ref x, v, v2], []⟩ [("self", .ref x), (a, v), (b, v2)])
    (hq : ∀ h' tk dx, XEnd h h' x C dx (fun y => if y = b then some v2 else if y = a then some v else none) → R (.ok (.ret .none)) ⟨h', g, d, tk, os⟩) :
    codeAny (model P w) A (.call (.ref fI) ⟨[.ref x, v, v2], []⟩) R ⟨h, g, d, t, os⟩ := by
  have S := iS2_ok ha hb'
  obtain ⟨nm, q, N, bs, bm, sn, sub, ab, col, dd, k0, k1, k2, k3, k5, hC, hbm⟩ := T.cls
  have hcl : clsIn K C = some { name := nm, bases := bs, mro := .ref C :: bm, ns := N, qualname := q, hasDict := true, slotNames := sn, subclasses := sub, abstract := ab, collection := col, hasDel := false } := by unfold clsIn; rw [hC] <;> rfl
  obtain ⟨oc, od, kV, doc, pm, an, ct, osl, hf⟩ := T.fn
  have la : (iS2 a b).names.lookup a = some .local := by
    unfold iS2
    rw [lk_ne ha.n4, lk_eq (by simp)]
  have lb : (iS2 a b).names.lookup b = some .local := by
    unfold iS2
    rw [lk_ne hb'.n4, lk_ne hba, lk_eq (by simp)]
  refine ks_codeAny_call_defAt (binds := [("self", .ref x), (a, v), (b, v2)]) hroom (X _ _ hf) rfl hlim (codeRec_of X T.cd) rfl (hbd _ rfl rfl _) S.s4 (fun y hy => ?_) (fun h₁ hns k => ?_) rfl rfl rfl
  · rcases List.mem_cons.mp hy with rfl | hy
    · exact S.s3
    · rcases List.mem_cons.mp hy with rfl | hy
      · exact la
      · rcases List.mem_cons.mp hy with rfl | hy
        · exact lb
        · cases hy
  have mself : (fun y => ([("self", Value.ref x), (a, v), (b, v2)] : List (Str × Value)).reverse.lookup y) "self" = some (.ref x) := by
    show List.lookup _ [(b, v2), (a, v), ("self", Value.ref x)] = _
    rw [lk_ne hb'.n3, lk_ne ha.n3, lk_eq (by decide)]
  have ma : (fun y => ([("self", Value.ref x), (a, v), (b, v2)] : List (Str × Value)).reverse.lookup y) a = some v := by
    show List.lookup _ [(b, v2), (a, v), ("self", Value.ref x)] = _
    rw [lk_ne hab, lk_eq (by simp)]
  have mb' : (fun y => ([("self", Value.ref x), (a, v), (b, v2)] : List (Str × Value)).reverse.lookup y) b = some v2 := by
    show List.lookup _ [(b, v2), (a, v), ("self", Value.ref x)] = _
    rw [lk_eq (by simp)]
  obtain ⟨pl, ev⟩ := tx.ev h.objs.size
  refine ks_wpAt_execs_cons (xi_super T S rfl rfl (X.keeps k) hns mself (k _ _ hx) (hg.keeps k) (let ⟨mb, b1, b2⟩ := hb; ⟨mb, b1.keeps k, b2⟩) (us := [v, v2]) (fun s Q hn q => ?_) (by rw [sizeLine_eq]; exact (by decide : 2 ≤ 16777216)) (fun h₂ tk₂ t1 k₂ e₂ => ?_) (pl := pl) ev rfl (tx.sw _) rfl rfl)
  · exact spliced_more (ld_x hn ma (spliced_more (ld_x hn mb' (spliced_none q) rfl lb hb'.n5)) rfl la ha.n5)
  have hLx : h.objs.size ≠ x := Nat.ne_of_gt (Heap.lt_size hx)
  have hns₂ : h₂.Ns h.objs.size (fun y => ([("self", Value.ref x), (a, v), (b, v2)] : List (Str × Value)).reverse.lookup y) := hns.at fun o e => k₂ _ _ hLx e
  have K₂ : K.In h₂ := kept_but (X.keeps k) hkx k₂
  refine wpAt_of_wpAny (wpAny_execs_cons (plainObj_wpAny_Assign_Attribute ?_ (ts _)))
  refine ld_x hns₂ ma ?_ rfl la ha.n5
  refine ld_x hns₂ mself ?_ rfl S.s3 (by decide)
  refine set_plain K₂ (ox := excO C t1) (od := none) ⟨e₂, rfl, rfl, trivial⟩ T.sa ?_
  refine exc_osa K₂ e₂ hcl (show refsVE (.ref C :: bm) = true from hbm) rfl na (fun h₃ tk₃ dx k₃ dn dne hx₃ hn₃ => ?_)
  have K₃ : K.In h₃ := kept_but K₂ hkx k₃
  have hns₃ : h₃.Ns h.objs.size (fun y => ([("self", Value.ref x), (a, v), (b, v2)] : List (Str × Value)).reverse.lookup y) := hns₂.at fun o e => k₃ _ _ hLx e
  show wpAny _ _ (execs _ _) _ _ _
  refine wpAny_execs_cons (plainObj_wpAny_Assign_Attribute ?_ (ts2 _))
  refine ld_x hns₃ mb' ?_ rfl lb hb'.n5
  refine ld_x hns₃ mself ?_ rfl S.s3 (by decide)
  obtain ⟨oD, esD, epD, hoD, hdD, _⟩ := hn₃.count (ns := [a]) (fun y hy => by
    by_cases e : y = a
    · simp [e]
    · rw [if_neg e] at hy; exact absurd rfl hy)
  refine set_plain K₃ (ox := { cls := .ref C, dict := some dx, data := .fields #[.ref t1, .none, .none, .none, .bool false, .none] }) (od := some oD) ⟨hx₃, rfl, rfl, hoD⟩ T.sa ?_
  refine PySem.OEX.osa_old K₃ hx₃ hn₃ (nl := [a]) (fun y hy => by
    by_cases e : y = a
    · simp [e]
    · rw [if_neg e] at hy; exact absurd rfl hy) (show 1 ≤ 1000 by decide) hcl (show refsVE (.ref C :: bm) = true from hbm) rfl nb (fun h₄ tk₄ k₄ hn₄ => ?_)
  show wpAny _ _ (execs _ _) _ _ _
  have dbig : h.objs.size < dx := Nat.lt_of_lt_of_le hns₂.lt dn
  exact wpAny_execs_nil (hq h₄ tk₄ dx ⟨fun y o hb e => k₄ y o (fun z => by rw [z] at e; exact absurd (Heap.lt_size e) (Nat.not_lt_of_lt dbig)) (k₃ y o hb (k₂ y o hb (k y o e))), ⟨_, k₄ _ _ (Ne.symm dne) hx₃⟩, Nat.le_of_lt dbig, dne, hn₄⟩)

/-- the class called -/
theorem xs_made {rest : List Value} {m : Str → Option Value} {ag : Arguments} {bd : List Stmt} {sc : Scope} (T : XIn P K mg C fI cc cda qual ag bd sc) (X : K.In h) (hz : rest.length ≤ sizeLine)
    (hI : ∀ {A' : Around} {h' : Heap} {x : Addr} {R' : Result → Shared → Prop}, A'.depth = A.depth + 1 → (∀ b o, h.get? b = some o → h'.get? b = some o) → h'.get? x = some (excO C h.objs.size) → K.lookup x = none → 
      (∀ h'' tk dx, XEnd h' h'' x C dx m → R' (.ok (.ret .none)) ⟨h'', g, d, tk, os⟩) → codeAny (model P w) A' (.call (.ref fI) ⟨.ref x :: rest, []⟩) R' ⟨h', g, d, t, os⟩)
    (hq : ∀ h' tk e dx, XMade h h' e C dx m → R (.ok (.ret (.ref e))) ⟨h', g, d, tk, os⟩) :
    codeAny (model P w) A (.call (.ref C) ⟨rest, []⟩) R ⟨h, g, d, t, os⟩ := by
  obtain ⟨nm, q, N, bs, bm, sn, sub, ab, col, dd, k0, k1, k2, k3, k5, hC, hbm⟩ := T.cls
  have k : ∀ b o, h.get? b = some o → ((h.push (kdv_tup rest)).push (excO C h.objs.size)).get? b = some o := fun b o e => Heap.get?_push_of_some _ (Heap.get?_push_of_some _ e)
  have hget : ((h.push (kdv_tup rest)).push (excO C h.objs.size)).get? (h.objs.size + 1) = some (excO C h.objs.size) := by heap_get
  have hnx : K.lookup (h.objs.size + 1) = none := by
    cases e : K.lookup (h.objs.size + 1) with
    | none => rfl
    | some o =>
      have z : h.get? (h.objs.size + 1) = some o := X _ _ e
      exact absurd (Nat.lt_of_succ_lt (Heap.lt_size z)) (Nat.lt_irrefl _)
  refine call_own F.excBase_ValueError (fun X => refsVE_contains X bm hbm) (X _ _ hC) (looks_findIn X T.iC) (fun self => bind_fn X self T.tC) hz ?_
  refine hI rfl k hget hnx fun h' tk' dx ⟨k', ⟨t1, hx⟩, dn, dne, hns⟩ => ?_
  have old : ∀ b o, h.get? b = some o → h'.get? b = some o := fun b o e => k' b o (Nat.ne_of_lt (Nat.lt_succ_of_lt (Heap.lt_size e))) (k b o e)
  have z : h.objs.size + 1 + 1 ≤ dx := by
    first
      | (simpa only [Heap.size_push] using dn)
      | exact dn
      | (have q := dn; rw [Heap.size_push, Heap.size_push] at q; exact q)
  exact ⟨rfl, hq h' tk' (h.objs.size + 1) dx ⟨old, Nat.le_succ _, ⟨_, _, hx, rfl, rfl, rfl, rfl⟩, Nat.le_trans (Nat.le_trans (Nat.le_succ _) (Nat.le_succ _)) z, dne, hns⟩⟩
end
/-- what is told of an own exception class at C, named x, whose __init__ stores its arguments under fs -/
structure XC (P : Program) (K : Frag) (mg : Str → Option Value) (x : Str) (C : Addr) (fs : List Str) : Prop where
  gC : mg x = some (.ref C)
  kC : keepIn K (.ref C) = true
  exC : subIn K (.ref C) (.type "BaseException") = some true
  tyC : typeIn K (.ref C) = some (.type "type")
  made : ∀ (w : World) (A : Around) (h : Heap) (g : Array GenState) (d : Drawn) (t : Nat) (os : OsState) (R : Result → Shared → Prop) (rest : List Value), rest.length = fs.length → K.In h → h.NoLimit → h.Ns mainGlobals mg → (∃ mb, h.Ns builtinsNs mb ∧ ∀ x : Str, x ≠ "__name__" → mb x = bootBuiltins x) →
    A.depth + 1 < recursionLimit → (∀ h' tk e dx, XMade h h' e C dx (fun y => (fs.zip rest).lookup y) → R (.ok (.ret (.ref e))) ⟨h', g, d, tk, os⟩) → codeAny (model P w) A (.call (.ref C) ⟨rest, []⟩) R ⟨h, g, d, t, os⟩
section
variable {P : Program} {K : Frag} {mg : Str → Option Value} {C fI cc cda : Addr} {qual x : Str}
theorem xc1 {a : Str} {ag : Arguments} {bd : List Stmt} {sc : Scope} (gC : mg x = some (.ref C)) (T : XIn P K mg C fI cc cda qual ag bd sc) {p1 p2 q0 q1 q2 q3 q4 r1 r2 r3 r4 u1 : Pos} (eag : ag = iA1 a p1 p2) (ebd : bd = [iSup [.Name a u1] q0 q1 q2 q3 q4, iSt a r1 r2 r3 r4]) (esc : sc = iS1 a)
    (ha : NmOk a) (na : findIn K (.ref C) a = some none) (tx : XTx qual fI cda cc (iS1 a) [.Name a u1] q0 q1 q2 q3 q4) (ts : XSw qual fI cda cc (iS1 a) a r1 r2 r3 r4)
    (hbd : ∀ (e v : Value) (fd : FuncData), fd.params = iA1 a p1 p2 → fd.defaults = .none → bindArgs fd ⟨[e, v], []⟩ = pure ([("self", e), (a, v)] : List (Str × Value))) : XC P K mg x C [a] := by
  subst eag ebd esc
  refine ⟨gC, T.kC, T.exC, T.tyC, fun w A h g d t os R rest hl X hlim hg hb hr hq => ?_⟩
  match rest, hl with
  | [v], _ =>
    refine xs_made (m := fun y => if y = a then some v else none) T X (by rw [sizeLine_eq]; exact (by decide : 1 ≤ 16777216)) (fun {A' h' x R'} hA k hx hkx q => ?_) fun h' tk e dx M => hq h' tk e dx ?_
    · exact xi_init1 T ha na tx ts (X.keeps k) (hlim.keeps k) (hg.keeps k) (let ⟨mb, b1, b2⟩ := hb; ⟨mb, b1.keeps k, b2⟩) hx hkx (by rw [hA]; exact hr) (fun fd e1 e2 s => .of_eq (hbd _ _ fd e1 e2)) q
    · have e2 : (fun y => (([a] : List Str).zip [v]).lookup y) = fun y => if y = a then some v else none := funext fun y => by
        show List.lookup y [(a, v)] = _
        by_cases c : y = a
        · rw [if_pos c, lk_eq (by simp [c])]
        · rw [if_neg c, lk_ne (by simp [c])]; rfl
      rw [e2]; exact M
theorem xc2 {a b : Str} {ag : Arguments} {bd : List Stmt} {sc : Scope} (gC : mg x = some (.ref C)) (T : XIn P K mg C fI cc cda qual ag bd sc) {p1 p2 p3 q0 q1 q2 q3 q4 r1 r2 r3 r4 t1 t2 t3 t4 u1 u2 : Pos} (eag : ag = iA2 a b p1 p2 p3) (ebd : bd = [iSup [.Name a u1, .Name b u2] q0 q1 q2 q3 q4, iSt a r1 r2 r3 r4, iSt b t1 t2 t3 t4]) (esc : sc = iS2 a b)
    (ha : NmOk a) (hb' : NmOk b) (hab : (a == b) = false) (hba : (b == a) = false) (na : findIn K (.ref C) a = some none) (nb : findIn K (.ref C) b = some none) (tx : XTx qual fI cda cc (iS2 a b) [.Name a u1, .Name b u2] q0 q1 q2 q3 q4) (ts : XSw qual fI cda cc (iS2 a b) a r1 r2 r3 r4) (ts2 : XSw qual fI cda cc (iS2 a b) b t1 t2 t3 t4)
    (hbd : ∀ (e v v2 : Value) (fd : FuncData), fd.params = iA2 a b p1 p2 p3 → fd.defaults = .none → bindArgs fd ⟨[e, v, v2], []⟩ = pure ([("self", e), (a, v), (b, v2)] : List (Str × Value))) : XC P K mg x C [a, b] := by
  subst eag ebd esc
  refine ⟨gC, T.kC, T.exC, T.tyC, fun w A h g d t os R rest hl X hlim hg hb hr hq => ?_⟩
  match rest, hl with
  | [v, v2], _ =>
    refine xs_made (m := fun y => if y = b then some v2 else if y = a then some v else none) T X (by rw [sizeLine_eq]; exact (by decide : 2 ≤ 16777216)) (fun {A' h' x R'} hA k hx hkx q => ?_) fun h' tk e dx M => hq h' tk e dx ?_
    · exact xi_init2 T ha hb' hab hba na nb tx ts ts2 (X.keeps k) (hlim.keeps k) (hg.keeps k) (let ⟨mb, b1, b2⟩ := hb; ⟨mb, b1.keeps k, b2⟩) hx hkx (by rw [hA]; exact hr) (fun fd e1 e2 s => .of_eq (hbd _ _ _ fd e1 e2)) q
    · have e2 : (fun y => (([a, b] : List Str).zip [v, v2]).lookup y) = fun y => if y = b then some v2 else if y = a then some v else none := funext fun y => by
        show List.lookup y [(a, v), (b, v2)] = _
        by_cases c : y = a
        · have nb : ¬ y = b := fun z => by
            rw [← c, ← z] at hab
            simp at hab
          rw [if_neg nb, if_pos c, lk_eq (by simp [c])]
        · rw [lk_ne (by simp [c]), if_neg c]
          by_cases c2 : y = b
          · rw [if_pos c2, lk_eq (by simp [c2])]
          · rw [if_neg c2, lk_ne (by simp [c2])]; rfl
      rw [e2]; exact M
end
end Mz
namespace L2
open PySem PySem.Spec PyProof.Rows
theorem relO_zip : ∀ (fs : List Str) {vs : List V} {us : List Value}, Vals vs us → ∀ f, RelO ((fs.zip vs).lookup f) ((fs.zip us).lookup f)
  | [], _, _, _, f => by simp [List.lookup, RelO]
  | a :: fs, _, _, .nil, f => by simp [List.lookup, RelO]
  | a :: fs, _, _, .cons r rr, f => by
    rw [List.zip_cons_cons, List.zip_cons_cons]
    by_cases c : f = a
    · rw [Mz.lk_eq (by simp [c]), Mz.lk_eq (by simp [c])]
      exact r
    · rw [Mz.lk_ne (by simp [c]), Mz.lk_ne (by simp [c])]
      exact relO_zip fs rr f
/-- C(e, ..) -/
def tMkX (C : Addr) (fs : List Str) (ta : TA) : St → Hp → XK → Prop := fun σ H Q => ta σ H fun vs H1 => vs.length = fs.length ∧ ∀ d, H1 d = none → Q (.ref C) (some d) (upd H1 d (.xd (fs.zip vs)))
theorem pmk_xc {X : Cx} {x : Str} {C : Addr} {fs : List Str} {e : Expr} {es : List Expr} {ta : TA} {p pos : Pos} {k : Nat} (T : Mz.XC X.prog X.K X.mg x C fs) (hr : Room k X.A) (ha : PA X (e :: es) ta) (hg : Gl X x) (hdb : (x == ("__debug__" : Str)) = false := by decide)
    (he : starEach (e :: es) X.env = (false, eval e X.env) :: starEach es X.env := by rfl) (hpl : (backTo pos (starEach es X.env)).any (·.1) = false := by rfl) :
    PMk X (.Call (.Name x p) (e :: es) [] pos) (tMkX C fs ta) := by
  intro pins s σ H Q I h
  refine wpAny_Call_Name_kw (ld_glob I hg T.gC ?_ hdb)
  refine PySem.W.callWith_K (h₀ := X.base) I.ok.mod.kin T.kC (thn (ha.run pos pins s σ H _ I h) fun us s1 hh => ?_) he hpl
  obtain ⟨vs, H1, I1, r1, hl, q1⟩ := hh
  refine ⟨I1.kIn, ?_⟩
  show wpAny _ _ (call (.ref C) us) _ _ _
  have hlim := I1.nolimit
  have hbk := I1.bk
  have hgl := I1.mod.glob.keeps hbk
  have hbl : ∃ mb, s1.heap.Ns builtinsNs mb ∧ ∀ x : Str, x ≠ "__name__" → mb x = bootBuiltins x := let ⟨mb, b1, b2⟩ := I1.mod.blt; ⟨mb, b1.keeps hbk, b2⟩
  obtain ⟨hp, g, dr, tk, os⟩ := s1
  have hus : us.length = fs.length := by rw [← r1.length]; exact hl
  refine wpAny_call (T.made X.w _ hp g dr tk os _ us hus I1.kIn hlim hgl hbl (by have := hr.dp; omega) fun h' tk' e d M => ?_)
  show MkP X pins σ Q (.ref e) ⟨h', g, dr, tk', os⟩
  obtain ⟨oe, fv, hoe, hc, hd, hdat, h1⟩ := M.obj
  have hns := M.ns
  obtain ⟨G', g1, g2⟩ := restrict h' fun b => decide (b ≠ e)
  have gk : ∀ b, b ≠ e → G'.get? b = h'.get? b := fun b hb => g1 b (decide_eq_true hb)
  have ge : G'.get? e = none := g2 e (by simp)
  have old : ∀ b o, hp.get? b = some o → G'.get? b = some o := fun b o q => (gk b (Nat.ne_of_lt (Nat.lt_of_lt_of_le (Heap.lt_size q) M.new))).trans (M.keep b o q)
  have ob : ObjOk X.prog X.w (upd H1 d (.xd (fs.zip vs))) G' d (.xd (fs.zip vs)) :=
    ⟨_, hns.at (fun o q => (gk d M.dne).trans q), fun f => relO_zip fs r1 f⟩
  have J : Inv X pins σ (upd H1 d (.xd (fs.zip vs))) ⟨G', g, dr, tk', os⟩ := I1.laid (t' := tk') old M.dbig ob
  refine ⟨e, oe, fv, ⟨G', g, dr, tk', os⟩, _, .ref C, some d, rfl, J, fun b o q => ?_, ge, hoe, ⟨hc, hd⟩, hdat, h1, ?_, rfl, I1.bare, raises_own T.exC T.tyC, q1 d (I1.hok.fresh M.dbig)⟩
  · by_cases hb : b = e
    · have q' : G'.get? b = some o := q
      rw [hb, ge] at q'; cases q'
    · exact (gk b hb).symm.trans q
  · rw [upd_ne (Ne.symm M.dne)]
    exact I1.hok.fresh M.new
end L2
namespace Mz
open PySem PySem.Spec PyProof.Rows L2
section
variable {z : Z} {o o1 : Own} {e : Expr} {es : List Expr} {ma : M (List D)} {pos : Pos}
/-- raise X(..), n the class's id -/
def sRaise (n : Nat) (fs : List Str) (ma : M (List D)) : MS := fun e p => (ma e p).st e fun ds p => if ds.length = fs.length then .err ⟨n, fs.zip ds⟩ e p else .stuck
theorem repF_zip {K : PySem.W.Frag} {ca : CA} {G : Hp} : ∀ (fs : List Str) {vs : List V} {ds : List D}, Reps K ca G vs ds → RepF K ca G (fs.zip vs) (fs.zip ds)
  | [], _, _, _ => .nil
  | _ :: _, _, _, .nil => .nil
  | a :: fs, _, _, .cons r rr => .cons r (repF_zip fs rr)
theorem ms_raise {x : Str} {n k : Nat} {fs : List Str} {p pos2 : Pos} (hc : z.X.calm = true) (T : XC z.X.prog z.X.K z.X.mg x (z.c.ca n) fs) (hr : Room k z.X.A) (tk : Takes z.X z.W) (ha : MA z o (e :: es) ma) (hg : Gl z.X x := by rfl) (hdb : (x == ("__debug__" : Str)) = false := by decide)
    (he : starEach (e :: es) z.X.env = (false, eval e z.X.env) :: starEach es z.X.env := by rfl) (hpl : (backTo pos (starEach es z.X.env)).any (·.1) = false := by rfl) : MSt z o (.Raise (some (.Call (.Name x p) (e :: es) [] pos)) none pos2) (sRaise n fs ma) o1 :=
  ms_of (ps_raise hc tk (pmk_xc T hr ha hg hdb he hpl)) fun D' σ H G e p S q => by
    unfold sRaise at q
    refine ⟨G, e, p, S, (Cont.st q S).mono (fun ds p' k vs G' H' s S' r => ?_) fun x p' k => k⟩
    split at k
    · rename_i hl
      refine ⟨by rw [r.len]; exact hl, fun d hd => ?_⟩
      obtain ⟨S2, s2⟩ := S'.new (u := .xd (fs.zip vs)) hd (fun q => q)
      obtain ⟨G3, s3, S3⟩ := SR.none_of S2
      exact k _ _ σ G3 _ ((s.trans s2).trans s3) S3 ⟨rfl, d, _, rfl, s3 _ _ upd_same, repF_zip fs (r.mono (s2.trans s3))⟩
    · exact k.elim
end
end Mz
/-! Mz, part k: enumerate of a tuple. -/
namespace PySem
set_option maxHeartbeats 4000000 in
theorem mz_meets_enumerate {v : Value} {o : Obj} {H : Heap → Prop} (B : Begins v o H) :
    Meets (Builtin.«enumerate.__new__» ⟨[.type "enumerate", v], []⟩) (fun _ R s => H s.heap ∧
      R (.ok (.ret (.ref (s.heap.push o).objs.size))) { s with heap := (s.heap.push o).push { cls := .type "enumerate", data := .fields #[.none, .bool false, .ref s.heap.objs.size, rawInt 0, .none, .none] } }) :=
  .of_wp fun prog w A R s h => by
    obtain ⟨hp, g, d, tk, os⟩ := s; obtain ⟨h1, h⟩ := h
    have hsub := sub_enumerate
    have q1 : ∀ {A' : Around} {E : Value → Shared → Prop} {Q : Value → Shared → Prop}, Q (.ref hp.objs.size) ⟨hp.push o, g, d, tk, os⟩ → wpAny (model prog w) A' (pyIter v) Q E ⟨hp, g, d, tk, os⟩ :=
      fun q => B.iter prog w _ _ ⟨hp, g, d, tk, os⟩ _ h1 q
    wp_walk using q1
    refine wpAny_stack_any fun st => wpAny_pure ?_
    split
    · rename_i c _ _ _ _ _
      cases (c == Value.type "enumerate")
      · wp_walk using q1
        exact ⟨_, rfl, h⟩
      · wp_walk using q1
        exact ⟨_, rfl, h⟩
    · wp_walk using q1
      exact ⟨_, rfl, h⟩
section
variable {prog : Program} {w : World} {A : Around} {E : Value → Shared → Prop} {s : Shared}
theorem mz_enum_begins {v : Value} {o : Obj} {H : Heap → Prop} {Q : Value → Shared → Prop} (B : Begins v o H) (h1 : H s.heap)
    (h : ∀ h', IsEnum h' (s.heap.objs.size + 1) s.heap.objs.size 0 .none → h'.get? s.heap.objs.size = some o → h'.objs.size = s.heap.objs.size + 2 →
      (∀ b o, s.heap.get? b = some o → h'.get? b = some o) → Q (.ref (s.heap.objs.size + 1)) { s with heap := h' }) :
    wpAny (model prog w) A (call (.type "enumerate") [v]) Q E s := by
  refine callType_new F.called_enumerate (by decide) (F.typeCall_enumerate_1 _) (F.newCall_enumerate_1 _) (fun obj => F.args_object_init_2 obj _) F.entry_enumerate_new
    (mz_meets_enumerate B) ⟨h1, ?_⟩
  have hz : (s.heap.push o).objs.size = s.heap.objs.size + 1 := Heap.size_push ..
  show _ ∧ _
  rw [hz]
  have he : IsEnum ((s.heap.push o).push { cls := .type "enumerate", data := .fields #[.none, .bool false, .ref s.heap.objs.size, rawInt 0, .none, .none] }) (s.heap.objs.size + 1) s.heap.objs.size 0 .none := by
    have := Heap.get?_push_size (s.heap.push o) (o := { cls := .type "enumerate", data := .fields #[.none, .bool false, .ref s.heap.objs.size, rawInt 0, .none, .none] }) rfl
    rw [hz] at this; exact this
  refine ⟨⟨_, he, rfl⟩, h _ he (Heap.get?_push_of_some _ (Heap.get?_push_size _ B.free)) (by rw [Heap.size_push, hz]) fun b o x => Heap.get?_push_of_some _ (Heap.get?_push_of_some _ x)⟩
end
end PySem
namespace L2
open PySem PySem.Spec PyProof.Rows
/-- the tuple at a, each item in a new pair -/
def IteT (K : PySem.W.Frag) (a : Addr) : It :=
  ⟨fun i H => ∃ (xs : List V) (x : V), SqT K H a xs ∧ xs[i]? = some x, fun i H v H' => ∃ T x, v = .ref T ∧ H T = none ∧ H' = upd H T (.tup [.int (i : Nat), x]) ∧ ∀ xs, SqT K H a xs → xs[i]? = some x, fun i H => ∃ xs : List V, SqT K H a xs ∧ xs.length ≤ i⟩
theorem turn_enumT {P : Program} {w : World} {K : PySem.W.Frag} {elts : List Expr} {kk : Nat} {tpos : Pos} (a e it : Addr) (items : Array Value) :
    Turn P w K (.Tuple elts kk tpos) (IteT K a) [e, it] e (fun i h => (∃ old, IsEnum h e it ((i : Nat) : Int) old) ∧ h.IsTupleIter it a i ∧ e ≠ it ∧ e ≠ a ∧ a ≠ it) where
  mem := by simp
  obj := fun i h st b hb => by
    obtain ⟨⟨old, he⟩, ⟨o, ho, hc, hd⟩, _⟩ := st
    have e' : b = e ∨ b = it := by simpa using hb
    rcases e' with z | z
    · rw [z]; exact ⟨_, he, fun v q => nomatch q⟩
    · rw [z]; exact ⟨o, ho, fun v q => by rw [hd] at q; cases q⟩
  keep := fun i h h' st k => let ⟨⟨old, he⟩, hi, hne⟩ := st; ⟨⟨old, k e (by simp) _ he⟩, hi.at fun o q => k it (by simp) o q, hne⟩
  item := by
    intro X hP hw hK hc i pins s σ H E I hf st hg
    subst hP hw hK
    obtain ⟨⟨old, he⟩, hit, hne, hea, hai⟩ := st
    obtain ⟨xs, x, hq, hx⟩ := hg
    obtain ⟨its, rv, p, hz⟩ := I.tuple hq
    obtain ⟨u, hu, ru⟩ := rv.get hx
    have hel : e < s.heap.objs.size := Heap.lt_size he
    have hil : it < s.heap.objs.size := by obtain ⟨_, q, _⟩ := hit; exact Heap.lt_size q
    have hlt : i < its.toArray.size := by
      have := (List.getElem?_eq_some_iff.mp hu).1
      simpa using this
    refine wpAny_pyNext_enum_itemD (Draws.tuple (prog := X.prog) (w := X.w) (A := X.A.in1) (I.ok.hd hc) it a hai its.toArray) he ⟨hit, p⟩ hlt hne (by simp [hne, hea]) fun x' h' tk hx' ho hst' hT hsz hk => ?_
    have ex : x' = u := by
      have h1 : its[i]? = some x' := by simpa using hx'
      rw [hu] at h1; cases h1; rfl
    subst ex
    obtain ⟨hit', hta'⟩ := hst'
    refine ⟨_, rfl, wpAny_letOwnedTupleGo_enum (s := { s with heap := h', toks := tk + 1 }) ho fun h'' he' sb => ?_⟩
    have hT2 : h''.get? s.heap.objs.size = some { cls := .type "tuple", data := .seq #[.int i tk, x'] } := (sb.2 _ (Nat.ne_of_gt hel)).trans hT
    have new : ObjOk X.prog X.w (upd H s.heap.objs.size (.tup [.int (i : Nat), x])) h'' s.heap.objs.size (.tup [.int (i : Nat), x]) :=
      ⟨by show 2 ≤ sizeLine; decide, [.int i tk, x'], .cons ⟨_, rfl⟩ (.cons ru .nil), ⟨_, hT2, rfl, _, rfl⟩⟩
    have I1 : Inv X pins σ (upd H s.heap.objs.size (.tup [.int (i : Nat), x])) { s with heap := h'', toks := tk + 1 } :=
      I.turnedNew (ch := [e, it]) (fun b ob hb q => (sb.2 b (fun z => hb (by simp [z]))).trans (hk b ob (fun z => hb (by simp [z])) (fun z => hb (by simp [z])) q)) hf (Nat.le_refl _) new
    refine ⟨.ref s.heap.objs.size, _, I1, rfl, ⟨_, x, rfl, I.hok.fresh (Nat.le_refl _), rfl, fun ys hy => by rw [I.tuple_inj hy hq]; exact hx⟩, ⟨⟨x', ?_⟩, hit'.at fun o q => (sb.2 it (Ne.symm hne)).trans q, hne, hea, hai⟩, fun b hb => ?_⟩
    · have e1 : ((i + 1 : Nat) : Int) = (i : Int) + 1 := by omega
      rw [e1]; exact he'
    · have hb' : b < s.heap.objs.size := by
        have e' : b = e ∨ b = it := by simpa using hb
        rcases e' with z | z
        · rw [z]; exact hel
        · rw [z]; exact hil
      rw [upd_ne (Nat.ne_of_lt hb')]
      exact (hf b hb).1
  done := by
    intro X hP hw hK hc i pins s σ H E I hf st hg
    subst hP hw hK
    obtain ⟨⟨old, he⟩, hit, hne, hea, hai⟩ := st
    obtain ⟨xs, hq, hx⟩ := hg
    obtain ⟨its, rv, p, hz⟩ := I.tuple hq
    obtain ⟨f0, f1, f2, f3, f4, f5⟩ := hf it (by simp)
    have hl := rv.length
    -- the end is told at the items' number: by the wrapper's own walk
    have hT : s.TypeIs (.ref e) "enumerate" := ⟨_, he, rfl⟩
    unfold pyNext
    refine wpAny_bind (wpAny_attempt (wpAny_callSpecial?_slot (name := Str.ofString "__next__") hT F.slot_enumerate_next
      (wpAny_call_entry F.slot_enumerate_next hT F.entry_enumerate_next ?_ (F.args_enumerate_next_1 _))))
    show wpAny _ _ (field (.ref e) 2 >>= _) _ _ _
    refine wpAny_bind (wpAny_field he rfl (x := .ref it) rfl ?_)
    refine wpAny_bind (wpAny_nextOf_tuple_end (I.ok.hd hc) hit p (by simp; omega) fun h' e' hx' hse => ?_)
    obtain ⟨o, ho, hcs⟩ := hse
    refine wpAny_bind (wpAny_isInstance (T := "StopIteration") (b := true) ⟨o, ho, hcs⟩ isSubtype_stop ?_)
    exact wpAny_pure ⟨rfl, I.turned (t' := s.toks) (fun b o hb q => hx' b o hb q) f0 f1 f3 f4 f5⟩
  self := fun A i s Q E st h => let ⟨⟨_, he⟩, _⟩ := st; wpAny_pyIter_enum he h
def iEnumA (K : PySem.W.Frag) (ta : TA) : TI := fun σ H R => ta σ H fun vs H1 => ∃ a, vs = [.ref a] ∧ ((∃ xs, SqL K H1 a xs ∧ R (Ite K a) H1) ∨ ∃ xs, SqT K H1 a xs ∧ R (IteT K a) H1)
theorem pi_enumA {X : Cx} {e : Expr} {ta : TA} {p pos tpos : Pos} {elts : List Expr} {kk : Nat} (hg : Gl X "enumerate") (hm : X.mg "enumerate" = none) (ha : PA X [e] ta) (hs : starEach [e] X.env = [(false, eval e X.env)] := by rfl) :
    PI X (.Tuple elts kk tpos) (.Call (.Name "enumerate" p) [e] [] pos) (iEnumA X.K ta) := by
  refine ⟨fun pins s σ H R I h => ?_⟩
  refine Call_ (ld_blt I hg hm boot_enumerate (PyProof.Rows.callWith_type1 (thn (ha.run pos pins s σ H _ I h) fun us s1 ⟨vs, H1, I1, r1, q1⟩ => ?_) hs rfl))
  obtain ⟨a, ex, hq⟩ := q1
  subst ex
  cases r1 with
  | cons r rr =>
    cases rr
    cases r
    have fpk : ∀ {H1 : Hp}, Inv X pins σ H1 s1 → ∀ b ∈ [s1.heap.objs.size + 1, s1.heap.objs.size], FpOk X pins H1 b := fun {H1} I1 b hb => by
      have e' : b = s1.heap.objs.size + 1 ∨ b = s1.heap.objs.size := by simpa using hb
      have hle : s1.heap.objs.size ≤ b := by
        rcases e' with z | z
        · rw [z]; exact Nat.le_add_right _ _
        · rw [z]; exact Nat.le_refl _
      exact I1.fpOk hle (I1.hok.fresh hle)
    rcases hq with ⟨xs, hq, q⟩ | ⟨xs, hq, q⟩
    · obtain ⟨its, rv, p', hz⟩ := I1.list hq
      refine call_enumerate_list p'.isList fun h' he hit hsz hk => wpAny_pyIter_enum he ?_
      have I2 : Inv X pins σ H1 { s1 with heap := h' } := I1.kept (t' := s1.toks) hk
      exact ⟨s1.heap.objs.size + 1, [s1.heap.objs.size + 1, s1.heap.objs.size], _, _, H1, rfl, I2, turn_enum a (s1.heap.objs.size + 1) s1.heap.objs.size, ⟨⟨.none, he⟩, hit, Nat.succ_ne_self _⟩, fpk I1, q⟩
    · obtain ⟨its, rv, p', hz⟩ := I1.tuple hq
      have hal : a < s1.heap.objs.size := by obtain ⟨o, ho, _⟩ := p'; exact Heap.lt_size ho
      refine mz_enum_begins (begins_tuple a its.toArray) p' fun h' he hit hsz hk => wpAny_pyIter_enum he ?_
      have I2 : Inv X pins σ H1 { s1 with heap := h' } := I1.kept (t' := s1.toks) hk
      exact ⟨s1.heap.objs.size + 1, [s1.heap.objs.size + 1, s1.heap.objs.size], _, _, H1, rfl, I2, turn_enumT a (s1.heap.objs.size + 1) s1.heap.objs.size its.toArray, ⟨⟨.none, he⟩, ⟨_, hit, rfl, rfl⟩, Nat.succ_ne_self _, Nat.ne_of_gt (Nat.lt_succ_of_lt hal), Nat.ne_of_lt hal⟩, fpk I1, q⟩
end L2
namespace Mz
open PySem PySem.Spec PyProof.Rows L2
section
variable {z : Z} {o : Own}
def miEnum (m : M D) : M (List D) := fun e p => (m e p).bind fun d p => lift ((dSeq d).map enumD) p
theorem mi_enum {a : Expr} {ma : M D} {elts : List Expr} {kk : Nat} {tpos pp pos : Pos} (hm : z.X.mg "enumerate" = none) (ha : ME z o .fro a ma) (hg : Gl z.X "enumerate" := by rfl) (hs : starEach [a] z.X.env = [(false, eval a z.X.env)] := by rfl) (hs' : starEach (a :: []) z.X.env = (false, eval a z.X.env) :: starEach [] z.X.env := by rfl) :
    MI z o (.Tuple elts kk tpos) (.Call (.Name "enumerate" pp) [a] [] pos) (miEnum ma) :=
  PI.imp (pi_enumA hg hm (pa_cons ha pa_nil hs') hs) fun σ H R ⟨G, e, p, S, q⟩ => by
    unfold miEnum at q
    rw [Cont.bind] at q
    refine ⟨G, e, p, S, q.mono (fun d p1 k v G1 H1 s1 S1 l1 => ?_) fun x p' k => k⟩
    obtain ⟨es, he, k2⟩ := k.lift
    obtain ⟨ds, hd, he2⟩ := Option.map_eq_some_iff.mp he
    subst he2
    have pair : ∀ {G' H'' : Hp} {T : Addr} {y v : V} {d0 : D} {i : Nat}, Same G1 G' → H'' T = none → Same G' H'' → Rep z.X.K z.c.ca G1 v d0 → y = v → Rep z.X.K z.c.ca (upd G' T (.tup [.int (i : Nat), y])) (.ref T) (.tup [.int (i : Nat), d0]) := fun {G' H'' T y v d0 i} s2 nT s3 r ey => by
      subst ey
      have nG : G' T = none := Same.free s3 nT
      have sG : Same G' (upd G' T (.tup [.int (i : Nat), y])) := fun b u eb => by rw [upd_ne (ne_of_none eb nG)]; exact eb
      exact .tup upd_same (.cons (.int _) (.cons (r.mono (s2.trans sG)) .nil))
    cases l1 with
    | @lst a vs ds' h r =>
      cases hd
      refine ⟨a, rfl, .inl ⟨vs, SqL.of (S1.b.gh _ _ h), k2 _ G1 H1 s1 S1 ?_⟩⟩
      intro G' H' s2 s3 i
      have hL : SqL z.X.K H' a vs := SqL.of (s3 _ _ (s2 _ _ h))
      refine ⟨fun d hd => ?_, fun hi => ⟨vs, hL, by rw [r.len]; simpa [enumD] using hi⟩⟩
      unfold enumD at hd
      rw [List.getElem?_mapIdx] at hd
      obtain ⟨d0, e1, e2⟩ := Option.map_eq_some_iff.mp hd
      subst e2
      obtain ⟨v, f1, f2⟩ := r.get e1
      refine ⟨⟨vs, v, hL, f1⟩, fun x H'' ⟨T, y, ex, nT, eH, hy⟩ => .inr ⟨T, .tup [.int (i : Nat), y], nT, fun q => q, eH, ?_⟩⟩
      have ey : y = v := by
        have := hy vs hL
        rw [f1] at this; cases this; rfl
      rw [ex]
      exact pair s2 nT s3 f2 ey
    | @tup a vs ds' h r =>
      cases hd
      refine ⟨a, rfl, .inr ⟨vs, SqT.of (S1.b.gh _ _ h), k2 _ G1 H1 s1 S1 ?_⟩⟩
      intro G' H' s2 s3 i
      have hL : SqT z.X.K H' a vs := SqT.of (s3 _ _ (s2 _ _ h))
      refine ⟨fun d hd => ?_, fun hi => ⟨vs, hL, by rw [r.len]; simpa [enumD] using hi⟩⟩
      unfold enumD at hd
      rw [List.getElem?_mapIdx] at hd
      obtain ⟨d0, e1, e2⟩ := Option.map_eq_some_iff.mp hd
      subst e2
      obtain ⟨v, f1, f2⟩ := r.get e1
      refine ⟨⟨vs, v, hL, f1⟩, fun x H'' ⟨T, y, ex, nT, eH, hy⟩ => .inr ⟨T, .tup [.int (i : Nat), y], nT, fun q => q, eH, ?_⟩⟩
      have ey : y = v := by
        have := hy vs hL
        rw [f1] at this; cases this; rfl
      rw [ex]
      exact pair s2 nT s3 f2 ey
    | _ => cases hd
end
end Mz
/-! Mz, part l: isinstance, is None, in, reversed lists, list.index, parallel assignment. -/
namespace Mz
open PySem PySem.Spec PyProof.Rows L2

/-! ### isinstance, of built-in types -/
def tyN : D → Option String
  | .non => some "NoneType"
  | .bl _ => some "bool"
  | .int _ => some "int"
  | .str _ => some "str"
  | .tup _ => some "tuple"
  | .lst _ => some "list"
  | .dK _ => some "dict"
  | .dT _ => some "dict"
  | _ => none
/-- a is b or an heir of b -/
def isiB (a b : String) : Option Bool :=
  if a ∈ ["NoneType", "bool", "int", "str", "tuple", "list", "dict"] ∧ b ∈ ["bool", "int", "str", "tuple", "list", "dict"] then some (a == b || (a == "bool" && b == "int")) else none
theorem isiB_ok {K : PySem.W.Frag} {a b : String} {r : Bool} (h : isiB a b = some r) : PySem.W.kitOne K (.type a) (.type b) = some r := by
  refine kit_ty ?_
  unfold isiB at h
  split at h
  · rename_i hc
    cases h
    obtain ⟨ha, hb⟩ := hc
    have all : ∀ a ∈ ["NoneType", "bool", "int", "str", "tuple", "list", "dict"], ∀ b ∈ ["bool", "int", "str", "tuple", "list", "dict"], kitB a b = some (a == b || (a == "bool" && b == "int")) := by decide +kernel
    exact all a ha b hb
  · cases h
def isiAll (a : String) : List D → Option Bool
  | [] => some false
  | .ty b :: r => match isiB a b, isiAll a r with
    | some t, some u => some (t || u)
    | _, _ => none
  | _ => none
def dIsi (x y : D) : Option D := match y with
  | .ty b => (tyN x).bind fun a => (isiB a b).map .bl
  | .tup bs => (tyN x).bind fun a => (isiAll a bs).map .bl
  | _ => none
section
variable {K : PySem.W.Frag} {c : Cfg} {H0 G0 G H : Hp} {pn : Pins} {o : Own} {e : Env} {p : Pen} {σ : L2.St} {v : V} {d : D}
theorem Lies.tyX {n : String} (S : SR K c H0 G0 pn o G e p σ H) (h : Lies K c H0 pn o G e σ H v d .bor) (q : tyN d = some n) : TyX K H v (.type n) := by
  cases d with
  | non => have := h.flat rfl; cases this; cases q; exact .base .non
  | bl b => rw [h.bl]; cases q; exact .base (.bl b)
  | int i => rw [h.int]; cases q; exact .base (.int i)
  | str x => rw [h.str]; cases q; exact .base (.str x)
  | lst xs =>
    obtain ⟨a, vs, rfl, h1, h2⟩ := Lies.lst S h
    cases q; exact .base (.lst h1)
  | tup xs =>
    obtain ⟨a, vs, rfl, h1, h2⟩ := Lies.tupG h
    cases q; exact .base (.tup (S.b.gh _ _ h1))
  | dK xs =>
    obtain ⟨a, vs, rfl, h1, h2⟩ := Lies.dK S h
    cases q; exact .base (.dK h1)
  | dT xs =>
    obtain ⟨a, vs, rfl, h1, h2⟩ := Lies.dT S h
    cases q; exact .base (.dT h1)
  | _ => cases q
theorem clsVs {a : String} : ∀ {bs : List D} {vs : List V} {r : Bool}, Reps K c.ca G vs bs → isiAll a bs = some r → ∃ us, Paired ClsV vs us ∧ PySem.W.kitAny K (.type a) us = some r
  | [], _, _, .nil, h => by
    cases h
    exact ⟨[], .nil, rfl⟩
  | b :: bs, _, _, .cons (v := v) r1 rr, h => by
    cases b with
    | ty n =>
      cases r1
      simp only [isiAll] at h
      split at h
      · rename_i t u ht hu
        cases h
        obtain ⟨us, p1, p2⟩ := clsVs rr hu
        refine ⟨.type n :: us, .cons (.ty n) p1, kitAny_cons (b := t) (isiB_ok ht) (fun e => ?_) fun e => ?_⟩
        · rw [e, Bool.false_or]; exact p2
        · rw [e, Bool.true_or]
      · cases h
    | _ => cases h
end
section
variable {z : Z} {o : Own} {a b : Expr} {ma mb : M D} {pos : Pos}
/-- a built-in of two arguments, both data for all -/
def Call2 (z : Z) (r : List V → Hp → VK → Prop) (f : D → D → Option D) : Prop :=
  ∀ (o : Own) (G : Hp) (e : Env) (p : Pen) (σ : L2.St) (H : Hp) (x y : V) (dx dy d : D) (Q : VK), SR z.X.K z.c z.H0 z.G0 z.pn o G e p σ H → Lies z.X.K z.c z.H0 z.pn o G e σ H x dx .bor → Lies z.X.K z.c z.H0 z.pn o G e σ H y dy .bor → f dx dy = some d →
    (∀ v G' H', Same G G' → SR z.X.K z.c z.H0 z.G0 z.pn o G' e p σ H' → Lies z.X.K z.c z.H0 z.pn o G' e σ H' v d .fre → Q v H') → r [x, y] H Q
theorem RE.call2 {r : List V → Hp → VK → Prop} {f : D → D → Option D} (hf : Call2 z r f) {σ : L2.St} {H : Hp} {Q : VK} (h : RE z o .fre (mBin f ma mb) σ H Q) : tCB r (tCons (RE z o .bor ma) (tCons (RE z o .bor mb) tNil)) σ H Q := by
  obtain ⟨G, e, p, S, q⟩ := h
  unfold mBin at q
  rw [Cont.bind] at q
  refine ⟨G, e, p, S, q.mono (fun d1 p1 k1 v1 G1 H1 s1 S1 l1 => ?_) fun x p' k => k⟩
  rw [Cont.bind] at k1
  refine ⟨G1, e, p1, S1, k1.mono (fun d2 p2 k2 v2 G2 H2 s2 S2 l2 => ?_) fun x p' k cls dd G' H' s S' => k cls dd G' H' (s1.trans s) S'⟩
  obtain ⟨d, hd, k⟩ := k2.lift
  exact hf o G2 e p2 σ H2 v1 v2 d1 d2 d Q S2 (Lies.bor_move s2 l1) l2 hd fun v G' H' s S' l => k v G' H' ((s1.trans s2).trans s) S' l
theorem me_callB2 {x : Str} {id : String} {p : Pos} {r : List V → Hp → VK → Prop} {f : D → D → Option D} (hc : CallR z.X (.builtin id) r) (hf : Call2 z r f) (hm : z.X.mg x = none) (hv : bootBuiltins x = some (.builtin id)) (ha : ME z o .bor a ma) (hb : ME z o .bor b mb)
    (hg : Gl z.X x := by rfl) (hs : starEach (a :: [b]) z.X.env = (false, eval a z.X.env) :: starEach [b] z.X.env := by rfl) (hs2 : starEach (b :: []) z.X.env = (false, eval b z.X.env) :: starEach [] z.X.env := by rfl) (hpl : (backTo pos (starEach [b] z.X.env)).any (·.1) = false := by rfl)
    (hn : x ≠ "__name__" := by decide) (hdb : (x == ("__debug__" : Str)) = false := by decide) : ME z o .fre (.Call (.Name x p) [a, b] [] pos) (mBin f ma mb) :=
  PE.imp (pe_callB hc hg hm hv (pa_cons ha (pa_cons hb pa_nil hs2) hs) hn hdb hs hpl) fun σ H Q h => RE.call2 hf h
theorem callR_or {X : Cx} {f : Value} {r r' : List V → Hp → VK → Prop} (h : CallR X f r) (h' : CallR X f r') : CallR X f (fun vs H Q => r vs H Q ∨ r' vs H Q) := by
  intro pins s σ H xs us Q I rx q
  rcases q with q | q
  · exact h pins s σ H xs us Q I rx q
  · exact h' pins s σ H xs us Q I rx q
theorem call2_isi : Call2 z (fun xs H Q => rIsi z.X.K xs H Q ∨ rIsiT z.X.K xs H Q) dIsi := by
  intro o G e p σ H x y dx dy d Q S lx ly h k
  unfold dIsi at h
  have fin : ∀ b : Bool, d = .bl b → Q (.bl b) H := fun b e => k _ G H (Same.refl _) S (by rw [e]; exact Flat.lies (v := .bl b) (d := .bl b) rfl)
  split at h
  · rename_i n
    obtain ⟨a, h1, h2⟩ := Option.bind_eq_some_iff.mp h
    obtain ⟨t, h3, h4⟩ := Option.map_eq_some_iff.mp h2
    have := ly.flat rfl
    cases this
    exact .inl ⟨x, .ty n, _, _, t, rfl, .ty n, lx.tyX S h1, isiB_ok h3, fin t h4.symm⟩
  · rename_i bs
    obtain ⟨a, h1, h2⟩ := Option.bind_eq_some_iff.mp h
    obtain ⟨t, h3, h4⟩ := Option.map_eq_some_iff.mp h2
    obtain ⟨tp, vs, rfl, hG, r⟩ := ly.tupG
    obtain ⟨us, p1, p2⟩ := clsVs r h3
    exact .inr ⟨x, tp, vs, _, us, t, rfl, S.b.gh _ _ hG, p1, lx.tyX S h1, p2, fin t h4.symm⟩
  · cases h
theorem me_isi {p : Pos} (hm : z.X.mg "isinstance" = none) (ha : ME z o .bor a ma) (hb : ME z o .bor b mb)
    (hg : Gl z.X "isinstance" := by rfl) (hs : starEach (a :: [b]) z.X.env = (false, eval a z.X.env) :: starEach [b] z.X.env := by rfl) (hs2 : starEach (b :: []) z.X.env = (false, eval b z.X.env) :: starEach [] z.X.env := by rfl) (hpl : (backTo pos (starEach [b] z.X.env)).any (·.1) = false := by rfl) : ME z o .fre (.Call (.Name "isinstance" p) [a, b] [] pos) (mBin dIsi ma mb) :=
  me_callB2 (callR_or call_isi call_isiT) call2_isi hm (PyProof.Rows.boot_isinstance) ha hb hg hs hs2 hpl

/-! ### is None -/
def isNonD : D → Bool
  | .non => true
  | _ => false
def dIsN (x y : D) : Option D := match y with
  | .non => some (.bl (isNonD x))
  | _ => none
def dNotN (x y : D) : Option D := match y with
  | .non => some (.bl (!isNonD x))
  | _ => none
theorem Lies.isNon {K : PySem.W.Frag} {c : Cfg} {H0 G0 G H : Hp} {pn : Pins} {o : Own} {e : Env} {p : Pen} {σ : L2.St} {v : V} {d : D} (S : SR K c H0 G0 pn o G e p σ H) (h : Lies K c H0 pn o G e σ H v d .bor) : decide (v = .non) = isNonD d := by
  cases d with
  | non => have := h.flat rfl; cases this; rfl
  | bl b => have e := h.bl; subst e; rfl
  | int i => have e := h.int; subst e; rfl
  | str x => have e := h.str; subst e; rfl
  | lst xs =>
    obtain ⟨a, vs, rfl, h1, h2⟩ := Lies.lst S h
    rfl
  | tup xs =>
    obtain ⟨a, vs, rfl, h1, h2⟩ := Lies.tupG h
    rfl
  | dK xs =>
    obtain ⟨a, vs, rfl, h1, h2⟩ := Lies.dK S h
    rfl
  | dT xs =>
    obtain ⟨a, vs, rfl, h1, h2⟩ := Lies.dT S h
    rfl
  | ty n => have := h.flat rfl; cases this; rfl
  | ins n fs => have := h.flat rfl; cases this; rfl
  | ref n => have := h.flat rfl; cases this; rfl
  | clo n => have := h.flat rfl; cases this; rfl
  | pen => have := h.flat rfl; cases this; rfl
theorem op2_isN : Op2 z (fun x y H Q => y = .non ∧ Q (.bl (decide (x = .non))) H) dIsN := by
  intro o G e p σ H x y dx dy d Q S lx ly h k
  unfold dIsN at h
  split at h
  · cases h
    have := ly.flat rfl
    cases this
    refine ⟨rfl, ?_⟩
    rw [lx.isNon S]
    exact k _ G H (Same.refl _) S (Flat.lies (v := .bl _) (d := .bl _) rfl)
  · cases h
theorem op2_notN : Op2 z (fun x y H Q => y = .non ∧ Q (.bl (!decide (x = .non))) H) dNotN := by
  intro o G e p σ H x y dx dy d Q S lx ly h k
  unfold dNotN at h
  split at h
  · cases h
    have := ly.flat rfl
    cases this
    refine ⟨rfl, ?_⟩
    rw [lx.isNon S]
    exact k _ G H (Same.refl _) S (Flat.lies (v := .bl _) (d := .bl _) rfl)
  · cases h

/-! ### x in y, y a list or tuple of data -/
end
end Mz
namespace L2
open PySem PySem.Spec PyProof.Rows
section
variable {X : Cx}
def rInT (K : PySem.W.Frag) (neg : Bool) : R2 := fun x y H Q => ∃ d ds, Dp K H x d ∧ Dp K H y (.tuple ds) ∧ SeqAt.shaped d = true ∧ SeqAt.shaped (.tuple ds) = true ∧ Q (.bl (if neg then !ds.any fun z => PyData.eqv z d else ds.any fun z => PyData.eqv z d)) H
theorem op_inT (hu : X.A.units + 65 < cLine) : OpR X (compareOp .In) (rInT X.K false) := by
  intro pins s σ H x y v u Q I rx ry h
  obtain ⟨d, ds, hd, he, sd, se, q⟩ := h
  obtain ⟨as, r1⟩ := Dp.reads I d x v hd rx
  obtain ⟨bs, r2⟩ := Dp.reads I (.tuple ds) y u he ry
  exact SeqAt.in_tuple_reads r2 r1 (SeqAt.canLay_of_shaped se) (SeqAt.canLay_of_shaped sd) (room_in_shaped sd hu) ⟨.bl _, H, I, rfl, q⟩
theorem op_notInT (hu : X.A.units + 65 < cLine) : OpR X (compareOp .NotIn) (rInT X.K true) := by
  intro pins s σ H x y v u Q I rx ry h
  obtain ⟨d, ds, hd, he, sd, se, q⟩ := h
  obtain ⟨as, r1⟩ := Dp.reads I d x v hd rx
  obtain ⟨bs, r2⟩ := Dp.reads I (.tuple ds) y u he ry
  exact SeqAt.notIn_tuple_reads r2 r1 (SeqAt.canLay_of_shaped se) (SeqAt.canLay_of_shaped sd) (room_in_shaped sd hu) ⟨.bl _, H, I, rfl, q⟩
theorem opR_or {op : Value → Value → Sem Value} {r r' : R2} (h : OpR X op r) (h' : OpR X op r') : OpR X op (fun x y H Q => r x y H Q ∨ r' x y H Q) := by
  intro pins s σ H x y v u Q I rx ry q
  rcases q with q | q
  · exact h pins s σ H x y v u Q I rx ry q
  · exact h' pins s σ H x y v u Q I rx ry q
end
end L2
namespace Mz
open PySem PySem.Spec PyProof.Rows L2
section
variable {z : Z} {o : Own} {a b : Expr} {ma mb : M D} {pos : Pos}
def rIn2 (K : PySem.W.Frag) : R2 := fun x y H Q => rInD K x y H Q ∨ rInT K false x y H Q
def rNotIn2 (K : PySem.W.Frag) : R2 := fun x y H Q => rNotInD K x y H Q ∨ rInT K true x y H Q
theorem op_in2 (hu : z.X.A.units + 65 < cLine) : OpR z.X (compareOp .In) (rIn2 z.X.K) := opR_or (op_inD hu) (op_inT hu)
theorem op_notIn2 (hu : z.X.A.units + 65 < cLine) : OpR z.X (compareOp .NotIn) (rNotIn2 z.X.K) := opR_or (op_notInD hu) (op_notInT hu)
def inB (x : D) (ys : List D) : Bool := ys.any fun y => D.eqD y x
def dInS (x y : D) : Option D := if x.okE && y.okE then (dSeq y).map fun ys => .bl (inB x ys) else none
def dNotInS (x y : D) : Option D := if x.okE && y.okE then (dSeq y).map fun ys => .bl (!inB x ys) else none
theorem pys_any {x : D} {a : PyData} (hx : x.py = some a) : ∀ {ys : List D} {l : List PyData}, D.pys ys = some l → (l.any fun z => PyData.eqv z a) = inB x ys
  | [], l, h => by simp only [D.pys] at h; cases h; rfl
  | y :: ys, l, h => by
    simp only [D.pys] at h
    split at h
    · rename_i b q
      split at h
      · rename_i l2 q2
        cases h
        unfold inB
        rw [List.any_cons, List.any_cons, pys_any hx q2]
        have : D.eqD y x = PyData.eqv b a := by unfold D.eqD; rw [q, hx]
        rw [this]; rfl
      · cases h
    · cases h
theorem okE_seq {y : D} {ys : List D} (h : y.okE = true) (hs : dSeq y = some ys) : ∃ l, D.pys ys = some l ∧ ((y = .lst ys ∧ y.py = some (.list l) ∧ SeqAt.shaped (.list l) = true) ∨ (y = .tup ys ∧ y.py = some (.tuple l) ∧ SeqAt.shaped (.tuple l) = true)) := by
  obtain ⟨b, hb, sb⟩ := okE_py h
  cases y with
  | lst xs =>
    cases hs
    have hb' := hb
    simp only [D.py] at hb'
    split at hb'
    · rename_i l q
      cases hb'
      exact ⟨l, q, .inl ⟨rfl, hb, sb⟩⟩
    · cases hb'
  | tup xs =>
    cases hs
    have hb' := hb
    simp only [D.py] at hb'
    split at hb'
    · rename_i l q
      cases hb'
      exact ⟨l, q, .inr ⟨rfl, hb, sb⟩⟩
    · cases hb'
  | _ => cases hs
theorem op2_in2 : Op2 z (rIn2 z.X.K) dInS := by
  intro o G e p σ H x y dx dy d Q S lx ly h k
  unfold dInS at h
  split at h
  · rename_i hc
    rw [Bool.and_eq_true] at hc
    obtain ⟨a, ha, sa⟩ := okE_py hc.1
    obtain ⟨ys, hy, e2⟩ := Option.map_eq_some_iff.mp h
    subst e2
    obtain ⟨l, hl, ⟨ey, py, sy⟩ | ⟨ey, py, sy⟩⟩ := okE_seq hc.2 hy
    · refine .inl ⟨a, l, lx.dp S ha, ly.dp S py, sa, sy, ?_⟩
      rw [pys_any ha hl]
      exact k _ G H (Same.refl _) S (lies_rep rfl (.bl _))
    · refine .inr ⟨a, l, lx.dp S ha, ly.dp S py, sa, sy, ?_⟩
      rw [if_neg Bool.false_ne_true, pys_any ha hl]
      exact k _ G H (Same.refl _) S (lies_rep rfl (.bl _))
  · cases h
theorem op2_notIn2 : Op2 z (rNotIn2 z.X.K) dNotInS := by
  intro o G e p σ H x y dx dy d Q S lx ly h k
  unfold dNotInS at h
  split at h
  · rename_i hc
    rw [Bool.and_eq_true] at hc
    obtain ⟨a, ha, sa⟩ := okE_py hc.1
    obtain ⟨ys, hy, e2⟩ := Option.map_eq_some_iff.mp h
    subst e2
    obtain ⟨l, hl, ⟨ey, py, sy⟩ | ⟨ey, py, sy⟩⟩ := okE_seq hc.2 hy
    · refine .inl ⟨a, l, lx.dp S ha, ly.dp S py, sa, sy, ?_⟩
      rw [pys_any ha hl]
      exact k _ G H (Same.refl _) S (lies_rep rfl (.bl _))
    · refine .inr ⟨a, l, lx.dp S ha, ly.dp S py, sa, sy, ?_⟩
      rw [if_pos rfl, pys_any ha hl]
      exact k _ G H (Same.refl _) S (lies_rep rfl (.bl _))
  · cases h
/-! ### xs[::-1] -/
def dRev : D → Option D
  | .lst xs => some (.lst xs.reverse)
  | _ => none
theorem me_rev {k : Nat} {p1 p2 p3 : Pos} (ha : ME z o .bor a ma) : ME z o .fre (.Subscript a (.Slice none none (some (.UnaryOp .USub (.Constant (.int 1) k p1) p2)) p3) pos) (mUn dRev ma) :=
  PE.imp (pe_revL ha) fun σ H Q ⟨G, e, p, S, q⟩ => by
    unfold mUn at q
    rw [Cont.bind] at q
    refine ⟨G, e, p, S, q.mono (fun d1 p1 k1 v1 G1 H1 s1 S1 l1 => ?_) fun x p' k => k⟩
    obtain ⟨d, hd, k⟩ := k1.lift
    cases d1 with
    | lst xs =>
      cases hd
      obtain ⟨a, vs, rfl, h1, r1⟩ := l1.lst S1
      refine ⟨a, vs, rfl, SqL.of h1, fun l n => ?_⟩
      obtain ⟨S4, l4⟩ := lies_new S1 n r1.rev
      exact k _ G1 _ s1 S4 l4
    | _ => cases hd
/-! ### xs.index(x), flat items -/
def idxD (y : D) : List D → Option Nat
  | [] => none
  | x :: r => if D.eqD x y then some 0 else (idxD y r).map (· + 1)
theorem idxD_at {y : D} : ∀ {xs : List D} {j : Nat}, idxD y xs = some j → (∃ x, xs[j]? = some x ∧ D.eqD x y = true) ∧ ∀ m x, m < j → xs[m]? = some x → D.eqD x y = false
  | [], _, h => by cases h
  | x :: r, j, h => by
    simp only [idxD] at h
    split at h
    · rename_i hc
      cases h
      exact ⟨⟨x, rfl, hc⟩, fun m x hm => absurd hm (Nat.not_lt_zero _)⟩
    · rename_i hc
      obtain ⟨k, h1, h2⟩ := Option.map_eq_some_iff.mp h
      subst h2
      obtain ⟨⟨x', a, b⟩, c⟩ := idxD_at h1
      refine ⟨⟨x', by simpa using a, b⟩, fun m x2 hm hx => ?_⟩
      cases m with
      | zero =>
        simp at hx
        subst hx
        simpa using hc
      | succ m => exact c m x2 (by omega) (by simpa using hx)
theorem pys_get : ∀ {xs : List D} {l : List PyData}, D.pys xs = some l → ∀ m : Nat, (∀ x, xs[m]? = some x → ∃ y, l[m]? = some y ∧ x.py = some y) ∧ ∀ y, l[m]? = some y → ∃ x, xs[m]? = some x ∧ x.py = some y
  | [], l, h, m => by simp only [D.pys] at h; cases h; exact ⟨fun x hx => by simp at hx, fun y hy => by simp at hy⟩
  | x :: xs, l, h, m => by
    simp only [D.pys] at h
    split at h
    · rename_i b q
      split at h
      · rename_i l2 q2
        cases h
        cases m with
        | zero => exact ⟨fun x' hx => ⟨b, rfl, by simp at hx; subst hx; exact q⟩, fun y hy => ⟨x, rfl, by simp at hy; subst hy; exact q⟩⟩
        | succ m =>
          obtain ⟨h1, h2⟩ := pys_get q2 m
          exact ⟨fun x' hx => by simpa using h1 x' (by simpa using hx), fun y hy => by simpa using h2 y (by simpa using hy)⟩
      · cases h
    · cases h
def dIndex (x y : D) : Option D := if x.okE && y.okE then (dLst x).bind fun xs => (idxD y xs).map fun j : Nat => D.int (j : Int) else none
def mIndex (ma mb : M D) : M D := fun e p => (ma e p).bind fun x p => match x with
  | .lst xs => (mb e p).bind fun y p => lift (dIndex (.lst xs) y) p
  | _ => .stuck
theorem me_index {ap cp : Pos} (hu : z.X.A.units + 65 < cLine) (ha : ME z o .bor a ma) (hb : ME z o .bor b mb)
    (hn : starEach (b :: []) z.X.env = (false, eval b z.X.env) :: starEach [] z.X.env := by rfl)
    (hbase : attributeBase a "index" z.X.env (eval a z.X.env) = eval a z.X.env := by rfl)
    (hfew : ((backTo cp (starEach (b :: []) z.X.env)).all (fun x => !x.1) && (backToKw cp (keywordEach [] z.X.env)).all (fun x => x.1.isSome)
      && decide ((b :: []).length + ([] : List Keyword).length + (if ([] : List Keyword).isEmpty then 0 else 1) < 30)) = true := by rfl)
    (hline : (ap.endLine == cp.line) = true := by rfl) : ME z o .fre (.Call (.Attribute a "index" ap) [b] [] cp) (mIndex ma mb) :=
  PE.imp (pe_bm PySem.F.plainAttrs_list PySem.F.slot_list_index PySem.F.type_list_index (mt_indexD hu) ha (pa_cons hb pa_nil hn) hbase hfew hline hn) fun σ H Q ⟨G, e, p, S, q⟩ => by
    unfold mIndex at q
    rw [Cont.bind] at q
    refine ⟨G, e, p, S, q.mono (fun d1 p1 k1 v1 G1 H1 s1 S1 l1 => ?_) fun x p' k => k⟩
    cases d1 with
    | lst xs =>
      dsimp only at k1
      rw [Cont.bind] at k1
      obtain ⟨a, vs, ev, h1, r1⟩ := l1.lst S1
      subst ev
      refine ⟨.inl ⟨rfl, vs, SqL.of h1⟩, G1, e, p1, S1, k1.mono (fun d2 p2 k2 v2 G2 H2 s2 S2 l2 => ?_) fun x p' k cls dd G' H' s S' => k cls dd G' H' (s1.trans s) S'⟩
      obtain ⟨d, hd, k⟩ := k2.lift
      unfold dIndex at hd
      split at hd
      · rename_i hc
        rw [Bool.and_eq_true] at hc
        obtain ⟨xs', hx, hd⟩ := Option.bind_eq_some_iff.mp hd
        cases hx
        obtain ⟨j, hj, ej⟩ := Option.map_eq_some_iff.mp hd
        subst ej
        obtain ⟨b, hb, sb⟩ := okE_py hc.2
        obtain ⟨l, hl, ⟨ey, py, sy⟩ | ⟨ey, py, sy⟩⟩ := okE_seq (ys := xs) hc.1 rfl
        · obtain ⟨⟨x, hx1, hx2⟩, hx3⟩ := idxD_at hj
          obtain ⟨yx, hy1, hy2⟩ := (pys_get hl j).1 x hx1
          refine ⟨a, v2, b, l, j, yx, rfl, rfl, (Lies.bor_move (H' := H2) s2 l1).dp S2 py, l2.dp S2 hb, sy, sb, hy1, ?_, fun m z' hm hz' => ?_, ?_⟩
          · have : D.eqD x d2 = PyData.eqv yx b := by unfold D.eqD; rw [hy2, hb]
            rw [← this]; exact hx2
          · obtain ⟨x', hx1', hx2'⟩ := (pys_get hl m).2 z' hz'
            have : D.eqD x' d2 = PyData.eqv z' b := by unfold D.eqD; rw [hx2', hb]
            rw [← this]; exact hx3 m x' hm hx1'
          · exact k _ G2 H2 (s1.trans s2) S2 (Flat.lies (v := .int _) (d := .int _) rfl)
        · cases ey
      · cases hd
    | _ => exact k1.elim
/-! ### parallel assignment of plain names -/
abbrev mdO (f : Bool) : Mode := if f then .fre else .fro
def sPar3 (i j k : Nat) (x y w : M D) : MS := fun e p => (x e p).st e fun dx p => (y e p).st e fun dy p => (w e p).st e fun dw p => .next (((e.set i (some dx)).set j (some dy)).set k (some dw)) p
end
end Mz
/-! Mz, part m: parallel assignment of names, lists among the values owned by the slots. -/
namespace L2
open PySem PySem.Spec PyProof.Rows
section
variable {X : Cx} {pos : Pos}
/-- (t, ..) = (e, ..) through a tuple, which is not tracked -/
def tTupT (n : Nat) (ta : TA) (t : TGs) : TS := fun D σ H => ta σ H fun vs H1 => vs.length = n ∧ n ≤ sizeLine ∧ t vs σ H1 fun σ' H' => D.nx σ' H'
theorem ps_tupT {ts es : List Expr} {ta : TA} {t : TGs} {n k k2 : Nat} {pt pt2 : Pos} (hc : X.calm = true) (ha : PA X es ta) (hg : PGs X ts t)
    (hs : swapsWithSole [.Tuple ts k pt] (.Tuple es k2 pt2) pos.line X.env = pure false := by rfl) (hw : swappedStores [.Tuple ts k pt] (.Tuple es k2 pt2) X.env = pure none := by rfl)
    (h1 : (assignEach [.Tuple ts k pt] X.env).map (·.2) = [assign (.Tuple ts k pt) X.env] := by rfl) (hn : (assignEach ts X.env).length = n := by rfl) (hst : (assignEach ts X.env).findIdx? (·.1) = none := by rfl) :
    PS X (.Assign [.Tuple ts k pt] (.Tuple es k2 pt2) pos) (tTupT n ta t) := by
  refine ⟨fun pins s σ H D I h => ?_⟩
  refine wpAny_Assign_stores (wpAny_Tuple_spliced (thn (ha.run _ pins s σ H _ I h) fun us s1 ⟨vs, H1, I1, r1, hl, hz, q1⟩ => ⟨by rw [← r1.length, hl]; exact hz, ?_⟩)) hs hw
  rw [h1]
  have I2 : Inv X pins σ H1 { s1 with heap := s1.heap.push { cls := .type "tuple", data := .seq us.toArray } } := I1.kept (t' := s1.toks) fun b o e => Heap.get?_push_of_some _ e
  show wpAny _ _ (assign (.Tuple ts k pt) X.env (.ref s1.heap.objs.size)) _ _ _
  refine assign_Tuple_tuple (items := us.toArray) (I.ok.hd hc) (IsTup.new s1.heap _) (by rw [hn, ← hl, r1.length, List.size_toArray]) hst fun h' hx => ?_
  have I3 : Inv X pins σ H1 { s1 with heap := h' } := I2.kept (h' := h') (t' := s1.toks) fun b o e => hx b o (Nat.ne_of_lt (Heap.lt_size e)) e
  exact hg.run pins _ σ H1 vs _ _ I3 (by simpa using r1) q1
end
/-- slots take values, from the left -/
def setS : St → List Nat → List V → St
  | σ, i :: is, v :: vs => setS (σ.set i (some v)) is vs
  | σ, _, _ => σ
def gNms (is : List Nat) : TGs := fun vs σ H Q => vs.length = is.length ∧ Q (setS σ is vs) H
theorem nm_nil {X : Cx} : PGs X [] (gNms []) := ⟨fun pins s σ H vs us Q I r h => pgs_nil.run pins s σ H vs us Q I r (by
  obtain ⟨h1, h2⟩ := h
  cases vs with
  | nil => exact ⟨rfl, h2⟩
  | cons v vs => cases h1)⟩
theorem nm_cons {X : Cx} {i : Nat} {is : List Nat} {x : Str} {ts : List Expr} {pos : Pos} (h2 : PGs X ts (gNms is)) (hN : X.N.Nodup) (hi : X.N[i]? = some x := by rfl) (hx : Loc X.env.scope x := by first | exact Or.inl rfl | exact Or.inr rfl)
    (hf : X.fn x = true ∨ X.env.scope.names.lookup x = some .local := by first | exact .inl rfl | exact .inr rfl | assumption)
    (hs : (assignEach (.Name x pos :: ts) X.env).map (·.2) = assign (.Name x pos) X.env :: (assignEach ts X.env).map (·.2) := by rfl) : PGs X (.Name x pos :: ts) (gNms (i :: is)) :=
  ⟨fun pins s σ H vs us Q I r h => (pgs_cons (pg_name hN hi hx hf) h2 hs).run pins s σ H vs us Q I r (by
    obtain ⟨h1, h3⟩ := h
    cases vs with
    | nil => cases h1
    | cons v vs => exact ⟨v, vs, rfl, by simpa using h1, h3⟩)⟩
end L2
namespace Mz
open PySem PySem.Spec PyProof.Rows L2
/-- values, some of which are new lists that nobody knows (at as) -/
def isRefD : D → Bool
  | .ref _ => true
  | .pen => true
  | _ => false
inductive LL (K : PySem.W.Frag) (c : Cfg) (H0 : Hp) (pn : Pins) (o : Own) (G : Hp) (e : Env) (σ : L2.St) (H : Hp) : List V → List D → List Bool → List Addr → Prop
  | nil : LL K c H0 pn o G e σ H [] [] [] []
  | fro {v : V} {vs : List V} {d : D} {ds : List D} {f : Bool} {fs : List Bool} {as : List Addr} (h : f = false ∨ (IsMut d = false ∧ isRefD d = false)) (r : Rep K c.ca G v d) (t : LL K c H0 pn o G e σ H vs ds fs as) : LL K c H0 pn o G e σ H (v :: vs) (d :: ds) (f :: fs) as
  | own {l : Addr} {vs : List V} {d : D} {ds : List D} {fs : List Bool} {as : List Addr} (h1 : IsMut d = true) (h2 : OwnAt K c.ca G H l d) (h3 : NewIn H0 l) (h4 : G l = none) (h5 : l ≠ c.pa) (h6 : ¬ Priv pn o e σ l) (h7 : l ∉ as) (t : LL K c H0 pn o G e σ H vs ds fs as) :
      LL K c H0 pn o G e σ H (.ref l :: vs) (d :: ds) (true :: fs) (l :: as)
def setE : Env → List Nat → List D → Env
  | e, i :: is, d :: ds => setE (e.set i (some d)) is ds
  | e, _, _ => e
def setO : Own → List Nat → List Bool → Own
  | o, i :: is, f :: fs => setO (o.set i f) is fs
  | o, _, _ => o
section
variable {K : PySem.W.Frag} {c : Cfg} {H0 G0 G H : Hp} {pn : Pins} {o : Own} {e : Env} {p : Pen} {σ : L2.St}
theorem LL.len {vs : List V} {ds : List D} {fs : List Bool} {as : List Addr} (h : LL K c H0 pn o G e σ H vs ds fs as) : vs.length = ds.length ∧ fs.length = ds.length := by
  induction h with
  | nil => exact ⟨rfl, rfl⟩
  | fro _ _ _ ih => simp [ih.1, ih.2]
  | own _ _ _ _ _ _ _ _ ih => simp [ih.1, ih.2]
theorem priv_set {i : Nat} {v : V} {d : D} {f : Bool} {l : Addr} (hi : i < e.length) (hs : σ.length = e.length) (h : Priv pn (o.set i f) (e.set i (some d)) (σ.set i (some v)) l) : Priv pn o e σ l ∨ (f = true ∧ v = .ref l) := by
  rcases h with ⟨j, d', h1, h2, h3, h4⟩ | h
  · by_cases hj : i = j
    · subst hj
      rcases own_set h2 with ⟨_, z⟩ | z
      · rw [List.getElem?_set_self (by rw [hs]; exact hi)] at h4
        cases h4
        exact .inr ⟨z, rfl⟩
      · exact absurd rfl z.1
    · rw [List.getElem?_set_ne hj] at h1 h4
      rcases own_set h2 with ⟨z, _⟩ | z
      · exact absurd z.symm hj
      · exact .inl (.inl ⟨j, d', h1, z.2, h3, h4⟩)
  · exact .inl (.inr h)
theorem LL.set {vs : List V} {ds : List D} {fs : List Bool} {as : List Addr} (h : LL K c H0 pn o G e σ H vs ds fs as) {i : Nat} {v : V} {d : D} {f : Bool} (hi : i < e.length) (hs : σ.length = e.length) (hv : f = true → ∀ l, v = .ref l → l ∉ as) :
    LL K c H0 pn (o.set i f) G (e.set i (some d)) (σ.set i (some v)) H vs ds fs as := by
  induction h with
  | nil => exact .nil
  | fro a r t ih => exact .fro a r (ih hv)
  | own h1 h2 h3 h4 h5 h6 h7 t ih =>
    refine .own h1 h2 h3 h4 h5 (fun hp => ?_) h7 (ih fun hf l ev hm => hv hf l ev (List.mem_cons_of_mem _ hm))
    rcases priv_set hi hs hp with hp | ⟨hf, ev⟩
    · exact h6 hp
    · exact hv hf _ ev List.mem_cons_self
theorem SR.putAll : ∀ {is : List Nat} {vs : List V} {ds : List D} {fs : List Bool} {as : List Addr} {o : Own} {e : Env} {σ : L2.St}, SR K c H0 G0 pn o G e p σ H → LL K c H0 pn o G e σ H vs ds fs as → ds.length = is.length → (∀ i ∈ is, i < e.length ∧ i < o.length) →
    SR K c H0 G0 pn (setO o is fs) G (setE e is ds) p (L2.setS σ is vs) H
  | [], vs, ds, fs, as, o, e, σ, S, h, hl, hi => by
    cases ds with
    | nil => cases h; exact S
    | cons d ds => cases hl
  | i :: is, vs, ds, fs, as, o, e, σ, S, h, hl, hi => by
    obtain ⟨hie, hio⟩ := hi i List.mem_cons_self
    cases h with
    | nil => cases hl
    | fro a r t =>
      rename_i v vs d ds f fs
      have S1 : SR K c H0 G0 pn (o.set i f) G (e.set i (some d)) p (σ.set i (some v)) H := by
        rcases a with a | a
        · rw [a]; exact S.put r
        · refine (S.put (i := i) r).as_own (i := i) (fun d' h => ?_) fun j hj => ?_
          · rw [List.getElem?_set_self hie] at h
            cases h; exact a.1
          · unfold own
            rw [List.getD_eq_getElem?_getD, List.getD_eq_getElem?_getD, List.getElem?_set_ne (Ne.symm hj), List.getElem?_set_ne (Ne.symm hj)]
      -- the value is data: none of the new lists
      have nv : f = true → ∀ l, v = .ref l → l ∉ as := fun hf l ev hm => by
        have fl : ∀ {vs : List V} {ds : List D} {fs : List Bool} {as : List Addr}, LL K c H0 pn o G e σ H vs ds fs as → l ∈ as → G l = none := fun {vs ds fs as} q => by
          induction q with
          | nil => intro hm; cases hm
          | fro _ _ _ ih => exact ih
          | own _ _ _ h4 _ _ _ _ ih =>
            intro hm
            rcases List.mem_cons.mp hm with z | hm
            · rw [z]; exact h4
            · exact ih hm
        have hG := fl t hm
        rcases a with a | a
        · rw [a] at hf; cases hf
        · subst ev
          cases r with
          | ref => cases a.2
          | tup h _ => rw [hG] at h; cases h
          | clo h _ => rw [hG] at h; cases h
          | pen => cases a.2
          | lst _ _ => cases a.1
          | dK _ _ => cases a.1
          | dT _ _ => cases a.1
          | ins h _ => rw [hG] at h; cases h
      refine (?_ : SR K c H0 G0 pn (setO (o.set i f) is fs) G (setE (e.set i (some d)) is ds) p (L2.setS (σ.set i (some v)) is vs) H)
      refine SR.putAll S1 (t.set hie S.len nv) (by simpa using hl) fun j hj => by
        obtain ⟨q1, q2⟩ := hi j (List.mem_cons_of_mem _ hj)
        exact ⟨by simpa using q1, by simpa using q2⟩
    | own h1 h2 h3 h4 h5 h6 h7 t =>
      rename_i l vs d ds fs as
      have S1 := S.putO (i := i) hio h2 h3 h4 h5 h6
      refine (?_ : SR K c H0 G0 pn (setO (o.set i true) is fs) G (setE (e.set i (some d)) is ds) p (L2.setS (σ.set i (some (.ref l))) is vs) H)
      refine SR.putAll S1 (t.set hie S.len fun _ l' ev hm => by
        have : l = l' := by injection ev
        subst this; exact h7 hm) (by simpa using hl) fun j hj => by
        obtain ⟨q1, q2⟩ := hi j (List.mem_cons_of_mem _ hj)
        exact ⟨by simpa using q1, by simpa using q2⟩
end
section
variable {z : Z} {o o1 : Own} {a : Expr} {es : List Expr} {ma : M D} {mr : M (List D)} {pos : Pos}
/-- values for slots: where f, what may be changed is to be the slot's own -/
def RL (z : Z) (o : Own) (fs : List Bool) (m : M (List D)) : TA := fun σ H Q => ∃ G e p, SR z.X.K z.c z.H0 z.G0 z.pn o G e p σ H ∧
  Cont (m e p) (fun ds p' => ∀ vs G' H' as, Same G G' → SR z.X.K z.c z.H0 z.G0 z.pn o G' e p' σ H' → LL z.X.K z.c z.H0 z.pn o G' e σ H' vs ds fs as → Q vs H')
    (fun x p' => ∀ cls dd G' H', Same G G' → SR z.X.K z.c z.H0 z.G0 z.pn o G' e p' σ H' → ExcR z.X.K z.c G' cls dd x → z.W cls dd σ H')
abbrev ML (z : Z) (o : Own) (es : List Expr) (fs : List Bool) (m : M (List D)) : Prop := PA z.X es (RL z o fs m)
theorem ml_nil : ML z o [] [] maNil := PA.imp pa_nil fun σ H Q ⟨G, e, p, S, q⟩ => q [] G H [] (Same.refl _) S .nil
def maConsO (f : Bool) (m : M D) (r : M (List D)) : M (List D) := fun e p => (m e p).bind fun d p => if f && isRefD d then .stuck else (r e p).bind fun ds p => .ok (d :: ds) p
theorem priv_pin {pn : Pins} {o : Own} {e : Env} {σ : L2.St} {q : Addr × HO} {l : Addr} (h : ¬ Priv (q :: pn) o e σ l) : ¬ Priv pn o e σ l ∧ l ≠ q.1 :=
  ⟨fun hp => h (by
    rcases hp with hp | ⟨r, hr, e⟩
    · exact .inl hp
    · exact .inr ⟨r, List.mem_cons_of_mem _ hr, e⟩), fun e => h (.inr ⟨q, List.mem_cons_self, e.symm⟩)⟩
theorem LL.unpin {K : PySem.W.Frag} {c : Cfg} {H0 : Hp} {pn : Pins} {o : Own} {G : Hp} {e : Env} {σ : L2.St} {H : Hp} {q : Addr × HO} {vs : List V} {ds : List D} {fs : List Bool} {as : List Addr} (h : LL K c H0 (q :: pn) o G e σ H vs ds fs as) : LL K c H0 pn o G e σ H vs ds fs as ∧ q.1 ∉ as := by
  induction h with
  | nil => exact ⟨.nil, by simp⟩
  | fro a r t ih => exact ⟨.fro a r ih.1, ih.2⟩
  | own h1 h2 h3 h4 h5 h6 h7 t ih =>
    obtain ⟨q1, q2⟩ := priv_pin h6
    exact ⟨.own h1 h2 h3 h4 h5 q1 h7 ih.1, by simp only [List.mem_cons, not_or]; exact ⟨Ne.symm q2, ih.2⟩⟩
theorem ml_cons (f : Bool) {fs : List Bool} (ha : ME z o (mdO f) a ma) (hr : ∀ pn, ML { z with pn := pn } o es fs mr) (hs : starEach (a :: es) z.X.env = (false, eval a z.X.env) :: starEach es z.X.env := by rfl) : ML z o (a :: es) (f :: fs) (maConsO f ma mr) :=
  PA.imp (pa_cons (te := RE z o (mdO f) ma) ha (t := fun σ H Q => ∃ pn, RL { z with pn := pn } o fs mr σ H Q) ⟨fun pos pins s σ H Q I ⟨pn, h⟩ => (hr pn).run pos pins s σ H Q I h⟩ hs) fun σ H Q ⟨G, e, p, S, q⟩ => by
    unfold maConsO at q
    rw [Cont.bind] at q
    refine ⟨G, e, p, S, q.mono (fun d1 p1 k1 v1 G1 H1 s1 S1 l1 => ?_) fun x p' k => k⟩
    split at k1
    · exact k1.elim
    · rename_i hf
      rw [Cont.bind] at k1
      -- what may be changed and is to be owned is pinned
      by_cases hm : f = true ∧ IsMut d1 = true
      · obtain ⟨rfl, hm⟩ := hm
        obtain ⟨l, rfl, h2, h3, h4, h5, h6⟩ := Lies.fre_mut (show Lies _ _ _ _ _ _ _ _ _ _ _ .fre from l1) hm
        obtain ⟨u, hu, hd⟩ := h2.dat
        refine ⟨(l, u) :: z.pn, G1, e, p1, S1.pin hu hd h4 h5 h6, k1.mono (fun ds p2 k2 vs G2 H2 as s2 S2 l2 => ?_) fun x p' k cls dd G' H' s S' => k cls dd G' H' (s1.trans s) S'.unpin.1⟩
        obtain ⟨S3, hu3, hd3, hG3⟩ := S2.unpin
        obtain ⟨l3, na⟩ := l2.unpin
        refine k2 (.ref l :: vs) G2 H2 (l :: as) (s1.trans s2) S3 (.own hm (h2.move s2 fun w hw => ?_) h3 hG3 h5 h6 na l3)
        rw [hu] at hw; cases hw; exact hu3
      · have r1 : Rep z.X.K z.c.ca G1 v1 d1 := by
          cases f with
          | false => exact l1
          | true =>
            have hm' : IsMut d1 = false := by cases h : IsMut d1 with | true => exact absurd ⟨rfl, h⟩ hm | false => rfl
            exact Lies.fre_flat (show Lies _ _ _ _ _ _ _ _ _ _ _ .fre from l1) hm'
        have hc : f = false ∨ (IsMut d1 = false ∧ isRefD d1 = false) := by
          cases f with
          | false => exact .inl rfl
          | true =>
            have hm' : IsMut d1 = false := by cases h : IsMut d1 with | true => exact absurd ⟨rfl, h⟩ hm | false => rfl
            exact .inr ⟨hm', by simpa using hf⟩
        exact ⟨z.pn, G1, e, p1, S1, k1.mono (fun ds p2 k2 vs G2 H2 as s2 S2 l2 => k2 (v1 :: vs) G2 H2 as (s1.trans s2) S2 (.fro hc (r1.mono s2) l2)) fun x p' k cls dd G' H' s S' => k cls dd G' H' (s1.trans s) S'⟩
/-- i1, i2, .. = values -/
def sParN (is : List Nat) (m : M (List D)) : MS := fun e p => (m e p).st e fun ds p => if ds.length = is.length ∧ is.length ≤ sizeLine ∧ (is.all fun i => decide (i < e.length)) = true then .next (setE e is ds) p else .stuck
theorem par_of {is : List Nat} {fs : List Bool} {m : M (List D)} {D' : Ends} {G : Hp} {e : Env} {p : Pen} {σ : L2.St} {H : Hp} {Q : List V → Hp → Prop} (S : SR z.X.K z.c z.H0 z.G0 z.pn o G e p σ H) (q : PostS z (setO o is fs) D' G (sParN is m e p)) (ho : ∀ i ∈ is, i < o.length)
    (k : ∀ vs H1, vs.length = is.length → is.length ≤ sizeLine → D'.nx (L2.setS σ is vs) H1 → Q vs H1) : RL z o fs m σ H Q := by
  unfold sParN at q
  refine ⟨G, e, p, S, (Cont.st q S).mono (fun ds p' k1 vs G' H' as s S' l => ?_) fun x p' k => k⟩
  split at k1
  · rename_i hc
    obtain ⟨h1, h2, h3⟩ := hc
    refine k vs H' (by rw [l.len.1]; exact h1) h2 (k1 _ G' H' s (S'.putAll l h1 fun i hi => ⟨?_, ho i hi⟩))
    have := List.all_eq_true.mp h3 i hi
    simpa using this
  · exact k1.elim
theorem ms_parT {ts es : List Expr} {is : List Nat} {fs : List Bool} {m : M (List D)} {k k2 : Nat} {pt pt2 : Pos} (hc : z.X.calm = true) (ha : ML z o es fs m) (hg : PGs z.X ts (L2.gNms is)) (ho : ∀ i ∈ is, i < o.length)
    (hs : swapsWithSole [.Tuple ts k pt] (.Tuple es k2 pt2) pos.line z.X.env = pure false := by rfl) (hw : swappedStores [.Tuple ts k pt] (.Tuple es k2 pt2) z.X.env = pure none := by rfl)
    (h1 : (assignEach [.Tuple ts k pt] z.X.env).map (·.2) = [assign (.Tuple ts k pt) z.X.env] := by rfl) (hn : (assignEach ts z.X.env).length = is.length := by rfl) (hst : (assignEach ts z.X.env).findIdx? (·.1) = none := by rfl) :
    MSt z o (.Assign [.Tuple ts k pt] (.Tuple es k2 pt2) pos) (sParN is m) (setO o is fs) :=
  ms_of (ps_tupT hc ha hg hs hw h1 hn hst) fun D' σ H G e p S q => par_of S q ho fun vs H1 h1 h2 h3 => ⟨h1, h2, h1, h3⟩
theorem ms_par2 {i j : Nat} {x y : Str} {a b : Expr} {fs : List Bool} {m : M (List D)} {px py pt : Pos} {kt k2 pt2} (hc : z.X.calm = true) (ha : ML z o [a, b] fs m) (ho : ∀ i' ∈ [i, j], i' < o.length) (hN : z.X.N.Nodup) (hi : z.X.N[i]? = some x := by rfl) (hj : z.X.N[j]? = some y := by rfl) (hij : i ≠ j := by decide)
    (hx : z.X.env.scope.names.lookup x = some .local := by rfl) (hy : z.X.env.scope.names.lookup y = some .local := by rfl)
    (hw : swappedStores [.Tuple [.Name x px, .Name y py] kt pt] (.Tuple [a, b] k2 pt2) z.X.env = pure (some [x, y]) := by rfl)
    (hs : swapsWithSole [.Tuple [.Name x px, .Name y py] kt pt] (.Tuple [a, b] k2 pt2) pos.line z.X.env = pure false := by rfl) :
    MSt z o (.Assign [.Tuple [.Name x px, .Name y py] kt pt] (.Tuple [a, b] k2 pt2) pos) (sParN [i, j] m) (setO o [i, j] fs) :=
  ms_of (ps_par hc hN hi hj hij hx hy ha hw hs) fun D' σ H G e p S q => par_of S q ho fun vs H1 h1 h2 h3 => by
    match vs, h1 with
    | [v, w], _ => exact ⟨v, w, rfl, h3⟩
theorem ms_par3 {i j l : Nat} {x y w : Str} {a b c : Expr} {fs : List Bool} {m : M (List D)} {px py pw pt : Pos} {kt k2 pt2} (hc : z.X.calm = true) (ha : ML z o [a, b, c] fs m) (ho : ∀ i' ∈ [i, j, l], i' < o.length) (hN : z.X.N.Nodup) (hi : z.X.N[i]? = some x := by rfl) (hj : z.X.N[j]? = some y := by rfl) (hl : z.X.N[l]? = some w := by rfl)
    (hij : i ≠ j := by decide) (hil : i ≠ l := by decide) (hjl : j ≠ l := by decide)
    (hx : z.X.env.scope.names.lookup x = some .local := by rfl) (hy : z.X.env.scope.names.lookup y = some .local := by rfl) (hz : z.X.env.scope.names.lookup w = some .local := by rfl)
    (hw : swappedStores [.Tuple [.Name x px, .Name y py, .Name w pw] kt pt] (.Tuple [a, b, c] k2 pt2) z.X.env = pure (some [x, y, w]) := by rfl)
    (hs : swapsWithSole [.Tuple [.Name x px, .Name y py, .Name w pw] kt pt] (.Tuple [a, b, c] k2 pt2) pos.line z.X.env = pure false := by rfl) :
    MSt z o (.Assign [.Tuple [.Name x px, .Name y py, .Name w pw] kt pt] (.Tuple [a, b, c] k2 pt2) pos) (sParN [i, j, l] m) (setO o [i, j, l] fs) :=
  ms_of (ps_par3 hc hN hi hj hl hij hil hjl hx hy hz ha hw hs) fun D' σ H G e p S q => par_of S q ho fun vs H1 h1 h2 h3 => by
    match vs, h1 with
    | [u, v, w], _ => exact ⟨u, v, w, rfl, h3⟩
/-! ### name[i], name[j] = values, one owned list -/
def sSetAt (j : Nat) (mi : M D) (d : D) : MS := fun e p => match e[j]? with
  | some (some (.lst ds)) => (mi e p).st e fun di p => match di with
    | .int k => match ixN ds.length k with
      | some n => .next (e.set j (some (.lst (ds.set n d)))) p
      | none => .stuck
    | _ => .stuck
  | _ => .stuck
def sSet2 (j : Nat) (m : M (List D)) (m1 m2 : M D) : MS := fun e p => (m e p).st e fun ds p => match ds with
  | [d1, d2] => (sSetAt j m1 d1 e p).bind fun e p => sSetAt j m2 d2 e p
  | _ => .stuck
theorem setAt_read {j : Nat} {mb : M D} {d : D} {v : V} {D' : Ends} {G : Hp} {e : Env} {p : Pen} {σ : L2.St} {H : Hp} {f : MS} {Q : L2.St → Hp → Prop} (hj : own o j = true) (S : SR z.X.K z.c z.H0 z.G0 z.pn o G e p σ H) (r : Rep z.X.K z.c.ca G v d)
    (q : PostS z o D' G ((sSetAt j mb d e p).bind f)) (k : ∀ G1 e1 p1 H1, Same G G1 → SR z.X.K z.c z.H0 z.G0 z.pn o G1 e1 p1 σ H1 → PostS z o D' G1 (f e1 p1) → Q σ H1) :
    gSub (tVar j) (RE z o .bor mb) rSetL v σ H Q := by
  unfold sSetAt at q
  split at q
  · rename_i ds he
    obtain ⟨l, _, g1, _⟩ := S.lst he hj
    have q' : PostS z o D' G ((mb e p).st e fun di p => (match di with
      | .int k => match ixN ds.length k with
        | some n => SF.next (e.set j (some (.lst (ds.set n d)))) p
        | none => .stuck
      | _ => .stuck : SF).bind f) := by
      cases hm : mb e p with
      | ok di p1 => rw [hm] at q; exact q
      | err x p1 => rw [hm] at q; exact q
      | stuck => rw [hm] at q; exact q
    refine ⟨_, g1, G, e, p, S, (Cont.st q' S).mono (fun di p2 k2 vi G2 H2 s2 S2 l2 => ?_) fun x p' k => k⟩
    cases di with
    | int n0 =>
      dsimp only at k2
      cases hn : ixN ds.length n0 with
      | none => rw [hn] at k2; exact k2.elim
      | some n =>
        rw [hn] at k2
        obtain ⟨l', vs, g1', g2, g3, g4⟩ := S2.lst he hj
        have el : l' = l := by rw [g1] at g1'; cases g1'; rfl
        subst el
        exact ⟨l', vs, n0, n, rfl, l2.int, g2, by rw [g3.len]; exact hn, k G2 _ _ _ s2 (g4 _ _ (g3.set (Rep.mono s2 r) n)) (PostS.mono k2 s2)⟩
    | _ => exact k2.elim
  · exact q.elim
theorem ms_set2 (j : Nat) {x : Str} {b1 b2 : Expr} {m1 m2 : M D} {es : List Expr} {m : M (List D)} {px1 ps1 px2 ps2 pt pt2 : Pos} {k k2 : Nat} (hj : own o j = true) (hc : z.X.calm = true) (ha : MA z o es m) (hi1 : ME z o .bor b1 m1) (hi2 : ME z o .bor b2 m2)
    (hN : z.X.N[j]? = some x := by rfl) (hv : Vis z.X.env.scope x := by first | exact Or.inl rfl | exact Or.inr (Or.inl rfl))
    (hd : (x == ("__debug__" : Str)) = false := by decide) (hcd : (x == ("__classdict__" : Str)) = false := by decide)
    (ha1 : ∀ v, assign (.Subscript (.Name x px1) b1 ps1) z.X.env v = (do
      let ov ← holding [v] (eval (.Name x px1) z.X.env)
      let iv ← holding [v, ov] (eval b1 z.X.env)
      standAt ps1
      holding [v, ov, iv] (setItem ov iv v)
      release [v, ov, iv] []) := by intro _; rfl)
    (ha2 : ∀ v, assign (.Subscript (.Name x px2) b2 ps2) z.X.env v = (do
      let ov ← holding [v] (eval (.Name x px2) z.X.env)
      let iv ← holding [v, ov] (eval b2 z.X.env)
      standAt ps2
      holding [v, ov, iv] (setItem ov iv v)
      release [v, ov, iv] []) := by intro _; rfl)
    (hs1 : (assignEach [.Subscript (.Name x px1) b1 ps1, .Subscript (.Name x px2) b2 ps2] z.X.env).map (·.2) = assign (.Subscript (.Name x px1) b1 ps1) z.X.env :: (assignEach [.Subscript (.Name x px2) b2 ps2] z.X.env).map (·.2) := by rfl)
    (hs2 : (assignEach [.Subscript (.Name x px2) b2 ps2] z.X.env).map (·.2) = assign (.Subscript (.Name x px2) b2 ps2) z.X.env :: (assignEach [] z.X.env).map (·.2) := by rfl)
    (hs : swapsWithSole [.Tuple [.Subscript (.Name x px1) b1 ps1, .Subscript (.Name x px2) b2 ps2] k pt] (.Tuple es k2 pt2) pos.line z.X.env = pure false := by rfl) (hw : swappedStores [.Tuple [.Subscript (.Name x px1) b1 ps1, .Subscript (.Name x px2) b2 ps2] k pt] (.Tuple es k2 pt2) z.X.env = pure none := by rfl)
    (h1 : (assignEach [.Tuple [.Subscript (.Name x px1) b1 ps1, .Subscript (.Name x px2) b2 ps2] k pt] z.X.env).map (·.2) = [assign (.Tuple [.Subscript (.Name x px1) b1 ps1, .Subscript (.Name x px2) b2 ps2] k pt) z.X.env] := by rfl) (hn : (assignEach [.Subscript (.Name x px1) b1 ps1, .Subscript (.Name x px2) b2 ps2] z.X.env).length = 2 := by rfl) (hst : (assignEach [.Subscript (.Name x px1) b1 ps1, .Subscript (.Name x px2) b2 ps2] z.X.env).findIdx? (·.1) = none := by rfl) :
    MSt z o (.Assign [.Tuple [.Subscript (.Name x px1) b1 ps1, .Subscript (.Name x px2) b2 ps2] k pt] (.Tuple es k2 pt2) pos) (sSet2 j m m1 m2) o :=
  ms_of (ps_tupT hc ha (pgs_cons (pg_sub (pe_var hN hv hd hcd) hi1 set_list ha1) (pgs_cons (pg_sub (pe_var hN hv hd hcd) hi2 set_list ha2) pgs_nil hs2) hs1) hs hw h1 hn hst) fun D' σ H G e p S q => by
    unfold sSet2 at q
    refine ⟨G, e, p, S, (Cont.st q S).mono (fun ds p1 k1 vs G1 H1 s1 S1 r => ?_) fun x p' k => k⟩
    replace k1 := PostS.mono k1 s1
    split at k1
    · rename_i d1 d2
      cases r with
      | cons r1 rr =>
        cases rr with
        | cons r2 rn =>
          cases rn
          refine ⟨rfl, (by rw [sizeLine_eq]; exact (by decide : 2 ≤ 16777216)), _, _, rfl, setAt_read hj S1 r1 k1 fun G2 e2 p2 H2 s2 S2 q2 => ?_⟩
          have q3 : PostS z o D' G2 ((sSetAt j m2 d2 e2 p2).bind sNext) := by
            cases hm : sSetAt j m2 d2 e2 p2 <;> (rw [hm] at q2; exact q2)
          exact ⟨_, _, rfl, setAt_read hj S2 (r2.mono s2) q3 fun G3 e3 p3 H3 s3 S3 q4 => ⟨rfl, q4 _ G3 H3 (Same.refl _) S3⟩⟩
    · exact k1.elim
end
end Mz
/-! Mz, part n: several except clauses with names. -/
namespace L2
open PySem PySem.Spec PyProof.Rows
/-- what the clauses 'except x as n' wish (slot i is n's; none: no name) -/
def wManyA (K : PySem.W.Frag) (Wout : WX) (D : Ends) : List (Value × Nat × (Addr → Value → Option Addr → TS)) → WX
  | [] => Wout
  | (c, i, ts) :: r => fun cls d σ H => ∃ b, PySem.W.exmOne K cls c = some b ∧
    (b = true → ∀ a, H a = none → ts a cls d { nx := fun σ' H' => D.nx (σ'.set i none) H', rt := D.rt, bk := fun σ' H' => D.bk (σ'.set i none) H', ct := fun σ' H' => D.ct (σ'.set i none) H' } (σ.set i (some (.ref a))) H) ∧ (b = false → wManyA K Wout D r cls d σ H)
inductive HdsA (X : Cx) : List ExceptHandler → List (Value × Nat × (Addr → Value → Option Addr → TS)) → Prop
  | nil : HdsA X [] []
  | cons {x n : Str} {i : Nat} {c : Value} {ts : Addr → Value → Option Addr → TS} {b₀ : Stmt} {suite : List Stmt} {np pos' : Pos} {hds : List ExceptHandler} {l : List (Value × Nat × (Addr → Value → Option Addr → TS))} (hc : Names X x c) (hi : X.N[i]? = some n) (hln : X.env.kindOf n = some .local)
      (hsu : ∀ (a : Addr) (oe : Obj) (cls : Value) (d : Option Addr) (pn : List (Addr × Obj)), Zc cls d oe → (∃ vs, oe.data = .fields vs) → PSs (X.suite a ((a, oe) :: pn)) (b₀ :: suite) (ts a cls d)) (r : HdsA X hds l) :
      HdsA X (.ExceptHandler (some (.Name x np)) (some n) (b₀ :: suite) pos' :: hds) ((c, i, ts) :: l)
section
variable {X : Cx} {body : List Stmt} {h₀ : ExceptHandler} {hds : List ExceptHandler} {l : List (Value × Nat × (Addr → Value → Option Addr → TS))} {pos : Pos} {tb : WX → TS} {Wout : WX}
theorem ps_try_manyA (hs : X.stack = X.env :: X.outer) (hf : X.env.frame = some X.env.locals) (hN : X.N.Nodup) (tk : Takes X Wout)
    (hb : ∀ (W : WX) (pn : List (Addr × Obj)) (xe : Value → Shared → Prop), Takes (X.tr pn xe) W → PassesOwn (model X.prog X.w) X.A X.env xe → PSs (X.tr pn xe) body (tb W))
    (hh : HdsA X (h₀ :: hds) l) : PS X (.Try body (h₀ :: hds) [] [] pos) (fun D σ H => tb (wManyA X.K Wout D l) D σ H) := by
  refine ⟨fun pins s σ H D I h => ?_⟩
  have ok := I.ok
  have hfr : X.A.frames = some (X.env :: X.outer) := by rw [ok.frames, hs]
  refine wpAny_Try_except ?_
  refine wpAny_mono ((hb (wManyA X.K Wout D l) (X.pn ++ pins) (fun e s₁ => wpAny (model X.prog X.w) X.A (noteFrame e X.env) (fun _ s₂ => wpAny (model X.prog X.w) X.A (setFlight e none) (fun _ s₃ =>
    wpAny (model X.prog X.w) X.A (handleBy e X.env (h₀ :: hds)) (SP X pins D) X.xe s₃) X.xe s₂) X.xe s₁) (fun u s' xx => ?_) PassesOwn.looking).run [] s σ H D (I.toTry _) h) (fun f s1 hsp => ?_) (fun e s1 he => he)
  · obtain ⟨a, B, sI, pins', σ', H', cls, d, rfl, J', nb, up, sky, na, os, ag, w⟩ := xx
    have J : Inv X pins σ' H' sI := J'.ofTry ok
    have sky' : Sky B (X.env :: X.outer) a (Zc cls d) X.env.locals s'.heap := by rw [← hs]; exact sky
    show wpAny (model X.prog X.w) X.A (noteFrame (.ref a) X.env) _ _ _
    refine Sky.land Zc.steady hfr hf sky' fun h3 fl3 up3 => ?_
    have J3 : Inv X pins σ' H' { s' with heap := h3 } := J.landed nb fl3.1 (up.trans up3) os ag
    obtain ⟨oe3, vs3, he3, hz3, hd3⟩ := fl3.there
    have notFr : ∀ {h : Heap} {o : Obj} {vs : Array Value}, h.FunFrames B (X.env :: X.outer) → h.get? a = some o → o.data = .fields vs → a ∉ frs (X.env :: X.outer) := fun {h o vs} ff e dd hm => by
      obtain ⟨_, o', e', hnf⟩ := ff.mem hm
      rw [e] at e'; cases e'
      exact hnf _ dd
    have nfr := notFr fl3.2.2.1 he3 hd3
    have nL : a ≠ X.env.locals := fun z => nfr (List.mem_filterMap.mpr ⟨X.env, List.mem_cons_self, by rw [hf, z]⟩)
    have nF : a ∉ X.fs := fun hm => by
      obtain ⟨e, he, q⟩ := List.mem_filterMap.mp hm
      exact nfr (List.mem_filterMap.mpr ⟨e, List.mem_cons_of_mem _ he, q⟩)
    have S3 := J3.suite he3 hd3 na nL nF
    have go : ∀ {hds' : List ExceptHandler} {l' : List (Value × Nat × (Addr → Value → Option Addr → TS))}, HdsA X hds' l' → wManyA X.K Wout D l' cls d σ' H' →
        wpAny (model X.prog X.w) X.A (handleBy (.ref a) X.env hds') (SP X pins D) X.xe { s' with heap := h3 } := by
      intro hds' l' hk
      induction hk with
      | nil =>
        intro w
        refine wpAny_handleBy_nil ?_
        obtain ⟨k1, k2, k3, oe, vs, T, oT, ts', he, hz, hd, h1, hr⟩ := id fl3
        unfold PySem.passOn
        refine wpAny_bind (wpAny_field he hd h1 ?_)
        rw [if_neg (show ¬ ((Value.ref T == Value.none) = true) from by simp)]
        have fin : wpAny (model X.prog X.w) X.A (setFlight (.ref a) X.env.frame) (fun _ s4 => wpAny (model X.prog X.w) X.A (throw (.ref a) : Sem Flow) (SP X pins D) X.xe s4) X.xe { s' with heap := h3 } := by
          rw [hf]
          refine HandSPX.setFlight_upZ fl3 fun h4 hh4 up4 => wpAny_throw (tk _ _ ?_)
          exact ⟨a, B, sI, pins, σ', H', cls, d, rfl, J, nb, (up.trans up3).trans up4, .inr (.inr (by rw [hs]; exact hh4)), na, os, ag, w⟩
        first
          | exact wpAny_bind (wpAny_pure (wpAny_bind fin))
          | exact wpAny_bind fin
      | @cons x n i c ts b₀ suite np pos' hds2 l2 hc hi hln hsu r ih =>
        intro w
        obtain ⟨b, hb1, hyes, hno⟩ := w
        have hloc : Loc X.env.scope n := .inl hln
        refine wpAny_handleBy_cons (codeAny_handlers_test ?_) (by intro q; cases q)
        have LT : PySem.W.Looks (model X.prog X.w) h3 (typeOf (.ref a)) cls := fun A Q E s k q => wpAny_typeOf_ref (k _ _ he3) (by rw [hz3.1]; exact q)
        have LM := PySem.W.exm_one (M := model X.prog X.w) (J3.kIn) LT hb1
        have test : ∀ {Q : Value → Shared → Prop} {E : Value → Shared → Prop}, Q c { s' with heap := h3 } → wpAny (model X.prog X.w) (X.A.mark (some (.ref a))) (eval (.Name x np) X.env) Q E { s' with heap := h3 } := fun {Q E} q => by
          obtain ⟨hg, hdbg, hm | ⟨hm, hv, hnn⟩⟩ := hc
          · exact ld_glob (X := X.suite a ((a, oe3) :: (X.pn ++ pins))) S3 hg hm q hdbg
          · exact ld_blt (X := X.suite a ((a, oe3) :: (X.pn ++ pins))) S3 hg hm hv q hnn hdbg
        refine test (LM.here ?_)
        cases b with
        | true =>
          refine codeAny_handlers_suite_as ?_
          refine HandSPX.lands_againZ fl3 fun h4 fl4 up4 => ?_
          have J4 : Inv X pins σ' H' { s' with heap := h4 } := J.landed nb fl4.1 ((up.trans up3).trans up4) os ag
          obtain ⟨oe4, vs4, he4, hz4, hd4⟩ := fl4.there
          have S4 := J4.suite he4 hd4 na nL nF
          refine store_ok (X := X.suite a ((a, oe4) :: (X.pn ++ pins))) (v := .ref a) S4 hN hi hloc rfl (fun s5 S5 => ?_) (.inr hln)
          refine wpAny_mono ((hsu a oe4 cls d (X.pn ++ pins) hz4 ⟨_, hd4⟩).run [] s5 _ H' _ S5 (hyes rfl a na)) (fun f s6 hsp => ?_) (fun _ _ z => False.elim z)
          have end_ : ∀ {σ6 : St} {H6 : Hp} {Q : Shared → Prop}, Inv (X.suite a ((a, oe4) :: (X.pn ++ pins))) [] σ6 H6 s6 → (∀ s7, Inv X pins (σ6.set i none) H6 s7 → Q s7) →
              wpAny (model X.prog X.w) X.A (do bindName X.env n .none; unbindBehindTheSuite X.env n pos') (fun _ s7 => Q s7) X.xe s6 := fun {σ6 H6 Q} S6 hq => gone_ok (S6.unsuite ok) hN hi hln hq
          cases f with
          | next =>
            obtain ⟨σ6, H6, S6, q6⟩ := hsp
            exact end_ S6 fun s7 J7 => ⟨_, _, J7, q6⟩
          | brk =>
            obtain ⟨σ6, H6, S6, q6⟩ := hsp
            exact end_ S6 fun s7 J7 => ⟨_, _, J7, q6⟩
          | cont =>
            obtain ⟨σ6, H6, S6, q6⟩ := hsp
            exact end_ S6 fun s7 J7 => ⟨_, _, J7, q6⟩
          | ret u =>
            obtain ⟨v6, σ6, H6, S6, r6, q6⟩ := hsp
            exact end_ S6 fun s7 J7 => ⟨_, _, _, J7, r6, q6⟩
        | false =>
          show wpAny _ X.A (handleBy (.ref a) X.env hds2) _ _ _
          exact ih (hno rfl)
    exact go hh w
  · cases f with
    | next =>
      obtain ⟨σ', H', J', q⟩ := hsp
      exact wpAny_execs_nil ⟨σ', H', J'.ofTry ok, q⟩
    | brk =>
      obtain ⟨σ', H', J', q⟩ := hsp
      exact ⟨σ', H', J'.ofTry ok, q⟩
    | cont =>
      obtain ⟨σ', H', J', q⟩ := hsp
      exact ⟨σ', H', J'.ofTry ok, q⟩
    | ret u =>
      obtain ⟨v, σ', H', J', r, q⟩ := hsp
      exact ⟨v, σ', H', J'.ofTry ok, r, q⟩
end
end L2
/-! Mz, part o: lambdas as data; the def that hears them. -/
namespace LamX
open PySem PySem.Spec PyProof.Rows L2
/-- a lambda of the frame with these cells lies at f, its code object at c' -/
def lamO (cells : List (Str × Addr)) (qual : Str) (params : Arguments) (body : Expr) (scope : Scope) (f c' : Addr) : HO := .ext fun h => ∃ (pm ctv : Value),
  h.get? f = some (PySem.W.kla_obj "<lambda>" (qual ++ "<lambda>") params body scope (cloFrom cells scope.names []) pm c' ctv)
section
variable {X : Cx} {pins : List (Addr × Obj)} {σ : L2.St} {H : Hp} {s : Shared}
theorem lamO_ok {P : Program} {w : World} {H : Hp} {h : Heap} {cells : List (Str × Addr)} {qual : Str} {params : Arguments} {body : Expr} {scope : Scope} {f c' : Addr} {pm ctv : Value}
    (e : h.get? f = some (PySem.W.kla_obj "<lambda>" (qual ++ "<lambda>") params body scope (cloFrom cells scope.names []) pm c' ctv)) : ObjOk P w H h f (lamO cells qual params body scope f c') :=
  ⟨⟨pm, ctv, e⟩, ⟨_, e⟩, fun h1 h2 ⟨pm, ctv, q⟩ k => ⟨pm, ctv, k _ q⟩⟩
/-- the lambda is made and tracked -/
theorem lam_make3 {T : List (Addr × Str)} {c P : Addr} {params : Arguments} {body : Expr} {scope : Scope} {pos : Pos} {E : Value → Shared → Prop} {Q : Value → Shared → Prop} (I : Inv X pins σ H s) (TB : TabB X.base X.mg c P) (hcode : X.env.code = .ref c)
    (hm : (P, X.env.qual ++ "<lambda>") ∈ T) (hu : ∀ p ∈ T, p.1 = P → p.2 = X.env.qual ++ "<lambda>") (hT : Tabs T H) (hdef : defaultsOf params X.env = ([], [])) (hfree : ∀ y ∈ scope.names, y.2 = .free → ∃ c, X.env.cells.lookup y.1 = some c)
    (h : ∀ (f c' : Addr) (H1 : Hp) (s' : Shared), Inv X pins σ (upd H1 f (lamO X.env.cells X.env.qual params body scope f c')) s' → ExtN H H1 → Tabs T H1 → H1 f = none → H1 c' = some (CodeO c' (X.env.qual ++ "<lambda>")) → Q (.ref f) s') :
    wpAny (model X.prog X.w) X.A (eval (.Lambda params body scope pos) X.env) Q E s := by
  obtain ⟨ps, hP, ht, ha⟩ := hT _ hm
  refine PySem.W.kla_eval hdef ?_
  have bP : s.heap.BuiltinsAt X.mg P := TB.bm.keeps I.bk
  have hP' : s.heap.get? P = some { cls := .none, data := .fields ps } := I.hok P _ hP
  cases hc : codeAmong pos ps.toList with
  | none =>
    refine PySem.W.kla_makeFunction (mg := X.mg) (c := c) (P := P) (ps := ps) (closure_ok hfree) I.ok.glob (I.mod.glob.keeps I.bk) hcode (TB.code.keeps I.bk) hP' ht hc TB.gP bP fun c' ctv h' tk hx hge hlt hrec htb => ?_
    obtain ⟨c2, oc, vs, t, e2, hoc, hd, hv⟩ := hrec
    cases e2
    have hsz : s.heap.objs.size ≤ h'.objs.size := Nat.le_trans hge (Nat.le_of_lt hlt)
    have nC : H c' = none := I.hok.fresh hge
    have I1 := inv_table (t' := tk) (more := #[rawInt pos.line, rawInt pos.col, .ref c']) (h' := h') I hP
      (fun b o hb e => hx b o hb e) htb hge ⟨oc, vs, t, hoc, hd, hv⟩
    have hE : ExtN H (upd (upd H P (.tbl (ps ++ #[rawInt pos.line, rawInt pos.col, .ref c']))) c' (CodeO c' (X.env.qual ++ "<lambda>"))) := fun b o e n => by
      rw [upd_ne (ne_of_none e nC), upd_ne (fun z => n ps (Option.some.inj (e.symm.trans (by rw [z]; exact hP))))]
      exact e
    have eL : (ps ++ #[rawInt pos.line, rawInt pos.col, .ref c']).toList = ps.toList ++ [rawInt pos.line, rawInt pos.col, .ref c'] := by simp
    have I2 := I1.laid (t' := tk) (a := h'.objs.size) (o := lamO X.env.cells X.env.qual params body scope h'.objs.size c') (h' := h'.push (PySem.W.kla_obj "<lambda>" (X.env.qual ++ "<lambda>") params body scope (cloFrom X.env.cells scope.names []) ((X.mg "__name__").getD .none) c' ctv))
      (fun b o e => Heap.get?_push_of_some _ e) (Nat.le_refl _) (lamO_ok (Heap.get?_push_size _ rfl))
    refine h h'.objs.size c' _ _ I2 hE (fun p hp => ?_) (I1.hok.fresh (Nat.le_refl _)) upd_same
    by_cases hb : p.1 = P
    · rw [hu p hp hb, hb]
      refine ⟨_, by rw [upd_ne (ne_of_none hP nC), upd_same], by rw [eL]; exact PySem.TriplesOk_snoc _ _ _ _ ht, fun p' cv hcv => ?_⟩
      rw [eL] at hcv
      rcases among_app _ ht hcv with z | z
      · obtain ⟨c0, e1, e2⟩ := ha p' cv z
        exact ⟨c0, e1, hE _ _ e2 codeO_ne⟩
      · exact ⟨c', z, upd_same⟩
    · obtain ⟨ps', a1, a2, a3⟩ := hT p hp
      refine ⟨ps', by rw [upd_ne (ne_of_none a1 nC), upd_ne hb]; exact a1, a2, fun p' cv hcv => ?_⟩
      obtain ⟨c0, e1, e2⟩ := a3 p' cv hcv
      exact ⟨c0, e1, hE _ _ e2 codeO_ne⟩
  | some cv =>
    obtain ⟨c', e, hco⟩ := ha pos cv hc
    subst e
    refine PySem.W.kla_makeFunctionHit (mg := X.mg) (c := c) (P := P) (ps := ps) (closure_ok hfree) I.ok.glob (I.mod.glob.keeps I.bk) hcode (TB.code.keeps I.bk) hP' ht hc bP fun ctv h' tk hx hsz => ?_
    have I0 : Inv X pins σ H { s with heap := h', toks := tk } := I.kept hx
    have I2 := I0.laid (t' := tk) (a := h'.objs.size) (o := lamO X.env.cells X.env.qual params body scope h'.objs.size c') (h' := h'.push (PySem.W.kla_obj "<lambda>" (X.env.qual ++ "<lambda>") params body scope (cloFrom X.env.cells scope.names []) ((X.mg "__name__").getD .none) c' ctv))
      (fun b o e => Heap.get?_push_of_some _ e) (Nat.le_refl _) (lamO_ok (Heap.get?_push_size _ rfl))
    exact h h'.objs.size c' H _ I2 (ExtN.refl H) hT (I.hok.fresh hsz) hco
end
structure LamI where
  params : Arguments
  body : Expr
  scope : Scope
section
variable {X : Cx} {pins : List (Addr × Obj)} {σ : L2.St} {H : Hp} {s : Shared}
/-- x(), in the def that got the lambda at f -/
theorem pe_act2 {CXg : CXT} {Eg : XK} {Ng : List Str} {qg : Str} {sg : Scope} {g f c' : Addr} {cdg : Value} {params : Arguments} {body : Expr} {scope : Scope} {k i : Nat} {a : Str} {pn : List (Addr × Obj)} {xe : Value → Shared → Prop} {W : WX} {E : XK} {tb : TE} {p1 p2 : Pos}
    (I : Inv X pins σ H s) (L : LamS X.env.scope scope)
    (hbind : ∀ (q : Str) (cl : List (Str × Addr)) (pm cv ctv : Value), bindArgs (PySem.W.kla_fn "<lambda>" q params body scope cl pm cv ctv) ⟨[], []⟩ = pure [])
    (tk : Takes ((cxOf CXg X.prog X.w X.K X.mg X.base Ng qg sg g cdg X.A X.stack s H Eg).tr pn xe) W) (hW : ∀ cls d σ' H', E cls d H' → W cls d σ' H') (hr : Room (k + 1) (X.A.deeper (envOfC qg sg s.heap.objs.size g cdg)))
    (hbody : ∀ (A : Around) (outer : List PySem.Env) (s : Shared) (H : Hp), Room k (A.deeper (lamEnv X scope s.heap.objs.size f c')) → PE (lamCx X A outer s H E scope f c') body tb)
    (hN : Ng[i]? = some a) (hv : Vis sg a) (hd : (a == ("__debug__" : Str)) = false := by decide) (hcd : (a == ("__classdict__" : Str)) = false := by decide) :
    PE ((cxOf CXg X.prog X.w X.K X.mg X.base Ng qg sg g cdg X.A X.stack s H Eg).tr pn xe) (.Call (.Name a p1) [] [] p2)
      (fun σZ HZ Q => σZ[i]? = some (some (.ref f)) ∧ HZ f = some (lamO X.env.cells X.env.qual params body scope f c') ∧ HZ c' = some (CodeO c' (X.env.qual ++ "<lambda>")) ∧ tb σ HZ Q) := by
  refine ⟨fun pinsZ sZ σZ HZ Q IZ h => ?_⟩
  obtain ⟨hs, hf, hc, ht⟩ := h
  refine wpAny_Call_Name_kw (thn ((pe_var (pos := p1) (i := i) hN hv hd hcd).run pinsZ sZ σZ HZ (fun v H1 => v = .ref f ∧ H1 = HZ) IZ ⟨.ref f, hs, rfl, rfl⟩) fun u s1 ⟨v, H1, I1, r1, q1⟩ => ?_)
  obtain ⟨ev, eH⟩ := q1
  subst ev
  rw [eH] at I1
  obtain rfl : u = Value.ref f := r1
  obtain ⟨⟨pm, ctv, of1⟩, _, _⟩ := I1.hok f _ hf
  refine PySem.W.callWith_F0 ⟨_, _, _, _, of1⟩ ?_
  have un : Un (frs X.stack) [] H HZ s.heap s1.heap := I1.base
  obtain ⟨⟨oc, vs, t, hoc, hdc, hvc⟩, _, _⟩ := I1.hok c' _ hc
  have rc : codeAny (model X.prog X.w) (X.A.deeper (envOfC qg sg s.heap.objs.size g cdg)) (.call (.ref f) ⟨[], []⟩) (CR (L2.CX X.prog X.w) (envOfC qg sg s.heap.objs.size g cdg :: X.stack) X.prog X.w HZ s1 Q E) s1 := by
    refine PySem.W.kla_callFunE hr.depth of1 rfl L.co L.gen rfl ⟨c', oc, vs, t, rfl, hoc, hdc, hvc⟩ ?_
    rw [hbind]
    refine wpAny_pure (wpAny_newFunctionEnv (fun y hy => (L.own y hy).2) (fun y hy => absurd hy (by simp)) (fun h₁ hns hsb => ⟨I1.nolimit.fresh _ hsb, ?_⟩) L.kind)
    show codeAny _ _ (.expr body (lamEnv X scope s1.heap.objs.size f c')) _ _
    have kp : ∀ b o, s1.heap.get? b = some o → h₁.get? b = some o := fun b o e => hsb.extBut b o (Nat.ne_of_lt (Heap.lt_size e)) (Heap.get?_push_of_some _ e)
    have J : Inv (lamCx X (X.A.deeper (envOfC qg sg s.heap.objs.size g cdg)) (envOfC qg sg s.heap.objs.size g cdg :: X.stack) s1 HZ E scope f c') [] σ HZ { s1 with heap := h₁, toks := s1.toks + ([] : List (Str × Value)).length } :=
      lam_start2 I L I1.env0 hr.hd un hns kp
    refine PySem.W.kla_codeExpr (wpAny_mono ((hbody _ _ s1 HZ (hr.deeper _)).run [] _ _ HZ Q J ht) (fun v s' hq => ?_) fun e s' hq => hq)
    obtain ⟨w', H', J', rv, q⟩ := hq
    exact ⟨w', H', J'.os, J'.bare, J'.base, J'.hok, rv, q⟩
  have hx : Passes (L2.CX X.prog X.w) ((cxOf CXg X.prog X.w X.K X.mg X.base Ng qg sg g cdg X.A X.stack s H Eg).tr pn xe) E := passes_call tk hW
  refine wpAny_call (codeAny_mono rc fun r s' hq => ?_)
  cases r with
  | error e => exact hx pinsZ σZ HZ s1 e s' I1 hq
  | ok fl =>
    cases fl with
    | ret u => exact I1.after hq
    | next => exact False.elim hq
    | brk => exact False.elim hq
    | cont => exact False.elim hq
end
section
variable {X : Cx}
/-- x(l), l one of the lambdas of this frame -/
def tHear (cells : List (Str × Addr)) (qual : Str) (lam : Nat → LamI) (ok : Nat → Prop) (TT : (XK → Hp → VK → Prop) → Hp → VK → Prop) (t : Nat → XK → TE) (ta : TA) : TE := fun σ H Q => ta σ H fun vs H1 => ∃ f c' n, vs = [.ref f] ∧ ok n ∧
  H1 f = some (lamO cells qual (lam n).params (lam n).body (lam n).scope f c') ∧ H1 c' = some (CodeO c' (qual ++ "<lambda>")) ∧ TT (fun E H' Q' => H' f = some (lamO cells qual (lam n).params (lam n).body (lam n).scope f c') ∧ t n E σ H' Q') H1 Q
theorem pe_hear {TT : (XK → Hp → VK → Prop) → Hp → VK → Prop} {x a : Str} {g : Addr} {k : Nat} {pg : Arguments} {bg : List Stmt} {sg : Scope} {dV kV doc pm cdv ct oc : Value} {an od : Option Addr} {osl : Array (Option Value)} {Ng : List Str}
    {lam : Nat → LamI} {ok : Nat → Prop} {arg : Expr} {ta : TA} {t : Nat → XK → TE} {p pos : Pos} (hg : Gl X x) (hm : X.mg x = some (.ref g)) (hk : PySem.W.keepIn X.K (.ref g) = true)
    (lk : X.K.lookup g = some ⟨oc, od, .func (PySem.W.fnOf x x pg bg sg dV kV doc pm an cdv ct), osl⟩) (hcg : PySem.W.codeIn X.K cdv x = true) (hb : L2.Binds X.K (PySem.W.fnOf x x pg bg sg dV kV doc pm an cdv ct) [a] []) (Sg : FnScope Ng [a] sg) (hNg : Ng[0]? = some a) (hva : Vis sg a)
    (hG : GivesTo X Ng x sg g cdv bg a (X.env.qual ++ "<lambda>") TT)
    (hr : Room (k + 2) X.A) (L : ∀ n, ok n → LamS X.env.scope (lam n).scope)
    (hbind : ∀ n, ok n → ∀ (q : Str) (cl : List (Str × Addr)) (pm cv ctv : Value), bindArgs (PySem.W.kla_fn "<lambda>" q (lam n).params (lam n).body (lam n).scope cl pm cv ctv) ⟨[], []⟩ = pure [])
    (hbody : ∀ n, ok n → ∀ (A : Around) (outer : List PySem.Env) (s : Shared) (H : Hp) (E : XK) (f c' : Addr), Room k (A.deeper (lamEnv X (lam n).scope s.heap.objs.size f c')) → PE (lamCx X A outer s H E (lam n).scope f c') (lam n).body (t n E))
    (ha : PA X [arg] ta) (he : starEach (arg :: []) X.env = (false, eval arg X.env) :: starEach [] X.env := by rfl)
    (hdb : (x == ("__debug__" : Str)) = false := by decide) (hd : (a == ("__debug__" : Str)) = false := by decide) (hcd : (a == ("__classdict__" : Str)) = false := by decide) :
    PE X (.Call (.Name x p) [arg] [] pos) (tHear X.env.cells X.env.qual lam ok TT t ta) := by
  refine ⟨fun pins s σ H Q I h => ?_⟩
  refine wpAny_Call_Name_kw (ld_glob I hg hm ?_ hdb)
  refine PySem.W.callWith_K (h₀ := X.base) I.ok.mod.kin hk (thn (ha.run pos pins s σ H _ I h) fun us s' hh => ?_) he (by rfl)
  obtain ⟨vs, H1, I1, r1, f, c', n, ev, hn, hf, hco, hTT⟩ := hh
  subst ev
  cases r1 with
  | cons ru rn =>
    rename_i u us'
    cases rn
    obtain rfl : u = Value.ref f := ru
    refine ⟨I1.kIn, ?_⟩
    have rc : codeAny (model X.prog X.w) X.A (.call (.ref g) ⟨[.ref f], []⟩) (CR C8.CX0 X.stack X.prog X.w H1 s' Q C8.E0) s' := by
      refine run_ofS (N := Ng) (ps := [a]) (us := [.ref f]) (vs := [.ref f]) lk hcg Sg hr I1.env0 (hb s' [.ref f] I1.kIn rfl) (.cons rfl .nil) rfl fun hr' => ?_
      obtain ⟨t', ht', hq'⟩ := hG f c' s' H1 Q (fun E H' Q' => H' f = some (lamO X.env.cells X.env.qual (lam n).params (lam n).body (lam n).scope f c') ∧ t n E σ H' Q') (fun W pn xe E p1 p2 tk hW =>
        ⟨fun pins s σZ HZ Q I ⟨q1, q2, q3, q4⟩ => (pe_act2 (i := 0) I1 (L n hn) (hbind n hn) tk hW hr' (fun A outer s H hr2 => hbody n hn A outer s H E f c' hr2) hNg hva hd hcd).run pins s σZ HZ Q I ⟨q1, q3, q2, q4⟩⟩) hco hTT
      exact ⟨t', ht'.nox, hq'⟩
    refine wpAny_call (codeAny_mono rc fun r s2 hq => ?_)
    cases r with
    | error e => exact (show False from hq).elim
    | ok fl =>
      cases fl with
      | ret u => exact I1.after hq
      | next => exact False.elim hq
      | brk => exact False.elim hq
      | cont => exact False.elim hq
/-- try: return ('ok', a()) / except .. as e: return .. -/
def TTh (K : PySem.W.Frag) (n : Nat) (w : Str) (l : List (Value × Nat × (Addr → Value → Option Addr → TS))) : (XK → Hp → VK → Prop) → Hp → VK → Prop := fun tl H Q =>
  tl (fun cls dd H' => ∀ σ' : L2.St, σ'.length = n → wManyA K (fun _ _ _ _ => False) { nx := fun _ H' => Q .non H', rt := Q } l cls dd σ' H') H (fun v H' => [V.str w, v].length ≤ sizeLine ∧ ∀ p, H' p = none → Q (.ref p) (upd H' p (.tup [.str w, v])))
theorem takes_len {X : Cx} {W : WX} {n : Nat} (hn : X.N.length = n) (tk : Takes X W) : Takes X (fun cls d σ H => σ.length = n → W cls d σ H) := fun e s' x => by
  obtain ⟨a, B, sI, pins, σ', H', cls, d, e1, J, nb, up, sky, na, os, ag, w⟩ := x
  exact tk e s' ⟨a, B, sI, pins, σ', H', cls, d, e1, J, nb, up, sky, na, os, ag, w (J.len.trans hn)⟩
theorem heard_gives {Ng : List Str} {x a q w : Str} {sg : Scope} {g : Addr} {cdg : Value} {j k2 : Nat} {p1 p2 p3 p4 p5 p8 : Pos} {h₀ : ExceptHandler} {hds : List ExceptHandler} {l : List (Value × Nat × (Addr → Value → Option Addr → TS))} (hNg : Ng.Nodup) (h0 : ∀ f : Addr, (L2.start Ng [V.ref f])[0]? = some (some (V.ref f)))
    (hh : ∀ (s : Shared) (H : Hp), HdsA (cxOf C8.CX0 X.prog X.w X.K X.mg X.base Ng x sg g cdg X.A X.stack s H C8.E0).nox (h₀ :: hds) l) :
    GivesTo X Ng x sg g cdg [.Try [.Return (some (.Tuple [.Constant (.str w) j p5, .Call (.Name a p1) [] [] p2] k2 p3)) p4] (h₀ :: hds) [] [] p8] a q (TTh X.K Ng.length w l) := by
  intro f c' s H Q tl act hc h
  refine ⟨_, pss_one (ps_try_manyA (X := (cxOf C8.CX0 X.prog X.w X.K X.mg X.base Ng x sg g cdg X.A X.stack s H C8.E0).nox)
      (tb := fun W D σ H => ∃ Ech : XK, (∀ cls d σ' H', Ech cls d H' → σ'.length = Ng.length → W cls d σ' H') ∧ σ[0]? = some (some (.ref f)) ∧ H c' = some (CodeO c' q) ∧ tl Ech H fun v H' => [V.str w, v].length ≤ sizeLine ∧ ∀ p, H' p = none → D.rt (.ref p) (upd H' p (.tup [.str w, v])))
      rfl rfl hNg takes0 (fun W pn xe tk _ => ?_) (hh s H)), ?_⟩
  · refine ⟨fun pins s' σ H D I h' => ?_⟩
    obtain ⟨Ech, hW, h1, h2, h3⟩ := h'
    have hp := act (fun cls d σ H => σ.length = Ng.length → W cls d σ H) pn xe Ech p1 p2 (takes_len rfl tk) hW
    have hq := pss_one (ps_ret (pos := p4) (pe_tup (x1 := k2) (pos := p3) (pa_cons (pe_str (j := j) (pos := p5) (x := w)) (pa_cons hp pa_nil))))
    exact hq.run pins s' σ H D I ⟨h1, h2, h3⟩
  · exact ⟨_, fun cls d σ' H' z hl => z σ' hl, h0 f, hc, h⟩
end
end LamX
/-! Mz, part p: lambdas made, heard. -/
namespace Mz
open PySem PySem.Spec PyProof.Rows L2
section
variable {K : PySem.W.Frag} {c : Cfg} {H0 G0 G H : Hp} {pn : Pins} {o : Own} {e : Env} {p : Pen} {σ : L2.St}
/-- the tables have grown -/
theorem SR.extN {H1 : Hp} (S : SR K c H0 G0 pn o G e p σ H) (hE : LamX.ExtN H H1) (T1 : LamX.Tabs c.T H1) : SR K c H0 G0 pn o G e p σ H1 := by
  have kp : ∀ a u, H a = some u → ¬ isTbl u → H1 a = some u := fun a u h t => hE a u h (not_tbl t)
  have nd : ∀ {u : HO}, isDat u → ¬ isTbl u := fun {u} h => h.ntbl
  refine S.move ⟨fun a u h => kp a u (S.b.gh _ _ h) (S.b.gt _ _ h), S.b.g0, S.b.gn, fun a u h hp ht => kp a u (S.b.fr a u h hp ht) ht, fun a h u hu => ?_, S.b.gp, S.b.gt, T1, ?_⟩ (Same.refl _) fun l u _ hu hd hG _ => ⟨kp l u hu (nd hd), hG⟩
  · cases hH : H a with
    | none => exact S.b.st a hH u hu
    | some w =>
      by_cases hw : isTbl w
      · by_cases ht : isTbl u
        · exact ht
        · by_cases hp : a = c.pa
          · obtain ⟨kvs, q⟩ := S.b.paH
            rw [hp, q] at hH
            cases hH
            exact hw.elim
          · have := S.b.fr a u hu hp ht
            rw [hH] at this
            cases this
            exact absurd hw ht
      · have := kp a w hH hw
        rw [h] at this; cases this
  · obtain ⟨l, h1, h2⟩ := S.b.pen
    exact ⟨l, kp _ _ h1 (fun z => z), h2⟩
theorem codeO_ntbl {a : Addr} {q : Str} : ¬ isTbl (LamX.CodeO a q) := fun z => by unfold LamX.CodeO at z; exact z
theorem lamO_ntbl {cells : List (Str × Addr)} {qual : Str} {ps : Arguments} {b : Expr} {sc : Scope} {f c' : Addr} : ¬ isTbl (LamX.lamO cells qual ps b sc f c') := fun z => by unfold LamX.lamO at z; exact z
theorem codeO_ndat {a : Addr} {q : Str} : ¬ isDat (LamX.CodeO a q) := fun z => by unfold LamX.CodeO at z; exact z
/-- something that is no list and no dict is known from now on -/
theorem SR.know (S : SR K c H0 G0 pn o G e p σ H) {a : Addr} {u : HO} (h : H a = some u) (nw : NewIn H0 a) (nt : ¬ isTbl u) (nd : ¬ isDat u) : ∃ G1, Same G G1 ∧ G1 a = some u ∧ SR K c H0 G0 pn o G1 e p σ H := by
  cases hG : G a with
  | some w =>
    have := S.b.gh _ _ hG
    rw [h] at this
    cases this
    exact ⟨G, Same.refl _, hG, S⟩
  | none =>
    obtain ⟨S', s⟩ := S.give h hG nw (fun z => by
      obtain ⟨kvs, q⟩ := S.b.paH
      rw [z, q] at h
      cases h
      exact nd True.intro) nt fun hp => by
        obtain ⟨⟨w, hw, hd⟩, _⟩ := S.priv hp
        rw [h] at hw; cases hw
        exact nd hd
    exact ⟨_, s, upd_same, S'⟩
end
section
variable {z : Z} {o o1 : Own} {pos : Pos}
/-- lambda: .. -/
theorem me_lam {cc P : Addr} {params : Arguments} {body : Expr} {scope : Scope} {n : Nat} (hlo : z.c.ca.lo n = LamX.lamO z.X.env.cells z.X.env.qual params body scope) (hq : z.c.ca.cq = z.X.env.qual ++ "<lambda>") (hH : ∀ a, NewIn z.H0 a)
    (TB : LamX.TabB z.X.base z.X.mg cc P) (hcode : z.X.env.code = .ref cc) (hmT : (P, z.X.env.qual ++ "<lambda>") ∈ z.c.T) (hu : ∀ p ∈ z.c.T, p.1 = P → p.2 = z.X.env.qual ++ "<lambda>") (L : LamX.LamS z.X.env.scope scope) (hdef : defaultsOf params z.X.env = ([], []) := by rfl) :
    ME z o .fro (.Lambda params body scope pos) (mC (.clo n)) :=
  ⟨fun pins s σ H Q I ⟨G, e, p, S, q⟩ => LamX.lam_make3 I TB hcode hmT hu S.b.tb hdef (L.has I.ok) fun f c' H1 s' I1 hE T1 hf hc => by
    have S1 := S.extN hE T1
    obtain ⟨S2, s2⟩ := S1.new (u := LamX.lamO z.X.env.cells z.X.env.qual params body scope f c') hf lamO_ntbl
    have hc2 : upd H1 f (LamX.lamO z.X.env.cells z.X.env.qual params body scope f c') c' = some (LamX.CodeO c' (z.X.env.qual ++ "<lambda>")) := by
      rw [upd_ne (ne_of_none hc hf)]; exact hc
    obtain ⟨G3, s3, h3, S3⟩ := S2.know hc2 (hH c') codeO_ntbl codeO_ndat
    exact ⟨.ref f, _, I1, rfl, q (.ref f) G3 _ (s2.trans s3) S3 (.clo (c := c') (by rw [hlo]; exact s3 _ _ upd_same) (by rw [hq]; exact h3))⟩⟩
/-- a handler: its class, what it makes of the exception (at a) -/
abbrev Hdl := Nat × (Addr → Exn → M D)
/-- what a handler's suite is to reach -/
def tsH (K : PySem.W.Frag) (c : Cfg) (m : Addr → Exn → M D) (n : Nat) : Addr → Value → Option Addr → TS := fun a cls dd D σ H => ∃ G p x, BR c H G G p H ∧ ExcR K c G cls dd x ∧ x.c = n ∧ σ.length = 2 ∧ σ[1]? = some (some (.ref a)) ∧
  Cont (m a x [none, some (.ref a)] p) (fun d p' => ∀ v G' H', Same G G' → BR c H G G' p' H' → Rep K c.ca G' v d → D.rt v H') (fun _ _ => False)
/-- the handlers' suites, one lemma each -/
abbrev zH (X : Cx) (a : Addr) (q : Addr × Obj) (pn : List (Addr × Obj)) (c : Cfg) (H G : Hp) : Z := { X := X.suite a (q :: pn), W := fun _ _ _ _ => False, c := c, H0 := H, G0 := G, ob := [], pn := [] }
theorem hd_suite {X : Cx} {c : Cfg} {expr : Expr} {m : Addr → Exn → M D} {n : Nat} {a : Addr} {oe : Obj} {cls : Value} {dd : Option Addr} {pn : List (Addr × Obj)} {rp : Pos}
    (h : ∀ (x : Exn) (H G : Hp), x.c = n → ExcR X.K c G cls dd x → ME (zH X a (a, oe) pn c H G) [] .fro expr (m a x)) : PSs (X.suite a ((a, oe) :: pn)) [.Return (some expr) rp] (tsH X.K c m n a cls dd) := by
  refine pss_one ⟨fun pins s σ H D I ⟨G, p, x, b, er, hn, hl, h1, q⟩ => ?_⟩
  refine (ms_ret (o1 := []) (h x H G hn er) (pos := rp)).run pins s σ H D I (RS.iff.mpr ⟨G, [none, some (.ref a)], p, ⟨b, hl, fun i d h2 _ => ?_, fun i d h2 h3 => ?_, fun i j d d' _ _ h3 => ?_, fun q hq => nomatch hq⟩, ?_⟩)
  · match i, h2 with
    | 0, h2 => cases h2
    | 1, h2 => cases h2; exact ⟨.ref a, h1, .ref a⟩
    | i + 2, h2 => cases h2
  · simp [own] at h3
  · simp [own] at h3
  · unfold sRet
    cases hm : m a x [none, some (.ref a)] p with
    | ok d p' => rw [hm] at q; exact q
    | err x p' => rw [hm] at q; exact q.elim
    | stuck => rw [hm] at q; exact q
/-- e.f, e the exception -/
def mFld (a : Addr) (x : Exn) (f : Str) : M D := fun e p => match e[1]? with
  | some (some (D.ref b)) => if b = a then lift (x.fs.lookup f) p else .stuck
  | _ => .stuck
theorem me_fld {X : Cx} {c : Cfg} {H G : Hp} {a : Addr} {oe : Obj} {cls : Value} {dd : Option Addr} {pn : List (Addr × Obj)} {x : Exn} {n f : Str} {ep pos : Pos} (hz : Zc cls dd oe) (hf : ∃ vs, oe.data = .fields vs) (er : ExcR X.K c G cls dd x) (T : XfC X.K (c.ca x.c)) (hno : PySem.W.findIn X.K (.ref (c.ca x.c)) f = some none)
    (hN : X.N[1]? = some n := by rfl) (hv : Vis X.env.scope n := by exact Or.inl rfl) (hd : (n == ("__debug__" : Str)) = false := by decide) (hcd : (n == ("__classdict__" : Str)) = false := by decide)
    (hb : attributeBase (.Name n ep) f X.env (eval (.Name n ep) X.env) = eval (.Name n ep) X.env := by rfl) : ME (zH X a (a, oe) pn c H G) [] .fro (.Attribute (.Name n ep) f pos) (mFld a x f) :=
  PE.imp (pe_xf T hno hz hf (pe_var (i := 1) hN hv hd hcd) hb) fun σ H Q ⟨G1, e, p, S, q⟩ => by
    unfold mFld at q
    split at q
    · rename_i b he
      split at q
      · rename_i hb
        subst hb
        obtain ⟨d, hd, k⟩ := q.lift
        obtain ⟨v, h1, h2⟩ := S.fz 1 _ he (.inr rfl)
        cases h2
        obtain ⟨e1, da, vs, e2, e3, e4⟩ := er
        obtain ⟨v, f1, f2⟩ := e4.look hd
        exact ⟨_, h1, rfl, e1, da, vs, v, e2, S.b.gh _ _ (S.b.g0 _ _ e3), f1, k v G1 H (Same.refl _) S (f2.mono S.b.g0)⟩
      · exact q.elim
    · exact q.elim
/-- what the clauses make of an exception -/
def hdlOf (hl : List Hdl) (x : Exn) (p : Pen) : R D := match hl with
  | [] => .stuck
  | (n, m) :: r => if n = x.c then (m 0 x [none, some (.ref 0)] p).calm else hdlOf r x p
/-- try: return (w, <body>) / except ..; the classes that are known: kn -/
def mHear (w : Str) (kn : List Nat) (hl : List Hdl) (mb : M D) : M D := fun e p => match mb e p with
  | .ok d p => .ok (.tup [.str w, d]) p
  | .err x p => if x.c ∈ kn then hdlOf hl x p else .stuck
  | .stuck => .stuck
def mHearC (w : Str) (kn : List Nat) (hl : List Hdl) (ok : List Nat) (lamd : Nat → M D) (ma : M D) : M D := fun e p => (ma e p).bind fun d p => match d with
  | .clo n => if n ∈ ok then mHear w kn hl (lamd n) e p else .stuck
  | _ => .stuck
/-- the context of a lambda's body -/
abbrev zL (z : Z) (A : Around) (outer : List PySem.Env) (s : Shared) (H : Hp) (E : XK) (scope : Scope) (f c' : Addr) : Z := { z with X := LamX.lamCx z.X A outer s H E scope f c', W := fun cls dd _ H => E cls dd H }
/-- the clauses as the library reads them -/
def hdsL (K : PySem.W.Frag) (c : Cfg) (hl : List Hdl) : List (Value × Nat × (Addr → Value → Option Addr → TS)) := hl.map fun q => (.ref (c.ca q.1), 1, tsH K c q.2 q.1)
theorem hear_err {hl : List Hdl} {kn : List Nat} (hex : ∀ n ∈ kn, ∀ q ∈ hl, PySem.W.exmOne z.X.K (.ref (z.c.ca n)) (.ref (z.c.ca q.1)) = some (decide (q.1 = n))) (ha : ∀ q ∈ hl, ∀ (a : Addr) (x : Exn) (p : Pen), q.2 a x [none, some (.ref a)] p = q.2 0 x [none, some (.ref 0)] p)
    {x : Exn} (hx : x.c ∈ kn) {G H : Hp} {p : Pen} {cls : Value} {dd : Option Addr} {σ' : L2.St} {Q : VK} (b : BR z.c H G G p H) (er : ExcR z.X.K z.c G cls dd x) (hl2 : σ'.length = 2)
    (q : Cont (hdlOf hl x p) (fun d p' => ∀ v G' H', BR z.c H G G' p' H' → Rep z.X.K z.c.ca G' v d → Q v H') (fun _ _ => False)) :
    wManyA z.X.K (fun _ _ _ _ => False) { nx := fun _ H' => Q .non H', rt := Q } (hdsL z.X.K z.c hl) cls dd σ' H := by
  induction hl with
  | nil => exact q.elim
  | cons h hl ih =>
    obtain ⟨n, m⟩ := h
    refine ⟨decide (n = x.c), by rw [er.1]; exact hex _ hx (n, m) List.mem_cons_self, fun ht a na => ?_, fun hf => ?_⟩
    · have hn : n = x.c := of_decide_eq_true ht
      unfold hdlOf at q
      rw [if_pos hn] at q
      refine ⟨G, p, x, b, er, hn.symm, by rw [List.length_set]; exact hl2, by rw [List.getElem?_set_self (by rw [hl2]; exact Nat.lt_succ_self 1)], ?_⟩
      rw [ha (n, m) List.mem_cons_self a x p]
      exact (Cont.calm q).mono (fun d p' k v G' H' s b' r => k v G' H' b' r) fun _ _ k => k
    · have hn : ¬ n = x.c := of_decide_eq_false hf
      unfold hdlOf at q
      rw [if_neg hn] at q
      exact ih (fun n' hn' q hq => hex n' hn' q (List.mem_cons_of_mem _ hq)) (fun q hq => ha q (List.mem_cons_of_mem _ hq)) q
theorem me_hear {w x a : Str} {g : Addr} {k : Nat} {pg : Arguments} {sg : Scope} {dV kV doc pm cdv ct oc : Value} {an od : Option Addr} {osl : Array (Option Value)} {Ng : List Str} {j k2 : Nat} {q1 q2 q3 q4 q5 q8 : Pos} {h₀ : ExceptHandler} {hds : List ExceptHandler}
    {lam : Nat → LamX.LamI} {ok : List Nat} {lamd : Nat → M D} {hl : List Hdl} {kn : List Nat} {arg : Expr} {ma : M D} {p : Pos} (hg : Gl z.X x) (hm : z.X.mg x = some (.ref g)) (hk : PySem.W.keepIn z.X.K (.ref g) = true)
    (lk : z.X.K.lookup g = some ⟨oc, od, .func (PySem.W.fnOf x x pg [.Try [.Return (some (.Tuple [.Constant (.str w) j q5, .Call (.Name a q1) [] [] q2] k2 q3)) q4] (h₀ :: hds) [] [] q8] sg dV kV doc pm an cdv ct), osl⟩) (hcg : PySem.W.codeIn z.X.K cdv x = true)
    (hb : L2.Binds z.X.K (PySem.W.fnOf x x pg [.Try [.Return (some (.Tuple [.Constant (.str w) j q5, .Call (.Name a q1) [] [] q2] k2 q3)) q4] (h₀ :: hds) [] [] q8] sg dV kV doc pm an cdv ct) [a] []) (Sg : FnScope Ng [a] sg) (hNl : Ng.length = 2) (hNg : Ng[0]? = some a) (hva : Vis sg a) (hNd : Ng.Nodup)
    (hh : ∀ (s : Shared) (H : Hp), HdsA (cxOf C8.CX0 z.X.prog z.X.w z.X.K z.X.mg z.X.base Ng x sg g cdv z.X.A z.X.stack s H C8.E0).nox (h₀ :: hds) (hdsL z.X.K z.c hl))
    (hex : ∀ n ∈ kn, ∀ q ∈ hl, PySem.W.exmOne z.X.K (.ref (z.c.ca n)) (.ref (z.c.ca q.1)) = some (decide (q.1 = n))) (hca : ∀ q ∈ hl, ∀ (a : Addr) (x : Exn) (p : Pen), q.2 a x [none, some (.ref a)] p = q.2 0 x [none, some (.ref 0)] p)
    (hr : Room (k + 2) z.X.A) (hq : z.c.ca.cq = z.X.env.qual ++ "<lambda>") (hlo : ∀ n ∈ ok, z.c.ca.lo n = LamX.lamO z.X.env.cells z.X.env.qual (lam n).params (lam n).body (lam n).scope)
    (L : ∀ n ∈ ok, LamX.LamS z.X.env.scope (lam n).scope)
    (hbind : ∀ n ∈ ok, ∀ (q : Str) (cl : List (Str × Addr)) (pm cv ctv : Value), bindArgs (PySem.W.kla_fn "<lambda>" q (lam n).params (lam n).body (lam n).scope cl pm cv ctv) ⟨[], []⟩ = pure [])
    (hbody : ∀ n ∈ ok, ∀ (A : Around) (outer : List PySem.Env) (s : Shared) (H : Hp) (E : XK) (f c' : Addr), Room k (A.deeper (LamX.lamEnv z.X (lam n).scope s.heap.objs.size f c')) → ME (zL z A outer s H E (lam n).scope f c') o .fro (lam n).body (lamd n))
    (ha : ME z o .fro arg ma) (he : starEach (arg :: []) z.X.env = (false, eval arg z.X.env) :: starEach [] z.X.env := by rfl)
    (hdb : (x == ("__debug__" : Str)) = false := by decide) (hd : (a == ("__debug__" : Str)) = false := by decide) (hcd : (a == ("__classdict__" : Str)) = false := by decide) :
    ME z o .fro (.Call (.Name x p) [arg] [] pos) (mHearC w kn hl ok lamd ma) :=
  PE.imp (LamX.pe_hear (ok := fun n => n ∈ ok) (t := fun n E => RE { z with W := fun cls dd _ H => E cls dd H } o .fro (lamd n)) hg hm hk lk hcg hb Sg hNg hva (LamX.heard_gives (l := hdsL z.X.K z.c hl) hNd (fun f => by
      have : 0 < Ng.length := by rw [hNl]; exact Nat.succ_pos 1
      unfold L2.start
      rfl) hh) hr L hbind hbody (pa_cons ha pa_nil he) he hdb hd hcd) fun σ H Q ⟨G, e, p, S, q⟩ => by
    unfold mHearC at q
    rw [Cont.bind] at q
    refine ⟨G, e, p, S, q.mono (fun d1 p1 k1 v1 G1 H1 s1 S1 l1 => ?_) fun x p' k => k⟩
    cases d1 with
    | clo n =>
      dsimp only at k1
      split at k1
      · rename_i hn
        cases l1 with
        | @clo f c' _ h1 h2 =>
          rw [hlo n hn] at h1
          rw [hq] at h2
          have hf := S1.b.gh _ _ h1
          refine ⟨f, c', n, rfl, hn, hf, S1.b.gh _ _ h2, ?_⟩
          unfold LamX.TTh
          refine ⟨hf, G1, e, p1, S1, ?_⟩
          unfold mHear at k1
          cases hm : lamd n e p1 with
          | ok d p2 =>
            rw [hm] at k1
            intro v2 G2 H2 s2 S2 l2
            refine ⟨(by rw [sizeLine_eq]; exact (by decide : 2 ≤ 16777216)), fun l nl => ?_⟩
            obtain ⟨G3, s3, S3, r3⟩ := lies_tup S2 nl (.cons (.str w) (.cons l2 .nil))
            exact k1 _ G3 _ ((s1.trans s2).trans s3) S3 r3
          | err x p2 =>
            rw [hm] at k1
            intro cls dd G2 H2 s2 S2 er σ' hσ
            dsimp only at k1
            split at k1
            · rename_i hx
              refine hear_err hex hca hx S2.b.enter er (by rw [hσ, hNl]) ?_
              -- the handler may not raise
              have calm : ∀ (hl : List Hdl), (∀ x' p', hdlOf hl x p2 ≠ .err x' p') := fun hl => by
                induction hl with
                | nil => intro x' p' z; cases z
                | cons h hl ih =>
                  obtain ⟨n', m'⟩ := h
                  intro x' p' z
                  unfold hdlOf at z
                  split at z
                  · cases hr : m' 0 x [none, some (.ref 0)] p2 <;> (rw [hr] at z; cases z)
                  · exact ih x' p' z
              cases hh : hdlOf hl x p2 with
              | ok d p3 =>
                rw [hh] at k1
                intro v3 G3 H3 b3 r3
                exact k1 v3 G3 H3 ((s1.trans s2).trans b3.g0) (S2.call b3) r3
              | err x' p3 => exact absurd hh (calm hl x' p3)
              | stuck => rw [hh] at k1; exact k1.elim
            · exact k1.elim
          | stuck => rw [hm] at k1; exact k1.elim
      · exact k1.elim
    | _ => exact k1.elim
end
end Mz
/-! Mz, part q: the pen read and written. -/
namespace Mz
open PySem PySem.Spec PyProof.Rows L2
inductive PK where
  | cells | at_ | digits | count | fold
def PK.s : PK → Str
  | .cells => "cells"
  | .at_ => "at"
  | .digits => "digits"
  | .count => "count"
  | .fold => "fold"
def penG (k : PK) (p : Pen) : D := match k with
  | .cells => .lst (p.cells.map .int)
  | .at_ => .int p.at_
  | .digits => .int p.digits
  | .count => .int p.count
  | .fold => .int p.fold
def penS (k : PK) (i : Int) (p : Pen) : Pen := match k with
  | .cells => p
  | .at_ => { p with at_ := i }
  | .digits => { p with digits := i }
  | .count => { p with count := i }
  | .fold => { p with fold := i }
def penV (k : PK) (p : Pen) (l : Addr) : V := match k with
  | .cells => .ref l
  | .at_ => .int p.at_
  | .digits => .int p.digits
  | .count => .int p.count
  | .fold => .int p.fold
theorem pen_get (k : PK) (p : Pen) (l : Addr) : valV (penK p l) (.inr k.s) = some (penV k p l) := by
  cases k <;> rfl
theorem pen_put {k : PK} (h : k ≠ .cells) (p : Pen) (l : Addr) (i : Int) : putK (penK p l) (.inr k.s) (.int i) = penK (penS k i p) l := by
  cases k <;> first | exact absurd rfl h | rfl
section
variable {K : PySem.W.Frag} {c : Cfg} {H0 G0 G H : Hp} {pn : Pins} {o : Own} {e : Env} {p : Pen} {σ : L2.St}
theorem SR.penSet (S : SR K c H0 G0 pn o G e p σ H) {p' : Pen} (hp : p'.cells = p.cells) (l : Addr) (hl : H c.pa = some (.dK (penK p l))) : SR K c H0 G0 pn o G e p' σ (upd H c.pa (.dK (penK p' l))) := by
  obtain ⟨l', h1, h2⟩ := S.b.pen
  have el : l' = l := by
    rw [hl] at h1
    have := Option.some.inj h1
    simp [penK] at this
    exact this.symm
  subst el
  have ne : ∀ {a : Addr} {u : HO}, G a = some u → a ≠ c.pa := fun {a u} h z => by rw [z, S.b.gp] at h; cases h
  refine S.move ⟨fun a u h => by rw [upd_ne (ne h)]; exact S.b.gh _ _ h, S.b.g0, S.b.gn, fun a u h hp ht => by rw [upd_ne hp]; exact S.b.fr a u h hp ht, fun a h => ?_, S.b.gp, S.b.gt, fun q hq => ?_, ?_⟩ (Same.refl _) fun l u _ hu hd hG hp => ⟨by rw [upd_ne hp]; exact hu, hG⟩
  · by_cases ha : a = c.pa
    · rw [ha, upd_same] at h; cases h
    · rw [upd_ne ha] at h; exact S.b.st a h
  · obtain ⟨ps, a1, a2, a3⟩ := S.b.tb q hq
    refine ⟨ps, ?_, a2, fun pos cv hc => ?_⟩
    · rw [upd_ne]
      · exact a1
      · intro z
        rw [z, h1] at a1; cases a1
    · obtain ⟨cd, e1, e2⟩ := a3 pos cv hc
      refine ⟨cd, e1, ?_⟩
      rw [upd_ne]
      · exact e2
      · intro z
        rw [z, h1] at e2
        have := Option.some.inj e2
        unfold LamX.CodeO at this
        cases this
  · exact ⟨l', upd_same, by rw [hp]; exact h2⟩
end
section
variable {z : Z} {o : Own} {a : Expr} {ma : M D} {pos : Pos}
/-- pen['..'], slot i the pen's -/
def mPen (i : Nat) (k : PK) : M D := fun e p => match e[i]? with
  | some (some D.pen) => .ok (penG k p) p
  | _ => .stuck
theorem me_pen (i : Nat) (k : PK) {x : Str} {px kp : Pos} {j : Nat} {y : Str} (hu : z.X.A.units + 1 < cLine) (hy : y = k.s) (hN : z.X.N[i]? = some x := by rfl) (hv : Vis z.X.env.scope x := by first | exact Or.inl rfl | exact Or.inr (Or.inl rfl) | exact Or.inr (Or.inr rfl))
    (hd : (x == ("__debug__" : Str)) = false := by decide) (hcd : (x == ("__classdict__" : Str)) = false := by decide) : ME z o .fro (.Subscript (.Name x px) (.Constant (.str y) j kp) pos) (mPen i k) :=
  PE.imp (pe_dget hu (pe_var hN hv hd hcd) pe_str fun _ _ => rfl) fun σ H Q ⟨G, e, p, S, q⟩ => by
    subst hy
    unfold mPen at q
    split at q
    · rename_i he
      obtain ⟨v, h1, h2⟩ := S.fz i _ he (.inr rfl)
      cases h2
      obtain ⟨l, g1, g2⟩ := S.b.pen
      refine ⟨_, h1, z.c.pa, penV k p l, rfl, by rw [← pen_get k p l]; exact DGet.k (k := .inr k.s) g1, q _ G H (Same.refl _) S ?_⟩
      cases k with
      | cells => exact Rep.lst g2 (Reps.ints _)
      | at_ => exact Rep.int _
      | digits => exact Rep.int _
      | count => exact Rep.int _
      | fold => exact Rep.int _
    · exact q.elim
/-- pen['..'] = e -/
def sPen (i : Nat) (k : PK) (m : M D) : MS := fun e p => (m e p).st e fun d p => match e[i]?, d with
  | some (some D.pen), D.int n => .next e (penS k n p)
  | _, _ => .stuck
theorem ms_pen (i : Nat) (k : PK) {x : Str} {px kp ps : Pos} {j : Nat} {y : Str} (hu : z.X.A.units + 1 < cLine) (hk : k ≠ .cells) (hy : y = k.s) (h : ME z o .fro a ma) (hN : z.X.N[i]? = some x := by rfl) (hv : Vis z.X.env.scope x := by first | exact Or.inl rfl | exact Or.inr (Or.inl rfl) | exact Or.inr (Or.inr rfl))
    (hd : (x == ("__debug__" : Str)) = false := by decide) (hcd : (x == ("__classdict__" : Str)) = false := by decide)
    (hs : swapsWith a (some (.Subscript (.Name x px) (.Constant (.str y) j kp) ps)) pos.line z.X.env = pure false := by rfl) : MSt z o (.Assign [.Subscript (.Name x px) (.Constant (.str y) j kp) ps] a pos) (sPen i k ma) o :=
  ms_of (ps_dput hu (pe_var hN hv hd hcd) pe_str h hs) fun D' σ H G e p S q => by
    subst hy
    unfold sPen at q
    refine ⟨G, e, p, S, (Cont.st q S).mono (fun d p1 k1 v G1 H1 s1 S1 l1 => ?_) fun x p' k => k⟩
    split at k1
    · rename_i n he
      obtain ⟨v2, h1, h2⟩ := S1.fz i _ he (.inr rfl)
      cases h2
      cases l1
      obtain ⟨l, g1, g2⟩ := S1.b.pen
      refine ⟨_, h1, z.c.pa, _, rfl, DPut.k (k := .inr k.s) g1 (by rw [sizeLine_eq]; exact (by decide : 5 < 16777216)), ?_⟩
      rw [pen_put hk]
      exact k1 σ G1 _ s1 (S1.penSet (by cases k <;> first | exact absurd rfl hk | rfl) l g1)
    · exact k1.elim
end
end Mz
/-! Mz, part r: the rules in short, for printed text. -/
namespace Mz
open PySem PySem.Spec PyProof.Rows L2
theorem bt_len : bootBuiltins "len" = some (.builtin "len") := by decide +kernel
theorem bt_abs : bootBuiltins "abs" = some (.builtin "abs") := by decide +kernel
theorem bt_int : bootBuiltins "int" = some (.type "int") := by decide +kernel
theorem bt_bool : bootBuiltins "bool" = some (.type "bool") := by decide +kernel
theorem bt_str : bootBuiltins "str" = some (.type "str") := by decide +kernel
theorem bt_list : bootBuiltins "list" = some (.type "list") := by decide +kernel
theorem bt_tuple : bootBuiltins "tuple" = some (.type "tuple") := by decide +kernel
theorem bt_any : bootBuiltins "any" = some (.builtin "any") := by decide +kernel
theorem bt_all : bootBuiltins "all" = some (.builtin "all") := by decide +kernel
theorem bt_sum : bootBuiltins "sum" = some (.builtin "sum") := by decide +kernel
theorem bt_sorted : bootBuiltins "sorted" = some (.builtin "sorted") := by decide +kernel
theorem bt_repr : bootBuiltins "repr" = some (.builtin "repr") := by decide +kernel
/-! ### repr -/
def dRepr : D → Option D
  | .non => some (.str "None")
  | .bl b => some (.str (if b then "True" else "False"))
  | .int i => if i.natAbs.log2 < 1920 then some (.str (toString i)) else none
  | .str x => if (reprText x).length ≤ sizeLine then some (.str (reprText x)) else none
  | _ => none
def rRepr : List V → Hp → VK → Prop := fun xs H Q => (xs = [.non] ∧ Q (.str "None") H) ∨ (∃ b : Bool, xs = [.bl b] ∧ Q (.str (if b then "True" else "False")) H) ∨ (∃ i : Int, xs = [.int i] ∧ i.natAbs.log2 < 1920 ∧ Q (.str (toString i)) H) ∨ ∃ x : Str, xs = [.str x] ∧ (reprText x).length ≤ sizeLine ∧ Q (.str (reprText x)) H
theorem call_repr {X : Cx} : CallR X (.builtin "repr") rRepr := by
  intro pins s σ H xs us Q I r h
  rcases h with ⟨rfl, q⟩ | ⟨b, rfl, q⟩ | ⟨i, rfl, hz, q⟩ | ⟨x, rfl, hz, q⟩
  · obtain ⟨u, rfl, rx⟩ := vals1 r
    cases rx
    exact PySem.P.repr_of_none ⟨.str _, H, I.tok _, ⟨_, rfl⟩, q⟩
  · obtain ⟨u, rfl, rx⟩ := vals1 r
    cases rx
    exact PySem.P.repr_of_bool ⟨.str _, H, I.tok _, ⟨_, rfl⟩, q⟩
  · obtain ⟨u, rfl, t, rfl⟩ := vals1 r
    exact PySem.P.repr_of_int hz ⟨.str _, H, I.tok _, ⟨_, rfl⟩, q⟩
  · obtain ⟨u, rfl, t, rfl⟩ := vals1 r
    exact PySem.P.repr_of_str ⟨.str _, H, I.tok _, ⟨_, rfl⟩, q⟩ hz
section
variable {z : Z} {o o1 : Own} {a b : Expr} {ma mb : M D} {pos p : Pos}
theorem call1_repr : Call1 z rRepr dRepr := by
  intro o G e p σ H x dx d Q S lx h k
  have fin : ∀ w : Str, d = .str w → Q (.str w) H := fun w e => k _ G H (Same.refl _) S (by rw [e]; exact Flat.lies (v := .str w) (d := .str w) rfl)
  cases dx with
  | non =>
    have := lx.flat rfl
    cases this
    cases h
    exact .inl ⟨rfl, fin _ rfl⟩
  | bl b =>
    have := lx.bl
    subst this
    cases h
    exact .inr (.inl ⟨b, rfl, fin _ rfl⟩)
  | int i =>
    have := lx.int
    subst this
    simp only [dRepr] at h
    split at h
    · rename_i hz
      cases h
      exact .inr (.inr (.inl ⟨i, rfl, hz, fin _ rfl⟩))
    · cases h
  | str w =>
    have := lx.str
    subst this
    simp only [dRepr] at h
    split at h
    · rename_i hz
      cases h
      exact .inr (.inr (.inr ⟨w, rfl, hz, fin _ rfl⟩))
    · cases h
  | _ => cases h
/-! ### built-ins -/
theorem me_len (hm : z.X.mg "len" = none) (ha : ME z o .bor a ma) (hg : Gl z.X "len" := by rfl) (hs : starEach (a :: []) z.X.env = (false, eval a z.X.env) :: starEach [] z.X.env := by rfl) : ME z o .fre (.Call (.Name "len" p) [a] [] pos) (mUn dLen ma) := me_callB call_len call1_len hm bt_len ha hg hs
theorem me_abs (hm : z.X.mg "abs" = none) (ha : ME z o .bor a ma) (hg : Gl z.X "abs" := by rfl) (hs : starEach (a :: []) z.X.env = (false, eval a z.X.env) :: starEach [] z.X.env := by rfl) : ME z o .fre (.Call (.Name "abs" p) [a] [] pos) (mUn dAbs ma) := me_callB call_abs call1_abs hm bt_abs ha hg hs
theorem me_toint (hm : z.X.mg "int" = none) (ha : ME z o .bor a ma) (hg : Gl z.X "int" := by rfl) (hs : starEach (a :: []) z.X.env = (false, eval a z.X.env) :: starEach [] z.X.env := by rfl) : ME z o .fre (.Call (.Name "int" p) [a] [] pos) (mUn dInt ma) := me_callTy call_int1 call1_int hm bt_int ha hg hs
theorem me_tolist (hm : z.X.mg "list" = none) (ha : ME z o .bor a ma) (hg : Gl z.X "list" := by rfl) (hs : starEach (a :: []) z.X.env = (false, eval a z.X.env) :: starEach [] z.X.env := by rfl) : ME z o .fre (.Call (.Name "list" p) [a] [] pos) (mUn dList ma) := me_callTy call_list_of call1_list hm bt_list ha hg hs
theorem me_totuple (hm : z.X.mg "tuple" = none) (ha : ME z o .bor a ma) (hg : Gl z.X "tuple" := by rfl) (hs : starEach (a :: []) z.X.env = (false, eval a z.X.env) :: starEach [] z.X.env := by rfl) : ME z o .fre (.Call (.Name "tuple" p) [a] [] pos) (mUn dTuple ma) := me_callTy call_tuple_of call1_tuple hm bt_tuple ha hg hs
theorem me_any (hc : z.X.calm = true) (hm : z.X.mg "any" = none) (ha : ME z o .bor a ma) (hg : Gl z.X "any" := by rfl) (hs : starEach (a :: []) z.X.env = (false, eval a z.X.env) :: starEach [] z.X.env := by rfl) : ME z o .fre (.Call (.Name "any" p) [a] [] pos) (mUn dAny ma) := me_callB (cr_any hc) call1_any hm bt_any ha hg hs
theorem me_all (hc : z.X.calm = true) (hm : z.X.mg "all" = none) (ha : ME z o .bor a ma) (hg : Gl z.X "all" := by rfl) (hs : starEach (a :: []) z.X.env = (false, eval a z.X.env) :: starEach [] z.X.env := by rfl) : ME z o .fre (.Call (.Name "all" p) [a] [] pos) (mUn dAll ma) := me_callB (cr_all hc) call1_all hm bt_all ha hg hs
theorem me_sum (hc : z.X.calm = true) (hm : z.X.mg "sum" = none) (ha : ME z o .bor a ma) (hg : Gl z.X "sum" := by rfl) (hs : starEach (a :: []) z.X.env = (false, eval a z.X.env) :: starEach [] z.X.env := by rfl) : ME z o .fre (.Call (.Name "sum" p) [a] [] pos) (mUn dSum ma) := me_callB (cr_sum hc) call1_sum hm bt_sum ha hg hs
theorem me_sorted (hm : z.X.mg "sorted" = none) (ha : ME z o .bor a ma) (hg : Gl z.X "sorted" := by rfl) (hs : starEach (a :: []) z.X.env = (false, eval a z.X.env) :: starEach [] z.X.env := by rfl) : ME z o .fre (.Call (.Name "sorted" p) [a] [] pos) (mUn dSorted ma) := me_callB cr_sortedI call1_sorted hm bt_sorted ha hg hs
theorem me_repr (hm : z.X.mg "repr" = none) (ha : ME z o .bor a ma) (hg : Gl z.X "repr" := by rfl) (hs : starEach (a :: []) z.X.env = (false, eval a z.X.env) :: starEach [] z.X.env := by rfl) : ME z o .fre (.Call (.Name "repr" p) [a] [] pos) (mUn dRepr ma) := me_callB call_repr call1_repr hm bt_repr ha hg hs
/-! ### list(range(n)) -/
def dRng : D → Option D
  | .int n => some (.lst (rngD 0 n.toNat))
  | _ => none
/-! ### units -/
theorem u1 {A : Around} {k : Nat} (r : Room k A) : A.units + 1 < cLine := by have := r.un; omega
theorem u64 {A : Around} {k : Nat} (r : Room k A) : A.units + 64 < cLine := by have := r.un; omega
theorem u65 {A : Around} {k : Nat} (r : Room k A) : A.units + 65 < cLine := by have := r.un; omega
/-! ### own defs -/
/-- the def x, of n parameters, makes m of its arguments; it wants room k -/
structure FX (P : Program) (w : World) (K : PySem.W.Frag) (mg : Str → Option Value) (base : Heap) (c : Cfg) (x : Str) (k n : Nat) (m : Fd) : Prop where
  ex : ∃ (f : Addr) (fd : FuncData) (ps : List Str), FnOk P w K mg base (L2.CX P w) k f fd ps (spD K c n m) ∧ mg x = some (.ref f) ∧ PySem.W.keepIn K (.ref f) = true ∧ Binds K fd ps []
theorem me_fx {x : Str} {k k' n : Nat} {m : Fd} {es : List Expr} {mas : M (List D)} (F : FX z.X.prog z.X.w z.X.K z.X.mg z.X.base z.c x k n m) (hr : Room k' z.X.A) (hk : k ≤ k') (tk : Takes z.X z.W) (hlen : ∀ e p ds p', mas e p = .ok ds p' → ds.length = n) (ha : MA z o (a :: es) mas) (hg : Gl z.X x := by rfl) (hdb : (x == ("__debug__" : Str)) = false := by decide)
    (he : starEach (a :: es) z.X.env = (false, eval a z.X.env) :: starEach es z.X.env := by rfl) (hpl : (backTo pos (starEach es z.X.env)).any (·.1) = false := by rfl) : ME z o .fro (.Call (.Name x p) (a :: es) [] pos) (mCall m mas) := by
  obtain ⟨f, fd, ps, h1, h2, h3, h4⟩ := F.ex
  exact me_call h1 (hr.mono hk) h2 h3 h4 tk hlen ha hg hdb he hpl
/-- a def whose defaults do not matter -/
theorem fx_mk {P : Program} {w : World} {K : PySem.W.Frag} {mg : Str → Option Value} {base : Heap} {c : Cfg} {x : Str} {st : Stmt} {f : Addr} {oc : Value} {od : Option Addr} {dV kV doc pm cdv ct : Value} {an : Option Addr} {osl : Array (Option Value)} {N ps : List Str} {k : Nat} {b : MS}
    (hm : mg x = some (.ref f)) (lk : K.lookup f = some ⟨oc, od, .func (PySem.W.fnOf x x (defArgs st) (defBody st) (defScope st) dV kV doc pm an cdv ct), osl⟩) (hcd : PySem.W.codeIn K cdv x = true) (hk : PySem.W.keepIn K (.ref f) = true) (S : FnScope N ps (defScope st))
    (hb : Binds K (PySem.W.fnOf x x (defArgs st) (defBody st) (defScope st) dV kV doc pm an cdv ct) ps []) (o1 : Own)
    (body : ∀ (cdv : Value) (A : Around) (outer : List PySem.Env) (s : Shared) (H : Hp) (E : XK) (G : Hp), Room k (A.deeper (envOfC x (defScope st) s.heap.objs.size f cdv)) →
      MSs (zD P w K mg base N x st f cdv A outer s H E c G []) [] (defBody st) b o1) : FX P w K mg base c x (k + 1) ps.length (fdOf N.length b) := by
  refine ⟨f, _, ps, ?_, hm, hk, hb⟩
  refine fn_of lk hcd S (fun vs H Q E h => ?_) fun A outer s H vs Q E hr h => ?_
  · obtain ⟨G, ds, p, _, r, hl, _⟩ := h
    rw [r.len, hl]
  · obtain ⟨G, ds, p, br, r, hl, q⟩ := h
    refine ⟨_, body cdv A outer s H E G hr, RS.iff.mpr ⟨G, _, p, SR.start br r, ?_⟩⟩
    unfold fdOf at q
    cases hb : b (ds.map some ++ List.replicate (N.length - ds.length) none) p with
    | next e' p' =>
      rw [hb] at q
      exact fun σ' G' H' s S' => q .non G' H' S'.b .non
    | ret d p' =>
      rw [hb] at q
      exact fun v G' H' s br' r' => q v G' H' br' r'
    | err x e' p' =>
      rw [hb] at q
      exact fun cls dd σ' G' H' s S' er => q cls dd G' H' S'.b er
    | brk e' p' => rw [hb] at q; exact q.elim
    | cnt e' p' => rw [hb] at q; exact q.elim
    | stuck => rw [hb] at q; exact q.elim
end
end Mz
/-! Mz, part s: list(range(..)). -/
namespace Mz
open PySem PySem.Spec PyProof.Rows L2
theorem rgV_reps {K : PySem.W.Frag} {ca : CA} {G : Hp} (a b : Int) : Reps K ca G (rgV a b) (rngD a (b - a).toNat) := by
  unfold rgV rngD
  have : ∀ l : List Nat, Reps K ca G (l.map fun i => V.int (a + (i : Nat))) (l.map fun k : Nat => D.int (a + (k : Int))) := fun l => by
    induction l with
    | nil => exact .nil
    | cons x l ih => exact .cons (.int _) ih
  exact this _
def dRngL (x y : D) : Option D := match x, y with
  | .int a, .int b => if -(2 ^ 62) ≤ a ∧ a < 2 ^ 62 ∧ -(2 ^ 62) ≤ b ∧ b < 2 ^ 62 ∧ (b - a).toNat ≤ 2 ^ 24 then some (.lst (rngD a (b - a).toNat)) else none
  | _, _ => none
section
variable {z : Z} {o o1 : Own} {a b : Expr} {ma mb : M D} {pos p p2 pos2 : Pos}
theorem me_listRng1 (hc : z.X.calm = true) (hm : z.X.mg "list" = none) (hm2 : z.X.mg "range" = none) (ha : ME z o .bor a ma) (hg : Gl z.X "list" := by rfl) (hg2 : Gl z.X "range" := by rfl) (na : starEach [a] z.X.env = (false, eval a z.X.env) :: starEach [] z.X.env := by rfl)
    (na2 : starEach [.Call (.Name "range" p2) [a] [] pos2] z.X.env = (false, eval (.Call (.Name "range" p2) [a] [] pos2) z.X.env) :: starEach [] z.X.env := by rfl) : ME z o .fre (.Call (.Name "list" p) [.Call (.Name "range" p2) [a] [] pos2] [] pos) (mUn (fun y => dRngL (.int 0) y) ma) :=
  PE.imp (pe_listRg hc hg hm (prg_1 hg2 hm2 ha na) na2) fun σ H Q ⟨G, e, p, S, q⟩ => by
    unfold mUn at q
    rw [Cont.bind] at q
    refine ⟨G, e, p, S, q.mono (fun d1 p1 k1 v1 G1 H1 s1 S1 l1 => ?_) fun x p' k => k⟩
    obtain ⟨d, hd, k⟩ := k1.lift
    cases d1 with
    | int n =>
      simp only [dRngL] at hd
      split at hd
      · rename_i hc
        cases hd
        refine ⟨n, l1.int, hc, fun l nl => ?_⟩
        obtain ⟨S4, l4⟩ := lies_new S1 nl (rgV_reps (K := z.X.K) (ca := z.c.ca) (G := G1) 0 n)
        exact k _ G1 _ s1 S4 l4
      · cases hd
    | _ => cases hd
theorem me_listRng2 (hc : z.X.calm = true) (hm : z.X.mg "list" = none) (hm2 : z.X.mg "range" = none) (ha : ME z o .bor a ma) (hb : ME z o .bor b mb) (hg : Gl z.X "list" := by rfl) (hg2 : Gl z.X "range" := by rfl) (na : starEach [a, b] z.X.env = (false, eval a z.X.env) :: starEach [b] z.X.env := by rfl)
    (nb : starEach [b] z.X.env = (false, eval b z.X.env) :: starEach [] z.X.env := by rfl) (hp : (backTo pos2 (starEach [b] z.X.env)).any (·.1) = false := by rfl)
    (na2 : starEach [.Call (.Name "range" p2) [a, b] [] pos2] z.X.env = (false, eval (.Call (.Name "range" p2) [a, b] [] pos2) z.X.env) :: starEach [] z.X.env := by rfl) : ME z o .fre (.Call (.Name "list" p) [.Call (.Name "range" p2) [a, b] [] pos2] [] pos) (mBin dRngL ma mb) :=
  PE.imp (pe_listRg hc hg hm (prg_2 hg2 hm2 ha hb na nb hp) na2) fun σ H Q ⟨G, e, p, S, q⟩ => by
    unfold mBin at q
    rw [Cont.bind] at q
    refine ⟨G, e, p, S, q.mono (fun d1 p1 k1 v1 G1 H1 s1 S1 l1 => ?_) fun x p' k => k⟩
    rw [Cont.bind] at k1
    refine ⟨G1, e, p1, S1, k1.mono (fun d2 p2 k2 v2 G2 H2 s2 S2 l2 => ?_) fun x p' k cls dd G' H' s S' => k cls dd G' H' (s1.trans s) S'⟩
    obtain ⟨d, hd, k⟩ := k2.lift
    cases d1 with
    | int n =>
      cases d2 with
      | int m =>
        simp only [dRngL] at hd
        split at hd
        · rename_i hc
          cases hd
          refine ⟨n, m, l1.int, l2.int, hc, fun l nl => ?_⟩
          obtain ⟨S4, l4⟩ := lies_new S2 nl (rgV_reps (K := z.X.K) (ca := z.c.ca) (G := G2) n m)
          exact k _ G2 _ (s1.trans s2) S4 l4
        · cases hd
      | _ => cases hd
    | _ => cases hd
end
end Mz
/-! Mz, part t: a comprehension that hears the frame's lambdas. -/
namespace L2
open PySem PySem.Spec PyProof.Rows
section
variable {X : Cx}
/-- the comprehension's core, what the frame holds told to the element -/
theorem lc_coreI {pins : List (Addr × Obj)} {s : Shared} {σ : St} {H : Hp} {Q : VK} {elt tg iter : Expr} {ifs : List Expr} {scope : Scope} {own : List (Str × Nat)} {pos pos' : Pos} {wi : TI} {g : TG} {tt : TT} {te : TE} {use : Option (Value → Sem Unit)} {Qf : Value → Shared → Prop}
    (hc : X.calm = true) (hN : X.N.Nodup) (I : Inv X pins σ H s) (hi : PI X tg iter wi) (ok : BlkOk X.N X.env.scope scope own)
    (hg : ∀ (s : Shared) (H : Hp) (C : Addr) (cl : List (Str × Addr)) (fp : List Addr), PG (X.blk s H scope (compEnvC scope cl C X.env) fp) tg g) (ht : ∀ (s : Shared) (H : Hp) (C : Addr) (cl : List (Str × Addr)) (fp : List Addr), PTs (X.blk s H scope (compEnvC scope cl C X.env) fp) ifs tt)
    (he : ∀ (s : Shared) (H : Hp) (C : Addr) (cl : List (Str × Addr)) (fp : List Addr) (pins0 : List (Addr × Obj)), Inv X pins0 σ H s → (∀ b ∈ fp, FpOk X pins0 H b) → PE (X.blk s H scope (compEnvC scope cl C X.env) fp) elt te) (hs : ∀ x, foldedSetIterable iter X.env x = pure x)
    (h : tLc wi g tt te (own.map (·.2)) σ H Q)
    (hRR : ∀ D C s' m H', Inv X pins σ H' s' → Q (.ref D) H' → s'.heap.Ns C m → FpOk X pins H' C → compPost (model X.prog X.w) X.A X.xe use Qf (.ref D) C (.ok .next) s') :
    wpAny (model X.prog X.w) X.A (comprehension (.ListComp elt [⟨tg, iter, ifs, 0⟩] scope pos) scope X.env pos' (newList []) false (eval iter X.env) use) Qf X.xe s := by
  have hfree : ∀ y ∈ scope.names, y.2 = .free → ∃ c, X.env.cells.lookup y.1 = some c := fun y hy e => by
    rcases ok.free y hy e with k | k
    · exact I.ok.has _ (.inl k)
    · exact I.ok.has _ (.inr k)
  refine wpAny_comprehension_free (use := use) rfl hs (closure_ok hfree) ok.kind (fun y hy e => by rw [ok.uniq y hy, e])
    (thn (hi.run pins s σ H _ I h) fun xv s1 hx => thn hx fun itv s2 h2 => ?_)
  obtain ⟨it, fp, tn, J, H2, e, I2, T, st2, f2, q⟩ := h2
  subst e
  refine wpAny_newObj_type (newEnv_comp ?_) (by show 0 ≤ sizeLine; decide)
  generalize hD : s2.heap.objs.size = D
  have hDn : H2 D = none := I2.hok.fresh (Nat.le_of_eq hD)
  obtain ⟨W, ⟨m0, w0⟩, turn⟩ := q D hDn
  -- the new list
  generalize hs3 : ({ s2 with heap := s2.heap.push { cls := .type "list", data := .seq ([] : List Value).toArray } } : Shared) = s3
  have I3 : Inv X pins σ (upd H2 D (.lst [])) s3 := by
    rw [← hs3]
    refine I2.laid (t' := s2.toks) (fun b o e => Heap.get?_push_of_some _ e) (Nat.le_of_eq hD) ⟨Nat.zero_le _, [], 0, .nil, ?_⟩
    rw [← hD]
    exact Heap.get?_push_size _ rfl
  have h3 : s3.heap = s2.heap.push { cls := .type "list", data := .seq ([] : List Value).toArray } := by rw [← hs3]
  have sz : ∀ b ∈ fp, b < s2.heap.objs.size := fun b hb => by
    obtain ⟨o, e, _⟩ := T.obj _ _ st2 b hb
    exact Heap.lt_size e
  have f3 : ∀ b ∈ fp, FpOk X pins (upd H2 D (.lst [])) b ∧ b < s3.heap.objs.size := fun b hb => by
    have hlt := sz b hb
    refine ⟨⟨?_, (f2 b hb).2⟩, by rw [h3, Heap.size_push]; exact Nat.lt_succ_of_lt hlt⟩
    rw [upd_ne (by rw [← hD]; exact Nat.ne_of_lt hlt)]
    exact (f2 b hb).1
  have st3 : tn 0 s3.heap := T.keep _ _ _ st2 fun b _ o e => by rw [h3]; exact Heap.get?_push_of_some _ e
  have I4 := block_start I3 ok hN f3
  have pg := hg s3 (upd H2 D (.lst [])) s3.heap.objs.size (cellsFrom (s3.heap.objs.size + 1) scope.names (cloFrom X.env.cells scope.names [])) fp
  have pt := ht s3 (upd H2 D (.lst [])) s3.heap.objs.size (cellsFrom (s3.heap.objs.size + 1) scope.names (cloFrom X.env.cells scope.names [])) fp
  have pe := he s3 (upd H2 D (.lst [])) s3.heap.objs.size (cellsFrom (s3.heap.objs.size + 1) scope.names (cloFrom X.env.cells scope.names [])) fp pins I3 (fun b hb => (f3 b hb).1)
  show codeAny _ _ (.compStart (.ListComp elt [⟨tg, iter, ifs, 0⟩] scope pos) 0 (.ref it) (.ref D) (compEnvC scope (cellsFrom (s3.heap.objs.size + 1) scope.names (cloFrom X.env.cells scope.names [])) s3.heap.objs.size X.env)) (compPost (model X.prog X.w) X.A X.xe use Qf (.ref D) s3.heap.objs.size) { s3 with heap := pushCells (s3.heap.push { cls := .type "dict", data := .dict #[] }) scope.names }
  have nfp : ∀ b ∈ fp, (upd H2 D (.lst [])) b = none := fun b hb => (f3 b hb).1.1
  generalize hce : compEnvC scope (cellsFrom (s3.heap.objs.size + 1) scope.names (cloFrom X.env.cells scope.names [])) s3.heap.objs.size X.env = ce at I4 pg pt pe ⊢
  have cL : ce.locals = s3.heap.objs.size := by subst hce; rfl
  generalize hH3 : upd H2 D (.lst []) = H3 at I3 I4 pg pt pe w0 nfp f3
  generalize hs4 : ({ s3 with heap := pushCells (s3.heap.push { cls := .type "dict", data := .dict #[] }) scope.names } : Shared) = s4 at I4 ⊢
  have st4 : tn 0 s4.heap := T.keep _ _ _ st3 fun b _ o e => by rw [← hs4]; exact pushCells_keeps _ _ _ _ (Heap.get?_push_of_some _ e)
  have stat : ∀ {σ' : St} {H' : Hp} {s' : Shared}, Inv (X.blk s3 H3 scope ce fp) [] σ' H' s' → (∀ b ∈ fp, H' b = none) → ∀ b ∈ fp, FpOk (X.blk s3 H3 scope ce fp) [] H' b := fun {σ' H' s'} I' hn b hb =>
    ⟨hn b hb, (I'.ok.exf b hb).1, I'.ok.exfs b hb, .inl hb, fun x c e => (I'.ok.exf b hb).2 x c e, fun p hp => absurd (show p ∈ ([] : List (Addr × Obj)) ++ [] from hp) (by simp)⟩
  have loop : codeAny (model X.prog X.w) X.A (.compLoop (.ListComp elt [⟨tg, iter, ifs, 0⟩] scope pos) 0 (.ref it) (.ref D) ce) (compPost (model X.prog X.w) X.A X.xe use Qf (.ref D) s3.heap.objs.size) s4 := by
    refine compLoop_any (fun n s' => ∃ i H', Inv (X.blk s3 H3 scope ce fp) [] (wipe σ (own.map (·.2))) H' s' ∧ tn i s'.heap ∧ (∀ b ∈ fp, H' b = none) ∧ W i n H') ?_ m0 ⟨0, H3, I4, st4, nfp, w0⟩
    rintro n s5 ⟨i, H5, I5, st5, n5, w5⟩
    rcases turn i n H5 w5 with ⟨stop, qq⟩ | ⟨go, Nx, hNx, step⟩
    · have td := T.done (X.blk s3 H3 scope ce fp) rfl rfl rfl hc i [] s5 _ H5 (fun _ _ => False) I5 (stat I5 n5) st5 stop
      refine thnF td fun r s6 ⟨hr, I6⟩ => ?_
      subst hr
      -- back in the def's context
      have I7 : Inv X pins σ H5 s6 := I3.call' (ch := fp) I6.os I6.base I6.hok I6.bare fun b hb => ⟨(f3 b hb).1.2.2.2.1, (f3 b hb).1.2.1, (f3 b hb).1.2.2.2.2.1, (f3 b hb).1.2.2.2.2.2⟩
      have nC : H5 s3.heap.objs.size = none := by
        have z : H5 ce.locals = none := I6.free
        rw [cL] at z
        exact z
      obtain ⟨m, hn, _⟩ := I6.loc
      have hn : s6.heap.Ns ce.locals m := hn
      rw [cL] at hn
      exact hRR D s3.heap.objs.size s6 m H5 I7 qq hn (I3.fpOk (Nat.le_refl _) nC)
    · have ti := T.item (X.blk s3 H3 scope ce fp) rfl rfl rfl hc i [] s5 _ H5 (fun _ _ => False) I5 (stat I5 n5) st5 go
      refine thnF ti fun r s6 ⟨u, hr, h6⟩ => ?_
      subst hr
      refine thnF h6 fun _ s7 ⟨x, H7, I7, r7, y7, st7, n7⟩ => ?_
      have I7' := I7.pinned (stat I7 n7) (T.obj _ _ st7)
      refine thnF (pg.run _ s7 _ H7 x u _ I7' r7 (step x H7 y7)) fun _ s8 ⟨σ8, H8, I8, hw8, q8⟩ => ?_
      refine thnF (pt.run _ s8 σ8 H8 _ I8 q8) fun b s9 ⟨H9, I9, q9⟩ => ?_
      -- the turn's end
      have fin : ∀ {s' : Shared} {H' : Hp}, Inv (X.blk s3 H3 scope ce fp) ([] ++ pinsAt fp s7.heap) σ8 H' s' → Nx H' → ∃ m, m < n ∧ ∃ i H', Inv (X.blk s3 H3 scope ce fp) [] (wipe σ (own.map (·.2))) H' s' ∧ tn i s'.heap ∧ (∀ b ∈ fp, H' b = none) ∧ W i m H' := fun {s' H'} I' nx => by
        obtain ⟨m', hm, w'⟩ := hNx H' nx
        have pin' : ∀ b ∈ fp, ∀ o, s7.heap.get? b = some o → s'.heap.get? b = some o ∧ H' b = none := fun b hb o e =>
          let z := I'.pin (b, o) (List.mem_append_right _ (List.mem_append_right _ (mem_pinsAt hb e)))
          ⟨z.1, z.2.1⟩
        have hl : (wipe σ (own.map (·.2))).length = σ8.length := by rw [← hw8, wipe_length]
        refine ⟨m', hm, i + 1, H', (I'.unpinned (pins := [])).weak hl (fun j v e => ?_), T.keep _ _ _ st7 fun b hb o e => (pin' b hb o e).1, fun b hb => ?_, w'⟩
        · rw [← hw8] at e
          exact (wipe_some e).1
        · obtain ⟨o, e, _⟩ := T.obj _ _ st7 b hb
          exact (pin' b hb o e).2
      cases b with
      | false =>
        simp only [Bool.false_eq_true, if_false] at q9 ⊢
        exact fin I9 q9
      | true =>
        simp only [if_true] at q9 ⊢
        refine thnF (pe.run _ s9 σ8 H9 _ I9 q9) fun z s10 ⟨yv, H10, I10, r10, acc, hD10, hz10, nx⟩ => ?_
        exact app_ok (X := X.blk s3 H3 scope ce fp) I10 hD10 hz10 r10 fun s11 I11 => fin I11 nx
  exact codeAny_compStart_list loop (T.self X.A 0 _ _ _ st4 loop)
/-- as a value; the element's reading leans on the slots ahead -/
theorem pe_lcI {elt tg iter : Expr} {ifs : List Expr} {scope : Scope} {own : List (Str × Nat)} {pos : Pos} {wi : TI} {g : TG} {tt : TT} {te : St → TE} (hc : X.calm = true) (hN : X.N.Nodup) (hi : PI X tg iter wi) (ok : BlkOk X.N X.env.scope scope own)
    (hg : ∀ (s : Shared) (H : Hp) (C : Addr) (cl : List (Str × Addr)) (fp : List Addr), PG (X.blk s H scope (compEnvC scope cl C X.env) fp) tg g) (ht : ∀ (s : Shared) (H : Hp) (C : Addr) (cl : List (Str × Addr)) (fp : List Addr), PTs (X.blk s H scope (compEnvC scope cl C X.env) fp) ifs tt)
    (he : ∀ (σ : St) (s : Shared) (H : Hp) (C : Addr) (cl : List (Str × Addr)) (fp : List Addr) (pins0 : List (Addr × Obj)), Inv X pins0 σ H s → (∀ b ∈ fp, FpOk X pins0 H b) → PE (X.blk s H scope (compEnvC scope cl C X.env) fp) elt (te σ)) (hs : ∀ x, foldedSetIterable iter X.env x = pure x := by intro _; rfl) :
    PE X (.ListComp elt [⟨tg, iter, ifs, 0⟩] scope pos) (fun σ H Q => tLc wi g tt (te σ) (own.map (·.2)) σ H Q) := by
  refine ⟨fun pins s σ H Q I h => ?_⟩
  rw [eval_ListComp]
  refine lc_coreI hc hN I hi ok hg ht (he σ) hs h fun D C s' m H' I' q hn f => ⟨m, hn, fun h'' sb => ?_⟩
  obtain ⟨f0, f1, f2, f3, f4, f5⟩ := f
  exact ⟨.ref D, H', I'.turned (t' := s'.toks) (fun b o hb e => (sb.2 b hb).trans e) f0 f1 f3 f4 f5, rfl, q⟩
end
end L2
namespace LamX
open PySem PySem.Spec PyProof.Rows L2
section
variable {X : Cx} {pins : List (Addr × Obj)} {σ : L2.St} {H HZ : Hp} {s s1 : Shared}
theorem lam_start3 {A : Around} {outer : List PySem.Env} {E : XK} {scope : Scope} {f c' : Addr} {h₁ : Heap} {tk : Nat} (I : Inv X pins σ H s) (L : LamS X.env.scope scope) (e0 : Env0 X.prog X.w X.K X.mg X.base A outer s1 HZ) (hd : A.handled = none)
    {ex : List Addr} (hex : ∀ y c, X.env.cells.lookup y = some c → c ∉ ex) (un : Un (frs X.stack) ex H HZ s.heap s1.heap) (hns : h₁.Ns s1.heap.objs.size fun y => ([] : List (Str × Value)).reverse.lookup y) (kp : ∀ b o, s1.heap.get? b = some o → h₁.get? b = some o) :
    Inv (lamCx X A outer s1 HZ E scope f c') [] σ HZ { s1 with heap := h₁, toks := tk } := by
  have hfree := L.has I.ok
  have cm : ∀ {y c}, (cloFrom X.env.cells scope.names []).lookup y = some c → X.env.cells.lookup y = some c := fun {y c} e => by
    rcases cloFrom_mem (PySem.mem_of_lookup e) with hm | ⟨h1, h2⟩
    · cases hm
    · obtain ⟨c1, hc⟩ := hfree _ h1 rfl
      have hc : X.env.cells.lookup y = some c1 := hc
      have e2 : c = c1 := by
        rw [h2, hc] <;> rfl
      rw [e2]
      exact hc
  have look : ∀ {y}, scope.names.lookup y = some .free → ∃ c, (cloFrom X.env.cells scope.names []).lookup y = some c := fun {y} hl => by
    have hy : (y, NameKind.free) ∈ scope.names := PySem.mem_of_lookup hl
    exact mem_lookup (cloFrom_has (cells := X.env.cells) (acc := []) hy)
  have cellK : ∀ {c : Addr} {v : Option Value}, c ∉ ex → H c = none → s.heap.IsCell c v → h₁.IsCell c v := fun {c v} nx n ⟨o, ho, hd⟩ => by
    obtain ⟨sl, q⟩ := un.any ho n nx
    exact ⟨_, kp _ _ q, hd⟩
  have noA : ∀ b : Addr, b ∉ (lamCx X A outer s1 HZ E scope f c').ex := fun b z => absurd (show b ∈ ([] : List Addr) from z) (by simp)
  refine ⟨⟨e0.mod, L.kind, rfl, rfl, Nat.le_refl _, fun y z c e1 e2 => I.ok.inj y z c (cm e1) (cm e2), fun y hy => ?_, fun y c z _ => ?_, fun _ => hd, Around.frames_deeper e0.frames, .inr ⟨rfl, rfl⟩, fun b z => absurd z (noA b), e0.bs, e0.bsz, fun b _ _ => noA b,
      fun b z => absurd z (noA b), e0.funs, e0.frf⟩,
    rfl, e0.bare, Un.kept kp, ⟨_, hns, fun i y v e1 e2 e3 => ?_⟩, fun y c e => ?_, e0.hok.fresh (Nat.le_refl _), fun y c e => ?_, fun q hq => absurd (show q ∈ ([] : List (Addr × Obj)) ++ [] from hq) (by simp), e0.hok.kept kp, I.len⟩
  · have hy : scope.names.lookup y = some .cell ∨ scope.names.lookup y = some .free := hy
    rcases hy with hy | hy
    · exact absurd rfl (L.own _ (PySem.mem_of_lookup hy)).2
    · exact look hy
  · have z : false = true := z
    cases z
  · have e3 : Vis scope y := e3
    rcases e3 with k | k | k
    · exact absurd rfl (L.own _ (PySem.mem_of_lookup k)).1
    · exact absurd rfl (L.own _ (PySem.mem_of_lookup k)).2
    · obtain ⟨m, hn, hl⟩ := I.loc
      have hvis : Vis X.env.scope y := (L.free _ (PySem.mem_of_lookup k) rfl).elim (fun k => .inr (.inl k)) (fun k => .inr (.inr k))
      obtain ⟨w', r, q⟩ := hl i y v e1 e2 hvis
      obtain ⟨c2, h2⟩ := look k
      refine ⟨w', r, .inr ⟨.inr k, c2, h2, ?_⟩⟩
      have c1 := cm h2
      rcases q with ⟨k', _⟩ | ⟨_, c3, e', z⟩
      · have k' : X.env.scope.names.lookup y = some .local := k'
        rcases L.free _ (PySem.mem_of_lookup k) rfl with k2 | k2 <;> rw [show X.env.scope.names.lookup y = _ from k2] at k' <;> cases k'
      · rw [c1] at e'
        cases e'
        exact cellK (hex y _ c1) (I.freeC y _ c1) z
  · obtain ⟨w', z⟩ := I.cell y c (cm e)
    exact ⟨w', cellK (hex y c (cm e)) (I.freeC y c (cm e)) z⟩
  · obtain ⟨v, o, ho, hd⟩ := I.cell y c (cm e)
    exact un.free c o ho (I.freeC y c (cm e)) (hex y c (cm e))
/-- x(), in a def that a comprehension of the frame called with the lambda at f -/
theorem pe_act3 {CXg : CXT} {Eg : XK} {Ng : List Str} {qg : Str} {sg : Scope} {g f c' : Addr} {cdg : Value} {params : Arguments} {body : Expr} {scope : Scope} {k i : Nat} {a : Str} {pn : List (Addr × Obj)} {xe : Value → Shared → Prop} {W : WX} {E : XK} {tb : TE} {p1 p2 : Pos}
    {s0 : Shared} {H0b : Hp} {fp : List Addr} (I : Inv X pins σ H0b s0) (hex : ∀ y c, X.env.cells.lookup y = some c → c ∉ fp) (unB : Un (frs X.stack) fp H0b H s0.heap s.heap) (L : LamS X.env.scope scope)
    (hbind : ∀ (q : Str) (cl : List (Str × Addr)) (pm cv ctv : Value), bindArgs (PySem.W.kla_fn "<lambda>" q params body scope cl pm cv ctv) ⟨[], []⟩ = pure [])
    (tk : Takes ((cxOf CXg X.prog X.w X.K X.mg X.base Ng qg sg g cdg X.A X.stack s H Eg).tr pn xe) W) (hW : ∀ cls d σ' H', E cls d H' → W cls d σ' H') (hr : Room (k + 1) (X.A.deeper (envOfC qg sg s.heap.objs.size g cdg)))
    (hbody : ∀ (A : Around) (outer : List PySem.Env) (s : Shared) (H : Hp), Room k (A.deeper (lamEnv X scope s.heap.objs.size f c')) → PE (lamCx X A outer s H E scope f c') body tb)
    (hN : Ng[i]? = some a) (hv : Vis sg a) (hd : (a == ("__debug__" : Str)) = false := by decide) (hcd : (a == ("__classdict__" : Str)) = false := by decide) :
    PE ((cxOf CXg X.prog X.w X.K X.mg X.base Ng qg sg g cdg X.A X.stack s H Eg).tr pn xe) (.Call (.Name a p1) [] [] p2)
      (fun σZ HZ Q => σZ[i]? = some (some (.ref f)) ∧ HZ f = some (lamO X.env.cells X.env.qual params body scope f c') ∧ HZ c' = some (CodeO c' (X.env.qual ++ "<lambda>")) ∧ tb σ HZ Q) := by
  refine ⟨fun pinsZ sZ σZ HZ Q IZ h => ?_⟩
  obtain ⟨hs, hf, hc, ht⟩ := h
  refine wpAny_Call_Name_kw (thn ((pe_var (pos := p1) (i := i) hN hv hd hcd).run pinsZ sZ σZ HZ (fun v H1 => v = .ref f ∧ H1 = HZ) IZ ⟨.ref f, hs, rfl, rfl⟩) fun u s1 ⟨v, H1, I1, r1, q1⟩ => ?_)
  obtain ⟨ev, eH⟩ := q1
  subst ev
  rw [eH] at I1
  obtain rfl : u = Value.ref f := r1
  obtain ⟨⟨pm, ctv, of1⟩, _, _⟩ := I1.hok f _ hf
  refine PySem.W.callWith_F0 ⟨_, _, _, _, of1⟩ ?_
  have un0 : Un (frs X.stack) [] H HZ s.heap s1.heap := I1.base
  have un : Un (frs X.stack) fp H0b HZ s0.heap s1.heap := unB.trans (un0.mono (fun b hb => hb) fun b hb => absurd hb (by simp))
  obtain ⟨⟨oc, vs, t, hoc, hdc, hvc⟩, _, _⟩ := I1.hok c' _ hc
  have rc : codeAny (model X.prog X.w) (X.A.deeper (envOfC qg sg s.heap.objs.size g cdg)) (.call (.ref f) ⟨[], []⟩) (CR (L2.CX X.prog X.w) (envOfC qg sg s.heap.objs.size g cdg :: X.stack) X.prog X.w HZ s1 Q E) s1 := by
    refine PySem.W.kla_callFunE hr.depth of1 rfl L.co L.gen rfl ⟨c', oc, vs, t, rfl, hoc, hdc, hvc⟩ ?_
    rw [hbind]
    refine wpAny_pure (wpAny_newFunctionEnv (fun y hy => (L.own y hy).2) (fun y hy => absurd hy (by simp)) (fun h₁ hns hsb => ⟨I1.nolimit.fresh _ hsb, ?_⟩) L.kind)
    show codeAny _ _ (.expr body (lamEnv X scope s1.heap.objs.size f c')) _ _
    have kp : ∀ b o, s1.heap.get? b = some o → h₁.get? b = some o := fun b o e => hsb.extBut b o (Nat.ne_of_lt (Heap.lt_size e)) (Heap.get?_push_of_some _ e)
    have J : Inv (lamCx X (X.A.deeper (envOfC qg sg s.heap.objs.size g cdg)) (envOfC qg sg s.heap.objs.size g cdg :: X.stack) s1 HZ E scope f c') [] σ HZ { s1 with heap := h₁, toks := s1.toks + ([] : List (Str × Value)).length } :=
      lam_start3 I L I1.env0 hr.hd hex un hns kp
    refine PySem.W.kla_codeExpr (wpAny_mono ((hbody _ _ s1 HZ (hr.deeper _)).run [] _ _ HZ Q J ht) (fun v s' hq => ?_) fun e s' hq => hq)
    obtain ⟨w', H', J', rv, q⟩ := hq
    exact ⟨w', H', J'.os, J'.bare, J'.base, J'.hok, rv, q⟩
  have hx : Passes (L2.CX X.prog X.w) ((cxOf CXg X.prog X.w X.K X.mg X.base Ng qg sg g cdg X.A X.stack s H Eg).tr pn xe) E := passes_call tk hW
  refine wpAny_call (codeAny_mono rc fun r s' hq => ?_)
  cases r with
  | error e => exact hx pinsZ σZ HZ s1 e s' I1 hq
  | ok fl =>
    cases fl with
    | ret u => exact I1.after hq
    | next => exact False.elim hq
    | brk => exact False.elim hq
    | cont => exact False.elim hq
theorem pe_hearB {TT : (XK → Hp → VK → Prop) → Hp → VK → Prop} {x a : Str} {g : Addr} {k : Nat} {pg : Arguments} {bg : List Stmt} {sg : Scope} {dV kV doc pm cdv ct oc : Value} {an od : Option Addr} {osl : Array (Option Value)} {Ng : List Str}
    {lam : Nat → LamI} {ok : Nat → Prop} {arg : Expr} {ta : TA} {t : Nat → XK → TE} {p pos : Pos} {s0 : Shared} {H0b : Hp} {scB : Scope} {cenv : PySem.Env} {fp : List Addr} {pins0 : List (Addr × Obj)} {σ0 : L2.St} (I0 : Inv X pins0 σ0 H0b s0) (hfp : ∀ b ∈ fp, FpOk X pins0 H0b b) (hg : Gl (X.blk s0 H0b scB cenv fp) x) (hm : X.mg x = some (.ref g)) (hk : PySem.W.keepIn X.K (.ref g) = true)
    (lk : X.K.lookup g = some ⟨oc, od, .func (PySem.W.fnOf x x pg bg sg dV kV doc pm an cdv ct), osl⟩) (hcg : PySem.W.codeIn X.K cdv x = true) (hb : L2.Binds X.K (PySem.W.fnOf x x pg bg sg dV kV doc pm an cdv ct) [a] []) (Sg : FnScope Ng [a] sg) (hNg : Ng[0]? = some a) (hva : Vis sg a)
    (hG : GivesTo X Ng x sg g cdv bg a (X.env.qual ++ "<lambda>") TT)
    (hr : Room (k + 2) X.A) (L : ∀ n, ok n → LamS X.env.scope (lam n).scope)
    (hbind : ∀ n, ok n → ∀ (q : Str) (cl : List (Str × Addr)) (pm cv ctv : Value), bindArgs (PySem.W.kla_fn "<lambda>" q (lam n).params (lam n).body (lam n).scope cl pm cv ctv) ⟨[], []⟩ = pure [])
    (hbody : ∀ n, ok n → ∀ (A : Around) (outer : List PySem.Env) (s : Shared) (H : Hp) (E : XK) (f c' : Addr), Room k (A.deeper (lamEnv X (lam n).scope s.heap.objs.size f c')) → PE (lamCx X A outer s H E (lam n).scope f c') (lam n).body (t n E))
    (ha : PA (X.blk s0 H0b scB cenv fp) [arg] ta) (he : starEach (arg :: []) cenv = (false, eval arg cenv) :: starEach [] cenv := by rfl)
    (hdb : (x == ("__debug__" : Str)) = false := by decide) (hd : (a == ("__debug__" : Str)) = false := by decide) (hcd : (a == ("__classdict__" : Str)) = false := by decide) :
    PE (X.blk s0 H0b scB cenv fp) (.Call (.Name x p) [arg] [] pos) (tHear X.env.cells X.env.qual lam ok TT (fun n E _ H Q => t n E σ0 H Q) ta) := by
  refine ⟨fun pins s σ H Q I h => ?_⟩
  refine wpAny_Call_Name_kw (ld_glob I hg hm ?_ hdb)
  refine PySem.W.callWith_K (h₀ := X.base) I.ok.mod.kin hk (thn (ha.run pos pins s σ H _ I h) fun us s' hh => ?_) he (by rfl)
  obtain ⟨vs, H1, I1, r1, f, c', n, ev, hn, hf, hco, hTT⟩ := hh
  subst ev
  cases r1 with
  | cons ru rn =>
    rename_i u us'
    cases rn
    obtain rfl : u = Value.ref f := ru
    refine ⟨I1.kIn, ?_⟩
    have rc : codeAny (model X.prog X.w) X.A (.call (.ref g) ⟨[.ref f], []⟩) (CR C8.CX0 X.stack X.prog X.w H1 s' Q C8.E0) s' := by
      refine run_ofS (N := Ng) (ps := [a]) (us := [.ref f]) (vs := [.ref f]) lk hcg Sg hr I1.env0 (hb s' [.ref f] I1.kIn rfl) (.cons rfl .nil) rfl fun hr' => ?_
      obtain ⟨t', ht', hq'⟩ := hG f c' s' H1 Q (fun E H' Q' => H' f = some (lamO X.env.cells X.env.qual (lam n).params (lam n).body (lam n).scope f c') ∧ t n E σ0 H' Q') (fun W pn xe E p1 p2 tk hW =>
        ⟨fun pins s σZ HZ Q I ⟨q1, q2, q3, q4⟩ => (pe_act3 (i := 0) I0 (fun y c e hm => (hfp c hm).2.2.2.2.1 y c e rfl) I1.base (L n hn) (hbind n hn) tk hW hr' (fun A outer s H hr2 => hbody n hn A outer s H E f c' hr2) hNg hva hd hcd).run pins s σZ HZ Q I ⟨q1, q3, q2, q4⟩⟩) hco hTT
      exact ⟨t', ht'.nox, hq'⟩
    refine wpAny_call (codeAny_mono rc fun r s2 hq => ?_)
    cases r with
    | error e => exact (show False from hq).elim
    | ok fl =>
      cases fl with
      | ret u => exact I1.after hq
      | next => exact False.elim hq
      | brk => exact False.elim hq
      | cont => exact False.elim hq
end
end LamX
/-! Mz, part u: [heard(call) for call in calls]. -/
namespace Mz
open PySem PySem.Spec PyProof.Rows L2
def hearGo (w : Str) (kn : List Nat) (hl : List Hdl) (ok : List Nat) (lamd : Nat → M D) (e : Env) : List D → List D → Pen → R D
  | [], acc, p => .ok (.lst acc) p
  | d :: ds, acc, p => match d with
    | .clo n => if n ∈ ok ∧ acc.length < sizeLine then (mHear w kn hl (lamd n) e p).calm.bind fun y p => hearGo w kn hl ok lamd e ds (acc ++ [y]) p else .stuck
    | _ => .stuck
def mHearAll (i : Nat) (w : Str) (kn : List Nat) (hl : List Hdl) (ok : List Nat) (lamd : Nat → M D) (mi : M (List D)) : M D := fun e p => (mi e p).bind fun ds p => if i < e.length then hearGo w kn hl ok lamd e ds [] p else .stuck
section
variable {z : Z} {o o1 : Own} {pos : Pos}
theorem me_hearAll {w x a : Str} {g : Addr} {k i : Nat} {pg : Arguments} {sg : Scope} {dV kV doc pm cdv ct oc : Value} {an od : Option Addr} {osl : Array (Option Value)} {Ng : List Str} {j k2 : Nat} {q1 q2 q3 q4 q5 q8 : Pos} {h₀ : ExceptHandler} {hds : List ExceptHandler}
    {lam : Nat → LamX.LamI} {ok : List Nat} {lamd : Nat → M D} {hl : List Hdl} {kn : List Nat} {iter : Expr} {mi : M (List D)} {p p1 p2 p3 : Pos} {y : Str} {scope : Scope} (hm : z.X.mg x = some (.ref g)) (hk : PySem.W.keepIn z.X.K (.ref g) = true)
    (lk : z.X.K.lookup g = some ⟨oc, od, .func (PySem.W.fnOf x x pg [.Try [.Return (some (.Tuple [.Constant (.str w) j q5, .Call (.Name a q1) [] [] q2] k2 q3)) q4] (h₀ :: hds) [] [] q8] sg dV kV doc pm an cdv ct), osl⟩) (hcg : PySem.W.codeIn z.X.K cdv x = true)
    (hb : L2.Binds z.X.K (PySem.W.fnOf x x pg [.Try [.Return (some (.Tuple [.Constant (.str w) j q5, .Call (.Name a q1) [] [] q2] k2 q3)) q4] (h₀ :: hds) [] [] q8] sg dV kV doc pm an cdv ct) [a] []) (Sg : FnScope Ng [a] sg) (hNl : Ng.length = 2) (hNg : Ng[0]? = some a) (hva : Vis sg a) (hNd : Ng.Nodup)
    (hh : ∀ (s : Shared) (H : Hp), HdsA (cxOf C8.CX0 z.X.prog z.X.w z.X.K z.X.mg z.X.base Ng x sg g cdv z.X.A z.X.stack s H C8.E0).nox (h₀ :: hds) (hdsL z.X.K z.c hl))
    (hex : ∀ n ∈ kn, ∀ q ∈ hl, PySem.W.exmOne z.X.K (.ref (z.c.ca n)) (.ref (z.c.ca q.1)) = some (decide (q.1 = n))) (hca : ∀ q ∈ hl, ∀ (a : Addr) (x : Exn) (p : Pen), q.2 a x [none, some (.ref a)] p = q.2 0 x [none, some (.ref 0)] p)
    (hr : Room (k + 2) z.X.A) (hq : z.c.ca.cq = z.X.env.qual ++ "<lambda>") (hlo : ∀ n ∈ ok, z.c.ca.lo n = LamX.lamO z.X.env.cells z.X.env.qual (lam n).params (lam n).body (lam n).scope)
    (L : ∀ n ∈ ok, LamX.LamS z.X.env.scope (lam n).scope)
    (hbind : ∀ n ∈ ok, ∀ (q : Str) (cl : List (Str × Addr)) (pm cv ctv : Value), bindArgs (PySem.W.kla_fn "<lambda>" q (lam n).params (lam n).body (lam n).scope cl pm cv ctv) ⟨[], []⟩ = pure [])
    (hbody : ∀ n ∈ ok, ∀ (pn : Pins) (A : Around) (outer : List PySem.Env) (s : Shared) (H : Hp) (E : XK) (f c' : Addr), Room k (A.deeper (LamX.lamEnv z.X (lam n).scope s.heap.objs.size f c')) → ME (zL { z with pn := pn } A outer s H E (lam n).scope f c') o .fro (lam n).body (lamd n))
    (hc : z.X.calm = true) (hN : z.X.N.Nodup) (hi : MI z o (.Name y p3) iter mi) (bok : BlkOk z.X.N z.X.env.scope scope [(y, i)]) (hv : own o i = false) (hNi : z.X.N[i]? = some y := by rfl)
    (hg : ∀ (s : Shared) (H : Hp) (C : Addr) (cl : List (Str × Addr)) (fp : List Addr), Gl (z.X.blk s H scope (compEnvC scope cl C z.X.env) fp) x := by intros; rfl)
    (hvy : ∀ (s : Shared) (H : Hp) (C : Addr) (cl : List (Str × Addr)) (fp : List Addr), (compEnvC scope cl C z.X.env).scope.names.lookup y = some .local := by intros; rfl)
    (he : ∀ (C : Addr) (cl : List (Str × Addr)), starEach (.Name y p1 :: []) (compEnvC scope cl C z.X.env) = (false, eval (.Name y p1) (compEnvC scope cl C z.X.env)) :: starEach [] (compEnvC scope cl C z.X.env) := by intros; rfl)
    (hfs : ∀ x, foldedSetIterable iter z.X.env x = pure x := by intro _; rfl)
    (hdb : (x == ("__debug__" : Str)) = false := by decide) (hd : (a == ("__debug__" : Str)) = false := by decide) (hcd : (a == ("__classdict__" : Str)) = false := by decide) (hdy : (y == ("__debug__" : Str)) = false := by decide) (hcdy : (y == ("__classdict__" : Str)) = false := by decide) :
    ME z o .fre (.ListComp (.Call (.Name x p) [.Name y p1] [] p2) [⟨.Name y p3, iter, [], 0⟩] scope pos) (mHearAll i w kn hl ok lamd mi) :=
  PE.imp (pe_lcI (own := [(y, i)]) (g := gName i) (tt := tYes) (te := fun σ => LamX.tHear z.X.env.cells z.X.env.qual lam (fun n => n ∈ ok) (LamX.TTh z.X.K Ng.length w (hdsL z.X.K z.c hl)) (fun n E _ H Q => ∃ pn, RE { z with W := fun cls dd _ H => E cls dd H, pn := pn } o .fro (lamd n) σ H Q) (tCons (tVar i) tNil))
    hc hN hi bok (fun s H C cl fp => pg_name hN hNi (.inl (hvy s H C cl fp)) (.inr (hvy s H C cl fp))) (fun s H C cl fp => pts_nil)
    (fun σ s H C cl fp pins0 I0 hfp => LamX.pe_hearB (TT := LamX.TTh z.X.K Ng.length w (hdsL z.X.K z.c hl)) (ok := fun n => n ∈ ok) (t := fun n E => fun σ H Q => ∃ pn, RE { z with W := fun cls dd _ H => E cls dd H, pn := pn } o .fro (lamd n) σ H Q) I0 hfp (hg s H C cl fp) hm hk lk hcg hb Sg hNg hva
      (LamX.heard_gives (l := hdsL z.X.K z.c hl) hNd (fun f => by
        have : 0 < Ng.length := by rw [hNl]; exact Nat.succ_pos 1
        unfold L2.start
        rfl) hh) hr L hbind (fun n hn A outer s H E f c' hr2 => ⟨fun pins s' σ' H' Q I ⟨pn, h⟩ => (hbody n hn pn A outer s H E f c' hr2).run pins s' σ' H' Q I h⟩)
      (pa_cons (pe_var (i := i) hNi (.inl (hvy s H C cl fp)) hdy hcdy) pa_nil (he C cl)) (he C cl) hdb hd hcd) hfs) fun σ H Q ⟨G, e, p, S, q⟩ => by
    unfold mHearAll at q
    rw [Cont.bind] at q
    refine ⟨G, e, p, S, q.mono (fun ds p1 k1 J G1 H1 s1 S1 it => ?_) fun x p' k => k⟩
    split at k1
    · rename_i hie
      intro D nD
      have npa : D ≠ z.c.pa := fun zz => by
        obtain ⟨_, q⟩ := S1.b.paH
        rw [zz, q] at nD; cases nD
      have nPr : ¬ Priv z.pn o e σ D := fun hp => by
        obtain ⟨⟨u, hu, _⟩, _⟩ := S1.priv hp
        rw [nD] at hu; cases hu
      have nw : NewIn z.H0 D := S1.b.st D nD
      refine ⟨fun i n H' => n = ds.length - i ∧ i ≤ ds.length ∧ ∃ G' p' va da, Same G1 G' ∧ SR z.X.K z.c z.H0 z.G0 z.pn o G' e p' σ H' ∧ H' D = some (.lst va) ∧ G' D = none ∧ Reps z.X.K z.c.ca G' va da ∧
          Cont (hearGo w kn hl ok lamd e (ds.drop i) da p') (fun d p' => ∀ v G2 H2, Same G G2 → SR z.X.K z.c z.H0 z.G0 z.pn o G2 e p' σ H2 → Lies z.X.K z.c z.H0 z.pn o G2 e σ H2 v d .fre → Q v H2)
            (fun x p' => ∀ cls dd G' H', Same G G' → SR z.X.K z.c z.H0 z.G0 z.pn o G' e p' σ H' → ExcR z.X.K z.c G' cls dd x → z.W cls dd σ H'),
        ⟨_, rfl, Nat.zero_le _, G1, p1, [], [], Same.refl _, S1.newH nD, upd_same, S1.b.gh.free nD, .nil, by rw [List.drop_zero]; exact k1⟩, ?_⟩
      rintro i' n H' ⟨rfl, hi', G', p', va, da, s2, S', hD, hGD, ra, q'⟩
      by_cases hlt : i' < ds.length
      · right
        have hd : ds[i']? = some ds[i'] := by simp [hlt]
        have hdrop : ds.drop i' = ds[i'] :: ds.drop (i' + 1) := List.drop_eq_getElem_cons hlt
        rw [hdrop] at q'
        obtain ⟨go, yl⟩ := (it G' H' s2 S'.b.gh i').1 _ hd
        refine ⟨go, fun H2 => ∃ G' p' va da, Same G1 G' ∧ SR z.X.K z.c z.H0 z.G0 z.pn o G' e p' σ H2 ∧ H2 D = some (.lst va) ∧ G' D = none ∧ Reps z.X.K z.c.ca G' va da ∧
            Cont (hearGo w kn hl ok lamd e (ds.drop (i' + 1)) da p') (fun d p' => ∀ v G2 H2, Same G G2 → SR z.X.K z.c z.H0 z.G0 z.pn o G2 e p' σ H2 → Lies z.X.K z.c z.H0 z.pn o G2 e σ H2 v d .fre → Q v H2)
              (fun x p' => ∀ cls dd G' H', Same G G' → SR z.X.K z.c z.H0 z.G0 z.pn o G' e p' σ H' → ExcR z.X.K z.c G' cls dd x → z.W cls dd σ H'), fun H2 h => ⟨ds.length - (i' + 1), by omega, rfl, hlt, h⟩, fun x' H'' y' => ?_⟩
        let Qy : VK := fun y H4 => ∃ acc, H4 D = some (.lst acc) ∧ acc.length < sizeLine ∧
                (∃ G' p' va da, Same G1 G' ∧ SR z.X.K z.c z.H0 z.G0 z.pn o G' e p' σ (upd H4 D (.lst (acc ++ [y]))) ∧ (upd H4 D (.lst (acc ++ [y]))) D = some (.lst va) ∧ G' D = none ∧ Reps z.X.K z.c.ca G' va da ∧
            Cont (hearGo w kn hl ok lamd e (ds.drop (i' + 1)) da p') (fun d p' => ∀ v G2 H2, Same G G2 → SR z.X.K z.c z.H0 z.G0 z.pn o G2 e p' σ H2 → Lies z.X.K z.c z.H0 z.pn o G2 e σ H2 v d .fre → Q v H2)
              (fun x p' => ∀ cls dd G' H', Same G G' → SR z.X.K z.c z.H0 z.G0 z.pn o G' e p' σ H' → ExcR z.X.K z.c G' cls dd x → z.W cls dd σ H'))
        -- the turn
        have core : ∀ (G3 H3 : Hp), Same G' G3 → SR z.X.K z.c z.H0 z.G0 ((D, .lst va) :: z.pn) o G3 e p' σ H3 → Rep z.X.K z.c.ca G3 x' ds[i'] →
            gName i x' (wipe σ ([(y, i)].map (·.2))) H3 fun σ2 H2 => wipe σ2 ([(y, i)].map (·.2)) = wipe σ ([(y, i)].map (·.2)) ∧ tYes σ2 H2 fun b H3 =>
              if b = true then LamX.tHear z.X.env.cells z.X.env.qual lam (fun n => n ∈ ok) (LamX.TTh z.X.K Ng.length w (hdsL z.X.K z.c hl)) (fun n E _ H Q => ∃ pn, RE { z with W := fun cls dd _ H => E cls dd H, pn := pn } o .fro (lamd n) σ H Q) (tCons (tVar i) tNil) σ2 H3 Qy else
                (∃ G' p' va da, Same G1 G' ∧ SR z.X.K z.c z.H0 z.G0 z.pn o G' e p' σ H3 ∧ H3 D = some (.lst va) ∧ G' D = none ∧ Reps z.X.K z.c.ca G' va da ∧
            Cont (hearGo w kn hl ok lamd e (ds.drop (i' + 1)) da p') (fun d p' => ∀ v G2 H2, Same G G2 → SR z.X.K z.c z.H0 z.G0 z.pn o G2 e p' σ H2 → Lies z.X.K z.c z.H0 z.pn o G2 e σ H2 v d .fre → Q v H2)
              (fun x p' => ∀ cls dd G' H', Same G G' → SR z.X.K z.c z.H0 z.G0 z.pn o G' e p' σ H' → ExcR z.X.K z.c G' cls dd x → z.W cls dd σ H')) := by
          intro G3 H3 s3 S3 r3
          have lσ : i < (wipe σ ([(y, i)].map (·.2))).length := by rw [wipe_length, S3.len]; exact hie
          refine ⟨by show wipe ((wipe σ [i]).set i (some x')) [i] = wipe σ [i]; rw [wipe_but (But.set i (wipe σ [i]) (some x')) (fun j h => h), wipe_wipe], ?_⟩
          unfold tYes
          dsimp only
          rw [ite_t]
          refine ⟨x', by rw [List.getElem?_set_self lσ], ?_⟩
          unfold hearGo at q'
          cases hdx : ds[i'] with
          | clo n =>
            rw [hdx] at q' r3
            dsimp only at q'
            split at q'
            · rename_i hn
              obtain ⟨hn, hlen⟩ := hn
              cases r3 with
              | @clo f c' _ h1 h2 =>
                rw [hlo n hn] at h1
                rw [hq] at h2
                have hf := S3.b.gh _ _ h1
                refine ⟨f, c', n, rfl, hn, hf, S3.b.gh _ _ h2, ?_⟩
                unfold LamX.TTh
                refine ⟨hf, (D, .lst va) :: z.pn, G3, e, p', S3, ?_⟩
                rw [Cont.bind] at q'
                have q2 := Cont.calm (er' := fun _ _ => False) q'
                -- what is wanted of the turn's value
                have fin : ∀ {d : Mz.D} {p5 : Pen}, Cont (hearGo w kn hl ok lamd e (ds.drop (i' + 1)) (da ++ [d]) p5) (fun d p' => ∀ v G2 H2, Same G G2 → SR z.X.K z.c z.H0 z.G0 z.pn o G2 e p' σ H2 → Lies z.X.K z.c z.H0 z.pn o G2 e σ H2 v d .fre → Q v H2)
                      (fun x p' => ∀ cls dd G' H', Same G G' → SR z.X.K z.c z.H0 z.G0 z.pn o G' e p' σ H' → ExcR z.X.K z.c G' cls dd x → z.W cls dd σ H') → ∀ {v : V} {G5 H5 : Hp}, Same G3 G5 → SR z.X.K z.c z.H0 z.G0 ((D, .lst va) :: z.pn) o G5 e p5 σ H5 → Rep z.X.K z.c.ca G5 v d → Qy v H5 := by
                  intro d p5 kk v G5 H5 s5 S5 r5
                  obtain ⟨S6, h1, h2, h3⟩ := S5.unpin
                  have lenA : va.length = da.length := ra.len
                  exact ⟨va, h1, by rw [lenA]; exact hlen, G5, p5, va ++ [v], da ++ [d], (s2.trans s3).trans s5, S6.write h1 h2 h3 nw npa nPr, upd_same, h3, (ra.mono (s3.trans s5)).app (.cons r5 .nil), kk⟩
                unfold mHear at q2
                cases hmm : lamd n e p' with
                | ok d p2 =>
                  rw [hmm] at q2
                  intro v2 G2 H2 s5 S2 l2
                  refine ⟨(by rw [sizeLine_eq]; exact (by decide : 2 ≤ 16777216)), fun l nl => ?_⟩
                  obtain ⟨G5, s6, S5, r5⟩ := lies_tup S2 nl (.cons (.str w) (.cons l2 .nil))
                  exact fin q2 (s5.trans s6) S5 r5
                | err x p2 =>
                  rw [hmm] at q2
                  intro cls dd G2 H2 s5 S2 er σ' hσ
                  dsimp only at q2
                  split at q2
                  · rename_i hx
                    refine hear_err (Q := Qy) hex hca hx S2.b.enter er (by rw [hσ, hNl]) ?_
                    cases hh : hdlOf hl x p2 with
                    | ok d p3 =>
                      rw [hh] at q2
                      intro v3 G4 H4 b3 r4
                      exact fin q2 (s5.trans b3.g0) (S2.call b3) r4
                    | err x' p3 => rw [hh] at q2; exact q2.elim
                    | stuck => rw [hh] at q2; exact q2.elim
                  · exact q2.elim
                | stuck => rw [hmm] at q2; exact q2.elim
            · exact q'.elim
          | _ => rw [hdx] at q'; exact q'.elim
        have Sp : SR z.X.K z.c z.H0 z.G0 ((D, .lst va) :: z.pn) o G' e p' σ H' := S'.pin hD True.intro hGD npa nPr
        rcases yl x' H'' y' with ⟨rfl, r⟩ | ⟨T, u, nT, hu', rfl, r⟩
        · exact core G' _ (Same.refl _) Sp r
        · obtain ⟨S3, s3⟩ := Sp.new nT hu'
          exact core _ _ s3 S3 r
      · left
        have ei : i' = ds.length := by omega
        subst ei
        rw [List.drop_length] at q'
        refine ⟨(it G' H' s2 S'.b.gh ds.length).2 (Nat.le_refl _), q' (.ref D) G' H' (s1.trans s2) S' ?_⟩
        unfold Lies
        rw [if_pos (show IsMut (.lst da) = true from rfl)]
        exact ⟨D, rfl, ⟨va, hD, ra⟩, nw, hGD, npa, nPr⟩
    · exact k1.elim
end
end Mz
/-! Mz, part v: the pen made; the law's own run. -/
namespace Mz
open PySem PySem.Spec PyProof.Rows L2
/-! ### places in the text -/
def sBody (i : Nat) : Stmt → Stmt
  | .FunctionDef _ _ b _ _ _ _ _ _ _ => b.getD i (.Pass ⟨0, 0, 0, 0⟩)
  | .For _ _ b _ _ => b.getD i (.Pass ⟨0, 0, 0, 0⟩)
  | .While _ b _ _ => b.getD i (.Pass ⟨0, 0, 0, 0⟩)
  | .If _ b _ _ => b.getD i (.Pass ⟨0, 0, 0, 0⟩)
  | _ => .Pass ⟨0, 0, 0, 0⟩
def sElse (i : Nat) : Stmt → Stmt
  | .If _ _ b _ => b.getD i (.Pass ⟨0, 0, 0, 0⟩)
  | _ => .Pass ⟨0, 0, 0, 0⟩
abbrev eNil : PySem.Expr := .Constant .none 0 ⟨0, 0, 0, 0⟩
def sVal : Stmt → PySem.Expr
  | .Assign _ v _ => v
  | .Return (some v) _ => v
  | .Expr v _ => v
  | .If t _ _ _ => t
  | .While t _ _ _ => t
  | .For _ i _ _ _ => i
  | _ => eNil
def eSub (i : Nat) : PySem.Expr → PySem.Expr
  | .Compare l _ rs _ => (l :: rs).getD i eNil
  | .Call _ as _ _ => as.getD i eNil
  | .List es _ => es.getD i eNil
  | .Tuple es _ _ => es.getD i eNil
  | .BoolOp _ es _ => es.getD i eNil
  | .UnaryOp _ e _ => e
  | .BinOp l _ r _ => [l, r].getD i eNil
  | .IfExp t a b _ => [t, a, b].getD i eNil
  | .Subscript a b _ => [a, b].getD i eNil
  | _ => eNil
def lamOf : PySem.Expr → LamX.LamI
  | .Lambda p b s _ => ⟨p, b, s⟩
  | _ => ⟨{ posonlyargs := [], args := [], vararg := none, kwonlyargs := [], kw_defaults := [], kwarg := none, defaults := [] }, eNil, { kind := .function, names := [], isGenerator := false, isCoroutine := false }⟩
def hdsT (s : Stmt) : List ExceptHandler := match defBody s with
  | [.Try _ hs _ _ _] => hs
  | _ => []

/-! ### the pen made -/
abbrev FOLD : Int := 1000000007
def spPen (K : PySem.W.Frag) : Sp := fun vs H Q _ => ∃ (a : Addr) (ns : List Int), vs = [.ref a] ∧ SqL K H a (ns.map V.int) ∧ ∀ (d l : Addr) (fold : Int) (H' : Hp), H d = none → H l = none → d ≠ l → 0 ≤ fold → fold < FOLD →
  H' d = some (.dK (penK ⟨ns, 0, 0, 0, fold⟩ l)) → H' l = some (.lst (ns.map V.int)) → (∀ b, b ≠ d → b ≠ l → H' b = H b) → Q (.ref d) H'
def tInt (te : TE) : TE := tCB (fun xs H Q => (∃ i, xs = [.int i] ∧ Q (.int i) H) ∨ ∃ k, xs = [.bl k] ∧ Q (.int (if k then 1 else 0)) H) (tCons te tNil)
def tListOf (K : PySem.W.Frag) (te : TE) : TE := tCB (fun xs H Q => ∃ p ys, xs = [.ref p] ∧ (SqL K H p ys ∨ SqT K H p ys) ∧ ∀ l, H l = none → Q (.ref l) (upd H l (.lst ys))) (tCons te tNil)
def t_pen (K : PySem.W.Frag) : TS := tSeq (tAsg (tC (.int 0)) (gName 1)) (tSeq (tFor (iList K (tVar 0)) (gName 2) (tAsg (tOp (rI (fun _ j => 0 < j) fun i j => .int (i % j)) (tInt (tOp (rI0 fun i j => .int (i + j)) (tOp (rI CMul fun i j => .int (i * j)) (tVar 1) (tC (.int 47))) (tVar 2))) (tC (.int 1000000007))) (gName 1)))
  (tRet (tDisp [(tC (.str "cells"), tListOf K (tVar 0)), (tC (.str "at"), tC (.int 0)), (tC (.str "digits"), tC (.int 0)), (tC (.str "count"), tC (.int 0)), (tC (.str "fold"), tVar 1)])))
theorem pure_pen {K : PySem.W.Frag} (vs : List V) (H : Hp) (Q : VK) (E : XK) (h : spPen K vs H Q E) : t_pen K { nx := fun _ H' => Q .non H', rt := Q } (start ["script", "fold", "cell"] vs) H := by
  obtain ⟨a, ns, rfl, hS, k⟩ := h
  refine ⟨_, rfl, a, rfl, ⟨_, hS⟩, for_list (K := K) (a := a) (xs := ns.map V.int) (fun i σ H' => ∃ (fold : Int) (v : Option V), σ = [some (.ref a), some (.int fold), v] ∧ 0 ≤ fold ∧ fold < FOLD ∧ H' = H)
    ⟨0, none, rfl, Int.le_refl _, by decide, rfl⟩ (fun i σ H' _ ⟨_, _, _, _, _, e⟩ => by rw [e]; exact hS) ?_ ?_⟩
  · rintro i y σ H' hi ⟨fold, v, rfl, h1, h2, rfl⟩
    obtain ⟨z, hz, rfl⟩ : ∃ z, ns[i]? = some z ∧ y = V.int z := by
      rw [List.getElem?_map] at hi
      cases e : ns[i]? with
      | none => rw [e] at hi; cases hi
      | some z => rw [e] at hi; exact ⟨z, rfl, (Option.some.inj hi).symm⟩
    refine ⟨_, rfl, _, _, rfl, rfl, ?_, _, rfl, _, _, rfl, rfl, .inl ⟨_, rfl, _, _, rfl, rfl, (show (0 : Int) < 1000000007 by decide), ?_⟩⟩
    · left
      have : FOLD < 2 ^ 64 := by decide
      exact ⟨Int.lt_of_lt_of_le (by decide) h1, Int.lt_trans h2 this⟩
    · exact ⟨_, _, rfl, Int.emod_nonneg _ (by decide), Int.emod_lt_of_pos _ (by decide), rfl⟩
  · rintro σ H' ⟨fold, v, rfl, h1, h2, rfl⟩
    intro d nd
    -- the dict stands empty while its values are made
    refine ⟨_, rfl, a, ns.map V.int, rfl, .inl ?_, fun l nl => ?_⟩
    · rcases hS with (hS | ⟨o, hS⟩) | hS
      · exact .inl (.inl (by rw [upd_ne (ne_of_none hS nd)]; exact hS))
      · exact .inl (.inr ⟨o, by rw [upd_ne (ne_of_none hS nd)]; exact hS⟩)
      · exact .inr hS
    · have nld : l ≠ d := fun e => by rw [e, upd_same] at nl; cases nl
      have nl' : H' l = none := by rw [upd_ne nld] at nl; exact nl
      refine ⟨_, rfl, by rw [upd_ne (Ne.symm nld), upd_same], ?_⟩
      refine ⟨[(.inr "cells", .ref l), (.inr "at", .int 0), (.inr "digits", .int 0), (.inr "count", .int 0), (.inr "fold", .int fold)], rfl, (show 5 ≤ 15 by decide), ?_⟩
      refine k d l fold _ nd nl' (Ne.symm nld) h1 h2 (by rw [upd_same]; rfl) (by rw [upd_ne nld, upd_same]) fun b hb hl => ?_
      rw [upd_ne hb, upd_ne hl, upd_ne hb]
/-! ### the law -/
/-- what is fixed in a law's run -/
abbrev mkC (T : List (Addr × Str)) (cl : Nat → Addr) (lam : Nat → LamX.LamI) (env : PySem.Env) (pa : Addr) (kn : List Nat := []) : Cfg :=
  { T := T, ca := { pn := pa, cl := cl, lo := fun n => LamX.lamO env.cells env.qual (lam n).params (lam n).body (lam n).scope, cq := env.qual ++ "<lambda>", kn := kn } }
abbrev zLaw (P : Program) (w : World) (K : PySem.W.Frag) (mg : Str → Option Value) (base : Heap) (N : List Str) (st : Stmt) (f : Addr) (cdv : Value) (A : Around) (outer : List PySem.Env) (s : Shared) (H : Hp) (E : XK) (c : Cfg) : Z :=
  { X := cxOf (L2.CX P w) P w K mg base N "law" (defScope st) f cdv A outer s H E, W := fun cls dd _ H => E cls dd H, c := c, H0 := fun _ => none, G0 := fun _ => none, ob := [], pn := [] }
/-- the slots behind pen = _law_pen(script) -/
abbrev e0 (n : Nat) : Env := none :: some D.pen :: List.replicate (n - 2) none
/-- the law: a row of ints, at whatever pen it makes, is answered by True -/
def spLaw (K : PySem.W.Frag) (cs : List Addr) (b : MS) (n : Nat) : Sp := fun vs H Q _ => ∃ (a : Addr) (ns : List Int), vs = [.ref a] ∧ SqL K H a (ns.map V.int) ∧ (∀ P ∈ cs, H P = some (.tbl #[])) ∧
  (∀ fold : Int, 0 ≤ fold → fold < FOLD → ∃ p', b (e0 n) ⟨ns, 0, 0, 0, fold⟩ = .ret (.bl true) p') ∧ ∀ H', Q (.bl true) H'
theorem law_ok {P : Program} {w : World} {K : PySem.W.Frag} {mg : Str → Option Value} {base : Heap} {f : Addr} {st : Stmt} {oc : Value} {od : Option Addr} {dV kV doc pm cdv ct : Value} {an : Option Addr} {osl : Array (Option Value)} {N : List Str} {k kp : Nat} {b : MS} {cs : List (Addr × Str)} {cl : Nat → Addr} {lam : Nat → LamX.LamI} {kn : List Nat}
    {fp : Addr} {fdp : FuncData} {p1 p2 p3 p4 p5 : Pos} {rest : List Stmt}
    (lk : K.lookup f = some ⟨oc, od, .func (PySem.W.fnOf "law" "law" (defArgs st) (defBody st) (defScope st) dV kV doc pm an cdv ct), osl⟩) (hcd : PySem.W.codeIn K cdv "law" = true) (S : FnScope N ["script"] (defScope st)) (hN0 : N[0]? = some ("script" : Str)) (hN1 : N[1]? = some ("pen" : Str)) (hNl : 2 ≤ N.length)
    (hv0 : Vis (defScope st) "script") (hv1 : Loc (defScope st) "pen")
    (hbd : defBody st = .Assign [.Name "pen" p1] (.Call (.Name "_law_pen" p2) [.Name "script" p3] [] p4) p5 :: rest)
    (hsw : ∀ (s : Shared), swapsWith (.Call (.Name "_law_pen" p2) [.Name "script" p3] [] p4) (some (.Name "pen" p1)) p5.line (envOfC "law" (defScope st) s.heap.objs.size f cdv) = pure false)
    (hse : ∀ (s : Shared), starEach (.Name "script" p3 :: []) (envOfC "law" (defScope st) s.heap.objs.size f cdv) = (false, eval (.Name "script" p3) (envOfC "law" (defScope st) s.heap.objs.size f cdv)) :: starEach [] (envOfC "law" (defScope st) s.heap.objs.size f cdv))
    (FP : FnOk P w K mg base (L2.CX P w) kp fp fdp ["script"] (spPen K)) (hkp : kp ≤ k) (gP : mg "_law_pen" = some (.ref fp)) (kP : PySem.W.keepIn K (.ref fp) = true) (bP : Binds K fdp ["script"] []) (hgl : (defScope st).names.lookup ("_law_pen" : Str) = some .globalImplicit)
    (body : ∀ (A : Around) (outer : List PySem.Env) (s : Shared) (H : Hp) (E : XK) (pa : Addr), Room k (A.deeper (envOfC "law" (defScope st) s.heap.objs.size f cdv)) →
      MSs (zLaw P w K mg base N st f cdv A outer s H E (mkC cs cl lam (envOfC "law" (defScope st) s.heap.objs.size f cdv) pa kn)) [] rest b []) :
    FnOk P w K mg base (L2.CX P w) (k + 1) f (PySem.W.fnOf "law" "law" (defArgs st) (defBody st) (defScope st) dV kV doc pm an cdv ct) ["script"] (spLaw K (cs.map (·.1)) b N.length) := by
  refine fn_of lk hcd S (fun vs H Q E h => ?_) fun A outer s H vs Q E hr h => ?_
  · obtain ⟨a, ns, rfl, _⟩ := h; rfl
  obtain ⟨a, ns, rfl, hS, hT, hb, hQ⟩ := h
  have tk : Takes (cxOf (L2.CX P w) P w K mg base N "law" (defScope st) f cdv A outer s H E) (fun cls dd _ H => E cls dd H) := takes_of rfl rfl rfl rfl
  rw [hbd]
  refine ⟨tSeq (tAsg (tCallS (spPen K) (WE fun cls dd _ H => E cls dd H) (tCons (tVar 0) tNil)) (gName 1)) (fun D σ H' => ∃ pa, RS (zLaw P w K mg base N st f cdv A outer s H E (mkC cs cl lam (envOfC "law" (defScope st) s.heap.objs.size f cdv) pa kn)) [] [] b D σ H'),
    pss_cons (ps_set (i := 1) S.nd hN1 hv1 (pe_callS FP (hr.mono hkp) hgl gP kP bP (fun σ => passAt tk σ) (pa_cons (pe_var (i := 0) hN0 hv0 (by decide) (by decide)) pa_nil (hse s)) (by decide) (hse s) (by rfl)) (hsw s) (.inl rfl)) ⟨fun pins s' σ H' D I ⟨pa, h⟩ => (body A outer s H E pa hr).run pins s' σ H' D I h⟩, ?_⟩
  -- the reading
  have hst : (start N [V.ref a])[0]? = some (some (.ref a)) := rfl
  refine ⟨.ref a, hst, a, ns, rfl, hS, fun d l fold H' nd nl ndl h0 h1 hd hl hrest => ?_⟩
  refine ⟨d, RS.iff.mpr ⟨upd (fun _ => none) l (.lst (ns.map V.int)), e0 N.length, ⟨ns, 0, 0, 0, fold⟩, ⟨?_, ?_, fun i dd h2 _ => ?_, fun i dd h2 h3 => ?_, fun i j dd d' _ _ h3 => ?_, fun q hq => nomatch hq⟩, ?_⟩⟩
  · refine ⟨fun b u e => ?_, fun b u e => (by cases e), fun b u e => .inr (NewIn.of rfl), fun b u e => (by cases e), fun b _ => NewIn.of rfl, ?_, fun b u e => ?_, fun q hq => ?_, ⟨l, hd, upd_same⟩⟩
    · by_cases hb : b = l
      · rw [hb, upd_same] at e; cases e; rw [hb]; exact hl
      · rw [upd_ne hb] at e; cases e
    · show upd (fun _ => none) l (.lst (ns.map V.int)) d = none
      rw [upd_ne ndl]
    · by_cases hb : b = l
      · rw [hb, upd_same] at e; cases e; exact fun z => z
      · rw [upd_ne hb] at e; cases e
    · have ht := hT q.1 (List.mem_map.mpr ⟨q, hq, rfl⟩)
      refine LamX.TabS.nil ?_
      rw [hrest q.1 (ne_of_none ht nd) (ne_of_none ht nl)]
      exact ht
  · unfold L2.start
    simp
    omega
  · match i, h2 with
    | 0, h2 => cases h2
    | 1, h2 =>
      cases h2
      refine ⟨.ref d, ?_, .pen⟩
      rw [List.getElem?_set_self]
      unfold L2.start
      simp
      omega
    | i + 2, h2 =>
      exfalso
      simp only [e0, List.getElem?_cons_succ] at h2
      by_cases hi : i < N.length - 2
      · rw [List.getElem?_replicate_of_lt hi] at h2; cases h2
      · rw [List.getElem?_eq_none (by simpa using hi)] at h2; cases h2
  · simp [own] at h3
  · simp [own] at h3
  · obtain ⟨p', hb'⟩ := hb fold h0 h1
    rw [hb']
    intro v G' H2 _ _ r
    cases r
    exact hQ H2
end Mz
/-! Mz, part w: small words for printed text. -/
namespace Mz
theorem all_nil {α : Type} {p : α → Prop} : ∀ m ∈ ([] : List α), p m := fun _ h => nomatch h
theorem all_cons {α : Type} {p : α → Prop} {n : α} {l : List α} (h : p n) (t : ∀ m ∈ l, p m) : ∀ m ∈ n :: l, p m := fun m hm => by
  rcases List.mem_cons.mp hm with e | hm
  · rw [e]; exact h
  · exact t m hm
end Mz
/-! Mz, part x: what the head tells, gathered. -/
namespace Mz
open PySem PySem.W PySem.Calls PyProof.Rows PySem.HandSPX
open L2 (defArgs defBody defScope XfC xfB xfB_ok)
def cBody (i : Nat) : Stmt → Stmt
  | .ClassDef _ _ _ b _ _ _ _ _ _ _ => b.getD i (.Pass ⟨0, 0, 0, 0⟩)
  | _ => .Pass ⟨0, 0, 0, 0⟩
/-- of the class -/
def clsB (K : Frag) (C : Addr) (fs : List Str) : Bool :=
  decide (findIn K (.ref C) "__setattr__" = some (some (.builtin "object.__setattr__"))) && keepIn K (.ref C) && decide (subIn K (.ref C) (.type "BaseException") = some true) && decide (typeIn K (.ref C) = some (.type "type")) &&
  decide (ks_superIn K C C "__init__" = some (some (.builtin "ValueError.__init__"))) && decide (nsIn K cStatics "thirdparty.any" = some none) && decide (mroIn K C (.ref C) = some true) && decide (subIn K (.ref C) (.type "ValueError") = some true) && xfB K C &&
  fs.all fun f => decide (findIn K (.ref C) f = some none)
structure ClsF (K : Frag) (C : Addr) (fs : List Str) : Prop where
  sa : findIn K (.ref C) "__setattr__" = some (some (.builtin "object.__setattr__"))
  kC : keepIn K (.ref C) = true
  exC : subIn K (.ref C) (.type "BaseException") = some true
  tyC : typeIn K (.ref C) = some (.type "type")
  sup : ks_superIn K C C "__init__" = some (some (.builtin "ValueError.__init__"))
  th : nsIn K cStatics "thirdparty.any" = some none
  subC : mroIn K C (.ref C) = some true
  subV : subIn K (.ref C) (.type "ValueError") = some true
  xf : XfC K C
  no : ∀ f ∈ fs, findIn K (.ref C) f = some none
theorem clsB_ok {K : Frag} {C : Addr} {fs : List Str} (h : clsB K C fs = true) : ClsF K C fs := by
  unfold clsB at h
  simp only [Bool.and_eq_true, decide_eq_true_eq, List.all_eq_true] at h
  obtain ⟨⟨⟨⟨⟨⟨⟨⟨⟨h1, h2⟩, h3⟩, h4⟩, h5⟩, h6⟩, h7⟩, h8⟩, h9⟩, h10⟩ := h
  exact ⟨h1, h2, h3, h4, h5, h6, h7, h8, xfB_ok h9, h10⟩
/-- of its __init__ -/
def iniB (P : Program) (K : Frag) (fI cda : Addr) (qual : Str) : Bool :=
  decide (typeIn K (.ref fI) = some (.type "function")) && codeIn K (.ref cda) qual && (match K.lookup cda with
    | some ⟨_, _, .fields vs, _⟩ => (match vs[2]? with | some (Value.str f _) => (P.main.file : Str) == f | _ => false)
    | _ => false)
theorem iniB_ok {P : Program} {K : Frag} {fI cda : Addr} {qual : Str} (h : iniB P K fI cda qual = true) : typeIn K (.ref fI) = some (.type "function") ∧ codeIn K (.ref cda) qual = true ∧
    ∃ (ccl : Value) (cdd : Option Addr) (vs : Array Value) (ccs : Array (Option Value)) (file : Str) (tf : Tok), K.lookup cda = some ⟨ccl, cdd, .fields vs, ccs⟩ ∧ vs[2]? = some (.str file tf) ∧ ((P.main.file : Str) == file) = true := by
  unfold iniB at h
  simp only [Bool.and_eq_true, decide_eq_true_eq] at h
  obtain ⟨⟨h1, h2⟩, h3⟩ := h
  refine ⟨h1, h2, ?_⟩
  split at h3
  · rename_i a b vs c hl
    split at h3
    · rename_i f t hv
      exact ⟨a, b, vs, c, f, t, hl, hv, h3⟩
    · cases h3
  · cases h3
theorem xin_mk {P : Program} {K : Frag} {mg : Str → Option Value} {C fI cc cda B : Addr} {qual : Str} {ag : Arguments} {bd : List Stmt} {sc : Scope} {fs : List Str}
    {nm q : Str} {N : Addr} {bs : List Value} {sn : List Str} {sub : List Value} {ab : Bool} {col : Option Bool} {dd : Option Addr} {k0 k1 k2 k3 k5 : Option Value}
    {oc : Value} {od : Option Addr} {kV doc pm : Value} {an : Option Addr} {ct : Value} {osl : Array (Option Value)} {cl : Value} {cld : Option Addr} {csl : Array (Option Value)}
    (xL : K.lookup C = some (excClassObj nm q C N bs [.ref B, .type "ValueError", .type "Exception", .type "BaseException", .type "object"] true sn sub ab col dd k0 k1 k2 k3 k5 "ValueError.__new__"))
    (F : ClsF K C fs) (iC : findIn K (.ref C) "__init__" = some (some (.ref fI))) (bI : iniB P K fI cda qual = true)
    (lI : K.lookup fI = some ⟨oc, od, .func (fnX "__init__" qual ag bd sc [("__class__", cc)] .none kV doc pm an (.ref cda) ct), osl⟩) (ce : K.lookup cc = some ⟨cl, cld, .cell (some (.ref C)), csl⟩) (gs : mg "super" = none) (ps : (P.main.scope.names.lookup ("super" : Str)).isSome = false) :
    XIn P K mg C fI cc cda qual ag bd sc := by
  obtain ⟨h1, h2, h3⟩ := iniB_ok bI
  exact ⟨⟨_, _, _, _, _, _, _, _, _, _, _, _, _, _, _, xL, rfl⟩, F.sa, iC, h1, F.kC, F.exC, F.tyC, ⟨_, _, _, _, _, _, _, _, lI⟩, h2, h3, ⟨_, _, _, ce⟩, F.sup, F.th, gs, ps, F.subC, F.subV⟩
/-- the row's end, the head told by kmHook -/
theorem law_end {l : PySem.W.OpenLaw} {w : World} {K : PySem.W.Frag} {mg : Str → Option Value} {fa : Addr} {h : Heap} {cc Pt : Addr} {x : Str} {st : Stmt} {oc : Value} {od : Option Addr} {dV kV doc pm ct : Value} {an : Option Addr} {osl : Array (Option Value)} {k n : Nat} {b : L2.Sp}
    (hT : h.get? Pt = some (tabObj #[])) (nT : K.lookup Pt = none) (C : CodeHd h cc Pt) (hb : ∀ (s : Shared) (u : Value), BindsTo s (PySem.W.fnOf "law" "law" (defArgs st) (defBody st) (defScope st) dV kV doc pm an (.ref cc) ct) ⟨[u], []⟩ [(x, u)])
    (hsp : ∀ (H : L2.Hp) (a : Addr) (ns : List Int), ns.length ≤ n → (∀ z ∈ ns, Builtin.Int.intBits z ≤ 1048576) → H Pt = some (.tbl #[]) → L2.SqL K H a (ns.map L2.V.int) → b [.ref a] H (fun v _ => v = .bl true) fun _ _ _ => False)
    (F : ∀ base : Heap, K.In base → base.Ns mainGlobals mg → LamX.TabB base mg cc Pt → L2.FnOk l.prog w K mg base (L2.CX l.prog w) k fa (PySem.W.fnOf "law" "law" (defArgs st) (defBody st) (defScope st) dV kV doc pm an (.ref cc) ct) [x] b) :
    LamX.LawAtS l w K (L2.CX l.prog w) k n x mg fa h :=
  ⟨_, [(cc, Pt)], b, all_cons hT all_nil, all_cons nT all_nil, all_cons C all_nil, hb, fun H a ns h1 h2 h3 h4 => hsp H a ns h1 h2 (h3 (cc, Pt) List.mem_cons_self) h4, fun base h1 h2 h3 => F base h1 h2 (h3 (cc, Pt) List.mem_cons_self)⟩
end Mz
/-! Mz, part y: the pen's maker; parameters bound where there are defaults; more of the head. -/
namespace Mz
open PySem PySem.W PySem.Calls PyProof.Rows PySem.HandSPX L2
/-- every parameter is given, though defaults stand at T -/
theorem binds_dv {K : Frag} {fd : FuncData} {ps : List Str} {T : Addr} {o : Obj} {items : Array Value} {n : Nat} (ho : K.lookup T = some o) (hd : fd.defaults = .ref T) (hs : o.data = .seq items n)
    (h : ∀ us : List Value, us.length = ps.length → ∃ k : Option (Array Value) → Sem (List (Str × Value)), bindArgs fd ⟨us, []⟩ = seqItems? fd.defaults >>= k ∧ k (some items) = pure (ps.zip us)) : Binds K fd ps [] := fun s us X hl => by
  rw [List.append_nil] at hl ⊢
  obtain ⟨k, h1, h2⟩ := h us hl
  exact .of_defaults hd (X _ _ ho) hs h1 h2
def clf (cs : List Addr) (n : Nat) : Addr := cs.getD n 0
def exmB (K : Frag) (cs : List Addr) (kn hn : List Nat) : Bool := kn.all fun n => hn.all fun q => decide (exmOne K (.ref (clf cs n)) (.ref (clf cs q)) = some (decide (q = n)))
theorem exmB_ok {K : Frag} {cs : List Addr} {kn hn : List Nat} (h : exmB K cs kn hn = true) : ∀ n ∈ kn, ∀ q ∈ hn, exmOne K (.ref (clf cs n)) (.ref (clf cs q)) = some (decide (q = n)) := by
  unfold exmB at h
  simp only [List.all_eq_true, decide_eq_true_eq] at h
  exact h
end Mz
namespace L2
open PySem PySem.Spec PyProof.Rows
section
variable {X : Cx} {CX : CXT} {k : Nat} {f C : Addr} {fd : FuncData} {ps : List Str} {sp : Sp} {dvs : List V} {ds : List Value} {E : St → XK} {x : Str} {p pos : Pos} {e : Expr} {es : List Expr} {t : TA}
/-! an instance made, what is raised being wished for at the caller's slots -/
def tMakeSD (C : Addr) (sp : Sp) (dvs : List V) (E : St → XK) (t : TA) : TE := fun σ H Q => t σ H fun vs H1 => ∀ x dx, H1 x = none → H1 dx = none → dx ≠ x →
  sp (.ref x :: (vs ++ dvs)) (upd (upd H1 dx (.own x)) x (.ins C dx [])) (fun v H2 => v = .non ∧ Q (.ref x) H2) (E σ)
theorem run_makeSD {pins : List (Addr × Obj)} {σ : St} {H : Hp} {s : Shared} {Q : VK} {us : List Value} {vs : List V} (M : Mk X.K C f) (F : FnOk X.prog X.w X.K X.mg X.base CX k f fd ps sp) (hr : Room (k + 1) X.A) (hb : Binds X.K fd ps ds) (hd : Vals dvs ds)
    (hx : PassesAt CX X σ (E σ)) (I : Inv X pins σ H s) (r : Vals vs us)
    (h : ∀ x dx, H x = none → H dx = none → dx ≠ x → sp (.ref x :: (vs ++ dvs)) (upd (upd H dx (.own x)) x (.ins C dx [])) (fun v H2 => v = .non ∧ Q (.ref x) H2) (E σ)) :
    wpAny (model X.prog X.w) X.A (call (.ref C) us) (EP X pins σ Q) X.xe s := by
  have hq := h (s.heap.objs.size + 1) s.heap.objs.size (I.hok.fresh (Nat.le_succ _)) (I.hok.fresh (Nat.le_refl _)) (Nat.ne_of_lt (Nat.lt_succ_self _))
  have I2 := Inv.made (C := C) I
  have r2 : Vals (V.ref (s.heap.objs.size + 1) :: (vs ++ dvs)) (Value.ref (s.heap.objs.size + 1) :: (us ++ ds)) := .cons rfl (r.append hd)
  have hl : (Value.ref (s.heap.objs.size + 1) :: us ++ ds).length = ps.length := by
    have e := r2.length
    rw [F.len _ _ _ _ hq] at e
    exact e.symm
  refine wpAny_call (make_map (f := f) I.kIn M.makes M.init (beq_iff_eq.mp M.fn) (codeAny_mono (F.run _ X.stack _ _ ⟨Value.ref (s.heap.objs.size + 1) :: us, []⟩ (Value.ref (s.heap.objs.size + 1) :: (us ++ ds)) _ _ (E σ) (hr.make C us [])
    (I2.env0.make C us []) (hb _ (Value.ref (s.heap.objs.size + 1) :: us) I2.kIn hl) r2 hq) fun r s' hq' => ?_))
  cases r with
  | error e => exact hx pins _ _ e s' I2 hq'
  | ok fl =>
    cases fl with
    | ret u =>
      obtain ⟨v, H', I3, rv, ev, q3⟩ := I2.after hq'
      subst ev
      exact ⟨rv, ⟨V.ref (s.heap.objs.size + 1), H', I3, rfl, q3⟩⟩
    | next => exact False.elim hq'
    | brk => exact False.elim hq'
    | cont => exact False.elim hq'
theorem pe_makeSD (M : Mk X.K C f) (F : FnOk X.prog X.w X.K X.mg X.base CX k f fd ps sp) (hr : Room (k + 1) X.A) (hg : Gl X x) (hm : X.mg x = some (.ref C)) (hb : Binds X.K fd ps ds) (hd : Vals dvs ds) (hx : ∀ σ, PassesAt CX X σ (E σ))
    (ha : PA X (e :: es) t) (hdb : (x == ("__debug__" : Str)) = false := by decide) (he : starEach (e :: es) X.env = (false, eval e X.env) :: starEach es X.env := by rfl) (hpl : (backTo pos (starEach es X.env)).any (·.1) = false := by rfl) :
    PE X (.Call (.Name x p) (e :: es) [] pos) (tMakeSD C sp dvs E t) := by
  refine ⟨fun pins s σ H Q I h => ?_⟩
  refine wpAny_Call_Name_kw (ld_glob I hg hm ?_ hdb)
  refine PySem.W.callWith_K (h₀ := X.base) I.ok.mod.kin M.kp (thn (ha.run pos pins s σ H _ I h) fun us s1 ⟨vs, H1, I1, r, q⟩ => ⟨I1.kIn, ?_⟩) he hpl
  exact run_makeSD M F hr hb hd (hx σ) I1 r q
end
end L2
/-! Mo, part a: instances of the program's own classes: made, their fields read and stored, isinstance. -/
namespace Mz
open PySem PySem.Spec PyProof.Rows L2
theorem mem_look {β : Type} {f : Str} : ∀ {fs : List (Str × β)} {v : β}, fs.lookup f = some v → (f, v) ∈ fs
  | [], v, h => by cases h
  | (g, w) :: fs, v, h => by
    rw [List.lookup_cons] at h
    by_cases e : f = g
    · subst e
      simp at h
      subst h
      exact List.mem_cons_self
    · have e' : (f == g) = false := beq_eq_false_iff_ne.mpr e
      rw [e'] at h
      exact List.mem_cons_of_mem _ (mem_look h)
section
variable {z : Z} {o o1 : Own} {D' : Ends} {G G1 H : Hp} {e : Env} {p : Pen} {σ : L2.St} {a b : Expr} {ma mb : M D} {pos : Pos}
/-! ### e.f -/
def dFld (f : Str) : D → Option D
  | .ins _ fs => fs.lookup f
  | _ => none
theorem me_attr (f : Str) (h : ME z o .bor a ma) (hb : attributeBase a f z.X.env (eval a z.X.env) = eval a z.X.env := by rfl) : ME z o .fro (.Attribute a f pos) (mUn (dFld f) ma) :=
  PE.imp (pe_fld h hb) fun σ H Q ⟨G, e, p, S, q⟩ => by
    unfold mUn at q
    rw [Cont.bind] at q
    refine ⟨G, e, p, S, q.mono (fun d p1 k v G1 H1 s1 S1 l => ?_) fun x p' k => k⟩
    obtain ⟨d', hd, k'⟩ := k.lift
    cases d with
    | ins n fs =>
      obtain ⟨a, dx, vs, rfl, h1, h2, h3, h4⟩ := Lies.ins S1 l
      obtain ⟨v', h5, h6⟩ := h4.look hd
      exact ⟨a, _, dx, vs, v', rfl, h1, h3.cls, h3.no _ (mem_look h5), h5, k' v' G1 H1 s1 S1 h6⟩
    | _ => cases hd
/-! ### name.f = e, the name being owned -/
def putFD (f : Str) (d : D) : List (Str × D) → List (Str × D)
  | [] => [(f, d)]
  | (g, x) :: r => if g = f then (g, d) :: r else (g, x) :: putFD f d r
theorem RepF.put {K : PySem.W.Frag} {ca : CA} {G : Hp} {f : Str} {v : V} {d : D} (r : Rep K ca G v d) : ∀ {vs : List (Str × V)} {ds : List (Str × D)}, RepF K ca G vs ds → RepF K ca G (putF f v vs) (putFD f d ds)
  | _, _, .nil => .cons r .nil
  | _, _, .cons (k := g) h t => by
    unfold putF putFD
    by_cases e : g = f
    · rw [if_pos e, if_pos e]; exact .cons r t
    · rw [if_neg e, if_neg e]; exact .cons h (t.put r)
theorem RepF.len {K : PySem.W.Frag} {ca : CA} {G : Hp} : ∀ {vs : List (Str × V)} {ds : List (Str × D)}, RepF K ca G vs ds → vs.length = ds.length
  | _, _, .nil => rfl
  | _, _, .cons _ t => by rw [List.length_cons, List.length_cons, t.len]
theorem mem_putF {f : Str} {v : V} {q : Str × V} : ∀ {vs : List (Str × V)}, q ∈ putF f v vs → q.1 = f ∨ q ∈ vs
  | [], h => by
    unfold putF at h
    rw [List.mem_singleton] at h
    subst h; exact .inl rfl
  | (g, x) :: r, h => by
    unfold putF at h
    by_cases e : g = f
    · rw [if_pos e] at h
      rcases List.mem_cons.mp h with h | h
      · subst h; exact .inl e
      · exact .inr (List.mem_cons_of_mem _ h)
    · rw [if_neg e] at h
      rcases List.mem_cons.mp h with h | h
      · subst h; exact .inr List.mem_cons_self
      · rcases mem_putF h with h | h
        · exact .inl h
        · exact .inr (List.mem_cons_of_mem _ h)
/-! ### __init__: the new instance is known to nobody; its fields are told beside the slots -/
inductive SFI where
  | next (fs : List (Str × D)) (e : Env) (p : Pen)
  | err (x : Exn) (p : Pen)
  | stuck
abbrev IS := List (Str × D) → Env → Pen → SFI
def PostI (z : Z) (n : Nat) (x : Addr) (o' : Own) (D' : Ends) (G : Hp) : SFI → Prop
  | .next fds' e' p' => ∀ σ' G' H' dx' vs', Same G G' → SR z.X.K z.c z.H0 z.G0 [(x, .ins (z.c.ca n) dx' vs')] o' G' e' p' σ' H' → InsOk z.X.K (z.c.ca n) vs' → RepF z.X.K z.c.ca G' vs' fds' → D'.nx σ' H'
  | .err ex p' => ∀ cls dd σ' G' H', Same G G' → BR z.c z.H0 z.G0 G' p' H' → ExcR z.X.K z.c G' cls dd ex → z.W cls dd σ' H'
  | .stuck => False
theorem PostI.mono {z : Z} {n : Nat} {x : Addr} {o' : Own} {D' : Ends} {G G1 : Hp} {r : SFI} (h : PostI z n x o' D' G r) (s : Same G G1) : PostI z n x o' D' G1 r := by
  cases r with
  | next f2 e2 p2 => exact fun σ2 G2 H2 dx2 vs2 s2 => h σ2 G2 H2 dx2 vs2 (s.trans s2)
  | err ex p2 => exact fun cls dd σ2 G2 H2 s2 => h cls dd σ2 G2 H2 (s.trans s2)
  | stuck => exact h
def RIn (z : Z) (n : Nat) (x : Addr) (o o' : Own) (m : IS) : TS := fun D' σ H => ∃ G e p dx vs fds, SR z.X.K z.c z.H0 z.G0 [(x, .ins (z.c.ca n) dx vs)] o G e p σ H ∧ NewIn z.H0 x ∧ InsOk z.X.K (z.c.ca n) vs ∧ RepF z.X.K z.c.ca G vs fds ∧ PostI z n x o' D' G (m fds e p)
abbrev MIn (z : Z) (n : Nat) (x : Addr) (o : Own) (st : Stmt) (m : IS) (o' : Own) : Prop := PS z.X st (RIn z n x o o' m)
abbrev MIns (z : Z) (n : Nat) (x : Addr) (o : Own) (sts : List Stmt) (m : IS) (o' : Own) : Prop := PSs z.X sts (RIn z n x o o' m)
def iNil : IS := fun fs e p => .next fs e p
def iCat (a b : IS) : IS := fun fs e p => match a fs e p with
  | .next fs e p => b fs e p
  | .err x p => .err x p
  | .stuck => .stuck
variable {n : Nat} {x : Addr} {o2 : Own}
theorem mn_nil : MIns z n x o [] iNil o := PSs.imp pss_nil fun D' σ H ⟨G, e, p, dx, vs, fds, S, nw, io, rf, q⟩ => q σ G H dx vs (Same.refl _) S io rf
theorem mn_cons {st : Stmt} {sts : List Stmt} {a b : IS} (h1 : MIn z n x o st a o1) (h2 : MIns z n x o1 sts b o2) : MIns z n x o (st :: sts) (iCat a b) o2 :=
  PSs.imp (pss_cons h1 h2) fun D' σ H ⟨G, e, p, dx, vs, fds, S, nw, io, rf, q⟩ => by
    refine ⟨G, e, p, dx, vs, fds, S, nw, io, rf, ?_⟩
    unfold iCat at q
    cases h : a fds e p with
    | next fs' e' p' =>
      rw [h] at q
      exact fun σ' G' H' dx' vs' s S' io' rf' => ⟨G', e', p', dx', vs', fs', S', nw, io', rf', PostI.mono (r := b fs' e' p') q s⟩
    | err ex p' => rw [h] at q; exact q
    | stuck => rw [h] at q; exact q
/-- a statement that does not speak of the new instance -/
def iStm (a : MS) : IS := fun fs e p => match a e p with
  | .next e p => .next fs e p
  | .err x _ p => .err x p
  | _ => .stuck
theorem mn_st {st : Stmt} {a : MS} (h : ∀ dx vs, MSt { z with pn := [(x, .ins (z.c.ca n) dx vs)] } o st a o1) : MIn z n x o st (iStm a) o1 :=
  ⟨fun pins s σ H D' I ⟨G, e, p, dx, vs, fds, S, nw, io, rf, q⟩ => (h dx vs).run pins s σ H D' I (RS.iff.mpr ⟨G, e, p, S, by
    unfold iStm at q
    cases ha : a e p with
    | next e' p' =>
      rw [ha] at q
      exact fun σ' G' H' s' S' => q σ' G' H' dx vs s' S' io (RepF.mono s' rf)
    | err ex e' p' =>
      rw [ha] at q
      exact fun cls dd σ' G' H' s' S' er => q cls dd σ' G' H' s' S'.b er
    | ret d p' => rw [ha] at q; exact q.elim
    | brk e' p' => rw [ha] at q; exact q.elim
    | cnt e' p' => rw [ha] at q; exact q.elim
    | stuck => rw [ha] at q; exact q.elim⟩)⟩
/-- what is known as data is told anew -/
theorem BR.base {c : Cfg} {H0 G0 G H : Hp} {p : Pen} (b : BR c H0 G0 G p H) : BR c H0 G G p H := ⟨b.gh, Same.refl _, fun a u e => .inl e, b.fr, b.st, b.gp, b.gt, b.tb, b.pen⟩
theorem BR.rebase {c : Cfg} {H0 G0 G G1 H H1 : Hp} {p p1 : Pen} (b : BR c H0 G0 G p H) (b1 : BR c H0 G G1 p1 H1) : BR c H0 G0 G1 p1 H1 := ⟨b1.gh, b.g0.trans b1.g0, fun a u e => by
  rcases b1.gn a u e with h | h
  · exact b.gn a u h
  · exact .inr h, b1.fr, b1.st, b1.gp, b1.gt, b1.tb, b1.pen⟩
theorem SR.base {K : PySem.W.Frag} {c : Cfg} {H0 G0 G H : Hp} {pn : Pins} {o : Own} {e : Env} {p : Pen} {σ : L2.St} (S : SR K c H0 G0 pn o G e p σ H) : SR K c H0 G pn o G e p σ H := ⟨S.b.base, S.len, S.fz, S.ow, S.ne, S.pi⟩
theorem SR.rebase {K : PySem.W.Frag} {c : Cfg} {H0 G0 G G1 H H1 : Hp} {pn pn1 : Pins} {o o1 : Own} {e e1 : Env} {p p1 : Pen} {σ σ1 : L2.St} (S : SR K c H0 G0 pn o G e p σ H) (S1 : SR K c H0 G pn1 o1 G1 e1 p1 σ1 H1) : SR K c H0 G0 pn1 o1 G1 e1 p1 σ1 H1 := ⟨S.b.rebase S1.b, S1.len, S1.fz, S1.ow, S1.ne, S1.pi⟩
theorem SR.repin {K : PySem.W.Frag} {c : Cfg} {H0 G0 G H : Hp} {o : Own} {e : Env} {p : Pen} {σ : L2.St} {x C dx : Addr} {vs vs' : List (Str × V)} (S : SR K c H0 G0 [(x, .ins C dx vs)] o G e p σ H) (nw : NewIn H0 x) : SR K c H0 G0 [(x, .ins C dx vs')] o G e p σ (upd H x (.ins C dx vs')) := by
  obtain ⟨h1, h2, h3, h4, h5⟩ := S.pi (x, .ins C dx vs) List.mem_cons_self
  refine ⟨S.b.write h1 h2 h3 nw h4, S.len, S.fz, fun i d h q m => ?_, S.ne, fun q hq => ?_⟩
  · obtain ⟨l, e1, e2, e3, e4, e5⟩ := S.ow i d h q m
    have nl : l ≠ x := fun z => h5 i d h q m (by rw [e1, z])
    exact ⟨l, e1, e2.move (Same.refl _) fun u hu => by rw [upd_ne nl]; exact hu, e3, e4, e5⟩
  · rw [List.mem_singleton.mp hq]
    exact ⟨upd_same, True.intro, h3, h4, h5⟩
/-- self.f = e -/
def iFld (x : Addr) (f : Str) (m : List (Str × D) → M D) : IS := fun fs e p => match m fs e p with
  | .ok d p => match e[0]? with
    | some (some (D.ref y)) => if y = x ∧ fs.length < 1000 then .next (putFD f d fs) e p else .stuck
    | _ => .stuck
  | .err ex p => .err ex p
  | .stuck => .stuck
theorem mn_fld {f sf : Str} {m : List (Str × D) → M D} {px ap : Pos} (hno : NoAttr z.X.K (z.c.ca n) f) (h : ∀ dx vs fds G0, RepF z.X.K z.c.ca G0 vs fds → InsOk z.X.K (z.c.ca n) vs → ME { z with pn := [(x, .ins (z.c.ca n) dx vs)], G0 := G0 } o .fro a (m fds))
    (hN : z.X.N[0]? = some sf := by rfl) (hv : Vis z.X.env.scope sf := by first | exact Or.inl rfl | exact Or.inr (Or.inl rfl))
    (hd : (sf == ("__debug__" : Str)) = false := by decide) (hcd : (sf == ("__classdict__" : Str)) = false := by decide)
    (hs : swapsWith a (some (.Attribute (.Name sf px) f ap)) pos.line z.X.env = pure false := by rfl) : MIn z n x o (.Assign [.Attribute (.Name sf px) f ap] a pos) (iFld x f m) o := by
  have ev : PE z.X a (fun σ H Q => ∃ dx vs fds G, RepF z.X.K z.c.ca G vs fds ∧ InsOk z.X.K (z.c.ca n) vs ∧ RE { z with pn := [(x, .ins (z.c.ca n) dx vs)], G0 := G } o .fro (m fds) σ H Q) :=
    ⟨fun pins s σ H Q I ⟨dx, vs, fds, G, rf, io, q⟩ => (h dx vs fds G rf io).run pins s σ H Q I q⟩
  refine PS.imp (ps_fld (pe_var hN hv hd hcd) ev hs) fun D' σ H ⟨G, e, p, dx, vs, fds, S, nw, io, rf, q⟩ => ?_
  refine ⟨dx, vs, fds, G, rf, io, G, e, p, S.base, ?_⟩
  unfold iFld at q
  cases hm : m fds e p with
  | stuck => rw [hm] at q; exact q.elim
  | err ex p' =>
    rw [hm] at q
    exact fun cls dd G' H' s' S' er => q cls dd σ G' H' s' (S.b.rebase S'.b) er
  | ok d p1 =>
    rw [hm] at q
    intro v G1 H1 s1 S1 l1
    have S2 := S.rebase S1
    replace q : PostI z n x o D' G (match e[0]? with
      | some (some (D.ref y)) => if y = x ∧ fds.length < 1000 then SFI.next (putFD f d fds) e p1 else .stuck
      | _ => .stuck) := q
    split at q
    · rename_i y he
      split at q
      · rename_i hc
        obtain ⟨rfl, hl⟩ := hc
        obtain ⟨v0, g1, g2⟩ := S2.fz 0 _ he (.inr rfl)
        cases g2
        obtain ⟨p1', p2', p3', p4', p5'⟩ := S2.pi (y, .ins (z.c.ca n) dx vs) List.mem_cons_self
        exact ⟨_, g1, y, _, dx, vs, rfl, p1', io.cls, hno, by rw [rf.len]; exact hl, q σ G1 _ dx (putF f v vs) s1 (S2.repin nw) ⟨io.cls, fun q hq => by
          rcases mem_putF hq with e | hq
          · rw [e]; exact hno
          · exact io.no q hq⟩ ((RepF.mono s1 rf).put l1)⟩
      · exact q.elim
    · exact q.elim
/-! ### C(..) -/
abbrev Fi := List D → Pen → R (List (Str × D))
/-- what __init__ leaves of the fields; N: how many slots; x: where -/
def fiOf (N : Nat) (b : Addr → IS) (x : Addr) : Fi := fun ds p => match b x [] (some (.ref x) :: (ds.map some ++ List.replicate (N - (ds.length + 1)) none)) p with
  | .next fs _ p => .ok fs p
  | .err x p => .err x p
  | .stuck => .stuck
def spI (K : PySem.W.Frag) (c : Cfg) (n np : Nat) (m : Addr → Fi) : Sp := fun vs H1 Q E => ∃ (H : Hp) (x dx : Addr) (vs' : List V) (G : Hp) (ds : List D) (p : Pen), vs = .ref x :: vs' ∧ H1 = upd (upd H dx (.own x)) x (.ins (c.ca n) dx []) ∧ H x = none ∧ H dx = none ∧ dx ≠ x ∧
  BR c H G G p H ∧ Reps K c.ca G vs' ds ∧ ds.length = np ∧
  Cont (m x ds p) (fun fds p' => ∀ dx' fvs G' H', BR c H G G' p' H' → H' x = some (.ins (c.ca n) dx' fvs) → InsOk K (c.ca n) fvs → RepF K c.ca G' fvs fds → G' x = none → Q .non H')
    (fun ex p' => ∀ cls dd G' H', BR c H G G' p' H' → ExcR K c G' cls dd ex → E cls dd H')
theorem SR.startI {K : PySem.W.Frag} {c : Cfg} {G H : Hp} {p : Pen} {vs : List V} {ds : List D} {N : List Str} {x dx C : Addr} (b : BR c H G G p H) (nx : H x = none) (nd : H dx = none) (ne : dx ≠ x) (r : Reps K c.ca G vs ds) :
    SR K c H G [(x, .ins C dx [])] [] G (some (.ref x) :: (ds.map some ++ List.replicate (N.length - (ds.length + 1)) none)) p (L2.start N (.ref x :: vs)) (upd (upd H dx (.own x)) x (.ins C dx [])) := by
  have nx2 : upd H dx (.own x) x = none := by rw [upd_ne (Ne.symm ne)]; exact nx
  have b2 := (b.newH (u := .own x) nd).newH (u := .ins C dx []) nx2
  have S0 := SR.start (N := N) (vs := .ref x :: vs) (ds := .ref x :: ds) b2 (.cons (.ref x) r)
  have own_nil : ∀ i, own [] i = false := fun i => by simp [own]
  have npa : x ≠ c.pa := fun z => by
    obtain ⟨_, q⟩ := b.paH
    rw [z, q] at nx; cases nx
  exact ⟨S0.b, S0.len, S0.fz, S0.ow, S0.ne, fun q hq => by
    rw [List.mem_singleton.mp hq]
    exact ⟨upd_same, True.intro, b.gh.free nx, npa, fun i d h1 h2 => by rw [own_nil] at h2; cases h2⟩⟩
/-- a class that can be made -/
structure FC (P : Program) (w : World) (K : PySem.W.Frag) (mg : Str → Option Value) (base : Heap) (c : Cfg) (x : Str) (n k np : Nat) (m : Fi) : Prop where
  ex : ∃ (f : Addr) (fd : FuncData) (ps : List Str) (m' : Addr → Fi), FnOk P w K mg base (L2.CX P w) k f fd ps (spI K c n np m') ∧ mg x = some (.ref (c.ca n)) ∧ Mk K (c.ca n) f ∧ Binds K fd ps [] ∧ ∀ x ds p, ds.length = np → m' x ds p = m ds p
  kn : n ∈ c.ca.kn
theorem fc_mk {P : Program} {w : World} {K : PySem.W.Frag} {mg : Str → Option Value} {base : Heap} {c : Cfg} {x qual : Str} {st : Stmt} {f : Addr} {oc : Value} {od : Option Addr} {dV kV doc pm cdv ct : Value} {an : Option Addr} {osl : Array (Option Value)} {N ps : List Str} {k n np : Nat} {b : Addr → IS}
    (hm : mg x = some (.ref (c.ca n))) (hk : n ∈ c.ca.kn) (hc : Cls K (c.ca n)) (M : Mk K (c.ca n) f) (lk : K.lookup f = some ⟨oc, od, .func (PySem.W.fnOf "__init__" qual (defArgs st) (defBody st) (defScope st) dV kV doc pm an cdv ct), osl⟩) (hcd : PySem.W.codeIn K cdv qual = true) (S : FnScope N ps (defScope st)) (hp : ps.length = np + 1)
    (hb : Binds K (PySem.W.fnOf "__init__" qual (defArgs st) (defBody st) (defScope st) dV kV doc pm an cdv ct) ps []) (o1 : Own) (hx : ∀ x ds p, ds.length = np → fiOf N.length b x ds p = fiOf N.length b 0 ds p)
    (body : ∀ (cdv : Value) (A : Around) (outer : List PySem.Env) (s : Shared) (H H0 : Hp) (E : XK) (G : Hp) (x : Addr), Room k (A.deeper (envOfC qual (defScope st) s.heap.objs.size f cdv)) →
      MIns { zD P w K mg base N qual st f cdv A outer s H E c G [] with H0 := H0 } n x [] (defBody st) (b x) o1) : FC P w K mg base c x n (k + 1) np (fiOf N.length b 0) := by
  refine ⟨⟨f, _, ps, _, ?_, hm, M, hb, hx⟩, hk⟩
  refine fn_of lk hcd S (fun vs H Q E h => ?_) fun A outer s H vs Q E hr h => ?_
  · obtain ⟨H, x, dx, vs', G, ds, p, rfl, _, _, _, _, _, r, hl, _⟩ := h
    rw [List.length_cons, r.len, hl, hp]
  · obtain ⟨H2, x, dx, vs', G, ds, p, rfl, rfl, nx, nd, ne, br, r, hl, q⟩ := h
    refine ⟨_, body cdv A outer s _ H2 E G x hr, G, _, p, dx, [], [], SR.startI br nx nd ne r, NewIn.of nx, ⟨hc, fun q hq => nomatch hq⟩, .nil, ?_⟩
    unfold fiOf at q
    cases hb : b x [] (some (.ref x) :: (ds.map some ++ List.replicate (N.length - (ds.length + 1)) none)) p with
    | next fs e' p' =>
      rw [hb] at q
      intro σ' G' H' dx' vs2 s' S' io rf
      obtain ⟨h1, h2, h3, h4, h5⟩ := S'.pi _ List.mem_cons_self
      exact q dx' vs2 G' H' S'.b h1 io rf h3
    | err ex p' =>
      rw [hb] at q
      exact fun cls dd σ' G' H' s br' er => q cls dd G' H' br' er
    | stuck => rw [hb] at q; exact q.elim
def mNew (n : Nat) (m : Fi) (ma : M (List D)) : M D := fun e p => (ma e p).bind fun ds p => (m ds p).bind fun fs p => .ok (.ins n fs) p
theorem me_new {x : Str} {n k k' np : Nat} {m : Fi} {es : List Expr} {mas : M (List D)} {pp : Pos} (F : FC z.X.prog z.X.w z.X.K z.X.mg z.X.base z.c x n k np m) (hr : Room k' z.X.A) (hkk : k + 1 ≤ k') (tk : Takes z.X z.W) (hlen : ∀ e p ds p', mas e p = .ok ds p' → ds.length = np) (ha : MA z o (a :: es) mas) (hg : Gl z.X x := by rfl) (hdb : (x == ("__debug__" : Str)) = false := by decide)
    (he : starEach (a :: es) z.X.env = (false, eval a z.X.env) :: starEach es z.X.env := by rfl) (hpl : (backTo pos (starEach es z.X.env)).any (·.1) = false := by rfl) : ME z o .fro (.Call (.Name x pp) (a :: es) [] pos) (mNew n m mas) := by
  obtain ⟨f, fd, ps, m', F1, hm, M, hb, hx⟩ := F.ex
  have hk := F.kn
  exact PE.imp (pe_makeSD (E := fun σ => WE z.W σ) M F1 (hr.mono hkk) hg hm hb .nil (fun σ => passAt tk σ) ha hdb he hpl) fun σ H Q ⟨G, e, p, S, q⟩ => by
    unfold mNew at q
    rw [Cont.bind] at q
    cases hc : mas e p with
    | stuck => rw [hc] at q; exact q.elim
    | err x p' =>
      rw [hc] at q
      refine ⟨G, e, p, S, ?_⟩
      rw [hc]
      exact q
    | ok ds p1 =>
      have hl := hlen e p ds p1 hc
      rw [hc] at q
      refine ⟨G, e, p, S, ?_⟩
      rw [hc]
      intro vs G1 H1 s1 S1 r x dx nx nd ne
      refine ⟨H1, x, dx, vs, G1, ds, p1, by rw [List.append_nil], rfl, nx, nd, ne, S1.b.enter, r, hl, ?_⟩
      rw [hx x ds p1 hl]
      have q2 : Cont ((m ds p1).bind fun fs p => R.ok (D.ins n fs) p) _ _ := q
      rw [Cont.bind] at q2
      refine q2.mono (fun fds p2 k dx' fvs G' H' b2 h1 io rf gx => ⟨rfl, ?_⟩) fun ex p' k cls dd G' H' b2 er => k cls dd G' H' (s1.trans b2.g0) (S1.call b2) er
      have S2 := S1.call b2
      have npa : x ≠ z.c.pa := fun w => by
        obtain ⟨_, q⟩ := S1.b.paH
        rw [w, q] at nx; cases nx
      obtain ⟨S3, s3⟩ := S2.give h1 gx (S1.b.st x nx) npa (fun w => w) fun h => by
        obtain ⟨⟨u, hu, _⟩, _⟩ := S1.priv h
        rw [nx] at hu; cases hu
      exact k (.ref x) _ H' (s1.trans (b2.g0.trans s3)) S3 (Rep.ins upd_same hk io (RepF.mono s3 rf))
end
end Mz
/-! Mo, part b: isinstance of own classes; self.f read in __init__; more operators. -/
namespace Mz
open PySem PySem.Spec PyProof.Rows L2
/-- what isinstance asks of the classes -/
structure KC (K : PySem.W.Frag) (ca : CA) : Prop where
  cls : ∀ n ∈ ca.kn, Cls K (ca n)
  at_ : ∀ n ∈ ca.kn, PySem.W.findIn K (.ref (ca n)) "__class__" = some (some (.builtin "object.__class__"))
  get : PySem.W.specialIn K (.builtin "object.__class__") "__get__" = some (some (.builtin "getset_descriptor.__get__"))
  tak : PySem.W.takesIn K (.builtin "object.__class__") = some true
  mro : ∀ n ∈ ca.kn, PySem.W.mroIn K (ca n) (.type "object") = some true
  own : ∀ n ∈ ca.kn, ∀ m ∈ ca.kn, PySem.W.kitOne K (.ref (ca n)) (.ref (ca m)) = some (n == m)
  bty : ∀ a ∈ ["NoneType", "bool", "int", "str", "tuple", "list", "dict"], ∀ m ∈ ca.kn, PySem.W.kitOne K (.type a) (.ref (ca m)) = some false
  tyb : ∀ n ∈ ca.kn, ∀ b ∈ ["bool", "int", "str", "tuple", "list", "dict"], PySem.W.kitOne K (.ref (ca n)) (.type b) = some false
def kcB (K : PySem.W.Frag) (cl : Nat → Addr) (kn : List Nat) : Bool :=
  (kn.all fun n => PySem.W.plainGet K (cl n) Str.empty && PySem.W.hasDictIn K (cl n) && PySem.W.plainOver K (cl n) && decide (PySem.W.findIn K (.ref (cl n)) "__setattr__" = some (some (.builtin "object.__setattr__"))) &&
    decide (PySem.W.findIn K (.ref (cl n)) "__class__" = some (some (.builtin "object.__class__"))) && decide (PySem.W.mroIn K (cl n) (.type "object") = some true) &&
    (kn.all fun m => decide (PySem.W.kitOne K (.ref (cl n)) (.ref (cl m)) = some (n == m))) &&
    (["bool", "int", "str", "tuple", "list", "dict"].all fun b => decide (PySem.W.kitOne K (.ref (cl n)) (.type b) = some false)) &&
    (["NoneType", "bool", "int", "str", "tuple", "list", "dict"].all fun a => decide (PySem.W.kitOne K (.type a) (.ref (cl n)) = some false))) &&
  decide (PySem.W.specialIn K (.builtin "object.__class__") "__get__" = some (some (.builtin "getset_descriptor.__get__"))) && decide (PySem.W.takesIn K (.builtin "object.__class__") = some true)
theorem kcB_ok {K : PySem.W.Frag} {ca : CA} (h : kcB K ca.cl ca.kn = true) : KC K ca := by
  unfold kcB at h
  simp only [Bool.and_eq_true, List.all_eq_true, decide_eq_true_eq] at h
  obtain ⟨⟨h1, h2⟩, h3⟩ := h
  exact ⟨fun n hn => ⟨(h1 n hn).1.1.1.1.1.1.1.1, (h1 n hn).1.1.1.1.1.1.1.2, (h1 n hn).1.1.1.1.1.1.2, (h1 n hn).1.1.1.1.1.2⟩, fun n hn => (h1 n hn).1.1.1.1.2, h2, h3, fun n hn => (h1 n hn).1.1.1.2, fun n hn m hm => (h1 n hn).1.1.2 m hm, fun a ha m hm => (h1 m hm).2 a ha, fun n hn b hb => (h1 n hn).1.2 b hb⟩
def dIsC (m : Nat) : D → Option D
  | .ins n _ => some (.bl (n == m))
  | d => (tyN d).map fun _ => .bl false
section
variable {z : Z} {o o1 : Own} {D' : Ends} {G G1 H : Hp} {e : Env} {p : Pen} {σ : L2.St} {a b : Expr} {ma mb : M D} {pos : Pos}
theorem tyN_in {d : D} {t : String} (h : tyN d = some t) : t ∈ ["NoneType", "bool", "int", "str", "tuple", "list", "dict"] := by
  cases d <;> first | (cases h; simp) | cases h
theorem me_isc (m : Nat) {x : Str} {pn pm : Pos} (hm : z.X.mg "isinstance" = none) (hc : z.X.mg x = some (.ref (z.c.ca m))) (hk : m ∈ z.c.ca.kn) (kc : KC z.X.K z.c.ca) (ha : ME z o .bor a ma)
    (hg : Gl z.X "isinstance" := by rfl) (hgx : Gl z.X x := by rfl) (hdx : (x == ("__debug__" : Str)) = false := by decide) (hs : starEach (a :: [.Name x pn]) z.X.env = (false, eval a z.X.env) :: starEach [.Name x pn] z.X.env := by rfl)
    (hs2 : starEach (.Name x pn :: []) z.X.env = (false, eval (.Name x pn) z.X.env) :: starEach [] z.X.env := by rfl) (hpl : (backTo pos (starEach [.Name x pn] z.X.env)).any (·.1) = false := by rfl) :
    ME z o .fre (.Call (.Name "isinstance" pm) [a, .Name x pn] [] pos) (mUn (dIsC m) ma) :=
  PE.imp (pe_callB call_isi hg hm PyProof.Rows.boot_isinstance (pa_cons ha (pa_cons (pe_glob (v := .ref (z.c.ca m)) hgx hc rfl hdx) pa_nil hs2) hs) (by decide) (by decide) hs hpl) fun σ H Q ⟨G, e, p, S, q⟩ => by
    unfold mUn at q
    rw [Cont.bind] at q
    refine ⟨G, e, p, S, q.mono (fun d p1 k v G1 H1 s1 S1 l => ?_) fun x p' k => k⟩
    obtain ⟨d', hd, k'⟩ := k.lift
    have fin : ∀ b : Bool, d' = .bl b → Q (.bl b) H1 := fun b e => k' _ G1 H1 s1 S1 (by rw [e]; exact Flat.lies (v := .bl b) (d := .bl b) rfl)
    have base : ∀ t, tyN d = some t → d' = .bl false → rIsi z.X.K [v, .ref (z.c.ca m)] H1 Q := fun t ht e =>
      ⟨v, .ref (z.c.ca m), _, _, false, rfl, .own _, l.tyX S1 ht, kc.bty t (tyN_in ht) m hk, fin false e⟩
    cases d with
    | ins n fs =>
      cases hd
      obtain ⟨a, dx, vs, rfl, h1, h2, h3, h4⟩ := Lies.ins S1 l
      exact ⟨_, .ref (z.c.ca m), _, _, n == m, rfl, .own _, .base (.ins h1 h3.cls (kc.at_ n h2) kc.get kc.tak (kc.mro n h2)), kc.own n h2 m hk, fin _ rfl⟩
    | non => cases hd; exact base _ rfl rfl
    | bl _ => cases hd; exact base _ rfl rfl
    | int _ => cases hd; exact base _ rfl rfl
    | str _ => cases hd; exact base _ rfl rfl
    | tup _ => cases hd; exact base _ rfl rfl
    | lst _ => cases hd; exact base _ rfl rfl
    | dK _ => cases hd; exact base _ rfl rfl
    | dT _ => cases hd; exact base _ rfl rfl
    | ty _ => cases hd
    | clo _ => cases hd
    | pen => cases hd
    | ref _ => cases hd
/-- self.f in __init__ -/
def mSelf (x : Addr) (f : Str) (fds : List (Str × D)) : M D := fun e p => match e[0]? with
  | some (some (D.ref y)) => if y = x then lift (fds.lookup f) p else .stuck
  | _ => .stuck
theorem me_self {n : Nat} {x dx : Addr} {f sf : Str} {vs : List (Str × V)} {fds : List (Str × D)} {px : Pos} (hp : z.pn = [(x, .ins (z.c.ca n) dx vs)]) (rf : RepF z.X.K z.c.ca z.G0 vs fds) (io : InsOk z.X.K (z.c.ca n) vs)
    (hN : z.X.N[0]? = some sf := by rfl) (hv : Vis z.X.env.scope sf := by first | exact Or.inl rfl | exact Or.inr (Or.inl rfl) | exact Or.inr (Or.inr rfl))
    (hd : (sf == ("__debug__" : Str)) = false := by decide) (hcd : (sf == ("__classdict__" : Str)) = false := by decide)
    (hb : attributeBase (.Name sf px) f z.X.env (eval (.Name sf px) z.X.env) = eval (.Name sf px) z.X.env := by rfl) : ME z o .fro (.Attribute (.Name sf px) f pos) (mSelf x f fds) :=
  PE.imp (pe_fld (pe_var hN hv hd hcd) hb) fun σ H Q ⟨G, e, p, S, q⟩ => by
    unfold mSelf at q
    split at q
    · rename_i y he
      split at q
      · rename_i hy
        subst hy
        obtain ⟨d, hl, k⟩ := q.lift
        obtain ⟨v0, g1, g2⟩ := S.fz 0 _ he (.inr rfl)
        cases g2
        obtain ⟨h1, _⟩ := S.pi (y, .ins (z.c.ca n) dx vs) (by rw [hp]; exact List.mem_cons_self)
        obtain ⟨v, h2, h3⟩ := rf.look hl
        exact ⟨_, g1, y, _, dx, vs, v, rfl, h1, io.cls, io.no _ (mem_look h2), h2, k v G H (Same.refl _) S (h3.mono S.b.g0)⟩
      · exact q.elim
    · exact q.elim
/-! ### x & y -/
def dAnd := dI fun i j => some (.int (Builtin.bitAnd i j))
theorem op2_and : Op2 z (rI0 fun i j => .int (Builtin.bitAnd i j)) dAnd := op2_I0 fun _ _ => rfl
end
end Mz
/-! Mo, part c: sorted(set(..)) of ints. -/
namespace L2
open PySem PySem.Spec PyProof.Rows
abbrev newSet (w : World) : Obj := { cls := .type "set", dict := none, data := .set #[] 0 (.fresh 0 0 (!w.params.followText "set-order")) }
section
variable {P : Program} {w : World} {A : Around} {E : Value → Shared → Prop} {s : Shared}
set_option maxRecDepth 100000 in
set_option maxHeartbeats 3200000 in
theorem call_set_lstI {l : Addr} {items : Array Value} (ns : List Int) {Q : Value → Shared → Prop} (hh : A.handled = none) (hl : s.heap.IsList l items) (hit : IntsAre items.toList ns) (hb : ns.length + 1 < scanBound)
    (h : ∀ (h' : Heap) (tk c : Nat), SetR w h' s.heap.objs.size (fun j => decide (j ∈ ns)) c → c ≤ ns.length → (∀ b o, s.heap.get? b = some o → h'.get? b = some o) → Q (.ref s.heap.objs.size) { s with heap := h', toks := tk }) :
    wpAny (model P w) A (call (.type "set") [.ref l]) Q E s := by
  have sz : items.size = ns.length := by
    have q := IntsAre.length hit
    rw [Array.length_toList] at q
    exact q
  obtain ⟨c, tl, m0⟩ := F.called_set.mro
  have m1 := F.called_set.made
  have m2 := F.called_set.sub
  refine wpAny_call (codeAny_of_tree ?_)
  show wpAny _ _ (callAny (.type "set") _) _ _ _
  refine wpAny_pure ⟨Code.quiet_builtin _ (by decide +kernel), codeAny_builtin F.entry_type_call ?_⟩
  rw [Around.under_plain (weight_type_call_type "set" [.ref l] []) rfl]
  have h1 := F.called_set.notType
  have h2 := F.called_set.canCreate
  have m3 := F.typeCall_set_1 (.ref l)
  repeat (any_goals (first | assumption | wp_step))

  refine codeAny_mono (code_set_led1 (.ref l) (E := E) (Q₁ := fun obj s₁ => obj = .ref s.heap.objs.size ∧ s₁ = { s with heap := s.heap.push (newSet w) }) ⟨rfl, rfl⟩) fun r s₁ hr => ?_
  cases r with
  | error e => exact hr
  | ok fl =>
    cases fl with
    | ret obj =>
      obtain ⟨rfl, rfl⟩ := hr
      have hS : (s.heap.push (newSet w)).get? s.heap.objs.size = some (newSet w) := Heap.get?_push_size _ rfl
      have hT : Shared.TypeIs { s with heap := s.heap.push (newSet w) } (.ref s.heap.objs.size) "set" := ⟨_, hS, rfl⟩
      have m4 := F.called_set.init.lookup
      have m5 := F.called_set.init.bind (.ref s.heap.objs.size)
      repeat (any_goals (first | assumption | wp_step))

      refine codeAny_mono (codeAny_call_builtin (R := wants (fun r s₂ => r = .none ∧ ∃ h' tk c, s₂ = { s with heap := h', toks := tk } ∧ SetR w h' s.heap.objs.size (fun j => decide (j ∈ ns)) c ∧ c ≤ ns.length ∧
          (∀ b o, s.heap.get? b = some o → h'.get? b = some o)) E) F.called_set.init.plain F.entry_set_init (check_set_init_1 hT ?_)) fun r₂ s₂ hr₂ => ?_
      · obtain ⟨ol, ob, oc, nl, od⟩ := hl
        obtain ⟨ocls, odict, odata, oslots⟩ := ol
        simp only at oc od
        subst oc; subst od
        have ob' : (s.heap.push (newSet w)).get? l = some { cls := .type "list", dict := odict, data := .seq items nl, slots := oslots } := Heap.get?_push_of_some _ ob
        have u1 := F.sub_list_set
        have u2 := F.sub_list_frozenset
        have hne : (Value.type "list" == Value.type "dict") = false := by decide
        have kl : (s.heap.push (newSet w)).IsList l items := ⟨_, ob', rfl, nl, rfl⟩
        unfold Builtin.«set.__init__» noKeywords Builtin.Frozenset.updateFrom
        generalize hPI : pyIter = PI
        wp_walk
        subst hPI

        refine wpAny_pyIter_list kl ?_
        refine wpAny_bind (wpAny_runValue ?_)
        have lS : l < s.heap.objs.size := Heap.lt_size ob
        have hd3 : A.in1.in1.in1.handled = none := by simp [hh]
        have z1 : (s.heap.push (newSet w)).objs.size = s.heap.objs.size + 1 := Heap.size_push ..
        have neI : l ≠ (s.heap.push (newSet w)).objs.size := by
          rw [Heap.size_push]; exact Nat.ne_of_lt (Nat.lt_succ_of_lt lS)
        have nSf : s.heap.objs.size ∉ [(s.heap.push (newSet w)).objs.size, l] := by
          rw [Heap.size_push]; simp only [List.mem_cons, List.mem_singleton, List.not_mem_nil, or_false, not_or]
          exact ⟨Nat.ne_of_lt (Nat.lt_succ_self _), Nat.ne_of_gt lS⟩
        have vals : ∀ (i : Nat) (v : Value), items[i]? = some v → ∃ k t, ns[i]? = some k ∧ v = .int k t := fun i v hv => by
          have hi : i < ns.length := by rw [← sz]; exact (Array.getElem?_eq_some_iff.mp hv).1
          obtain ⟨t, e⟩ := PyProof.Rows.IntsAre.int_at hit i v (by rw [Array.getElem?_toList]; exact hv)
          refine ⟨ns[i], t, List.getElem?_eq_getElem hi, ?_⟩
          rw [e, List.getD_eq_getElem?_getD, List.getElem?_eq_getElem hi] <;> rfl
        refine set_update_ints ((Walks.list hd3 _ l neI items).toS) s.heap.objs.size
          nSf ns sz hb vals (items.size - 0) 0 _ (by omega) (Nat.zero_le _)
          ⟨⟨_, Heap.get?_push_size _ rfl, rfl, rfl⟩, (kl.push _)⟩ ?hS0 ?hR
        case hS0 =>
          have gt : ((s.heap.push (newSet w)).push { cls := .type "list_iterator", data := .fields #[.ref l, .int 0 0] }).get? s.heap.objs.size
              = some (newSet w) := Heap.get?_push_of_some _ hS
          exact ⟨0, Nat.le_refl 0, setR_new_at gt⟩
        case hR =>
          intro s' c' hm hc' hS'
          obtain ⟨h', g2, d', tk', os'⟩ := s'
          have eg : g2 = s.gens := hm.gens
          have ed : d' = s.drawn := hm.drawn
          have eo : os' = s.os := hm.os
          subst eg; subst ed; subst eo
          show wpAny _ _ _ _ _ _
          refine wpAny_pure ?_
          show wpAny _ _ (ret Value.none) _ _ _
          rw [sz] at hc'
          refine wpAny_pure ⟨rfl, h', tk', c', rfl, hS', hc', fun b o e => ?_⟩
          have hb0 : b < s.heap.objs.size := Heap.lt_size e
          have hb1 : b ≠ s.heap.objs.size := Nat.ne_of_lt hb0
          have hb2 : b ≠ (s.heap.push (newSet w)).objs.size := by
            rw [Heap.size_push]; exact Nat.ne_of_lt (Nat.lt_succ_of_lt hb0)
          exact hm.heap b o (by simp only [List.mem_cons, List.mem_singleton, List.not_mem_nil, or_false, not_or]; exact ⟨hb1, hb2⟩) (Heap.get?_push_of_some _ (Heap.get?_push_of_some _ e))

      · cases r₂ with
        | error e => exact hr₂
        | ok fl₂ =>
          cases fl₂ with
          | ret r =>
            obtain ⟨rfl, h', tk, c', rfl, hS', hc', hk'⟩ := hr₂
            repeat (any_goals (first | assumption | wp_step))
            exact h _ _ _ hS' hc' hk'
          | _ => exact hr₂.elim
    | _ => exact hr.elim

end
end L2
/-! Mo, part d: sorted(set(..)). -/
namespace Mz
open PySem PySem.Spec PyProof.Rows L2
def insU (x : Int) : List Int → List Int
  | [] => [x]
  | y :: l => if x < y then x :: y :: l else if x = y then y :: l else y :: insU x l
def setI (l : List Int) : List Int := l.foldr insU []
theorem mem_insU {x k : Int} : ∀ {l : List Int}, k ∈ insU x l ↔ k = x ∨ k ∈ l
  | [] => by simp [insU]
  | y :: l => by
    unfold insU
    split
    · simp
    · split
      · rename_i h
        subst h
        simp
      · rw [List.mem_cons, mem_insU, List.mem_cons]
        constructor
        · rintro (h | h | h) <;> simp [h]
        · rintro (h | h | h) <;> simp [h]
theorem insU_lt {x : Int} : ∀ {l : List Int}, l.Pairwise (· < ·) → (insU x l).Pairwise (· < ·)
  | [], _ => by simp [insU]
  | y :: l, h => by
    have h1 := List.pairwise_cons.mp h
    unfold insU
    split
    · rename_i hxy
      exact List.pairwise_cons.mpr ⟨fun z hz => by
        rcases List.mem_cons.mp hz with rfl | hz
        · exact hxy
        · exact Int.lt_trans hxy (h1.1 z hz), h⟩
    · split
      · exact h
      · rename_i a b
        exact List.pairwise_cons.mpr ⟨fun z hz => by
          rcases mem_insU.mp hz with rfl | hz
          · omega
          · exact h1.1 z hz, insU_lt h1.2⟩
theorem mem_setI {k : Int} : ∀ {l : List Int}, k ∈ setI l ↔ k ∈ l
  | [] => Iff.rfl
  | x :: l => by
    show k ∈ insU x (setI l) ↔ _
    rw [mem_insU, mem_setI, List.mem_cons]
theorem setI_lt : ∀ (l : List Int), (setI l).Pairwise (· < ·)
  | [] => List.Pairwise.nil
  | x :: l => insU_lt (setI_lt l)
theorem lt_one : ∀ {a b : List Int}, a.Pairwise (· < ·) → b.Pairwise (· < ·) → (∀ k, k ∈ a ↔ k ∈ b) → a = b
  | [], [], _, _, _ => rfl
  | [], y :: b, _, _, h => absurd ((h y).mpr List.mem_cons_self) (by simp)
  | x :: a, [], _, _, h => absurd ((h x).mp List.mem_cons_self) (by simp)
  | x :: a, y :: b, ha, hb, h => by
    have h1 := List.pairwise_cons.mp ha
    have h2 := List.pairwise_cons.mp hb
    have exy : x = y := by
      rcases List.mem_cons.mp ((h x).mp List.mem_cons_self) with e | e
      · exact e
      · rcases List.mem_cons.mp ((h y).mpr List.mem_cons_self) with f | f
        · exact f.symm
        · have := h1.1 y f
          have := h2.1 x e
          omega
    subst exy
    congr 1
    refine lt_one h1.2 h2.2 fun k => ⟨fun hk => ?_, fun hk => ?_⟩
    · rcases List.mem_cons.mp ((h k).mp (List.mem_cons_of_mem _ hk)) with rfl | q
      · have := h1.1 k hk; omega
      · exact q
    · rcases List.mem_cons.mp ((h k).mpr (List.mem_cons_of_mem _ hk)) with rfl | q
      · have := h2.1 k hk; omega
      · exact q
def rSetI (K : PySem.W.Frag) (w : World) : List V → Hp → VK → Prop := fun xs H Q => ∃ (l : Addr) (ns : List Int), xs = [.ref l] ∧ (SqL K H l (ns.map V.int) ∨ SqT K H l (ns.map V.int)) ∧ ns.length ≤ 1000 ∧
  ∀ p c, H p = none → c ≤ ns.length → Q (.ref p) (upd H p (SetO w p (fun j => decide (j ∈ ns)) c))
theorem call_setI {X : Cx} (hc : X.calm = true) : CallR X (.type "set") (rSetI X.K X.w) := by
  intro pins s σ H xs us Q I r h
  obtain ⟨l, ns, rfl, hq, hl, q⟩ := h
  rw [Vals.ref1 r]
  have fin : ∀ (h' : Heap) (tk c : Nat), SetR X.w h' s.heap.objs.size (fun j => decide (j ∈ ns)) c → c ≤ ns.length → (∀ b o, s.heap.get? b = some o → h'.get? b = some o) → EP X pins σ Q (.ref s.heap.objs.size) { s with heap := h', toks := tk } := by
    intro h' tk c R1 hcn k
    have ⟨o, es, ep, t, ho, _⟩ := R1
    have hn : H s.heap.objs.size = none := I.hok.fresh (Nat.le_refl _)
    exact ⟨.ref s.heap.objs.size, upd H s.heap.objs.size (SetO X.w s.heap.objs.size (fun j => decide (j ∈ ns)) c), I.call (ch := []) (Un.laid k (Nat.le_refl _) hn) (I.hok.laid k (Nat.le_refl _) (setO_new R1)) I.bare (fun _ z => nomatch z), rfl, q _ c hn hcn⟩
  have hd := I.ok.hd hc
  rcases hq with hq | hq
  · obtain ⟨its, rv, pt, hz⟩ := I.list hq
    exact call_set_lstI ns hd pt.isList (ints_of_vals rv) (by unfold scanBound; omega) fin
  · obtain ⟨its, rv, pt, hz⟩ := I.tuple hq
    exact call_set_tupI ns hd pt (ints_of_vals rv) (by unfold scanBound; omega) fin
section
variable {z : Z} {o o1 : Own} {D' : Ends} {G G1 H : Hp} {e : Env} {p : Pen} {σ : L2.St} {a b : Expr} {ma mb : M D} {pos : Pos}
/-- sorted(set(e)), of ints -/
def dSortSet (x : D) : Option D := (dSeq x).bind fun xs => (toInts xs).bind fun l => if l.length < 64 then some (.lst ((setI l).map D.int)) else none
theorem me_sortSet {p1 p2 q1 : Pos} (hc : z.X.calm = true) (hm : z.X.mg "sorted" = none) (hm2 : z.X.mg "set" = none) (ha : ME z o .bor a ma) (hg : Gl z.X "sorted" := by rfl) (hg2 : Gl z.X "set" := by rfl)
    (hs : starEach (a :: []) z.X.env = (false, eval a z.X.env) :: starEach [] z.X.env := by rfl) (hs2 : starEach (.Call (.Name "set" p2) [a] [] q1 :: []) z.X.env = (false, eval (.Call (.Name "set" p2) [a] [] q1) z.X.env) :: starEach [] z.X.env := by rfl) :
    ME z o .fre (.Call (.Name "sorted" p1) [.Call (.Name "set" p2) [a] [] q1] [] pos) (mUn dSortSet ma) :=
  PE.imp (pe_callB (cr_sortedSet hc) hg hm PyProof.Rows.boot_sorted (pa_cons (pe_callTy (call_setI hc) hg2 hm2 PyProof.Rows.boot_set (pa_cons ha pa_nil hs) (by decide) (by decide) hs) pa_nil hs2) (by decide) (by decide) hs2) fun σ H Q ⟨G, e, p, S, q⟩ => by
    unfold mUn at q
    rw [Cont.bind] at q
    refine ⟨G, e, p, S, q.mono (fun d p1 k v G1 H1 s1 S1 l => ?_) fun x p' k => k⟩
    obtain ⟨d', hd, k'⟩ := k.lift
    unfold dSortSet at hd
    obtain ⟨xs, h1, h2⟩ := Option.bind_eq_some_iff.mp hd
    obtain ⟨ns, h3, h4⟩ := Option.bind_eq_some_iff.mp h2
    split at h4
    · rename_i hl
      cases h4
      have sq : ∃ t, v = .ref t ∧ (SqL z.X.K H1 t (ns.map V.int) ∨ SqT z.X.K H1 t (ns.map V.int)) := by
        cases d with
        | lst ds =>
          cases h1
          obtain ⟨t, vs, rfl, g1, g2⟩ := Lies.lst S1 l
          exact ⟨t, rfl, .inl (by rw [← g2.toInts h3]; exact SqL.of g1)⟩
        | tup ds =>
          cases h1
          obtain ⟨t, vs, rfl, g1, g2⟩ := l.tupG
          exact ⟨t, rfl, .inr (by rw [← g2.toInts h3]; exact SqT.of (S1.b.gh _ _ g1))⟩
        | _ => cases h1
      obtain ⟨t, rfl, sq⟩ := sq
      refine ⟨t, ns, rfl, sq, by omega, fun pp c hp hcn => ⟨pp, _, c, rfl, upd_same, by omega, fun ms q2 hlt hmem _ hq => ?_⟩⟩
      have e1 : ms = setI ns := lt_one hlt (setI_lt ns) fun k => by rw [hmem k, mem_setI, decide_eq_true_eq]
      rw [e1]
      have S2 := S1.newH (u := SetO z.X.w pp (fun j => decide (j ∈ ns)) c) hp
      obtain ⟨S3, r3⟩ := lies_new S2 hq (Reps.ints (K := z.X.K) (ca := z.c.ca) (G := G1) (setI ns))
      exact k' _ G1 _ s1 S3 r3
    · cases h4
theorem mss_stuck {sts : List Stmt} : MSs z o sts (fun _ _ => .stuck) o1 := ⟨fun pins s σ H D I ⟨G, e, p, S, q⟩ => q.elim⟩
end
end Mz
/-! Mo, part e: what __init__ makes does not hang on where it lies. -/
namespace Mz
open PySem PySem.Spec PyProof.Rows L2
def SimI (x : Addr) : SFI → SFI → Prop
  | .next fs1 e1 p1, .next fs2 e2 p2 => fs1 = fs2 ∧ p1 = p2 ∧ ∃ r, e1 = some (.ref x) :: r ∧ e2 = some (.ref 0) :: r
  | .err x1 p1, .err x2 p2 => x1 = x2 ∧ p1 = p2
  | .stuck, .stuck => True
  | _, _ => False
def SimS (x : Addr) : SF → SF → Prop
  | .next e1 p1, .next e2 p2 => p1 = p2 ∧ ∃ r, e1 = some (.ref x) :: r ∧ e2 = some (.ref 0) :: r
  | .err x1 _ p1, .err x2 _ p2 => x1 = x2 ∧ p1 = p2
  | .ret d1 p1, .ret d2 p2 => d1 = d2 ∧ p1 = p2
  | .brk _ _, .brk _ _ => True
  | .cnt _ _, .cnt _ _ => True
  | .stuck, .stuck => True
  | _, _ => False
def IndI (a : Addr → IS) : Prop := ∀ x fs r p, SimI x (a x fs (some (.ref x) :: r) p) (a 0 fs (some (.ref 0) :: r) p)
def IndS (a : MS) : Prop := ∀ x r p, SimS x (a (some (.ref x) :: r) p) (a (some (.ref 0) :: r) p)
theorem ind_nil : IndI fun _ => iNil := fun x fs r p => ⟨rfl, rfl, r, rfl, rfl⟩
theorem ind_cat {a b : Addr → IS} (ha : IndI a) (hb : IndI b) : IndI fun x => iCat (a x) (b x) := fun x fs r p => by
  have h := ha x fs r p
  show SimI x (match a x fs (some (.ref x) :: r) p with
    | .next fs e p => b x fs e p
    | .err x p => .err x p
    | .stuck => .stuck) (match a 0 fs (some (.ref 0) :: r) p with
    | .next fs e p => b 0 fs e p
    | .err x p => .err x p
    | .stuck => .stuck)
  generalize a x fs (some (.ref x) :: r) p = u at h ⊢
  generalize a 0 fs (some (.ref 0) :: r) p = v at h ⊢
  cases u <;> cases v <;> first | exact h.elim | exact h | skip
  obtain ⟨rfl, rfl, r', rfl, rfl⟩ := h
  exact hb x _ r' _
theorem ind_fld {f : Str} {m : Addr → List (Str × D) → M D} (h : ∀ x fs r p, m x fs (some (.ref x) :: r) p = m 0 fs (some (.ref 0) :: r) p) : IndI fun x => iFld x f (m x) := fun x fs r p => by
  show SimI x (iFld x f (m x) fs (some (.ref x) :: r) p) (iFld 0 f (m 0) fs (some (.ref 0) :: r) p)
  unfold iFld
  rw [h x fs r p]
  cases m 0 fs (some (.ref 0) :: r) p with
  | ok d p =>
    simp only [List.getElem?_cons_zero]
    by_cases hl : fs.length < 1000
    · simp only [if_true, hl, true_and]; exact ⟨rfl, rfl, r, rfl, rfl⟩
    · simp only [if_true, hl, true_and, and_false, if_false]; trivial
  | err ex p => exact ⟨rfl, rfl⟩
  | stuck => trivial
theorem ind_stm {a : MS} (h : IndS a) : IndI fun _ => iStm a := fun x fs r p => by
  have h := h x r p
  show SimI x (match a (some (.ref x) :: r) p with
    | .next e p => .next fs e p
    | .err x _ p => .err x p
    | _ => .stuck) (match a (some (.ref 0) :: r) p with
    | .next e p => .next fs e p
    | .err x _ p => .err x p
    | _ => .stuck)
  generalize a (some (.ref x) :: r) p = u at h ⊢
  generalize a (some (.ref 0) :: r) p = v at h ⊢
  cases u <;> cases v <;> first | exact h.elim | (obtain ⟨rfl, r', rfl, rfl⟩ := h; exact ⟨rfl, rfl, r', rfl, rfl⟩) | exact h | trivial
theorem inds_next : IndS sNext := fun x r p => ⟨rfl, r, rfl, rfl⟩
theorem inds_seq {a b : MS} (ha : IndS a) (hb : IndS b) : IndS (sSeq a b) := fun x r p => by
  have h := ha x r p
  unfold sSeq
  generalize a (some (.ref x) :: r) p = u at h ⊢
  generalize a (some (.ref 0) :: r) p = v at h ⊢
  cases u <;> cases v <;> first | exact h.elim | exact h | trivial | skip
  obtain ⟨rfl, r', rfl, rfl⟩ := h
  exact hb x r' _
theorem inds_if {t : M Bool} {a b : MS} (ht : ∀ x r p, t (some (.ref x) :: r) p = t (some (.ref 0) :: r) p) (ha : IndS a) (hb : IndS b) : IndS (sIf t a b) := fun x r p => by
  unfold sIf
  rw [ht x r p]
  cases t (some (.ref 0) :: r) p with
  | ok v p => cases v; exact hb x r p; exact ha x r p
  | err ex p => exact ⟨rfl, rfl⟩
  | stuck => trivial
theorem inds_raise {n : Nat} {fs : List Str} {m : M (List D)} (hm : ∀ x r p, m (some (.ref x) :: r) p = m (some (.ref 0) :: r) p) : IndS (sRaise n fs m) := fun x r p => by
  unfold sRaise
  rw [hm x r p]
  cases m (some (.ref 0) :: r) p with
  | ok v p =>
    show SimS x (if v.length = fs.length then _ else _) (if v.length = fs.length then _ else _)
    by_cases h : v.length = fs.length
    · rw [if_pos h, if_pos h]; exact ⟨rfl, rfl⟩
    · rw [if_neg h, if_neg h]; trivial
  | err ex p => exact ⟨rfl, rfl⟩
  | stuck => trivial
theorem inds_set {i : Nat} {m : M D} (hm : ∀ x r p, m (some (.ref x) :: r) p = m (some (.ref 0) :: r) p) : IndS (sSet (i + 1) m) := fun x r p => by
  unfold sSet
  rw [hm x r p]
  cases m (some (.ref 0) :: r) p with
  | ok v p => exact ⟨rfl, r.set i (some v), rfl, rfl⟩
  | err ex p => exact ⟨rfl, rfl⟩
  | stuck => trivial
theorem inds_expr {m : M D} (hm : ∀ x r p, m (some (.ref x) :: r) p = m (some (.ref 0) :: r) p) : IndS (sExpr m) := fun x r p => by
  unfold sExpr
  rw [hm x r p]
  cases m (some (.ref 0) :: r) p with
  | ok v p => exact ⟨rfl, r, rfl, rfl⟩
  | err ex p => exact ⟨rfl, rfl⟩
  | stuck => trivial
theorem ind_fi {N : Nat} {b : Addr → IS} (h : IndI b) (x : Addr) (ds : List D) (p : Pen) : fiOf N b x ds p = fiOf N b 0 ds p := by
  have h := h x [] (ds.map some ++ List.replicate (N - (ds.length + 1)) none) p
  unfold fiOf
  generalize b x [] (some (.ref x) :: (ds.map some ++ List.replicate (N - (ds.length + 1)) none)) p = u at h ⊢
  generalize b 0 [] (some (.ref 0) :: (ds.map some ++ List.replicate (N - (ds.length + 1)) none)) p = v at h ⊢
  cases u <;> cases v <;> first | exact h.elim | (obtain ⟨rfl, rfl⟩ := h; rfl) | (obtain ⟨rfl, rfl, _⟩ := h; rfl) | rfl
end Mz
/-! Mn, part a: denotations read as plain functions. -/
namespace Mz
open PySem L2 PyProof
/-! ### the words, opened by simp -/
section
variable {e : Env} {p : Pen} {α : Type}
@[simp] theorem x_mVar (i : Nat) : mVar i e p = match e[i]? with | some (some d) => .ok d p | _ => .stuck := rfl
@[simp] theorem x_mC (d : D) : mC d e p = .ok d p := rfl
@[simp] theorem x_mBin (f : D → D → Option D) (a b : M D) : mBin f a b e p = (a e p).bind fun x p => (b e p).bind fun y p => lift (f x y) p := rfl
@[simp] theorem x_mUn (f : D → Option D) (a : M D) : mUn f a e p = (a e p).bind fun x p => lift (f x) p := rfl
@[simp] theorem x_tTru (m : M D) : tTru m e p = (m e p).bind fun d p => lift (dTru d) p := rfl
@[simp] theorem x_tBl (m : M D) : tBl m e p = (m e p).bind fun d p => match d with | .bl b => .ok b p | _ => .stuck := rfl
@[simp] theorem x_tNotM (t : M Bool) : tNotM t e p = (t e p).bind fun b p => .ok (!b) p := rfl
@[simp] theorem x_tAndM (t u : M Bool) : tAndM t u e p = (t e p).bind fun b p => if b then u e p else .ok false p := rfl
@[simp] theorem x_tOrM (t u : M Bool) : tOrM t u e p = (t e p).bind fun b p => if b then .ok true p else u e p := rfl
@[simp] theorem x_mAndM (x y : M D) : mAndM x y e p = (x e p).bind fun d p => match d with | .bl b => if b then y e p else .ok (.bl false) p | _ => .stuck := rfl
@[simp] theorem x_mOrM (x y : M D) : mOrM x y e p = (x e p).bind fun d p => match d with | .bl b => if b then .ok (.bl true) p else y e p | _ => .stuck := rfl
@[simp] theorem x_mNotM (x : M D) : mNotM x e p = (x e p).bind fun d p => match d with | .bl b => .ok (.bl (!b)) p | _ => .stuck := rfl
@[simp] theorem x_mIf (t : M Bool) (x y : M D) : mIf t x y e p = (t e p).bind fun b p => if b then x e p else y e p := rfl
@[simp] theorem x_mChain (f g : D → D → Option D) (x y w : M D) : mChain f g x y w e p = (x e p).bind fun dx p => (y e p).bind fun dy p => match f dx dy with
    | some (.bl true) => (w e p).bind fun dw p => lift (g dy dw) p
    | some (.bl false) => .ok (.bl false) p
    | _ => .stuck := rfl
@[simp] theorem x_maNil : maNil e p = .ok [] p := rfl
@[simp] theorem x_maCons (m : M D) (r : M (List D)) : maCons m r e p = (m e p).bind fun d p => (r e p).bind fun ds p => .ok (d :: ds) p := rfl
@[simp] theorem x_maConsO (f : Bool) (m : M D) (r : M (List D)) : maConsO f m r e p = (m e p).bind fun d p => if f && isRefD d then .stuck else (r e p).bind fun ds p => .ok (d :: ds) p := rfl
@[simp] theorem x_mTup (m : M (List D)) : mTup m e p = (m e p).bind fun ds p => if ds.length ≤ sizeLine then .ok (.tup ds) p else .stuck := rfl
@[simp] theorem x_mLst (m : M (List D)) : mLst m e p = (m e p).bind fun ds p => if ds.length ≤ sizeLine then .ok (.lst ds) p else .stuck := rfl
@[simp] theorem x_moNone : moNone e p = .ok none p := rfl
@[simp] theorem x_moSome (m : M D) : moSome m e p = (m e p).bind fun d p => match d with | .int i => .ok (some i) p | _ => .stuck := rfl
@[simp] theorem x_mSl (a : M D) (l h : M (Option Int)) : mSl a l h e p = (a e p).bind fun x p => (l e p).bind fun lo p => (h e p).bind fun hi p => lift (dSl x lo hi) p := rfl
@[simp] theorem x_mCall (f : Fd) (m : M (List D)) : mCall f m e p = (m e p).bind fun ds p => f ds p := rfl
@[simp] theorem x_miSeq (m : M D) : miSeq m e p = (m e p).bind fun d p => lift (dSeq d) p := rfl
@[simp] theorem x_miEnum (m : M D) : miEnum m e p = (m e p).bind fun d p => lift ((dSeq d).map enumD) p := rfl
theorem x_miRng1 (m : M D) : miRng1 m e p = (m e p).bind fun d p => match d with
  | .int j => if -(2 ^ 62) ≤ j ∧ j < 2 ^ 62 then .ok (rngD 0 j.toNat) p else .stuck
  | _ => .stuck := rfl
@[simp] theorem x_mLc (mi : M (List D)) (g : GT) (t : M Bool) (m : M D) (vs : List Nat) : mLc mi g t m vs e p = (mi e p).bind fun ds p => lcGo g t m (wipeE e vs) ds [] p := rfl
@[simp] theorem x_tYesM : tYesM e p = .ok true p := rfl
@[simp] theorem x_sNext : sNext e p = .next e p := rfl
@[simp] theorem x_sSeq (a b : MS) : sSeq a b e p = (a e p).bind b := rfl
@[simp] theorem x_sExpr (m : M D) : sExpr m e p = (m e p).st e fun _ p => .next e p := rfl
@[simp] theorem x_sRet (m : M D) : sRet m e p = (m e p).st e fun d p => .ret d p := rfl
@[simp] theorem x_sIf (t : M Bool) (x y : MS) : sIf t x y e p = (t e p).st e fun b p => if b then x e p else y e p := rfl
@[simp] theorem x_sSet (i : Nat) (m : M D) : sSet i m e p = (m e p).st e fun d p => .next (e.set i (some d)) p := rfl
@[simp] theorem x_sAsg (g : GT) (m : M D) : sAsg g m e p = (m e p).st e fun d p => match g d e with | some e' => .next e' p | none => .stuck := rfl
@[simp] theorem x_sFor (m : M (List D)) (g : GT) (b : MS) : sFor m g b e p = (m e p).st e fun ds p => mFor g b ds e p := rfl
@[simp] theorem x_sRaise (n : Nat) (fs : List Str) (m : M (List D)) : sRaise n fs m e p = (m e p).st e fun ds p => if ds.length = fs.length then .err ⟨n, fs.zip ds⟩ e p else .stuck := rfl
@[simp] theorem x_sApp (j : Nat) (m : M D) : sApp j m e p = match e[j]? with
  | some (some (.lst ds)) => (m e p).st e fun d p => if ds.length < sizeLine then .next (e.set j (some (.lst (ds ++ [d])))) p else .stuck
  | _ => .stuck := rfl
@[simp] theorem x_mPen (i : Nat) (k : PK) : mPen i k e p = match e[i]? with | some (some D.pen) => .ok (penG k p) p | _ => .stuck := rfl
@[simp] theorem x_sPen (i : Nat) (k : PK) (m : M D) : sPen i k m e p = (m e p).st e fun d p => match e[i]?, d with
  | some (some D.pen), D.int n => .next e (penS k n p)
  | _, _ => .stuck := rfl
@[simp] theorem x_sParN (is : List Nat) (m : M (List D)) : sParN is m e p = (m e p).st e fun ds p => if ds.length = is.length ∧ is.length ≤ sizeLine ∧ (is.all fun i => decide (i < e.length)) = true then .next (setE e is ds) p else .stuck := rfl
@[simp] theorem x_sSetAt (j : Nat) (mi : M D) (d : D) : sSetAt j mi d e p = match e[j]? with
  | some (some (.lst ds)) => (mi e p).st e fun di p => match di with
    | .int k => match ixN ds.length k with
      | some n => .next (e.set j (some (.lst (ds.set n d)))) p
      | none => .stuck
    | _ => .stuck
  | _ => .stuck := rfl
@[simp] theorem x_sSet2 (j : Nat) (m : M (List D)) (m1 m2 : M D) : sSet2 j m m1 m2 e p = (m e p).st e fun ds p => match ds with
  | [d1, d2] => (sSetAt j m1 d1 e p).bind fun e p => sSetAt j m2 d2 e p
  | _ => .stuck := rfl
@[simp] theorem x_sPopSet (i j : Nat) : sPopSet i j e p = match e[j]? with
  | some (some (.lst ds)) => match ds.getLast? with
    | some d => .next ((e.set j (some (.lst ds.dropLast))).set i (some d)) p
    | none => .stuck
  | _ => .stuck := rfl
theorem fdOf_eq (n : Nat) (b : MS) (ds : List D) : fdOf n b ds p = match b (ds.map some ++ List.replicate (n - ds.length) none) p with
  | .next _ p' => .ok .non p'
  | .ret d p' => .ok d p'
  | .err x _ p' => .err x p'
  | _ => .stuck := by
  unfold fdOf
  rfl
end
@[simp] theorem penG_cells (p : Pen) : penG .cells p = .lst (p.cells.map .int) := rfl
@[simp] theorem penG_at (p : Pen) : penG .at_ p = .int p.at_ := rfl
@[simp] theorem penG_digits (p : Pen) : penG .digits p = .int p.digits := rfl
@[simp] theorem penG_count (p : Pen) : penG .count p = .int p.count := rfl
@[simp] theorem penG_fold (p : Pen) : penG .fold p = .int p.fold := rfl
@[simp] theorem penS_at (i : Int) (p : Pen) : penS .at_ i p = { p with at_ := i } := rfl
@[simp] theorem penS_digits (i : Int) (p : Pen) : penS .digits i p = { p with digits := i } := rfl
@[simp] theorem penS_count (i : Int) (p : Pen) : penS .count i p = { p with count := i } := rfl
@[simp] theorem penS_fold (i : Int) (p : Pen) : penS .fold i p = { p with fold := i } := rfl
@[simp] theorem x_gtName (i : Nat) (d : D) (e : Env) : gtName i d e = some (e.set i (some d)) := rfl
@[simp] theorem x_gtNil (e : Env) : gtNil [] e = some e := rfl
@[simp] theorem x_gtCons (g : GT) (r : GTs) (d : D) (ds : List D) (e : Env) : gtCons g r (d :: ds) e = (g d e).bind fun e => r ds e := rfl
@[simp] theorem x_gtTup (g : GTs) (ds : List D) (e : Env) : gtTup g (.tup ds) e = g ds e := rfl

/-! ### the data functions -/
@[simp] theorem v_dLt (i j : Int) : dLt (.int i) (.int j) = some (.bl (decide (i < j))) := rfl
@[simp] theorem v_dLe (i j : Int) : dLe (.int i) (.int j) = some (.bl (decide (i ≤ j))) := rfl
@[simp] theorem v_dGt (i j : Int) : dGt (.int i) (.int j) = some (.bl (decide (j < i))) := rfl
@[simp] theorem v_dGe (i j : Int) : dGe (.int i) (.int j) = some (.bl (decide (j ≤ i))) := rfl
@[simp] theorem v_dSub (i j : Int) : dSub (.int i) (.int j) = some (.int (i - j)) := rfl
@[simp] theorem v_dAdd (i j : Int) : dAdd (.int i) (.int j) = some (.int (i + j)) := rfl
@[simp] theorem v_dAddL (a b : List D) : dAdd (.lst a) (.lst b) = if a.length + b.length ≤ sizeLine then some (.lst (a ++ b)) else none := rfl
@[simp] theorem v_dAddT (a b : List D) : dAdd (.tup a) (.tup b) = if a.length + b.length ≤ sizeLine then some (.tup (a ++ b)) else none := rfl
theorem v_dMul (i j : Int) : dMul (.int i) (.int j) = if (-(2 ^ 64) < i ∧ i < 2 ^ 64) ∨ (-(2 ^ 64) < j ∧ j < 2 ^ 64) then some (.int (i * j)) else none := rfl
theorem v_dMulL (a : List D) (k : Int) : dMul (.lst a) (.int k) = if -(2 ^ 63) ≤ k ∧ k < 2 ^ 63 ∧ a.length * k.toNat ≤ sizeLine then some (.lst (List.replicate k.toNat a).flatten) else none := rfl
@[simp] theorem v_dMod (i j : Int) : dMod (.int i) (.int j) = if 0 < j then some (.int (i % j)) else none := rfl
@[simp] theorem v_dDiv (i j : Int) : dDiv (.int i) (.int j) = if 0 < j ∧ j < 1073741824 then some (.int (i / j)) else none := rfl
theorem v_dPow (i j : Int) : dPow (.int i) (.int j) = if 0 ≤ j ∧ j ≤ 1000000 ∧ i.natAbs < 2 ^ 64 then some (.int (i ^ j.toNat)) else none := rfl
@[simp] theorem v_dNeg (i : Int) : dNeg (.int i) = some (.int (-i)) := rfl
@[simp] theorem v_dAbs (i : Int) : dAbs (.int i) = some (.int (if i < 0 then -i else i)) := rfl
@[simp] theorem v_dInt (i : Int) : dInt (.int i) = some (.int i) := rfl
@[simp] theorem v_dLenL (xs : List D) : dLen (.lst xs) = some (.int xs.length) := rfl
@[simp] theorem v_dLenT (xs : List D) : dLen (.tup xs) = some (.int xs.length) := rfl
@[simp] theorem v_dListL (xs : List D) : dList (.lst xs) = some (.lst xs) := rfl
@[simp] theorem v_dListT (xs : List D) : dList (.tup xs) = some (.lst xs) := rfl
@[simp] theorem v_dTupleL (xs : List D) : dTuple (.lst xs) = some (.tup xs) := rfl
@[simp] theorem v_dTupleT (xs : List D) : dTuple (.tup xs) = some (.tup xs) := rfl
@[simp] theorem v_dIxL (xs : List D) (i : Int) : dIx (.lst xs) (.int i) = atI xs i := rfl
@[simp] theorem v_dIxT (xs : List D) (i : Int) : dIx (.tup xs) (.int i) = atI xs i := rfl
@[simp] theorem v_dSlL (xs : List D) (lo hi : Option Int) : dSl (.lst xs) lo hi = some (.lst (cutD xs lo hi)) := rfl
@[simp] theorem v_dSlT (xs : List D) (lo hi : Option Int) : dSl (.tup xs) lo hi = some (.tup (cutD xs lo hi)) := rfl
@[simp] theorem v_dTruB (b : Bool) : dTru (.bl b) = some b := rfl
@[simp] theorem v_dSeqL (xs : List D) : dSeq (.lst xs) = some xs := rfl
@[simp] theorem v_dSeqT (xs : List D) : dSeq (.tup xs) = some xs := rfl
@[simp] theorem v_dRev (xs : List D) : dRev (.lst xs) = some (.lst xs.reverse) := rfl
@[simp] theorem v_dIsN (x : D) : dIsN x .non = some (.bl (isNonD x)) := rfl
@[simp] theorem v_dNotN (x : D) : dNotN x .non = some (.bl (!isNonD x)) := rfl
@[simp] theorem v_isNonN : isNonD .non = true := rfl
@[simp] theorem v_isNonT (xs : List D) : isNonD (.tup xs) = false := rfl
@[simp] theorem v_isNonL (xs : List D) : isNonD (.lst xs) = false := rfl
@[simp] theorem v_isNonI (i : Int) : isNonD (.int i) = false := rfl
theorem atI_nat {α : Type} (xs : List α) (k : Nat) : atI xs (k : Int) = xs[k]? := by
  unfold atI ixN
  by_cases h : k < xs.length
  · rw [if_pos (Int.natCast_nonneg k), if_pos (by omega)]
    rfl
  · rw [if_pos (Int.natCast_nonneg k), if_neg (by omega), List.getElem?_eq_none (by omega)]
    rfl
theorem atI_neg1 {α : Type} (xs : List α) : atI xs (-1) = xs.getLast? := by
  unfold atI ixN
  rw [if_neg (by decide), List.getLast?_eq_getElem?]
  cases xs with
  | nil => rfl
  | cons x r =>
    rw [if_pos (by simp only [List.length_cons]; omega)]
    show (x :: r)[(-1 + ((x :: r).length : Int)).toNat]? = _
    congr 1
    simp only [List.length_cons]
    omega
theorem cut_le (xs : List D) (k : Nat) : cutD xs none (some (k : Int)) = xs.take k := by
  unfold cutD
  rw [HT.sIx_none, HT.sIx_nat, List.drop_zero, Nat.sub_zero]
  by_cases h : k ≤ xs.length
  · rw [Nat.min_eq_left h]
  · rw [Nat.min_eq_right (by omega), List.take_of_length_le (Nat.le_refl _), List.take_of_length_le (by omega)]
theorem cut_ge (xs : List D) (k : Nat) : cutD xs (some (k : Int)) none = xs.drop k := by
  unfold cutD
  rw [HT.sIx_none, HT.sIx_nat]
  by_cases h : k ≤ xs.length
  · rw [Nat.min_eq_left h, List.take_of_length_le (by rw [List.length_drop]; omega)]
  · rw [Nat.min_eq_right (by omega), List.drop_of_length_le (Nat.le_refl _), List.drop_of_length_le (by omega)]
    simp
theorem cut_mid (xs : List D) (j k : Nat) : cutD xs (some (j : Int)) (some (k : Int)) = (xs.take k).drop j := by
  unfold cutD
  rw [HT.sIx_nat, HT.sIx_nat, List.drop_take]
  by_cases hj : j ≤ xs.length
  · rw [Nat.min_eq_left hj]
    by_cases hk : k ≤ xs.length
    · rw [Nat.min_eq_left hk]
    · rw [Nat.min_eq_right (by omega), List.take_of_length_le (by rw [List.length_drop]; omega), List.take_of_length_le (by rw [List.length_drop]; omega)]
  · rw [Nat.min_eq_right (by omega : xs.length ≤ j), List.drop_of_length_le (Nat.le_refl _), List.drop_of_length_le (by omega)]
    simp
theorem cut_neg1 (xs : List D) : cutD xs none (some (-1)) = xs.dropLast := by
  unfold cutD
  rw [HT.sIx_none, List.drop_zero, Nat.sub_zero, List.dropLast_eq_take]
  congr 1
  simp only [HT.sIx]
  rw [if_pos (by decide)]
  omega

/-! ### equality of data -/
mutual
def D.same : D → D → Bool
  | .non, .non => true
  | .bl a, .bl b => a == b
  | .int a, .int b => a == b
  | .bl a, .int b => (if a then 1 else 0) == b
  | .int a, .bl b => a == (if b then 1 else 0)
  | .str a, .str b => a == b
  | .tup a, .tup b => D.sames a b
  | .lst a, .lst b => D.sames a b
  | _, _ => false
def D.sames : List D → List D → Bool
  | [], [] => true
  | a :: as, b :: bs => D.same a b && D.sames as bs
  | _, _ => false
end
mutual
/-- only data; texts may be compared -/
def D.plain : D → Bool
  | .non | .bl _ | .int _ => true
  | .str x => PySem.PyData.strOk x
  | .tup xs | .lst xs => D.plains xs
  | _ => false
def D.plains : List D → Bool
  | [] => true
  | x :: xs => D.plain x && D.plains xs
end
mutual
def D.deep : D → Nat
  | .tup xs | .lst xs => D.deeps xs + 1
  | _ => 0
def D.deeps : List D → Nat
  | [] => 0
  | x :: xs => max (D.deep x) (D.deeps xs)
end
mutual
theorem py_plain : ∀ {d : D}, d.plain = true → ∃ y, d.py = some y ∧ y.canLay0 = true ∧ y.depth = d.deep
  | .non, _ => ⟨PyData.none, by simp only [D.py], by simp [PyData.canLay0], by simp [PyData.depth, D.deep]⟩
  | .bl b, _ => ⟨.bool b, by simp only [D.py], by simp [PyData.canLay0], by simp [PyData.depth, D.deep]⟩
  | .int b, _ => ⟨.int b, by simp only [D.py], by simp [PyData.canLay0], by simp [PyData.depth, D.deep]⟩
  | .str b, h => ⟨.str b, by simp only [D.py], by simpa [PyData.canLay0, D.plain] using h, by simp [PyData.depth, D.deep]⟩
  | .tup xs, h => by
    obtain ⟨l, h1, h2, h3⟩ := pys_plain (xs := xs) (by simpa [D.plain] using h)
    exact ⟨.tuple l, by simp only [D.py, h1], by simpa [PyData.canLay0] using h2, by simp [PyData.depth, D.deep, h3]⟩
  | .lst xs, h => by
    obtain ⟨l, h1, h2, h3⟩ := pys_plain (xs := xs) (by simpa [D.plain] using h)
    exact ⟨.list l, by simp only [D.py, h1], by simpa [PyData.canLay0] using h2, by simp [PyData.depth, D.deep, h3]⟩
theorem pys_plain : ∀ {xs : List D}, D.plains xs = true → ∃ l, D.pys xs = some l ∧ PyData.canLayAll0 l = true ∧ PyData.depthAll l = D.deeps xs
  | [], _ => ⟨[], by simp only [D.pys], by simp [PyData.canLayAll0], by simp [PyData.depthAll, D.deeps]⟩
  | x :: xs, h => by
    simp only [D.plains, Bool.and_eq_true] at h
    obtain ⟨y, a1, a2, a3⟩ := py_plain h.1
    obtain ⟨l, b1, b2, b3⟩ := pys_plain h.2
    exact ⟨y :: l, by simp only [D.pys, a1, b1], by simp [PyData.canLayAll0, a2, b2], by simp [PyData.depthAll, D.deeps, a3, b3]⟩
end
mutual
theorem py_same : ∀ {a b : D} {x y : PyData}, a.py = some x → b.py = some y → PyData.eqv x y = D.same a b
  | .non, b, x, y, ha, hb => by simp only [D.py] at ha; cases ha; cases b <;> simp only [D.py] at hb <;> (try (split at hb)) <;> cases hb <;> simp [PyData.eqv, D.same]
  | .bl _, b, x, y, ha, hb => by simp only [D.py] at ha; cases ha; cases b <;> simp only [D.py] at hb <;> (try (split at hb)) <;> cases hb <;> simp [PyData.eqv, D.same]
  | .int _, b, x, y, ha, hb => by simp only [D.py] at ha; cases ha; cases b <;> simp only [D.py] at hb <;> (try (split at hb)) <;> cases hb <;> simp [PyData.eqv, D.same]
  | .str _, b, x, y, ha, hb => by simp only [D.py] at ha; cases ha; cases b <;> simp only [D.py] at hb <;> (try (split at hb)) <;> cases hb <;> simp [PyData.eqv, D.same]
  | .tup xs, b, x, y, ha, hb => by
    simp only [D.py] at ha
    split at ha
    · rename_i l hl
      cases ha
      cases b with
      | tup ys =>
        simp only [D.py] at hb
        split at hb
        · rename_i m hm
          cases hb
          simp only [PyData.eqv, D.same]
          exact pys_same hl hm
        · cases hb
      | _ => simp only [D.py] at hb <;> (try (split at hb)) <;> cases hb <;> simp [PyData.eqv, D.same]
    · cases ha
  | .lst xs, b, x, y, ha, hb => by
    simp only [D.py] at ha
    split at ha
    · rename_i l hl
      cases ha
      cases b with
      | lst ys =>
        simp only [D.py] at hb
        split at hb
        · rename_i m hm
          cases hb
          simp only [PyData.eqv, D.same]
          exact pys_same hl hm
        · cases hb
      | _ => simp only [D.py] at hb <;> (try (split at hb)) <;> cases hb <;> simp [PyData.eqv, D.same]
    · cases ha
  | .ty _, _, _, _, ha, _ => by simp only [D.py] at ha; cases ha
  | .dK _, _, _, _, ha, _ => by simp only [D.py] at ha; cases ha
  | .dT _, _, _, _, ha, _ => by simp only [D.py] at ha; cases ha
  | .ins _ _, _, _, _, ha, _ => by simp only [D.py] at ha; cases ha
  | .clo _, _, _, _, ha, _ => by simp only [D.py] at ha; cases ha
  | .pen, _, _, _, ha, _ => by simp only [D.py] at ha; cases ha
  | .ref _, _, _, _, ha, _ => by simp only [D.py] at ha; cases ha
theorem pys_same : ∀ {a b : List D} {x y : List PyData}, D.pys a = some x → D.pys b = some y → PyData.eqvAll x y = D.sames a b
  | [], [], x, y, ha, hb => by simp only [D.pys] at ha hb; cases ha; cases hb; simp [PyData.eqvAll, D.sames]
  | [], b :: bs, x, y, ha, hb => by
    simp only [D.pys] at ha hb
    cases ha
    split at hb
    · split at hb
      · cases hb; simp [PyData.eqvAll, D.sames]
      · cases hb
    · cases hb
  | a :: as, [], x, y, ha, hb => by
    simp only [D.pys] at ha hb
    cases hb
    split at ha
    · split at ha
      · cases ha; simp [PyData.eqvAll, D.sames]
      · cases ha
    · cases ha
  | a :: as, b :: bs, x, y, ha, hb => by
    simp only [D.pys] at ha hb
    split at ha
    · rename_i x1 e1
      split at ha
      · rename_i x2 e2
        cases ha
        split at hb
        · rename_i y1 f1
          split at hb
          · rename_i y2 f2
            cases hb
            simp only [PyData.eqvAll, D.sames]
            rw [py_same e1 f1, pys_same e2 f2]
          · cases hb
        · cases hb
      · cases ha
    · cases ha
end
/-- may be compared, told by the tree alone -/
abbrev D.cmp (d : D) : Prop := d.plain = true ∧ d.deep ≤ 64
theorem okE_of {d : D} (h : d.cmp) : d.okE = true := by
  obtain ⟨y, h1, h2, h3⟩ := py_plain h.1
  unfold D.okE
  rw [h1]
  show (y.canLay0 && decide (y.depth ≤ 64)) = true
  rw [h2, h3]
  simpa using h.2
theorem eqD_of {a b : D} (ha : a.plain = true) (hb : b.plain = true) : D.eqD a b = D.same a b := by
  obtain ⟨x, h1, _⟩ := py_plain ha
  obtain ⟨y, h2, _⟩ := py_plain hb
  unfold D.eqD
  rw [h1, h2]
  exact py_same h1 h2
theorem dEq_of {a b : D} (ha : a.cmp) (hb : b.cmp) : dEq a b = some (.bl (D.same a b)) := by
  unfold dEq
  rw [okE_of ha, okE_of hb, eqD_of ha.1 hb.1]
  rfl
theorem dNe_of {a b : D} (ha : a.cmp) (hb : b.cmp) : dNe a b = some (.bl (!D.same a b)) := by
  unfold dNe
  rw [okE_of ha, okE_of hb, eqD_of ha.1 hb.1]
  rfl
mutual
theorem same_self : ∀ {d : D}, d.plain = true → D.same d d = true
  | .non, _ => by simp [D.same]
  | .bl _, _ => by simp [D.same]
  | .int _, _ => by simp [D.same]
  | .str _, _ => by simp [D.same]
  | .tup xs, h => by simp only [D.same]; exact sames_self (by simpa [D.plain] using h)
  | .lst xs, h => by simp only [D.same]; exact sames_self (by simpa [D.plain] using h)
theorem sames_self : ∀ {xs : List D}, D.plains xs = true → D.sames xs xs = true
  | [], _ => by simp [D.sames]
  | x :: xs, h => by
    simp only [D.plains, Bool.and_eq_true] at h
    simp only [D.sames, same_self h.1, sames_self h.2, Bool.and_self]
end
theorem plains_all : ∀ {xs : List D}, D.plains xs = xs.all D.plain
  | [] => by simp [D.plains]
  | x :: xs => by simp only [D.plains, List.all_cons]; rw [plains_all]
theorem deeps_le {n : Nat} : ∀ {xs : List D}, D.deeps xs ≤ n ↔ ∀ x ∈ xs, x.deep ≤ n
  | [] => by simp [D.deeps]
  | x :: xs => by simp only [D.deeps, Nat.max_le, List.mem_cons, forall_eq_or_imp]; rw [deeps_le]
abbrev dis (w : List Int) : List D := w.map .int
theorem plains_ints (w : List Int) : D.plains (dis w) = true := by rw [plains_all]; simp [D.plain]
theorem deeps_ints (w : List Int) : D.deeps (dis w) = 0 := Nat.le_zero.mp (deeps_le.mpr (by simp [D.deep]))
theorem sames_ints : ∀ (v w : List Int), D.sames (dis v) (dis w) = (v == w)
  | [], [] => by simp [D.sames]
  | [], _ :: _ => by simp [D.sames]
  | _ :: _, [] => by simp [D.sames]
  | a :: v, b :: w => by
    have := sames_ints v w
    simp only [List.map_cons, D.sames, D.same, this]
    rfl
theorem cmp_int (i : Int) : (D.int i).cmp := ⟨by simp [D.plain], by simp [D.deep]⟩
theorem cmp_str {x : Str} (h : PySem.PyData.strOk x = true) : (D.str x).cmp := ⟨by simp [D.plain, h], by simp [D.deep]⟩
theorem cmp_lints (w : List Int) : (D.lst (dis w)).cmp := ⟨by simp only [D.plain]; exact plains_ints w, by simp only [D.deep, deeps_ints]; decide⟩
theorem cmp_tints (w : List Int) : (D.tup (dis w)).cmp := ⟨by simp only [D.plain]; exact plains_ints w, by simp only [D.deep, deeps_ints]; decide⟩
theorem cmp_tup {xs : List D} (h : ∀ x ∈ xs, x.plain = true ∧ x.deep ≤ 63) : (D.tup xs).cmp := ⟨by simp only [D.plain, plains_all, List.all_eq_true]; exact fun x hx => (h x hx).1, by simp only [D.deep]; have := (deeps_le (n := 63) (xs := xs)).mpr fun x hx => (h x hx).2; omega⟩
theorem cmp_lst {xs : List D} (h : ∀ x ∈ xs, x.plain = true ∧ x.deep ≤ 63) : (D.lst xs).cmp := ⟨by simp only [D.plain, plains_all, List.all_eq_true]; exact fun x hx => (h x hx).1, by simp only [D.deep]; have := (deeps_le (n := 63) (xs := xs)).mpr fun x hx => (h x hx).2; omega⟩
@[simp] theorem v_dEqI (i j : Int) : dEq (.int i) (.int j) = some (.bl (i == j)) := by rw [dEq_of (cmp_int i) (cmp_int j)]; simp only [D.same]
@[simp] theorem v_dNeI (i j : Int) : dNe (.int i) (.int j) = some (.bl (!(i == j))) := by rw [dNe_of (cmp_int i) (cmp_int j)]; simp only [D.same]
theorem v_dEqS {a b : Str} (ha : PySem.PyData.strOk a = true) (hb : PySem.PyData.strOk b = true) : dEq (.str a) (.str b) = some (.bl (a == b)) := by rw [dEq_of (cmp_str ha) (cmp_str hb)]; simp only [D.same]
theorem v_dNeL0 (w : List Int) : dNe (.lst (dis w)) (.lst []) = some (.bl (!w.isEmpty)) := by
  rw [show D.lst [] = D.lst (dis []) from rfl, dNe_of (cmp_lints w) (cmp_lints [])]
  simp only [D.same]
  rw [sames_ints w []]
  cases w <;> rfl
theorem v_dEqL0 (w : List Int) : dEq (.lst (dis w)) (.lst []) = some (.bl w.isEmpty) := by
  rw [show D.lst [] = D.lst (dis []) from rfl, dEq_of (cmp_lints w) (cmp_lints [])]
  simp only [D.same]
  rw [sames_ints w []]
  cases w <;> rfl
end Mz
/-! Mn, part b: the pen's draws. -/
namespace Mz
open PySem L2
def d_draw : MS :=
    (sSeq (sPen 0 .count (mBin dAdd (mPen 0 .count) (mC (.int 1))))
    (sSeq (sIf (tAndM (tBl (mBin dEq (mPen 0 .digits) (mC (.int 0)))) (tBl (mBin dLt (mPen 0 .at_) (mUn dLen (mPen 0 .cells))))) (sSeq (sSet 2 (mBin dIx (mPen 0 .cells) (mPen 0 .at_)))
    (sSeq (sPen 0 .at_ (mBin dAdd (mPen 0 .at_) (mC (.int 1))))
    (sIf (tBl (mBin dGe (mVar 2) (mBin dPow (mC (.int 10)) (mC (.int 18))))) (sPen 0 .digits (mBin dSub (mVar 2) (mBin dPow (mC (.int 10)) (mC (.int 18))))) (sPen 0 .fold (mBin dMod (mUn dInt (mBin dAdd (mBin dMul (mPen 0 .fold) (mC (.int 69069))) (mVar 2))) (mC (.int 2147483587))))))) sNext)
    (sSeq (sIf (tBl (mBin dGt (mPen 0 .digits) (mC (.int 0)))) (sSeq (sSet 3 (mBin dMod (mUn dInt (mPen 0 .digits)) (mVar 1)))
    (sSeq (sPen 0 .digits (mBin dDiv (mPen 0 .digits) (mVar 1)))
    (sRet (mVar 3)))) sNext)
    (sSeq (sSet 4 (mBin dAdd (mBin dAdd (mPen 0 .fold) (mBin dMul (mPen 0 .count) (mC (.int 7907)))) (mC (.int 37))))
    (sRet (mBin dMod (mBin dDiv (mUn dInt (mBin dMod (mBin dPow (mVar 4) (mC (.int 17))) (mC (.int 2305843009213693951)))) (mC (.int 128))) (mVar 1)))))))
def f_draw : Fd := fdOf 5 d_draw
def d_pick : MS :=
    (sRet (mBin dIx (mVar 1) (mCall f_draw (maCons (mVar 0) (maCons (mUn dLen (mVar 1)) maNil)))))
def f_pick : Fd := fdOf 2 d_pick
/-- the pen may be drawn from k times more -/
def Good (k : Nat) (p : Pen) : Prop := 0 ≤ p.at_ ∧ 0 ≤ p.digits ∧ 0 ≤ p.count ∧ p.count + k ≤ 1099511627776 ∧ 0 ≤ p.fold ∧ p.fold < 2147483587
theorem Good.le {k j : Nat} {p : Pen} (h : Good k p) (hj : j ≤ k := by omega) : Good j p := by
  obtain ⟨h1, h2, h3, h4, h5, h6⟩ := h
  exact ⟨h1, h2, h3, by omega, h5, h6⟩
theorem good0 {ns : List Int} {fold : Int} (h0 : 0 ≤ fold) (h1 : fold < 1000000007) : Good 1000000000 ⟨ns, 0, 0, 0, fold⟩ :=
  ⟨Int.le_refl _, Int.le_refl _, Int.le_refl _, (by decide : (0 : Int) + (1000000000 : Nat) ≤ 1099511627776), h0, (by omega : fold < 2147483587)⟩
theorem pow1018 : dPow (.int 10) (.int 18) = some (.int 1000000000000000000) := by
  rw [v_dPow, if_pos (by decide)]
  rfl
/-- what stands in the pen once a cell has been read -/
theorem draw_tail {k : Nat} {p : Pen} {many : Int} {c0 : Option D} (h : Good k p) (h0 : 0 < many) (h1 : many < 1073741824) :
    ∃ r p', ((sSeq (sIf (tBl (mBin dGt (mPen 0 .digits) (mC (.int 0)))) (sSeq (sSet 3 (mBin dMod (mUn dInt (mPen 0 .digits)) (mVar 1)))
    (sSeq (sPen 0 .digits (mBin dDiv (mPen 0 .digits) (mVar 1)))
    (sRet (mVar 3)))) sNext)
    (sSeq (sSet 4 (mBin dAdd (mBin dAdd (mPen 0 .fold) (mBin dMul (mPen 0 .count) (mC (.int 7907)))) (mC (.int 37))))
    (sRet (mBin dMod (mBin dDiv (mUn dInt (mBin dMod (mBin dPow (mVar 4) (mC (.int 17))) (mC (.int 2305843009213693951)))) (mC (.int 128))) (mVar 1)))))) [some .pen, some (.int many), c0, none, none] p = .ret (.int r) p' ∧ 0 ≤ r ∧ r < many ∧ Good k p' := by
  obtain ⟨a1, a2, a3, a4, a5, a6⟩ := h
  by_cases hd : 0 < p.digits
  · refine ⟨p.digits % many, { p with digits := p.digits / many }, ?_, Int.emod_nonneg _ (by omega), Int.emod_lt_of_pos _ h0, a1, Int.ediv_nonneg a2 (by omega), a3, a4, a5, a6⟩
    simp [hd, h0, h1]
  · refine ⟨((p.fold + p.count * 7907 + 37) ^ 17 % 2305843009213693951) / 128 % many, p, ?_, Int.emod_nonneg _ (by omega), Int.emod_lt_of_pos _ h0, a1, a2, a3, a4, a5, a6⟩
    have e1 : dMul (.int p.count) (.int 7907) = some (.int (p.count * 7907)) := by rw [v_dMul, if_pos (.inr (by decide))]
    have e2 : dPow (.int (p.fold + p.count * 7907 + 37)) (.int 17) = some (.int ((p.fold + p.count * 7907 + 37) ^ 17)) := by
      rw [v_dPow, if_pos ⟨by decide, by decide, by omega⟩]
      rfl
    simp [hd, h0, e1, e2]
theorem draw_ok {k : Nat} {p : Pen} {many : Int} (h : Good (k + 1) p) (h0 : 0 < many) (h1 : many < 1073741824) : ∃ r p', f_draw [.pen, .int many] p = .ok (.int r) p' ∧ 0 ≤ r ∧ r < many ∧ Good k p' := by
  obtain ⟨a1, a2, a3, a4, a5, a6⟩ := h
  have key : ∀ (c0 : Option D) (q : Pen), Good k q → ∃ r p', (match ((sSeq (sIf (tBl (mBin dGt (mPen 0 .digits) (mC (.int 0)))) (sSeq (sSet 3 (mBin dMod (mUn dInt (mPen 0 .digits)) (mVar 1)))
    (sSeq (sPen 0 .digits (mBin dDiv (mPen 0 .digits) (mVar 1)))
    (sRet (mVar 3)))) sNext)
    (sSeq (sSet 4 (mBin dAdd (mBin dAdd (mPen 0 .fold) (mBin dMul (mPen 0 .count) (mC (.int 7907)))) (mC (.int 37))))
    (sRet (mBin dMod (mBin dDiv (mUn dInt (mBin dMod (mBin dPow (mVar 4) (mC (.int 17))) (mC (.int 2305843009213693951)))) (mC (.int 128))) (mVar 1)))))) [some .pen, some (.int many), c0, none, none] q with
      | .next _ p' => R.ok D.non p'
      | .ret d p' => .ok d p'
      | .err x _ p' => .err x p'
      | _ => .stuck) = .ok (.int r) p' ∧ 0 ≤ r ∧ r < many ∧ Good k p' := fun c0 q hq => by
    obtain ⟨r, p', e, z⟩ := draw_tail (c0 := c0) hq h0 h1
    exact ⟨r, p', by rw [e], z⟩
  unfold f_draw
  rw [fdOf_eq]
  unfold d_draw
  rw [x_sSeq]
  have s1 : sPen 0 .count (mBin dAdd (mPen 0 .count) (mC (.int 1))) ([D.pen, D.int many].map some ++ List.replicate (5 - [D.pen, D.int many].length) none) p = .next [some .pen, some (.int many), none, none, none] { p with count := p.count + 1 } := by
    simp [List.replicate]
  rw [s1, SF.bind_next, x_sSeq]
  have g1 : Good k { p with count := p.count + 1 } := ⟨a1, a2, by show 0 ≤ p.count + 1; omega, by show p.count + 1 + (k : Int) ≤ _; omega, a5, a6⟩
  by_cases hd : p.digits = 0
  · by_cases ha : p.at_ < p.cells.length
    · obtain ⟨cell, hc⟩ : ∃ cell, atI (p.cells.map D.int) p.at_ = some (.int cell) := by
        obtain ⟨n, hn⟩ := Int.eq_ofNat_of_zero_le a1
        rw [hn, atI_nat, List.getElem?_map]
        have : n < p.cells.length := by omega
        exact ⟨p.cells[n], by rw [List.getElem?_eq_getElem this]; rfl⟩
      by_cases hb : (1000000000000000000 : Int) ≤ cell
      · have e : (sIf (tAndM (tBl (mBin dEq (mPen 0 .digits) (mC (.int 0)))) (tBl (mBin dLt (mPen 0 .at_) (mUn dLen (mPen 0 .cells))))) (sSeq (sSet 2 (mBin dIx (mPen 0 .cells) (mPen 0 .at_)))
            (sSeq (sPen 0 .at_ (mBin dAdd (mPen 0 .at_) (mC (.int 1))))
            (sIf (tBl (mBin dGe (mVar 2) (mBin dPow (mC (.int 10)) (mC (.int 18))))) (sPen 0 .digits (mBin dSub (mVar 2) (mBin dPow (mC (.int 10)) (mC (.int 18))))) (sPen 0 .fold (mBin dMod (mUn dInt (mBin dAdd (mBin dMul (mPen 0 .fold) (mC (.int 69069))) (mVar 2))) (mC (.int 2147483587))))))) sNext) [some .pen, some (.int many), none, none, none] { p with count := p.count + 1 }
            = .next [some .pen, some (.int many), some (.int cell), none, none] { p with count := p.count + 1, at_ := p.at_ + 1, digits := cell - 1000000000000000000 } := by
          simp [hd, ha, hc, pow1018, hb]
        rw [e, SF.bind_next]
        exact key (some (.int cell)) { p with count := p.count + 1, at_ := p.at_ + 1, digits := cell - 1000000000000000000 } ⟨(by omega : 0 ≤ p.at_ + 1), (by omega : 0 ≤ cell - 1000000000000000000), g1.2.2.1, g1.2.2.2.1, a5, a6⟩
      · have e : (sIf (tAndM (tBl (mBin dEq (mPen 0 .digits) (mC (.int 0)))) (tBl (mBin dLt (mPen 0 .at_) (mUn dLen (mPen 0 .cells))))) (sSeq (sSet 2 (mBin dIx (mPen 0 .cells) (mPen 0 .at_)))
            (sSeq (sPen 0 .at_ (mBin dAdd (mPen 0 .at_) (mC (.int 1))))
            (sIf (tBl (mBin dGe (mVar 2) (mBin dPow (mC (.int 10)) (mC (.int 18))))) (sPen 0 .digits (mBin dSub (mVar 2) (mBin dPow (mC (.int 10)) (mC (.int 18))))) (sPen 0 .fold (mBin dMod (mUn dInt (mBin dAdd (mBin dMul (mPen 0 .fold) (mC (.int 69069))) (mVar 2))) (mC (.int 2147483587))))))) sNext) [some .pen, some (.int many), none, none, none] { p with count := p.count + 1 }
            = .next [some .pen, some (.int many), some (.int cell), none, none] { p with count := p.count + 1, at_ := p.at_ + 1, fold := (p.fold * 69069 + cell) % 2147483587 } := by
          have e1 : dMul (.int p.fold) (.int 69069) = some (.int (p.fold * 69069)) := by rw [v_dMul, if_pos (.inr (by decide))]
          simp [hd, ha, hc, pow1018, hb, e1]
        rw [e, SF.bind_next]
        exact key (some (.int cell)) { p with count := p.count + 1, at_ := p.at_ + 1, fold := (p.fold * 69069 + cell) % 2147483587 } ⟨(by omega : 0 ≤ p.at_ + 1), a2, g1.2.2.1, g1.2.2.2.1, Int.emod_nonneg _ (by decide), Int.emod_lt_of_pos _ (by decide)⟩
    · have e : (sIf (tAndM (tBl (mBin dEq (mPen 0 .digits) (mC (.int 0)))) (tBl (mBin dLt (mPen 0 .at_) (mUn dLen (mPen 0 .cells))))) (sSeq (sSet 2 (mBin dIx (mPen 0 .cells) (mPen 0 .at_)))
            (sSeq (sPen 0 .at_ (mBin dAdd (mPen 0 .at_) (mC (.int 1))))
            (sIf (tBl (mBin dGe (mVar 2) (mBin dPow (mC (.int 10)) (mC (.int 18))))) (sPen 0 .digits (mBin dSub (mVar 2) (mBin dPow (mC (.int 10)) (mC (.int 18))))) (sPen 0 .fold (mBin dMod (mUn dInt (mBin dAdd (mBin dMul (mPen 0 .fold) (mC (.int 69069))) (mVar 2))) (mC (.int 2147483587))))))) sNext) [some .pen, some (.int many), none, none, none] { p with count := p.count + 1 }
            = .next [some .pen, some (.int many), none, none, none] { p with count := p.count + 1 } := by
        simp [hd, ha]
      rw [e, SF.bind_next]
      exact key _ _ g1
  · have e : (sIf (tAndM (tBl (mBin dEq (mPen 0 .digits) (mC (.int 0)))) (tBl (mBin dLt (mPen 0 .at_) (mUn dLen (mPen 0 .cells))))) (sSeq (sSet 2 (mBin dIx (mPen 0 .cells) (mPen 0 .at_)))
            (sSeq (sPen 0 .at_ (mBin dAdd (mPen 0 .at_) (mC (.int 1))))
            (sIf (tBl (mBin dGe (mVar 2) (mBin dPow (mC (.int 10)) (mC (.int 18))))) (sPen 0 .digits (mBin dSub (mVar 2) (mBin dPow (mC (.int 10)) (mC (.int 18))))) (sPen 0 .fold (mBin dMod (mUn dInt (mBin dAdd (mBin dMul (mPen 0 .fold) (mC (.int 69069))) (mVar 2))) (mC (.int 2147483587))))))) sNext) [some .pen, some (.int many), none, none, none] { p with count := p.count + 1 }
            = .next [some .pen, some (.int many), none, none, none] { p with count := p.count + 1 } := by
      simp [hd]
    rw [e, SF.bind_next]
    exact key _ _ g1
theorem pick_ok {k : Nat} {p : Pen} {xs : List D} (h : Good (k + 1) p) (h0 : 0 < xs.length) (h1 : xs.length < 1073741824) : ∃ x p', f_pick [.pen, .lst xs] p = .ok x p' ∧ x ∈ xs ∧ Good k p' := by
  obtain ⟨r, p', e, r0, r1, g⟩ := draw_ok (many := xs.length) h (by omega) (by omega)
  obtain ⟨n, rfl⟩ := Int.eq_ofNat_of_zero_le r0
  have hn : n < xs.length := by omega
  refine ⟨xs[n], p', ?_, List.getElem_mem hn, g⟩
  unfold f_pick
  rw [fdOf_eq]
  unfold d_pick
  simp [List.replicate, e, atI_nat, List.getElem?_eq_getElem hn]
end Mz
/-! Mn, part c: isinstance, texts. -/
namespace Mz
open PySem L2
@[simp] theorem v_isiI_int (i : Int) : dIsi (.int i) (.ty "int") = some (.bl true) := by simp [dIsi, tyN, isiB]
@[simp] theorem v_isiI_bool (i : Int) : dIsi (.int i) (.ty "bool") = some (.bl false) := by simp [dIsi, tyN, isiB]
@[simp] theorem v_isiB_int (i : Bool) : dIsi (.bl i) (.ty "int") = some (.bl true) := by simp [dIsi, tyN, isiB]
@[simp] theorem v_isiB_bool (i : Bool) : dIsi (.bl i) (.ty "bool") = some (.bl true) := by simp [dIsi, tyN, isiB]
@[simp] theorem v_isiN (b : String) (h : b ∈ ["bool", "int", "str", "tuple", "list", "dict"] := by simp) : dIsi .non (.ty b) = some (.bl false) := by
  have : ∀ b ∈ ["bool", "int", "str", "tuple", "list", "dict"], isiB "NoneType" b = some false := by decide +kernel
  simp only [dIsi, tyN, Option.bind_some, this b h, Option.map_some]
@[simp] theorem v_isiS_int (i : Str) : dIsi (.str i) (.ty "int") = some (.bl false) := by simp [dIsi, tyN, isiB]
@[simp] theorem v_isiS_str (i : Str) : dIsi (.str i) (.ty "str") = some (.bl true) := by simp [dIsi, tyN, isiB]
@[simp] theorem v_isiI_str (i : Int) : dIsi (.int i) (.ty "str") = some (.bl false) := by simp [dIsi, tyN, isiB]
@[simp] theorem v_isiL_int (i : List D) : dIsi (.lst i) (.ty "int") = some (.bl false) := by simp [dIsi, tyN, isiB]
@[simp] theorem v_isiT_int (i : List D) : dIsi (.tup i) (.ty "int") = some (.bl false) := by simp [dIsi, tyN, isiB]
@[simp] theorem v_isiL_tuple (i : List D) : dIsi (.lst i) (.ty "tuple") = some (.bl false) := by simp [dIsi, tyN, isiB]
@[simp] theorem v_isiT_tuple (i : List D) : dIsi (.tup i) (.ty "tuple") = some (.bl true) := by simp [dIsi, tyN, isiB]
@[simp] theorem v_isiI_tuple (i : Int) : dIsi (.int i) (.ty "tuple") = some (.bl false) := by simp [dIsi, tyN, isiB]
@[simp] theorem v_isiS_tuple (i : Str) : dIsi (.str i) (.ty "tuple") = some (.bl false) := by simp [dIsi, tyN, isiB]
@[simp] theorem v_isiL_row (i : List D) : dIsi (.lst i) (.tup [.ty "list", .ty "tuple"]) = some (.bl true) := by simp [dIsi, tyN, isiAll, isiB]
@[simp] theorem v_isiT_row (i : List D) : dIsi (.tup i) (.tup [.ty "list", .ty "tuple"]) = some (.bl true) := by simp [dIsi, tyN, isiAll, isiB]
@[simp] theorem v_isiI_row (i : Int) : dIsi (.int i) (.tup [.ty "list", .ty "tuple"]) = some (.bl false) := by simp [dIsi, tyN, isiAll, isiB]
@[simp] theorem v_isiN_row : dIsi .non (.tup [.ty "list", .ty "tuple"]) = some (.bl false) := by simp [dIsi, tyN, isiAll, isiB]
@[simp] theorem v_isiS_row (i : Str) : dIsi (.str i) (.tup [.ty "list", .ty "tuple"]) = some (.bl false) := by simp [dIsi, tyN, isiAll, isiB]
/-- texts -/
theorem str_beq (a b : String) : ((a : Str) == (b : Str)) = decide (a.toList.map Char.toNat = b.toList.map Char.toNat) := by
  rw [Str.ofString_eq_toList, Str.ofString_eq_toList]
  rw [Bool.eq_iff_iff]
  simp
theorem strOk_of (a : String) : PySem.PyData.strOk (a : Str) = true := by
  rw [Str.ofString_eq_toList]
  unfold PySem.PyData.strOk
  simp only [List.all_toArray, List.all_map, List.all_eq_true, Function.comp, decide_eq_true_eq]
  intro c _
  have h := c.valid
  have h2 : c.toNat < 0x110000 := by
    have := c.valid
    rcases this with h | h
    · exact Nat.lt_trans h (by decide)
    · exact h.2
  exact h2
@[simp] theorem same_str (a b : String) : D.same (.str (a : Str)) (.str (b : Str)) = (a == b) := by
  simp only [D.same]
  rw [str_beq]
  rw [Bool.eq_iff_iff]
  simp only [decide_eq_true_eq, beq_iff_eq]
  constructor
  · intro h
    have : a.toList = b.toList := by
      have inj : Function.Injective Char.toNat := fun x y h => Char.ext (UInt32.toNat_inj.mp h)
      exact (List.map_inj_right (fun x y h => inj h)).mp h
    exact String.toList_injective this
  · intro h; rw [h]
theorem plain_str (a : String) : (D.str (a : Str)).plain = true := by simp only [D.plain]; exact strOk_of a
@[simp] theorem sl_eq : PySem.sizeLine = 16777216 := sizeLine_eq
@[simp] theorem atI0 {α : Type} (xs : List α) : atI xs 0 = xs[0]? := atI_nat xs 0
@[simp] theorem atI1 {α : Type} (xs : List α) : atI xs 1 = xs[1]? := atI_nat xs 1
@[simp] theorem atI2 {α : Type} (xs : List α) : atI xs 2 = xs[2]? := atI_nat xs 2
theorem cmp_mv (x : String) (l : List Int) : (D.tup (.str (x : Str) :: dis l)).cmp := cmp_tup fun z hz => by
  rcases List.mem_cons.mp hz with rfl | hz
  · exact ⟨plain_str x, by simp [D.deep]⟩
  · obtain ⟨i, _, rfl⟩ := List.mem_map.mp hz
    exact ⟨by simp [D.plain], by simp [D.deep]⟩
/-- a move compared with a move -/
theorem eq_mv (x y : String) (l m : List Int) : dEq (.tup (.str (x : Str) :: dis l)) (.tup (.str (y : Str) :: dis m)) = some (.bl (x == y && l == m)) := by
  rw [dEq_of (cmp_mv x l) (cmp_mv y m)]
  simp only [D.same, D.sames]
  rw [← sames_ints, ← same_str]
  simp only [D.same]
theorem eq_mv0 (x y : String) : dEq (.tup [.str (x : Str)]) (.tup [.str (y : Str)]) = some (.bl (x == y)) := by
  have := eq_mv x y [] []
  simpa using this
theorem eq_mv1 (x y : String) (a : Int) : dEq (.tup [.str (x : Str), .int a]) (.tup [.str (y : Str)]) = some (.bl false) := by
  have := eq_mv x y [a] []
  simpa using this
theorem eq_mv2 (x y : String) (a b : Int) : dEq (.tup [.str (x : Str), .int a, .int b]) (.tup [.str (y : Str)]) = some (.bl false) := by
  have := eq_mv x y [a, b] []
  simpa using this
theorem eq_st (x y : String) : dEq (.str (x : Str)) (.str (y : Str)) = some (.bl (x == y)) := by
  rw [dEq_of ⟨plain_str x, by simp [D.deep]⟩ ⟨plain_str y, by simp [D.deep]⟩, same_str]
/-- x in a row of texts -/
theorem in_st {d : D} (x : String) (l : List String) (hd : dSeq d = some (l.map fun s : String => D.str (Str.ofString s))) (hk : d.okE = true) : dInS (.str (x : Str)) d = some (.bl (l.any fun y => y == x)) := by
  unfold dInS
  rw [okE_of ⟨plain_str x, by simp [D.deep]⟩, hk, hd]
  simp only [Bool.and_self, if_true, Option.map_some, inB, List.any_map]
  congr 3
  funext y
  simp only [Function.comp]
  rw [eqD_of (plain_str y) (plain_str x), same_str]
theorem notin_st {d : D} (x : String) (l : List String) (hd : dSeq d = some (l.map fun s : String => D.str (Str.ofString s))) (hk : d.okE = true) : dNotInS (.str (x : Str)) d = some (.bl (!l.any fun y => y == x)) := by
  unfold dNotInS
  rw [okE_of ⟨plain_str x, by simp [D.deep]⟩, hk, hd]
  simp only [Bool.and_self, if_true, Option.map_some, inB, List.any_map]
  congr 4
  funext y
  simp only [Function.comp]
  rw [eqD_of (plain_str y) (plain_str x), same_str]
theorem cmp_strs (l : List String) : (D.lst (l.map fun s : String => D.str (Str.ofString s))).cmp := cmp_lst fun z hz => by
  obtain ⟨i, _, rfl⟩ := List.mem_map.mp hz
  exact ⟨plain_str i, by simp [D.deep]⟩
theorem cmp_strsT (l : List String) : (D.tup (l.map fun s : String => D.str (Str.ofString s))).cmp := cmp_tup fun z hz => by
  obtain ⟨i, _, rfl⟩ := List.mem_map.mp hz
  exact ⟨plain_str i, by simp [D.deep]⟩
/-- a comprehension that draws nothing -/
theorem lc_pure {β : Type} {t : M Bool} {m : M D} {g : GT} {e : Mz.Env} {enc out : β → D} {keep : β → Bool} {p : Pen} : ∀ (w : List β) (acc : List D), (∀ x ∈ w, ∃ e', g (enc x) e = some e' ∧ t e' p = .ok (keep x) p ∧ (keep x = true → m e' p = .ok (out x) p)) → w.length + acc.length ≤ 1000000 → lcGo g t m e (w.map enc) acc p = .ok (.lst (acc ++ (w.filter keep).map out)) p
  | [], acc, _, _ => by simp [lcGo]
  | x :: w, acc, h, hl => by
    obtain ⟨e', h1, h2, h3⟩ := h x List.mem_cons_self
    have ih := lc_pure (t := t) (m := m) (g := g) (e := e) (p := p) (enc := enc) (out := out) (keep := keep) w
    have hw := fun y hy => h y (List.mem_cons_of_mem _ hy)
    simp only [List.length_cons] at hl
    simp only [List.map_cons, lcGo, h1, h2, R.calm, R.bind_ok]
    cases hf : keep x with
    | true =>
      have hz : acc.length < 16777216 := by omega
      simp only [if_true, sl_eq, hz, h3 hf, R.calm, R.bind_ok]
      rw [ih _ hw (by simp only [List.length_append, List.length_cons, List.length_nil]; omega)]
      simp [List.filter_cons, hf]
    | false =>
      simp only [Bool.false_eq_true, if_false]
      rw [ih _ hw (by omega)]
      simp [List.filter_cons, hf]
end Mz
/-! Mn, part d: steps. -/
namespace Mz
open PySem L2
section
variable {e e' : Mz.Env} {p p' p2 : Pen} {r : SF} {a b x y : MS} {t : M Bool} {m : M D} {d : D} {n i : Nat} {ds : List D}
theorem fd_ret (he : ds.map some ++ List.replicate (n - ds.length) none = e) (h : b e p = .ret d p') : fdOf n b ds p = .ok d p' := by
  rw [fdOf_eq, he, h]
theorem fd_next (he : ds.map some ++ List.replicate (n - ds.length) none = e) (h : b e p = .next e' p') : fdOf n b ds p = .ok .non p' := by
  rw [fdOf_eq, he, h]
theorem fd_err {ex : Exn} (he : ds.map some ++ List.replicate (n - ds.length) none = e) (h : b e p = .err ex e' p') : fdOf n b ds p = .err ex p' := by
  rw [fdOf_eq, he, h]
theorem sq (h : a e p = .next e' p') (k : b e' p' = r) : sSeq a b e p = r := by rw [x_sSeq, h]; exact k
theorem sq_ret (h : a e p = .ret d p') : sSeq a b e p = .ret d p' := by rw [x_sSeq, h]; rfl
theorem sq_err {ex : Exn} (h : a e p = .err ex e' p') : sSeq a b e p = .err ex e' p' := by rw [x_sSeq, h]; rfl
theorem if_t (h : t e p = .ok true p') (k : x e p' = r) : sIf t x y e p = r := by rw [x_sIf, h]; exact k
theorem if_f (h : t e p = .ok false p') (k : y e p' = r) : sIf t x y e p = r := by rw [x_sIf, h]; exact k
/-- a guard that lets through -/
theorem sq_f (h : t e p = .ok false p) (k : b e p = r) : sSeq (sIf t x sNext) b e p = r := sq (if_f h rfl) k
/-- a branch that returns -/
theorem sq_t (h : t e p = .ok true p) (k : x e p = .ret d p') : sSeq (sIf t x y) b e p = .ret d p' := sq_ret (if_t h k)
theorem ret_ok (h : m e p = .ok d p') : sRet m e p = .ret d p' := by rw [x_sRet, h]; rfl
theorem ret_err {ex : Exn} (h : m e p = .err ex p') : sRet m e p = .err ex e p' := by rw [x_sRet, h]; rfl
theorem sq_set (d : D) (h : m e p = .ok d p) (k : b (e.set i (some d)) p = r) : sSeq (sSet i m) b e p = r := sq (by rw [x_sSet, h]; rfl) k
theorem sq_setd (d : D) (h : m e p = .ok d p') (k : b (e.set i (some d)) p' = r) : sSeq (sSet i m) b e p = r := sq (by rw [x_sSet, h]; rfl) k
theorem sq_expr (d : D) (h : m e p = .ok d p) (k : b e p = r) : sSeq (sExpr m) b e p = r := sq (by rw [x_sExpr, h]; rfl) k
theorem sq_exprd (d : D) (h : m e p = .ok d p') (k : b e p' = r) : sSeq (sExpr m) b e p = r := sq (by rw [x_sExpr, h]; rfl) k
end
/-- a loop that comes to its end -/
theorem for_inv {g : GT} {body : MS} {ds : List D} {e : Mz.Env} {p : Pen} (I : Nat → Mz.Env → Pen → Prop) (h0 : I 0 e p)
    (hs : ∀ i d e p, ds[i]? = some d → I i e p → ∃ e1 e2 p2, g d e = some e1 ∧ (body e1 p = .next e2 p2 ∨ body e1 p = .cnt e2 p2) ∧ I (i + 1) e2 p2) : ∃ e' p', mFor g body ds e p = .next e' p' ∧ I ds.length e' p' := by
  induction ds generalizing I e p with
  | nil => exact ⟨e, p, rfl, h0⟩
  | cons d ds ih =>
    obtain ⟨e1, e2, p2, h1, h2, h3⟩ := hs 0 d e p rfl h0
    obtain ⟨e', p', h4, h5⟩ := ih (fun i => I (i + 1)) h3 fun i d' e p hd hi => hs (i + 1) d' e p hd hi
    refine ⟨e', p', ?_, h5⟩
    rw [show mFor g body (d :: ds) e p = match g d e with
      | none => .stuck
      | some e' => match body e' p with
        | .next e2 p2 => mFor g body ds e2 p2
        | .cnt e2 p2 => mFor g body ds e2 p2
        | .brk e2 p2 => .next e2 p2
        | r => r from rfl, h1]
    rcases h2 with h2 | h2
    · simp only [h2]; exact h4
    · simp only [h2]; exact h4
theorem rngD_len0 (n : Nat) : (rngD 0 n).length = n := by simp [rngD]
theorem rngD_get0 {n i : Nat} {d : D} (h : (rngD 0 n)[i]? = some d) : i < n ∧ d = .int i := by
  obtain ⟨h1, h2⟩ := rngD_get h
  exact ⟨h1, by rw [h2]; simp⟩
theorem sq_for {e e' : Mz.Env} {p p' : Pen} {ds : List D} {g : GT} {body b : MS} {mi : M (List D)} {r : SF} (h : mi e p = .ok ds p) (hf : mFor g body ds e p = .next e' p') (k : b e' p' = r) : sSeq (sFor mi g body) b e p = r := sq (by rw [x_sFor, h]; exact hf) k
theorem rng_ok {m : M D} {e : Mz.Env} {p p' : Pen} {j : Int} (h : m e p = .ok (.int j) p') (h0 : 0 ≤ j) (h1 : j ≤ 1000000) : miRng1 m e p = .ok (rngD 0 j.toNat) p' := by
  rw [x_miRng1, h]
  have c : -(2 ^ 62) ≤ j ∧ j < 2 ^ 62 := ⟨Int.le_trans (by decide) h0, Int.lt_of_le_of_lt h1 (by decide)⟩
  show (if -(2 ^ 62) ≤ j ∧ j < 2 ^ 62 then R.ok (rngD 0 j.toNat) p' else .stuck) = _
  rw [if_pos c]
theorem rng_nat {m : M D} {e : Mz.Env} {p p' : Pen} {j : Nat} (h : m e p = .ok (.int j) p') (h1 : j ≤ 1000000) : miRng1 m e p = .ok (rngD 0 j) p' := rng_ok h (Int.natCast_nonneg j) (by omega)
theorem for_app {g : GT} {body : MS} {ds ds2 : List D} {e e' : Mz.Env} {p p' : Pen} (h : mFor g body ds e p = .next e' p') (hb : ∀ d ∈ ds, ∀ e1 p1 e2 p2, body e1 p1 ≠ .brk e2 p2) : mFor g body (ds ++ ds2) e p = mFor g body ds2 e' p' := by
  induction ds generalizing e p with
  | nil => cases h; rfl
  | cons d ds ih =>
    simp only [List.cons_append, mFor] at h ⊢
    cases hg : g d e with
    | none => rw [hg] at h; cases h
    | some e1 =>
      rw [hg] at h
      simp only at h ⊢
      cases hx : body e1 p with
      | next e2 p2 => rw [hx] at h; exact ih h fun d hd => hb d (List.mem_cons_of_mem _ hd)
      | cnt e2 p2 => rw [hx] at h; exact ih h fun d hd => hb d (List.mem_cons_of_mem _ hd)
      | brk e2 p2 => exact absurd hx (hb d List.mem_cons_self _ _ _ _)
      | ret d p2 => rw [hx] at h; cases h
      | err x e2 p2 => rw [hx] at h; cases h
      | stuck => rw [hx] at h; cases h
theorem enumD_snoc (ms : List D) (m : D) : enumD (ms ++ [m]) = enumD ms ++ [.tup [.int ms.length, m]] := by
  simp [enumD, List.mapIdx_append]
theorem dRngL_of {a b : Int} (h : -(2 ^ 62) ≤ a ∧ a < 2 ^ 62 ∧ -(2 ^ 62) ≤ b ∧ b < 2 ^ 62 ∧ (b - a).toNat ≤ 2 ^ 24) : dRngL (.int a) (.int b) = some (.lst (rngD a (b - a).toNat)) := if_pos h
theorem dRngL_0 {n : Nat} (hn : n ≤ 1000) : dRngL (.int 0) (.int n) = some (.lst ((List.range n).map fun k : Nat => D.int (k : Int))) := by
  have a4 : (n : Int) < 2 ^ 62 := Int.lt_of_le_of_lt (Int.ofNat_le.mpr hn) (by decide)
  rw [dRngL_of ⟨by decide, by decide, Int.le_trans (by decide) (Int.natCast_nonneg n), a4, by rw [Int.sub_zero, Int.toNat_natCast]; exact Nat.le_trans hn (by decide)⟩]
  simp only [rngD, Int.sub_zero, Int.toNat_natCast, Int.zero_add]
end Mz
/-! Mn, part e: loops, step by step. -/
namespace Mz
open PySem L2
section
variable {e e1 e2 : Mz.Env} {p p1 p2 : Pen} {r : SF} {t : M Bool} {b : MS} {d : D} {ds : List D} {g : GT} {f : Nat} {w : Mz.Env → Nat}
theorem wh_f (h : t e p = .ok false p1) : mWhile t b (f + 1) e p = .next e p1 := by
  show (t e p).st e _ = _
  rw [h]; rfl
theorem wh_t (h : t e p = .ok true p1) (hb : b e p1 = .next e2 p2) (k : mWhile t b f e2 p2 = r) : mWhile t b (f + 1) e p = r := by
  show (t e p).st e _ = _
  rw [h]
  show (match b e p1 with
        | .next e2 p2 => mWhile t b f e2 p2
        | .cnt e2 p2 => mWhile t b f e2 p2
        | .brk e2 p2 => .next e2 p2
        | r => r) = _
  rw [hb]; exact k
theorem wh_ret (h : t e p = .ok true p1) (hb : b e p1 = .ret d p2) : mWhile t b (f + 1) e p = .ret d p2 := by
  show (t e p).st e _ = _
  rw [h]
  show (match b e p1 with
        | .next e2 p2 => mWhile t b f e2 p2
        | .cnt e2 p2 => mWhile t b f e2 p2
        | .brk e2 p2 => .next e2 p2
        | r => r) = _
  rw [hb]
theorem fo_nil : mFor g b [] e p = .next e p := rfl
theorem fo_cons (hg : g d e = some e1) (hb : b e1 p = .next e2 p2) (k : mFor g b ds e2 p2 = r) : mFor g b (d :: ds) e p = r := by
  show (match g d e with
      | none => SF.stuck
      | some e' => match b e' p with
        | .next e2 p2 => mFor g b ds e2 p2
        | .cnt e2 p2 => mFor g b ds e2 p2
        | .brk e2 p2 => .next e2 p2
        | r => r) = _
  rw [hg]
  show (match b e1 p with
        | .next e2 p2 => mFor g b ds e2 p2
        | .cnt e2 p2 => mFor g b ds e2 p2
        | .brk e2 p2 => .next e2 p2
        | r => r) = _
  rw [hb]; exact k
theorem fo_cnt (hg : g d e = some e1) (hb : b e1 p = .cnt e2 p2) (k : mFor g b ds e2 p2 = r) : mFor g b (d :: ds) e p = r := by
  show (match g d e with
      | none => SF.stuck
      | some e' => match b e' p with
        | .next e2 p2 => mFor g b ds e2 p2
        | .cnt e2 p2 => mFor g b ds e2 p2
        | .brk e2 p2 => .next e2 p2
        | r => r) = _
  rw [hg]
  show (match b e1 p with
        | .next e2 p2 => mFor g b ds e2 p2
        | .cnt e2 p2 => mFor g b ds e2 p2
        | .brk e2 p2 => .next e2 p2
        | r => r) = _
  rw [hb]; exact k
theorem fo_ret {x : D} (hg : g d e = some e1) (hb : b e1 p = .ret x p2) : mFor g b (d :: ds) e p = .ret x p2 := by
  show (match g d e with
      | none => SF.stuck
      | some e' => match b e' p with
        | .next e2 p2 => mFor g b ds e2 p2
        | .cnt e2 p2 => mFor g b ds e2 p2
        | .brk e2 p2 => .next e2 p2
        | r => r) = _
  rw [hg]
  show (match b e1 p with
        | .next e2 p2 => mFor g b ds e2 p2
        | .cnt e2 p2 => mFor g b ds e2 p2
        | .brk e2 p2 => .next e2 p2
        | r => r) = _
  rw [hb]
theorem fo_err {x : Exn} (hg : g d e = some e1) (hb : b e1 p = .err x e2 p2) : mFor g b (d :: ds) e p = .err x e2 p2 := by
  show (match g d e with
      | none => SF.stuck
      | some e' => match b e' p with
        | .next e2 p2 => mFor g b ds e2 p2
        | .cnt e2 p2 => mFor g b ds e2 p2
        | .brk e2 p2 => .next e2 p2
        | r => r) = _
  rw [hg]
  show (match b e1 p with
        | .next e2 p2 => mFor g b ds e2 p2
        | .cnt e2 p2 => mFor g b ds e2 p2
        | .brk e2 p2 => .next e2 p2
        | r => r) = _
  rw [hb]
theorem call_ok {fd : Fd} {ma : M (List D)} {x : R D} (h : ma e p = .ok ds p1) (k : fd ds p1 = x) : mCall fd ma e p = x := by
  rw [x_mCall, h, R.bind_ok]
  exact k
theorem as_cons {m : M D} {rr : M (List D)} (h : m e p = .ok d p1) (k : rr e p1 = .ok ds p2) : maCons m rr e p = .ok (d :: ds) p2 := by
  rw [x_maCons, h, R.bind_ok, k, R.bind_ok]
theorem aso_cons {bb : Bool} {m : M D} {rr : M (List D)} (h : m e p = .ok d p1) (k : rr e p1 = .ok ds p2) (q : (bb && isRefD d) = false := by rfl) : maConsO bb m rr e p = .ok (d :: ds) p2 := by
  rw [x_maConsO, h, R.bind_ok, if_neg (by rw [q]; decide), k, R.bind_ok]
theorem hearAll_ok {i : Nat} {w : Str} {kn : List Nat} {hl : List Hdl} {ok : List Nat} {lamd : Nat → M D} {mi : M (List D)} {x : R D} (h : mi e p = .ok ds p1) (hi : i < e.length) (k : hearGo w kn hl ok lamd e ds [] p1 = x) : mHearAll i w kn hl ok lamd mi e p = x := by
  show (mi e p).bind _ = _
  rw [h, R.bind_ok, if_pos hi]
  exact k
theorem par_ok {is : List Nat} {m : M (List D)} (h : m e p = .ok ds p1) (hl : ds.length = is.length ∧ is.length ≤ 16777216 ∧ (is.all fun i => decide (i < e.length)) = true) : sParN is m e p = .next (setE e is ds) p1 := by
  rw [x_sParN, h, R.st_ok, if_pos (by rw [sl_eq]; exact hl)]
theorem bin_ok {op : D → D → Option D} {a b : M D} {x y zz : D} (h : a e p = .ok x p1) (k : b e p1 = .ok y p2) (q : op x y = some zz) : mBin op a b e p = .ok zz p2 := by
  rw [x_mBin, h, R.bind_ok, k, R.bind_ok, q, lift_some]
theorem un_ok {op : D → Option D} {a : M D} {x zz : D} (h : a e p = .ok x p1) (q : op x = some zz) : mUn op a e p = .ok zz p1 := by
  rw [x_mUn, h, R.bind_ok, q, lift_some]
theorem tbl_ok {a : M D} {bb : Bool} (h : a e p = .ok (.bl bb) p1) : tBl a e p = .ok bb p1 := by
  rw [x_tBl, h, R.bind_ok]
theorem ttru_ok {a : M D} {x : D} {bb : Bool} (h : a e p = .ok x p1) (q : dTru x = some bb) : tTru a e p = .ok bb p1 := by
  rw [x_tTru, h, R.bind_ok, q, lift_some]
theorem tnot_ok {a : M Bool} {bb : Bool} (h : a e p = .ok bb p1) : tNotM a e p = .ok (!bb) p1 := by
  rw [x_tNotM, h, R.bind_ok]
theorem tor_f {a b : M Bool} {bb : Bool} (h : a e p = .ok false p1) (k : b e p1 = .ok bb p2) : tOrM a b e p = .ok bb p2 := by
  rw [x_tOrM, h, R.bind_ok]; exact k
theorem tor_t {a b : M Bool} (h : a e p = .ok true p1) : tOrM a b e p = .ok true p1 := by
  rw [x_tOrM, h, R.bind_ok]; rfl
theorem tand_t {a b : M Bool} {bb : Bool} (h : a e p = .ok true p1) (k : b e p1 = .ok bb p2) : tAndM a b e p = .ok bb p2 := by
  rw [x_tAndM, h, R.bind_ok]; exact k
theorem tand_f {a b : M Bool} (h : a e p = .ok false p1) : tAndM a b e p = .ok false p1 := by
  rw [x_tAndM, h, R.bind_ok]; rfl
theorem mif_t {t : M Bool} {a b : M D} {x : R D} (h : t e p = .ok true p1) (k : a e p1 = x) : mIf t a b e p = x := by
  rw [x_mIf, h, R.bind_ok]; exact k
theorem mif_f {t : M Bool} {a b : M D} {x : R D} (h : t e p = .ok false p1) (k : b e p1 = x) : mIf t a b e p = x := by
  rw [x_mIf, h, R.bind_ok]; exact k
theorem tup_ok {a : M (List D)} (h : a e p = .ok ds p1) (hl : ds.length ≤ 16777216) : mTup a e p = .ok (.tup ds) p1 := by
  rw [x_mTup, h, R.bind_ok, if_pos (by rw [sl_eq]; exact hl)]
theorem lst_ok {a : M (List D)} (h : a e p = .ok ds p1) (hl : ds.length ≤ 16777216) : mLst a e p = .ok (.lst ds) p1 := by
  rw [x_mLst, h, R.bind_ok, if_pos (by rw [sl_eq]; exact hl)]
theorem sq_while {a : MS} (h : mWhile t b (w e) e p = .next e1 p1) (k : a e1 p1 = r) : sSeq (sWhile w t b) a e p = r := sq (a := sWhile w t b) h k
end
end Mz
/-! Mn, part f: what the laws draw. -/
namespace Mz
open PySem L2
/-- a comprehension that draws -/
theorem lc_any {t : M Bool} {m : M D} {g : GT} {e : Mz.Env} (P : D → Prop) (c k0 : Nat) : ∀ (ds acc : List D) (p : Pen), (∀ d ∈ ds, ∀ k p, Good (k + c) p → ∃ e', g d e = some e' ∧ t e' p = .ok true p ∧ ∃ x p', m e' p = .ok x p' ∧ P x ∧ Good k p') → Good (k0 + c * ds.length) p → ds.length + acc.length ≤ 1000000 →
    ∃ xs p', lcGo g t m e ds acc p = .ok (.lst (acc ++ xs)) p' ∧ xs.length = ds.length ∧ (∀ x ∈ xs, P x) ∧ Good k0 p'
  | [], acc, p, _, G, _ => ⟨[], p, by simp [lcGo], rfl, by simp, G.le⟩
  | d :: ds, acc, p, h, G, hl => by
    simp only [List.length_cons] at hl
    obtain ⟨e', h1, h2, x, p1, h3, h4, G1⟩ := h d List.mem_cons_self (k0 + c * ds.length) p (G.le (by rw [List.length_cons, Nat.mul_add]; omega))
    obtain ⟨xs, p2, h5, h6, h7, G2⟩ := lc_any P c k0 ds (acc ++ [x]) p1 (fun d hd => h d (List.mem_cons_of_mem _ hd)) G1 (by simp; omega)
    refine ⟨x :: xs, p2, ?_, by simp [h6], fun y hy => ?_, G2⟩
    · have hz : acc.length < 16777216 := by omega
      simp only [lcGo, h1, h2, R.calm, R.bind_ok, if_true, sl_eq, hz, h3]
      rw [h5]
      simp
    · rcases List.mem_cons.mp hy with rfl | hy
      · exact h4
      · exact h7 y hy
/-- a comprehension that draws nothing, its items told by what holds of them -/
theorem lc_ex {t : M Bool} {m : M D} {g : GT} {e : Mz.Env} {p : Pen} (P : Nat → D → Prop) : ∀ (ds acc : List D), (∀ i d, ds[i]? = some d → ∃ e', g d e = some e' ∧ t e' p = .ok true p ∧ ∃ x, m e' p = .ok x p ∧ P i x) → ds.length + acc.length ≤ 1000000 →
    ∃ xs, lcGo g t m e ds acc p = .ok (.lst (acc ++ xs)) p ∧ xs.length = ds.length ∧ (∀ i x, xs[i]? = some x → P i x)
  | [], acc, _, _ => ⟨[], by simp [lcGo], rfl, by simp⟩
  | d :: ds, acc, h, hl => by
    simp only [List.length_cons] at hl
    obtain ⟨e', h1, h2, x, h3, h4⟩ := h 0 d rfl
    obtain ⟨xs, h5, h6, h7⟩ := lc_ex (fun i => P (i + 1)) ds (acc ++ [x]) (fun i d hd => h (i + 1) d hd) (by simp; omega)
    refine ⟨x :: xs, ?_, by simp [h6], fun i y hy => ?_⟩
    · have hz : acc.length < 16777216 := by omega
      simp only [lcGo, h1, h2, R.calm, R.bind_ok, if_true, sl_eq, hz, h3]
      rw [h5]
      simp
    · cases i with
      | zero => cases hy; exact h4
      | succ i => exact h7 i y hy
/-- _law_listed -/
def d_listed : MS :=
    (sRet (mIf (tBl (mBin dEq (mCall f_draw (maCons (mVar 0) (maCons (mC (.int 2)) maNil))) (mC (.int 0)))) (mUn dList (mVar 1)) (mUn dTuple (mVar 1))))
def f_listed : Fd := fdOf 2 d_listed
theorem listed_ok {k : Nat} {p : Pen} {xs : List D} (h : Good (k + 1) p) : ∃ X p', f_listed [.pen, .lst xs] p = .ok X p' ∧ (X = .lst xs ∨ X = .tup xs) ∧ Good k p' := by
  obtain ⟨r, p', e, r0, r1, g⟩ := draw_ok (many := 2) h (by omega) (by omega)
  by_cases hr : r = 0
  · subst hr
    exact ⟨.lst xs, p', fd_ret (e := [some .pen, some (.lst xs)]) rfl (ret_ok (by simp [e])), .inl rfl, g⟩
  · exact ⟨.tup xs, p', fd_ret (e := [some .pen, some (.lst xs)]) rfl (ret_ok (by simp [e, hr])), .inr rfl, g⟩
end Mz
/-! words: the row of places behind a word, its rounds; plain -/
namespace Wm
def swp (k : Nat) (h : List Nat) : List Nat := (h.set (k - 1) (h.getD k 0)).set k (h.getD (k - 1) 0)
def here : List Nat → List Int → List Nat
  | h, [] => h
  | h, x :: w => here (swp x.natAbs h) w
theorem swp_len (k : Nat) (h : List Nat) : (swp k h).length = h.length := by simp [swp]
theorem here_len : ∀ (w : List Int) (h : List Nat), (here h w).length = h.length
  | [], h => rfl
  | x :: w, h => by rw [here, here_len w, swp_len]
theorem here_app : ∀ (u v : List Int) (h : List Nat), here h (u ++ v) = here (here h u) v
  | [], v, h => rfl
  | x :: u, v, h => by rw [List.cons_append, here, here, here_app u v]
theorem swp_perm {k : Nat} {h : List Nat} (h1 : 0 < k) (h2 : k < h.length) : (swp k h).Perm h := by
  obtain ⟨j, rfl⟩ : ∃ j, k = j + 1 := ⟨k - 1, by omega⟩
  have := List.set_set_perm (as := h) (i := j) (j := j + 1) (by omega) h2
  simpa [swp, List.getElem?_eq_getElem h2, List.getElem?_eq_getElem (show j < h.length by omega)] using this
theorem here_perm {n : Nat} : ∀ (w : List Int) (h : List Nat), h.length = n → (∀ x ∈ w, 0 < x.natAbs ∧ x.natAbs < n) → (here h w).Perm h
  | [], h, _, _ => List.Perm.refl _
  | x :: w, h, hl, hw => by
    have hx := hw x List.mem_cons_self
    exact (here_perm w (swp x.natAbs h) (by rw [swp_len]; exact hl) fun y hy => hw y (List.mem_cons_of_mem _ hy)).trans (swp_perm (by omega) (by omega))
/-- item by item -/
theorem swp_get {k i : Nat} {h : List Nat} (h1 : 0 < k) (h2 : k < h.length) : (swp k h)[i]? = if i = k then h[k - 1]? else if i = k - 1 then h[k]? else h[i]? := by
  have a : h.getD (k - 1) 0 = h[k - 1]'(by omega) := by simp [List.getD, List.getElem?_eq_getElem (show k - 1 < h.length by omega)]
  have b : h.getD k 0 = h[k]'h2 := by simp [List.getD, List.getElem?_eq_getElem h2]
  unfold swp
  rw [a, b]
  by_cases hk : i = k
  · subst hk
    rw [if_pos rfl, List.getElem?_set_self (by simpa using h2), List.getElem?_eq_getElem]
  · rw [if_neg hk, List.getElem?_set_ne (Ne.symm hk)]
    by_cases hj : i = k - 1
    · subst hj
      rw [if_pos rfl, List.getElem?_set_self (by omega), List.getElem?_eq_getElem]
    · rw [if_neg hj, List.getElem?_set_ne (Ne.symm hj)]
theorem swp_twice {k : Nat} {h : List Nat} (h1 : 0 < k) (h2 : k < h.length) : swp k (swp k h) = h := by
  apply List.ext_getElem?
  intro i
  have h3 : k < (swp k h).length := by rw [swp_len]; exact h2
  rw [swp_get h1 h3, swp_get h1 h2, swp_get h1 h2, swp_get h1 h2]
  by_cases a : i = k
  · subst a
    rw [if_pos rfl, if_neg (by omega), if_pos rfl]
  · rw [if_neg a]
    by_cases b : i = k - 1
    · subst b
      rw [if_pos rfl, if_pos rfl]
    · rw [if_neg b, if_neg a, if_neg b]
def tr (k x : Nat) : Nat := if x = k - 1 then k else if x = k then k - 1 else x
theorem swp_tr {k i : Nat} {h : List Nat} (h1 : 0 < k) (h2 : k < h.length) : (swp k h)[i]? = h[tr k i]? := by
  rw [swp_get h1 h2]
  unfold tr
  by_cases a : i = k
  · subst a
    rw [if_pos rfl, if_neg (by omega), if_pos rfl]
  · rw [if_neg a]
    by_cases b : i = k - 1
    · rw [if_pos b, if_pos b]
    · rw [if_neg b, if_neg b, if_neg a]
theorem tr_far {j k : Nat} (f : j + 1 < k ∨ k + 1 < j) (i : Nat) : tr k (tr j i) = tr j (tr k i) := by
  unfold tr
  repeat' split
  all_goals omega
theorem trA (m : Nat) : tr (m + 1) m = m + 1 := if_pos rfl
theorem trB (m : Nat) : tr (m + 1) (m + 1) = m := (if_neg (show ¬ m + 1 = m by omega)).trans (if_pos rfl)
theorem trC {m x : Nat} (h1 : x ≠ m) (h2 : x ≠ m + 1) : tr (m + 1) x = x := (if_neg h1).trans (if_neg h2)
theorem tr_braid {j : Nat} (h : 0 < j) (i : Nat) : tr j (tr (j + 1) (tr j i)) = tr (j + 1) (tr j (tr (j + 1) i)) := by
  obtain ⟨m, rfl⟩ : ∃ m, j = m + 1 := ⟨j - 1, by omega⟩
  by_cases a : i = m
  · subst a
    rw [trA, trA, trC (by omega) (by omega), trC (x := i) (by omega) (by omega), trA, trA]
  · by_cases b : i = m + 1
    · subst b
      rw [trB, trC (x := m) (by omega) (by omega), trA, trA, trC (x := m + 1 + 1) (by omega) (by omega), trB]
    · by_cases c : i = m + 1 + 1
      · subst c
        rw [trC (x := m + 1 + 1) (by omega) (by omega), trB, trB, trC (x := m) (by omega) (by omega)]
      · rw [trC a b, trC b c, trC a b, trC b c]
theorem swp_far {j k : Nat} {h : List Nat} (j1 : 0 < j) (j2 : j < h.length) (h1 : 0 < k) (h2 : k < h.length) (f : j + 1 < k ∨ k + 1 < j) : swp j (swp k h) = swp k (swp j h) := by
  apply List.ext_getElem?
  intro i
  rw [swp_tr j1 (by rw [swp_len]; exact j2), swp_tr h1 h2, swp_tr h1 (by rw [swp_len]; exact h2), swp_tr j1 j2, tr_far f]
theorem swp_braid1 {j : Nat} {h : List Nat} (j1 : 0 < j) (h2 : j + 1 < h.length) : swp j (swp (j + 1) (swp j h)) = swp (j + 1) (swp j (swp (j + 1) h)) := by
  apply List.ext_getElem?
  intro i
  have l : ∀ k (g : List Nat), (swp k g).length = g.length := swp_len
  rw [swp_tr j1 (by simp only [l]; omega), swp_tr (by omega) (by simp only [l]; omega), swp_tr j1 (by omega), swp_tr (by omega) (by simp only [l]; omega), swp_tr j1 (by simp only [l]; omega), swp_tr (by omega) h2, tr_braid j1]
theorem swp_braid {j k : Nat} {h : List Nat} (j1 : 0 < j) (j2 : j < h.length) (h1 : 0 < k) (h2 : k < h.length) (f : j + 1 = k ∨ k + 1 = j) : swp j (swp k (swp j h)) = swp k (swp j (swp k h)) := by
  rcases f with rfl | rfl
  · exact swp_braid1 j1 h2
  · exact (swp_braid1 h1 j2).symm
theorem swp_map (f : Nat → Nat) {k : Nat} {h : List Nat} (h1 : 0 < k) (h2 : k < h.length) : swp k (h.map f) = (swp k h).map f := by
  apply List.ext_getElem?
  intro i
  have h3 : k < (h.map f).length := by simpa using h2
  rw [swp_tr h1 h3, List.getElem?_map, List.getElem?_map, swp_tr h1 h2]
theorem here_map (f : Nat → Nat) : ∀ (w : List Int) (h : List Nat), (∀ x ∈ w, 0 < x.natAbs ∧ x.natAbs < h.length) → here (h.map f) w = (here h w).map f
  | [], h, _ => rfl
  | x :: w, h, hw => by
    have hx := hw x List.mem_cons_self
    rw [here, here, swp_map f hx.1 hx.2]
    exact here_map f w _ fun y hy => by rw [swp_len]; exact hw y (List.mem_cons_of_mem _ hy)
/-- one strand more -/
theorem swp_snoc (y : Nat) {k : Nat} {h : List Nat} (h1 : 0 < k) (h2 : k < h.length) : swp k (h ++ [y]) = swp k h ++ [y] := by
  apply List.ext_getElem?
  intro i
  have h3 : k < (h ++ [y]).length := by simp; omega
  have e0 : (h ++ [y])[k - 1]? = h[k - 1]? := List.getElem?_append_left (by omega)
  have e1 : (h ++ [y])[k]? = h[k]? := List.getElem?_append_left h2
  rw [swp_get h1 h3, e0, e1]
  by_cases hi : i < h.length
  · rw [List.getElem?_append_left (show i < (swp k h).length by rw [swp_len]; exact hi), swp_get h1 h2, List.getElem?_append_left hi]
  · rw [if_neg (by omega), if_neg (by omega), List.getElem?_append_right (show (swp k h).length ≤ i by rw [swp_len]; omega), List.getElem?_append_right (by omega), swp_len]
theorem here_snoc (y : Nat) : ∀ (w : List Int) (h : List Nat), (∀ x ∈ w, 0 < x.natAbs ∧ x.natAbs < h.length) → here (h ++ [y]) w = here h w ++ [y]
  | [], h, _ => rfl
  | x :: w, h, hw => by
    have hx := hw x List.mem_cons_self
    rw [here, here, swp_snoc y hx.1 hx.2]
    exact here_snoc y w _ fun y hy => by rw [swp_len]; exact hw y (List.mem_cons_of_mem _ hy)
/-! rounds -/
def lotGo (ord : List Nat) : Nat → List Nat → Nat → List Nat
  | 0, lot, _ => lot
  | f + 1, lot, at_ => if lot.contains at_ then lot else lotGo ord f (lot ++ [at_]) (ord.getD at_ 0)
def rStep (n : Nat) (ord : List Nat) (q : List Nat × List (List Nat)) (place : Nat) : List Nat × List (List Nat) :=
  if q.1.contains place then q else (q.1 ++ lotGo ord (n + 1) [] place, q.2 ++ [lotGo ord (n + 1) [] place])
def rounds (n : Nat) (ord : List Nat) : List Nat × List (List Nat) := (List.range n).foldl (rStep n ord) ([], [])
def ordOf (h : List Nat) : List Nat := (List.range h.length).map fun y => h.idxOf y
def cyc (h : List Nat) : Nat := (rounds h.length (ordOf h)).2.length
/-- all rows without like ones -/
def allG (n : Nat) (P : List Nat → Bool) : Nat → List Nat → Bool
  | 0, acc => P acc
  | k + 1, acc => (List.range n).all fun x => acc.contains x || allG n P k (x :: acc)
theorem allG_ok {n : Nat} {P : List Nat → Bool} : ∀ (k : Nat) (acc : List Nat), allG n P k acc = true → ∀ t, t.length = k → (t ++ acc).Nodup → (∀ x ∈ t, x < n) → P (t ++ acc) = true
  | 0, acc, h, t, ht, _, _ => by
    rw [List.length_eq_zero_iff.mp ht]
    exact h
  | k + 1, acc, h, t, ht, hn, hb => by
    have hne : t ≠ [] := fun z => by rw [z] at ht; cases ht
    obtain ⟨t', x, rfl⟩ : ∃ t' x, t = t' ++ [x] := ⟨t.dropLast, t.getLast hne, (List.dropLast_concat_getLast hne).symm⟩
    simp only [List.append_assoc, List.cons_append, List.nil_append] at hn ⊢
    have hx : x < n := hb x (by simp)
    have h1 := List.all_eq_true.mp h x (List.mem_range.mpr hx)
    have h2 : acc.contains x = false := by
      rw [List.nodup_append] at hn
      have := (List.nodup_cons.mp hn.2.1).1
      simpa using this
    rw [h2, Bool.false_or] at h1
    exact allG_ok k (x :: acc) h1 t' (by simpa using ht) hn fun y hy => hb y (by simp [hy])
def allP (n : Nat) (P : List Nat → Bool) : Bool := allG n P n []
theorem allP_ok {n : Nat} {P : List Nat → Bool} (h : allP n P = true) {l : List Nat} (hl : l.Perm (List.range n)) : P l = true := by
  have := allG_ok n [] h l (by rw [hl.length_eq, List.length_range]) (by rw [List.append_nil]; exact hl.nodup_iff.mpr List.nodup_range) fun x hx => List.mem_range.mp (hl.mem_iff.mp hx)
  rwa [List.append_nil] at this
def turnP (n : Nat) (h : List Nat) : Bool := (List.range n).all fun j => j == 0 || cyc (swp j h) == cyc (h.map (tr j))
def stackP (n : Nat) (h : List Nat) : Bool := cyc (swp n (h ++ [n])) == cyc h
theorem turn_low : (List.range 6).all (fun n => allP n (turnP n)) = true := by decide +kernel
theorem turn6_0_1 : allG 6 (turnP 6) 4 [1, 0] = true := by decide +kernel
theorem turn6_0_2 : allG 6 (turnP 6) 4 [2, 0] = true := by decide +kernel
theorem turn6_0_3 : allG 6 (turnP 6) 4 [3, 0] = true := by decide +kernel
theorem turn6_0_4 : allG 6 (turnP 6) 4 [4, 0] = true := by decide +kernel
theorem turn6_0_5 : allG 6 (turnP 6) 4 [5, 0] = true := by decide +kernel
theorem turn6_1_0 : allG 6 (turnP 6) 4 [0, 1] = true := by decide +kernel
theorem turn6_1_2 : allG 6 (turnP 6) 4 [2, 1] = true := by decide +kernel
theorem turn6_1_3 : allG 6 (turnP 6) 4 [3, 1] = true := by decide +kernel
theorem turn6_1_4 : allG 6 (turnP 6) 4 [4, 1] = true := by decide +kernel
theorem turn6_1_5 : allG 6 (turnP 6) 4 [5, 1] = true := by decide +kernel
theorem turn6_2_0 : allG 6 (turnP 6) 4 [0, 2] = true := by decide +kernel
theorem turn6_2_1 : allG 6 (turnP 6) 4 [1, 2] = true := by decide +kernel
theorem turn6_2_3 : allG 6 (turnP 6) 4 [3, 2] = true := by decide +kernel
theorem turn6_2_4 : allG 6 (turnP 6) 4 [4, 2] = true := by decide +kernel
theorem turn6_2_5 : allG 6 (turnP 6) 4 [5, 2] = true := by decide +kernel
theorem turn6_3_0 : allG 6 (turnP 6) 4 [0, 3] = true := by decide +kernel
theorem turn6_3_1 : allG 6 (turnP 6) 4 [1, 3] = true := by decide +kernel
theorem turn6_3_2 : allG 6 (turnP 6) 4 [2, 3] = true := by decide +kernel
theorem turn6_3_4 : allG 6 (turnP 6) 4 [4, 3] = true := by decide +kernel
theorem turn6_3_5 : allG 6 (turnP 6) 4 [5, 3] = true := by decide +kernel
theorem turn6_4_0 : allG 6 (turnP 6) 4 [0, 4] = true := by decide +kernel
theorem turn6_4_1 : allG 6 (turnP 6) 4 [1, 4] = true := by decide +kernel
theorem turn6_4_2 : allG 6 (turnP 6) 4 [2, 4] = true := by decide +kernel
theorem turn6_4_3 : allG 6 (turnP 6) 4 [3, 4] = true := by decide +kernel
theorem turn6_4_5 : allG 6 (turnP 6) 4 [5, 4] = true := by decide +kernel
theorem turn6_5_0 : allG 6 (turnP 6) 4 [0, 5] = true := by decide +kernel
theorem turn6_5_1 : allG 6 (turnP 6) 4 [1, 5] = true := by decide +kernel
theorem turn6_5_2 : allG 6 (turnP 6) 4 [2, 5] = true := by decide +kernel
theorem turn6_5_3 : allG 6 (turnP 6) 4 [3, 5] = true := by decide +kernel
theorem turn6_5_4 : allG 6 (turnP 6) 4 [4, 5] = true := by decide +kernel
theorem turn6_0 : allG 6 (turnP 6) 5 [0] = true := by
  unfold allG
  refine List.all_eq_true.mpr fun y hy => ?_
  have hy : y < 6 := List.mem_range.mp hy
  obtain rfl | rfl | rfl | rfl | rfl | rfl : y = 0 ∨ y = 1 ∨ y = 2 ∨ y = 3 ∨ y = 4 ∨ y = 5 := by omega
  · rfl
  · rw [turn6_0_1, Bool.or_true]
  · rw [turn6_0_2, Bool.or_true]
  · rw [turn6_0_3, Bool.or_true]
  · rw [turn6_0_4, Bool.or_true]
  · rw [turn6_0_5, Bool.or_true]
theorem turn6_1 : allG 6 (turnP 6) 5 [1] = true := by
  unfold allG
  refine List.all_eq_true.mpr fun y hy => ?_
  have hy : y < 6 := List.mem_range.mp hy
  obtain rfl | rfl | rfl | rfl | rfl | rfl : y = 0 ∨ y = 1 ∨ y = 2 ∨ y = 3 ∨ y = 4 ∨ y = 5 := by omega
  · rw [turn6_1_0, Bool.or_true]
  · rfl
  · rw [turn6_1_2, Bool.or_true]
  · rw [turn6_1_3, Bool.or_true]
  · rw [turn6_1_4, Bool.or_true]
  · rw [turn6_1_5, Bool.or_true]
theorem turn6_2 : allG 6 (turnP 6) 5 [2] = true := by
  unfold allG
  refine List.all_eq_true.mpr fun y hy => ?_
  have hy : y < 6 := List.mem_range.mp hy
  obtain rfl | rfl | rfl | rfl | rfl | rfl : y = 0 ∨ y = 1 ∨ y = 2 ∨ y = 3 ∨ y = 4 ∨ y = 5 := by omega
  · rw [turn6_2_0, Bool.or_true]
  · rw [turn6_2_1, Bool.or_true]
  · rfl
  · rw [turn6_2_3, Bool.or_true]
  · rw [turn6_2_4, Bool.or_true]
  · rw [turn6_2_5, Bool.or_true]
theorem turn6_3 : allG 6 (turnP 6) 5 [3] = true := by
  unfold allG
  refine List.all_eq_true.mpr fun y hy => ?_
  have hy : y < 6 := List.mem_range.mp hy
  obtain rfl | rfl | rfl | rfl | rfl | rfl : y = 0 ∨ y = 1 ∨ y = 2 ∨ y = 3 ∨ y = 4 ∨ y = 5 := by omega
  · rw [turn6_3_0, Bool.or_true]
  · rw [turn6_3_1, Bool.or_true]
  · rw [turn6_3_2, Bool.or_true]
  · rfl
  · rw [turn6_3_4, Bool.or_true]
  · rw [turn6_3_5, Bool.or_true]
theorem turn6_4 : allG 6 (turnP 6) 5 [4] = true := by
  unfold allG
  refine List.all_eq_true.mpr fun y hy => ?_
  have hy : y < 6 := List.mem_range.mp hy
  obtain rfl | rfl | rfl | rfl | rfl | rfl : y = 0 ∨ y = 1 ∨ y = 2 ∨ y = 3 ∨ y = 4 ∨ y = 5 := by omega
  · rw [turn6_4_0, Bool.or_true]
  · rw [turn6_4_1, Bool.or_true]
  · rw [turn6_4_2, Bool.or_true]
  · rw [turn6_4_3, Bool.or_true]
  · rfl
  · rw [turn6_4_5, Bool.or_true]
theorem turn6_5 : allG 6 (turnP 6) 5 [5] = true := by
  unfold allG
  refine List.all_eq_true.mpr fun y hy => ?_
  have hy : y < 6 := List.mem_range.mp hy
  obtain rfl | rfl | rfl | rfl | rfl | rfl : y = 0 ∨ y = 1 ∨ y = 2 ∨ y = 3 ∨ y = 4 ∨ y = 5 := by omega
  · rw [turn6_5_0, Bool.or_true]
  · rw [turn6_5_1, Bool.or_true]
  · rw [turn6_5_2, Bool.or_true]
  · rw [turn6_5_3, Bool.or_true]
  · rw [turn6_5_4, Bool.or_true]
  · rfl
theorem turn6 : allP 6 (turnP 6) = true := by
  unfold allP allG
  refine List.all_eq_true.mpr fun y hy => ?_
  have hy : y < 6 := List.mem_range.mp hy
  obtain rfl | rfl | rfl | rfl | rfl | rfl : y = 0 ∨ y = 1 ∨ y = 2 ∨ y = 3 ∨ y = 4 ∨ y = 5 := by omega
  · rw [turn6_0, Bool.or_true]
  · rw [turn6_1, Bool.or_true]
  · rw [turn6_2, Bool.or_true]
  · rw [turn6_3, Bool.or_true]
  · rw [turn6_4, Bool.or_true]
  · rw [turn6_5, Bool.or_true]
theorem turn_all {n : Nat} (h : n ≤ 6) : allP n (turnP n) = true := by
  by_cases h6 : n = 6
  · subst h6; exact turn6
  · exact List.all_eq_true.mp turn_low n (List.mem_range.mpr (by omega))
theorem stack_all : (List.range 6).all (fun n => n == 0 || allP n (stackP n)) = true := by decide +kernel
theorem swp_range {n k : Nat} (h1 : 0 < k) (h2 : k < n) : swp k (List.range n) = (List.range n).map (tr k) := by
  apply List.ext_getElem?
  intro i
  rw [swp_get h1 (by simpa using h2), List.getElem?_map]
  by_cases hi : i < n
  · rw [List.getElem?_range hi, List.getElem?_range h2, List.getElem?_range (show k - 1 < n by omega)]
    simp only [Option.map_some, tr]
    repeat' split
    all_goals first | rfl | omega | (congr 1; omega)
  · rw [if_neg (by omega), if_neg (by omega), List.getElem?_eq_none (by simpa using hi)]
    rfl
/-- how many rounds a word has -/
def cycW (n : Nat) (w : List Int) : Nat := cyc (here (List.range n) w)
abbrev Fit (n : Nat) (w : List Int) : Prop := ∀ x ∈ w, 0 < x.natAbs ∧ x.natAbs < n
theorem hereR {n : Nat} {w : List Int} (hw : Fit n w) : (here (List.range n) w).Perm (List.range n) := here_perm w _ (by simp) hw
theorem here_mid {n : Nat} {u v a b : List Int} (hu : Fit n u) (h : ∀ l : List Nat, l.length = n → here l a = here l b) : cycW n (u ++ a ++ v) = cycW n (u ++ b ++ v) := by
  unfold cycW
  rw [List.append_assoc, List.append_assoc, here_app, here_app, here_app, here_app, h _ (by rw [here_len]; simp)]
theorem cyc_turn {n : Nat} {x : Int} {r : List Int} (hn : n ≤ 6) (hw : Fit n (x :: r)) : cycW n (r ++ [x]) = cycW n (x :: r) := by
  have hx := hw x List.mem_cons_self
  have hr : Fit n r := fun y hy => hw y (List.mem_cons_of_mem _ hy)
  unfold cycW
  rw [here_app, here, here, here, swp_range hx.1 hx.2, here_map _ _ _ (by rw [List.length_range]; exact hr)]
  have h1 := turn_all hn
  have h2 := allP_ok h1 (hereR hr)
  have h3 := List.all_eq_true.mp h2 x.natAbs (List.mem_range.mpr hx.2)
  rw [Bool.or_eq_true] at h3
  rcases h3 with h3 | h3
  · have := beq_iff_eq.mp h3; omega
  · exact beq_iff_eq.mp h3
theorem cyc_stack {n : Nat} {w : List Int} {x : Int} (h0 : 0 < n) (hn : n ≤ 5) (hw : Fit n w) (hx : x.natAbs = n) : cycW (n + 1) (w ++ [x]) = cycW n w := by
  unfold cycW
  rw [here_app, List.range_succ, here_snoc _ _ _ (by rw [List.length_range]; exact hw), here, here, hx]
  have h1 := List.all_eq_true.mp stack_all n (List.mem_range.mpr (by omega))
  rw [Bool.or_eq_true] at h1
  rcases h1 with h1 | h1
  · have := beq_iff_eq.mp h1; omega
  · exact beq_iff_eq.mp (allP_ok h1 (hereR hw))
theorem cyc_take {n : Nat} {u v : List Int} {x y : Int} (hw : Fit n (u ++ x :: y :: v)) (h : y.natAbs = x.natAbs) : cycW n (u ++ x :: y :: v) = cycW n (u ++ v) := by
  have hx := hw x (by simp)
  have := here_mid (n := n) (u := u) (v := v) (a := [x, y]) (b := []) (fun z hz => hw z (by simp [hz])) fun l hl => by
    simp only [here]
    rw [h]
    exact swp_twice hx.1 (by omega)
  simpa using this
theorem cyc_far {n : Nat} {u v : List Int} {x y : Int} (hw : Fit n (u ++ x :: y :: v)) (h : x.natAbs + 1 < y.natAbs ∨ y.natAbs + 1 < x.natAbs) : cycW n (u ++ y :: x :: v) = cycW n (u ++ x :: y :: v) := by
  have hx := hw x (by simp)
  have hy := hw y (by simp)
  have := here_mid (n := n) (u := u) (v := v) (a := [y, x]) (b := [x, y]) (fun z hz => hw z (by simp [hz])) fun l hl => by
    simp only [here]
    exact swp_far hx.1 (by omega) hy.1 (by omega) h
  simpa using this
theorem cyc_three {n : Nat} {u v : List Int} {x y : Int} (hw : Fit n (u ++ x :: y :: x :: v)) (h : x.natAbs + 1 = y.natAbs ∨ y.natAbs + 1 = x.natAbs) : cycW n (u ++ y :: x :: y :: v) = cycW n (u ++ x :: y :: x :: v) := by
  have hx := hw x (by simp)
  have hy := hw y (by simp)
  have := here_mid (n := n) (u := u) (v := v) (a := [y, x, y]) (b := [x, y, x]) (fun z hz => hw z (by simp [hz])) fun l hl => by
    simp only [here]
    exact swp_braid hy.1 (by omega) hx.1 (by omega) (by omega)
  simpa using this
end Wm
/-! words: the denotation of rounds_of_word is the mirror -/
namespace Wm
open PySem L2 Mz
abbrev din (h : List Nat) : List D := h.map fun n : Nat => D.int (n : Int)
theorem din_dis (h : List Nat) : din h = dis (h.map fun n : Nat => (n : Int)) := by simp [dis, List.map_map, Function.comp_def]
theorem cmp_din (h : List Nat) : (D.lst (din h)).cmp := by rw [din_dis]; exact cmp_lints _
theorem notin_din (k : Nat) (l : List Nat) : dNotInS (.int k) (.lst (din l)) = some (.bl (!l.contains k)) := by
  unfold dNotInS
  rw [okE_of (cmp_int _), okE_of (cmp_din l)]
  simp only [Bool.and_self, if_true, v_dSeqL, Option.map_some, inB, List.any_map]
  congr 3
  rw [List.contains_eq_any_beq]
  congr 1
  funext y
  simp only [Function.comp]
  rw [eqD_of (by simp [D.plain]) (by simp [D.plain])]
  simp only [D.same]
  rw [Bool.eq_iff_iff, beq_iff_eq, beq_iff_eq]
  omega
theorem sorted_din (l : List Nat) : dSorted (.lst (din l)) = some (.lst ((sortI (l.map fun n : Nat => (n : Int))).map D.int)) := by
  have h : toInts (din l) = some (l.map fun n : Nat => (n : Int)) := by
    induction l with
    | nil => rfl
    | cons x l ih => simp only [List.map_cons, toInts, ih]
  unfold dSorted
  simp only [dLst, Option.bind_some, h, Option.map_some]
theorem ix_din {l : List Nat} {k : Nat} (h : k < l.length) : atI (din l) (k : Int) = some (.int (l.getD k 0 : Nat)) := by
  rw [Mz.atI_nat, List.getElem?_map, List.getElem?_eq_getElem h]
  simp [List.getD, List.getElem?_eq_getElem h]
theorem le_of_nodup {n : Nat} {l : List Nat} (hd : l.Nodup) (hb : ∀ x ∈ l, x < n) : l.length ≤ n := by
  have := List.Nodup.length_le_of_subset hd (fun x hx => List.mem_range.mpr (hb x hx) : l ⊆ List.range n)
  simpa using this
theorem lotGo_ok {n : Nat} {ord : List Nat} (ho : ord.length = n) (hb : ∀ x ∈ ord, x < n) : ∀ (f : Nat) (lot : List Nat) (k : Nat), k < n → lot.Nodup → (∀ x ∈ lot, x < n) → (lotGo ord f lot k).Nodup ∧ ∀ x ∈ lotGo ord f lot k, x < n
  | 0, lot, k, hk, hd, hl => ⟨hd, hl⟩
  | f + 1, lot, k, hk, hd, hl => by
    unfold lotGo
    by_cases hc : lot.contains k = true
    · rw [if_pos hc]; exact ⟨hd, hl⟩
    · rw [if_neg hc]
      have hk2 : k ∉ lot := fun z => hc (by simpa using z)
      refine lotGo_ok ho hb f _ _ ?_ ?_ ?_
      · have : k < ord.length := by omega
        simp only [List.getD, List.getElem?_eq_getElem this, Option.getD_some]
        exact hb _ (List.getElem_mem this)
      · rw [List.nodup_append]
        exact ⟨hd, by simp, fun a ha b hb2 => by rw [List.mem_singleton] at hb2; subst hb2; intro z; exact hk2 (z ▸ ha)⟩
      · intro x hx
        rcases List.mem_append.mp hx with hx | hx
        · exact hl x hx
        · simp at hx; omega
section
variable {p : Pen} {n : Nat} {ord : List Nat} {d0 d1 : D} {c2 c3 c4 c5 : Option D}
abbrev rwT : M Bool := tBl (mBin dNotInS (mVar 7) (mVar 6))
abbrev rwB : MS := sSeq (sApp 6 (mVar 7)) (sSet 7 (mBin dIx (mVar 2) (mVar 7)))
theorem rw_while (ho : ord.length = n) (hn : n ≤ 1000) (hb : ∀ x ∈ ord, x < n) : ∀ (f : Nat) (lot : List Nat) (k : Nat), k < n → lot.Nodup → (∀ x ∈ lot, x < n) → n ≤ lot.length + f →
    ∃ k' : Nat, mWhile rwT rwB (f + 1) [some d0, some d1, some (.lst (din ord)), c3, c4, c5, some (.lst (din lot)), some (.int k)] p = .next [some d0, some d1, some (.lst (din ord)), c3, c4, c5, some (.lst (din (lotGo ord f lot k))), some (.int k')] p := by
  intro f
  induction f with
  | zero =>
    intro lot k hk hd hl hf
    refine ⟨k, ?_⟩
    have hc : lot.contains k = true := by
      cases hc : lot.contains k with
      | true => rfl
      | false =>
        have hk2 : k ∉ lot := fun z => by simp [z] at hc
        have := le_of_nodup (List.nodup_cons.mpr ⟨hk2, hd⟩) (n := n) (by intro x hx; rcases List.mem_cons.mp hx with rfl | hx; exact hk; exact hl x hx)
        simp at this
        omega
    have ht : rwT [some d0, some d1, some (.lst (din ord)), c3, c4, c5, some (.lst (din lot)), some (.int k)] p = .ok false p := by
      simp [notin_din]
      simpa using hc
    exact wh_f ht
  | succ f ih =>
    intro lot k hk hd hl hf
    by_cases hc : lot.contains k = true
    · have ht : rwT [some d0, some d1, some (.lst (din ord)), c3, c4, c5, some (.lst (din lot)), some (.int k)] p = .ok false p := by
        simp [notin_din]
        simpa using hc
      refine ⟨k, ?_⟩
      rw [lotGo, if_pos hc]
      exact wh_f ht
    · have hk2 : k ∉ lot := fun z => hc (by simpa using z)
      have ht : rwT [some d0, some d1, some (.lst (din ord)), c3, c4, c5, some (.lst (din lot)), some (.int k)] p = .ok true p := by
        simp [notin_din]
        exact hk2
      have hll := le_of_nodup hd hl
      have hs : (din lot).length < 16777216 := by rw [List.length_map]; omega
      have hx := ix_din (l := ord) (k := k) (by omega)
      have hkk : k < ord.length := by omega
      have hbd : rwB [some d0, some d1, some (.lst (din ord)), c3, c4, c5, some (.lst (din lot)), some (.int k)] p = .next [some d0, some d1, some (.lst (din ord)), c3, c4, c5, some (.lst (din (lot ++ [k]))), some (.int (ord.getD k 0 : Nat))] p := by
        refine sq (e' := [some d0, some d1, some (.lst (din ord)), c3, c4, c5, some (.lst (din (lot ++ [k]))), some (.int k)]) (p' := p) ?_ ?_
        · rw [x_sApp]
          simp only [List.getElem?_cons_succ, List.getElem?_cons_zero, x_mVar, R.st_ok, sl_eq, hs, if_true]
          simp
        · rw [x_sSet]
          simp only [x_mBin, x_mVar, List.getElem?_cons_succ, List.getElem?_cons_zero, R.bind_ok, v_dIxL, hx, lift_some, R.st_ok]
          rfl
      obtain ⟨k', hk'⟩ := ih (lot ++ [k]) (ord.getD k 0) (by simp only [List.getD, List.getElem?_eq_getElem hkk, Option.getD_some]; exact hb _ (List.getElem_mem hkk)) (by
        rw [List.nodup_append]
        exact ⟨hd, by simp, fun a ha b hb2 => by rw [List.mem_singleton] at hb2; subst hb2; intro z; exact hk2 (z ▸ ha)⟩) (by
        intro x hx
        rcases List.mem_append.mp hx with hx | hx
        · exact hl x hx
        · simp at hx; omega) (by simp; omega)
      refine ⟨k', ?_⟩
      rw [lotGo, if_neg hc]
      exact wh_t ht hbd hk'
def rwF (w : Mz.Env → Nat) : MS := (sIf (tBl (mBin dNotInS (mVar 5) (mVar 4))) (sSeq (sParN [6, 7] (maConsO true (mLst maNil) (maConsO false (mVar 5) maNil)))
    (sSeq (sWhile w (tBl (mBin dNotInS (mVar 7) (mVar 6))) (sSeq (sApp 6 (mVar 7))
    (sSet 7 (mBin dIx (mVar 2) (mVar 7)))))
    (sSeq (sSet 4 (mBin dAdd (mVar 4) (mVar 6)))
    (sApp 3 (mUn dTuple (mUn dSorted (mVar 6))))))) sNext)
/-- the places of a lot, as they are told -/
def lotD (l : List Nat) : D := .tup ((sortI (l.map fun n : Nat => (n : Int))).map D.int)
theorem rw_place {w : Mz.Env → Nat} (hw : ∀ e : Mz.Env, e[2]? = some (some (.lst (din ord))) → w e = n + 2) (ho : ord.length = n) (hn : n ≤ 1000) (hb : ∀ x ∈ ord, x < n) {seen : List Nat} {found : List (List Nat)} {c6 c7 : Option D} {k : Nat} (hk : k < n)
    (hs : seen.length ≤ 1000000) (hf : found.length ≤ 1000000) :
    ∃ b6 b7, rwF w [some d0, some d1, some (.lst (din ord)), some (.lst (found.map lotD)), some (.lst (din seen)), some (.int k), c6, c7] p = .next [some d0, some d1, some (.lst (din ord)), some (.lst ((rStep n ord (seen, found) k).2.map lotD)), some (.lst (din (rStep n ord (seen, found) k).1)), some (.int k), b6, b7] p := by
  unfold rStep
  by_cases hc : seen.contains k = true
  · refine ⟨c6, c7, ?_⟩
    rw [if_pos hc]
    exact if_f (by simp [notin_din]; simpa using hc) rfl
  · rw [if_neg hc]
    obtain ⟨k', hk'⟩ := rw_while (p := p) (d0 := d0) (d1 := d1) (c3 := some (.lst (found.map lotD))) (c4 := some (.lst (din seen))) (c5 := some (.int k)) ho hn hb (n + 1) [] k hk List.nodup_nil (by simp) (by simp)
    have hl := lotGo_ok ho hb (n + 1) [] k hk List.nodup_nil (by simp)
    have hll := le_of_nodup hl.1 hl.2
    have h2 : w [some d0, some d1, some (D.lst (din ord)), some (.lst (found.map lotD)), some (.lst (din seen)), some (.int k), some (.lst []), some (.int k)] = n + 2 := hw _ rfl
    refine ⟨some (.lst (din (lotGo ord (n + 1) [] k))), some (.int k'), ?_⟩
    have h3 : (din seen).length + (din (lotGo ord (n + 1) [] k)).length ≤ 16777216 := by simp only [List.length_map]; omega
    have h4 : (found.map lotD).length < 16777216 := by rw [List.length_map]; omega
    refine if_t (p' := p) (by simp [notin_din]; simpa using hc) (sq (e' := [some d0, some d1, some (D.lst (din ord)), some (.lst (found.map lotD)), some (.lst (din seen)), some (.int k), some (.lst []), some (.int k)]) (p' := p) (by simp; rfl) (sq_while (w := w) (by rw [h2]; exact hk') (sq_set (.lst (din (seen ++ lotGo ord (n + 1) [] k))) ?_ ?_)))
    · simp only [x_mBin, x_mVar, List.getElem?_cons_succ, List.getElem?_cons_zero, R.bind_ok, v_dAddL, sl_eq, h3, if_true, lift_some]
      simp
    · rw [x_sApp]
      simp only [List.set_cons_succ, List.set_cons_zero, x_mUn, x_mVar, List.getElem?_cons_succ, List.getElem?_cons_zero, R.bind_ok, sorted_din, lift_some, v_dTupleL, R.st_ok, sl_eq, h4, if_true, List.map_append, List.map_cons, List.map_nil, lotD]
theorem rStep_le (hk : ∀ (k : Nat), k < n → (lotGo ord (n + 1) [] k).length ≤ n) {q : List Nat × List (List Nat)} {k : Nat} (h : k < n) : (rStep n ord q k).1.length ≤ q.1.length + n ∧ (rStep n ord q k).2.length ≤ q.2.length + 1 := by
  unfold rStep
  have := hk k h
  split <;> simp <;> omega
theorem rw_places {w : Mz.Env → Nat} (hw : ∀ e : Mz.Env, e[2]? = some (some (.lst (din ord))) → w e = n + 2) (ho : ord.length = n) (hn : n ≤ 1000) (hb : ∀ x ∈ ord, x < n) : ∀ (ks : List Nat) (q : List Nat × List (List Nat)) (c5 c6 c7 : Option D), (∀ k ∈ ks, k < n) → q.1.length + ks.length * n ≤ 1000000 → q.2.length + ks.length ≤ 1000000 →
    ∃ b5 b6 b7, mFor (gtName 5) (rwF w) (din ks) [some d0, some d1, some (.lst (din ord)), some (.lst (q.2.map lotD)), some (.lst (din q.1)), c5, c6, c7] p = .next [some d0, some d1, some (.lst (din ord)), some (.lst ((ks.foldl (rStep n ord) q).2.map lotD)), some (.lst (din (ks.foldl (rStep n ord) q).1)), b5, b6, b7] p
  | [], q, c5, c6, c7, _, _, _ => ⟨c5, c6, c7, rfl⟩
  | k :: ks, q, c5, c6, c7, hk, h1, h2 => by
    simp only [List.length_cons] at h1 h2
    rw [Nat.add_mul, Nat.one_mul] at h1
    have hk0 := hk k List.mem_cons_self
    obtain ⟨a6, a7, ha⟩ := rw_place (p := p) (d0 := d0) (d1 := d1) (c6 := c6) (c7 := c7) (seen := q.1) (found := q.2) hw ho hn hb hk0 (by omega) (by omega)
    have hr := rStep_le (ord := ord) (n := n) (fun k hk => by
      have hl := lotGo_ok ho hb (n + 1) [] k hk List.nodup_nil (by simp)
      exact le_of_nodup hl.1 hl.2) (q := q) hk0
    obtain ⟨b5, b6, b7, hb'⟩ := rw_places hw ho hn hb ks (rStep n ord q k) (some (.int k)) a6 a7 (fun j hj => hk j (List.mem_cons_of_mem _ hj)) (by omega) (by omega)
    exact ⟨b5, b6, b7, fo_cons rfl ha hb'⟩
/-- rounds_of_word behind order_of -/
theorem rw_ok {fo : Fd} {w : Mz.Env → Nat} {W : D} (hfo : fo [.int n, W] p = .ok (.lst (din ord)) p) (hw : ∀ e : Mz.Env, e[2]? = some (some (.lst (din ord))) → w e = n + 2) (ho : ord.length = n) (hn : n ≤ 900) (hb : ∀ x ∈ ord, x < n) :
    fdOf 8 (sSeq (sParN [2, 3, 4] (maConsO false (mCall fo (maCons (mVar 0) (maCons (mVar 1) maNil))) (maConsO true (mLst maNil) (maConsO false (mLst maNil) maNil))))
      (sSeq (sFor (miRng1 (mVar 0)) (gtName 5) (rwF w)) (sRet (mUn dTuple (mVar 3))))) [.int n, W] p = .ok (.tup ((rounds n ord).2.map lotD)) p := by
  obtain ⟨c5, c6, c7, h⟩ := rw_places (p := p) (d0 := .int n) (d1 := W) hw ho (by omega) hb (List.range n) ([], []) none none none (fun k hk => List.mem_range.mp hk) (by simp; have := Nat.mul_le_mul hn hn; omega) (by simp; omega)
  refine fd_ret (e := [some (.int n), some W, none, none, none, none, none, none]) rfl (sq (e' := [some (.int n), some W, some (.lst (din ord)), some (.lst []), some (.lst []), none, none, none]) (p' := p) (by simp [hfo]; rfl) (sq_for (rng_nat (j := n) (by simp) (by omega)) (e' := [some (.int n), some W, some (.lst (din ord)), some (.lst ((rounds n ord).2.map lotD)), some (.lst (din (rounds n ord).1)), c5, c6, c7]) (p' := p) ?_ (ret_ok (by simp))))
  rw [show rngD 0 n = din (List.range n) by simp [rngD]]
  exact h
end
end Wm
/-! words: how many rounds, by parity and from above; plain -/
namespace Wm
abbrev Hs (w : List Int) (k : Nat) : Prop := ∃ x ∈ w, x.natAbs = k
def parP (n : Nat) (h : List Nat) : Bool := (List.range n).all fun k => k == 0 || (cyc (swp k h) == cyc h + 1 || cyc (swp k h) + 1 == cyc h)
def mrgP (n : Nat) (h : List Nat) : Bool := (List.range n).all fun k => k == 0 || (!((h.take k).all fun x => Nat.blt x k) || cyc (swp k h) + 1 == cyc h)
theorem par_all : (List.range 5).all (fun n => allP n (parP n)) = true := by decide +kernel
theorem mrg_all : (List.range 5).all (fun n => allP n (mrgP n)) = true := by decide +kernel
theorem id_all : (List.range 5).all (fun n => cyc (List.range n) == n) = true := by decide +kernel
theorem cycW_snoc {n : Nat} {w : List Int} {x : Int} : cycW n (w ++ [x]) = cyc (swp x.natAbs (here (List.range n) w)) := by
  unfold cycW
  rw [here_app]
  rfl
theorem cycW_nil {n : Nat} (h : n ≤ 4) : cycW n [] = n := beq_iff_eq.mp (List.all_eq_true.mp id_all n (List.mem_range.mpr (by omega)))
theorem cyc_snoc {n : Nat} {w : List Int} {x : Int} (h : n ≤ 4) (hw : Fit n (w ++ [x])) : cycW n (w ++ [x]) = cycW n w + 1 ∨ cycW n (w ++ [x]) + 1 = cycW n w := by
  have hx := hw x (by simp)
  have hf : Fit n w := fun y hy => hw y (by simp [hy])
  have h1 := allP_ok (List.all_eq_true.mp par_all n (List.mem_range.mpr (by omega))) (hereR hf)
  have h2 := List.all_eq_true.mp h1 x.natAbs (List.mem_range.mpr hx.2)
  rw [Bool.or_eq_true, Bool.or_eq_true] at h2
  rw [cycW_snoc]
  rcases h2 with h2 | h2 | h2
  · have := beq_iff_eq.mp h2; omega
  · exact .inl (beq_iff_eq.mp h2)
  · exact .inr (beq_iff_eq.mp h2)
theorem tr_lt {j k i : Nat} (hj : 0 < j) (hk : j ≠ k) (hi : i < k) : tr j i < k := by
  unfold tr
  by_cases a : i = j - 1
  · rw [if_pos a]; omega
  · rw [if_neg a]
    by_cases b : i = j
    · rw [if_pos b]; omega
    · rw [if_neg b]; exact hi
theorem low_here {n k : Nat} : ∀ (w : List Int) (h : List Nat), h.length = n → Fit n w → ¬ Hs w k → (∀ i v, i < k → h[i]? = some v → v < k) → ∀ i v, i < k → (here h w)[i]? = some v → v < k
  | [], h, _, _, _, hh => hh
  | x :: w, h, hl, hf, hn, hh => by
    have hx := hf x List.mem_cons_self
    refine low_here w (swp x.natAbs h) (by rw [swp_len]; exact hl) (fun y hy => hf y (List.mem_cons_of_mem _ hy)) (fun ⟨y, hy, e⟩ => hn ⟨y, List.mem_cons_of_mem _ hy, e⟩) fun i v hi hv => ?_
    rw [swp_tr hx.1 (by omega)] at hv
    exact hh _ v (tr_lt hx.1 (fun e => hn ⟨x, List.mem_cons_self, e⟩) hi) hv
theorem cyc_new {n : Nat} {w : List Int} {x : Int} (h : n ≤ 4) (hw : Fit n (w ++ [x])) (hn : ¬ Hs w x.natAbs) : cycW n (w ++ [x]) + 1 = cycW n w := by
  have hx := hw x (by simp)
  have hf : Fit n w := fun y hy => hw y (by simp [hy])
  have h1 := allP_ok (List.all_eq_true.mp mrg_all n (List.mem_range.mpr (by omega))) (hereR hf)
  have h2 := List.all_eq_true.mp h1 x.natAbs (List.mem_range.mpr hx.2)
  rw [Bool.or_eq_true, Bool.or_eq_true] at h2
  rw [cycW_snoc]
  rcases h2 with h2 | h2 | h2
  · have := beq_iff_eq.mp h2; omega
  · exfalso
    have : ((here (List.range n) w).take x.natAbs).all (fun y => Nat.blt y x.natAbs) = true := List.all_eq_true.mpr fun y hy => by
      obtain ⟨i, hi⟩ := List.mem_iff_getElem?.mp hy
      by_cases hik : i < x.natAbs
      · rw [List.getElem?_take_of_lt hik] at hi
        have hlt := low_here w (List.range n) (by simp) hf hn (fun i v h1 h2 => by
          by_cases hin : i < n
          · rw [List.getElem?_range hin] at h2; cases h2; exact h1
          · rw [List.getElem?_eq_none (by simpa using hin)] at h2; cases h2) i y hik hi
        simpa [Nat.blt_eq] using hlt
      · rw [List.getElem?_eq_none (by rw [List.length_take]; omega)] at hi; cases hi
    rw [this] at h2
    cases h2
  · exact beq_iff_eq.mp h2
/-- how many neighbours no item crosses -/
def mis (w : List Int) : Nat → Nat
  | 0 => 0
  | k + 1 => mis w k + (if 0 < k ∧ (w.all fun x => !(x.natAbs == k)) = true then 1 else 0)
theorem all_hs {w : List Int} {k : Nat} : (w.all fun x => !(x.natAbs == k)) = true ↔ ¬ Hs w k := by
  simp only [List.all_eq_true, Bool.not_eq_true', beq_eq_false_iff_ne]
  exact ⟨fun h ⟨x, hx, e⟩ => h x hx e, fun h x hx e => h ⟨x, hx, e⟩⟩
theorem hs_snoc {w : List Int} {x : Int} {k : Nat} : Hs (w ++ [x]) k ↔ Hs w k ∨ x.natAbs = k := by
  constructor
  · rintro ⟨y, hy, e⟩
    rcases List.mem_append.mp hy with hy | hy
    · exact .inl ⟨y, hy, e⟩
    · rw [List.mem_singleton.mp hy] at e; exact .inr e
  · rintro (⟨y, hy, e⟩ | e)
    · exact ⟨y, by simp [hy], e⟩
    · exact ⟨x, by simp, e⟩
theorem mis_old {w : List Int} {x : Int} (h : Hs w x.natAbs) : ∀ n, mis (w ++ [x]) n = mis w n
  | 0 => rfl
  | k + 1 => by
    unfold mis
    rw [mis_old h k]
    congr 1
    have : ((w ++ [x]).all fun x => !(x.natAbs == k)) = (w.all fun x => !(x.natAbs == k)) := by
      rw [Bool.eq_iff_iff, all_hs, all_hs, hs_snoc]
      constructor
      · exact fun q r => q (.inl r)
      · rintro q (r | r)
        · exact q r
        · exact q (r ▸ h)
    rw [this]
theorem mis_new {w : List Int} {x : Int} (h : ¬ Hs w x.natAbs) (h0 : 0 < x.natAbs) : ∀ n, mis (w ++ [x]) n + (if x.natAbs < n then 1 else 0) = mis w n
  | 0 => by simp [mis]
  | k + 1 => by
    have ih := mis_new h h0 k
    unfold mis
    by_cases hk : x.natAbs = k
    · have a1 : ((w ++ [x]).all fun x => !(x.natAbs == k)) = false := by
        cases q : ((w ++ [x]).all fun x => !(x.natAbs == k)) with
        | false => rfl
        | true => exact absurd (hs_snoc.mpr (.inr hk)) (all_hs.mp q)
      have a2 : (w.all fun x => !(x.natAbs == k)) = true := all_hs.mpr (hk ▸ h)
      rw [a1, a2]
      rw [if_neg (show ¬ x.natAbs < k by omega)] at ih
      rw [if_neg (show ¬ (0 < k ∧ false = true) by simp), if_pos (show x.natAbs < k + 1 by omega), if_pos (show 0 < k ∧ true = true from ⟨by omega, rfl⟩)]
      omega
    · have a1 : ((w ++ [x]).all fun x => !(x.natAbs == k)) = (w.all fun x => !(x.natAbs == k)) := by
        rw [Bool.eq_iff_iff, all_hs, all_hs, hs_snoc]
        exact ⟨fun q r => q (.inl r), fun q r => r.elim q hk⟩
      rw [a1]
      by_cases hl : x.natAbs < k
      · rw [if_pos hl] at ih
        rw [if_pos (show x.natAbs < k + 1 by omega)]
        omega
      · rw [if_neg hl] at ih
        rw [if_neg (show ¬ x.natAbs < k + 1 by omega)]
        omega
theorem mis_nil : ∀ n, mis [] n = n - 1
  | 0 => rfl
  | 1 => rfl
  | k + 2 => by
    unfold mis
    rw [mis_nil (k + 1)]
    simp
theorem mis_zero {w : List Int} : ∀ {n : Nat}, (∀ k, 0 < k → k < n → Hs w k) → mis w n = 0
  | 0, _ => rfl
  | k + 1, h => by
    unfold mis
    rw [mis_zero fun j h1 h2 => h j h1 (by omega)]
    rw [if_neg]
    rintro ⟨h1, h2⟩
    exact all_hs.mp h2 (h k h1 (by omega))
theorem cyc_bound {n : Nat} (h : n ≤ 4) (h1 : 1 ≤ n) : ∀ (m : Nat) (w : List Int), w.length = m → Fit n w → (cycW n w + w.length + n) % 2 = 0 ∧ cycW n w + n ≤ 2 * (mis w n + 1) + w.length
  | 0, w, hm, _ => by
    rw [List.length_eq_zero_iff.mp hm, cycW_nil h, mis_nil]
    simp
    omega
  | m + 1, w, hm, hf => by
    have hne : w ≠ [] := fun z => by rw [z] at hm; cases hm
    obtain ⟨w', x, rfl⟩ : ∃ w' x, w = w' ++ [x] := ⟨w.dropLast, w.getLast hne, (List.dropLast_concat_getLast hne).symm⟩
    have hf' : Fit n w' := fun y hy => hf y (by simp [hy])
    have hx := hf x (by simp)
    have ih := cyc_bound h h1 m w' (by simpa using hm) hf'
    rw [List.length_append, List.length_singleton]
    have hs := cyc_snoc h hf
    refine ⟨by omega, ?_⟩
    by_cases hh : Hs w' x.natAbs
    · rw [mis_old hh]; omega
    · have h2 := mis_new hh hx.1 n
      rw [if_pos hx.2] at h2
      have h3 := cyc_new h hf hh
      omega
end Wm
/-! printed by gen.py -/
namespace K75
open PySem PySem.Spec PyProof.Rows L2 Mz
def top (i : Nat) : Stmt := PySem.Challenge.pw_linkholes_k75_whole_genus_of_words.main.body.getD i (.Pass ⟨0, 0, 0, 0⟩)
/-- how often a loop may turn -/
def lenAt (i : Nat) (e : Mz.Env) : Nat := match e[i]? with | some (some (D.lst ds)) => ds.length | _ => 0
def w_rounds_of_word_0 (e : Mz.Env) : Nat := lenAt 2 e + 2
/-- is_integer -/
def b_is_integer : MS :=
    (sRet (mAndM (mBin dIsi (mVar 0) (mC (.ty "int"))) (mNotM (mBin dIsi (mVar 0) (mC (.ty "bool"))))))
def f_is_integer : Fd := fdOf 1 b_is_integer
/-- is_count -/
def b_is_count : MS :=
    (sRet (mAndM (mCall f_is_integer (maCons (mVar 0) maNil)) (mAndM (mBin dGe (mVar 0) (mC (.int 0))) (mOrM (mBin dIsN (mVar 1) (mC .non)) (mBin dLe (mVar 0) (mVar 1))))))
def f_is_count : Fd := fdOf 2 b_is_count
/-- is_row -/
def b_is_row : MS :=
    (sRet (mBin dIsi (mVar 0) (mTup (maCons (mC (.ty "list")) (maCons (mC (.ty "tuple")) maNil)))))
def f_is_row : Fd := fdOf 1 b_is_row
/-- kept_0 -/
def b_kept_0 : MS :=
    (fun _ _ => .stuck)
def f_kept_0 : Fd := fdOf 2 b_kept_0
/-- kept_1 -/
def b_kept_1 : MS :=
    (sRet (mIf (tTru (mCall f_is_row (maCons (mVar 0) maNil))) (mUn dTuple (mLc (miSeq (mVar 0)) (gtName 1) tYesM (mCall f_kept_0 (maCons (mVar 1) maNil)) [1])) (mVar 0)))
def f_kept_1 : Fd := fdOf 2 b_kept_1
/-- kept_2 -/
def b_kept_2 : MS :=
    (sRet (mIf (tTru (mCall f_is_row (maCons (mVar 0) maNil))) (mUn dTuple (mLc (miSeq (mVar 0)) (gtName 1) tYesM (mCall f_kept_1 (maCons (mVar 1) maNil)) [1])) (mVar 0)))
def f_kept_2 : Fd := fdOf 2 b_kept_2
/-- kept_3 -/
def b_kept_3 : MS :=
    (sRet (mIf (tTru (mCall f_is_row (maCons (mVar 0) maNil))) (mUn dTuple (mLc (miSeq (mVar 0)) (gtName 1) tYesM (mCall f_kept_2 (maCons (mVar 1) maNil)) [1])) (mVar 0)))
def f_kept_3 : Fd := fdOf 2 b_kept_3
/-- need_strands -/
def b_need_strands : MS :=
    (sIf (tOrM (tNotM (tTru (mCall f_is_integer (maCons (mVar 0) maNil)))) (tNotM (tBl (mChain dLe dLe (mC (.int 1)) (mVar 0) (mC (.int 6)))))) (sRaise 0 ["what", "value"] (maCons (mC (.str "strands")) (maCons (mVar 0) maNil))) sNext)
def f_need_strands : Fd := fdOf 1 b_need_strands
/-- need_letters -/
def b_need_letters : MS :=
    (sSeq (sIf (tOrM (tNotM (tTru (mCall f_is_row (maCons (mVar 1) maNil)))) (tBl (mBin dGt (mUn dLen (mVar 1)) (mC (.int 12))))) (sRaise 2 ["index"] (maCons (mC .non) maNil)) sNext)
    (sFor (miEnum (mVar 1)) (gtTup (gtCons (gtName 2) (gtCons (gtName 3) gtNil))) (sIf (tOrM (tNotM (tTru (mCall f_is_integer (maCons (mVar 3) maNil)))) (tNotM (tBl (mChain dLt dLt (mC (.int 0)) (mUn dAbs (mVar 3)) (mVar 0))))) (sRaise 2 ["index"] (maCons (mVar 2) maNil)) sNext)))
def f_need_letters : Fd := fdOf 4 b_need_letters
/-- need_word -/
def b_need_word : MS :=
    (sSeq (sExpr (mCall f_need_strands (maCons (mVar 0) maNil)))
    (sExpr (mCall f_need_letters (maCons (mVar 0) (maCons (mVar 1) maNil)))))
def f_need_word : Fd := fdOf 2 b_need_word
/-- order_of -/
def b_order_of : MS :=
    (sSeq (sSet 2 (mUn (fun y => dRngL (.int 0) y) (mVar 0)))
    (sSeq (sFor (miSeq (mVar 1)) (gtName 3) (sSeq (sSet 4 (mUn dAbs (mVar 3)))
    (sSet2 2 (maCons (mBin dIx (mVar 2) (mVar 4)) (maCons (mBin dIx (mVar 2) (mBin dSub (mVar 4) (mC (.int 1)))) maNil)) (mBin dSub (mVar 4) (mC (.int 1))) (mVar 4))))
    (sRet (mLc (miRng1 (mVar 0)) (gtName 5) tYesM (mIndex (mVar 2) (mVar 5)) [5]))))
def f_order_of : Fd := fdOf 6 b_order_of
/-- rounds_of_word -/
def b_rounds_of_word : MS :=
    (sSeq (sParN [2, 3, 4] (maConsO false (mCall f_order_of (maCons (mVar 0) (maCons (mVar 1) maNil))) (maConsO true (mLst maNil) (maConsO false (mLst maNil) maNil))))
    (sSeq (sFor (miRng1 (mVar 0)) (gtName 5) (sIf (tBl (mBin dNotInS (mVar 5) (mVar 4))) (sSeq (sParN [6, 7] (maConsO true (mLst maNil) (maConsO false (mVar 5) maNil)))
    (sSeq (sWhile w_rounds_of_word_0 (tBl (mBin dNotInS (mVar 7) (mVar 6))) (sSeq (sApp 6 (mVar 7))
    (sSet 7 (mBin dIx (mVar 2) (mVar 7)))))
    (sSeq (sSet 4 (mBin dAdd (mVar 4) (mVar 6)))
    (sApp 3 (mUn dTuple (mUn dSorted (mVar 6))))))) sNext))
    (sRet (mUn dTuple (mVar 3)))))
def f_rounds_of_word : Fd := fdOf 8 b_rounds_of_word
/-- Together -/
def b_Together (x : Addr) : IS :=
    (iCat (iFld x "indices" (fun fds => (mCall f_kept_3 (maCons (mVar 1) maNil))))
    iNil)
def f_Together : Fi := fiOf 2 b_Together 0
/-- Apart -/
def b_Apart (x : Addr) : IS :=
    (iCat (iFld x "k" (fun fds => (mVar 1)))
    iNil)
def f_Apart : Fi := fiOf 2 b_Apart 0
/-- settled_together -/
def b_settled_together : MS :=
    (sSeq (sParN [2, 3] (maConsO false (mLc (miSeq (mVar 1)) (gtName 5) tYesM (mUn dAbs (mVar 5)) [5]) (maConsO true (mLst maNil) maNil)))
    (sSeq (sFor (miRng2 (mC (.int 1)) (mVar 0)) (gtName 4) (sSeq (sIf (tBl (mBin dNotInS (mVar 4) (mVar 2))) (sRet (mNew 6 f_Apart (maCons (mVar 4) maNil))) sNext)
    (sApp 3 (mIndex (mVar 2) (mVar 4)))))
    (sRet (mNew 5 f_Together (maCons (mVar 3) maNil)))))
def f_settled_together : Fd := fdOf 6 b_settled_together
/-- Positive -/
def b_Positive (x : Addr) : IS :=
    (iCat (iFld x "places" (fun fds => (mCall f_kept_3 (maCons (mVar 1) maNil))))
    iNil)
def f_Positive : Fi := fiOf 2 b_Positive 0
/-- Negative -/
def b_Negative (x : Addr) : IS :=
    (iCat (iFld x "index" (fun fds => (mVar 1)))
    iNil)
def f_Negative : Fi := fiOf 2 b_Negative 0
/-- lots_among -/
def b_lots_among : MS :=
    (sSeq (sSet 2 (mC (.int 1)))
    (sSeq (sFor (miRng1 (mVar 1)) (gtName 3) (sSet 2 (mBin dDiv (mBin dMul (mVar 2) (mBin dSub (mVar 0) (mVar 3))) (mBin dAdd (mVar 3) (mC (.int 1))))))
    (sRet (mVar 2))))
def f_lots_among : Fd := fdOf 4 b_lots_among
/-- parts_of_word -/
def b_parts_of_word : MS :=
    (sSeq (sSet 2 (mLc (miSeq (mVar 1)) (gtName 3) tYesM (mUn dAbs (mVar 3)) [3]))
    (sRet (mBin dAdd (mC (.int 1)) (mUn dLen (mLc (miRng2 (mC (.int 1)) (mVar 0)) (gtName 4) (tBl (mBin dNotInS (mVar 4) (mVar 2))) (mVar 4) [4])))))
def f_parts_of_word : Fd := fdOf 5 b_parts_of_word
/-- settled_positive -/
def b_settled_positive : MS :=
    (sSeq (sFor (miEnum (mVar 1)) (gtTup (gtCons (gtName 2) (gtCons (gtName 3) gtNil))) (sIf (tBl (mBin dLt (mVar 3) (mC (.int 0)))) (sRet (mNew 8 f_Negative (maCons (mVar 2) maNil))) sNext))
    (sSeq (sSet 4 (mCall f_parts_of_word (maCons (mVar 0) (maCons (mVar 1) maNil))))
    (sRet (mNew 7 f_Positive (maCons (mLc (miRng1 (mBin dAdd (mVar 4) (mC (.int 1)))) (gtName 5) tYesM (mTup (maCons (mBin dAdd (mBin dSub (mUn dLen (mVar 1)) (mVar 0)) (mBin dMul (mC (.int 2)) (mVar 5))) (maCons (mCall f_lots_among (maCons (mVar 4) (maCons (mVar 5) maNil))) maNil))) [5]) maNil)))))
def f_settled_positive : Fd := fdOf 6 b_settled_positive
/-- word_genus -/
def b_word_genus : MS :=
    (sSeq (sExpr (mCall f_need_word (maCons (mVar 0) (maCons (mVar 1) maNil))))
    (sSeq (sSet 2 (mCall f_settled_positive (maCons (mVar 0) (maCons (mVar 1) maNil))))
    (sSeq (sIf (tTru (mUn (dIsC 8) (mVar 2))) (sRaise 3 ["answer"] (maCons (mVar 2) maNil)) sNext)
    (sSeq (sSet 3 (mCall f_settled_together (maCons (mVar 0) (maCons (mVar 1) maNil))))
    (sSeq (sIf (tNotM (tTru (mUn (dIsC 5) (mVar 3)))) (sRaise 4 ["answer"] (maCons (mVar 3) maNil)) sNext)
    (sRet (mBin dDiv (mBin dSub (mBin dSub (mBin dAdd (mC (.int 2)) (mUn dLen (mVar 1))) (mVar 0)) (mUn dLen (mCall f_rounds_of_word (maCons (mVar 0) (maCons (mVar 1) maNil))))) (mC (.int 2)))))))))
def f_word_genus : Fd := fdOf 4 b_word_genus
/-- put_in -/
def b_put_in : MS :=
    (sSeq (sIf (tOrM (tBl (mBin dNe (mUn dLen (mVar 2)) (mC (.int 3)))) (tOrM (tNotM (tTru (mCall f_is_count (maCons (mBin dIx (mVar 2) (mC (.int 1))) (maCons (mUn dLen (mVar 1)) maNil))))) (tOrM (tNotM (tTru (mCall f_is_integer (maCons (mBin dIx (mVar 2) (mC (.int 2))) maNil)))) (tNotM (tBl (mChain dLt dLt (mC (.int 0)) (mUn dAbs (mBin dIx (mVar 2) (mC (.int 2)))) (mVar 0))))))) (sRet (mC .non)) sNext)
    (sRet (mTup (maCons (mVar 0) (maCons (mBin dAdd (mBin dAdd (mSl (mVar 1) moNone (moSome (mBin dIx (mVar 2) (mC (.int 1))))) (mTup (maCons (mBin dIx (mVar 2) (mC (.int 2))) (maCons (mUn dNeg (mBin dIx (mVar 2) (mC (.int 2)))) maNil)))) (mSl (mVar 1) (moSome (mBin dIx (mVar 2) (mC (.int 1)))) moNone)) maNil)))))
def f_put_in : Fd := fdOf 3 b_put_in
/-- changed_at -/
def b_changed_at : MS :=
    (sSeq (sIf (tOrM (tBl (mBin dNe (mUn dLen (mVar 1)) (mC (.int 2)))) (tNotM (tTru (mCall f_is_count (maCons (mBin dIx (mVar 1) (mC (.int 1))) (maCons (mBin dSub (mUn dLen (mVar 0)) (mC (.int 2))) maNil)))))) (sRet (mC .non)) sNext)
    (sSeq (sSet 2 (mBin dIx (mVar 1) (mC (.int 1))))
    (sSeq (sParN [3, 4] (maConsO false (mBin dIx (mVar 0) (mVar 2)) (maConsO false (mBin dIx (mVar 0) (mBin dAdd (mVar 2) (mC (.int 1)))) maNil)))
    (sSeq (sIf (tBl (mBin dEq (mBin dIx (mVar 1) (mC (.int 0))) (mC (.str "take")))) (sRet (mIf (tBl (mBin dEq (mVar 3) (mUn dNeg (mVar 4)))) (mBin dAdd (mSl (mVar 0) moNone (moSome (mVar 2))) (mSl (mVar 0) (moSome (mBin dAdd (mVar 2) (mC (.int 2)))) moNone)) (mC .non))) sNext)
    (sSeq (sIf (tBl (mBin dEq (mBin dIx (mVar 1) (mC (.int 0))) (mC (.str "far")))) (sRet (mIf (tBl (mBin dGt (mUn dAbs (mBin dSub (mUn dAbs (mVar 3)) (mUn dAbs (mVar 4)))) (mC (.int 1)))) (mBin dAdd (mBin dAdd (mSl (mVar 0) moNone (moSome (mVar 2))) (mTup (maCons (mVar 4) (maCons (mVar 3) maNil)))) (mSl (mVar 0) (moSome (mBin dAdd (mVar 2) (mC (.int 2)))) moNone)) (mC .non))) sNext)
    (sSeq (sIf (tOrM (tBl (mBin dNe (mSl (mVar 0) (moSome (mBin dAdd (mVar 2) (mC (.int 2)))) (moSome (mBin dAdd (mVar 2) (mC (.int 3))))) (mTup (maCons (mVar 3) maNil)))) (tOrM (tBl (mBin dLt (mBin dMul (mVar 3) (mVar 4)) (mC (.int 0)))) (tBl (mBin dNe (mUn dAbs (mBin dSub (mUn dAbs (mVar 3)) (mUn dAbs (mVar 4)))) (mC (.int 1)))))) (sRet (mC .non)) sNext)
    (sRet (mBin dAdd (mBin dAdd (mSl (mVar 0) moNone (moSome (mVar 2))) (mTup (maCons (mVar 4) (maCons (mVar 3) (maCons (mVar 4) maNil))))) (mSl (mVar 0) (moSome (mBin dAdd (mVar 2) (mC (.int 3)))) moNone)))))))))
def f_changed_at : Fd := fdOf 5 b_changed_at
/-- stacked -/
def b_stacked : MS :=
    (sSeq (sIf (tOrM (tBl (mBin dNe (mUn dLen (mVar 2)) (mC (.int 2)))) (tOrM (tNotM (tTru (mCall f_is_integer (maCons (mBin dIx (mVar 2) (mC (.int 1))) maNil)))) (tOrM (tBl (mBin dNe (mUn dAbs (mBin dIx (mVar 2) (mC (.int 1)))) (mC (.int 1)))) (tBl (mBin dGe (mVar 0) (mC (.int 6))))))) (sRet (mC .non)) sNext)
    (sRet (mTup (maCons (mBin dAdd (mVar 0) (mC (.int 1))) (maCons (mBin dAdd (mVar 1) (mTup (maCons (mBin dMul (mBin dIx (mVar 2) (mC (.int 1))) (mVar 0)) maNil))) maNil)))))
def f_stacked : Fd := fdOf 3 b_stacked
/-- unstacked -/
def b_unstacked : MS :=
    (sSeq (sSet 2 (mBin dSub (mVar 0) (mC (.int 1))))
    (sSeq (sIf (tOrM (tBl (mBin dLt (mVar 2) (mC (.int 1)))) (tOrM (tBl (mBin dEq (mUn dLen (mVar 1)) (mC (.int 0)))) (tOrM (tBl (mBin dNe (mUn dAbs (mBin dIx (mVar 1) (mUn dNeg (mC (.int 1))))) (mVar 2))) (tTru (mUn dAny (mLc (miSeq (mSl (mVar 1) moNone (moSome (mUn dNeg (mC (.int 1)))))) (gtName 3) tYesM (mBin dEq (mUn dAbs (mVar 3)) (mVar 2)) [3])))))) (sRet (mC .non)) sNext)
    (sRet (mTup (maCons (mVar 2) (maCons (mSl (mVar 1) moNone (moSome (mUn dNeg (mC (.int 1))))) maNil))))))
def f_unstacked : Fd := fdOf 4 b_unstacked
/-- any_moved -/
def b_any_moved : MS :=
    (sSeq (sIf (tOrM (tNotM (tTru (mBin dIsi (mVar 2) (mC (.ty "tuple"))))) (tOrM (tBl (mBin dEq (mUn dLen (mVar 2)) (mC (.int 0)))) (tNotM (tTru (mBin dIsi (mBin dIx (mVar 2) (mC (.int 0))) (mC (.ty "str"))))))) (sRet (mC .non)) sNext)
    (sSeq (sIf (tBl (mBin dEq (mBin dIx (mVar 2) (mC (.int 0))) (mC (.str "put")))) (sRet (mCall f_put_in (maCons (mVar 0) (maCons (mVar 1) (maCons (mVar 2) maNil))))) sNext)
    (sSeq (sIf (tBl (mBin dInS (mBin dIx (mVar 2) (mC (.int 0))) (mTup (maCons (mC (.str "take")) (maCons (mC (.str "far")) (maCons (mC (.str "three")) maNil)))))) (sSeq (sSet 3 (mCall f_changed_at (maCons (mVar 1) (maCons (mVar 2) maNil))))
    (sRet (mIf (tBl (mBin dIsN (mVar 3) (mC .non))) (mC .non) (mTup (maCons (mVar 0) (maCons (mVar 3) maNil)))))) sNext)
    (sSeq (sIf (tBl (mBin dEq (mVar 2) (mTup (maCons (mC (.str "turn")) maNil)))) (sRet (mIf (tBl (mBin dGt (mUn dLen (mVar 1)) (mC (.int 0)))) (mTup (maCons (mVar 0) (maCons (mBin dAdd (mSl (mVar 1) (moSome (mC (.int 1))) moNone) (mSl (mVar 1) moNone (moSome (mC (.int 1))))) maNil))) (mC .non))) sNext)
    (sSeq (sIf (tBl (mBin dEq (mBin dIx (mVar 2) (mC (.int 0))) (mC (.str "stack")))) (sRet (mCall f_stacked (maCons (mVar 0) (maCons (mVar 1) (maCons (mVar 2) maNil))))) sNext)
    (sRet (mIf (tBl (mBin dEq (mVar 2) (mTup (maCons (mC (.str "unstack")) maNil)))) (mCall f_unstacked (maCons (mVar 0) (maCons (mVar 1) maNil))) (mC .non))))))))
def f_any_moved : Fd := fdOf 4 b_any_moved
/-- one_moved -/
def b_one_moved : MS :=
    (sSeq (sSet 3 (mCall f_any_moved (maCons (mVar 0) (maCons (mVar 1) (maCons (mVar 2) maNil)))))
    (sRet (mIf (tOrM (tBl (mBin dIsN (mVar 3) (mC .non))) (tBl (mBin dGt (mUn dLen (mBin dIx (mVar 3) (mC (.int 1)))) (mC (.int 12))))) (mC .non) (mVar 3))))
def f_one_moved : Fd := fdOf 4 b_one_moved
/-- word_led -/
def b_word_led : MS :=
    (sSeq (sExpr (mCall f_need_word (maCons (mVar 0) (maCons (mVar 1) maNil))))
    (sSeq (sIf (tNotM (tTru (mCall f_is_row (maCons (mVar 2) maNil)))) (sRaise 1 ["index"] (maCons (mC .non) maNil)) sNext)
    (sSeq (sSet 3 (mTup (maCons (mVar 0) (maCons (mUn dTuple (mVar 1)) maNil))))
    (sSeq (sFor (miEnum (mVar 2)) (gtTup (gtCons (gtName 4) (gtCons (gtName 5) gtNil))) (sSeq (sSet 3 (mCall f_one_moved (maCons (mBin dIx (mVar 3) (mC (.int 0))) (maCons (mBin dIx (mVar 3) (mC (.int 1))) (maCons (mVar 5) maNil)))))
    (sIf (tBl (mBin dIsN (mVar 3) (mC .non))) (sRaise 1 ["index"] (maCons (mVar 4) maNil)) sNext)))
    (sRet (mVar 3))))))
def f_word_led : Fd := fdOf 6 b_word_led
/-- _law_draw -/
def b__law_draw : MS :=
    (sSeq (sPen 0 .count (mBin dAdd (mPen 0 .count) (mC (.int 1))))
    (sSeq (sIf (tAndM (tBl (mBin dEq (mPen 0 .digits) (mC (.int 0)))) (tBl (mBin dLt (mPen 0 .at_) (mUn dLen (mPen 0 .cells))))) (sSeq (sSet 2 (mBin dIx (mPen 0 .cells) (mPen 0 .at_)))
    (sSeq (sPen 0 .at_ (mBin dAdd (mPen 0 .at_) (mC (.int 1))))
    (sIf (tBl (mBin dGe (mVar 2) (mBin dPow (mC (.int 10)) (mC (.int 18))))) (sPen 0 .digits (mBin dSub (mVar 2) (mBin dPow (mC (.int 10)) (mC (.int 18))))) (sPen 0 .fold (mBin dMod (mUn dInt (mBin dAdd (mBin dMul (mPen 0 .fold) (mC (.int 69069))) (mVar 2))) (mC (.int 2147483587))))))) sNext)
    (sSeq (sIf (tBl (mBin dGt (mPen 0 .digits) (mC (.int 0)))) (sSeq (sSet 3 (mBin dMod (mUn dInt (mPen 0 .digits)) (mVar 1)))
    (sSeq (sPen 0 .digits (mBin dDiv (mPen 0 .digits) (mVar 1)))
    (sRet (mVar 3)))) sNext)
    (sSeq (sSet 4 (mBin dAdd (mBin dAdd (mPen 0 .fold) (mBin dMul (mPen 0 .count) (mC (.int 7907)))) (mC (.int 37))))
    (sRet (mBin dMod (mBin dDiv (mUn dInt (mBin dMod (mBin dPow (mVar 4) (mC (.int 17))) (mC (.int 2305843009213693951)))) (mC (.int 128))) (mVar 1)))))))
def f__law_draw : Fd := fdOf 5 b__law_draw
/-- _law_pick -/
def b__law_pick : MS :=
    (sRet (mBin dIx (mVar 1) (mCall f__law_draw (maCons (mVar 0) (maCons (mUn dLen (mVar 1)) maNil)))))
def f__law_pick : Fd := fdOf 2 b__law_pick
/-- _law_listed -/
def b__law_listed : MS :=
    (sRet (mIf (tBl (mBin dEq (mCall f__law_draw (maCons (mVar 0) (maCons (mC (.int 2)) maNil))) (mC (.int 0)))) (mUn dList (mVar 1)) (mUn dTuple (mVar 1))))
def f__law_listed : Fd := fdOf 2 b__law_listed
/-- _law_is_int -/
def b__law_is_int : MS :=
    (sRet (mAndM (mBin dIsi (mVar 0) (mC (.ty "int"))) (mNotM (mBin dIsi (mVar 0) (mC (.ty "bool"))))))
def f__law_is_int : Fd := fdOf 1 b__law_is_int
/-- _law_o_word_led -/
def b__law_o_word_led : MS :=
    (sSeq (sIf (tBl (mBin dEq (mVar 2) (mTup (maCons (mC (.str "turn")) maNil)))) (sRet (mIf (tBl (mBin dNe (mVar 1) (mLst maNil))) (mTup (maCons (mVar 0) (maCons (mBin dAdd (mSl (mVar 1) (moSome (mC (.int 1))) moNone) (mSl (mVar 1) moNone (moSome (mC (.int 1))))) maNil))) (mC .non))) sNext)
    (sSeq (sIf (tBl (mBin dEq (mVar 2) (mTup (maCons (mC (.str "unstack")) maNil)))) (sSeq (sIf (tOrM (tBl (mBin dLt (mVar 0) (mC (.int 2)))) (tOrM (tBl (mBin dEq (mVar 1) (mLst maNil))) (tOrM (tBl (mBin dNe (mUn dAbs (mBin dIx (mVar 1) (mUn dNeg (mC (.int 1))))) (mBin dSub (mVar 0) (mC (.int 1))))) (tBl (mBin dNe (mLc (miSeq (mSl (mVar 1) moNone (moSome (mUn dNeg (mC (.int 1)))))) (gtName 6) (tBl (mBin dEq (mUn dAbs (mVar 6)) (mBin dSub (mVar 0) (mC (.int 1))))) (mVar 6) [6]) (mLst maNil)))))) (sRet (mC .non)) sNext)
    (sRet (mTup (maCons (mBin dSub (mVar 0) (mC (.int 1))) (maCons (mSl (mVar 1) moNone (moSome (mUn dNeg (mC (.int 1))))) maNil))))) sNext)
    (sSeq (sIf (tOrM (tNotM (tTru (mBin dIsi (mVar 2) (mC (.ty "tuple"))))) (tOrM (tBl (mBin dLt (mUn dLen (mVar 2)) (mC (.int 2)))) (tOrM (tBl (mBin dNotInS (mBin dIx (mVar 2) (mC (.int 0))) (mLst (maCons (mC (.str "put")) (maCons (mC (.str "take")) (maCons (mC (.str "far")) (maCons (mC (.str "three")) (maCons (mC (.str "stack")) maNil)))))))) (tNotM (tTru (mCall f__law_is_int (maCons (mBin dIx (mVar 2) (mC (.int 1))) maNil))))))) (sRet (mC .non)) sNext)
    (sSeq (sIf (tBl (mBin dNe (mUn dLen (mVar 2)) (mIf (tBl (mBin dEq (mBin dIx (mVar 2) (mC (.int 0))) (mC (.str "put")))) (mC (.int 3)) (mC (.int 2))))) (sRet (mC .non)) sNext)
    (sSeq (sSet 3 (mBin dIx (mVar 2) (mC (.int 1))))
    (sSeq (sIf (tBl (mBin dEq (mBin dIx (mVar 2) (mC (.int 0))) (mC (.str "stack")))) (sRet (mIf (tAndM (tBl (mBin dLt (mVar 0) (mC (.int 6)))) (tAndM (tBl (mBin dEq (mUn dAbs (mVar 3)) (mC (.int 1)))) (tBl (mBin dLt (mUn dLen (mVar 1)) (mC (.int 12)))))) (mTup (maCons (mBin dAdd (mVar 0) (mC (.int 1))) (maCons (mBin dAdd (mVar 1) (mLst (maCons (mBin dMul (mVar 3) (mVar 0)) maNil))) maNil))) (mC .non))) sNext)
    (sSeq (sIf (tOrM (tBl (mBin dLt (mVar 3) (mC (.int 0)))) (tBl (mBin dGt (mVar 3) (mUn dLen (mVar 1))))) (sRet (mC .non)) sNext)
    (sSeq (sIf (tBl (mBin dEq (mBin dIx (mVar 2) (mC (.int 0))) (mC (.str "put")))) (sSeq (sSet 4 (mAndM (mCall f__law_is_int (maCons (mBin dIx (mVar 2) (mC (.int 2))) maNil)) (mAndM (mChain dLe dLt (mC (.int 1)) (mUn dAbs (mBin dIx (mVar 2) (mC (.int 2)))) (mVar 0)) (mBin dLt (mUn dLen (mVar 1)) (mC (.int 11))))))
    (sRet (mIf (tTru (mVar 4)) (mTup (maCons (mVar 0) (maCons (mBin dAdd (mBin dAdd (mSl (mVar 1) moNone (moSome (mVar 3))) (mLst (maCons (mBin dIx (mVar 2) (mC (.int 2))) (maCons (mUn dNeg (mBin dIx (mVar 2) (mC (.int 2)))) maNil)))) (mSl (mVar 1) (moSome (mVar 3)) moNone)) maNil))) (mC .non)))) sNext)
    (sSeq (sSet 5 (mSl (mVar 1) (moSome (mVar 3)) (moSome (mBin dAdd (mVar 3) (mIf (tBl (mBin dEq (mBin dIx (mVar 2) (mC (.int 0))) (mC (.str "three")))) (mC (.int 3)) (mC (.int 2)))))))
    (sSeq (sIf (tBl (mBin dEq (mBin dIx (mVar 2) (mC (.int 0))) (mC (.str "take")))) (sRet (mIf (tAndM (tBl (mBin dEq (mUn dLen (mVar 5)) (mC (.int 2)))) (tBl (mBin dEq (mBin dAdd (mBin dIx (mVar 5) (mC (.int 0))) (mBin dIx (mVar 5) (mC (.int 1)))) (mC (.int 0))))) (mTup (maCons (mVar 0) (maCons (mBin dAdd (mSl (mVar 1) moNone (moSome (mVar 3))) (mSl (mVar 1) (moSome (mBin dAdd (mVar 3) (mC (.int 2)))) moNone)) maNil))) (mC .non))) sNext)
    (sSeq (sIf (tBl (mBin dEq (mBin dIx (mVar 2) (mC (.int 0))) (mC (.str "far")))) (sRet (mIf (tAndM (tBl (mBin dEq (mUn dLen (mVar 5)) (mC (.int 2)))) (tBl (mBin dGt (mUn dAbs (mBin dSub (mUn dAbs (mBin dIx (mVar 5) (mC (.int 0)))) (mUn dAbs (mBin dIx (mVar 5) (mC (.int 1)))))) (mC (.int 1))))) (mTup (maCons (mVar 0) (maCons (mBin dAdd (mBin dAdd (mSl (mVar 1) moNone (moSome (mVar 3))) (mUn dRev (mVar 5))) (mSl (mVar 1) (moSome (mBin dAdd (mVar 3) (mC (.int 2)))) moNone)) maNil))) (mC .non))) sNext)
    (sSeq (sIf (tOrM (tBl (mBin dLt (mUn dLen (mVar 5)) (mC (.int 3)))) (tOrM (tBl (mBin dNe (mBin dIx (mVar 5) (mC (.int 0))) (mBin dIx (mVar 5) (mC (.int 2))))) (tOrM (tBl (mBin dLt (mBin dMul (mBin dIx (mVar 5) (mC (.int 0))) (mBin dIx (mVar 5) (mC (.int 1)))) (mC (.int 0)))) (tBl (mBin dNe (mUn dAbs (mBin dSub (mBin dIx (mVar 5) (mC (.int 0))) (mBin dIx (mVar 5) (mC (.int 1))))) (mC (.int 1))))))) (sRet (mC .non)) sNext)
    (sRet (mTup (maCons (mVar 0) (maCons (mBin dAdd (mBin dAdd (mSl (mVar 1) moNone (moSome (mVar 3))) (mLst (maCons (mBin dIx (mVar 5) (mC (.int 1))) (maCons (mBin dIx (mVar 5) (mC (.int 0))) (maCons (mBin dIx (mVar 5) (mC (.int 1))) maNil))))) (mSl (mVar 1) (moSome (mBin dAdd (mVar 3) (mC (.int 3)))) moNone)) maNil))))))))))))))))
def f__law_o_word_led : Fd := fdOf 7 b__law_o_word_led
/-- _law_o_some_word_move -/
def b__law_o_some_word_move : MS :=
    (sSeq (sSet 3 (mLst (maCons (mTup (maCons (mC (.str "turn")) maNil)) (maCons (mTup (maCons (mC (.str "unstack")) maNil)) maNil))))
    (sSeq (sFor (miRng1 (mUn dLen (mVar 2))) (gtName 4) (sSet 3 (mBin dAdd (mVar 3) (mBin dMul (mLst (maCons (mTup (maCons (mC (.str "take")) (maCons (mVar 4) maNil))) (maCons (mTup (maCons (mC (.str "far")) (maCons (mVar 4) maNil))) (maCons (mTup (maCons (mC (.str "three")) (maCons (mVar 4) maNil))) maNil)))) (mC (.int 2))))))
    (sSeq (sIf (tBl (mBin dGt (mVar 1) (mC (.int 1)))) (sSet 3 (mBin dAdd (mVar 3) (mLst (maCons (mTup (maCons (mC (.str "put")) (maCons (mCall f__law_draw (maCons (mVar 0) (maCons (mBin dAdd (mUn dLen (mVar 2)) (mC (.int 1))) maNil))) (maCons (mBin dMul (mCall f__law_pick (maCons (mVar 0) (maCons (mLst (maCons (mC (.int 1)) (maCons (mUn dNeg (mC (.int 1))) maNil))) maNil))) (mBin dAdd (mC (.int 1)) (mCall f__law_draw (maCons (mVar 0) (maCons (mVar 1) maNil))))) maNil)))) maNil)))) sNext)
    (sSeq (sSet 3 (mLc (miSeq (mBin dAdd (mVar 3) (mLst (maCons (mTup (maCons (mC (.str "stack")) (maCons (mC (.int 1)) maNil))) (maCons (mTup (maCons (mC (.str "stack")) (maCons (mUn dNeg (mC (.int 1))) maNil))) maNil))))) (gtName 5) (tBl (mBin dNotN (mCall f__law_o_word_led (maCons (mVar 1) (maCons (mVar 2) (maCons (mVar 5) maNil)))) (mC .non))) (mVar 5) [5]))
    (sRet (mCall f__law_pick (maCons (mVar 0) (maCons (mVar 3) maNil))))))))
def f__law_o_some_word_move : Fd := fdOf 6 b__law_o_some_word_move
/-- _law_o_rounds_of_word -/
def b__law_o_rounds_of_word : MS :=
    (sSeq (sSet 2 (mUn (fun y => dRngL (.int 0) y) (mVar 0)))
    (sSeq (sFor (miSeq (mVar 1)) (gtName 3) (sSeq (sSet 4 (mUn dAbs (mVar 3)))
    (sSet2 2 (maCons (mBin dIx (mVar 2) (mVar 4)) (maCons (mBin dIx (mVar 2) (mBin dSub (mVar 4) (mC (.int 1)))) maNil)) (mBin dSub (mVar 4) (mC (.int 1))) (mVar 4))))
    (sSeq (sParN [5, 6] (maConsO false (mLc (miRng1 (mVar 0)) (gtName 7) tYesM (mIndex (mVar 2) (mVar 7)) [7]) (maConsO true (mLst maNil) maNil)))
    (sSeq (sFor (miRng1 (mVar 0)) (gtName 7) (sSeq (sParN [8, 9] (maConsO true (mLst maNil) (maConsO false (mVar 7) maNil)))
    (sSeq (sFor (miRng1 (mVar 0)) (gtName 10) (sSeq (sApp 8 (mVar 9))
    (sSet 9 (mBin dIx (mVar 5) (mVar 9)))))
    (sSeq (sSet 8 (mUn dTuple (mUn dSortSet (mVar 8))))
    (sIf (tBl (mBin dNotInS (mVar 8) (mVar 6))) (sApp 6 (mVar 8)) sNext)))))
    (sRet (mTup (maCons (mVar 5) (maCons (mVar 6) maNil))))))))
def f__law_o_rounds_of_word : Fd := fdOf 11 b__law_o_rounds_of_word
/-- _law_o_odd_word -/
def b__law_o_odd_word : MS :=
    (sRet (mCall f__law_pick (maCons (mVar 0) (maCons (mLst (maCons (mTup (maCons (mC .non) (maCons (mC .non) maNil))) (maCons (mTup (maCons (mC (.int 3)) (maCons (mC .non) maNil))) (maCons (mTup (maCons (mC (.str "1")) (maCons (mC .non) maNil))) (maCons (mTup (maCons (mLst (maCons (mC (.int 0)) maNil)) (maCons (mC (.int 0)) maNil))) (maCons (mTup (maCons (mLst (maCons (mVar 1) maNil)) (maCons (mC (.int 0)) maNil))) (maCons (mTup (maCons (mLst (maCons (mC .non) maNil)) (maCons (mC (.int 0)) maNil))) (maCons (mTup (maCons (mLst (maCons (mC (.bl true)) maNil)) (maCons (mC (.int 0)) maNil))) (maCons (mTup (maCons (mIf (tBl (mBin dGt (mVar 1) (mC (.int 1)))) (mBin dMul (mLst (maCons (mC (.int 1)) maNil)) (mC (.int 13))) (mLst (maCons (mC (.int 0)) maNil))) (maCons (mIf (tBl (mBin dGt (mVar 1) (mC (.int 1)))) (mC .non) (mC (.int 0))) maNil))) maNil))))))))) maNil))))
def f__law_o_odd_word : Fd := fdOf 2 b__law_o_odd_word
/-- the clauses -/
def hl : List Hdl := [(0, fun a x => (mTup (maCons (mC (.str "number")) (maCons (mFld a x "what") (maCons (mUn dRepr (mFld a x "value")) maNil))))),
  (2, fun a x => (mTup (maCons (mC (.str "word")) (maCons (mFld a x "index") maNil)))),
  (3, fun a x => (mTup (maCons (mC (.str "positive")) (maCons (mUn (dFld "index") (mFld a x "answer")) maNil)))),
  (4, fun a x => (mTup (maCons (mC (.str "joined")) (maCons (mUn (dFld "k") (mFld a x "answer")) maNil))))]
def kn : List Nat := [0, 1, 2, 3, 4]
/-- the law's lambdas -/
def lam : Nat → LamX.LamI
  | 0 => lamOf (eSub 0 (sVal (sBody 4 (sBody 1 (top 50)))))
  | 1 => lamOf (eSub 0 (sVal (sBody 6 (top 50))))
  | 2 => lamOf (eSub 1 (sVal (sBody 6 (top 50))))
  | 3 => lamOf (eSub 2 (sVal (sBody 6 (top 50))))
  | 4 => lamOf (eSub 3 (sVal (sBody 6 (top 50))))
  | _ => lamOf eNil
def lamd : Nat → M D
  | 0 => (mCall f_word_genus (maCons (mVar 3) (maCons (mCall f__law_listed (maCons (mVar 1) (maCons (mVar 4) maNil))) maNil)))
  | 1 => (mCall f_word_genus (maCons (mVar 14) (maCons (mBin dIx (mVar 15) (mC (.int 0))) maNil)))
  | 2 => (mCall f_word_genus (maCons (mVar 3) (maCons (mBin dIx (mVar 15) (mC (.int 0))) maNil)))
  | 3 => (mCall f_word_genus (maCons (mC (.int 4)) (maCons (mLst (maCons (mC (.int 1)) (maCons (mUn dNeg (mC (.int 1))) (maCons (mC (.int 1)) maNil)))) maNil)))
  | 4 => (mCall f_word_genus (maCons (mC (.int 3)) (maCons (mLst (maCons (mC (.int 1)) (maCons (mC (.int 1)) maNil))) maNil)))
  | _ => fun _ _ => .stuck
/-- the law, behind the pen -/
def b_law : MS :=
    (sSeq (sFor (miRng1 (mC (.int 4))) (gtName 2) (sSeq (sSet 3 (mBin dAdd (mC (.int 1)) (mCall f__law_draw (maCons (mVar 1) (maCons (mC (.int 4)) maNil)))))
    (sSeq (sSet 4 (mIf (tBl (mBin dGt (mVar 3) (mC (.int 1)))) (mLc (miRng1 (mCall f__law_draw (maCons (mVar 1) (maCons (mC (.int 9)) maNil)))) (gtName 5) tYesM (mBin dAdd (mC (.int 1)) (mCall f__law_draw (maCons (mVar 1) (maCons (mBin dSub (mVar 3) (mC (.int 1))) maNil)))) [5]) (mLst maNil)))
    (sSeq (sFor (miRng2 (mC (.int 1)) (mVar 3)) (gtName 5) (sSet 4 (mBin dAdd (mVar 4) (mIf (tAndM (tBl (mBin dNotInS (mVar 5) (mVar 4))) (tBl (mBin dGt (mCall f__law_draw (maCons (mVar 1) (maCons (mC (.int 8)) maNil))) (mC (.int 0))))) (mLst (maCons (mVar 5) maNil)) (mLst maNil)))))
    (sSeq (sSet 6 (mLc (miRng2 (mC (.int 1)) (mVar 3)) (gtName 5) (tBl (mBin dNotInS (mVar 5) (mVar 4))) (mVar 5) [5]))
    (sSeq (sSet 7 (mHearC "ok" kn hl [0] lamd (mC (.clo 0))))
    (sSeq (sIf (tBl (mBin dNe (mVar 6) (mLst maNil))) (sSeq (sIf (tOrM (tBl (mBin dNe (mBin dIx (mVar 7) (mC (.int 0))) (mC (.str "joined")))) (tBl (mBin dNotInS (mBin dIx (mVar 7) (mC (.int 1))) (mVar 6)))) (sRet (mC (.bl false))) sNext)
    sCnt) sNext)
    (sSeq (sSet 8 (mBin dSub (mBin dSub (mBin dAdd (mC (.int 2)) (mUn dLen (mVar 4))) (mVar 3)) (mUn dLen (mBin dIx (mCall f__law_o_rounds_of_word (maCons (mVar 3) (maCons (mVar 4) maNil))) (mC (.int 1))))))
    (sSeq (sIf (tOrM (tBl (mBin dNe (mBin dIx (mVar 7) (mC (.int 0))) (mC (.str "ok")))) (tOrM (tNotM (tTru (mCall f__law_is_int (maCons (mBin dIx (mVar 7) (mC (.int 1))) maNil)))) (tOrM (tBl (mBin dEq (mBin dAnd (mVar 8) (mC (.int 1))) (mC (.int 1)))) (tOrM (tBl (mBin dNe (mBin dIx (mVar 7) (mC (.int 1))) (mBin dDiv (mVar 8) (mC (.int 2))))) (tBl (mBin dLt (mVar 8) (mC (.int 0)))))))) (sRet (mC (.bl false))) sNext)
    (sSeq (sParN [9, 10] (maConsO false (mVar 3) (maConsO false (mVar 4) maNil)))
    (sSeq (sFor (miRng1 (mC (.int 3))) (gtName 11) (sSeq (sSet 12 (mCall f__law_o_some_word_move (maCons (mVar 1) (maCons (mVar 9) (maCons (mVar 10) maNil)))))
    (sIf (tOrM (tBl (mBin dInS (mBin dIx (mVar 12) (mC (.int 0))) (mLst (maCons (mC (.str "turn")) (maCons (mC (.str "far")) (maCons (mC (.str "three")) maNil)))))) (tOrM (tAndM (tBl (mBin dEq (mVar 12) (mTup (maCons (mC (.str "stack")) (maCons (mC (.int 1)) maNil))))) (tBl (mBin dLt (mUn dLen (mVar 10)) (mC (.int 11))))) (tBl (mBin dEq (mVar 12) (mTup (maCons (mC (.str "unstack")) maNil)))))) (sAsg (gtTup (gtCons (gtName 9) (gtCons (gtName 10) gtNil))) (mCall f__law_o_word_led (maCons (mVar 9) (maCons (mVar 10) (maCons (mVar 12) maNil))))) sNext)))
    (sIf (tOrM (tBl (mBin dNe (mCall f_word_genus (maCons (mVar 9) (maCons (mVar 10) maNil))) (mBin dIx (mVar 7) (mC (.int 1))))) (tBl (mBin dNe (mCall f_word_led (maCons (mVar 3) (maCons (mVar 4) (maCons (mBin dMul (mLst (maCons (mTup (maCons (mC (.str "turn")) maNil)) maNil)) (mUn dInt (mBin dNe (mVar 4) (mLst maNil)))) maNil)))) (mTup (maCons (mVar 3) (maCons (mUn dTuple (mBin dAdd (mSl (mVar 4) (moSome (mC (.int 1))) moNone) (mSl (mVar 4) moNone (moSome (mC (.int 1)))))) maNil)))))) (sRet (mC (.bl false))) sNext))))))))))))
    (sSeq (sSet 13 (mLc (miSeq (mLst (maCons (mC (.int 1)) (maCons (mC (.int 2)) (maCons (mC (.int 3)) (maCons (mC (.int 4)) (maCons (mC (.int 5)) (maCons (mC (.int 7)) maNil)))))))) (gtName 5) tYesM (mCall f_word_genus (maCons (mC (.int 2)) (maCons (mBin dMul (mLst (maCons (mC (.int 1)) maNil)) (mVar 5)) maNil))) [5]))
    (sSeq (sIf (tOrM (tBl (mBin dNe (mVar 13) (mLst (maCons (mC (.int 0)) (maCons (mC (.int 0)) (maCons (mC (.int 1)) (maCons (mC (.int 1)) (maCons (mC (.int 2)) (maCons (mC (.int 3)) maNil))))))))) (tOrM (tBl (mBin dNe (mCall f_word_genus (maCons (mC (.int 3)) (maCons (mBin dMul (mLst (maCons (mC (.int 1)) (maCons (mC (.int 2)) maNil))) (mC (.int 4))) maNil))) (mC (.int 3)))) (tBl (mBin dNe (mCall f_word_genus (maCons (mC (.int 1)) (maCons (mLst maNil) maNil))) (mC (.int 0)))))) (sRet (mC (.bl false))) sNext)
    (sSeq (sParN [14, 15] (maConsO false (mCall f__law_pick (maCons (mVar 1) (maCons (mLst (maCons (mC (.int 0)) (maCons (mC (.int 7)) (maCons (mUn dNeg (mC (.int 1))) (maCons (mC .non) (maCons (mC (.bl true)) (maCons (mC (.str "2")) maNil))))))) maNil))) (maConsO false (mCall f__law_o_odd_word (maCons (mVar 1) (maCons (mVar 3) maNil))) maNil)))
    (sSeq (sSet 16 (mLst (maCons (mTup (maCons (mC (.str "number")) (maCons (mC (.str "strands")) (maCons (mUn dRepr (mVar 14)) maNil)))) (maCons (mTup (maCons (mC (.str "word")) (maCons (mBin dIx (mVar 15) (mC (.int 1))) maNil))) (maCons (mTup (maCons (mC (.str "positive")) (maCons (mC (.int 1)) maNil))) (maCons (mTup (maCons (mC (.str "joined")) (maCons (mC (.int 2)) maNil))) maNil))))))
    (sSeq (sSet 17 (mLst (maCons (mC (.clo 1)) (maCons (mC (.clo 2)) (maCons (mC (.clo 3)) (maCons (mC (.clo 4)) maNil))))))
    (sRet (mBin dEq (mHearAll 18 "ok" kn hl [1, 2, 3, 4] lamd (miSeq (mVar 17))) (mVar 16)))))))))
/-- what the top has written -/
structure TX (P : Program) (K : PySem.W.Frag) (mg : Str → Option Value) (c : Cfg) : Prop where
  n_abs : mg "abs" = none
  n_any : mg "any" = none
  n_bool : mg "bool" = none
  n_enumerate : mg "enumerate" = none
  n_int : mg "int" = none
  n_isinstance : mg "isinstance" = none
  n_len : mg "len" = none
  n_list : mg "list" = none
  n_range : mg "range" = none
  n_repr : mg "repr" = none
  n_set : mg "set" = none
  n_sorted : mg "sorted" = none
  n_str : mg "str" = none
  n_tuple : mg "tuple" = none
  c_MOST_CROSSINGS : ∃ t, mg "MOST_CROSSINGS" = some (.int 12 t)
  c_MOST_STRANDS : ∃ t, mg "MOST_STRANDS" = some (.int 6 t)
  e_BadMoves : XC P K mg "BadMoves" (c.ca 1) ["index"]
  e_BadNumber : XC P K mg "BadNumber" (c.ca 0) ["what", "value"]
  e_BadWord : XC P K mg "BadWord" (c.ca 2) ["index"]
  e_NotJoined : XC P K mg "NotJoined" (c.ca 4) ["answer"]
  e_NotPositive : XC P K mg "NotPositive" (c.ca 3) ["answer"]
  f_BadNumber : XfC K (c.ca 0)
  f_BadWord : XfC K (c.ca 2)
  f_NotJoined : XfC K (c.ca 4)
  f_NotPositive : XfC K (c.ca 3)
  x_BadNumber_value : PySem.W.findIn K (.ref (c.ca 0)) "value" = some none
  x_BadNumber_what : PySem.W.findIn K (.ref (c.ca 0)) "what" = some none
  x_BadWord_index : PySem.W.findIn K (.ref (c.ca 2)) "index" = some none
  x_NotJoined_answer : PySem.W.findIn K (.ref (c.ca 4)) "answer" = some none
  x_NotPositive_answer : PySem.W.findIn K (.ref (c.ca 3)) "answer" = some none
  g_Negative : mg "Negative" = some (.ref (c.ca 8))
  k_Negative : 8 ∈ c.ca.kn
  g_Together : mg "Together" = some (.ref (c.ca 5))
  k_Together : 5 ∈ c.ca.kn
  kc : KC K c.ca
  o_Apart_k : NoAttr K (c.ca 6) "k"
  o_Negative_index : NoAttr K (c.ca 8) "index"
  o_Positive_places : NoAttr K (c.ca 7) "places"
  o_Together_indices : NoAttr K (c.ca 5) "indices"
  m_all : ∀ n ∈ kn, ∀ q ∈ hl.map Prod.fst, PySem.W.exmOne K (.ref (c.ca n)) (.ref (c.ca q)) = some (decide (q = n))
section
variable {P : Program} {w : World} {K : PySem.W.Frag} {mg : Str → Option Value} {base : Heap} {c : Cfg}
abbrev N_is_integer : List Str := ["value"]
theorem s_is_integer : FnScope N_is_integer ["value"] (defScope (top 1)) := ⟨rfl, rfl, rfl, by decide +kernel, rfl, by decide +kernel, by decide +kernel⟩
theorem t_is_integer (T : TX P K mg c)  {f : Addr} (cdv : Value) (A : Around) (outer : List PySem.Env) (s : Shared) (H : Hp) (E : XK) (G : Hp) (hr : Room 1 (A.deeper (envOfC "is_integer" (defScope (top 1)) s.heap.objs.size f cdv))) :
    MSs (zD P w K mg base N_is_integer "is_integer" (top 1) f cdv A outer s H E c G []) [] (defBody (top 1)) b_is_integer [] := by
  have hN : (N_is_integer).Nodup := s_is_integer.nd
  exact mss_less (o1 := [false]) (mss_end (o2 := []) ((mss_one (ms_ret (o1 := [false]) (me_and (me_frb (me_isi T.n_isinstance (me_look 0) (me_bltn (v := .ty "int") (d := .ty "int") T.n_int bt_int rfl rfl))) (me_one (me_not (me_frb (me_isi T.n_isinstance (me_look 0) (me_bltn (v := .ty "bool") (d := .ty "bool") T.n_bool bt_bool rfl rfl))))))))) rfl) rfl
abbrev N_is_count : List Str := ["value", "most"]
theorem s_is_count : FnScope N_is_count ["value", "most"] (defScope (top 2)) := ⟨rfl, rfl, rfl, by decide +kernel, rfl, by decide +kernel, by decide +kernel⟩
theorem t_is_count (T : TX P K mg c) (F_is_integer : FX P w K mg base c "is_integer" 2 1 f_is_integer) {f : Addr} (cdv : Value) (A : Around) (outer : List PySem.Env) (s : Shared) (H : Hp) (E : XK) (G : Hp) (hr : Room 2 (A.deeper (envOfC "is_count" (defScope (top 2)) s.heap.objs.size f cdv))) :
    MSs (zD P w K mg base N_is_count "is_count" (top 2) f cdv A outer s H E c G []) [] (defBody (top 2)) b_is_count [] := by
  have hN : (N_is_count).Nodup := s_is_count.nd
  exact mss_less (o1 := [false, false]) (mss_end (o2 := []) ((mss_one (ms_ret (o1 := [false, false]) (me_and (me_bor (me_fx F_is_integer hr (by decide) (takes_of rfl rfl rfl rfl) (fun _ _ _ _ h => ma_cons_len (fun _ _ _ _ h => ma_nil_len h) h) (ma_cons (me_var 0 rfl) ma_nil))) (me_and (me_frb (me_cmp op_ge op2_ge (me_look 0) me_int (nomark _))) (me_one (me_or (me_frb (me_cmp op_isN op2_isN (me_look 1) me_non (nomark _))) (me_one (me_fro (me_cmp op_le op2_le (me_look 0) (me_look 1) (nomark _))))))))))) rfl) rfl
abbrev N_is_row : List Str := ["value"]
theorem s_is_row : FnScope N_is_row ["value"] (defScope (top 3)) := ⟨rfl, rfl, rfl, by decide +kernel, rfl, by decide +kernel, by decide +kernel⟩
theorem t_is_row (T : TX P K mg c)  {f : Addr} (cdv : Value) (A : Around) (outer : List PySem.Env) (s : Shared) (H : Hp) (E : XK) (G : Hp) (hr : Room 1 (A.deeper (envOfC "is_row" (defScope (top 3)) s.heap.objs.size f cdv))) :
    MSs (zD P w K mg base N_is_row "is_row" (top 3) f cdv A outer s H E c G []) [] (defBody (top 3)) b_is_row [] := by
  have hN : (N_is_row).Nodup := s_is_row.nd
  exact mss_less (o1 := [false]) (mss_end (o2 := []) ((mss_one (ms_ret (o1 := [false]) (me_fro (me_isi T.n_isinstance (me_look 0) (me_bor (me_tup (ma_cons (me_bltn (v := .ty "list") (d := .ty "list") T.n_list bt_list rfl rfl) (ma_cons (me_bltn (v := .ty "tuple") (d := .ty "tuple") T.n_tuple bt_tuple rfl rfl) ma_nil))))))))) rfl) rfl
abbrev N_kept_0 : List Str := ["value", "item"]
theorem s_kept_0 : FnScope N_kept_0 ["value"] (defScope (top 4)) := ⟨rfl, rfl, rfl, by decide +kernel, rfl, by decide +kernel, by decide +kernel⟩
theorem t_kept_0 (T : TX P K mg c)  {f : Addr} (cdv : Value) (A : Around) (outer : List PySem.Env) (s : Shared) (H : Hp) (E : XK) (G : Hp) (hr : Room 1 (A.deeper (envOfC "kept" (defScope (top 4)) s.heap.objs.size f cdv))) :
    MSs (zD P w K mg base N_kept_0 "kept" (top 4) f cdv A outer s H E c G []) [] (defBody (top 4)) b_kept_0 [] := by
  have hN : (N_kept_0).Nodup := s_kept_0.nd
  exact mss_less (o1 := [false, false]) (mss_end (o2 := []) ((mss_stuck (o1 := []))) rfl) rfl
abbrev N_kept_1 : List Str := ["value", "item"]
theorem s_kept_1 : FnScope N_kept_1 ["value"] (defScope (top 4)) := ⟨rfl, rfl, rfl, by decide +kernel, rfl, by decide +kernel, by decide +kernel⟩
theorem t_kept_1 (T : TX P K mg c) (F_is_row : FX P w K mg base c "is_row" 2 1 f_is_row) (F_kept_0 : FX P w K mg base c "kept" 2 1 f_kept_0) {f : Addr} (cdv : Value) (A : Around) (outer : List PySem.Env) (s : Shared) (H : Hp) (E : XK) (G : Hp) (hr : Room 2 (A.deeper (envOfC "kept" (defScope (top 4)) s.heap.objs.size f cdv))) :
    MSs (zD P w K mg base N_kept_1 "kept" (top 4) f cdv A outer s H E c G []) [] (defBody (top 4)) b_kept_1 [] := by
  have hN : (N_kept_1).Nodup := s_kept_1.nd
  exact mss_less (o1 := [false, false]) (mss_end (o2 := []) ((mss_one (ms_ret (o1 := [false, false]) (me_if (mt_val (me_bor (me_fx F_is_row hr (by decide) (takes_of rfl rfl rfl rfl) (fun _ _ _ _ h => ma_cons_len (fun _ _ _ _ h => ma_nil_len h) h) (ma_cons (me_var 0 rfl) ma_nil)))) (me_fro (me_totuple T.n_tuple (me_frb (me_lc (own' := [("item", 1)]) rfl hN (mi_seq (me_var 0 rfl)) (blkOk_by (by rfl)) (by decide) (by decide) (fun s H C cl fp pn => (mg_name 1 hN)) (fun s H C cl fp pn => (mts_nil (z := Z.blk _ s H _ _ fp pn))) (fun s H C cl fp pn => (me_fx F_kept_0 hr (by decide) LamX.takes0 (fun _ _ _ _ h => ma_cons_len (fun _ _ _ _ h => ma_nil_len h) h) (ma_cons (me_var 1 rfl) ma_nil))))))) (me_var 0 rfl))))) rfl) rfl
abbrev N_kept_2 : List Str := ["value", "item"]
theorem s_kept_2 : FnScope N_kept_2 ["value"] (defScope (top 4)) := ⟨rfl, rfl, rfl, by decide +kernel, rfl, by decide +kernel, by decide +kernel⟩
theorem t_kept_2 (T : TX P K mg c) (F_is_row : FX P w K mg base c "is_row" 2 1 f_is_row) (F_kept_1 : FX P w K mg base c "kept" 3 1 f_kept_1) {f : Addr} (cdv : Value) (A : Around) (outer : List PySem.Env) (s : Shared) (H : Hp) (E : XK) (G : Hp) (hr : Room 3 (A.deeper (envOfC "kept" (defScope (top 4)) s.heap.objs.size f cdv))) :
    MSs (zD P w K mg base N_kept_2 "kept" (top 4) f cdv A outer s H E c G []) [] (defBody (top 4)) b_kept_2 [] := by
  have hN : (N_kept_2).Nodup := s_kept_2.nd
  exact mss_less (o1 := [false, false]) (mss_end (o2 := []) ((mss_one (ms_ret (o1 := [false, false]) (me_if (mt_val (me_bor (me_fx F_is_row hr (by decide) (takes_of rfl rfl rfl rfl) (fun _ _ _ _ h => ma_cons_len (fun _ _ _ _ h => ma_nil_len h) h) (ma_cons (me_var 0 rfl) ma_nil)))) (me_fro (me_totuple T.n_tuple (me_frb (me_lc (own' := [("item", 1)]) rfl hN (mi_seq (me_var 0 rfl)) (blkOk_by (by rfl)) (by decide) (by decide) (fun s H C cl fp pn => (mg_name 1 hN)) (fun s H C cl fp pn => (mts_nil (z := Z.blk _ s H _ _ fp pn))) (fun s H C cl fp pn => (me_fx F_kept_1 hr (by decide) LamX.takes0 (fun _ _ _ _ h => ma_cons_len (fun _ _ _ _ h => ma_nil_len h) h) (ma_cons (me_var 1 rfl) ma_nil))))))) (me_var 0 rfl))))) rfl) rfl
abbrev N_kept_3 : List Str := ["value", "item"]
theorem s_kept_3 : FnScope N_kept_3 ["value"] (defScope (top 4)) := ⟨rfl, rfl, rfl, by decide +kernel, rfl, by decide +kernel, by decide +kernel⟩
theorem t_kept_3 (T : TX P K mg c) (F_is_row : FX P w K mg base c "is_row" 2 1 f_is_row) (F_kept_2 : FX P w K mg base c "kept" 4 1 f_kept_2) {f : Addr} (cdv : Value) (A : Around) (outer : List PySem.Env) (s : Shared) (H : Hp) (E : XK) (G : Hp) (hr : Room 4 (A.deeper (envOfC "kept" (defScope (top 4)) s.heap.objs.size f cdv))) :
    MSs (zD P w K mg base N_kept_3 "kept" (top 4) f cdv A outer s H E c G []) [] (defBody (top 4)) b_kept_3 [] := by
  have hN : (N_kept_3).Nodup := s_kept_3.nd
  exact mss_less (o1 := [false, false]) (mss_end (o2 := []) ((mss_one (ms_ret (o1 := [false, false]) (me_if (mt_val (me_bor (me_fx F_is_row hr (by decide) (takes_of rfl rfl rfl rfl) (fun _ _ _ _ h => ma_cons_len (fun _ _ _ _ h => ma_nil_len h) h) (ma_cons (me_var 0 rfl) ma_nil)))) (me_fro (me_totuple T.n_tuple (me_frb (me_lc (own' := [("item", 1)]) rfl hN (mi_seq (me_var 0 rfl)) (blkOk_by (by rfl)) (by decide) (by decide) (fun s H C cl fp pn => (mg_name 1 hN)) (fun s H C cl fp pn => (mts_nil (z := Z.blk _ s H _ _ fp pn))) (fun s H C cl fp pn => (me_fx F_kept_2 hr (by decide) LamX.takes0 (fun _ _ _ _ h => ma_cons_len (fun _ _ _ _ h => ma_nil_len h) h) (ma_cons (me_var 1 rfl) ma_nil))))))) (me_var 0 rfl))))) rfl) rfl
abbrev N_need_strands : List Str := ["strands"]
theorem s_need_strands : FnScope N_need_strands ["strands"] (defScope (top 14)) := ⟨rfl, rfl, rfl, by decide +kernel, rfl, by decide +kernel, by decide +kernel⟩
theorem t_need_strands (T : TX P K mg c) (F_is_integer : FX P w K mg base c "is_integer" 2 1 f_is_integer) {f : Addr} (cdv : Value) (A : Around) (outer : List PySem.Env) (s : Shared) (H : Hp) (E : XK) (G : Hp) (hr : Room 2 (A.deeper (envOfC "need_strands" (defScope (top 14)) s.heap.objs.size f cdv))) :
    MSs (zD P w K mg base N_need_strands "need_strands" (top 14) f cdv A outer s H E c G []) [] (defBody (top 14)) b_need_strands [] := by
  have hN : (N_need_strands).Nodup := s_need_strands.nd
  exact mss_less (o1 := [false]) (mss_end (o2 := []) ((mss_one (ms_if (mt_w (mw_or (mt_not (mt_val (me_bor (me_fx F_is_integer hr (by decide) (takes_of rfl rfl rfl rfl) (fun _ _ _ _ h => ma_cons_len (fun _ _ _ _ h => ma_nil_len h) h) (ma_cons (me_var 0 rfl) ma_nil))))) (mw_or1 (mt_not (mt_chain op_le op2_le op_le op2_le me_int (me_look 0) me_int))))) (mss_one (ms_raise (o1 := [false]) (n := 0) rfl T.e_BadNumber hr (takes_of rfl rfl rfl rfl) (ma_cons me_str (ma_cons (me_var 0 rfl) ma_nil)))) mss_nil))) rfl) rfl
abbrev N_need_letters : List Str := ["strands", "word", "index", "item"]
theorem s_need_letters : FnScope N_need_letters ["strands", "word"] (defScope (top 15)) := ⟨rfl, rfl, rfl, by decide +kernel, rfl, by decide +kernel, by decide +kernel⟩
theorem t_need_letters (T : TX P K mg c) (F_is_integer : FX P w K mg base c "is_integer" 2 1 f_is_integer) (F_is_row : FX P w K mg base c "is_row" 2 1 f_is_row) {f : Addr} (cdv : Value) (A : Around) (outer : List PySem.Env) (s : Shared) (H : Hp) (E : XK) (G : Hp) (hr : Room 2 (A.deeper (envOfC "need_letters" (defScope (top 15)) s.heap.objs.size f cdv))) :
    MSs (zD P w K mg base N_need_letters "need_letters" (top 15) f cdv A outer s H E c G []) [] (defBody (top 15)) b_need_letters [] := by
  have hN : (N_need_letters).Nodup := s_need_letters.nd
  exact mss_less (o1 := [false, false, false, false]) (mss_end (o2 := []) ((mss_cons (ms_if (mt_w (mw_or (mt_not (mt_val (me_bor (me_fx F_is_row hr (by decide) (takes_of rfl rfl rfl rfl) (fun _ _ _ _ h => ma_cons_len (fun _ _ _ _ h => ma_nil_len h) h) (ma_cons (me_var 1 rfl) ma_nil))))) (mw_or1 (mt_cmp op_gt op2_gt (me_frb (me_len T.n_len (me_look 1))) (me_glob (v := .int 12) (d := .int 12) (T.c_MOST_CROSSINGS).choose_spec ⟨_, rfl⟩ rfl) (nomark _))))) (mss_one (ms_raise (o1 := [false, false, false, false]) (n := 2) rfl T.e_BadWord hr (takes_of rfl rfl rfl rfl) (ma_cons me_non ma_nil))) mss_nil)
    (mss_one (ms_for (passes_of rfl) rfl (mi_enum T.n_enumerate (me_var 1 rfl)) (mg_tup rfl (mgs_cons (mg_name 2 hN) (mgs_cons (mg_name 3 hN) mgs_nil)) (fun _ _ _ h => gt_cons_len (fun _ _ _ h => gt_cons_len (fun _ _ _ h => gt_nil_len h) h) h)) (mss_one (ms_if (mt_w (mw_or (mt_not (mt_val (me_bor (me_fx F_is_integer hr (by decide) (takes_of rfl rfl rfl rfl) (fun _ _ _ _ h => ma_cons_len (fun _ _ _ _ h => ma_nil_len h) h) (ma_cons (me_var 3 rfl) ma_nil))))) (mw_or1 (mt_not (mt_chain op_lt op2_lt op_lt op2_lt me_int (me_frb (me_abs T.n_abs (me_look 3))) (me_look 0)))))) (mss_one (ms_raise (o1 := [false, false, false, false]) (n := 2) rfl T.e_BadWord hr (takes_of rfl rfl rfl rfl) (ma_cons (me_var 2 rfl) ma_nil))) mss_nil)))))) rfl) rfl
abbrev N_need_word : List Str := ["strands", "word"]
theorem s_need_word : FnScope N_need_word ["strands", "word"] (defScope (top 19)) := ⟨rfl, rfl, rfl, by decide +kernel, rfl, by decide +kernel, by decide +kernel⟩
theorem t_need_word (T : TX P K mg c) (F_need_letters : FX P w K mg base c "need_letters" 3 2 f_need_letters) (F_need_strands : FX P w K mg base c "need_strands" 3 1 f_need_strands) {f : Addr} (cdv : Value) (A : Around) (outer : List PySem.Env) (s : Shared) (H : Hp) (E : XK) (G : Hp) (hr : Room 3 (A.deeper (envOfC "need_word" (defScope (top 19)) s.heap.objs.size f cdv))) :
    MSs (zD P w K mg base N_need_word "need_word" (top 19) f cdv A outer s H E c G []) [] (defBody (top 19)) b_need_word [] := by
  have hN : (N_need_word).Nodup := s_need_word.nd
  exact mss_less (o1 := [false, false]) (mss_end (o2 := []) ((mss_cons (ms_expr (me_bor (me_fx F_need_strands hr (by decide) (takes_of rfl rfl rfl rfl) (fun _ _ _ _ h => ma_cons_len (fun _ _ _ _ h => ma_nil_len h) h) (ma_cons (me_var 0 rfl) ma_nil))))
    (mss_one (ms_expr (me_bor (me_fx F_need_letters hr (by decide) (takes_of rfl rfl rfl rfl) (fun _ _ _ _ h => ma_cons_len (fun _ _ _ _ h => ma_cons_len (fun _ _ _ _ h => ma_nil_len h) h) h) (ma_cons (me_var 0 rfl) (ma_cons (me_var 1 rfl) ma_nil)))))))) rfl) rfl
abbrev N_order_of : List Str := ["strands", "word", "here", "item", "k", "place"]
theorem s_order_of : FnScope N_order_of ["strands", "word"] (defScope (top 20)) := ⟨rfl, rfl, rfl, by decide +kernel, rfl, by decide +kernel, by decide +kernel⟩
theorem t_order_of (T : TX P K mg c)  {f : Addr} (cdv : Value) (A : Around) (outer : List PySem.Env) (s : Shared) (H : Hp) (E : XK) (G : Hp) (hr : Room 1 (A.deeper (envOfC "order_of" (defScope (top 20)) s.heap.objs.size f cdv))) :
    MSs (zD P w K mg base N_order_of "order_of" (top 20) f cdv A outer s H E c G []) [] (defBody (top 20)) b_order_of [] := by
  have hN : (N_order_of).Nodup := s_order_of.nd
  exact mss_less (o1 := [false, false, false, false, false, false]) (mss_end (o2 := []) ((mss_cons (ms_setO 2 (me_listRng1 rfl T.n_list T.n_range (me_look 0)) (by decide) hN)
    (mss_cons (ms_for (passes_of rfl) rfl (mi_seq (me_var 1 rfl)) (mg_name 3 hN) (mss_cons (ms_set 4 (me_fro (me_abs T.n_abs (me_look 3))) hN)
    (mss_one (ms_set2 2 rfl rfl (ma_cons (me_ix (me_look 2) (me_look 4)) (ma_cons (me_ix (me_look 2) (me_frb (me_bin op_sub op2_sub (me_look 4) me_int))) ma_nil)) (me_frb (me_bin op_sub op2_sub (me_look 4) me_int)) (me_look 4)))))
    (mss_one (ms_ret (o1 := [false, false, false, false, false, false]) (me_fro (me_lc (own' := [("place", 5)]) rfl hN (mi_rng1 T.n_range (me_look 0)) (blkOk_by (by rfl)) (by decide) (by decide) (fun s H C cl fp pn => (mg_name 5 hN)) (fun s H C cl fp pn => (mts_nil (z := Z.blk _ s H _ _ fp pn))) (fun s H C cl fp pn => (me_fro (me_index (u65 hr) (me_look 2) (me_look 5))))))))))) rfl) rfl
abbrev N_rounds_of_word : List Str := ["strands", "word", "order", "found", "seen", "place", "lot", "here"]
theorem s_rounds_of_word : FnScope N_rounds_of_word ["strands", "word"] (defScope (top 21)) := ⟨rfl, rfl, rfl, by decide +kernel, rfl, by decide +kernel, by decide +kernel⟩
theorem t_rounds_of_word (T : TX P K mg c) (F_order_of : FX P w K mg base c "order_of" 2 2 f_order_of) {f : Addr} (cdv : Value) (A : Around) (outer : List PySem.Env) (s : Shared) (H : Hp) (E : XK) (G : Hp) (hr : Room 2 (A.deeper (envOfC "rounds_of_word" (defScope (top 21)) s.heap.objs.size f cdv))) :
    MSs (zD P w K mg base N_rounds_of_word "rounds_of_word" (top 21) f cdv A outer s H E c G []) [] (defBody (top 21)) b_rounds_of_word [] := by
  have hN : (N_rounds_of_word).Nodup := s_rounds_of_word.nd
  exact mss_less (o1 := [false, false, false, false, false, false, false, false]) (mss_end (o2 := []) ((mss_cons (ms_par3 rfl (ml_cons false (me_fx F_order_of hr (by decide) (takes_of rfl rfl rfl rfl) (fun _ _ _ _ h => ma_cons_len (fun _ _ _ _ h => ma_cons_len (fun _ _ _ _ h => ma_nil_len h) h) h) (ma_cons (me_var 0 rfl) (ma_cons (me_var 1 rfl) ma_nil))) (fun _ => (ml_cons true (me_lst ma_nil) (fun _ => (ml_cons false (me_fro (me_lst ma_nil)) (fun _ => ml_nil)))))) (by decide) hN)
    (mss_cons (ms_for (passes_of rfl) rfl (mi_rng1 T.n_range (me_look 0)) (mg_name 5 hN) (mss_one (ms_if (mt_cmp (op_notIn2 (u65 hr)) op2_notIn2 (me_look 5) (me_look 4) rfl) (mss_cons (ms_par2 rfl (ml_cons true (me_lst ma_nil) (fun _ => (ml_cons false (me_var 5 rfl) (fun _ => ml_nil)))) (by decide) hN)
    (mss_cons (ms_while w_rounds_of_word_0 (passes_of rfl) (mt_cmp (op_notIn2 (u65 hr)) op2_notIn2 (me_look 7) (me_look 6) rfl) (mss_cons (ms_app 6 rfl (me_var 7 rfl))
    (mss_one (ms_set 7 (me_ix (me_look 2) (me_look 7)) hN))))
    (mss_cons (ms_set 4 (me_fro (me_bin op_addA op2_add (me_look 4) (me_look 6))) hN)
    (mss_one (ms_end (o2 := [false, false, false, true, false, false, false, false]) (ms_app 3 rfl (me_fro (me_totuple T.n_tuple (me_frb (me_sorted T.n_sorted (me_look 6)))))) rfl))))) mss_nil)))
    (mss_one (ms_ret (o1 := [false, false, false, false, false, false, false, false]) (me_fro (me_totuple T.n_tuple (me_look 3)))))))) rfl) rfl
abbrev N_Together : List Str := ["self", "indices"]
theorem s_Together : FnScope N_Together ["self", "indices"] (defScope (cBody 0 (top 17))) := ⟨rfl, rfl, rfl, by decide +kernel, rfl, by decide +kernel, by decide +kernel⟩
theorem t_Together (T : TX P K mg c) (F_kept_3 : FX P w K mg base c "kept" 5 1 f_kept_3) {f : Addr} (cdv : Value) (A : Around) (outer : List PySem.Env) (s : Shared) (H H0 : Hp) (E : XK) (G : Hp) (x : Addr) (hr : Room 5 (A.deeper (envOfC "Together.__init__" (defScope (cBody 0 (top 17))) s.heap.objs.size f cdv))) :
    MIns { zD P w K mg base N_Together "Together.__init__" (cBody 0 (top 17)) f cdv A outer s H E c G [] with H0 := H0 } 5 x [] (defBody (cBody 0 (top 17))) (b_Together x) [] := by
  have hN : (N_Together).Nodup := s_Together.nd
  exact (mn_cons (mn_fld (n := 5) T.o_Together_indices (fun dx vs fds G0 rf io => (me_fx F_kept_3 hr (by decide) (takes_of rfl rfl rfl rfl) (fun _ _ _ _ h => ma_cons_len (fun _ _ _ _ h => ma_nil_len h) h) (ma_cons (me_var 1 rfl) ma_nil))))
    mn_nil)
theorem x_Together : ∀ (x : Addr) (ds : List D) (p : Pen), ds.length = 1 → fiOf 2 b_Together x ds p = fiOf 2 b_Together 0 ds p := by
  intro x ds p _
  refine ind_fi ?_ x ds p
  unfold b_Together
  repeat (first | exact ind_nil | refine ind_cat ?_ ?_ | exact ind_fld (fun x fs r p => rfl) | exact ind_fld (fun x fs r p => by simp [mSelf, mVar, mC, mBin, mUn, mCall, maCons, maNil, R.bind]) | refine ind_stm ?_ | exact inds_next | refine inds_seq ?_ ?_ | refine inds_if (fun x r p => rfl) ?_ ?_ | exact inds_raise (fun x r p => rfl) | exact inds_set (fun x r p => rfl) | exact inds_expr (fun x r p => rfl))
abbrev N_Apart : List Str := ["self", "k"]
theorem s_Apart : FnScope N_Apart ["self", "k"] (defScope (cBody 0 (top 18))) := ⟨rfl, rfl, rfl, by decide +kernel, rfl, by decide +kernel, by decide +kernel⟩
theorem t_Apart (T : TX P K mg c)  {f : Addr} (cdv : Value) (A : Around) (outer : List PySem.Env) (s : Shared) (H H0 : Hp) (E : XK) (G : Hp) (x : Addr) (hr : Room 1 (A.deeper (envOfC "Apart.__init__" (defScope (cBody 0 (top 18))) s.heap.objs.size f cdv))) :
    MIns { zD P w K mg base N_Apart "Apart.__init__" (cBody 0 (top 18)) f cdv A outer s H E c G [] with H0 := H0 } 6 x [] (defBody (cBody 0 (top 18))) (b_Apart x) [] := by
  have hN : (N_Apart).Nodup := s_Apart.nd
  exact (mn_cons (mn_fld (n := 6) T.o_Apart_k (fun dx vs fds G0 rf io => (me_var 1 rfl)))
    mn_nil)
theorem x_Apart : ∀ (x : Addr) (ds : List D) (p : Pen), ds.length = 1 → fiOf 2 b_Apart x ds p = fiOf 2 b_Apart 0 ds p := by
  intro x ds p _
  refine ind_fi ?_ x ds p
  unfold b_Apart
  repeat (first | exact ind_nil | refine ind_cat ?_ ?_ | exact ind_fld (fun x fs r p => rfl) | exact ind_fld (fun x fs r p => by simp [mSelf, mVar, mC, mBin, mUn, mCall, maCons, maNil, R.bind]) | refine ind_stm ?_ | exact inds_next | refine inds_seq ?_ ?_ | refine inds_if (fun x r p => rfl) ?_ ?_ | exact inds_raise (fun x r p => rfl) | exact inds_set (fun x r p => rfl) | exact inds_expr (fun x r p => rfl))
abbrev N_settled_together : List Str := ["strands", "word", "sizes", "found", "k", "item"]
theorem s_settled_together : FnScope N_settled_together ["strands", "word"] (defScope (top 22)) := ⟨rfl, rfl, rfl, by decide +kernel, rfl, by decide +kernel, by decide +kernel⟩
theorem t_settled_together (T : TX P K mg c) (F_Apart : FC P w K mg base c "Apart" 6 2 1 f_Apart) (F_Together : FC P w K mg base c "Together" 5 6 1 f_Together) {f : Addr} (cdv : Value) (A : Around) (outer : List PySem.Env) (s : Shared) (H : Hp) (E : XK) (G : Hp) (hr : Room 7 (A.deeper (envOfC "settled_together" (defScope (top 22)) s.heap.objs.size f cdv))) :
    MSs (zD P w K mg base N_settled_together "settled_together" (top 22) f cdv A outer s H E c G []) [] (defBody (top 22)) b_settled_together [] := by
  have hN : (N_settled_together).Nodup := s_settled_together.nd
  exact mss_less (o1 := [false, false, false, false, false, false]) (mss_end (o2 := []) ((mss_cons (ms_par2 rfl (ml_cons false (me_fro (me_lc (own' := [("item", 5)]) rfl hN (mi_seq (me_var 1 rfl)) (blkOk_by (by rfl)) (by decide) (by decide) (fun s H C cl fp pn => (mg_name 5 hN)) (fun s H C cl fp pn => (mts_nil (z := Z.blk _ s H _ _ fp pn))) (fun s H C cl fp pn => (me_fro (me_abs T.n_abs (me_look 5)))))) (fun _ => (ml_cons true (me_lst ma_nil) (fun _ => ml_nil)))) (by decide) hN)
    (mss_cons (ms_end (o2 := [false, false, false, false, false, false]) (ms_for (passes_of rfl) rfl (mi_rng2 T.n_range me_int (me_look 0)) (mg_name 4 hN) (mss_cons (ms_if (mt_cmp (op_notIn2 (u65 hr)) op2_notIn2 (me_look 4) (me_look 2) rfl) (mss_one (ms_ret (o1 := [false, false, false, true, false, false]) (me_new F_Apart hr (by decide) (takes_of rfl rfl rfl rfl) (fun _ _ _ _ h => ma_cons_len (fun _ _ _ _ h => ma_nil_len h) h) (ma_cons (me_var 4 rfl) ma_nil)))) mss_nil)
    (mss_one (ms_app 3 rfl (me_fro (me_index (u65 hr) (me_look 2) (me_look 4))))))) rfl)
    (mss_one (ms_ret (o1 := [false, false, false, false, false, false]) (me_new F_Together hr (by decide) (takes_of rfl rfl rfl rfl) (fun _ _ _ _ h => ma_cons_len (fun _ _ _ _ h => ma_nil_len h) h) (ma_cons (me_var 3 rfl) ma_nil))))))) rfl) rfl
abbrev N_Positive : List Str := ["self", "places"]
theorem s_Positive : FnScope N_Positive ["self", "places"] (defScope (cBody 0 (top 24))) := ⟨rfl, rfl, rfl, by decide +kernel, rfl, by decide +kernel, by decide +kernel⟩
theorem t_Positive (T : TX P K mg c) (F_kept_3 : FX P w K mg base c "kept" 5 1 f_kept_3) {f : Addr} (cdv : Value) (A : Around) (outer : List PySem.Env) (s : Shared) (H H0 : Hp) (E : XK) (G : Hp) (x : Addr) (hr : Room 5 (A.deeper (envOfC "Positive.__init__" (defScope (cBody 0 (top 24))) s.heap.objs.size f cdv))) :
    MIns { zD P w K mg base N_Positive "Positive.__init__" (cBody 0 (top 24)) f cdv A outer s H E c G [] with H0 := H0 } 7 x [] (defBody (cBody 0 (top 24))) (b_Positive x) [] := by
  have hN : (N_Positive).Nodup := s_Positive.nd
  exact (mn_cons (mn_fld (n := 7) T.o_Positive_places (fun dx vs fds G0 rf io => (me_fx F_kept_3 hr (by decide) (takes_of rfl rfl rfl rfl) (fun _ _ _ _ h => ma_cons_len (fun _ _ _ _ h => ma_nil_len h) h) (ma_cons (me_var 1 rfl) ma_nil))))
    mn_nil)
theorem x_Positive : ∀ (x : Addr) (ds : List D) (p : Pen), ds.length = 1 → fiOf 2 b_Positive x ds p = fiOf 2 b_Positive 0 ds p := by
  intro x ds p _
  refine ind_fi ?_ x ds p
  unfold b_Positive
  repeat (first | exact ind_nil | refine ind_cat ?_ ?_ | exact ind_fld (fun x fs r p => rfl) | exact ind_fld (fun x fs r p => by simp [mSelf, mVar, mC, mBin, mUn, mCall, maCons, maNil, R.bind]) | refine ind_stm ?_ | exact inds_next | refine inds_seq ?_ ?_ | refine inds_if (fun x r p => rfl) ?_ ?_ | exact inds_raise (fun x r p => rfl) | exact inds_set (fun x r p => rfl) | exact inds_expr (fun x r p => rfl))
abbrev N_Negative : List Str := ["self", "index"]
theorem s_Negative : FnScope N_Negative ["self", "index"] (defScope (cBody 0 (top 25))) := ⟨rfl, rfl, rfl, by decide +kernel, rfl, by decide +kernel, by decide +kernel⟩
theorem t_Negative (T : TX P K mg c)  {f : Addr} (cdv : Value) (A : Around) (outer : List PySem.Env) (s : Shared) (H H0 : Hp) (E : XK) (G : Hp) (x : Addr) (hr : Room 1 (A.deeper (envOfC "Negative.__init__" (defScope (cBody 0 (top 25))) s.heap.objs.size f cdv))) :
    MIns { zD P w K mg base N_Negative "Negative.__init__" (cBody 0 (top 25)) f cdv A outer s H E c G [] with H0 := H0 } 8 x [] (defBody (cBody 0 (top 25))) (b_Negative x) [] := by
  have hN : (N_Negative).Nodup := s_Negative.nd
  exact (mn_cons (mn_fld (n := 8) T.o_Negative_index (fun dx vs fds G0 rf io => (me_var 1 rfl)))
    mn_nil)
theorem x_Negative : ∀ (x : Addr) (ds : List D) (p : Pen), ds.length = 1 → fiOf 2 b_Negative x ds p = fiOf 2 b_Negative 0 ds p := by
  intro x ds p _
  refine ind_fi ?_ x ds p
  unfold b_Negative
  repeat (first | exact ind_nil | refine ind_cat ?_ ?_ | exact ind_fld (fun x fs r p => rfl) | exact ind_fld (fun x fs r p => by simp [mSelf, mVar, mC, mBin, mUn, mCall, maCons, maNil, R.bind]) | refine ind_stm ?_ | exact inds_next | refine inds_seq ?_ ?_ | refine inds_if (fun x r p => rfl) ?_ ?_ | exact inds_raise (fun x r p => rfl) | exact inds_set (fun x r p => rfl) | exact inds_expr (fun x r p => rfl))
abbrev N_lots_among : List Str := ["n", "k", "found", "j"]
theorem s_lots_among : FnScope N_lots_among ["n", "k"] (defScope (top 26)) := ⟨rfl, rfl, rfl, by decide +kernel, rfl, by decide +kernel, by decide +kernel⟩
theorem t_lots_among (T : TX P K mg c)  {f : Addr} (cdv : Value) (A : Around) (outer : List PySem.Env) (s : Shared) (H : Hp) (E : XK) (G : Hp) (hr : Room 1 (A.deeper (envOfC "lots_among" (defScope (top 26)) s.heap.objs.size f cdv))) :
    MSs (zD P w K mg base N_lots_among "lots_among" (top 26) f cdv A outer s H E c G []) [] (defBody (top 26)) b_lots_among [] := by
  have hN : (N_lots_among).Nodup := s_lots_among.nd
  exact mss_less (o1 := [false, false, false, false]) (mss_end (o2 := []) ((mss_cons (ms_set 2 me_int hN)
    (mss_cons (ms_for (passes_of rfl) rfl (mi_rng1 T.n_range (me_look 1)) (mg_name 3 hN) (mss_one (ms_set 2 (me_fro (me_bin op_fdiv op2_div (me_frb (me_bin op_mulA op2_mul (me_look 2) (me_frb (me_bin op_sub op2_sub (me_look 0) (me_look 3))))) (me_frb (me_bin op_addA op2_add (me_look 3) me_int)))) hN)))
    (mss_one (ms_ret (o1 := [false, false, false, false]) (me_var 2 rfl)))))) rfl) rfl
abbrev N_parts_of_word : List Str := ["strands", "word", "sizes", "item", "k"]
theorem s_parts_of_word : FnScope N_parts_of_word ["strands", "word"] (defScope (top 27)) := ⟨rfl, rfl, rfl, by decide +kernel, rfl, by decide +kernel, by decide +kernel⟩
theorem t_parts_of_word (T : TX P K mg c)  {f : Addr} (cdv : Value) (A : Around) (outer : List PySem.Env) (s : Shared) (H : Hp) (E : XK) (G : Hp) (hr : Room 1 (A.deeper (envOfC "parts_of_word" (defScope (top 27)) s.heap.objs.size f cdv))) :
    MSs (zD P w K mg base N_parts_of_word "parts_of_word" (top 27) f cdv A outer s H E c G []) [] (defBody (top 27)) b_parts_of_word [] := by
  have hN : (N_parts_of_word).Nodup := s_parts_of_word.nd
  exact mss_less (o1 := [false, false, false, false, false]) (mss_end (o2 := []) ((mss_cons (ms_set 2 (me_fro (me_lc (own' := [("item", 3)]) rfl hN (mi_seq (me_var 1 rfl)) (blkOk_by (by rfl)) (by decide) (by decide) (fun s H C cl fp pn => (mg_name 3 hN)) (fun s H C cl fp pn => (mts_nil (z := Z.blk _ s H _ _ fp pn))) (fun s H C cl fp pn => (me_fro (me_abs T.n_abs (me_look 3)))))) hN)
    (mss_one (ms_ret (o1 := [false, false, false, false, false]) (me_fro (me_bin op_addA op2_add me_int (me_frb (me_len T.n_len (me_frb (me_lc (own' := [("k", 4)]) rfl hN (mi_rng2 T.n_range me_int (me_look 0)) (blkOk_by (by rfl)) (by decide) (by decide) (fun s H C cl fp pn => (mg_name 4 hN)) (fun s H C cl fp pn => (mts_one (z := Z.blk _ s H _ _ fp pn) (mt_cmp (op_notIn2 (u65 hr)) op2_notIn2 (me_look 4) (me_look 2) rfl))) (fun s H C cl fp pn => (me_var 4 rfl)))))))))))) rfl) rfl
abbrev N_settled_positive : List Str := ["strands", "word", "index", "item", "k", "j"]
theorem s_settled_positive : FnScope N_settled_positive ["strands", "word"] (defScope (top 28)) := ⟨rfl, rfl, rfl, by decide +kernel, rfl, by decide +kernel, by decide +kernel⟩
theorem t_settled_positive (T : TX P K mg c) (F_Negative : FC P w K mg base c "Negative" 8 2 1 f_Negative) (F_Positive : FC P w K mg base c "Positive" 7 6 1 f_Positive) (F_lots_among : FX P w K mg base c "lots_among" 2 2 f_lots_among) (F_parts_of_word : FX P w K mg base c "parts_of_word" 2 2 f_parts_of_word) {f : Addr} (cdv : Value) (A : Around) (outer : List PySem.Env) (s : Shared) (H : Hp) (E : XK) (G : Hp) (hr : Room 7 (A.deeper (envOfC "settled_positive" (defScope (top 28)) s.heap.objs.size f cdv))) :
    MSs (zD P w K mg base N_settled_positive "settled_positive" (top 28) f cdv A outer s H E c G []) [] (defBody (top 28)) b_settled_positive [] := by
  have hN : (N_settled_positive).Nodup := s_settled_positive.nd
  exact mss_less (o1 := [false, false, false, false, false, false]) (mss_end (o2 := []) ((mss_cons (ms_for (passes_of rfl) rfl (mi_enum T.n_enumerate (me_var 1 rfl)) (mg_tup rfl (mgs_cons (mg_name 2 hN) (mgs_cons (mg_name 3 hN) mgs_nil)) (fun _ _ _ h => gt_cons_len (fun _ _ _ h => gt_cons_len (fun _ _ _ h => gt_nil_len h) h) h)) (mss_one (ms_if (mt_cmp op_lt op2_lt (me_look 3) me_int (nomark _)) (mss_one (ms_ret (o1 := [false, false, false, false, false, false]) (me_new F_Negative hr (by decide) (takes_of rfl rfl rfl rfl) (fun _ _ _ _ h => ma_cons_len (fun _ _ _ _ h => ma_nil_len h) h) (ma_cons (me_var 2 rfl) ma_nil)))) mss_nil)))
    (mss_cons (ms_set 4 (me_fx F_parts_of_word hr (by decide) (takes_of rfl rfl rfl rfl) (fun _ _ _ _ h => ma_cons_len (fun _ _ _ _ h => ma_cons_len (fun _ _ _ _ h => ma_nil_len h) h) h) (ma_cons (me_var 0 rfl) (ma_cons (me_var 1 rfl) ma_nil))) hN)
    (mss_one (ms_ret (o1 := [false, false, false, false, false, false]) (me_new F_Positive hr (by decide) (takes_of rfl rfl rfl rfl) (fun _ _ _ _ h => ma_cons_len (fun _ _ _ _ h => ma_nil_len h) h) (ma_cons (me_fro (me_lc (own' := [("j", 5)]) rfl hN (mi_rng1 T.n_range (me_frb (me_bin op_addA op2_add (me_look 4) me_int))) (blkOk_by (by rfl)) (by decide) (by decide) (fun s H C cl fp pn => (mg_name 5 hN)) (fun s H C cl fp pn => (mts_nil (z := Z.blk _ s H _ _ fp pn))) (fun s H C cl fp pn => (me_tup (ma_cons (me_fro (me_bin op_addA op2_add (me_frb (me_bin op_sub op2_sub (me_frb (me_len T.n_len (me_look 1))) (me_look 0))) (me_frb (me_bin op_mulA op2_mul me_int (me_look 5))))) (ma_cons (me_fx F_lots_among hr (by decide) LamX.takes0 (fun _ _ _ _ h => ma_cons_len (fun _ _ _ _ h => ma_cons_len (fun _ _ _ _ h => ma_nil_len h) h) h) (ma_cons (me_var 4 rfl) (ma_cons (me_var 5 rfl) ma_nil))) ma_nil)))))) ma_nil))))))) rfl) rfl
abbrev N_word_genus : List Str := ["strands", "word", "answer", "together"]
theorem s_word_genus : FnScope N_word_genus ["strands", "word"] (defScope (top 29)) := ⟨rfl, rfl, rfl, by decide +kernel, rfl, by decide +kernel, by decide +kernel⟩
theorem t_word_genus (T : TX P K mg c) (F_need_word : FX P w K mg base c "need_word" 4 2 f_need_word) (F_rounds_of_word : FX P w K mg base c "rounds_of_word" 3 2 f_rounds_of_word) (F_settled_positive : FX P w K mg base c "settled_positive" 8 2 f_settled_positive) (F_settled_together : FX P w K mg base c "settled_together" 8 2 f_settled_together) {f : Addr} (cdv : Value) (A : Around) (outer : List PySem.Env) (s : Shared) (H : Hp) (E : XK) (G : Hp) (hr : Room 8 (A.deeper (envOfC "word_genus" (defScope (top 29)) s.heap.objs.size f cdv))) :
    MSs (zD P w K mg base N_word_genus "word_genus" (top 29) f cdv A outer s H E c G []) [] (defBody (top 29)) b_word_genus [] := by
  have hN : (N_word_genus).Nodup := s_word_genus.nd
  exact mss_less (o1 := [false, false, false, false]) (mss_end (o2 := []) ((mss_cons (ms_expr (me_bor (me_fx F_need_word hr (by decide) (takes_of rfl rfl rfl rfl) (fun _ _ _ _ h => ma_cons_len (fun _ _ _ _ h => ma_cons_len (fun _ _ _ _ h => ma_nil_len h) h) h) (ma_cons (me_var 0 rfl) (ma_cons (me_var 1 rfl) ma_nil)))))
    (mss_cons (ms_set 2 (me_fx F_settled_positive hr (by decide) (takes_of rfl rfl rfl rfl) (fun _ _ _ _ h => ma_cons_len (fun _ _ _ _ h => ma_cons_len (fun _ _ _ _ h => ma_nil_len h) h) h) (ma_cons (me_var 0 rfl) (ma_cons (me_var 1 rfl) ma_nil))) hN)
    (mss_cons (ms_if (mt_val (me_frb (me_isc 8 T.n_isinstance T.g_Negative T.k_Negative T.kc (me_look 2)))) (mss_one (ms_raise (o1 := [false, false, false, false]) (n := 3) rfl T.e_NotPositive hr (takes_of rfl rfl rfl rfl) (ma_cons (me_var 2 rfl) ma_nil))) mss_nil)
    (mss_cons (ms_set 3 (me_fx F_settled_together hr (by decide) (takes_of rfl rfl rfl rfl) (fun _ _ _ _ h => ma_cons_len (fun _ _ _ _ h => ma_cons_len (fun _ _ _ _ h => ma_nil_len h) h) h) (ma_cons (me_var 0 rfl) (ma_cons (me_var 1 rfl) ma_nil))) hN)
    (mss_cons (ms_if (mt_not (mt_val (me_frb (me_isc 5 T.n_isinstance T.g_Together T.k_Together T.kc (me_look 3))))) (mss_one (ms_raise (o1 := [false, false, false, false]) (n := 4) rfl T.e_NotJoined hr (takes_of rfl rfl rfl rfl) (ma_cons (me_var 3 rfl) ma_nil))) mss_nil)
    (mss_one (ms_ret (o1 := [false, false, false, false]) (me_fro (me_bin op_fdiv op2_div (me_frb (me_bin op_sub op2_sub (me_frb (me_bin op_sub op2_sub (me_frb (me_bin op_addA op2_add me_int (me_frb (me_len T.n_len (me_look 1))))) (me_look 0))) (me_frb (me_len T.n_len (me_bor (me_fx F_rounds_of_word hr (by decide) (takes_of rfl rfl rfl rfl) (fun _ _ _ _ h => ma_cons_len (fun _ _ _ _ h => ma_cons_len (fun _ _ _ _ h => ma_nil_len h) h) h) (ma_cons (me_var 0 rfl) (ma_cons (me_var 1 rfl) ma_nil)))))))) me_int)))))))))) rfl) rfl
abbrev N_put_in : List Str := ["strands", "word", "move"]
theorem s_put_in : FnScope N_put_in ["strands", "word", "move"] (defScope (top 32)) := ⟨rfl, rfl, rfl, by decide +kernel, rfl, by decide +kernel, by decide +kernel⟩
theorem t_put_in (T : TX P K mg c) (F_is_count : FX P w K mg base c "is_count" 3 2 f_is_count) (F_is_integer : FX P w K mg base c "is_integer" 2 1 f_is_integer) {f : Addr} (cdv : Value) (A : Around) (outer : List PySem.Env) (s : Shared) (H : Hp) (E : XK) (G : Hp) (hr : Room 3 (A.deeper (envOfC "put_in" (defScope (top 32)) s.heap.objs.size f cdv))) :
    MSs (zD P w K mg base N_put_in "put_in" (top 32) f cdv A outer s H E c G []) [] (defBody (top 32)) b_put_in [] := by
  have hN : (N_put_in).Nodup := s_put_in.nd
  exact mss_less (o1 := [false, false, false]) (mss_end (o2 := []) ((mss_cons (ms_if (mt_w (mw_or (mt_cmp (op_neD (u64 hr)) op2_ne (me_frb (me_len T.n_len (me_look 2))) me_int (nomark _)) (mw_or (mt_not (mt_val (me_bor (me_fx F_is_count hr (by decide) (takes_of rfl rfl rfl rfl) (fun _ _ _ _ h => ma_cons_len (fun _ _ _ _ h => ma_cons_len (fun _ _ _ _ h => ma_nil_len h) h) h) (ma_cons (me_ix (me_look 2) me_int) (ma_cons (me_fro (me_len T.n_len (me_look 1))) ma_nil)))))) (mw_or (mt_not (mt_val (me_bor (me_fx F_is_integer hr (by decide) (takes_of rfl rfl rfl rfl) (fun _ _ _ _ h => ma_cons_len (fun _ _ _ _ h => ma_nil_len h) h) (ma_cons (me_ix (me_look 2) me_int) ma_nil))))) (mw_or1 (mt_not (mt_chain op_lt op2_lt op_lt op2_lt me_int (me_frb (me_abs T.n_abs (me_bor (me_ix (me_look 2) me_int)))) (me_look 0)))))))) (mss_one (ms_ret (o1 := [false, false, false]) me_non)) mss_nil)
    (mss_one (ms_ret (o1 := [false, false, false]) (me_tup (ma_cons (me_var 0 rfl) (ma_cons (me_fro (me_bin op_addA op2_add (me_frb (me_bin op_addA op2_add (me_frb (me_slice (me_look 1) mo_none (mo_some (me_bor (me_ix (me_look 2) me_int))))) (me_bor (me_tup (ma_cons (me_ix (me_look 2) me_int) (ma_cons (me_neg (me_bor (me_ix (me_look 2) me_int))) ma_nil)))))) (me_frb (me_slice (me_look 1) (mo_some (me_bor (me_ix (me_look 2) me_int))) mo_none)))) ma_nil))))))) rfl) rfl
abbrev N_changed_at : List Str := ["word", "move", "at", "one", "other"]
theorem s_changed_at : FnScope N_changed_at ["word", "move"] (defScope (top 33)) := ⟨rfl, rfl, rfl, by decide +kernel, rfl, by decide +kernel, by decide +kernel⟩
theorem t_changed_at (T : TX P K mg c) (F_is_count : FX P w K mg base c "is_count" 3 2 f_is_count) {f : Addr} (cdv : Value) (A : Around) (outer : List PySem.Env) (s : Shared) (H : Hp) (E : XK) (G : Hp) (hr : Room 3 (A.deeper (envOfC "changed_at" (defScope (top 33)) s.heap.objs.size f cdv))) :
    MSs (zD P w K mg base N_changed_at "changed_at" (top 33) f cdv A outer s H E c G []) [] (defBody (top 33)) b_changed_at [] := by
  have hN : (N_changed_at).Nodup := s_changed_at.nd
  exact mss_less (o1 := [false, false, false, false, false]) (mss_end (o2 := []) ((mss_cons (ms_if (mt_w (mw_or (mt_cmp (op_neD (u64 hr)) op2_ne (me_frb (me_len T.n_len (me_look 1))) me_int (nomark _)) (mw_or1 (mt_not (mt_val (me_bor (me_fx F_is_count hr (by decide) (takes_of rfl rfl rfl rfl) (fun _ _ _ _ h => ma_cons_len (fun _ _ _ _ h => ma_cons_len (fun _ _ _ _ h => ma_nil_len h) h) h) (ma_cons (me_ix (me_look 1) me_int) (ma_cons (me_fro (me_bin op_sub op2_sub (me_frb (me_len T.n_len (me_look 0))) me_int)) ma_nil))))))))) (mss_one (ms_ret (o1 := [false, false, false, false, false]) me_non)) mss_nil)
    (mss_cons (ms_set 2 (me_ix (me_look 1) me_int) hN)
    (mss_cons (ms_par2 rfl (ml_cons false (me_ix (me_look 0) (me_look 2)) (fun _ => (ml_cons false (me_ix (me_look 0) (me_frb (me_bin op_addA op2_add (me_look 2) me_int))) (fun _ => ml_nil)))) (by decide) hN)
    (mss_cons (ms_if (mt_cmp (op_eqD (u64 hr)) op2_eq (me_bor (me_ix (me_look 1) me_int)) me_str (nomark _)) (mss_one (ms_ret (o1 := [false, false, false, false, false]) (me_if (mt_cmp (op_eqD (u64 hr)) op2_eq (me_look 3) (me_neg (me_look 4)) (nomark _)) (me_fro (me_bin op_addA op2_add (me_frb (me_slice (me_look 0) mo_none (mo_some (me_look 2)))) (me_frb (me_slice (me_look 0) (mo_some (me_frb (me_bin op_addA op2_add (me_look 2) me_int))) mo_none)))) me_non))) mss_nil)
    (mss_cons (ms_if (mt_cmp (op_eqD (u64 hr)) op2_eq (me_bor (me_ix (me_look 1) me_int)) me_str (nomark _)) (mss_one (ms_ret (o1 := [false, false, false, false, false]) (me_if (mt_cmp op_gt op2_gt (me_frb (me_abs T.n_abs (me_frb (me_bin op_sub op2_sub (me_frb (me_abs T.n_abs (me_look 3))) (me_frb (me_abs T.n_abs (me_look 4))))))) me_int (nomark _)) (me_fro (me_bin op_addA op2_add (me_frb (me_bin op_addA op2_add (me_frb (me_slice (me_look 0) mo_none (mo_some (me_look 2)))) (me_bor (me_tup (ma_cons (me_var 4 rfl) (ma_cons (me_var 3 rfl) ma_nil)))))) (me_frb (me_slice (me_look 0) (mo_some (me_frb (me_bin op_addA op2_add (me_look 2) me_int))) mo_none)))) me_non))) mss_nil)
    (mss_cons (ms_if (mt_w (mw_or (mt_cmp (op_neD (u64 hr)) op2_ne (me_frb (me_slice (me_look 0) (mo_some (me_frb (me_bin op_addA op2_add (me_look 2) me_int))) (mo_some (me_frb (me_bin op_addA op2_add (me_look 2) me_int))))) (me_bor (me_tup (ma_cons (me_var 3 rfl) ma_nil))) (nomark _)) (mw_or (mt_cmp op_lt op2_lt (me_frb (me_bin op_mulA op2_mul (me_look 3) (me_look 4))) me_int (nomark _)) (mw_or1 (mt_cmp (op_neD (u64 hr)) op2_ne (me_frb (me_abs T.n_abs (me_frb (me_bin op_sub op2_sub (me_frb (me_abs T.n_abs (me_look 3))) (me_frb (me_abs T.n_abs (me_look 4))))))) me_int (nomark _)))))) (mss_one (ms_ret (o1 := [false, false, false, false, false]) me_non)) mss_nil)
    (mss_one (ms_ret (o1 := [false, false, false, false, false]) (me_fro (me_bin op_addA op2_add (me_frb (me_bin op_addA op2_add (me_frb (me_slice (me_look 0) mo_none (mo_some (me_look 2)))) (me_bor (me_tup (ma_cons (me_var 4 rfl) (ma_cons (me_var 3 rfl) (ma_cons (me_var 4 rfl) ma_nil))))))) (me_frb (me_slice (me_look 0) (mo_some (me_frb (me_bin op_addA op2_add (me_look 2) me_int))) mo_none))))))))))))) rfl) rfl
abbrev N_stacked : List Str := ["strands", "word", "move"]
theorem s_stacked : FnScope N_stacked ["strands", "word", "move"] (defScope (top 34)) := ⟨rfl, rfl, rfl, by decide +kernel, rfl, by decide +kernel, by decide +kernel⟩
theorem t_stacked (T : TX P K mg c) (F_is_integer : FX P w K mg base c "is_integer" 2 1 f_is_integer) {f : Addr} (cdv : Value) (A : Around) (outer : List PySem.Env) (s : Shared) (H : Hp) (E : XK) (G : Hp) (hr : Room 2 (A.deeper (envOfC "stacked" (defScope (top 34)) s.heap.objs.size f cdv))) :
    MSs (zD P w K mg base N_stacked "stacked" (top 34) f cdv A outer s H E c G []) [] (defBody (top 34)) b_stacked [] := by
  have hN : (N_stacked).Nodup := s_stacked.nd
  exact mss_less (o1 := [false, false, false]) (mss_end (o2 := []) ((mss_cons (ms_if (mt_w (mw_or (mt_cmp (op_neD (u64 hr)) op2_ne (me_frb (me_len T.n_len (me_look 2))) me_int (nomark _)) (mw_or (mt_not (mt_val (me_bor (me_fx F_is_integer hr (by decide) (takes_of rfl rfl rfl rfl) (fun _ _ _ _ h => ma_cons_len (fun _ _ _ _ h => ma_nil_len h) h) (ma_cons (me_ix (me_look 2) me_int) ma_nil))))) (mw_or (mt_cmp (op_neD (u64 hr)) op2_ne (me_frb (me_abs T.n_abs (me_bor (me_ix (me_look 2) me_int)))) me_int (nomark _)) (mw_or1 (mt_cmp op_ge op2_ge (me_look 0) (me_glob (v := .int 6) (d := .int 6) (T.c_MOST_STRANDS).choose_spec ⟨_, rfl⟩ rfl) (nomark _))))))) (mss_one (ms_ret (o1 := [false, false, false]) me_non)) mss_nil)
    (mss_one (ms_ret (o1 := [false, false, false]) (me_tup (ma_cons (me_fro (me_bin op_addA op2_add (me_look 0) me_int)) (ma_cons (me_fro (me_bin op_addA op2_add (me_look 1) (me_bor (me_tup (ma_cons (me_fro (me_bin op_mulA op2_mul (me_bor (me_ix (me_look 2) me_int)) (me_look 0))) ma_nil))))) ma_nil))))))) rfl) rfl
abbrev N_unstacked : List Str := ["strands", "word", "last", "item"]
theorem s_unstacked : FnScope N_unstacked ["strands", "word"] (defScope (top 35)) := ⟨rfl, rfl, rfl, by decide +kernel, rfl, by decide +kernel, by decide +kernel⟩
theorem t_unstacked (T : TX P K mg c)  {f : Addr} (cdv : Value) (A : Around) (outer : List PySem.Env) (s : Shared) (H : Hp) (E : XK) (G : Hp) (hr : Room 1 (A.deeper (envOfC "unstacked" (defScope (top 35)) s.heap.objs.size f cdv))) :
    MSs (zD P w K mg base N_unstacked "unstacked" (top 35) f cdv A outer s H E c G []) [] (defBody (top 35)) b_unstacked [] := by
  have hN : (N_unstacked).Nodup := s_unstacked.nd
  exact mss_less (o1 := [false, false, false, false]) (mss_end (o2 := []) ((mss_cons (ms_set 2 (me_fro (me_bin op_sub op2_sub (me_look 0) me_int)) hN)
    (mss_cons (ms_if (mt_w (mw_or (mt_cmp op_lt op2_lt (me_look 2) me_int (nomark _)) (mw_or (mt_cmp (op_eqD (u64 hr)) op2_eq (me_frb (me_len T.n_len (me_look 1))) me_int (nomark _)) (mw_or (mt_cmp (op_neD (u64 hr)) op2_ne (me_frb (me_abs T.n_abs (me_bor (me_ix (me_look 1) (me_neg me_int))))) (me_look 2) (nomark _)) (mw_or1 (mt_val (me_frb (me_any rfl T.n_any (me_frb (me_lc (own' := [("item", 3)]) rfl hN (mi_seq (me_fro (me_slice (me_look 1) mo_none (mo_some (me_neg me_int))))) (blkOk_by (by rfl)) (by decide) (by decide) (fun s H C cl fp pn => (mg_name 3 hN)) (fun s H C cl fp pn => (mts_nil (z := Z.blk _ s H _ _ fp pn))) (fun s H C cl fp pn => (me_fro (me_cmp (op_eqD (u64 hr)) op2_eq (me_frb (me_abs T.n_abs (me_look 3))) (me_look 2) (nomark _)))))))))))))) (mss_one (ms_ret (o1 := [false, false, false, false]) me_non)) mss_nil)
    (mss_one (ms_ret (o1 := [false, false, false, false]) (me_tup (ma_cons (me_var 2 rfl) (ma_cons (me_fro (me_slice (me_look 1) mo_none (mo_some (me_neg me_int)))) ma_nil)))))))) rfl) rfl
abbrev N_any_moved : List Str := ["strands", "word", "move", "new"]
theorem s_any_moved : FnScope N_any_moved ["strands", "word", "move"] (defScope (top 36)) := ⟨rfl, rfl, rfl, by decide +kernel, rfl, by decide +kernel, by decide +kernel⟩
theorem t_any_moved (T : TX P K mg c) (F_changed_at : FX P w K mg base c "changed_at" 4 2 f_changed_at) (F_put_in : FX P w K mg base c "put_in" 4 3 f_put_in) (F_stacked : FX P w K mg base c "stacked" 3 3 f_stacked) (F_unstacked : FX P w K mg base c "unstacked" 2 2 f_unstacked) {f : Addr} (cdv : Value) (A : Around) (outer : List PySem.Env) (s : Shared) (H : Hp) (E : XK) (G : Hp) (hr : Room 4 (A.deeper (envOfC "any_moved" (defScope (top 36)) s.heap.objs.size f cdv))) :
    MSs (zD P w K mg base N_any_moved "any_moved" (top 36) f cdv A outer s H E c G []) [] (defBody (top 36)) b_any_moved [] := by
  have hN : (N_any_moved).Nodup := s_any_moved.nd
  exact mss_less (o1 := [false, false, false, false]) (mss_end (o2 := []) ((mss_cons (ms_if (mt_w (mw_or (mt_not (mt_val (me_frb (me_isi T.n_isinstance (me_look 2) (me_bltn (v := .ty "tuple") (d := .ty "tuple") T.n_tuple bt_tuple rfl rfl))))) (mw_or (mt_cmp (op_eqD (u64 hr)) op2_eq (me_frb (me_len T.n_len (me_look 2))) me_int (nomark _)) (mw_or1 (mt_not (mt_val (me_frb (me_isi T.n_isinstance (me_bor (me_ix (me_look 2) me_int)) (me_bltn (v := .ty "str") (d := .ty "str") T.n_str bt_str rfl rfl))))))))) (mss_one (ms_ret (o1 := [false, false, false, false]) me_non)) mss_nil)
    (mss_cons (ms_if (mt_cmp (op_eqD (u64 hr)) op2_eq (me_bor (me_ix (me_look 2) me_int)) me_str (nomark _)) (mss_one (ms_ret (o1 := [false, false, false, false]) (me_fx F_put_in hr (by decide) (takes_of rfl rfl rfl rfl) (fun _ _ _ _ h => ma_cons_len (fun _ _ _ _ h => ma_cons_len (fun _ _ _ _ h => ma_cons_len (fun _ _ _ _ h => ma_nil_len h) h) h) h) (ma_cons (me_var 0 rfl) (ma_cons (me_var 1 rfl) (ma_cons (me_var 2 rfl) ma_nil)))))) mss_nil)
    (mss_cons (ms_if (mt_cmp (op_in2 (u65 hr)) op2_in2 (me_bor (me_ix (me_look 2) me_int)) (me_bor (me_tup (ma_cons me_str (ma_cons me_str (ma_cons me_str ma_nil))))) rfl) (mss_cons (ms_set 3 (me_fx F_changed_at hr (by decide) (takes_of rfl rfl rfl rfl) (fun _ _ _ _ h => ma_cons_len (fun _ _ _ _ h => ma_cons_len (fun _ _ _ _ h => ma_nil_len h) h) h) (ma_cons (me_var 1 rfl) (ma_cons (me_var 2 rfl) ma_nil))) hN)
    (mss_one (ms_ret (o1 := [false, false, false, false]) (me_if (mt_cmp op_isN op2_isN (me_look 3) me_non (nomark _)) me_non (me_tup (ma_cons (me_var 0 rfl) (ma_cons (me_var 3 rfl) ma_nil))))))) mss_nil)
    (mss_cons (ms_if (mt_cmp (op_eqD (u64 hr)) op2_eq (me_look 2) (me_bor (me_tup (ma_cons me_str ma_nil))) (nomark _)) (mss_one (ms_ret (o1 := [false, false, false, false]) (me_if (mt_cmp op_gt op2_gt (me_frb (me_len T.n_len (me_look 1))) me_int (nomark _)) (me_tup (ma_cons (me_var 0 rfl) (ma_cons (me_fro (me_bin op_addA op2_add (me_frb (me_slice (me_look 1) (mo_some me_int) mo_none)) (me_frb (me_slice (me_look 1) mo_none (mo_some me_int))))) ma_nil))) me_non))) mss_nil)
    (mss_cons (ms_if (mt_cmp (op_eqD (u64 hr)) op2_eq (me_bor (me_ix (me_look 2) me_int)) me_str (nomark _)) (mss_one (ms_ret (o1 := [false, false, false, false]) (me_fx F_stacked hr (by decide) (takes_of rfl rfl rfl rfl) (fun _ _ _ _ h => ma_cons_len (fun _ _ _ _ h => ma_cons_len (fun _ _ _ _ h => ma_cons_len (fun _ _ _ _ h => ma_nil_len h) h) h) h) (ma_cons (me_var 0 rfl) (ma_cons (me_var 1 rfl) (ma_cons (me_var 2 rfl) ma_nil)))))) mss_nil)
    (mss_one (ms_ret (o1 := [false, false, false, false]) (me_if (mt_cmp (op_eqD (u64 hr)) op2_eq (me_look 2) (me_bor (me_tup (ma_cons me_str ma_nil))) (nomark _)) (me_fx F_unstacked hr (by decide) (takes_of rfl rfl rfl rfl) (fun _ _ _ _ h => ma_cons_len (fun _ _ _ _ h => ma_cons_len (fun _ _ _ _ h => ma_nil_len h) h) h) (ma_cons (me_var 0 rfl) (ma_cons (me_var 1 rfl) ma_nil))) me_non))))))))) rfl) rfl
abbrev N_one_moved : List Str := ["strands", "word", "move", "found"]
theorem s_one_moved : FnScope N_one_moved ["strands", "word", "move"] (defScope (top 37)) := ⟨rfl, rfl, rfl, by decide +kernel, rfl, by decide +kernel, by decide +kernel⟩
theorem t_one_moved (T : TX P K mg c) (F_any_moved : FX P w K mg base c "any_moved" 5 3 f_any_moved) {f : Addr} (cdv : Value) (A : Around) (outer : List PySem.Env) (s : Shared) (H : Hp) (E : XK) (G : Hp) (hr : Room 5 (A.deeper (envOfC "one_moved" (defScope (top 37)) s.heap.objs.size f cdv))) :
    MSs (zD P w K mg base N_one_moved "one_moved" (top 37) f cdv A outer s H E c G []) [] (defBody (top 37)) b_one_moved [] := by
  have hN : (N_one_moved).Nodup := s_one_moved.nd
  exact mss_less (o1 := [false, false, false, false]) (mss_end (o2 := []) ((mss_cons (ms_set 3 (me_fx F_any_moved hr (by decide) (takes_of rfl rfl rfl rfl) (fun _ _ _ _ h => ma_cons_len (fun _ _ _ _ h => ma_cons_len (fun _ _ _ _ h => ma_cons_len (fun _ _ _ _ h => ma_nil_len h) h) h) h) (ma_cons (me_var 0 rfl) (ma_cons (me_var 1 rfl) (ma_cons (me_var 2 rfl) ma_nil)))) hN)
    (mss_one (ms_ret (o1 := [false, false, false, false]) (me_if (mt_w (mw_or (mt_cmp op_isN op2_isN (me_look 3) me_non (nomark _)) (mw_or1 (mt_cmp op_gt op2_gt (me_frb (me_len T.n_len (me_bor (me_ix (me_look 3) me_int)))) (me_glob (v := .int 12) (d := .int 12) (T.c_MOST_CROSSINGS).choose_spec ⟨_, rfl⟩ rfl) (nomark _))))) me_non (me_var 3 rfl)))))) rfl) rfl
abbrev N_word_led : List Str := ["strands", "word", "moves", "pair", "index", "move"]
theorem s_word_led : FnScope N_word_led ["strands", "word", "moves"] (defScope (top 38)) := ⟨rfl, rfl, rfl, by decide +kernel, rfl, by decide +kernel, by decide +kernel⟩
theorem t_word_led (T : TX P K mg c) (F_is_row : FX P w K mg base c "is_row" 2 1 f_is_row) (F_need_word : FX P w K mg base c "need_word" 4 2 f_need_word) (F_one_moved : FX P w K mg base c "one_moved" 6 3 f_one_moved) {f : Addr} (cdv : Value) (A : Around) (outer : List PySem.Env) (s : Shared) (H : Hp) (E : XK) (G : Hp) (hr : Room 6 (A.deeper (envOfC "word_led" (defScope (top 38)) s.heap.objs.size f cdv))) :
    MSs (zD P w K mg base N_word_led "word_led" (top 38) f cdv A outer s H E c G []) [] (defBody (top 38)) b_word_led [] := by
  have hN : (N_word_led).Nodup := s_word_led.nd
  exact mss_less (o1 := [false, false, false, false, false, false]) (mss_end (o2 := []) ((mss_cons (ms_expr (me_bor (me_fx F_need_word hr (by decide) (takes_of rfl rfl rfl rfl) (fun _ _ _ _ h => ma_cons_len (fun _ _ _ _ h => ma_cons_len (fun _ _ _ _ h => ma_nil_len h) h) h) (ma_cons (me_var 0 rfl) (ma_cons (me_var 1 rfl) ma_nil)))))
    (mss_cons (ms_if (mt_not (mt_val (me_bor (me_fx F_is_row hr (by decide) (takes_of rfl rfl rfl rfl) (fun _ _ _ _ h => ma_cons_len (fun _ _ _ _ h => ma_nil_len h) h) (ma_cons (me_var 2 rfl) ma_nil))))) (mss_one (ms_raise (o1 := [false, false, false, false, false, false]) (n := 1) rfl T.e_BadMoves hr (takes_of rfl rfl rfl rfl) (ma_cons me_non ma_nil))) mss_nil)
    (mss_cons (ms_set 3 (me_tup (ma_cons (me_var 0 rfl) (ma_cons (me_fro (me_totuple T.n_tuple (me_look 1))) ma_nil))) hN)
    (mss_cons (ms_for (passes_of rfl) rfl (mi_enum T.n_enumerate (me_var 2 rfl)) (mg_tup rfl (mgs_cons (mg_name 4 hN) (mgs_cons (mg_name 5 hN) mgs_nil)) (fun _ _ _ h => gt_cons_len (fun _ _ _ h => gt_cons_len (fun _ _ _ h => gt_nil_len h) h) h)) (mss_cons (ms_set 3 (me_fx F_one_moved hr (by decide) (takes_of rfl rfl rfl rfl) (fun _ _ _ _ h => ma_cons_len (fun _ _ _ _ h => ma_cons_len (fun _ _ _ _ h => ma_cons_len (fun _ _ _ _ h => ma_nil_len h) h) h) h) (ma_cons (me_ix (me_look 3) me_int) (ma_cons (me_ix (me_look 3) me_int) (ma_cons (me_var 5 rfl) ma_nil)))) hN)
    (mss_one (ms_if (mt_cmp op_isN op2_isN (me_look 3) me_non (nomark _)) (mss_one (ms_raise (o1 := [false, false, false, false, false, false]) (n := 1) rfl T.e_BadMoves hr (takes_of rfl rfl rfl rfl) (ma_cons (me_var 4 rfl) ma_nil))) mss_nil))))
    (mss_one (ms_ret (o1 := [false, false, false, false, false, false]) (me_var 3 rfl)))))))) rfl) rfl
abbrev N__law_draw : List Str := ["pen", "many", "cell", "digit", "mixed"]
theorem s__law_draw : FnScope N__law_draw ["pen", "many"] (defScope (top 41)) := ⟨rfl, rfl, rfl, by decide +kernel, rfl, by decide +kernel, by decide +kernel⟩
theorem t__law_draw (T : TX P K mg c)  {f : Addr} (cdv : Value) (A : Around) (outer : List PySem.Env) (s : Shared) (H : Hp) (E : XK) (G : Hp) (hr : Room 1 (A.deeper (envOfC "_law_draw" (defScope (top 41)) s.heap.objs.size f cdv))) :
    MSs (zD P w K mg base N__law_draw "_law_draw" (top 41) f cdv A outer s H E c G []) [] (defBody (top 41)) b__law_draw [] := by
  have hN : (N__law_draw).Nodup := s__law_draw.nd
  exact mss_less (o1 := [false, false, false, false, false]) (mss_end (o2 := []) ((mss_cons (ms_pen 0 .count (u1 hr) (by intro h; cases h) rfl (me_fro (me_bin op_addA op2_add (me_bor (me_pen 0 .count (u1 hr) rfl)) me_int)))
    (mss_cons (ms_if (mt_w (mw_and (mt_cmp (op_eqD (u64 hr)) op2_eq (me_bor (me_pen 0 .digits (u1 hr) rfl)) me_int (nomark _)) (mw_and1 (mt_cmp op_lt op2_lt (me_bor (me_pen 0 .at_ (u1 hr) rfl)) (me_frb (me_len T.n_len (me_bor (me_pen 0 .cells (u1 hr) rfl)))) (nomark _))))) (mss_cons (ms_set 2 (me_ix (me_bor (me_pen 0 .cells (u1 hr) rfl)) (me_bor (me_pen 0 .at_ (u1 hr) rfl))) hN)
    (mss_cons (ms_pen 0 .at_ (u1 hr) (by intro h; cases h) rfl (me_fro (me_bin op_addA op2_add (me_bor (me_pen 0 .at_ (u1 hr) rfl)) me_int)))
    (mss_one (ms_if (mt_cmp op_ge op2_ge (me_look 2) (me_frb (me_bin op_pow op2_pow me_int me_int)) (nomark _)) (mss_one (ms_pen 0 .digits (u1 hr) (by intro h; cases h) rfl (me_fro (me_bin op_sub op2_sub (me_look 2) (me_frb (me_bin op_pow op2_pow me_int me_int)))))) (mss_one (ms_pen 0 .fold (u1 hr) (by intro h; cases h) rfl (me_fro (me_bin op_mod op2_mod (me_frb (me_toint T.n_int (me_frb (me_bin op_addA op2_add (me_frb (me_bin op_mulA op2_mul (me_bor (me_pen 0 .fold (u1 hr) rfl)) me_int)) (me_look 2))))) me_int)))))))) mss_nil)
    (mss_cons (ms_if (mt_cmp op_gt op2_gt (me_bor (me_pen 0 .digits (u1 hr) rfl)) me_int (nomark _)) (mss_cons (ms_set 3 (me_fro (me_bin op_mod op2_mod (me_frb (me_toint T.n_int (me_bor (me_pen 0 .digits (u1 hr) rfl)))) (me_look 1))) hN)
    (mss_cons (ms_pen 0 .digits (u1 hr) (by intro h; cases h) rfl (me_fro (me_bin op_fdiv op2_div (me_bor (me_pen 0 .digits (u1 hr) rfl)) (me_look 1))))
    (mss_one (ms_ret (o1 := [false, false, false, false, false]) (me_var 3 rfl))))) mss_nil)
    (mss_cons (ms_set 4 (me_fro (me_bin op_addA op2_add (me_frb (me_bin op_addA op2_add (me_bor (me_pen 0 .fold (u1 hr) rfl)) (me_frb (me_bin op_mulA op2_mul (me_bor (me_pen 0 .count (u1 hr) rfl)) me_int)))) me_int)) hN)
    (mss_one (ms_ret (o1 := [false, false, false, false, false]) (me_fro (me_bin op_mod op2_mod (me_frb (me_bin op_fdiv op2_div (me_frb (me_toint T.n_int (me_frb (me_bin op_mod op2_mod (me_frb (me_bin op_pow op2_pow (me_look 4) me_int)) me_int)))) me_int)) (me_look 1)))))))))) rfl) rfl
abbrev N__law_pick : List Str := ["pen", "some"]
theorem s__law_pick : FnScope N__law_pick ["pen", "some"] (defScope (top 42)) := ⟨rfl, rfl, rfl, by decide +kernel, rfl, by decide +kernel, by decide +kernel⟩
theorem t__law_pick (T : TX P K mg c) (F__law_draw : FX P w K mg base c "_law_draw" 2 2 f__law_draw) {f : Addr} (cdv : Value) (A : Around) (outer : List PySem.Env) (s : Shared) (H : Hp) (E : XK) (G : Hp) (hr : Room 2 (A.deeper (envOfC "_law_pick" (defScope (top 42)) s.heap.objs.size f cdv))) :
    MSs (zD P w K mg base N__law_pick "_law_pick" (top 42) f cdv A outer s H E c G []) [] (defBody (top 42)) b__law_pick [] := by
  have hN : (N__law_pick).Nodup := s__law_pick.nd
  exact mss_less (o1 := [false, false]) (mss_end (o2 := []) ((mss_one (ms_ret (o1 := [false, false]) (me_ix (me_look 1) (me_bor (me_fx F__law_draw hr (by decide) (takes_of rfl rfl rfl rfl) (fun _ _ _ _ h => ma_cons_len (fun _ _ _ _ h => ma_cons_len (fun _ _ _ _ h => ma_nil_len h) h) h) (ma_cons (me_var 0 rfl) (ma_cons (me_fro (me_len T.n_len (me_look 1))) ma_nil)))))))) rfl) rfl
abbrev N__law_listed : List Str := ["pen", "row"]
theorem s__law_listed : FnScope N__law_listed ["pen", "row"] (defScope (top 43)) := ⟨rfl, rfl, rfl, by decide +kernel, rfl, by decide +kernel, by decide +kernel⟩
theorem t__law_listed (T : TX P K mg c) (F__law_draw : FX P w K mg base c "_law_draw" 2 2 f__law_draw) {f : Addr} (cdv : Value) (A : Around) (outer : List PySem.Env) (s : Shared) (H : Hp) (E : XK) (G : Hp) (hr : Room 2 (A.deeper (envOfC "_law_listed" (defScope (top 43)) s.heap.objs.size f cdv))) :
    MSs (zD P w K mg base N__law_listed "_law_listed" (top 43) f cdv A outer s H E c G []) [] (defBody (top 43)) b__law_listed [] := by
  have hN : (N__law_listed).Nodup := s__law_listed.nd
  exact mss_less (o1 := [false, false]) (mss_end (o2 := []) ((mss_one (ms_ret (o1 := [false, false]) (me_if (mt_cmp (op_eqD (u64 hr)) op2_eq (me_bor (me_fx F__law_draw hr (by decide) (takes_of rfl rfl rfl rfl) (fun _ _ _ _ h => ma_cons_len (fun _ _ _ _ h => ma_cons_len (fun _ _ _ _ h => ma_nil_len h) h) h) (ma_cons (me_var 0 rfl) (ma_cons me_int ma_nil)))) me_int (nomark _)) (me_fro (me_tolist T.n_list (me_look 1))) (me_fro (me_totuple T.n_tuple (me_look 1))))))) rfl) rfl
abbrev N__law_is_int : List Str := ["value"]
theorem s__law_is_int : FnScope N__law_is_int ["value"] (defScope (top 44)) := ⟨rfl, rfl, rfl, by decide +kernel, rfl, by decide +kernel, by decide +kernel⟩
theorem t__law_is_int (T : TX P K mg c)  {f : Addr} (cdv : Value) (A : Around) (outer : List PySem.Env) (s : Shared) (H : Hp) (E : XK) (G : Hp) (hr : Room 1 (A.deeper (envOfC "_law_is_int" (defScope (top 44)) s.heap.objs.size f cdv))) :
    MSs (zD P w K mg base N__law_is_int "_law_is_int" (top 44) f cdv A outer s H E c G []) [] (defBody (top 44)) b__law_is_int [] := by
  have hN : (N__law_is_int).Nodup := s__law_is_int.nd
  exact mss_less (o1 := [false]) (mss_end (o2 := []) ((mss_one (ms_ret (o1 := [false]) (me_and (me_frb (me_isi T.n_isinstance (me_look 0) (me_bltn (v := .ty "int") (d := .ty "int") T.n_int bt_int rfl rfl))) (me_one (me_not (me_frb (me_isi T.n_isinstance (me_look 0) (me_bltn (v := .ty "bool") (d := .ty "bool") T.n_bool bt_bool rfl rfl))))))))) rfl) rfl
abbrev N__law_o_word_led : List Str := ["strands", "word", "move", "at", "is_fit", "part", "item"]
theorem s__law_o_word_led : FnScope N__law_o_word_led ["strands", "word", "move"] (defScope (top 45)) := ⟨rfl, rfl, rfl, by decide +kernel, rfl, by decide +kernel, by decide +kernel⟩
theorem t__law_o_word_led (T : TX P K mg c) (F__law_is_int : FX P w K mg base c "_law_is_int" 2 1 f__law_is_int) {f : Addr} (cdv : Value) (A : Around) (outer : List PySem.Env) (s : Shared) (H : Hp) (E : XK) (G : Hp) (hr : Room 2 (A.deeper (envOfC "_law_o_word_led" (defScope (top 45)) s.heap.objs.size f cdv))) :
    MSs (zD P w K mg base N__law_o_word_led "_law_o_word_led" (top 45) f cdv A outer s H E c G []) [] (defBody (top 45)) b__law_o_word_led [] := by
  have hN : (N__law_o_word_led).Nodup := s__law_o_word_led.nd
  exact mss_less (o1 := [false, false, false, false, false, false, false]) (mss_end (o2 := []) ((mss_cons (ms_if (mt_cmp (op_eqD (u64 hr)) op2_eq (me_look 2) (me_bor (me_tup (ma_cons me_str ma_nil))) (nomark _)) (mss_one (ms_ret (o1 := [false, false, false, false, false, false, false]) (me_if (mt_cmp (op_neD (u64 hr)) op2_ne (me_look 1) (me_frb (me_lst ma_nil)) (nomark _)) (me_tup (ma_cons (me_var 0 rfl) (ma_cons (me_fro (me_bin op_addA op2_add (me_frb (me_slice (me_look 1) (mo_some me_int) mo_none)) (me_frb (me_slice (me_look 1) mo_none (mo_some me_int))))) ma_nil))) me_non))) mss_nil)
    (mss_cons (ms_if (mt_cmp (op_eqD (u64 hr)) op2_eq (me_look 2) (me_bor (me_tup (ma_cons me_str ma_nil))) (nomark _)) (mss_cons (ms_if (mt_w (mw_or (mt_cmp op_lt op2_lt (me_look 0) me_int (nomark _)) (mw_or (mt_cmp (op_eqD (u64 hr)) op2_eq (me_look 1) (me_frb (me_lst ma_nil)) (nomark _)) (mw_or (mt_cmp (op_neD (u64 hr)) op2_ne (me_frb (me_abs T.n_abs (me_bor (me_ix (me_look 1) (me_neg me_int))))) (me_frb (me_bin op_sub op2_sub (me_look 0) me_int)) (nomark _)) (mw_or1 (mt_cmp (op_neD (u64 hr)) op2_ne (me_frb (me_lc (own' := [("item", 6)]) rfl hN (mi_seq (me_fro (me_slice (me_look 1) mo_none (mo_some (me_neg me_int))))) (blkOk_by (by rfl)) (by decide) (by decide) (fun s H C cl fp pn => (mg_name 6 hN)) (fun s H C cl fp pn => (mts_one (z := Z.blk _ s H _ _ fp pn) (mt_cmp (op_eqD (u64 hr)) op2_eq (me_frb (me_abs T.n_abs (me_look 6))) (me_frb (me_bin op_sub op2_sub (me_look 0) me_int)) (nomark _)))) (fun s H C cl fp pn => (me_var 6 rfl)))) (me_frb (me_lst ma_nil)) (nomark _))))))) (mss_one (ms_ret (o1 := [false, false, false, false, false, false, false]) me_non)) mss_nil)
    (mss_one (ms_ret (o1 := [false, false, false, false, false, false, false]) (me_tup (ma_cons (me_fro (me_bin op_sub op2_sub (me_look 0) me_int)) (ma_cons (me_fro (me_slice (me_look 1) mo_none (mo_some (me_neg me_int)))) ma_nil)))))) mss_nil)
    (mss_cons (ms_if (mt_w (mw_or (mt_not (mt_val (me_frb (me_isi T.n_isinstance (me_look 2) (me_bltn (v := .ty "tuple") (d := .ty "tuple") T.n_tuple bt_tuple rfl rfl))))) (mw_or (mt_cmp op_lt op2_lt (me_frb (me_len T.n_len (me_look 2))) me_int (nomark _)) (mw_or (mt_cmp (op_notIn2 (u65 hr)) op2_notIn2 (me_bor (me_ix (me_look 2) me_int)) (me_frb (me_lst (ma_cons me_str (ma_cons me_str (ma_cons me_str (ma_cons me_str (ma_cons me_str ma_nil))))))) rfl) (mw_or1 (mt_not (mt_val (me_bor (me_fx F__law_is_int hr (by decide) (takes_of rfl rfl rfl rfl) (fun _ _ _ _ h => ma_cons_len (fun _ _ _ _ h => ma_nil_len h) h) (ma_cons (me_ix (me_look 2) me_int) ma_nil)))))))))) (mss_one (ms_ret (o1 := [false, false, false, false, false, false, false]) me_non)) mss_nil)
    (mss_cons (ms_if (mt_cmp (op_neD (u64 hr)) op2_ne (me_frb (me_len T.n_len (me_look 2))) (me_if (mt_cmp (op_eqD (u64 hr)) op2_eq (me_bor (me_ix (me_look 2) me_int)) me_str (nomark _)) me_int me_int) (nomark _)) (mss_one (ms_ret (o1 := [false, false, false, false, false, false, false]) me_non)) mss_nil)
    (mss_cons (ms_set 3 (me_ix (me_look 2) me_int) hN)
    (mss_cons (ms_if (mt_cmp (op_eqD (u64 hr)) op2_eq (me_bor (me_ix (me_look 2) me_int)) me_str (nomark _)) (mss_one (ms_ret (o1 := [false, false, false, false, false, false, false]) (me_if (mt_w (mw_and (mt_cmp op_lt op2_lt (me_look 0) me_int (nomark _)) (mw_and (mt_cmp (op_eqD (u64 hr)) op2_eq (me_frb (me_abs T.n_abs (me_look 3))) me_int (nomark _)) (mw_and1 (mt_cmp op_lt op2_lt (me_frb (me_len T.n_len (me_look 1))) me_int (nomark _)))))) (me_tup (ma_cons (me_fro (me_bin op_addA op2_add (me_look 0) me_int)) (ma_cons (me_fro (me_bin op_addA op2_add (me_look 1) (me_frb (me_lst (ma_cons (me_fro (me_bin op_mulA op2_mul (me_look 3) (me_look 0))) ma_nil))))) ma_nil))) me_non))) mss_nil)
    (mss_cons (ms_if (mt_w (mw_or (mt_cmp op_lt op2_lt (me_look 3) me_int (nomark _)) (mw_or1 (mt_cmp op_gt op2_gt (me_look 3) (me_frb (me_len T.n_len (me_look 1))) (nomark _))))) (mss_one (ms_ret (o1 := [false, false, false, false, false, false, false]) me_non)) mss_nil)
    (mss_cons (ms_if (mt_cmp (op_eqD (u64 hr)) op2_eq (me_bor (me_ix (me_look 2) me_int)) me_str (nomark _)) (mss_cons (ms_set 4 (me_and (me_bor (me_fx F__law_is_int hr (by decide) (takes_of rfl rfl rfl rfl) (fun _ _ _ _ h => ma_cons_len (fun _ _ _ _ h => ma_nil_len h) h) (ma_cons (me_ix (me_look 2) me_int) ma_nil))) (me_and (me_frb (me_chain op_le op2_le op_lt op2_lt me_int (me_frb (me_abs T.n_abs (me_bor (me_ix (me_look 2) me_int)))) (me_look 0))) (me_one (me_fro (me_cmp op_lt op2_lt (me_frb (me_len T.n_len (me_look 1))) me_int (nomark _)))))) hN)
    (mss_one (ms_ret (o1 := [false, false, false, false, false, false, false]) (me_if (mt_val (me_look 4)) (me_tup (ma_cons (me_var 0 rfl) (ma_cons (me_fro (me_bin op_addA op2_add (me_frb (me_bin op_addA op2_add (me_frb (me_slice (me_look 1) mo_none (mo_some (me_look 3)))) (me_frb (me_lst (ma_cons (me_ix (me_look 2) me_int) (ma_cons (me_neg (me_bor (me_ix (me_look 2) me_int))) ma_nil)))))) (me_frb (me_slice (me_look 1) (mo_some (me_look 3)) mo_none)))) ma_nil))) me_non)))) mss_nil)
    (mss_cons (ms_set 5 (me_fro (me_slice (me_look 1) (mo_some (me_look 3)) (mo_some (me_frb (me_bin op_addA op2_add (me_look 3) (me_if (mt_cmp (op_eqD (u64 hr)) op2_eq (me_bor (me_ix (me_look 2) me_int)) me_str (nomark _)) me_int me_int)))))) hN)
    (mss_cons (ms_if (mt_cmp (op_eqD (u64 hr)) op2_eq (me_bor (me_ix (me_look 2) me_int)) me_str (nomark _)) (mss_one (ms_ret (o1 := [false, false, false, false, false, false, false]) (me_if (mt_w (mw_and (mt_cmp (op_eqD (u64 hr)) op2_eq (me_frb (me_len T.n_len (me_look 5))) me_int (nomark _)) (mw_and1 (mt_cmp (op_eqD (u64 hr)) op2_eq (me_frb (me_bin op_addA op2_add (me_bor (me_ix (me_look 5) me_int)) (me_bor (me_ix (me_look 5) me_int)))) me_int (nomark _))))) (me_tup (ma_cons (me_var 0 rfl) (ma_cons (me_fro (me_bin op_addA op2_add (me_frb (me_slice (me_look 1) mo_none (mo_some (me_look 3)))) (me_frb (me_slice (me_look 1) (mo_some (me_frb (me_bin op_addA op2_add (me_look 3) me_int))) mo_none)))) ma_nil))) me_non))) mss_nil)
    (mss_cons (ms_if (mt_cmp (op_eqD (u64 hr)) op2_eq (me_bor (me_ix (me_look 2) me_int)) me_str (nomark _)) (mss_one (ms_ret (o1 := [false, false, false, false, false, false, false]) (me_if (mt_w (mw_and (mt_cmp (op_eqD (u64 hr)) op2_eq (me_frb (me_len T.n_len (me_look 5))) me_int (nomark _)) (mw_and1 (mt_cmp op_gt op2_gt (me_frb (me_abs T.n_abs (me_frb (me_bin op_sub op2_sub (me_frb (me_abs T.n_abs (me_bor (me_ix (me_look 5) me_int)))) (me_frb (me_abs T.n_abs (me_bor (me_ix (me_look 5) me_int)))))))) me_int (nomark _))))) (me_tup (ma_cons (me_var 0 rfl) (ma_cons (me_fro (me_bin op_addA op2_add (me_frb (me_bin op_addA op2_add (me_frb (me_slice (me_look 1) mo_none (mo_some (me_look 3)))) (me_frb (me_rev (me_look 5))))) (me_frb (me_slice (me_look 1) (mo_some (me_frb (me_bin op_addA op2_add (me_look 3) me_int))) mo_none)))) ma_nil))) me_non))) mss_nil)
    (mss_cons (ms_if (mt_w (mw_or (mt_cmp op_lt op2_lt (me_frb (me_len T.n_len (me_look 5))) me_int (nomark _)) (mw_or (mt_cmp (op_neD (u64 hr)) op2_ne (me_bor (me_ix (me_look 5) me_int)) (me_bor (me_ix (me_look 5) me_int)) (nomark _)) (mw_or (mt_cmp op_lt op2_lt (me_frb (me_bin op_mulA op2_mul (me_bor (me_ix (me_look 5) me_int)) (me_bor (me_ix (me_look 5) me_int)))) me_int (nomark _)) (mw_or1 (mt_cmp (op_neD (u64 hr)) op2_ne (me_frb (me_abs T.n_abs (me_frb (me_bin op_sub op2_sub (me_bor (me_ix (me_look 5) me_int)) (me_bor (me_ix (me_look 5) me_int)))))) me_int (nomark _))))))) (mss_one (ms_ret (o1 := [false, false, false, false, false, false, false]) me_non)) mss_nil)
    (mss_one (ms_ret (o1 := [false, false, false, false, false, false, false]) (me_tup (ma_cons (me_var 0 rfl) (ma_cons (me_fro (me_bin op_addA op2_add (me_frb (me_bin op_addA op2_add (me_frb (me_slice (me_look 1) mo_none (mo_some (me_look 3)))) (me_frb (me_lst (ma_cons (me_ix (me_look 5) me_int) (ma_cons (me_ix (me_look 5) me_int) (ma_cons (me_ix (me_look 5) me_int) ma_nil))))))) (me_frb (me_slice (me_look 1) (mo_some (me_frb (me_bin op_addA op2_add (me_look 3) me_int))) mo_none)))) ma_nil)))))))))))))))))) rfl) rfl
abbrev N__law_o_some_word_move : List Str := ["pen", "strands", "word", "some", "at", "move"]
theorem s__law_o_some_word_move : FnScope N__law_o_some_word_move ["pen", "strands", "word"] (defScope (top 46)) := ⟨rfl, rfl, rfl, by decide +kernel, rfl, by decide +kernel, by decide +kernel⟩
theorem t__law_o_some_word_move (T : TX P K mg c) (F__law_draw : FX P w K mg base c "_law_draw" 2 2 f__law_draw) (F__law_o_word_led : FX P w K mg base c "_law_o_word_led" 3 3 f__law_o_word_led) (F__law_pick : FX P w K mg base c "_law_pick" 3 2 f__law_pick) {f : Addr} (cdv : Value) (A : Around) (outer : List PySem.Env) (s : Shared) (H : Hp) (E : XK) (G : Hp) (hr : Room 3 (A.deeper (envOfC "_law_o_some_word_move" (defScope (top 46)) s.heap.objs.size f cdv))) :
    MSs (zD P w K mg base N__law_o_some_word_move "_law_o_some_word_move" (top 46) f cdv A outer s H E c G []) [] (defBody (top 46)) b__law_o_some_word_move [] := by
  have hN : (N__law_o_some_word_move).Nodup := s__law_o_some_word_move.nd
  exact mss_less (o1 := [false, false, false, false, false, false]) (mss_end (o2 := []) ((mss_cons (ms_set 3 (me_fro (me_lst (ma_cons (me_tup (ma_cons me_str ma_nil)) (ma_cons (me_tup (ma_cons me_str ma_nil)) ma_nil)))) hN)
    (mss_cons (ms_for (passes_of rfl) rfl (mi_rng1 T.n_range (me_frb (me_len T.n_len (me_look 2)))) (mg_name 4 hN) (mss_one (ms_set 3 (me_fro (me_bin op_addA op2_add (me_look 3) (me_frb (me_bin op_mulA op2_mul (me_frb (me_lst (ma_cons (me_tup (ma_cons me_str (ma_cons (me_var 4 rfl) ma_nil))) (ma_cons (me_tup (ma_cons me_str (ma_cons (me_var 4 rfl) ma_nil))) (ma_cons (me_tup (ma_cons me_str (ma_cons (me_var 4 rfl) ma_nil))) ma_nil))))) me_int)))) hN)))
    (mss_cons (ms_if (mt_cmp op_gt op2_gt (me_look 1) me_int (nomark _)) (mss_one (ms_set 3 (me_fro (me_bin op_addA op2_add (me_look 3) (me_frb (me_lst (ma_cons (me_tup (ma_cons me_str (ma_cons (me_fx F__law_draw hr (by decide) (takes_of rfl rfl rfl rfl) (fun _ _ _ _ h => ma_cons_len (fun _ _ _ _ h => ma_cons_len (fun _ _ _ _ h => ma_nil_len h) h) h) (ma_cons (me_var 0 rfl) (ma_cons (me_fro (me_bin op_addA op2_add (me_frb (me_len T.n_len (me_look 2))) me_int)) ma_nil))) (ma_cons (me_fro (me_bin op_mulA op2_mul (me_bor (me_fx F__law_pick hr (by decide) (takes_of rfl rfl rfl rfl) (fun _ _ _ _ h => ma_cons_len (fun _ _ _ _ h => ma_cons_len (fun _ _ _ _ h => ma_nil_len h) h) h) (ma_cons (me_var 0 rfl) (ma_cons (me_fro (me_lst (ma_cons me_int (ma_cons (me_neg me_int) ma_nil)))) ma_nil)))) (me_frb (me_bin op_addA op2_add me_int (me_bor (me_fx F__law_draw hr (by decide) (takes_of rfl rfl rfl rfl) (fun _ _ _ _ h => ma_cons_len (fun _ _ _ _ h => ma_cons_len (fun _ _ _ _ h => ma_nil_len h) h) h) (ma_cons (me_var 0 rfl) (ma_cons (me_var 1 rfl) ma_nil)))))))) ma_nil)))) ma_nil))))) hN)) mss_nil)
    (mss_cons (ms_setLc (i := 3) (own' := [("move", 5)]) false (fun _ => by decide) rfl hN rfl rfl (sw_true rfl rfl rfl rfl) (mi_seq (me_fro (me_bin op_addA op2_add (me_look 3) (me_frb (me_lst (ma_cons (me_tup (ma_cons me_str (ma_cons me_int ma_nil))) (ma_cons (me_tup (ma_cons me_str (ma_cons (me_neg me_int) ma_nil))) ma_nil))))))) (blkOk_by (by rfl)) (by decide) (by decide) (fun s H C cl fp pn => (mg_name 5 hN)) (fun s H C cl fp pn => (mts_one (z := Z.blk _ s H _ _ fp pn) (mt_cmp op_notN op2_notN (me_bor (me_fx F__law_o_word_led hr (by decide) LamX.takes0 (fun _ _ _ _ h => ma_cons_len (fun _ _ _ _ h => ma_cons_len (fun _ _ _ _ h => ma_cons_len (fun _ _ _ _ h => ma_nil_len h) h) h) h) (ma_cons (me_var 1 rfl) (ma_cons (me_var 2 rfl) (ma_cons (me_var 5 rfl) ma_nil))))) me_non (nomark _)))) (fun s H C cl fp pn => (me_var 5 rfl)))
    (mss_one (ms_ret (o1 := [false, false, false, false, false, false]) (me_fx F__law_pick hr (by decide) (takes_of rfl rfl rfl rfl) (fun _ _ _ _ h => ma_cons_len (fun _ _ _ _ h => ma_cons_len (fun _ _ _ _ h => ma_nil_len h) h) h) (ma_cons (me_var 0 rfl) (ma_cons (me_var 3 rfl) ma_nil)))))))))) rfl) rfl
abbrev N__law_o_rounds_of_word : List Str := ["strands", "word", "here", "item", "k", "order", "found", "place", "lot", "at", "lap"]
theorem s__law_o_rounds_of_word : FnScope N__law_o_rounds_of_word ["strands", "word"] (defScope (top 47)) := ⟨rfl, rfl, rfl, by decide +kernel, rfl, by decide +kernel, by decide +kernel⟩
theorem t__law_o_rounds_of_word (T : TX P K mg c)  {f : Addr} (cdv : Value) (A : Around) (outer : List PySem.Env) (s : Shared) (H : Hp) (E : XK) (G : Hp) (hr : Room 1 (A.deeper (envOfC "_law_o_rounds_of_word" (defScope (top 47)) s.heap.objs.size f cdv))) :
    MSs (zD P w K mg base N__law_o_rounds_of_word "_law_o_rounds_of_word" (top 47) f cdv A outer s H E c G []) [] (defBody (top 47)) b__law_o_rounds_of_word [] := by
  have hN : (N__law_o_rounds_of_word).Nodup := s__law_o_rounds_of_word.nd
  exact mss_less (o1 := [false, false, false, false, false, false, false, false, false, false, false]) (mss_end (o2 := []) ((mss_cons (ms_setO 2 (me_listRng1 rfl T.n_list T.n_range (me_look 0)) (by decide) hN)
    (mss_cons (ms_for (passes_of rfl) rfl (mi_seq (me_var 1 rfl)) (mg_name 3 hN) (mss_cons (ms_set 4 (me_fro (me_abs T.n_abs (me_look 3))) hN)
    (mss_one (ms_set2 2 rfl rfl (ma_cons (me_ix (me_look 2) (me_look 4)) (ma_cons (me_ix (me_look 2) (me_frb (me_bin op_sub op2_sub (me_look 4) me_int))) ma_nil)) (me_frb (me_bin op_sub op2_sub (me_look 4) me_int)) (me_look 4)))))
    (mss_cons (ms_par2 rfl (ml_cons false (me_fro (me_lc (own' := [("place", 7)]) rfl hN (mi_rng1 T.n_range (me_look 0)) (blkOk_by (by rfl)) (by decide) (by decide) (fun s H C cl fp pn => (mg_name 7 hN)) (fun s H C cl fp pn => (mts_nil (z := Z.blk _ s H _ _ fp pn))) (fun s H C cl fp pn => (me_fro (me_index (u65 hr) (me_look 2) (me_look 7)))))) (fun _ => (ml_cons true (me_lst ma_nil) (fun _ => ml_nil)))) (by decide) hN)
    (mss_cons (ms_end (o2 := [false, false, true, false, false, false, false, false, false, false, false]) (ms_for (passes_of rfl) rfl (mi_rng1 T.n_range (me_look 0)) (mg_name 7 hN) (mss_cons (ms_par2 rfl (ml_cons true (me_lst ma_nil) (fun _ => (ml_cons false (me_var 7 rfl) (fun _ => ml_nil)))) (by decide) hN)
    (mss_cons (ms_for (passes_of rfl) rfl (mi_rng1 T.n_range (me_look 0)) (mg_name 10 hN) (mss_cons (ms_app 8 rfl (me_var 9 rfl))
    (mss_one (ms_set 9 (me_ix (me_look 5) (me_look 9)) hN))))
    (mss_cons (ms_setO 8 (me_totuple T.n_tuple (me_frb (me_sortSet rfl T.n_sorted T.n_set (me_look 8)))) (by decide) hN)
    (mss_one (ms_if (mt_cmp (op_notIn2 (u65 hr)) op2_notIn2 (me_look 8) (me_look 6) rfl) (mss_less (o1 := [false, false, true, false, false, false, true, false, false, false, false]) (mss_one (ms_app 6 rfl (me_var 8 rfl))) rfl) (mss_end (o2 := [false, false, true, false, false, false, true, false, false, false, false]) mss_nil rfl))))))) rfl)
    (mss_one (ms_ret (o1 := [false, false, false, false, false, false, false, false, false, false, false]) (me_tup (ma_cons (me_var 5 rfl) (ma_cons (me_var 6 rfl) ma_nil)))))))))) rfl) rfl
abbrev N__law_o_odd_word : List Str := ["pen", "strands"]
theorem s__law_o_odd_word : FnScope N__law_o_odd_word ["pen", "strands"] (defScope (top 48)) := ⟨rfl, rfl, rfl, by decide +kernel, rfl, by decide +kernel, by decide +kernel⟩
theorem t__law_o_odd_word (T : TX P K mg c) (F__law_pick : FX P w K mg base c "_law_pick" 3 2 f__law_pick) {f : Addr} (cdv : Value) (A : Around) (outer : List PySem.Env) (s : Shared) (H : Hp) (E : XK) (G : Hp) (hr : Room 3 (A.deeper (envOfC "_law_o_odd_word" (defScope (top 48)) s.heap.objs.size f cdv))) :
    MSs (zD P w K mg base N__law_o_odd_word "_law_o_odd_word" (top 48) f cdv A outer s H E c G []) [] (defBody (top 48)) b__law_o_odd_word [] := by
  have hN : (N__law_o_odd_word).Nodup := s__law_o_odd_word.nd
  exact mss_less (o1 := [false, false]) (mss_end (o2 := []) ((mss_one (ms_ret (o1 := [false, false]) (me_fx F__law_pick hr (by decide) (takes_of rfl rfl rfl rfl) (fun _ _ _ _ h => ma_cons_len (fun _ _ _ _ h => ma_cons_len (fun _ _ _ _ h => ma_nil_len h) h) h) (ma_cons (me_var 0 rfl) (ma_cons (me_fro (me_lst (ma_cons (me_tup (ma_cons me_non (ma_cons me_non ma_nil))) (ma_cons (me_tup (ma_cons me_int (ma_cons me_non ma_nil))) (ma_cons (me_tup (ma_cons me_str (ma_cons me_non ma_nil))) (ma_cons (me_tup (ma_cons (me_fro (me_lst (ma_cons me_int ma_nil))) (ma_cons me_int ma_nil))) (ma_cons (me_tup (ma_cons (me_fro (me_lst (ma_cons (me_var 1 rfl) ma_nil))) (ma_cons me_int ma_nil))) (ma_cons (me_tup (ma_cons (me_fro (me_lst (ma_cons me_non ma_nil))) (ma_cons me_int ma_nil))) (ma_cons (me_tup (ma_cons (me_fro (me_lst (ma_cons me_bl ma_nil))) (ma_cons me_int ma_nil))) (ma_cons (me_tup (ma_cons (me_if (mt_cmp op_gt op2_gt (me_look 1) me_int (nomark _)) (me_fro (me_bin op_mulA op2_mul (me_frb (me_lst (ma_cons me_int ma_nil))) me_int)) (me_fro (me_lst (ma_cons me_int ma_nil)))) (ma_cons (me_if (mt_cmp op_gt op2_gt (me_look 1) me_int (nomark _)) me_non me_int) ma_nil))) ma_nil)))))))))) ma_nil)))))) rfl) rfl
abbrev N__law_heard : List Str := ["call", "e"]
theorem s__law_heard : FnScope N__law_heard ["call"] (defScope (top 49)) := ⟨rfl, rfl, rfl, by decide +kernel, rfl, by decide +kernel, by decide +kernel⟩
theorem t_hh (T : TX P K mg c) (A : Around) (outer : List PySem.Env) (g : Addr) (cdv : Value) (s : Shared) (H : Hp) :
    HdsA (cxOf C8.CX0 P w K mg base N__law_heard "_law_heard" (defScope (top 49)) g cdv A outer s H C8.E0).nox (hdsT (top 49)) (hdsL K c hl) :=
  (HdsA.cons ⟨rfl, by decide, .inl T.e_BadNumber.gC⟩ rfl rfl (fun a oe cls d pn hz hf => hd_suite (fun x H G hn er => (me_tup (ma_cons me_str (ma_cons (me_fld hz hf er (by rw [hn]; exact T.f_BadNumber) (by rw [hn]; exact T.x_BadNumber_what)) (ma_cons (me_fro (me_repr T.n_repr (me_bor (me_fld hz hf er (by rw [hn]; exact T.f_BadNumber) (by rw [hn]; exact T.x_BadNumber_value))))) ma_nil))))))
    (HdsA.cons ⟨rfl, by decide, .inl T.e_BadWord.gC⟩ rfl rfl (fun a oe cls d pn hz hf => hd_suite (fun x H G hn er => (me_tup (ma_cons me_str (ma_cons (me_fld hz hf er (by rw [hn]; exact T.f_BadWord) (by rw [hn]; exact T.x_BadWord_index)) ma_nil)))))
    (HdsA.cons ⟨rfl, by decide, .inl T.e_NotPositive.gC⟩ rfl rfl (fun a oe cls d pn hz hf => hd_suite (fun x H G hn er => (me_tup (ma_cons me_str (ma_cons (me_attr "index" (me_bor (me_fld hz hf er (by rw [hn]; exact T.f_NotPositive) (by rw [hn]; exact T.x_NotPositive_answer)))) ma_nil)))))
    (HdsA.cons ⟨rfl, by decide, .inl T.e_NotJoined.gC⟩ rfl rfl (fun a oe cls d pn hz hf => hd_suite (fun x H G hn er => (me_tup (ma_cons me_str (ma_cons (me_attr "k" (me_bor (me_fld hz hf er (by rw [hn]; exact T.f_NotJoined) (by rw [hn]; exact T.x_NotJoined_answer)))) ma_nil)))))
    HdsA.nil))))
theorem hca_ok : ∀ q ∈ hl, ∀ (a : Addr) (x : Exn) (p : Pen), q.2 a x [none, some (.ref a)] p = q.2 0 x [none, some (.ref 0)] p :=
  all_cons (fun a x p => by simp [mTup, maCons, maNil, mC, mFld, mUn]) (all_cons (fun a x p => by simp [mTup, maCons, maNil, mC, mFld, mUn]) (all_cons (fun a x p => by simp [mTup, maCons, maNil, mC, mFld, mUn]) (all_cons (fun a x p => by simp [mTup, maCons, maNil, mC, mFld, mUn]) (all_nil))))
abbrev N_law : List Str := ["script", "pen", "lap", "strands", "word", "k", "gaps", "told", "due", "here", "end", "step", "move", "known", "bad", "odd", "dues", "calls", "call"]
theorem s_law : FnScope N_law ["script"] (defScope (top 50)) := ⟨rfl, rfl, rfl, by decide +kernel, rfl, by decide +kernel, by decide +kernel⟩
abbrev qlam : Str := ("law" : Str) ++ (".<locals>." : Str) ++ ("<lambda>" : Str)
theorem t_law {cc Pt : Addr} {cl : Nat → Addr} {f : Addr} {g : Addr} {dV kV doc pm cdg ct oc : Value} {an od : Option Addr} {osl : Array (Option Value)} (TB : LamX.TabB base mg cc Pt)
    (gH : mg "_law_heard" = some (.ref g)) (kH : PySem.W.keepIn K (.ref g) = true) (lH : K.lookup g = some ⟨oc, od, .func (PySem.W.fnOf "_law_heard" "_law_heard" (defArgs (top 49)) (defBody (top 49)) (defScope (top 49)) dV kV doc pm an cdg ct), osl⟩) (cH : PySem.W.codeIn K cdg "_law_heard" = true) (bH : L2.Binds K (PySem.W.fnOf "_law_heard" "_law_heard" (defArgs (top 49)) (defBody (top 49)) (defScope (top 49)) dV kV doc pm an cdg ct) ["call"] [])
    (A : Around) (outer : List PySem.Env) (s : Shared) (H : Hp) (E : XK) (pa : Addr) (hc : c = mkC [(Pt, qlam)] cl lam (envOfC "law" (defScope (top 50)) s.heap.objs.size f (.ref cc)) pa [5, 6, 7, 8]) (T : TX P K mg c) (F__law_draw : FX P w K mg base c "_law_draw" 2 2 f__law_draw) (F__law_is_int : FX P w K mg base c "_law_is_int" 2 1 f__law_is_int) (F__law_listed : FX P w K mg base c "_law_listed" 3 2 f__law_listed) (F__law_o_odd_word : FX P w K mg base c "_law_o_odd_word" 4 2 f__law_o_odd_word) (F__law_o_rounds_of_word : FX P w K mg base c "_law_o_rounds_of_word" 2 2 f__law_o_rounds_of_word) (F__law_o_some_word_move : FX P w K mg base c "_law_o_some_word_move" 4 3 f__law_o_some_word_move) (F__law_o_word_led : FX P w K mg base c "_law_o_word_led" 3 3 f__law_o_word_led) (F__law_pick : FX P w K mg base c "_law_pick" 3 2 f__law_pick) (F_word_genus : FX P w K mg base c "word_genus" 9 2 f_word_genus) (F_word_led : FX P w K mg base c "word_led" 7 3 f_word_led)
    (hr : Room 11 (A.deeper (envOfC "law" (defScope (top 50)) s.heap.objs.size f (.ref cc)))) :
    MSs (zLaw P w K mg base N_law (top 50) f (.ref cc) A outer s H E c) [] ((defBody (top 50)).drop 1) b_law [] := by
  subst hc
  have hN : N_law.Nodup := s_law.nd
  exact mss_less (o1 := [false, false, false, false, false, false, false, false, false, false, false, false, false, false, false, false, false, false, false]) (mss_end (o2 := []) ((mss_cons (ms_for (passes_of rfl) rfl (mi_rng1 T.n_range me_int) (mg_name 2 hN) (mss_cons (ms_set 3 (me_fro (me_bin op_addA op2_add me_int (me_bor (me_fx F__law_draw hr (by decide) (takes_of rfl rfl rfl rfl) (fun _ _ _ _ h => ma_cons_len (fun _ _ _ _ h => ma_cons_len (fun _ _ _ _ h => ma_nil_len h) h) h) (ma_cons (me_var 1 rfl) (ma_cons me_int ma_nil)))))) hN)
    (mss_cons (ms_set 4 (me_if (mt_cmp op_gt op2_gt (me_look 3) me_int (nomark _)) (me_fro (me_lc (own' := [("k", 5)]) rfl hN (mi_rng1 T.n_range (me_bor (me_fx F__law_draw hr (by decide) (takes_of rfl rfl rfl rfl) (fun _ _ _ _ h => ma_cons_len (fun _ _ _ _ h => ma_cons_len (fun _ _ _ _ h => ma_nil_len h) h) h) (ma_cons (me_var 1 rfl) (ma_cons me_int ma_nil))))) (blkOk_by (by rfl)) (by decide) (by decide) (fun s H C cl fp pn => (mg_name 5 hN)) (fun s H C cl fp pn => (mts_nil (z := Z.blk _ s H _ _ fp pn))) (fun s H C cl fp pn => (me_fro (me_bin op_addA op2_add me_int (me_bor (me_fx F__law_draw hr (by decide) LamX.takes0 (fun _ _ _ _ h => ma_cons_len (fun _ _ _ _ h => ma_cons_len (fun _ _ _ _ h => ma_nil_len h) h) h) (ma_cons (me_var 1 rfl) (ma_cons (me_fro (me_bin op_sub op2_sub (me_look 3) me_int)) ma_nil))))))))) (me_fro (me_lst ma_nil))) hN)
    (mss_cons (ms_for (passes_of rfl) rfl (mi_rng2 T.n_range me_int (me_look 3)) (mg_name 5 hN) (mss_one (ms_set 4 (me_fro (me_bin op_addA op2_add (me_look 4) (me_if (mt_w (mw_and (mt_cmp (op_notIn2 (u65 hr)) op2_notIn2 (me_look 5) (me_look 4) rfl) (mw_and1 (mt_cmp op_gt op2_gt (me_bor (me_fx F__law_draw hr (by decide) (takes_of rfl rfl rfl rfl) (fun _ _ _ _ h => ma_cons_len (fun _ _ _ _ h => ma_cons_len (fun _ _ _ _ h => ma_nil_len h) h) h) (ma_cons (me_var 1 rfl) (ma_cons me_int ma_nil)))) me_int (nomark _))))) (me_frb (me_lst (ma_cons (me_var 5 rfl) ma_nil))) (me_frb (me_lst ma_nil))))) hN)))
    (mss_cons (ms_setLc (i := 6) (own' := [("k", 5)]) false (fun _ => by decide) rfl hN rfl rfl (sw_true rfl rfl rfl rfl) (mi_rng2 T.n_range me_int (me_look 3)) (blkOk_by (by rfl)) (by decide) (by decide) (fun s H C cl fp pn => (mg_name 5 hN)) (fun s H C cl fp pn => (mts_one (z := Z.blk _ s H _ _ fp pn) (mt_cmp (op_notIn2 (u65 hr)) op2_notIn2 (me_look 5) (me_look 4) rfl))) (fun s H C cl fp pn => (me_var 5 rfl)))
    (mss_cons (ms_set 7 (me_hear (w := "ok") (hl := hl) (kn := kn) (ok := [0]) (lam := lam) (lamd := lamd) rfl gH kH lH cH bH s__law_heard rfl rfl (Or.inl rfl) s__law_heard.nd (fun s H => t_hh T _ _ _ _ s H) (fun n hn q hq => T.m_all n hn q.1 (List.mem_map_of_mem (f := Prod.fst) hq)) hca_ok (k := 9) (hr.mono (by decide)) rfl (fun _ _ => rfl) (all_cons (LamX.lamS_by (by rfl)) all_nil) (all_cons (fun q cl pm cv ctv => rfl) all_nil) (all_cons (fun A outer s H E f c' hr => (me_fx F_word_genus hr (by decide) (takes_of rfl rfl rfl rfl) (fun _ _ _ _ h => ma_cons_len (fun _ _ _ _ h => ma_cons_len (fun _ _ _ _ h => ma_nil_len h) h) h) (ma_cons (me_var 3 rfl) (ma_cons (me_fx F__law_listed hr (by decide) (takes_of rfl rfl rfl rfl) (fun _ _ _ _ h => ma_cons_len (fun _ _ _ _ h => ma_cons_len (fun _ _ _ _ h => ma_nil_len h) h) h) (ma_cons (me_var 1 rfl) (ma_cons (me_var 4 rfl) ma_nil))) ma_nil)))) all_nil) (me_lam (n := 0) rfl rfl (fun _ => NewIn.of rfl) TB rfl (List.mem_singleton.mpr rfl) (fun p hp _ => by have e := List.mem_singleton.mp hp; subst e; rfl) (LamX.lamS_by (by rfl)))) hN)
    (mss_cons (ms_if (mt_cmp (op_neD (u64 hr)) op2_ne (me_look 6) (me_frb (me_lst ma_nil)) (nomark _)) (mss_cons (ms_if (mt_w (mw_or (mt_cmp (op_neD (u64 hr)) op2_ne (me_bor (me_ix (me_look 7) me_int)) me_str (nomark _)) (mw_or1 (mt_cmp (op_notIn2 (u65 hr)) op2_notIn2 (me_bor (me_ix (me_look 7) me_int)) (me_look 6) rfl)))) (mss_one (ms_ret (o1 := [false, false, false, false, false, false, false, false, false, false, false, false, false, false, false, false, false, false, false]) me_bl)) mss_nil)
    (mss_one (ms_cont (o1 := [false, false, false, false, false, false, false, false, false, false, false, false, false, false, false, false, false, false, false]) rfl))) mss_nil)
    (mss_cons (ms_set 8 (me_fro (me_bin op_sub op2_sub (me_frb (me_bin op_sub op2_sub (me_frb (me_bin op_addA op2_add me_int (me_frb (me_len T.n_len (me_look 4))))) (me_look 3))) (me_frb (me_len T.n_len (me_bor (me_ix (me_bor (me_fx F__law_o_rounds_of_word hr (by decide) (takes_of rfl rfl rfl rfl) (fun _ _ _ _ h => ma_cons_len (fun _ _ _ _ h => ma_cons_len (fun _ _ _ _ h => ma_nil_len h) h) h) (ma_cons (me_var 3 rfl) (ma_cons (me_var 4 rfl) ma_nil)))) me_int)))))) hN)
    (mss_cons (ms_if (mt_w (mw_or (mt_cmp (op_neD (u64 hr)) op2_ne (me_bor (me_ix (me_look 7) me_int)) me_str (nomark _)) (mw_or (mt_not (mt_val (me_bor (me_fx F__law_is_int hr (by decide) (takes_of rfl rfl rfl rfl) (fun _ _ _ _ h => ma_cons_len (fun _ _ _ _ h => ma_nil_len h) h) (ma_cons (me_ix (me_look 7) me_int) ma_nil))))) (mw_or (mt_cmp (op_eqD (u64 hr)) op2_eq (me_frb (me_bin op_and op2_and (me_look 8) me_int)) me_int (nomark _)) (mw_or (mt_cmp (op_neD (u64 hr)) op2_ne (me_bor (me_ix (me_look 7) me_int)) (me_frb (me_bin op_fdiv op2_div (me_look 8) me_int)) (nomark _)) (mw_or1 (mt_cmp op_lt op2_lt (me_look 8) me_int (nomark _)))))))) (mss_one (ms_ret (o1 := [false, false, false, false, false, false, false, false, false, false, false, false, false, false, false, false, false, false, false]) me_bl)) mss_nil)
    (mss_cons (ms_par2 rfl (ml_cons false (me_var 3 rfl) (fun _ => (ml_cons false (me_var 4 rfl) (fun _ => ml_nil)))) (by decide) hN)
    (mss_cons (ms_for (passes_of rfl) rfl (mi_rng1 T.n_range me_int) (mg_name 11 hN) (mss_cons (ms_set 12 (me_fx F__law_o_some_word_move hr (by decide) (takes_of rfl rfl rfl rfl) (fun _ _ _ _ h => ma_cons_len (fun _ _ _ _ h => ma_cons_len (fun _ _ _ _ h => ma_cons_len (fun _ _ _ _ h => ma_nil_len h) h) h) h) (ma_cons (me_var 1 rfl) (ma_cons (me_var 9 rfl) (ma_cons (me_var 10 rfl) ma_nil)))) hN)
    (mss_one (ms_if (mt_w (mw_or (mt_cmp (op_in2 (u65 hr)) op2_in2 (me_bor (me_ix (me_look 12) me_int)) (me_frb (me_lst (ma_cons me_str (ma_cons me_str (ma_cons me_str ma_nil))))) rfl) (mw_or (mt_w (mw_and (mt_cmp (op_eqD (u64 hr)) op2_eq (me_look 12) (me_bor (me_tup (ma_cons me_str (ma_cons me_int ma_nil)))) (nomark _)) (mw_and1 (mt_cmp op_lt op2_lt (me_frb (me_len T.n_len (me_look 10))) me_int (nomark _))))) (mw_or1 (mt_cmp (op_eqD (u64 hr)) op2_eq (me_look 12) (me_bor (me_tup (ma_cons me_str ma_nil))) (nomark _)))))) (mss_one (ms_asg (me_fx F__law_o_word_led hr (by decide) (takes_of rfl rfl rfl rfl) (fun _ _ _ _ h => ma_cons_len (fun _ _ _ _ h => ma_cons_len (fun _ _ _ _ h => ma_cons_len (fun _ _ _ _ h => ma_nil_len h) h) h) h) (ma_cons (me_var 9 rfl) (ma_cons (me_var 10 rfl) (ma_cons (me_var 12 rfl) ma_nil)))) (mg_tup rfl (mgs_cons (mg_name 9 hN) (mgs_cons (mg_name 10 hN) mgs_nil)) (fun _ _ _ h => gt_cons_len (fun _ _ _ h => gt_cons_len (fun _ _ _ h => gt_nil_len h) h) h)))) mss_nil))))
    (mss_one (ms_if (mt_w (mw_or (mt_cmp (op_neD (u64 hr)) op2_ne (me_bor (me_fx F_word_genus hr (by decide) (takes_of rfl rfl rfl rfl) (fun _ _ _ _ h => ma_cons_len (fun _ _ _ _ h => ma_cons_len (fun _ _ _ _ h => ma_nil_len h) h) h) (ma_cons (me_var 9 rfl) (ma_cons (me_var 10 rfl) ma_nil)))) (me_bor (me_ix (me_look 7) me_int)) (nomark _)) (mw_or1 (mt_cmp (op_neD (u64 hr)) op2_ne (me_bor (me_fx F_word_led hr (by decide) (takes_of rfl rfl rfl rfl) (fun _ _ _ _ h => ma_cons_len (fun _ _ _ _ h => ma_cons_len (fun _ _ _ _ h => ma_cons_len (fun _ _ _ _ h => ma_nil_len h) h) h) h) (ma_cons (me_var 3 rfl) (ma_cons (me_var 4 rfl) (ma_cons (me_fro (me_bin op_mulA op2_mul (me_frb (me_lst (ma_cons (me_tup (ma_cons me_str ma_nil)) ma_nil))) (me_frb (me_toint T.n_int (me_frb (me_cmp (op_neD (u64 hr)) op2_ne (me_look 4) (me_frb (me_lst ma_nil)) (nomark _))))))) ma_nil))))) (me_bor (me_tup (ma_cons (me_var 3 rfl) (ma_cons (me_fro (me_totuple T.n_tuple (me_frb (me_bin op_addA op2_add (me_frb (me_slice (me_look 4) (mo_some me_int) mo_none)) (me_frb (me_slice (me_look 4) mo_none (mo_some me_int))))))) ma_nil)))) (nomark _))))) (mss_one (ms_ret (o1 := [false, false, false, false, false, false, false, false, false, false, false, false, false, false, false, false, false, false, false]) me_bl)) mss_nil)))))))))))))
    (mss_cons (ms_setLc (i := 13) (own' := [("k", 5)]) false (fun _ => by decide) rfl hN rfl rfl (sw_true rfl rfl rfl rfl) (mi_seq (me_fro (me_lst (ma_cons me_int (ma_cons me_int (ma_cons me_int (ma_cons me_int (ma_cons me_int (ma_cons me_int ma_nil))))))))) (blkOk_by (by rfl)) (by decide) (by decide) (fun s H C cl fp pn => (mg_name 5 hN)) (fun s H C cl fp pn => (mts_nil (z := Z.blk _ s H _ _ fp pn))) (fun s H C cl fp pn => (me_fx F_word_genus hr (by decide) LamX.takes0 (fun _ _ _ _ h => ma_cons_len (fun _ _ _ _ h => ma_cons_len (fun _ _ _ _ h => ma_nil_len h) h) h) (ma_cons me_int (ma_cons (me_fro (me_bin op_mulA op2_mul (me_frb (me_lst (ma_cons me_int ma_nil))) (me_look 5))) ma_nil)))))
    (mss_cons (ms_if (mt_w (mw_or (mt_cmp (op_neD (u64 hr)) op2_ne (me_look 13) (me_frb (me_lst (ma_cons me_int (ma_cons me_int (ma_cons me_int (ma_cons me_int (ma_cons me_int (ma_cons me_int ma_nil)))))))) (nomark _)) (mw_or (mt_cmp (op_neD (u64 hr)) op2_ne (me_bor (me_fx F_word_genus hr (by decide) (takes_of rfl rfl rfl rfl) (fun _ _ _ _ h => ma_cons_len (fun _ _ _ _ h => ma_cons_len (fun _ _ _ _ h => ma_nil_len h) h) h) (ma_cons me_int (ma_cons (me_fro (me_bin op_mulA op2_mul (me_frb (me_lst (ma_cons me_int (ma_cons me_int ma_nil)))) me_int)) ma_nil)))) me_int (nomark _)) (mw_or1 (mt_cmp (op_neD (u64 hr)) op2_ne (me_bor (me_fx F_word_genus hr (by decide) (takes_of rfl rfl rfl rfl) (fun _ _ _ _ h => ma_cons_len (fun _ _ _ _ h => ma_cons_len (fun _ _ _ _ h => ma_nil_len h) h) h) (ma_cons me_int (ma_cons (me_fro (me_lst ma_nil)) ma_nil)))) me_int (nomark _)))))) (mss_one (ms_ret (o1 := [false, false, false, false, false, false, false, false, false, false, false, false, false, false, false, false, false, false, false]) me_bl)) mss_nil)
    (mss_cons (ms_parT (is := [14, 15]) rfl (ml_cons false (me_fx F__law_pick hr (by decide) (takes_of rfl rfl rfl rfl) (fun _ _ _ _ h => ma_cons_len (fun _ _ _ _ h => ma_cons_len (fun _ _ _ _ h => ma_nil_len h) h) h) (ma_cons (me_var 1 rfl) (ma_cons (me_fro (me_lst (ma_cons me_int (ma_cons me_int (ma_cons (me_neg me_int) (ma_cons me_non (ma_cons me_bl (ma_cons me_str ma_nil)))))))) ma_nil))) (fun _ => (ml_cons false (me_fx F__law_o_odd_word hr (by decide) (takes_of rfl rfl rfl rfl) (fun _ _ _ _ h => ma_cons_len (fun _ _ _ _ h => ma_cons_len (fun _ _ _ _ h => ma_nil_len h) h) h) (ma_cons (me_var 1 rfl) (ma_cons (me_var 3 rfl) ma_nil))) (fun _ => ml_nil)))) (nm_cons (nm_cons nm_nil hN) hN) (by decide))
    (mss_cons (ms_set 16 (me_fro (me_lst (ma_cons (me_tup (ma_cons me_str (ma_cons me_str (ma_cons (me_fro (me_repr T.n_repr (me_look 14))) ma_nil)))) (ma_cons (me_tup (ma_cons me_str (ma_cons (me_ix (me_look 15) me_int) ma_nil))) (ma_cons (me_tup (ma_cons me_str (ma_cons me_int ma_nil))) (ma_cons (me_tup (ma_cons me_str (ma_cons me_int ma_nil))) ma_nil)))))) hN)
    (mss_cons (ms_set 17 (me_fro (me_lst (ma_cons (me_lam (n := 1) rfl rfl (fun _ => NewIn.of rfl) TB rfl (List.mem_singleton.mpr rfl) (fun p hp _ => by have e := List.mem_singleton.mp hp; subst e; rfl) (LamX.lamS_by (by rfl))) (ma_cons (me_lam (n := 2) rfl rfl (fun _ => NewIn.of rfl) TB rfl (List.mem_singleton.mpr rfl) (fun p hp _ => by have e := List.mem_singleton.mp hp; subst e; rfl) (LamX.lamS_by (by rfl))) (ma_cons (me_lam (n := 3) rfl rfl (fun _ => NewIn.of rfl) TB rfl (List.mem_singleton.mpr rfl) (fun p hp _ => by have e := List.mem_singleton.mp hp; subst e; rfl) (LamX.lamS_by (by rfl))) (ma_cons (me_lam (n := 4) rfl rfl (fun _ => NewIn.of rfl) TB rfl (List.mem_singleton.mpr rfl) (fun p hp _ => by have e := List.mem_singleton.mp hp; subst e; rfl) (LamX.lamS_by (by rfl))) ma_nil)))))) hN)
    (mss_one (ms_ret (o1 := [false, false, false, false, false, false, false, false, false, false, false, false, false, false, false, false, false, false, false]) (me_fro (me_cmp (op_eqD (u64 hr)) op2_eq (me_frb (me_hearAll (w := "ok") (hl := hl) (kn := kn) (ok := [1, 2, 3, 4]) (lam := lam) (lamd := lamd) (i := 18) gH kH lH cH bH s__law_heard rfl rfl (Or.inl rfl) s__law_heard.nd (fun s H => t_hh T _ _ _ _ s H) (fun n hn q hq => T.m_all n hn q.1 (List.mem_map_of_mem (f := Prod.fst) hq)) hca_ok (k := 9) (hr.mono (by decide)) rfl (fun _ _ => rfl) (all_cons (LamX.lamS_by (by rfl)) (all_cons (LamX.lamS_by (by rfl)) (all_cons (LamX.lamS_by (by rfl)) (all_cons (LamX.lamS_by (by rfl)) all_nil)))) (all_cons (fun q cl pm cv ctv => rfl) (all_cons (fun q cl pm cv ctv => rfl) (all_cons (fun q cl pm cv ctv => rfl) (all_cons (fun q cl pm cv ctv => rfl) all_nil)))) (all_cons (fun pn A outer s H E f c' hr => (me_fx F_word_genus hr (by decide) (takes_of rfl rfl rfl rfl) (fun _ _ _ _ h => ma_cons_len (fun _ _ _ _ h => ma_cons_len (fun _ _ _ _ h => ma_nil_len h) h) h) (ma_cons (me_var 14 rfl) (ma_cons (me_ix (me_look 15) me_int) ma_nil)))) (all_cons (fun pn A outer s H E f c' hr => (me_fx F_word_genus hr (by decide) (takes_of rfl rfl rfl rfl) (fun _ _ _ _ h => ma_cons_len (fun _ _ _ _ h => ma_cons_len (fun _ _ _ _ h => ma_nil_len h) h) h) (ma_cons (me_var 3 rfl) (ma_cons (me_ix (me_look 15) me_int) ma_nil)))) (all_cons (fun pn A outer s H E f c' hr => (me_fx F_word_genus hr (by decide) (takes_of rfl rfl rfl rfl) (fun _ _ _ _ h => ma_cons_len (fun _ _ _ _ h => ma_cons_len (fun _ _ _ _ h => ma_nil_len h) h) h) (ma_cons me_int (ma_cons (me_fro (me_lst (ma_cons me_int (ma_cons (me_neg me_int) (ma_cons me_int ma_nil))))) ma_nil)))) (all_cons (fun pn A outer s H E f c' hr => (me_fx F_word_genus hr (by decide) (takes_of rfl rfl rfl rfl) (fun _ _ _ _ h => ma_cons_len (fun _ _ _ _ h => ma_cons_len (fun _ _ _ _ h => ma_nil_len h) h) h) (ma_cons me_int (ma_cons (me_fro (me_lst (ma_cons me_int (ma_cons me_int ma_nil)))) ma_nil)))) all_nil)))) rfl hN (mi_seq (me_var 17 rfl)) (blkOk_by (by rfl)) rfl)) (me_look 16) (nomark _)))))))))))) rfl) rfl
end
end K75
namespace K75
open PySem PySem.W PySem.Calls PyProof.Rows PySem.HandSPX L2 Mz
abbrev N__law_pen : List Str := ["script", "fold", "cell"]
theorem s__law_pen : FnScope N__law_pen ["script"] (defScope (top 40)) := ⟨rfl, rfl, rfl, by decide +kernel, rfl, by decide +kernel, by decide +kernel⟩
theorem ok_pen {P : Program} {w : World} {K : PySem.W.Frag} {mg : Str → Option Value} {base : Heap} {f : Addr} {oc : Value} {od : Option Addr} {dV kV doc pm cdv ct : Value} {an : Option Addr} {osl : Array (Option Value)}
    (n_int : mg "int" = none) (n_list : mg "list" = none) (lk : K.lookup f = some ⟨oc, od, .func (PySem.W.fnOf "_law_pen" "_law_pen" (defArgs (top 40)) (defBody (top 40)) (defScope (top 40)) dV kV doc pm an cdv ct), osl⟩) (hcd : PySem.W.codeIn K cdv "_law_pen" = true) :
    FnOk P w K mg base (L2.CX P w) 1 f (PySem.W.fnOf "_law_pen" "_law_pen" (defArgs (top 40)) (defBody (top 40)) (defScope (top 40)) dV kV doc pm an cdv ct) ["script"] (spPen K) :=
  fn_of lk hcd s__law_pen (fun vs H Q E h => by obtain ⟨a, ns, rfl, _⟩ := h; rfl) fun A outer s H vs Q E hr h => ⟨t_pen K,
    pss_cons (ps_set (i := 1) s__law_pen.nd rfl (.inl rfl) pe_int) (pss_cons (ps_for (passes_of rfl) rfl (pi_list (pv 0)) (pg_name (i := 2) s__law_pen.nd rfl (.inl rfl))
      (pss_one (ps_set (i := 1) s__law_pen.nd rfl (.inl rfl) (pe_op op_mod (pe_callTy call_int1 (by rfl) n_int (by decide +kernel) (pa_cons (pe_op op_add (pe_op op_mul (pv 1) pe_int) (pv 2)) pa_nil)) pe_int))))
      (pss_one (ps_ret (pe_disp (pps_cons pe_str (pe_callTy call_list_of (by rfl) n_list (by decide +kernel) (pa_cons (pv 0) pa_nil)) (pps_cons pe_str pe_int (pps_cons pe_str pe_int (pps_cons pe_str pe_int (pps_cons pe_str (pv 1) pps_nil))))) (by rfl) (by rfl) (fun z => by cases z) (by decide))))), pure_pen vs H Q E h⟩
set_option maxHeartbeats 0 in
theorem all_mk {w : World} {K : PySem.W.Frag} {h : Heap} {mg : Str → Option Value} {fa : Addr} (X : K.In h) (G : h.Ns mainGlobals mg) (hfa : mg "law" = some (.ref fa))
    (M : ∀ (ns : List Int) (fold : Int), ns.length ≤ 63 → 0 ≤ fold → fold < FOLD → ∃ p', b_law (e0 19) ⟨ns, 0, 0, 0, fold⟩ = .ret (.bl true) p')
    {f_is_integer : Addr} {oc_is_integer : Value} {od_is_integer : Option Addr} {kV_is_integer doc_is_integer pm_is_integer cd_is_integer ct_is_integer : Value} {an_is_integer : Option Addr} {sl_is_integer : Array (Option Value)}
    {f_is_count : Addr} {oc_is_count : Value} {od_is_count : Option Addr} {kV_is_count doc_is_count pm_is_count cd_is_count ct_is_count : Value} {an_is_count : Option Addr} {sl_is_count : Array (Option Value)}
    {T_is_count : Addr} {vc_is_count : Value} {vd_is_count : Option Addr} {vn_is_count : Nat}  {vs_is_count : Array (Option Value)}
    {f_is_row : Addr} {oc_is_row : Value} {od_is_row : Option Addr} {kV_is_row doc_is_row pm_is_row cd_is_row ct_is_row : Value} {an_is_row : Option Addr} {sl_is_row : Array (Option Value)}
    {f_kept : Addr} {oc_kept : Value} {od_kept : Option Addr} {kV_kept doc_kept pm_kept cd_kept ct_kept : Value} {an_kept : Option Addr} {sl_kept : Array (Option Value)}
    {f_need_strands : Addr} {oc_need_strands : Value} {od_need_strands : Option Addr} {kV_need_strands doc_need_strands pm_need_strands cd_need_strands ct_need_strands : Value} {an_need_strands : Option Addr} {sl_need_strands : Array (Option Value)}
    {f_need_letters : Addr} {oc_need_letters : Value} {od_need_letters : Option Addr} {kV_need_letters doc_need_letters pm_need_letters cd_need_letters ct_need_letters : Value} {an_need_letters : Option Addr} {sl_need_letters : Array (Option Value)}
    {f_need_word : Addr} {oc_need_word : Value} {od_need_word : Option Addr} {kV_need_word doc_need_word pm_need_word cd_need_word ct_need_word : Value} {an_need_word : Option Addr} {sl_need_word : Array (Option Value)}
    {f_order_of : Addr} {oc_order_of : Value} {od_order_of : Option Addr} {kV_order_of doc_order_of pm_order_of cd_order_of ct_order_of : Value} {an_order_of : Option Addr} {sl_order_of : Array (Option Value)}
    {f_rounds_of_word : Addr} {oc_rounds_of_word : Value} {od_rounds_of_word : Option Addr} {kV_rounds_of_word doc_rounds_of_word pm_rounds_of_word cd_rounds_of_word ct_rounds_of_word : Value} {an_rounds_of_word : Option Addr} {sl_rounds_of_word : Array (Option Value)}
    {f_settled_together : Addr} {oc_settled_together : Value} {od_settled_together : Option Addr} {kV_settled_together doc_settled_together pm_settled_together cd_settled_together ct_settled_together : Value} {an_settled_together : Option Addr} {sl_settled_together : Array (Option Value)}
    {f_lots_among : Addr} {oc_lots_among : Value} {od_lots_among : Option Addr} {kV_lots_among doc_lots_among pm_lots_among cd_lots_among ct_lots_among : Value} {an_lots_among : Option Addr} {sl_lots_among : Array (Option Value)}
    {f_parts_of_word : Addr} {oc_parts_of_word : Value} {od_parts_of_word : Option Addr} {kV_parts_of_word doc_parts_of_word pm_parts_of_word cd_parts_of_word ct_parts_of_word : Value} {an_parts_of_word : Option Addr} {sl_parts_of_word : Array (Option Value)}
    {f_settled_positive : Addr} {oc_settled_positive : Value} {od_settled_positive : Option Addr} {kV_settled_positive doc_settled_positive pm_settled_positive cd_settled_positive ct_settled_positive : Value} {an_settled_positive : Option Addr} {sl_settled_positive : Array (Option Value)}
    {f_word_genus : Addr} {oc_word_genus : Value} {od_word_genus : Option Addr} {kV_word_genus doc_word_genus pm_word_genus cd_word_genus ct_word_genus : Value} {an_word_genus : Option Addr} {sl_word_genus : Array (Option Value)}
    {f_put_in : Addr} {oc_put_in : Value} {od_put_in : Option Addr} {kV_put_in doc_put_in pm_put_in cd_put_in ct_put_in : Value} {an_put_in : Option Addr} {sl_put_in : Array (Option Value)}
    {f_changed_at : Addr} {oc_changed_at : Value} {od_changed_at : Option Addr} {kV_changed_at doc_changed_at pm_changed_at cd_changed_at ct_changed_at : Value} {an_changed_at : Option Addr} {sl_changed_at : Array (Option Value)}
    {f_stacked : Addr} {oc_stacked : Value} {od_stacked : Option Addr} {kV_stacked doc_stacked pm_stacked cd_stacked ct_stacked : Value} {an_stacked : Option Addr} {sl_stacked : Array (Option Value)}
    {f_unstacked : Addr} {oc_unstacked : Value} {od_unstacked : Option Addr} {kV_unstacked doc_unstacked pm_unstacked cd_unstacked ct_unstacked : Value} {an_unstacked : Option Addr} {sl_unstacked : Array (Option Value)}
    {f_any_moved : Addr} {oc_any_moved : Value} {od_any_moved : Option Addr} {kV_any_moved doc_any_moved pm_any_moved cd_any_moved ct_any_moved : Value} {an_any_moved : Option Addr} {sl_any_moved : Array (Option Value)}
    {f_one_moved : Addr} {oc_one_moved : Value} {od_one_moved : Option Addr} {kV_one_moved doc_one_moved pm_one_moved cd_one_moved ct_one_moved : Value} {an_one_moved : Option Addr} {sl_one_moved : Array (Option Value)}
    {f_word_led : Addr} {oc_word_led : Value} {od_word_led : Option Addr} {kV_word_led doc_word_led pm_word_led cd_word_led ct_word_led : Value} {an_word_led : Option Addr} {sl_word_led : Array (Option Value)}
    {f__law_draw : Addr} {oc__law_draw : Value} {od__law_draw : Option Addr} {kV__law_draw doc__law_draw pm__law_draw cd__law_draw ct__law_draw : Value} {an__law_draw : Option Addr} {sl__law_draw : Array (Option Value)}
    {f__law_pick : Addr} {oc__law_pick : Value} {od__law_pick : Option Addr} {kV__law_pick doc__law_pick pm__law_pick cd__law_pick ct__law_pick : Value} {an__law_pick : Option Addr} {sl__law_pick : Array (Option Value)}
    {f__law_listed : Addr} {oc__law_listed : Value} {od__law_listed : Option Addr} {kV__law_listed doc__law_listed pm__law_listed cd__law_listed ct__law_listed : Value} {an__law_listed : Option Addr} {sl__law_listed : Array (Option Value)}
    {f__law_is_int : Addr} {oc__law_is_int : Value} {od__law_is_int : Option Addr} {kV__law_is_int doc__law_is_int pm__law_is_int cd__law_is_int ct__law_is_int : Value} {an__law_is_int : Option Addr} {sl__law_is_int : Array (Option Value)}
    {f__law_o_word_led : Addr} {oc__law_o_word_led : Value} {od__law_o_word_led : Option Addr} {kV__law_o_word_led doc__law_o_word_led pm__law_o_word_led cd__law_o_word_led ct__law_o_word_led : Value} {an__law_o_word_led : Option Addr} {sl__law_o_word_led : Array (Option Value)}
    {f__law_o_some_word_move : Addr} {oc__law_o_some_word_move : Value} {od__law_o_some_word_move : Option Addr} {kV__law_o_some_word_move doc__law_o_some_word_move pm__law_o_some_word_move cd__law_o_some_word_move ct__law_o_some_word_move : Value} {an__law_o_some_word_move : Option Addr} {sl__law_o_some_word_move : Array (Option Value)}
    {f__law_o_rounds_of_word : Addr} {oc__law_o_rounds_of_word : Value} {od__law_o_rounds_of_word : Option Addr} {kV__law_o_rounds_of_word doc__law_o_rounds_of_word pm__law_o_rounds_of_word cd__law_o_rounds_of_word ct__law_o_rounds_of_word : Value} {an__law_o_rounds_of_word : Option Addr} {sl__law_o_rounds_of_word : Array (Option Value)}
    {f__law_o_odd_word : Addr} {oc__law_o_odd_word : Value} {od__law_o_odd_word : Option Addr} {kV__law_o_odd_word doc__law_o_odd_word pm__law_o_odd_word cd__law_o_odd_word ct__law_o_odd_word : Value} {an__law_o_odd_word : Option Addr} {sl__law_o_odd_word : Array (Option Value)}
    {f__law_pen : Addr} {oc__law_pen : Value} {od__law_pen : Option Addr} {kV__law_pen doc__law_pen pm__law_pen cd__law_pen ct__law_pen : Value} {an__law_pen : Option Addr} {sl__law_pen : Array (Option Value)}
    {f__law_heard : Addr} {oc__law_heard : Value} {od__law_heard : Option Addr} {kV__law_heard doc__law_heard pm__law_heard cd__law_heard ct__law_heard : Value} {an__law_heard : Option Addr} {sl__law_heard : Array (Option Value)}
    {f_law cc Pt : Addr} {oc_law : Value} {od_law : Option Addr} {kV_law doc_law pm_law ct_law : Value} {an_law : Option Addr} {sl_law : Array (Option Value)}
    {C_BadNumber B_BadNumber fI_BadNumber cc_BadNumber cda_BadNumber N_BadNumber : Addr} {nm_BadNumber q_BadNumber : Str} {bs_BadNumber : List Value} {sn_BadNumber : List Str} {sub_BadNumber : List Value} {ab_BadNumber : Bool} {col_BadNumber : Option Bool} {dd_BadNumber : Option Addr} {m0_BadNumber m1_BadNumber m2_BadNumber m3_BadNumber m5_BadNumber : Option Value} {oc_BadNumber : Value} {od_BadNumber : Option Addr} {kV_BadNumber doc_BadNumber pm_BadNumber : Value} {an_BadNumber : Option Addr} {ct_BadNumber : Value} {sl_BadNumber : Array (Option Value)} {cl_BadNumber : Value} {cld_BadNumber : Option Addr} {csl_BadNumber : Array (Option Value)}
    {C_BadMoves B_BadMoves fI_BadMoves cc_BadMoves cda_BadMoves N_BadMoves : Addr} {nm_BadMoves q_BadMoves : Str} {bs_BadMoves : List Value} {sn_BadMoves : List Str} {sub_BadMoves : List Value} {ab_BadMoves : Bool} {col_BadMoves : Option Bool} {dd_BadMoves : Option Addr} {m0_BadMoves m1_BadMoves m2_BadMoves m3_BadMoves m5_BadMoves : Option Value} {oc_BadMoves : Value} {od_BadMoves : Option Addr} {kV_BadMoves doc_BadMoves pm_BadMoves : Value} {an_BadMoves : Option Addr} {ct_BadMoves : Value} {sl_BadMoves : Array (Option Value)} {cl_BadMoves : Value} {cld_BadMoves : Option Addr} {csl_BadMoves : Array (Option Value)}
    {C_BadWord B_BadWord fI_BadWord cc_BadWord cda_BadWord N_BadWord : Addr} {nm_BadWord q_BadWord : Str} {bs_BadWord : List Value} {sn_BadWord : List Str} {sub_BadWord : List Value} {ab_BadWord : Bool} {col_BadWord : Option Bool} {dd_BadWord : Option Addr} {m0_BadWord m1_BadWord m2_BadWord m3_BadWord m5_BadWord : Option Value} {oc_BadWord : Value} {od_BadWord : Option Addr} {kV_BadWord doc_BadWord pm_BadWord : Value} {an_BadWord : Option Addr} {ct_BadWord : Value} {sl_BadWord : Array (Option Value)} {cl_BadWord : Value} {cld_BadWord : Option Addr} {csl_BadWord : Array (Option Value)}
    {C_NotPositive B_NotPositive fI_NotPositive cc_NotPositive cda_NotPositive N_NotPositive : Addr} {nm_NotPositive q_NotPositive : Str} {bs_NotPositive : List Value} {sn_NotPositive : List Str} {sub_NotPositive : List Value} {ab_NotPositive : Bool} {col_NotPositive : Option Bool} {dd_NotPositive : Option Addr} {m0_NotPositive m1_NotPositive m2_NotPositive m3_NotPositive m5_NotPositive : Option Value} {oc_NotPositive : Value} {od_NotPositive : Option Addr} {kV_NotPositive doc_NotPositive pm_NotPositive : Value} {an_NotPositive : Option Addr} {ct_NotPositive : Value} {sl_NotPositive : Array (Option Value)} {cl_NotPositive : Value} {cld_NotPositive : Option Addr} {csl_NotPositive : Array (Option Value)}
    {C_NotJoined B_NotJoined fI_NotJoined cc_NotJoined cda_NotJoined N_NotJoined : Addr} {nm_NotJoined q_NotJoined : Str} {bs_NotJoined : List Value} {sn_NotJoined : List Str} {sub_NotJoined : List Value} {ab_NotJoined : Bool} {col_NotJoined : Option Bool} {dd_NotJoined : Option Addr} {m0_NotJoined m1_NotJoined m2_NotJoined m3_NotJoined m5_NotJoined : Option Value} {oc_NotJoined : Value} {od_NotJoined : Option Addr} {kV_NotJoined doc_NotJoined pm_NotJoined : Value} {an_NotJoined : Option Addr} {ct_NotJoined : Value} {sl_NotJoined : Array (Option Value)} {cl_NotJoined : Value} {cld_NotJoined : Option Addr} {csl_NotJoined : Array (Option Value)}
    {C_Together fI_Together : Addr} {oc_Together : Value} {od_Together : Option Addr} {kV_Together doc_Together pm_Together cd_Together ct_Together : Value} {an_Together : Option Addr} {sl_Together : Array (Option Value)}
    {C_Apart fI_Apart : Addr} {oc_Apart : Value} {od_Apart : Option Addr} {kV_Apart doc_Apart pm_Apart cd_Apart ct_Apart : Value} {an_Apart : Option Addr} {sl_Apart : Array (Option Value)}
    {C_Positive fI_Positive : Addr} {oc_Positive : Value} {od_Positive : Option Addr} {kV_Positive doc_Positive pm_Positive cd_Positive ct_Positive : Value} {an_Positive : Option Addr} {sl_Positive : Array (Option Value)}
    {C_Negative fI_Negative : Addr} {oc_Negative : Value} {od_Negative : Option Addr} {kV_Negative doc_Negative pm_Negative cd_Negative ct_Negative : Value} {an_Negative : Option Addr} {sl_Negative : Array (Option Value)}
    {t_MOST_CROSSINGS : Tok}
    {t_MOST_STRANDS : Tok}
    (hT : h.get? Pt = some (tabObj #[]))
    (a_is_integer : nsIn K mainGlobals "is_integer" = some (some (.ref f_is_integer)))
    (l_is_integer : K.lookup f_is_integer = some ⟨oc_is_integer, od_is_integer, .func (PySem.W.fnOf "is_integer" "is_integer" (defArgs (top 1)) (defBody (top 1)) (defScope (top 1)) .none kV_is_integer doc_is_integer pm_is_integer an_is_integer cd_is_integer ct_is_integer), sl_is_integer⟩)
    (c_is_integer : codeIn K cd_is_integer "is_integer" = true)
    (k_is_integer : keepIn K (.ref f_is_integer) = true)
    (a_is_count : nsIn K mainGlobals "is_count" = some (some (.ref f_is_count)))
    (l_is_count : K.lookup f_is_count = some ⟨oc_is_count, od_is_count, .func (PySem.W.fnOf "is_count" "is_count" (defArgs (top 2)) (defBody (top 2)) (defScope (top 2)) (.ref T_is_count) kV_is_count doc_is_count pm_is_count an_is_count cd_is_count ct_is_count), sl_is_count⟩)
    (v_is_count : K.lookup T_is_count = some ⟨vc_is_count, vd_is_count, .seq #[.none] vn_is_count, vs_is_count⟩)
    (c_is_count : codeIn K cd_is_count "is_count" = true)
    (k_is_count : keepIn K (.ref f_is_count) = true)
    (a_is_row : nsIn K mainGlobals "is_row" = some (some (.ref f_is_row)))
    (l_is_row : K.lookup f_is_row = some ⟨oc_is_row, od_is_row, .func (PySem.W.fnOf "is_row" "is_row" (defArgs (top 3)) (defBody (top 3)) (defScope (top 3)) .none kV_is_row doc_is_row pm_is_row an_is_row cd_is_row ct_is_row), sl_is_row⟩)
    (c_is_row : codeIn K cd_is_row "is_row" = true)
    (k_is_row : keepIn K (.ref f_is_row) = true)
    (a_kept : nsIn K mainGlobals "kept" = some (some (.ref f_kept)))
    (l_kept : K.lookup f_kept = some ⟨oc_kept, od_kept, .func (PySem.W.fnOf "kept" "kept" (defArgs (top 4)) (defBody (top 4)) (defScope (top 4)) .none kV_kept doc_kept pm_kept an_kept cd_kept ct_kept), sl_kept⟩)
    (c_kept : codeIn K cd_kept "kept" = true)
    (k_kept : keepIn K (.ref f_kept) = true)
    (a_need_strands : nsIn K mainGlobals "need_strands" = some (some (.ref f_need_strands)))
    (l_need_strands : K.lookup f_need_strands = some ⟨oc_need_strands, od_need_strands, .func (PySem.W.fnOf "need_strands" "need_strands" (defArgs (top 14)) (defBody (top 14)) (defScope (top 14)) .none kV_need_strands doc_need_strands pm_need_strands an_need_strands cd_need_strands ct_need_strands), sl_need_strands⟩)
    (c_need_strands : codeIn K cd_need_strands "need_strands" = true)
    (k_need_strands : keepIn K (.ref f_need_strands) = true)
    (a_need_letters : nsIn K mainGlobals "need_letters" = some (some (.ref f_need_letters)))
    (l_need_letters : K.lookup f_need_letters = some ⟨oc_need_letters, od_need_letters, .func (PySem.W.fnOf "need_letters" "need_letters" (defArgs (top 15)) (defBody (top 15)) (defScope (top 15)) .none kV_need_letters doc_need_letters pm_need_letters an_need_letters cd_need_letters ct_need_letters), sl_need_letters⟩)
    (c_need_letters : codeIn K cd_need_letters "need_letters" = true)
    (k_need_letters : keepIn K (.ref f_need_letters) = true)
    (a_need_word : nsIn K mainGlobals "need_word" = some (some (.ref f_need_word)))
    (l_need_word : K.lookup f_need_word = some ⟨oc_need_word, od_need_word, .func (PySem.W.fnOf "need_word" "need_word" (defArgs (top 19)) (defBody (top 19)) (defScope (top 19)) .none kV_need_word doc_need_word pm_need_word an_need_word cd_need_word ct_need_word), sl_need_word⟩)
    (c_need_word : codeIn K cd_need_word "need_word" = true)
    (k_need_word : keepIn K (.ref f_need_word) = true)
    (a_order_of : nsIn K mainGlobals "order_of" = some (some (.ref f_order_of)))
    (l_order_of : K.lookup f_order_of = some ⟨oc_order_of, od_order_of, .func (PySem.W.fnOf "order_of" "order_of" (defArgs (top 20)) (defBody (top 20)) (defScope (top 20)) .none kV_order_of doc_order_of pm_order_of an_order_of cd_order_of ct_order_of), sl_order_of⟩)
    (c_order_of : codeIn K cd_order_of "order_of" = true)
    (k_order_of : keepIn K (.ref f_order_of) = true)
    (a_rounds_of_word : nsIn K mainGlobals "rounds_of_word" = some (some (.ref f_rounds_of_word)))
    (l_rounds_of_word : K.lookup f_rounds_of_word = some ⟨oc_rounds_of_word, od_rounds_of_word, .func (PySem.W.fnOf "rounds_of_word" "rounds_of_word" (defArgs (top 21)) (defBody (top 21)) (defScope (top 21)) .none kV_rounds_of_word doc_rounds_of_word pm_rounds_of_word an_rounds_of_word cd_rounds_of_word ct_rounds_of_word), sl_rounds_of_word⟩)
    (c_rounds_of_word : codeIn K cd_rounds_of_word "rounds_of_word" = true)
    (k_rounds_of_word : keepIn K (.ref f_rounds_of_word) = true)
    (a_settled_together : nsIn K mainGlobals "settled_together" = some (some (.ref f_settled_together)))
    (l_settled_together : K.lookup f_settled_together = some ⟨oc_settled_together, od_settled_together, .func (PySem.W.fnOf "settled_together" "settled_together" (defArgs (top 22)) (defBody (top 22)) (defScope (top 22)) .none kV_settled_together doc_settled_together pm_settled_together an_settled_together cd_settled_together ct_settled_together), sl_settled_together⟩)
    (c_settled_together : codeIn K cd_settled_together "settled_together" = true)
    (k_settled_together : keepIn K (.ref f_settled_together) = true)
    (a_lots_among : nsIn K mainGlobals "lots_among" = some (some (.ref f_lots_among)))
    (l_lots_among : K.lookup f_lots_among = some ⟨oc_lots_among, od_lots_among, .func (PySem.W.fnOf "lots_among" "lots_among" (defArgs (top 26)) (defBody (top 26)) (defScope (top 26)) .none kV_lots_among doc_lots_among pm_lots_among an_lots_among cd_lots_among ct_lots_among), sl_lots_among⟩)
    (c_lots_among : codeIn K cd_lots_among "lots_among" = true)
    (k_lots_among : keepIn K (.ref f_lots_among) = true)
    (a_parts_of_word : nsIn K mainGlobals "parts_of_word" = some (some (.ref f_parts_of_word)))
    (l_parts_of_word : K.lookup f_parts_of_word = some ⟨oc_parts_of_word, od_parts_of_word, .func (PySem.W.fnOf "parts_of_word" "parts_of_word" (defArgs (top 27)) (defBody (top 27)) (defScope (top 27)) .none kV_parts_of_word doc_parts_of_word pm_parts_of_word an_parts_of_word cd_parts_of_word ct_parts_of_word), sl_parts_of_word⟩)
    (c_parts_of_word : codeIn K cd_parts_of_word "parts_of_word" = true)
    (k_parts_of_word : keepIn K (.ref f_parts_of_word) = true)
    (a_settled_positive : nsIn K mainGlobals "settled_positive" = some (some (.ref f_settled_positive)))
    (l_settled_positive : K.lookup f_settled_positive = some ⟨oc_settled_positive, od_settled_positive, .func (PySem.W.fnOf "settled_positive" "settled_positive" (defArgs (top 28)) (defBody (top 28)) (defScope (top 28)) .none kV_settled_positive doc_settled_positive pm_settled_positive an_settled_positive cd_settled_positive ct_settled_positive), sl_settled_positive⟩)
    (c_settled_positive : codeIn K cd_settled_positive "settled_positive" = true)
    (k_settled_positive : keepIn K (.ref f_settled_positive) = true)
    (a_word_genus : nsIn K mainGlobals "word_genus" = some (some (.ref f_word_genus)))
    (l_word_genus : K.lookup f_word_genus = some ⟨oc_word_genus, od_word_genus, .func (PySem.W.fnOf "word_genus" "word_genus" (defArgs (top 29)) (defBody (top 29)) (defScope (top 29)) .none kV_word_genus doc_word_genus pm_word_genus an_word_genus cd_word_genus ct_word_genus), sl_word_genus⟩)
    (c_word_genus : codeIn K cd_word_genus "word_genus" = true)
    (k_word_genus : keepIn K (.ref f_word_genus) = true)
    (a_put_in : nsIn K mainGlobals "put_in" = some (some (.ref f_put_in)))
    (l_put_in : K.lookup f_put_in = some ⟨oc_put_in, od_put_in, .func (PySem.W.fnOf "put_in" "put_in" (defArgs (top 32)) (defBody (top 32)) (defScope (top 32)) .none kV_put_in doc_put_in pm_put_in an_put_in cd_put_in ct_put_in), sl_put_in⟩)
    (c_put_in : codeIn K cd_put_in "put_in" = true)
    (k_put_in : keepIn K (.ref f_put_in) = true)
    (a_changed_at : nsIn K mainGlobals "changed_at" = some (some (.ref f_changed_at)))
    (l_changed_at : K.lookup f_changed_at = some ⟨oc_changed_at, od_changed_at, .func (PySem.W.fnOf "changed_at" "changed_at" (defArgs (top 33)) (defBody (top 33)) (defScope (top 33)) .none kV_changed_at doc_changed_at pm_changed_at an_changed_at cd_changed_at ct_changed_at), sl_changed_at⟩)
    (c_changed_at : codeIn K cd_changed_at "changed_at" = true)
    (k_changed_at : keepIn K (.ref f_changed_at) = true)
    (a_stacked : nsIn K mainGlobals "stacked" = some (some (.ref f_stacked)))
    (l_stacked : K.lookup f_stacked = some ⟨oc_stacked, od_stacked, .func (PySem.W.fnOf "stacked" "stacked" (defArgs (top 34)) (defBody (top 34)) (defScope (top 34)) .none kV_stacked doc_stacked pm_stacked an_stacked cd_stacked ct_stacked), sl_stacked⟩)
    (c_stacked : codeIn K cd_stacked "stacked" = true)
    (k_stacked : keepIn K (.ref f_stacked) = true)
    (a_unstacked : nsIn K mainGlobals "unstacked" = some (some (.ref f_unstacked)))
    (l_unstacked : K.lookup f_unstacked = some ⟨oc_unstacked, od_unstacked, .func (PySem.W.fnOf "unstacked" "unstacked" (defArgs (top 35)) (defBody (top 35)) (defScope (top 35)) .none kV_unstacked doc_unstacked pm_unstacked an_unstacked cd_unstacked ct_unstacked), sl_unstacked⟩)
    (c_unstacked : codeIn K cd_unstacked "unstacked" = true)
    (k_unstacked : keepIn K (.ref f_unstacked) = true)
    (a_any_moved : nsIn K mainGlobals "any_moved" = some (some (.ref f_any_moved)))
    (l_any_moved : K.lookup f_any_moved = some ⟨oc_any_moved, od_any_moved, .func (PySem.W.fnOf "any_moved" "any_moved" (defArgs (top 36)) (defBody (top 36)) (defScope (top 36)) .none kV_any_moved doc_any_moved pm_any_moved an_any_moved cd_any_moved ct_any_moved), sl_any_moved⟩)
    (c_any_moved : codeIn K cd_any_moved "any_moved" = true)
    (k_any_moved : keepIn K (.ref f_any_moved) = true)
    (a_one_moved : nsIn K mainGlobals "one_moved" = some (some (.ref f_one_moved)))
    (l_one_moved : K.lookup f_one_moved = some ⟨oc_one_moved, od_one_moved, .func (PySem.W.fnOf "one_moved" "one_moved" (defArgs (top 37)) (defBody (top 37)) (defScope (top 37)) .none kV_one_moved doc_one_moved pm_one_moved an_one_moved cd_one_moved ct_one_moved), sl_one_moved⟩)
    (c_one_moved : codeIn K cd_one_moved "one_moved" = true)
    (k_one_moved : keepIn K (.ref f_one_moved) = true)
    (a_word_led : nsIn K mainGlobals "word_led" = some (some (.ref f_word_led)))
    (l_word_led : K.lookup f_word_led = some ⟨oc_word_led, od_word_led, .func (PySem.W.fnOf "word_led" "word_led" (defArgs (top 38)) (defBody (top 38)) (defScope (top 38)) .none kV_word_led doc_word_led pm_word_led an_word_led cd_word_led ct_word_led), sl_word_led⟩)
    (c_word_led : codeIn K cd_word_led "word_led" = true)
    (k_word_led : keepIn K (.ref f_word_led) = true)
    (a__law_draw : nsIn K mainGlobals "_law_draw" = some (some (.ref f__law_draw)))
    (l__law_draw : K.lookup f__law_draw = some ⟨oc__law_draw, od__law_draw, .func (PySem.W.fnOf "_law_draw" "_law_draw" (defArgs (top 41)) (defBody (top 41)) (defScope (top 41)) .none kV__law_draw doc__law_draw pm__law_draw an__law_draw cd__law_draw ct__law_draw), sl__law_draw⟩)
    (c__law_draw : codeIn K cd__law_draw "_law_draw" = true)
    (k__law_draw : keepIn K (.ref f__law_draw) = true)
    (a__law_pick : nsIn K mainGlobals "_law_pick" = some (some (.ref f__law_pick)))
    (l__law_pick : K.lookup f__law_pick = some ⟨oc__law_pick, od__law_pick, .func (PySem.W.fnOf "_law_pick" "_law_pick" (defArgs (top 42)) (defBody (top 42)) (defScope (top 42)) .none kV__law_pick doc__law_pick pm__law_pick an__law_pick cd__law_pick ct__law_pick), sl__law_pick⟩)
    (c__law_pick : codeIn K cd__law_pick "_law_pick" = true)
    (k__law_pick : keepIn K (.ref f__law_pick) = true)
    (a__law_listed : nsIn K mainGlobals "_law_listed" = some (some (.ref f__law_listed)))
    (l__law_listed : K.lookup f__law_listed = some ⟨oc__law_listed, od__law_listed, .func (PySem.W.fnOf "_law_listed" "_law_listed" (defArgs (top 43)) (defBody (top 43)) (defScope (top 43)) .none kV__law_listed doc__law_listed pm__law_listed an__law_listed cd__law_listed ct__law_listed), sl__law_listed⟩)
    (c__law_listed : codeIn K cd__law_listed "_law_listed" = true)
    (k__law_listed : keepIn K (.ref f__law_listed) = true)
    (a__law_is_int : nsIn K mainGlobals "_law_is_int" = some (some (.ref f__law_is_int)))
    (l__law_is_int : K.lookup f__law_is_int = some ⟨oc__law_is_int, od__law_is_int, .func (PySem.W.fnOf "_law_is_int" "_law_is_int" (defArgs (top 44)) (defBody (top 44)) (defScope (top 44)) .none kV__law_is_int doc__law_is_int pm__law_is_int an__law_is_int cd__law_is_int ct__law_is_int), sl__law_is_int⟩)
    (c__law_is_int : codeIn K cd__law_is_int "_law_is_int" = true)
    (k__law_is_int : keepIn K (.ref f__law_is_int) = true)
    (a__law_o_word_led : nsIn K mainGlobals "_law_o_word_led" = some (some (.ref f__law_o_word_led)))
    (l__law_o_word_led : K.lookup f__law_o_word_led = some ⟨oc__law_o_word_led, od__law_o_word_led, .func (PySem.W.fnOf "_law_o_word_led" "_law_o_word_led" (defArgs (top 45)) (defBody (top 45)) (defScope (top 45)) .none kV__law_o_word_led doc__law_o_word_led pm__law_o_word_led an__law_o_word_led cd__law_o_word_led ct__law_o_word_led), sl__law_o_word_led⟩)
    (c__law_o_word_led : codeIn K cd__law_o_word_led "_law_o_word_led" = true)
    (k__law_o_word_led : keepIn K (.ref f__law_o_word_led) = true)
    (a__law_o_some_word_move : nsIn K mainGlobals "_law_o_some_word_move" = some (some (.ref f__law_o_some_word_move)))
    (l__law_o_some_word_move : K.lookup f__law_o_some_word_move = some ⟨oc__law_o_some_word_move, od__law_o_some_word_move, .func (PySem.W.fnOf "_law_o_some_word_move" "_law_o_some_word_move" (defArgs (top 46)) (defBody (top 46)) (defScope (top 46)) .none kV__law_o_some_word_move doc__law_o_some_word_move pm__law_o_some_word_move an__law_o_some_word_move cd__law_o_some_word_move ct__law_o_some_word_move), sl__law_o_some_word_move⟩)
    (c__law_o_some_word_move : codeIn K cd__law_o_some_word_move "_law_o_some_word_move" = true)
    (k__law_o_some_word_move : keepIn K (.ref f__law_o_some_word_move) = true)
    (a__law_o_rounds_of_word : nsIn K mainGlobals "_law_o_rounds_of_word" = some (some (.ref f__law_o_rounds_of_word)))
    (l__law_o_rounds_of_word : K.lookup f__law_o_rounds_of_word = some ⟨oc__law_o_rounds_of_word, od__law_o_rounds_of_word, .func (PySem.W.fnOf "_law_o_rounds_of_word" "_law_o_rounds_of_word" (defArgs (top 47)) (defBody (top 47)) (defScope (top 47)) .none kV__law_o_rounds_of_word doc__law_o_rounds_of_word pm__law_o_rounds_of_word an__law_o_rounds_of_word cd__law_o_rounds_of_word ct__law_o_rounds_of_word), sl__law_o_rounds_of_word⟩)
    (c__law_o_rounds_of_word : codeIn K cd__law_o_rounds_of_word "_law_o_rounds_of_word" = true)
    (k__law_o_rounds_of_word : keepIn K (.ref f__law_o_rounds_of_word) = true)
    (a__law_o_odd_word : nsIn K mainGlobals "_law_o_odd_word" = some (some (.ref f__law_o_odd_word)))
    (l__law_o_odd_word : K.lookup f__law_o_odd_word = some ⟨oc__law_o_odd_word, od__law_o_odd_word, .func (PySem.W.fnOf "_law_o_odd_word" "_law_o_odd_word" (defArgs (top 48)) (defBody (top 48)) (defScope (top 48)) .none kV__law_o_odd_word doc__law_o_odd_word pm__law_o_odd_word an__law_o_odd_word cd__law_o_odd_word ct__law_o_odd_word), sl__law_o_odd_word⟩)
    (c__law_o_odd_word : codeIn K cd__law_o_odd_word "_law_o_odd_word" = true)
    (k__law_o_odd_word : keepIn K (.ref f__law_o_odd_word) = true)
    (a__law_pen : nsIn K mainGlobals "_law_pen" = some (some (.ref f__law_pen)))
    (l__law_pen : K.lookup f__law_pen = some ⟨oc__law_pen, od__law_pen, .func (PySem.W.fnOf "_law_pen" "_law_pen" (defArgs (top 40)) (defBody (top 40)) (defScope (top 40)) .none kV__law_pen doc__law_pen pm__law_pen an__law_pen cd__law_pen ct__law_pen), sl__law_pen⟩)
    (c__law_pen : codeIn K cd__law_pen "_law_pen" = true)
    (k__law_pen : keepIn K (.ref f__law_pen) = true)
    (a__law_heard : nsIn K mainGlobals "_law_heard" = some (some (.ref f__law_heard)))
    (l__law_heard : K.lookup f__law_heard = some ⟨oc__law_heard, od__law_heard, .func (PySem.W.fnOf "_law_heard" "_law_heard" (defArgs (top 49)) (defBody (top 49)) (defScope (top 49)) .none kV__law_heard doc__law_heard pm__law_heard an__law_heard cd__law_heard ct__law_heard), sl__law_heard⟩)
    (c__law_heard : codeIn K cd__law_heard "_law_heard" = true)
    (k__law_heard : keepIn K (.ref f__law_heard) = true)
    (a_law : nsIn K mainGlobals "law" = some (some (.ref f_law)))
    (l_law : K.lookup f_law = some ⟨oc_law, od_law, .func (PySem.W.fnOf "law" "law" (defArgs (top 50)) (defBody (top 50)) (defScope (top 50)) .none kV_law doc_law pm_law an_law (.ref cc) ct_law), sl_law⟩)
    (c_law : codeIn K (.ref cc) "law" = true)
    (a_BadNumber : nsIn K mainGlobals "BadNumber" = some (some (.ref C_BadNumber)))
    (x_BadNumber : K.lookup C_BadNumber = some (excClassObj nm_BadNumber q_BadNumber C_BadNumber N_BadNumber bs_BadNumber [.ref B_BadNumber, .type "ValueError", .type "Exception", .type "BaseException", .type "object"] true sn_BadNumber sub_BadNumber ab_BadNumber col_BadNumber dd_BadNumber m0_BadNumber m1_BadNumber m2_BadNumber m3_BadNumber m5_BadNumber "ValueError.__new__"))
    (i_BadNumber : findIn K (.ref C_BadNumber) "__init__" = some (some (.ref fI_BadNumber)))
    (l_BadNumber : K.lookup fI_BadNumber = some ⟨oc_BadNumber, od_BadNumber, .func (fnX "__init__" "BadNumber.__init__" (defArgs (cBody 0 (top 7))) (defBody (cBody 0 (top 7))) (defScope (cBody 0 (top 7))) [("__class__", cc_BadNumber)] .none kV_BadNumber doc_BadNumber pm_BadNumber an_BadNumber (.ref cda_BadNumber) ct_BadNumber), sl_BadNumber⟩)
    (e_BadNumber : K.lookup cc_BadNumber = some ⟨cl_BadNumber, cld_BadNumber, .cell (some (.ref C_BadNumber)), csl_BadNumber⟩)
    (b_BadNumber : clsB K C_BadNumber ["what", "value"] = true)
    (j_BadNumber : iniB PySem.Challenge.pw_linkholes_k75_whole_genus_of_words K fI_BadNumber cda_BadNumber "BadNumber.__init__" = true)
    (a_BadMoves : nsIn K mainGlobals "BadMoves" = some (some (.ref C_BadMoves)))
    (x_BadMoves : K.lookup C_BadMoves = some (excClassObj nm_BadMoves q_BadMoves C_BadMoves N_BadMoves bs_BadMoves [.ref B_BadMoves, .type "ValueError", .type "Exception", .type "BaseException", .type "object"] true sn_BadMoves sub_BadMoves ab_BadMoves col_BadMoves dd_BadMoves m0_BadMoves m1_BadMoves m2_BadMoves m3_BadMoves m5_BadMoves "ValueError.__new__"))
    (i_BadMoves : findIn K (.ref C_BadMoves) "__init__" = some (some (.ref fI_BadMoves)))
    (l_BadMoves : K.lookup fI_BadMoves = some ⟨oc_BadMoves, od_BadMoves, .func (fnX "__init__" "BadMoves.__init__" (defArgs (cBody 0 (top 8))) (defBody (cBody 0 (top 8))) (defScope (cBody 0 (top 8))) [("__class__", cc_BadMoves)] .none kV_BadMoves doc_BadMoves pm_BadMoves an_BadMoves (.ref cda_BadMoves) ct_BadMoves), sl_BadMoves⟩)
    (e_BadMoves : K.lookup cc_BadMoves = some ⟨cl_BadMoves, cld_BadMoves, .cell (some (.ref C_BadMoves)), csl_BadMoves⟩)
    (b_BadMoves : clsB K C_BadMoves ["index"] = true)
    (j_BadMoves : iniB PySem.Challenge.pw_linkholes_k75_whole_genus_of_words K fI_BadMoves cda_BadMoves "BadMoves.__init__" = true)
    (a_BadWord : nsIn K mainGlobals "BadWord" = some (some (.ref C_BadWord)))
    (x_BadWord : K.lookup C_BadWord = some (excClassObj nm_BadWord q_BadWord C_BadWord N_BadWord bs_BadWord [.ref B_BadWord, .type "ValueError", .type "Exception", .type "BaseException", .type "object"] true sn_BadWord sub_BadWord ab_BadWord col_BadWord dd_BadWord m0_BadWord m1_BadWord m2_BadWord m3_BadWord m5_BadWord "ValueError.__new__"))
    (i_BadWord : findIn K (.ref C_BadWord) "__init__" = some (some (.ref fI_BadWord)))
    (l_BadWord : K.lookup fI_BadWord = some ⟨oc_BadWord, od_BadWord, .func (fnX "__init__" "BadWord.__init__" (defArgs (cBody 0 (top 9))) (defBody (cBody 0 (top 9))) (defScope (cBody 0 (top 9))) [("__class__", cc_BadWord)] .none kV_BadWord doc_BadWord pm_BadWord an_BadWord (.ref cda_BadWord) ct_BadWord), sl_BadWord⟩)
    (e_BadWord : K.lookup cc_BadWord = some ⟨cl_BadWord, cld_BadWord, .cell (some (.ref C_BadWord)), csl_BadWord⟩)
    (b_BadWord : clsB K C_BadWord ["index"] = true)
    (j_BadWord : iniB PySem.Challenge.pw_linkholes_k75_whole_genus_of_words K fI_BadWord cda_BadWord "BadWord.__init__" = true)
    (a_NotPositive : nsIn K mainGlobals "NotPositive" = some (some (.ref C_NotPositive)))
    (x_NotPositive : K.lookup C_NotPositive = some (excClassObj nm_NotPositive q_NotPositive C_NotPositive N_NotPositive bs_NotPositive [.ref B_NotPositive, .type "ValueError", .type "Exception", .type "BaseException", .type "object"] true sn_NotPositive sub_NotPositive ab_NotPositive col_NotPositive dd_NotPositive m0_NotPositive m1_NotPositive m2_NotPositive m3_NotPositive m5_NotPositive "ValueError.__new__"))
    (i_NotPositive : findIn K (.ref C_NotPositive) "__init__" = some (some (.ref fI_NotPositive)))
    (l_NotPositive : K.lookup fI_NotPositive = some ⟨oc_NotPositive, od_NotPositive, .func (fnX "__init__" "NotPositive.__init__" (defArgs (cBody 0 (top 10))) (defBody (cBody 0 (top 10))) (defScope (cBody 0 (top 10))) [("__class__", cc_NotPositive)] .none kV_NotPositive doc_NotPositive pm_NotPositive an_NotPositive (.ref cda_NotPositive) ct_NotPositive), sl_NotPositive⟩)
    (e_NotPositive : K.lookup cc_NotPositive = some ⟨cl_NotPositive, cld_NotPositive, .cell (some (.ref C_NotPositive)), csl_NotPositive⟩)
    (b_NotPositive : clsB K C_NotPositive ["answer"] = true)
    (j_NotPositive : iniB PySem.Challenge.pw_linkholes_k75_whole_genus_of_words K fI_NotPositive cda_NotPositive "NotPositive.__init__" = true)
    (a_NotJoined : nsIn K mainGlobals "NotJoined" = some (some (.ref C_NotJoined)))
    (x_NotJoined : K.lookup C_NotJoined = some (excClassObj nm_NotJoined q_NotJoined C_NotJoined N_NotJoined bs_NotJoined [.ref B_NotJoined, .type "ValueError", .type "Exception", .type "BaseException", .type "object"] true sn_NotJoined sub_NotJoined ab_NotJoined col_NotJoined dd_NotJoined m0_NotJoined m1_NotJoined m2_NotJoined m3_NotJoined m5_NotJoined "ValueError.__new__"))
    (i_NotJoined : findIn K (.ref C_NotJoined) "__init__" = some (some (.ref fI_NotJoined)))
    (l_NotJoined : K.lookup fI_NotJoined = some ⟨oc_NotJoined, od_NotJoined, .func (fnX "__init__" "NotJoined.__init__" (defArgs (cBody 0 (top 11))) (defBody (cBody 0 (top 11))) (defScope (cBody 0 (top 11))) [("__class__", cc_NotJoined)] .none kV_NotJoined doc_NotJoined pm_NotJoined an_NotJoined (.ref cda_NotJoined) ct_NotJoined), sl_NotJoined⟩)
    (e_NotJoined : K.lookup cc_NotJoined = some ⟨cl_NotJoined, cld_NotJoined, .cell (some (.ref C_NotJoined)), csl_NotJoined⟩)
    (b_NotJoined : clsB K C_NotJoined ["answer"] = true)
    (j_NotJoined : iniB PySem.Challenge.pw_linkholes_k75_whole_genus_of_words K fI_NotJoined cda_NotJoined "NotJoined.__init__" = true)
    (a_Together : nsIn K mainGlobals "Together" = some (some (.ref C_Together)))
    (i_Together : findIn K (.ref C_Together) "__init__" = some (some (.ref fI_Together)))
    (l_Together : K.lookup fI_Together = some ⟨oc_Together, od_Together, .func (PySem.W.fnOf "__init__" "Together.__init__" (defArgs (cBody 0 (top 17))) (defBody (cBody 0 (top 17))) (defScope (cBody 0 (top 17))) .none kV_Together doc_Together pm_Together an_Together cd_Together ct_Together), sl_Together⟩)
    (c_Together : codeIn K cd_Together "Together.__init__" = true)
    (f_Together : isFn K (.ref fI_Together) = true)
    (mk_Together : makesIn K C_Together = true)
    (kp_Together : keepIn K (.ref C_Together) = true)
    (o_Together_indices : findIn K (.ref C_Together) "indices" = some none)
    (a_Apart : nsIn K mainGlobals "Apart" = some (some (.ref C_Apart)))
    (i_Apart : findIn K (.ref C_Apart) "__init__" = some (some (.ref fI_Apart)))
    (l_Apart : K.lookup fI_Apart = some ⟨oc_Apart, od_Apart, .func (PySem.W.fnOf "__init__" "Apart.__init__" (defArgs (cBody 0 (top 18))) (defBody (cBody 0 (top 18))) (defScope (cBody 0 (top 18))) .none kV_Apart doc_Apart pm_Apart an_Apart cd_Apart ct_Apart), sl_Apart⟩)
    (c_Apart : codeIn K cd_Apart "Apart.__init__" = true)
    (f_Apart : isFn K (.ref fI_Apart) = true)
    (mk_Apart : makesIn K C_Apart = true)
    (kp_Apart : keepIn K (.ref C_Apart) = true)
    (o_Apart_k : findIn K (.ref C_Apart) "k" = some none)
    (a_Positive : nsIn K mainGlobals "Positive" = some (some (.ref C_Positive)))
    (i_Positive : findIn K (.ref C_Positive) "__init__" = some (some (.ref fI_Positive)))
    (l_Positive : K.lookup fI_Positive = some ⟨oc_Positive, od_Positive, .func (PySem.W.fnOf "__init__" "Positive.__init__" (defArgs (cBody 0 (top 24))) (defBody (cBody 0 (top 24))) (defScope (cBody 0 (top 24))) .none kV_Positive doc_Positive pm_Positive an_Positive cd_Positive ct_Positive), sl_Positive⟩)
    (c_Positive : codeIn K cd_Positive "Positive.__init__" = true)
    (f_Positive : isFn K (.ref fI_Positive) = true)
    (mk_Positive : makesIn K C_Positive = true)
    (kp_Positive : keepIn K (.ref C_Positive) = true)
    (o_Positive_places : findIn K (.ref C_Positive) "places" = some none)
    (a_Negative : nsIn K mainGlobals "Negative" = some (some (.ref C_Negative)))
    (i_Negative : findIn K (.ref C_Negative) "__init__" = some (some (.ref fI_Negative)))
    (l_Negative : K.lookup fI_Negative = some ⟨oc_Negative, od_Negative, .func (PySem.W.fnOf "__init__" "Negative.__init__" (defArgs (cBody 0 (top 25))) (defBody (cBody 0 (top 25))) (defScope (cBody 0 (top 25))) .none kV_Negative doc_Negative pm_Negative an_Negative cd_Negative ct_Negative), sl_Negative⟩)
    (c_Negative : codeIn K cd_Negative "Negative.__init__" = true)
    (f_Negative : isFn K (.ref fI_Negative) = true)
    (mk_Negative : makesIn K C_Negative = true)
    (kp_Negative : keepIn K (.ref C_Negative) = true)
    (o_Negative_index : findIn K (.ref C_Negative) "index" = some none)
    (n_super : nsIn K mainGlobals "super" = some none)
    (n_abs : nsIn K mainGlobals "abs" = some none)
    (n_any : nsIn K mainGlobals "any" = some none)
    (n_bool : nsIn K mainGlobals "bool" = some none)
    (n_enumerate : nsIn K mainGlobals "enumerate" = some none)
    (n_int : nsIn K mainGlobals "int" = some none)
    (n_isinstance : nsIn K mainGlobals "isinstance" = some none)
    (n_len : nsIn K mainGlobals "len" = some none)
    (n_list : nsIn K mainGlobals "list" = some none)
    (n_range : nsIn K mainGlobals "range" = some none)
    (n_repr : nsIn K mainGlobals "repr" = some none)
    (n_set : nsIn K mainGlobals "set" = some none)
    (n_sorted : nsIn K mainGlobals "sorted" = some none)
    (n_str : nsIn K mainGlobals "str" = some none)
    (n_tuple : nsIn K mainGlobals "tuple" = some none)
    (c_MOST_CROSSINGS : nsIn K mainGlobals "MOST_CROSSINGS" = some (some (.int 12 t_MOST_CROSSINGS)))
    (c_MOST_STRANDS : nsIn K mainGlobals "MOST_STRANDS" = some (some (.int 6 t_MOST_STRANDS)))
    (kcb : kcB K (clf [C_BadNumber, C_BadMoves, C_BadWord, C_NotPositive, C_NotJoined, C_Together, C_Apart, C_Positive, C_Negative]) [5, 6, 7, 8] = true)
    (xm : exmB K [C_BadNumber, C_BadMoves, C_BadWord, C_NotPositive, C_NotJoined, C_Together, C_Apart, C_Positive, C_Negative] kn (hl.map Prod.fst) = true)
    (nT : K.lookup Pt = none)
    (hd : codeHdIn K cc Pt = true)
    : LamX.LawAtS PySem.Challenge.rw_linkholes_k75_whole_genus_of_words w K (L2.CX PySem.Challenge.pw_linkholes_k75_whole_genus_of_words w) 12 63 "script" mg fa h := by
  have e := hfa.symm.trans (PySem.W.mg_of X G a_law)
  cases e
  have X_BadNumber : XIn PySem.Challenge.pw_linkholes_k75_whole_genus_of_words K mg C_BadNumber fI_BadNumber cc_BadNumber cda_BadNumber "BadNumber.__init__" (defArgs (cBody 0 (top 7))) (defBody (cBody 0 (top 7))) (defScope (cBody 0 (top 7))) := xin_mk x_BadNumber (clsB_ok b_BadNumber) i_BadNumber j_BadNumber l_BadNumber e_BadNumber (PySem.W.mg_none_of X G n_super) (by decide +kernel)
  have Y_BadNumber : XC PySem.Challenge.pw_linkholes_k75_whole_genus_of_words K mg "BadNumber" C_BadNumber ["what", "value"] := xc2 (PySem.W.mg_of X G a_BadNumber) X_BadNumber rfl rfl rfl ⟨by decide, by decide, by decide, by decide, by decide⟩ ⟨by decide, by decide, by decide, by decide, by decide⟩ (by decide) (by decide) ((clsB_ok b_BadNumber).no "what" (by simp)) ((clsB_ok b_BadNumber).no "value" (by simp)) ⟨fun L => ⟨_, rfl⟩, fun L => rfl⟩ (fun L => rfl) (fun L => rfl) (fun e v v2 fd h1 h2 => by obtain ⟨⟩ := fd; cases h1; cases h2; rfl)
  have X_BadMoves : XIn PySem.Challenge.pw_linkholes_k75_whole_genus_of_words K mg C_BadMoves fI_BadMoves cc_BadMoves cda_BadMoves "BadMoves.__init__" (defArgs (cBody 0 (top 8))) (defBody (cBody 0 (top 8))) (defScope (cBody 0 (top 8))) := xin_mk x_BadMoves (clsB_ok b_BadMoves) i_BadMoves j_BadMoves l_BadMoves e_BadMoves (PySem.W.mg_none_of X G n_super) (by decide +kernel)
  have Y_BadMoves : XC PySem.Challenge.pw_linkholes_k75_whole_genus_of_words K mg "BadMoves" C_BadMoves ["index"] := xc1 (PySem.W.mg_of X G a_BadMoves) X_BadMoves rfl rfl rfl ⟨by decide, by decide, by decide, by decide, by decide⟩ ((clsB_ok b_BadMoves).no "index" (by simp)) ⟨fun L => ⟨_, rfl⟩, fun L => rfl⟩ (fun L => rfl) (fun e v fd h1 h2 => by obtain ⟨⟩ := fd; cases h1; cases h2; rfl)
  have X_BadWord : XIn PySem.Challenge.pw_linkholes_k75_whole_genus_of_words K mg C_BadWord fI_BadWord cc_BadWord cda_BadWord "BadWord.__init__" (defArgs (cBody 0 (top 9))) (defBody (cBody 0 (top 9))) (defScope (cBody 0 (top 9))) := xin_mk x_BadWord (clsB_ok b_BadWord) i_BadWord j_BadWord l_BadWord e_BadWord (PySem.W.mg_none_of X G n_super) (by decide +kernel)
  have Y_BadWord : XC PySem.Challenge.pw_linkholes_k75_whole_genus_of_words K mg "BadWord" C_BadWord ["index"] := xc1 (PySem.W.mg_of X G a_BadWord) X_BadWord rfl rfl rfl ⟨by decide, by decide, by decide, by decide, by decide⟩ ((clsB_ok b_BadWord).no "index" (by simp)) ⟨fun L => ⟨_, rfl⟩, fun L => rfl⟩ (fun L => rfl) (fun e v fd h1 h2 => by obtain ⟨⟩ := fd; cases h1; cases h2; rfl)
  have X_NotPositive : XIn PySem.Challenge.pw_linkholes_k75_whole_genus_of_words K mg C_NotPositive fI_NotPositive cc_NotPositive cda_NotPositive "NotPositive.__init__" (defArgs (cBody 0 (top 10))) (defBody (cBody 0 (top 10))) (defScope (cBody 0 (top 10))) := xin_mk x_NotPositive (clsB_ok b_NotPositive) i_NotPositive j_NotPositive l_NotPositive e_NotPositive (PySem.W.mg_none_of X G n_super) (by decide +kernel)
  have Y_NotPositive : XC PySem.Challenge.pw_linkholes_k75_whole_genus_of_words K mg "NotPositive" C_NotPositive ["answer"] := xc1 (PySem.W.mg_of X G a_NotPositive) X_NotPositive rfl rfl rfl ⟨by decide, by decide, by decide, by decide, by decide⟩ ((clsB_ok b_NotPositive).no "answer" (by simp)) ⟨fun L => ⟨_, rfl⟩, fun L => rfl⟩ (fun L => rfl) (fun e v fd h1 h2 => by obtain ⟨⟩ := fd; cases h1; cases h2; rfl)
  have X_NotJoined : XIn PySem.Challenge.pw_linkholes_k75_whole_genus_of_words K mg C_NotJoined fI_NotJoined cc_NotJoined cda_NotJoined "NotJoined.__init__" (defArgs (cBody 0 (top 11))) (defBody (cBody 0 (top 11))) (defScope (cBody 0 (top 11))) := xin_mk x_NotJoined (clsB_ok b_NotJoined) i_NotJoined j_NotJoined l_NotJoined e_NotJoined (PySem.W.mg_none_of X G n_super) (by decide +kernel)
  have Y_NotJoined : XC PySem.Challenge.pw_linkholes_k75_whole_genus_of_words K mg "NotJoined" C_NotJoined ["answer"] := xc1 (PySem.W.mg_of X G a_NotJoined) X_NotJoined rfl rfl rfl ⟨by decide, by decide, by decide, by decide, by decide⟩ ((clsB_ok b_NotJoined).no "answer" (by simp)) ⟨fun L => ⟨_, rfl⟩, fun L => rfl⟩ (fun L => rfl) (fun e v fd h1 h2 => by obtain ⟨⟩ := fd; cases h1; cases h2; rfl)
  have T : ∀ (T : List (Addr × Str)) (lam : Nat → LamX.LamI) (env : PySem.Env) (pa : Addr), TX PySem.Challenge.pw_linkholes_k75_whole_genus_of_words K mg (mkC T (clf [C_BadNumber, C_BadMoves, C_BadWord, C_NotPositive, C_NotJoined, C_Together, C_Apart, C_Positive, C_Negative]) lam env pa [5, 6, 7, 8]) := fun T lam env pa => { n_abs := PySem.W.mg_none_of X G n_abs, n_any := PySem.W.mg_none_of X G n_any, n_bool := PySem.W.mg_none_of X G n_bool, n_enumerate := PySem.W.mg_none_of X G n_enumerate, n_int := PySem.W.mg_none_of X G n_int, n_isinstance := PySem.W.mg_none_of X G n_isinstance, n_len := PySem.W.mg_none_of X G n_len, n_list := PySem.W.mg_none_of X G n_list, n_range := PySem.W.mg_none_of X G n_range, n_repr := PySem.W.mg_none_of X G n_repr, n_set := PySem.W.mg_none_of X G n_set, n_sorted := PySem.W.mg_none_of X G n_sorted, n_str := PySem.W.mg_none_of X G n_str, n_tuple := PySem.W.mg_none_of X G n_tuple, c_MOST_CROSSINGS := ⟨_, PySem.W.mg_of X G c_MOST_CROSSINGS⟩, c_MOST_STRANDS := ⟨_, PySem.W.mg_of X G c_MOST_STRANDS⟩, e_BadMoves := Y_BadMoves, e_BadNumber := Y_BadNumber, e_BadWord := Y_BadWord, e_NotJoined := Y_NotJoined, e_NotPositive := Y_NotPositive, f_BadNumber := (clsB_ok b_BadNumber).xf, f_BadWord := (clsB_ok b_BadWord).xf, f_NotJoined := (clsB_ok b_NotJoined).xf, f_NotPositive := (clsB_ok b_NotPositive).xf, x_BadNumber_value := (clsB_ok b_BadNumber).no "value" (by simp), x_BadNumber_what := (clsB_ok b_BadNumber).no "what" (by simp), x_BadWord_index := (clsB_ok b_BadWord).no "index" (by simp), x_NotJoined_answer := (clsB_ok b_NotJoined).no "answer" (by simp), x_NotPositive_answer := (clsB_ok b_NotPositive).no "answer" (by simp), g_Negative := PySem.W.mg_of X G a_Negative, k_Negative := by simp, g_Together := PySem.W.mg_of X G a_Together, k_Together := by simp, kc := kcB_ok kcb, o_Apart_k := o_Apart_k, o_Negative_index := o_Negative_index, o_Positive_places := o_Positive_places, o_Together_indices := o_Together_indices, m_all := exmB_ok xm }
  refine law_end (oc := oc_law) (od := od_law) (dV := .none) (kV := kV_law) (doc := doc_law) (pm := pm_law) (ct := ct_law) (an := an_law) (osl := sl_law) (st := top 50) (b := spLaw K [Pt] b_law 19) hT nT (codeHd_of_K X hd) (fun s u => .of_eq rfl) (fun H a ns h1 h2 h3 h4 => ⟨a, ns, rfl, h4, all_cons h3 all_nil, fun fold z0 z1 => M ns fold h1 z0 z1, fun H' => rfl⟩) fun base KB GB TB => ?_
  refine law_ok (cs := [(Pt, qlam)]) (cl := clf [C_BadNumber, C_BadMoves, C_BadWord, C_NotPositive, C_NotJoined, C_Together, C_Apart, C_Positive, C_Negative]) (lam := lam) (kn := [5, 6, 7, 8]) (rest := (defBody (top 50)).drop 1) l_law c_law s_law rfl rfl (by decide) (by first | exact Or.inl rfl | exact Or.inr (Or.inl rfl) | exact Or.inr (Or.inr rfl)) (by first | exact Or.inl rfl | exact Or.inr rfl) rfl (fun s => rfl) (fun s => rfl) (ok_pen (T [] lam default 0).n_int (T [] lam default 0).n_list l__law_pen c__law_pen) (by decide) (PySem.W.mg_of X G a__law_pen) k__law_pen (.all fun us hl => match us, hl with | [_], _ => rfl) rfl ?_
  intro A outer s H E pa hr
  have T := T [(Pt, qlam)] lam (envOfC "law" (defScope (top 50)) s.heap.objs.size fa (.ref cc)) pa
  have F_is_integer := fx_mk (w := w) (base := base) (st := top 1) (PySem.W.mg_of X G a_is_integer) l_is_integer c_is_integer k_is_integer s_is_integer (.all fun us hl => match us, hl with | [_], _ => rfl) [] (fun cdv A outer s H E G hr => t_is_integer T  cdv A outer s H E G hr)
  have F_is_count := fx_mk (w := w) (base := base) (st := top 2) (PySem.W.mg_of X G a_is_count) l_is_count c_is_count k_is_count s_is_count (binds_dv v_is_count rfl rfl fun us hl => match us, hl with | [_, _], _ => ⟨_, rfl, rfl⟩) [] (fun cdv A outer s H E G hr => t_is_count T F_is_integer cdv A outer s H E G hr)
  have F_is_row := fx_mk (w := w) (base := base) (st := top 3) (PySem.W.mg_of X G a_is_row) l_is_row c_is_row k_is_row s_is_row (.all fun us hl => match us, hl with | [_], _ => rfl) [] (fun cdv A outer s H E G hr => t_is_row T  cdv A outer s H E G hr)
  have F_kept_0 := fx_mk (w := w) (base := base) (st := top 4) (PySem.W.mg_of X G a_kept) l_kept c_kept k_kept s_kept_0 (.all fun us hl => match us, hl with | [_], _ => rfl) [] (fun cdv A outer s H E G hr => t_kept_0 T  cdv A outer s H E G hr)
  have F_kept_1 := fx_mk (w := w) (base := base) (st := top 4) (PySem.W.mg_of X G a_kept) l_kept c_kept k_kept s_kept_1 (.all fun us hl => match us, hl with | [_], _ => rfl) [] (fun cdv A outer s H E G hr => t_kept_1 T F_is_row F_kept_0 cdv A outer s H E G hr)
  have F_kept_2 := fx_mk (w := w) (base := base) (st := top 4) (PySem.W.mg_of X G a_kept) l_kept c_kept k_kept s_kept_2 (.all fun us hl => match us, hl with | [_], _ => rfl) [] (fun cdv A outer s H E G hr => t_kept_2 T F_is_row F_kept_1 cdv A outer s H E G hr)
  have F_kept_3 := fx_mk (w := w) (base := base) (st := top 4) (PySem.W.mg_of X G a_kept) l_kept c_kept k_kept s_kept_3 (.all fun us hl => match us, hl with | [_], _ => rfl) [] (fun cdv A outer s H E G hr => t_kept_3 T F_is_row F_kept_2 cdv A outer s H E G hr)
  have F_need_strands := fx_mk (w := w) (base := base) (st := top 14) (PySem.W.mg_of X G a_need_strands) l_need_strands c_need_strands k_need_strands s_need_strands (.all fun us hl => match us, hl with | [_], _ => rfl) [] (fun cdv A outer s H E G hr => t_need_strands T F_is_integer cdv A outer s H E G hr)
  have F_need_letters := fx_mk (w := w) (base := base) (st := top 15) (PySem.W.mg_of X G a_need_letters) l_need_letters c_need_letters k_need_letters s_need_letters (.all fun us hl => match us, hl with | [_, _], _ => rfl) [] (fun cdv A outer s H E G hr => t_need_letters T F_is_integer F_is_row cdv A outer s H E G hr)
  have F_need_word := fx_mk (w := w) (base := base) (st := top 19) (PySem.W.mg_of X G a_need_word) l_need_word c_need_word k_need_word s_need_word (.all fun us hl => match us, hl with | [_, _], _ => rfl) [] (fun cdv A outer s H E G hr => t_need_word T F_need_letters F_need_strands cdv A outer s H E G hr)
  have F_order_of := fx_mk (w := w) (base := base) (st := top 20) (PySem.W.mg_of X G a_order_of) l_order_of c_order_of k_order_of s_order_of (.all fun us hl => match us, hl with | [_, _], _ => rfl) [] (fun cdv A outer s H E G hr => t_order_of T  cdv A outer s H E G hr)
  have F_rounds_of_word := fx_mk (w := w) (base := base) (st := top 21) (PySem.W.mg_of X G a_rounds_of_word) l_rounds_of_word c_rounds_of_word k_rounds_of_word s_rounds_of_word (.all fun us hl => match us, hl with | [_, _], _ => rfl) [] (fun cdv A outer s H E G hr => t_rounds_of_word T F_order_of cdv A outer s H E G hr)
  have F_Together := fc_mk (w := w) (base := base) (n := 5) (np := 1) (st := cBody 0 (top 17)) (PySem.W.mg_of X G a_Together) (by simp) ((kcB_ok (ca := (mkC [(Pt, qlam)] (clf [C_BadNumber, C_BadMoves, C_BadWord, C_NotPositive, C_NotJoined, C_Together, C_Apart, C_Positive, C_Negative]) lam (envOfC "law" (defScope (top 50)) s.heap.objs.size fa (.ref cc)) pa [5, 6, 7, 8]).ca) kcb).cls 5 (by simp)) ⟨mk_Together, i_Together, f_Together, kp_Together⟩ l_Together c_Together s_Together rfl (.all fun us hl => match us, hl with | [_, _], _ => rfl) [] x_Together (fun cdv A outer s H H0 E G x hr => t_Together T F_kept_3 cdv A outer s H H0 E G x hr)
  have F_Apart := fc_mk (w := w) (base := base) (n := 6) (np := 1) (st := cBody 0 (top 18)) (PySem.W.mg_of X G a_Apart) (by simp) ((kcB_ok (ca := (mkC [(Pt, qlam)] (clf [C_BadNumber, C_BadMoves, C_BadWord, C_NotPositive, C_NotJoined, C_Together, C_Apart, C_Positive, C_Negative]) lam (envOfC "law" (defScope (top 50)) s.heap.objs.size fa (.ref cc)) pa [5, 6, 7, 8]).ca) kcb).cls 6 (by simp)) ⟨mk_Apart, i_Apart, f_Apart, kp_Apart⟩ l_Apart c_Apart s_Apart rfl (.all fun us hl => match us, hl with | [_, _], _ => rfl) [] x_Apart (fun cdv A outer s H H0 E G x hr => t_Apart T  cdv A outer s H H0 E G x hr)
  have F_settled_together := fx_mk (w := w) (base := base) (st := top 22) (PySem.W.mg_of X G a_settled_together) l_settled_together c_settled_together k_settled_together s_settled_together (.all fun us hl => match us, hl with | [_, _], _ => rfl) [] (fun cdv A outer s H E G hr => t_settled_together T F_Apart F_Together cdv A outer s H E G hr)
  have F_Positive := fc_mk (w := w) (base := base) (n := 7) (np := 1) (st := cBody 0 (top 24)) (PySem.W.mg_of X G a_Positive) (by simp) ((kcB_ok (ca := (mkC [(Pt, qlam)] (clf [C_BadNumber, C_BadMoves, C_BadWord, C_NotPositive, C_NotJoined, C_Together, C_Apart, C_Positive, C_Negative]) lam (envOfC "law" (defScope (top 50)) s.heap.objs.size fa (.ref cc)) pa [5, 6, 7, 8]).ca) kcb).cls 7 (by simp)) ⟨mk_Positive, i_Positive, f_Positive, kp_Positive⟩ l_Positive c_Positive s_Positive rfl (.all fun us hl => match us, hl with | [_, _], _ => rfl) [] x_Positive (fun cdv A outer s H H0 E G x hr => t_Positive T F_kept_3 cdv A outer s H H0 E G x hr)
  have F_Negative := fc_mk (w := w) (base := base) (n := 8) (np := 1) (st := cBody 0 (top 25)) (PySem.W.mg_of X G a_Negative) (by simp) ((kcB_ok (ca := (mkC [(Pt, qlam)] (clf [C_BadNumber, C_BadMoves, C_BadWord, C_NotPositive, C_NotJoined, C_Together, C_Apart, C_Positive, C_Negative]) lam (envOfC "law" (defScope (top 50)) s.heap.objs.size fa (.ref cc)) pa [5, 6, 7, 8]).ca) kcb).cls 8 (by simp)) ⟨mk_Negative, i_Negative, f_Negative, kp_Negative⟩ l_Negative c_Negative s_Negative rfl (.all fun us hl => match us, hl with | [_, _], _ => rfl) [] x_Negative (fun cdv A outer s H H0 E G x hr => t_Negative T  cdv A outer s H H0 E G x hr)
  have F_lots_among := fx_mk (w := w) (base := base) (st := top 26) (PySem.W.mg_of X G a_lots_among) l_lots_among c_lots_among k_lots_among s_lots_among (.all fun us hl => match us, hl with | [_, _], _ => rfl) [] (fun cdv A outer s H E G hr => t_lots_among T  cdv A outer s H E G hr)
  have F_parts_of_word := fx_mk (w := w) (base := base) (st := top 27) (PySem.W.mg_of X G a_parts_of_word) l_parts_of_word c_parts_of_word k_parts_of_word s_parts_of_word (.all fun us hl => match us, hl with | [_, _], _ => rfl) [] (fun cdv A outer s H E G hr => t_parts_of_word T  cdv A outer s H E G hr)
  have F_settled_positive := fx_mk (w := w) (base := base) (st := top 28) (PySem.W.mg_of X G a_settled_positive) l_settled_positive c_settled_positive k_settled_positive s_settled_positive (.all fun us hl => match us, hl with | [_, _], _ => rfl) [] (fun cdv A outer s H E G hr => t_settled_positive T F_Negative F_Positive F_lots_among F_parts_of_word cdv A outer s H E G hr)
  have F_word_genus := fx_mk (w := w) (base := base) (st := top 29) (PySem.W.mg_of X G a_word_genus) l_word_genus c_word_genus k_word_genus s_word_genus (.all fun us hl => match us, hl with | [_, _], _ => rfl) [] (fun cdv A outer s H E G hr => t_word_genus T F_need_word F_rounds_of_word F_settled_positive F_settled_together cdv A outer s H E G hr)
  have F_put_in := fx_mk (w := w) (base := base) (st := top 32) (PySem.W.mg_of X G a_put_in) l_put_in c_put_in k_put_in s_put_in (.all fun us hl => match us, hl with | [_, _, _], _ => rfl) [] (fun cdv A outer s H E G hr => t_put_in T F_is_count F_is_integer cdv A outer s H E G hr)
  have F_changed_at := fx_mk (w := w) (base := base) (st := top 33) (PySem.W.mg_of X G a_changed_at) l_changed_at c_changed_at k_changed_at s_changed_at (.all fun us hl => match us, hl with | [_, _], _ => rfl) [] (fun cdv A outer s H E G hr => t_changed_at T F_is_count cdv A outer s H E G hr)
  have F_stacked := fx_mk (w := w) (base := base) (st := top 34) (PySem.W.mg_of X G a_stacked) l_stacked c_stacked k_stacked s_stacked (.all fun us hl => match us, hl with | [_, _, _], _ => rfl) [] (fun cdv A outer s H E G hr => t_stacked T F_is_integer cdv A outer s H E G hr)
  have F_unstacked := fx_mk (w := w) (base := base) (st := top 35) (PySem.W.mg_of X G a_unstacked) l_unstacked c_unstacked k_unstacked s_unstacked (.all fun us hl => match us, hl with | [_, _], _ => rfl) [] (fun cdv A outer s H E G hr => t_unstacked T  cdv A outer s H E G hr)
  have F_any_moved := fx_mk (w := w) (base := base) (st := top 36) (PySem.W.mg_of X G a_any_moved) l_any_moved c_any_moved k_any_moved s_any_moved (.all fun us hl => match us, hl with | [_, _, _], _ => rfl) [] (fun cdv A outer s H E G hr => t_any_moved T F_changed_at F_put_in F_stacked F_unstacked cdv A outer s H E G hr)
  have F_one_moved := fx_mk (w := w) (base := base) (st := top 37) (PySem.W.mg_of X G a_one_moved) l_one_moved c_one_moved k_one_moved s_one_moved (.all fun us hl => match us, hl with | [_, _, _], _ => rfl) [] (fun cdv A outer s H E G hr => t_one_moved T F_any_moved cdv A outer s H E G hr)
  have F_word_led := fx_mk (w := w) (base := base) (st := top 38) (PySem.W.mg_of X G a_word_led) l_word_led c_word_led k_word_led s_word_led (.all fun us hl => match us, hl with | [_, _, _], _ => rfl) [] (fun cdv A outer s H E G hr => t_word_led T F_is_row F_need_word F_one_moved cdv A outer s H E G hr)
  have F__law_draw := fx_mk (w := w) (base := base) (st := top 41) (PySem.W.mg_of X G a__law_draw) l__law_draw c__law_draw k__law_draw s__law_draw (.all fun us hl => match us, hl with | [_, _], _ => rfl) [] (fun cdv A outer s H E G hr => t__law_draw T  cdv A outer s H E G hr)
  have F__law_pick := fx_mk (w := w) (base := base) (st := top 42) (PySem.W.mg_of X G a__law_pick) l__law_pick c__law_pick k__law_pick s__law_pick (.all fun us hl => match us, hl with | [_, _], _ => rfl) [] (fun cdv A outer s H E G hr => t__law_pick T F__law_draw cdv A outer s H E G hr)
  have F__law_listed := fx_mk (w := w) (base := base) (st := top 43) (PySem.W.mg_of X G a__law_listed) l__law_listed c__law_listed k__law_listed s__law_listed (.all fun us hl => match us, hl with | [_, _], _ => rfl) [] (fun cdv A outer s H E G hr => t__law_listed T F__law_draw cdv A outer s H E G hr)
  have F__law_is_int := fx_mk (w := w) (base := base) (st := top 44) (PySem.W.mg_of X G a__law_is_int) l__law_is_int c__law_is_int k__law_is_int s__law_is_int (.all fun us hl => match us, hl with | [_], _ => rfl) [] (fun cdv A outer s H E G hr => t__law_is_int T  cdv A outer s H E G hr)
  have F__law_o_word_led := fx_mk (w := w) (base := base) (st := top 45) (PySem.W.mg_of X G a__law_o_word_led) l__law_o_word_led c__law_o_word_led k__law_o_word_led s__law_o_word_led (.all fun us hl => match us, hl with | [_, _, _], _ => rfl) [] (fun cdv A outer s H E G hr => t__law_o_word_led T F__law_is_int cdv A outer s H E G hr)
  have F__law_o_some_word_move := fx_mk (w := w) (base := base) (st := top 46) (PySem.W.mg_of X G a__law_o_some_word_move) l__law_o_some_word_move c__law_o_some_word_move k__law_o_some_word_move s__law_o_some_word_move (.all fun us hl => match us, hl with | [_, _, _], _ => rfl) [] (fun cdv A outer s H E G hr => t__law_o_some_word_move T F__law_draw F__law_o_word_led F__law_pick cdv A outer s H E G hr)
  have F__law_o_rounds_of_word := fx_mk (w := w) (base := base) (st := top 47) (PySem.W.mg_of X G a__law_o_rounds_of_word) l__law_o_rounds_of_word c__law_o_rounds_of_word k__law_o_rounds_of_word s__law_o_rounds_of_word (.all fun us hl => match us, hl with | [_, _], _ => rfl) [] (fun cdv A outer s H E G hr => t__law_o_rounds_of_word T  cdv A outer s H E G hr)
  have F__law_o_odd_word := fx_mk (w := w) (base := base) (st := top 48) (PySem.W.mg_of X G a__law_o_odd_word) l__law_o_odd_word c__law_o_odd_word k__law_o_odd_word s__law_o_odd_word (.all fun us hl => match us, hl with | [_, _], _ => rfl) [] (fun cdv A outer s H E G hr => t__law_o_odd_word T F__law_pick cdv A outer s H E G hr)
  exact t_law TB (PySem.W.mg_of X G a__law_heard) k__law_heard l__law_heard c__law_heard (.all fun us hl => match us, hl with | [_], _ => rfl) A outer s H E pa rfl T F__law_draw F__law_is_int F__law_listed F__law_o_odd_word F__law_o_rounds_of_word F__law_o_some_word_move F__law_o_word_led F__law_pick F_word_genus F_word_led hr
end K75
namespace K75
open PySem L2 Mz
theorem draw_eq : f__law_draw = f_draw := rfl
theorem pick_eq : f__law_pick = f_pick := rfl
variable {p : Pen}
@[simp] theorem r_is_int (i : Int) : f_is_integer [.int i] p = .ok (.bl true) p := by simp [f_is_integer, fdOf_eq, b_is_integer]
@[simp] theorem r_is_intB (i : Bool) : f_is_integer [.bl i] p = .ok (.bl false) p := by simp [f_is_integer, fdOf_eq, b_is_integer]
@[simp] theorem r_is_intN : f_is_integer [.non] p = .ok (.bl false) p := by simp [f_is_integer, fdOf_eq, b_is_integer]
@[simp] theorem r_is_intS (x : Str) : f_is_integer [.str x] p = .ok (.bl false) p := by simp [f_is_integer, fdOf_eq, b_is_integer]
@[simp] theorem r_lis_int (i : Int) : f__law_is_int [.int i] p = .ok (.bl true) p := by simp [f__law_is_int, fdOf_eq, b__law_is_int]
@[simp] theorem r_lis_intB (i : Bool) : f__law_is_int [.bl i] p = .ok (.bl false) p := by simp [f__law_is_int, fdOf_eq, b__law_is_int]
@[simp] theorem r_is_count (i m : Int) : f_is_count [.int i, .int m] p = .ok (.bl (decide (0 ≤ i) && decide (i ≤ m))) p := by
  by_cases h : 0 ≤ i <;> simp [f_is_count, fdOf_eq, b_is_count, h, isNonD]
@[simp] theorem r_is_countB (i : Bool) (m : Int) : f_is_count [.bl i, .int m] p = .ok (.bl false) p := by simp [f_is_count, fdOf_eq, b_is_count]
@[simp] theorem r_is_countN (m : Int) : f_is_count [.non, .int m] p = .ok (.bl false) p := by simp [f_is_count, fdOf_eq, b_is_count]
@[simp] theorem r_is_rowL (xs : List D) : f_is_row [.lst xs] p = .ok (.bl true) p := by simp [f_is_row, fdOf_eq, b_is_row]
@[simp] theorem r_is_rowT (xs : List D) : f_is_row [.tup xs] p = .ok (.bl true) p := by simp [f_is_row, fdOf_eq, b_is_row]
@[simp] theorem r_is_rowI (i : Int) : f_is_row [.int i] p = .ok (.bl false) p := by simp [f_is_row, fdOf_eq, b_is_row]
@[simp] theorem r_is_rowS (i : Str) : f_is_row [.str i] p = .ok (.bl false) p := by simp [f_is_row, fdOf_eq, b_is_row]
@[simp] theorem r_is_rowN : f_is_row [.non] p = .ok (.bl false) p := by simp [f_is_row, fdOf_eq, b_is_row]
abbrev ab (x : Int) : Int := if x < 0 then -x else x
/-- the moves -/
abbrev mTurn : D := .tup [.str "turn"]
abbrev mUnstack : D := .tup [.str "unstack"]
abbrev mTake (a : Nat) : D := .tup [.str "take", .int a]
abbrev mFar (a : Nat) : D := .tup [.str "far", .int a]
abbrev mThree (a : Nat) : D := .tup [.str "three", .int a]
abbrev mPut (a : Nat) (x : Int) : D := .tup [.str "put", .int a, .int x]
abbrev mStack (x : Int) : D := .tup [.str "stack", .int x]
inductive Step : Int → List Int → D → Int → List Int → Prop
  | turn {s : Int} (x : Int) (r : List Int) : Step s (x :: r) mTurn s (r ++ [x])
  | unstack {s : Int} (w : List Int) (x : Int) : 2 ≤ s → ab x = s - 1 → (∀ y ∈ w, ab y ≠ s - 1) → Step s (w ++ [x]) mUnstack (s - 1) w
  | take {s : Int} (u v : List Int) (x y : Int) : x + y = 0 → Step s (u ++ x :: y :: v) (mTake u.length) s (u ++ v)
  | far {s : Int} (u v : List Int) (x y : Int) : 1 < ab (ab x - ab y) → Step s (u ++ x :: y :: v) (mFar u.length) s (u ++ y :: x :: v)
  | three {s : Int} (u v : List Int) (x y : Int) : 0 ≤ x * y → ab (x - y) = 1 → Step s (u ++ x :: y :: x :: v) (mThree u.length) s (u ++ y :: x :: y :: v)
  | put {s : Int} (u v : List Int) (x : Int) : 1 ≤ ab x → ab x < s → (u ++ v).length < 11 → Step s (u ++ v) (mPut u.length x) s (u ++ x :: -x :: v)
  | stack {s : Int} (w : List Int) (x : Int) : s < 6 → ab x = 1 → w.length < 12 → Step s w (mStack x) (s + 1) (w ++ [x * s])
/-- a word small enough -/
def Val (s : Int) (w : List Int) : Prop := 1 ≤ s ∧ s ≤ 6 ∧ w.length ≤ 12 ∧ ∀ x ∈ w, 0 < ab x ∧ ab x < s
theorem kinds (x : String) : dNotInS (.str (x : Str)) (.lst [.str "put", .str "take", .str "far", .str "three", .str "stack"]) = some (.bl (!["put", "take", "far", "three", "stack"].any fun y => y == x)) :=
  notin_st x ["put", "take", "far", "three", "stack"] rfl (okE_of (cmp_strs ["put", "take", "far", "three", "stack"]))
theorem kinds3 (x : String) : dInS (.str (x : Str)) (.tup [.str "take", .str "far", .str "three"]) = some (.bl (["take", "far", "three"].any fun y => y == x)) :=
  in_st x ["take", "far", "three"] rfl (okE_of (cmp_strsT ["take", "far", "three"]))


theorem led_turn0 {s : Int} : f__law_o_word_led [.int s, .lst [], mTurn] p = .ok .non p := by
  have e0 : dNe (.lst []) (.lst []) = some (.bl false) := v_dNeL0 []
  exact fd_ret (e := [some (.int s), some (.lst []), some mTurn, none, none, none, none]) rfl (sq_t (by simp [eq_mv0]) (ret_ok (by simp [e0])))
theorem led_turn {s : Int} (x : Int) (r : List Int) (hl : (x :: r).length ≤ 12) : f__law_o_word_led [.int s, .lst (dis (x :: r)), mTurn] p = .ok (.tup [.int s, .lst (dis (r ++ [x]))]) p := by
  have e0 := v_dNeL0 (x :: r)
  have e1 : cutD (dis (x :: r)) (some 1) none = dis r := cut_ge _ 1
  have e2 : cutD (dis (x :: r)) none (some 1) = [.int x] := cut_le _ 1
  have h1 : r.length ≤ 16777215 := by simp only [List.length_cons] at hl; omega
  simp only [List.map_cons] at e0 e1 e2
  exact fd_ret (e := [some (.int s), some (.lst (dis (x :: r))), some mTurn, none, none, none, none]) rfl (sq_t (by simp [eq_mv0]) (ret_ok (by simp [e0, e1, e2, h1])))
theorem led_unstack0 {s : Int} : f__law_o_word_led [.int s, .lst [], mUnstack] p = .ok .non p := by
  have e0 : dEq (.lst []) (.lst []) = some (.bl true) := v_dEqL0 []
  refine fd_ret (e := [some (.int s), some (.lst []), some mUnstack, none, none, none, none]) rfl (sq_f (by simp [eq_mv0]) (sq_t (by simp [eq_mv0]) (sq_t ?_ (ret_ok (by simp)))))
  by_cases hs : s < 2 <;> simp [e0, hs]
theorem led_unstack {s : Int} (w : List Int) (x : Int) (hl : (w ++ [x]).length ≤ 12) : ∃ r, (∀ p, f__law_o_word_led [.int s, .lst (dis (w ++ [x])), mUnstack] p = .ok r p) ∧ (r = .non ∨ r = .tup [.int (s - 1), .lst (dis w)] ∧ 2 ≤ s ∧ ab x = s - 1 ∧ ∀ y ∈ w, ab y ≠ s - 1) := by
  have e0 := v_dEqL0 (w ++ [x])
  have e1 : atI (dis (w ++ [x])) (-1) = some (.int x) := by rw [atI_neg1]; simp
  have e2 : cutD (dis (w ++ [x])) none (some (-1)) = dis w := by rw [cut_neg1]; simp
  have e3 : (w ++ [x]).isEmpty = false := by simp
  rw [e3] at e0
  have e4 : ∀ (p : Pen) (e : Mz.Env), e.length = 7 → e[0]? = some (some (D.int s)) → lcGo (gtName 6) (tBl (mBin dEq (mUn dAbs (mVar 6)) (mBin dSub (mVar 0) (mC (.int 1))))) (mVar 6) e (dis w) [] p = .ok (.lst (dis (w.filter fun y => ab y == s - 1))) p := fun p e hn h0 => by
    refine lc_pure (keep := fun y => ab y == s - 1) (out := D.int) w [] (fun y _ => ⟨e.set 6 (some (.int y)), rfl, ?_, fun _ => ?_⟩) (by simp at hl; simp; omega)
    · have h6 : (e.set 6 (some (.int y)))[6]? = some (some (.int y)) := List.getElem?_set_self (by omega)
      have h0' : (e.set 6 (some (.int y)))[0]? = some (some (.int s)) := by rw [List.getElem?_set_ne (by decide)]; exact h0
      simp [h6, h0']
    · have h6 : (e.set 6 (some (.int y)))[6]? = some (some (.int y)) := List.getElem?_set_self (by omega)
      simp [h6]
  have e5 : ∀ l : List Int, dNe (.lst (dis l)) (.lst []) = some (.bl (!l.isEmpty)) := v_dNeL0
  have e4' := fun p => e4 p (wipeE [some (D.int s), some (D.lst (dis (w ++ [x]))), some mUnstack, none, none, none, none] [6]) rfl rfl
  by_cases hg : ¬ s < 2 ∧ ab x = s - 1 ∧ (w.filter fun y => ab y == s - 1).isEmpty = true
  · obtain ⟨hs, hx, hw⟩ := hg
    simp only [List.map_append, List.map_cons, List.map_nil] at e0 e1 e2 e4'
    refine ⟨_, fun p => fd_ret (e := [some (.int s), some (.lst (dis (w ++ [x]))), some mUnstack, none, none, none, none]) rfl (sq_f (by simp [eq_mv0]) (sq_t (by simp [eq_mv0]) (sq_f (by simp [hs, e0, e1, e2, hx, e4', e5, hw]) (ret_ok (d := .tup [.int (s - 1), .lst (dis w)]) (by simp [e2]))))), .inr ⟨rfl, by omega, hx, fun y hy he => ?_⟩⟩
    exact List.filter_eq_nil_iff.mp (List.isEmpty_iff.mp hw) y hy (beq_iff_eq.mpr he)
  · simp only [List.map_append, List.map_cons, List.map_nil] at e0 e1 e2 e4'
    refine ⟨.non, fun p => fd_ret (e := [some (.int s), some (.lst (dis (w ++ [x]))), some mUnstack, none, none, none, none]) rfl (sq_f (by simp [eq_mv0]) (sq_t (by simp [eq_mv0]) (sq_t ?_ (ret_ok (by simp))))), .inl rfl⟩
    by_cases hs : s < 2
    · simp [hs]
    · by_cases hx : ab x = s - 1
      · have hw : ¬ (w.filter fun y => ab y == s - 1).isEmpty = true := fun z => hg ⟨hs, hx, z⟩
        simp [hs, e0, e1, e2, hx, e4', e5, hw]
      · simp [hs, e0, e1, e2, hx]
theorem split2 (w : List Int) (a : Nat) (h : a + 2 ≤ w.length) : ∃ u x y v, w = u ++ x :: y :: v ∧ u.length = a := by
  refine ⟨w.take a, w[a], w[a + 1], w.drop (a + 2), ?_, by rw [List.length_take]; omega⟩
  rw [← List.drop_eq_getElem_cons (by omega), ← List.drop_eq_getElem_cons (by omega), List.take_append_drop]

section
variable {s : Int} {w : List Int} {a : Nat} {r : D}
/-- up to the part of the word -/
theorem led_pre {k : String} (hk : k = "take" ∨ k = "far" ∨ k = "three") {b : MS} (ha : ¬ (w.length : Int) < a)
    (h : ∀ b, b = (sSeq (sSet 5 (mSl (mVar 1) (moSome (mVar 3)) (moSome (mBin dAdd (mVar 3) (mIf (tBl (mBin dEq (mBin dIx (mVar 2) (mC (.int 0))) (mC (.str "three")))) (mC (.int 3)) (mC (.int 2)))))))
    (sSeq (sIf (tBl (mBin dEq (mBin dIx (mVar 2) (mC (.int 0))) (mC (.str "take")))) (sRet (mIf (tAndM (tBl (mBin dEq (mUn dLen (mVar 5)) (mC (.int 2)))) (tBl (mBin dEq (mBin dAdd (mBin dIx (mVar 5) (mC (.int 0))) (mBin dIx (mVar 5) (mC (.int 1)))) (mC (.int 0))))) (mTup (maCons (mVar 0) (maCons (mBin dAdd (mSl (mVar 1) moNone (moSome (mVar 3))) (mSl (mVar 1) (moSome (mBin dAdd (mVar 3) (mC (.int 2)))) moNone)) maNil))) (mC .non))) sNext)
    (sSeq (sIf (tBl (mBin dEq (mBin dIx (mVar 2) (mC (.int 0))) (mC (.str "far")))) (sRet (mIf (tAndM (tBl (mBin dEq (mUn dLen (mVar 5)) (mC (.int 2)))) (tBl (mBin dGt (mUn dAbs (mBin dSub (mUn dAbs (mBin dIx (mVar 5) (mC (.int 0)))) (mUn dAbs (mBin dIx (mVar 5) (mC (.int 1)))))) (mC (.int 1))))) (mTup (maCons (mVar 0) (maCons (mBin dAdd (mBin dAdd (mSl (mVar 1) moNone (moSome (mVar 3))) (mUn dRev (mVar 5))) (mSl (mVar 1) (moSome (mBin dAdd (mVar 3) (mC (.int 2)))) moNone)) maNil))) (mC .non))) sNext)
    (sSeq (sIf (tOrM (tBl (mBin dLt (mUn dLen (mVar 5)) (mC (.int 3)))) (tOrM (tBl (mBin dNe (mBin dIx (mVar 5) (mC (.int 0))) (mBin dIx (mVar 5) (mC (.int 2))))) (tOrM (tBl (mBin dLt (mBin dMul (mBin dIx (mVar 5) (mC (.int 0))) (mBin dIx (mVar 5) (mC (.int 1)))) (mC (.int 0)))) (tBl (mBin dNe (mUn dAbs (mBin dSub (mBin dIx (mVar 5) (mC (.int 0))) (mBin dIx (mVar 5) (mC (.int 1))))) (mC (.int 1))))))) (sRet (mC .non)) sNext)
    (sRet (mTup (maCons (mVar 0) (maCons (mBin dAdd (mBin dAdd (mSl (mVar 1) moNone (moSome (mVar 3))) (mLst (maCons (mBin dIx (mVar 5) (mC (.int 1))) (maCons (mBin dIx (mVar 5) (mC (.int 0))) (maCons (mBin dIx (mVar 5) (mC (.int 1))) maNil))))) (mSl (mVar 1) (moSome (mBin dAdd (mVar 3) (mC (.int 3)))) moNone)) maNil))))))))
      → b [some (.int s), some (.lst (dis w)), some (.tup [.str (k : Str), .int a]), some (.int a), none, none, none] p = .ret r p) : f__law_o_word_led [.int s, .lst (dis w), .tup [.str (k : Str), .int a]] p = .ok r p := by
  have h0 : ¬ (a : Int) < 0 := by omega
  refine fd_ret (e := [some (.int s), some (.lst (dis w)), some (.tup [.str (k : Str), .int a]), none, none, none, none]) rfl ?_
  refine sq_f (by simp [eq_mv1]) (sq_f (by simp [eq_mv1]) (sq_f ?_ (sq_f ?_ (sq_set (.int a) (by simp) (sq_f ?_ (sq_f (by simp [h0, ha]) (sq_f ?_ (h _ rfl))))))))
  · rcases hk with rfl | rfl | rfl <;> simp [kinds]
  · rcases hk with rfl | rfl | rfl <;> simp [eq_st]
  · rcases hk with rfl | rfl | rfl <;> simp [eq_st]
  · rcases hk with rfl | rfl | rfl <;> simp [eq_st]
/-- beyond the end -/
theorem led_out {k : String} (hk : k = "take" ∨ k = "far" ∨ k = "three") (ha : (w.length : Int) < a) : f__law_o_word_led [.int s, .lst (dis w), .tup [.str (k : Str), .int a]] p = .ok .non p := by
  have h0 : ¬ (a : Int) < 0 := by omega
  refine fd_ret (e := [some (.int s), some (.lst (dis w)), some (.tup [.str (k : Str), .int a]), none, none, none, none]) rfl ?_
  refine sq_f (by simp [eq_mv1]) (sq_f (by simp [eq_mv1]) (sq_f ?_ (sq_f ?_ (sq_set (.int a) (by simp) (sq_f ?_ (sq_t (by simp [h0, ha]) (ret_ok (by simp))))))))
  · rcases hk with rfl | rfl | rfl <;> simp [kinds]
  · rcases hk with rfl | rfl | rfl <;> simp [eq_st]
  · rcases hk with rfl | rfl | rfl <;> simp [eq_st]
theorem cut_a2 (w : List Int) (a : Nat) (k : Nat) : cutD (dis w) (some (a : Int)) (some ((a : Int) + (k : Int))) = dis ((w.take (a + k)).drop a) := by
  rw [show ((a : Int) + (k : Int)) = ((a + k : Nat) : Int) from rfl, cut_mid]; simp
theorem led_take (hl : w.length ≤ 12) : ∃ r, (∀ p, f__law_o_word_led [.int s, .lst (dis w), mTake a] p = .ok r p) ∧ (r = .non ∨ ∃ u v x y, w = u ++ x :: y :: v ∧ u.length = a ∧ x + y = 0 ∧ r = .tup [.int s, .lst (dis (u ++ v))]) := by
  by_cases ha : (w.length : Int) < a
  · exact ⟨_, fun p => led_out (.inl rfl) ha, .inl rfl⟩
  by_cases h2 : a + 2 ≤ w.length
  · obtain ⟨u, x, y, v, rfl, rfl⟩ := split2 w a h2
    have e1 := cut_a2 (u ++ x :: y :: v) u.length 2
    have e2 := cut_le (dis (u ++ x :: y :: v)) u.length
    have e3 := cut_ge (dis (u ++ x :: y :: v)) (u.length + 2)
    have h3 : u.length + v.length ≤ 16777216 := by simp at hl; omega
    simp [List.take_append, List.drop_append] at e1 e2 e3
    by_cases hz : x + y = 0
    · refine ⟨_, fun p => led_pre (b := sNext) (r := .tup [.int s, .lst (dis (u ++ v))]) (.inl rfl) ha (fun b hb => ?_), .inr ⟨u, v, x, y, rfl, rfl, hz, rfl⟩⟩
      subst hb
      exact sq_set (.lst [.int x, .int y]) (by simp [eq_st, e1]) (sq_t (by simp [eq_st]) (ret_ok (by simp [hz, e2, e3, h3])))
    · refine ⟨_, fun p => led_pre (b := sNext) (r := .non) (.inl rfl) ha (fun b hb => ?_), .inl rfl⟩
      subst hb
      exact sq_set (.lst [.int x, .int y]) (by simp [eq_st, e1]) (sq_t (by simp [eq_st]) (ret_ok (by simp [hz])))
  · refine ⟨_, fun p => led_pre (b := sNext) (r := .non) (.inl rfl) ha (fun b hb => ?_), .inl rfl⟩
    subst hb
    have e1 := cut_a2 w a 2
    simp at e1
    have : ¬ (((min (a + 2) w.length - a : Nat)) : Int) = 2 := by omega
    exact sq_set (.lst (dis ((w.take (a + 2)).drop a))) (by simp [eq_st, e1]) (sq_t (by simp [eq_st]) (ret_ok (by simp [this])))
theorem led_far (hl : w.length ≤ 12) : ∃ r, (∀ p, f__law_o_word_led [.int s, .lst (dis w), mFar a] p = .ok r p) ∧ (r = .non ∨ ∃ u v x y, w = u ++ x :: y :: v ∧ u.length = a ∧ 1 < ab (ab x - ab y) ∧ r = .tup [.int s, .lst (dis (u ++ y :: x :: v))]) := by
  by_cases ha : (w.length : Int) < a
  · exact ⟨_, fun p => led_out (.inr (.inl rfl)) ha, .inl rfl⟩
  by_cases h2 : a + 2 ≤ w.length
  · obtain ⟨u, x, y, v, rfl, rfl⟩ := split2 w a h2
    have e1 := cut_a2 (u ++ x :: y :: v) u.length 2
    have e2 := cut_le (dis (u ++ x :: y :: v)) u.length
    have e3 := cut_ge (dis (u ++ x :: y :: v)) (u.length + 2)
    have h3 : u.length + 2 ≤ 16777216 := by simp at hl; omega
    have h4 : u.length + 2 + v.length ≤ 16777216 := by simp at hl; omega
    simp [List.take_append, List.drop_append] at e1 e2 e3
    by_cases hz : 1 < ab (ab x - ab y)
    · refine ⟨_, fun p => led_pre (b := sNext) (r := .tup [.int s, .lst (dis (u ++ y :: x :: v))]) (.inr (.inl rfl)) ha (fun b hb => ?_), .inr ⟨u, v, x, y, rfl, rfl, hz, rfl⟩⟩
      subst hb
      exact sq_set (.lst [.int x, .int y]) (by simp [eq_st, e1]) (sq_f (by simp [eq_st]) (sq_t (by simp [eq_st]) (ret_ok (by simp [hz, e2, e3, h3, h4]))))
    · refine ⟨_, fun p => led_pre (b := sNext) (r := .non) (.inr (.inl rfl)) ha (fun b hb => ?_), .inl rfl⟩
      subst hb
      exact sq_set (.lst [.int x, .int y]) (by simp [eq_st, e1]) (sq_f (by simp [eq_st]) (sq_t (by simp [eq_st]) (ret_ok (by simp [hz]))))
  · refine ⟨_, fun p => led_pre (b := sNext) (r := .non) (.inr (.inl rfl)) ha (fun b hb => ?_), .inl rfl⟩
    subst hb
    have e1 := cut_a2 w a 2
    simp at e1
    have : ¬ (((min (a + 2) w.length - a : Nat)) : Int) = 2 := by omega
    exact sq_set (.lst (dis ((w.take (a + 2)).drop a))) (by simp [eq_st, e1]) (sq_f (by simp [eq_st]) (sq_t (by simp [eq_st]) (ret_ok (by simp [this]))))

theorem split3 (w : List Int) (a : Nat) (h : a + 3 ≤ w.length) : ∃ u x y z v, w = u ++ x :: y :: z :: v ∧ u.length = a := by
  refine ⟨w.take a, w[a], w[a + 1], w[a + 2], w.drop (a + 3), ?_, by rw [List.length_take]; omega⟩
  rw [← List.drop_eq_getElem_cons (by omega), ← List.drop_eq_getElem_cons (by omega), ← List.drop_eq_getElem_cons (by omega), List.take_append_drop]
theorem led_three (hl : w.length ≤ 12) (hw : ∀ x ∈ w, ab x < 100) : ∃ r, (∀ p, f__law_o_word_led [.int s, .lst (dis w), mThree a] p = .ok r p) ∧ (r = .non ∨ ∃ u v x y, w = u ++ x :: y :: x :: v ∧ u.length = a ∧ 0 ≤ x * y ∧ ab (x - y) = 1 ∧ r = .tup [.int s, .lst (dis (u ++ y :: x :: y :: v))]) := by
  by_cases ha : (w.length : Int) < a
  · exact ⟨_, fun p => led_out (.inr (.inr rfl)) ha, .inl rfl⟩
  by_cases h2 : a + 3 ≤ w.length
  · obtain ⟨u, x, y, z, v, rfl, rfl⟩ := split3 w a h2
    have e1 := cut_a2 (u ++ x :: y :: z :: v) u.length 3
    have e2 := cut_le (dis (u ++ x :: y :: z :: v)) u.length
    have e3 := cut_ge (dis (u ++ x :: y :: z :: v)) (u.length + 3)
    have h3 : u.length + 3 ≤ 16777216 := by simp at hl; omega
    have h4 : u.length + 3 + v.length ≤ 16777216 := by simp at hl; omega
    have hx : -(2 ^ 64) < x ∧ x < 2 ^ 64 := by
      have := hw x (by simp)
      simp only [ab] at this
      split at this <;> omega
    have e4 : dMul (.int x) (.int y) = some (.int (x * y)) := by rw [v_dMul, if_pos (.inl hx)]
    simp [List.take_append, List.drop_append] at e1 e2 e3
    by_cases hz : x = z ∧ ¬ x * y < 0 ∧ ab (x - y) = 1
    · obtain ⟨rfl, hm, hd⟩ := hz
      refine ⟨_, fun p => led_pre (b := sNext) (r := .tup [.int s, .lst (dis (u ++ y :: x :: y :: v))]) (.inr (.inr rfl)) ha (fun b hb => ?_), .inr ⟨u, v, x, y, rfl, rfl, by omega, hd, rfl⟩⟩
      subst hb
      exact sq_set (.lst [.int x, .int y, .int x]) (by simp [eq_st, e1]) (sq_f (by simp [eq_st]) (sq_f (by simp [eq_st]) (sq_f (by simp [e4, hm, hd]) (ret_ok (by simp [e2, e3, h3, h4])))))
    · refine ⟨_, fun p => led_pre (b := sNext) (r := .non) (.inr (.inr rfl)) ha (fun b hb => ?_), .inl rfl⟩
      subst hb
      refine sq_set (.lst [.int x, .int y, .int z]) (by simp [eq_st, e1]) (sq_f (by simp [eq_st]) (sq_f (by simp [eq_st]) (sq_t ?_ (ret_ok (by simp)))))
      by_cases h5 : x = z
      · by_cases h6 : x * y < 0
        · subst h5
          simp [e4, h6]
        · by_cases h7 : ab (x - y) = 1
          · exact absurd ⟨h5, h6, h7⟩ hz
          · subst h5
            simp [e4, h6, h7]
      · simp [h5]
  · refine ⟨_, fun p => led_pre (b := sNext) (r := .non) (.inr (.inr rfl)) ha (fun b hb => ?_), .inl rfl⟩
    subst hb
    have e1 := cut_a2 w a 3
    simp at e1
    have : ((min (a + 3) w.length - a : Nat) : Int) < 3 := by omega
    exact sq_set (.lst (dis ((w.take (a + 3)).drop a))) (by simp [eq_st, e1]) (sq_f (by simp [eq_st]) (sq_f (by simp [eq_st]) (sq_t (by simp [this]) (ret_ok (by simp)))))
theorem led_put (x : Int) (hl : w.length ≤ 12) (ha : a ≤ w.length) : ∃ r, (∀ p, f__law_o_word_led [.int s, .lst (dis w), mPut a x] p = .ok r p) ∧ (r = .non ∨ ∃ u v, w = u ++ v ∧ u.length = a ∧ 1 ≤ ab x ∧ ab x < s ∧ w.length < 11 ∧ r = .tup [.int s, .lst (dis (u ++ x :: -x :: v))]) := by
  have h0 : ¬ (a : Int) < 0 := by omega
  have h1 : ¬ (w.length : Int) < a := by omega
  have e2 := cut_le (dis w) a
  have e3 := cut_ge (dis w) a
  have h3 : a + 2 ≤ 16777216 := by omega
  have h4 : a + 2 + (w.length - a) ≤ 16777216 := by omega
  have h5 : min a w.length = a := by omega
  have pre : ∀ (p : Pen) (r : D), (1 ≤ ab x ∧ ab x < s ∧ (w.length : Int) < 11 → r = .tup [.int s, .lst (dis (w.take a ++ x :: -x :: w.drop a))]) → (¬ (1 ≤ ab x ∧ ab x < s ∧ (w.length : Int) < 11) → r = .non) → f__law_o_word_led [.int s, .lst (dis w), mPut a x] p = .ok r p := by
    intro p r k1 k2
    refine fd_ret (e := [some (.int s), some (.lst (dis w)), some (mPut a x), none, none, none, none]) rfl ?_
    refine sq_f (by simp [eq_mv2]) (sq_f (by simp [eq_mv2]) (sq_f (by simp [kinds]) (sq_f (by simp [eq_st]) (sq_set (.int a) (by simp) (sq_f (by simp [eq_st]) (sq_f (by simp [h0, h1]) (sq_t (by simp [eq_st]) ?_)))))))
    by_cases c1 : 1 ≤ ab x
    · by_cases c2 : ab x < s
      · by_cases c3 : (w.length : Int) < 11
        · have := k1 ⟨c1, c2, c3⟩
          subst this
          exact sq_set (.bl true) (by simp [c1, c2, c3]) (ret_ok (by simp [e2, e3, h3, h4, h5]))
        · have := k2 (fun z => c3 z.2.2)
          subst this
          exact sq_set (.bl false) (by simp [c1, c2, c3]) (ret_ok (by simp))
      · have := k2 (fun z => c2 z.2.1)
        subst this
        exact sq_set (.bl false) (by simp [c1, c2]) (ret_ok (by simp))
    · have := k2 (fun z => c1 z.1)
      subst this
      exact sq_set (.bl false) (by simp [c1]) (ret_ok (by simp))
  by_cases hz : 1 ≤ ab x ∧ ab x < s ∧ (w.length : Int) < 11
  · exact ⟨_, fun p => pre p _ (fun _ => rfl) (fun z => absurd hz z), .inr ⟨w.take a, w.drop a, by simp, by simp; omega, hz.1, hz.2.1, by omega, rfl⟩⟩
  · exact ⟨_, fun p => pre p .non (fun z => absurd z hz) (fun _ => rfl), .inl rfl⟩
theorem led_stack (x : Int) (hx : ab x = 1) (hs : 1 ≤ s) (hs6 : s ≤ 6) (hl : w.length ≤ 12) : (s < 6 ∧ w.length < 12 → f__law_o_word_led [.int s, .lst (dis w), mStack x] p = .ok (.tup [.int (s + 1), .lst (dis (w ++ [x * s]))]) p) ∧ (¬ (s < 6 ∧ w.length < 12) → f__law_o_word_led [.int s, .lst (dis w), mStack x] p = .ok .non p) := by
  have pre : ∀ r, (mIf (tAndM (tBl (mBin dLt (mVar 0) (mC (.int 6)))) (tAndM (tBl (mBin dEq (mUn dAbs (mVar 3)) (mC (.int 1)))) (tBl (mBin dLt (mUn dLen (mVar 1)) (mC (.int 12)))))) (mTup (maCons (mBin dAdd (mVar 0) (mC (.int 1))) (maCons (mBin dAdd (mVar 1) (mLst (maCons (mBin dMul (mVar 3) (mVar 0)) maNil))) maNil))) (mC .non)) [some (.int s), some (.lst (dis w)), some (mStack x), some (.int x), none, none, none] p = .ok r p → f__law_o_word_led [.int s, .lst (dis w), mStack x] p = .ok r p := by
    intro r h
    refine fd_ret (e := [some (.int s), some (.lst (dis w)), some (mStack x), none, none, none, none]) rfl ?_
    exact sq_f (by simp [eq_mv1]) (sq_f (by simp [eq_mv1]) (sq_f (by simp [kinds]) (sq_f (by simp [eq_st]) (sq_set (.int x) (by simp) (sq_t (by simp [eq_st]) (ret_ok h))))))
  have e4 : dMul (.int x) (.int s) = some (.int (x * s)) := by rw [v_dMul, if_pos (.inr (by omega))]
  constructor
  · intro ⟨h1, h2⟩
    have h3 : (w.length : Int) < 12 := by omega
    have h4 : w.length + 1 ≤ 16777216 := by omega
    have h5 : w.length ≤ 16777215 := by omega
    exact pre _ (by simp [h1, h3, hx, e4, h4, h5])
  · intro h
    refine pre _ ?_
    by_cases h1 : s < 6
    · have h3 : ¬ (w.length : Int) < 12 := fun z => h ⟨h1, by omega⟩
      simp [h1, h3, hx]
    · simp [h1]
end

/-- the moves that may be drawn -/
def Cand (w : List Int) (d : D) : Prop := d = mTurn ∨ d = mUnstack ∨ (∃ a, d = mTake a ∨ d = mFar a ∨ d = mThree a) ∨ (∃ a x, a ≤ w.length ∧ d = mPut a x) ∨ d = mStack 1 ∨ d = mStack (-1)
theorem led_any {s : Int} {w : List Int} {d : D} (V : Val s w) (h : Cand w d) : ∃ r, (∀ p, f__law_o_word_led [.int s, .lst (dis w), d] p = .ok r p) ∧ (r = .non ∨ ∃ s' w', r = .tup [.int s', .lst (dis w')] ∧ Step s w d s' w') := by
  obtain ⟨v1, v2, v3, v4⟩ := V
  rcases h with rfl | rfl | ⟨a, rfl | rfl | rfl⟩ | ⟨a, x, ha, rfl⟩ | rfl | rfl
  · cases w with
    | nil => exact ⟨_, fun p => led_turn0, .inl rfl⟩
    | cons x r => exact ⟨_, fun p => led_turn x r v3, .inr ⟨_, _, rfl, .turn x r⟩⟩
  · rcases List.eq_nil_or_concat w with rfl | ⟨u, x, rfl⟩
    · exact ⟨_, fun p => led_unstack0, .inl rfl⟩
    · rw [List.concat_eq_append] at v3 ⊢
      obtain ⟨r, h1, h2 | ⟨h2, h3, h4, h5⟩⟩ := led_unstack (s := s) u x v3
      · exact ⟨r, h1, .inl h2⟩
      · exact ⟨r, h1, .inr ⟨_, _, h2, .unstack u x h3 h4 h5⟩⟩
  · obtain ⟨r, h1, h2 | ⟨u, v, x, y, rfl, rfl, h3, h4⟩⟩ := led_take (s := s) (a := a) v3
    · exact ⟨r, h1, .inl h2⟩
    · exact ⟨r, h1, .inr ⟨_, _, h4, .take u v x y h3⟩⟩
  · obtain ⟨r, h1, h2 | ⟨u, v, x, y, rfl, rfl, h3, h4⟩⟩ := led_far (s := s) (a := a) v3
    · exact ⟨r, h1, .inl h2⟩
    · exact ⟨r, h1, .inr ⟨_, _, h4, .far u v x y h3⟩⟩
  · obtain ⟨r, h1, h2 | ⟨u, v, x, y, rfl, rfl, h3, h3', h4⟩⟩ := led_three (s := s) (a := a) v3 (fun x hx => by have := v4 x hx; omega)
    · exact ⟨r, h1, .inl h2⟩
    · exact ⟨r, h1, .inr ⟨_, _, h4, .three u v x y h3 h3'⟩⟩
  · obtain ⟨r, h1, h2 | ⟨u, v, rfl, rfl, h3, h3', h3'', h4⟩⟩ := led_put (s := s) (a := a) x v3 ha
    · exact ⟨r, h1, .inl h2⟩
    · exact ⟨r, h1, .inr ⟨_, _, h4, .put u v x h3 h3' h3''⟩⟩
  · by_cases hc : s < 6 ∧ w.length < 12
    · exact ⟨_, fun p => (led_stack (p := p) 1 rfl v1 v2 v3).1 hc, .inr ⟨_, _, rfl, .stack w 1 hc.1 rfl hc.2⟩⟩
    · exact ⟨_, fun p => (led_stack (p := p) 1 rfl v1 v2 v3).2 hc, .inl rfl⟩
  · by_cases hc : s < 6 ∧ w.length < 12
    · exact ⟨_, fun p => (led_stack (p := p) (-1) rfl v1 v2 v3).1 hc, .inr ⟨_, _, rfl, .stack w (-1) hc.1 rfl hc.2⟩⟩
    · exact ⟨_, fun p => (led_stack (p := p) (-1) rfl v1 v2 v3).2 hc, .inl rfl⟩
theorem some_move {s : Int} {w : List Int} {k : Nat} (V : Val s w) (hne : w ≠ [] ∨ s < 6) (G : Good (k + 4) p) : ∃ d p', f__law_o_some_word_move [.pen, .int s, .lst (dis w)] p = .ok d p' ∧ Good k p' ∧
    ∃ s' w', Step s w d s' w' ∧ ∀ q, f__law_o_word_led [.int s, .lst (dis w), d] q = .ok (.tup [.int s', .lst (dis w')]) q := by
  obtain ⟨v1, v2, v3, v4⟩ := id V
  -- the loop
  have lp : ∃ e' p', mFor (gtName 4) (sSet 3 (mBin dAdd (mVar 3) (mBin dMul (mLst (maCons (mTup (maCons (mC (.str "take")) (maCons (mVar 4) maNil))) (maCons (mTup (maCons (mC (.str "far")) (maCons (mVar 4) maNil))) (maCons (mTup (maCons (mC (.str "three")) (maCons (mVar 4) maNil))) maNil)))) (mC (.int 2))))) (rngD 0 w.length) [some .pen, some (.int s), some (.lst (dis w)), some (.lst [mTurn, mUnstack]), none, none] p = .next e' p' ∧
      (p' = p ∧ ∃ l c, e' = [some .pen, some (.int s), some (.lst (dis w)), some (.lst (mTurn :: l)), c, none] ∧ (∀ d ∈ mTurn :: l, Cand w d) ∧ l.length = 1 + 6 * (rngD 0 w.length).length) := by
    refine for_inv (fun i e' p' => p' = p ∧ ∃ l c, e' = [some .pen, some (.int s), some (.lst (dis w)), some (.lst (mTurn :: l)), c, none] ∧ (∀ d ∈ mTurn :: l, Cand w d) ∧ l.length = 1 + 6 * i) ⟨rfl, [mUnstack], none, rfl, ?_, rfl⟩ ?_
    · intro d hd
      rcases List.mem_cons.mp hd with rfl | hd
      · exact .inl rfl
      · rw [List.mem_singleton.mp hd]; exact .inr (.inl rfl)
    · rintro i d e p2 hd ⟨rfl, l, c, rfl, hc, hlen⟩
      obtain ⟨hi, rfl⟩ := rngD_get0 hd
      have h1 : l.length + 1 + 6 ≤ 16777216 := by omega
      refine ⟨_, _, _, rfl, .inl (show _ = SF.next [some .pen, some (.int s), some (.lst (dis w)), some (.lst (mTurn :: (l ++ [mTake i, mFar i, mThree i, mTake i, mFar i, mThree i]))), some (.int i), none] p2 from ?_), rfl, _, _, rfl, ?_, ?_⟩
      · simp [v_dMulL, List.replicate, h1]
      · intro d hd
        rcases List.mem_cons.mp hd with rfl | hd
        · exact .inl rfl
        rcases List.mem_append.mp hd with hd | hd
        · exact hc d (List.mem_cons_of_mem _ hd)
        · simp only [List.mem_cons, List.not_mem_nil, or_false] at hd
          exact .inr (.inr (.inl ⟨i, by rcases hd with h | h | h | h | h | h <;> simp [h]⟩))
      · simp [hlen]; omega
  obtain ⟨e1, p1, hl1, rfl, l, c, rfl, hc, hlen⟩ := lp
  rw [rngD_len0] at hlen
  -- the put
  have pt : ∃ l' p2, (sIf (tBl (mBin dGt (mVar 1) (mC (.int 1)))) (sSet 3 (mBin dAdd (mVar 3) (mLst (maCons (mTup (maCons (mC (.str "put")) (maCons (mCall f__law_draw (maCons (mVar 0) (maCons (mBin dAdd (mUn dLen (mVar 2)) (mC (.int 1))) maNil))) (maCons (mBin dMul (mCall f__law_pick (maCons (mVar 0) (maCons (mLst (maCons (mC (.int 1)) (maCons (mUn dNeg (mC (.int 1))) maNil))) maNil))) (mBin dAdd (mC (.int 1)) (mCall f__law_draw (maCons (mVar 0) (maCons (mVar 1) maNil))))) maNil)))) maNil)))) sNext) [some .pen, some (.int s), some (.lst (dis w)), some (.lst (mTurn :: l)), c, none] p1
      = .next [some .pen, some (.int s), some (.lst (dis w)), some (.lst (mTurn :: l')), c, none] p2 ∧ (∀ d ∈ mTurn :: l', Cand w d) ∧ l'.length ≤ 74 ∧ Good (k + 1) p2 := by
    by_cases hs : 1 < s
    · obtain ⟨r1, q1, e1, a1, b1, g1⟩ := draw_ok (k := k + 3) (many := (w.length : Int) + 1) G (by omega) (by omega)
      obtain ⟨x2, q2, e2, a2, g2⟩ := pick_ok (k := k + 2) (xs := [.int 1, .int (-1)]) g1 (by decide) (by decide)
      obtain ⟨r3, q3, e3, a3, b3, g3⟩ := draw_ok (k := k + 1) (many := s) g2 (by omega) (by omega)
      obtain ⟨n1, rfl⟩ := Int.eq_ofNat_of_zero_le a1
      obtain ⟨z, rfl, hz⟩ : ∃ z : Int, x2 = .int z ∧ (z = 1 ∨ z = -1) := by
        rcases List.mem_cons.mp a2 with h | h
        · exact ⟨1, h, .inl rfl⟩
        · exact ⟨-1, List.mem_singleton.mp h, .inr rfl⟩
      have e4 : dMul (.int z) (.int (1 + r3)) = some (.int (z * (1 + r3))) := by rw [v_dMul, if_pos (.inl (by omega))]
      have h1 : l.length + 1 + 1 ≤ 16777216 := by omega
      refine ⟨l ++ [mPut n1 (z * (1 + r3))], q3, if_t (p' := p1) (by simp [hs]) ?_, ?_, by simp; omega, g3⟩
      · simp [draw_eq, pick_eq, e1, e2, e3, e4, h1]
      · intro d hd
        rcases List.mem_cons.mp hd with rfl | hd
        · exact .inl rfl
        rcases List.mem_append.mp hd with hd | hd
        · exact hc d (List.mem_cons_of_mem _ hd)
        · rw [List.mem_singleton.mp hd]
          exact .inr (.inr (.inr (.inl ⟨n1, _, by omega, rfl⟩)))
    · exact ⟨l, p1, if_f (by simp [hs]) rfl, hc, by omega, G.le⟩
  obtain ⟨l', p2, hp2, hc', hlen', G2⟩ := pt
  -- what fits
  have hall : ∀ d ∈ mTurn :: (l' ++ [mStack 1, mStack (-1)]), Cand w d := by
    intro d hd
    rcases List.mem_cons.mp hd with rfl | hd
    · exact .inl rfl
    rcases List.mem_append.mp hd with hd | hd
    · exact hc' d (List.mem_cons_of_mem _ hd)
    · simp only [List.mem_cons, List.not_mem_nil, or_false] at hd
      rcases hd with rfl | rfl
      · exact .inr (.inr (.inr (.inr (.inl rfl))))
      · exact .inr (.inr (.inr (.inr (.inr rfl))))
  have hkeep : ∃ keep : D → Bool, ∀ d ∈ mTurn :: (l' ++ [mStack 1, mStack (-1)]), ∃ r, (∀ p, f__law_o_word_led [.int s, .lst (dis w), d] p = .ok r p) ∧ keep d = !isNonD r := by
    refine ⟨fun d => match f__law_o_word_led [.int s, .lst (dis w), d] p2 with | .ok r _ => !isNonD r | _ => false, fun d hd => ?_⟩
    obtain ⟨r, h1, _⟩ := led_any V (hall d hd)
    exact ⟨r, h1, by dsimp only; rw [h1 p2]⟩
  obtain ⟨keep, hkeep⟩ := hkeep
  have hlc := lc_pure (t := tBl (mBin dNotN (mCall f__law_o_word_led (maCons (mVar 1) (maCons (mVar 2) (maCons (mVar 5) maNil)))) (mC .non))) (m := mVar 5) (g := gtName 5) (e := wipeE [some .pen, some (.int s), some (.lst (dis w)), some (.lst (mTurn :: l')), c, none] [5]) (enc := id) (out := id) (keep := keep) (p := p2) (mTurn :: (l' ++ [mStack 1, mStack (-1)])) [] (fun d hd => by
    obtain ⟨r, h1, h2⟩ := hkeep d hd
    refine ⟨[some .pen, some (.int s), some (.lst (dis w)), some (.lst (mTurn :: l')), c, some d], rfl, ?_, fun _ => ?_⟩
    · simp [h1, h2]
    · simp) (by simp; omega)
  rw [List.map_id, List.map_id, List.nil_append] at hlc
  have hnil : ((mTurn :: (l' ++ [mStack 1, mStack (-1)])).filter keep) ≠ [] := by
    intro h
    rw [List.filter_eq_nil_iff] at h
    cases w with
    | nil =>
      have hs : s < 6 := hne.resolve_left (fun z => z rfl)
      obtain ⟨r, h1, h2⟩ := hkeep (mStack 1) (by simp)
      have h3 := (led_stack (p := p2) (w := []) 1 rfl v1 v2 v3).1 ⟨hs, by decide⟩
      rw [h1] at h3
      cases h3
      exact h (mStack 1) (by simp) (by rw [h2]; rfl)
    | cons x u =>
      obtain ⟨r, h1, h2⟩ := hkeep mTurn (by simp)
      have h3 := led_turn (p := p2) (s := s) x u v3
      rw [h1] at h3
      cases h3
      exact h mTurn (by simp) (by rw [h2]; rfl)
  obtain ⟨d, p3, e3, m3, G3⟩ := pick_ok (k := k) (xs := (mTurn :: (l' ++ [mStack 1, mStack (-1)])).filter keep) G2 (List.length_pos_iff.mpr hnil) (Nat.lt_of_le_of_lt (List.length_filter_le _ _) (by simp; omega))
  obtain ⟨md, kd⟩ := List.mem_filter.mp m3
  refine ⟨d, p3, ?_, G3, ?_⟩
  · have h1 : l'.length + 1 + 2 ≤ 16777216 := by omega
    refine fd_ret (e := [some .pen, some (.int s), some (.lst (dis w)), none, none, none]) rfl ?_
    refine sq_set (.lst [mTurn, mUnstack]) (by simp) (sq_for (ds := rngD 0 w.length) ?_ hl1 (sq hp2 (sq_set (.lst ((mTurn :: (l' ++ [mStack 1, mStack (-1)])).filter keep)) ?_ (ret_ok ?_))))
    · exact rng_nat (by simp) (by omega)
    · simp [h1]
      simpa using hlc
    · simp [pick_eq, e3]
  · obtain ⟨r, h1, h2⟩ := hkeep d md
    obtain ⟨r', h1', h2'⟩ := led_any V (hall d md)
    have : r = r' := by
      have := (h1 p2).symm.trans (h1' p2)
      cases this
      rfl
    subst this
    rcases h2' with rfl | ⟨s', w', rfl, st⟩
    · rw [h2] at kd; cases kd
    · exact ⟨s', w', st, h1⟩
end K75
namespace K75
open PySem L2 Mz
section
variable {p : Pen} {s : Int} {w : List Int} {d : D}
theorem one_of {s' : Int} {w' : List Int} (h : f_any_moved [.int s, .tup (dis w), d] p = .ok (.tup [.int s', .tup (dis w')]) p) (hl : w'.length ≤ 12) : f_one_moved [.int s, .tup (dis w), d] p = .ok (.tup [.int s', .tup (dis w')]) p := by
  have h1 : ¬ (12 : Int) < w'.length := by omega
  exact fd_ret (e := [some (.int s), some (.tup (dis w)), some d, none]) rfl (sq_set (.tup [.int s', .tup (dis w')]) (by simp [h]) (ret_ok (by simp [h1])))
theorem one_non (h : f_any_moved [.int s, .tup (dis w), d] p = .ok .non p) : f_one_moved [.int s, .tup (dis w), d] p = .ok .non p :=
  fd_ret (e := [some (.int s), some (.tup (dis w)), some d, none]) rfl (sq_set .non (by simp [h]) (ret_ok (by simp)))
theorem any_turn (x : Int) (r : List Int) (hl : (x :: r).length ≤ 12) : f_any_moved [.int s, .tup (dis (x :: r)), mTurn] p = .ok (.tup [.int s, .tup (dis (r ++ [x]))]) p := by
  have e1 : cutD (dis (x :: r)) (some 1) none = dis r := cut_ge _ 1
  have e2 : cutD (dis (x :: r)) none (some 1) = [.int x] := cut_le _ 1
  have h1 : r.length ≤ 16777215 := by simp only [List.length_cons] at hl; omega
  simp only [List.map_cons] at e1 e2
  refine fd_ret (e := [some (.int s), some (.tup (dis (x :: r))), some mTurn, none]) rfl ?_
  refine sq_f (by simp) (sq_f (by simp [eq_st]) (sq_f (by simp [kinds3]) (sq_t (by simp [eq_mv0]) (ret_ok (by simp [e1, e2, h1])))))
theorem any_unstack (u : List Int) (x : Int) (hs : 2 ≤ s) (hx : ab x = s - 1) (hu : ∀ y ∈ u, ab y ≠ s - 1) (hl : (u ++ [x]).length ≤ 12) : f_any_moved [.int s, .tup (dis (u ++ [x])), mUnstack] p = .ok (.tup [.int (s - 1), .tup (dis u)]) p := by
  have e1 : atI (dis (u ++ [x])) (-1) = some (.int x) := by rw [atI_neg1]; simp
  have e2 : cutD (dis (u ++ [x])) none (some (-1)) = dis u := by rw [cut_neg1]; simp
  have h1 : ¬ s - 1 < 1 := by omega
  have h2 : ¬ ((u.length : Int) + 1 = 0) := by omega
  have e4 : lcGo (gtName 3) tYesM (mBin dEq (mUn dAbs (mVar 3)) (mVar 2)) (wipeE [some (.int s), some (.tup (dis (u ++ [x]))), some (.int (s - 1)), none] [3]) (dis u) [] p = .ok (.lst (u.map fun _ => D.bl false)) p := by
    have := lc_pure (t := tYesM) (m := mBin dEq (mUn dAbs (mVar 3)) (mVar 2)) (g := gtName 3) (e := wipeE [some (.int s), some (.tup (dis (u ++ [x]))), some (.int (s - 1)), none] [3]) (enc := D.int) (keep := fun _ => true) (out := fun _ => D.bl false) (p := p) u [] (fun y hy => ⟨[some (.int s), some (.tup (dis (u ++ [x]))), some (.int (s - 1)), some (.int y)], rfl, rfl, fun _ => ?_⟩) (by simp at hl; simp; omega)
    · rw [show u.filter (fun _ => true) = u from List.filter_eq_self.mpr (fun _ _ => rfl), List.nil_append] at this
      exact this
    · have h3 := hu y hy
      simp [h3]
  have e5 : dAny (.lst (u.map fun _ => D.bl false)) = some (.bl false) := by
    have : ∀ v : List Int, toBls (v.map fun _ => D.bl false) = some (v.map fun _ => false) := by
      intro v
      induction v with
      | nil => rfl
      | cons a v ih => simp [toBls, ih]
    simp [dAny, dLst, this]
  simp only [List.map_append, List.map_cons, List.map_nil] at e1 e2 e4
  have hun : f_unstacked [.int s, .tup (dis (u ++ [x]))] p = .ok (.tup [.int (s - 1), .tup (dis u)]) p := by
    refine fd_ret (e := [some (.int s), some (.tup (dis (u ++ [x]))), none, none]) rfl (sq_set (.int (s - 1)) (by simp) (sq_f ?_ (ret_ok (by simp [e2]))))
    simp [h1, h2, e1, hx, e2, e4, e5]
  refine fd_ret (e := [some (.int s), some (.tup (dis (u ++ [x]))), some mUnstack, none]) rfl ?_
  exact sq_f (by simp) (sq_f (by simp [eq_st]) (sq_f (by simp [kinds3]) (sq_f (by simp [eq_mv0]) (sq_f (by simp [eq_st]) (ret_ok (by simp [eq_mv0]; simpa using hun))))))

/-- of the two letters at a place -/
theorem any_pair {k : String} (hk : k = "take" ∨ k = "far" ∨ k = "three") {a : Nat} {w' : List Int} (h : f_changed_at [.tup (dis w), .tup [.str (k : Str), .int a]] p = .ok (.tup (dis w')) p) : f_any_moved [.int s, .tup (dis w), .tup [.str (k : Str), .int a]] p = .ok (.tup [.int s, .tup (dis w')]) p := by
  refine fd_ret (e := [some (.int s), some (.tup (dis w)), some (.tup [.str (k : Str), .int a]), none]) rfl ?_
  refine sq_f (by simp) (sq_f ?_ (sq_t ?_ (sq_set (.tup (dis w')) (by simp [h]) (ret_ok (by simp)))))
  · rcases hk with rfl | rfl | rfl <;> simp [eq_st]
  · rcases hk with rfl | rfl | rfl <;> simp [kinds3]
theorem any_take (u v : List Int) (x y : Int) (hz : x + y = 0) (hl : (u ++ x :: y :: v).length ≤ 12) : f_any_moved [.int s, .tup (dis (u ++ x :: y :: v)), mTake u.length] p = .ok (.tup [.int s, .tup (dis (u ++ v))]) p := by
  obtain rfl : x = -y := by omega
  refine any_pair (.inl rfl) ?_
  have e2 := cut_le (dis (u ++ (-y) :: y :: v)) u.length
  have e3 := cut_ge (dis (u ++ (-y) :: y :: v)) (u.length + 2)
  have i1 := atI_nat (dis (u ++ (-y) :: y :: v)) u.length
  have i2 := atI_nat (dis (u ++ (-y) :: y :: v)) (u.length + 1)
  have h3 : u.length + v.length ≤ 16777216 := by simp at hl; omega
  have h4 : (u.length : Int) ≤ u.length + (v.length + 1 + 1) - 2 := by omega
  simp [List.take_append, List.drop_append] at e2 e3 i1 i2
  refine fd_ret (e := [some (.tup (dis (u ++ (-y) :: y :: v))), some (mTake u.length), none, none, none]) rfl ?_
  refine sq_f (by simp [h4]) (sq_set (.int u.length) (by simp) (sq (e' := [some (.tup (dis (u ++ (-y) :: y :: v))), some (mTake u.length), some (.int u.length), some (.int (-y)), some (.int y)]) (p' := p) (by simp [i1, i2, setE]) (sq_t (by simp [eq_st]) (ret_ok (by simp [e2, e3, h3])))))
theorem any_far (u v : List Int) (x y : Int) (hz : 1 < ab (ab x - ab y)) (hl : (u ++ x :: y :: v).length ≤ 12) : f_any_moved [.int s, .tup (dis (u ++ x :: y :: v)), mFar u.length] p = .ok (.tup [.int s, .tup (dis (u ++ y :: x :: v))]) p := by
  refine any_pair (.inr (.inl rfl)) ?_
  have e2 := cut_le (dis (u ++ x :: y :: v)) u.length
  have e3 := cut_ge (dis (u ++ x :: y :: v)) (u.length + 2)
  have i1 := atI_nat (dis (u ++ x :: y :: v)) u.length
  have i2 := atI_nat (dis (u ++ x :: y :: v)) (u.length + 1)
  have h3 : u.length + 2 ≤ 16777216 := by simp at hl; omega
  have h3' : u.length + 2 + v.length ≤ 16777216 := by simp at hl; omega
  have h4 : (u.length : Int) ≤ u.length + (v.length + 1 + 1) - 2 := by omega
  simp [List.take_append, List.drop_append] at e2 e3 i1 i2
  refine fd_ret (e := [some (.tup (dis (u ++ x :: y :: v))), some (mFar u.length), none, none, none]) rfl ?_
  refine sq_f (by simp [h4]) (sq_set (.int u.length) (by simp) (sq (e' := [some (.tup (dis (u ++ x :: y :: v))), some (mFar u.length), some (.int u.length), some (.int x), some (.int y)]) (p' := p) (by simp [i1, i2, setE]) (sq_f (by simp [eq_st]) (sq_t (by simp [eq_st]) (ret_ok (by simp [e2, e3, hz, h3, h3']))))))

theorem any_three (u v : List Int) (x y : Int) (hm : 0 ≤ x * y) (hd : ab (x - y) = 1) (hx : 0 < ab x ∧ ab x < 100) (hy : 0 < ab y ∧ ab y < 100) (hl : (u ++ x :: y :: x :: v).length ≤ 12) : f_any_moved [.int s, .tup (dis (u ++ x :: y :: x :: v)), mThree u.length] p = .ok (.tup [.int s, .tup (dis (u ++ y :: x :: y :: v))]) p := by
  refine any_pair (.inr (.inr rfl)) ?_
  have e2 := cut_le (dis (u ++ x :: y :: x :: v)) u.length
  have e3 := cut_ge (dis (u ++ x :: y :: x :: v)) (u.length + 3)
  have e1 : cutD (dis (u ++ x :: y :: x :: v)) (some ((u.length : Int) + 2)) (some ((u.length : Int) + 3)) = [.int x] := by
    rw [show ((u.length : Int) + 2) = ((u.length + 2 : Nat) : Int) from rfl, show ((u.length : Int) + 3) = ((u.length + 3 : Nat) : Int) from rfl, cut_mid]
    simp [List.take_append, List.drop_append]
  have i1 := atI_nat (dis (u ++ x :: y :: x :: v)) u.length
  have i2 := atI_nat (dis (u ++ x :: y :: x :: v)) (u.length + 1)
  have h3 : u.length + 3 ≤ 16777216 := by simp at hl; omega
  have h3' : u.length + 3 + v.length ≤ 16777216 := by simp at hl; omega
  have h4 : (u.length : Int) ≤ u.length + (v.length + 1 + 1 + 1) - 2 := by omega
  have h5 : dNe (.tup [.int x]) (.tup [.int x]) = some (.bl false) := by
    show dNe (.tup (dis [x])) (.tup (dis [x])) = _
    rw [dNe_of (cmp_tints [x]) (cmp_tints [x]), same_self (cmp_tints [x]).1]
    rfl
  have hx2 : -(2 ^ 64) < x ∧ x < 2 ^ 64 := by
    have := hx.2
    simp only [ab] at this
    split at this <;> omega
  have e4 : dMul (.int x) (.int y) = some (.int (x * y)) := by rw [v_dMul, if_pos (.inl hx2)]
  have h6 : ¬ x * y < 0 := by omega
  have h7 : ab (ab x - ab y) = 1 := by
    have : (0 < x ∧ 0 < y) ∨ (x < 0 ∧ y < 0) := by
      by_cases c : x < 0
      · by_cases c2 : y < 0
        · exact .inr ⟨c, c2⟩
        · have c3 : 0 < y := by
            have := hy.1
            simp only [ab] at this
            split at this <;> omega
          exact absurd (Int.mul_neg_of_neg_of_pos c c3) h6
      · have c0 : 0 < x := by
          have := hx.1
          simp only [ab] at this
          split at this <;> omega
        by_cases c2 : y < 0
        · exact absurd (Int.mul_neg_of_pos_of_neg c0 c2) h6
        · refine .inl ⟨c0, ?_⟩
          have := hy.1
          simp only [ab] at this
          split at this <;> omega
    simp only [ab] at hd ⊢
    rcases this with ⟨a, b⟩ | ⟨a, b⟩
    · rw [if_neg (by omega : ¬ x < 0), if_neg (by omega : ¬ y < 0)]
      exact hd
    · rw [if_pos a, if_pos b]
      split at hd <;> split <;> omega
  simp [List.take_append, List.drop_append] at e1 e2 e3 i1 i2
  refine fd_ret (e := [some (.tup (dis (u ++ x :: y :: x :: v))), some (mThree u.length), none, none, none]) rfl ?_
  refine sq_f (by simp [h4]) (sq_set (.int u.length) (by simp) (sq (e' := [some (.tup (dis (u ++ x :: y :: x :: v))), some (mThree u.length), some (.int u.length), some (.int x), some (.int y)]) (p' := p) (by simp [i1, i2, setE]) (sq_f (by simp [eq_st]) (sq_f (by simp [eq_st]) (sq_f ?_ (ret_ok (by simp [e2, e3, h3, h3'])))))))
  simp [e1, h5, e4, h6, h7]
theorem any_put (u v : List Int) (x : Int) (h1 : 1 ≤ ab x) (h2 : ab x < s) (hl : (u ++ v).length ≤ 12) : f_any_moved [.int s, .tup (dis (u ++ v)), mPut u.length x] p = .ok (.tup [.int s, .tup (dis (u ++ x :: -x :: v))]) p := by
  have e2 := cut_le (dis (u ++ v)) u.length
  have e3 := cut_ge (dis (u ++ v)) u.length
  have h3 : u.length + 2 ≤ 16777216 := by simp at hl; omega
  have h3' : u.length + 2 + v.length ≤ 16777216 := by simp at hl; omega
  have h4 : (u.length : Int) ≤ u.length + v.length := by omega
  have h5 : 0 < ab x := by omega
  simp [List.take_append, List.drop_append] at e2 e3
  have hp : f_put_in [.int s, .tup (dis (u ++ v)), mPut u.length x] p = .ok (.tup [.int s, .tup (dis (u ++ x :: -x :: v))]) p := by
    refine fd_ret (e := [some (.int s), some (.tup (dis (u ++ v))), some (mPut u.length x)]) rfl (sq_f ?_ (ret_ok ?_))
    · simp [h4, h5, h2]
    · simp [e2, e3, h3, h3']
  refine fd_ret (e := [some (.int s), some (.tup (dis (u ++ v))), some (mPut u.length x), none]) rfl ?_
  exact sq_f (by simp) (sq_t (by simp [eq_st]) (ret_ok (by simpa using hp)))
theorem any_stack (x : Int) (h1 : ab x = 1) (h2 : 1 ≤ s) (h3 : s < 6) (hl : w.length ≤ 12) : f_any_moved [.int s, .tup (dis w), mStack x] p = .ok (.tup [.int (s + 1), .tup (dis (w ++ [x * s]))]) p := by
  have h4 : w.length ≤ 16777215 := by omega
  have e4 : dMul (.int x) (.int s) = some (.int (x * s)) := by rw [v_dMul, if_pos (.inr (by omega))]
  have h5 : ¬ 6 ≤ s := by omega
  have hp : f_stacked [.int s, .tup (dis w), mStack x] p = .ok (.tup [.int (s + 1), .tup (dis (w ++ [x * s]))]) p := by
    refine fd_ret (e := [some (.int s), some (.tup (dis w)), some (mStack x)]) rfl (sq_f ?_ (ret_ok ?_))
    · simp [h1, h5]
    · simp [e4, h4]
  refine fd_ret (e := [some (.int s), some (.tup (dis w)), some (mStack x), none]) rfl ?_
  exact sq_f (by simp) (sq_f (by simp [eq_st]) (sq_f (by simp [kinds3]) (sq_f (by simp [eq_mv1]) (sq_t (by simp [eq_st]) (ret_ok (by simpa using hp))))))

theorem val_step {s' : Int} {w' : List Int} (V : Val s w) (h : Step s w d s' w') : Val s' w' := by
  obtain ⟨v1, v2, v3, v4⟩ := V
  cases h with
  | turn x r => exact ⟨v1, v2, by simpa using v3, fun y hy => v4 y (by simp at hy ⊢; rcases hy with h | h <;> simp [h])⟩
  | unstack w x h1 h2 h3 => exact ⟨by omega, by omega, by simp at v3; omega, fun y hy => by
      have := v4 y (by simp [hy])
      have := h3 y hy
      omega⟩
  | take u v x y h => exact ⟨v1, v2, by simp at v3 ⊢; omega, fun z hz => v4 z (by simp at hz ⊢; rcases hz with h | h <;> simp [h])⟩
  | far u v x y h => exact ⟨v1, v2, by simp at v3 ⊢; omega, fun z hz => v4 z (by simp at hz ⊢; rcases hz with h | h | h | h <;> simp [h])⟩
  | three u v x y h h' => exact ⟨v1, v2, by simp at v3 ⊢; omega, fun z hz => v4 z (by simp at hz ⊢; rcases hz with h | h | h | h | h <;> simp [h])⟩
  | put u v x h1 h2 h3 => exact ⟨v1, v2, by simp at h3 ⊢; omega, fun z hz => by
      simp only [List.mem_append, List.mem_cons] at hz
      rcases hz with hz | rfl | rfl | hz
      · exact v4 z (by simp [hz])
      · exact ⟨by omega, h2⟩
      · have : ab (-x) = ab x := by
          simp only [ab]
          split <;> split <;> omega
        rw [this]
        exact ⟨by omega, h2⟩
      · exact v4 z (by simp [hz])⟩
  | stack _ x h1 h2 h3 => exact ⟨by omega, by omega, by simp; omega, fun z hz => by
      rcases List.mem_append.mp hz with hz | hz
      · have := v4 z hz
        omega
      · rw [List.mem_singleton.mp hz]
        have hx : x = 1 ∨ x = -1 := by
          simp only [ab] at h2
          split at h2 <;> omega
        have e : ab (x * s) = s := by
          rcases hx with rfl | rfl
          · simp only [ab]; split <;> omega
          · simp only [ab]; split <;> omega
        rw [e]
        omega⟩
theorem step_one {s' : Int} {w' : List Int} (V : Val s w) (h : Step s w d s' w') : f_one_moved [.int s, .tup (dis w), d] p = .ok (.tup [.int s', .tup (dis w')]) p := by
  have V' := val_step V h
  obtain ⟨v1, v2, v3, v4⟩ := V
  refine one_of ?_ V'.2.2.1
  cases h with
  | turn x r => exact any_turn x r v3
  | unstack w x h1 h2 h3 => exact any_unstack w' x h1 h2 h3 v3
  | take u v x y h => exact any_take u v x y h v3
  | far u v x y h => exact any_far u v x y h v3
  | three u v x y h h' => exact any_three u v x y h h' (by have := v4 x (by simp); omega) (by have := v4 y (by simp); omega) v3
  | put u v x h1 h2 h3 => exact any_put u v x h1 h2 v3
  | stack _ x h1 h2 h3 => exact any_stack x h2 v1 h1 (by omega)
/-- the odd moves -/
def odds : List D := [.non, .int 3, .tup [], .tup [.str "put"], .tup [.str "put", .int 0], .tup [.str "put", .int 0, .int 0], .tup [.str "put", .int (-1), .int 1], .tup [.str "put", .int 0, .int 9], .tup [.str "take", .int 99], .tup [.str "take", .bl true], .tup [.str "far", .int (-1)], .tup [.str "three", .non],
  .tup [.str "stack", .int 0], .tup [.str "stack", .int 2], .tup [.str "stack"], .tup [.str "turn", .int 0], .tup [.str "unstack", .int 0], .tup [.str "back"], .tup [.str "put", .int 99, .int 1], .lst [.str "turn"]]

theorem odd_any (V : Val s w) (h : d ∈ odds) : f_any_moved [.int s, .tup (dis w), d] p = .ok .non p := by
  obtain ⟨v1, v2, v3, v4⟩ := V
  have l1 : ¬ (99 : Int) ≤ w.length := by omega
  have l2 : ¬ (99 : Int) ≤ w.length - 2 := by omega
  have l3 : ¬ (9 : Int) < s := by omega
  simp only [odds, List.mem_cons, List.not_mem_nil, or_false] at h
  rcases h with rfl | rfl | rfl | rfl | rfl | rfl | rfl | rfl | rfl | rfl | rfl | rfl | rfl | rfl | rfl | rfl | rfl | rfl | rfl | rfl <;> refine fd_ret (e := [some (.int s), some (.tup (dis w)), some _, none]) rfl ?_
  · exact sq_t (by simp) (ret_ok (by simp))
  · exact sq_t (by simp) (ret_ok (by simp))
  · exact sq_t (by simp) (ret_ok (by simp))
  · exact sq_f (by simp) (sq_t (by simp [eq_st]) (ret_ok (by
      have : f_put_in [.int s, .tup (dis w), .tup [.str "put"]] p = .ok .non p := fd_ret (e := [some (.int s), some (.tup (dis w)), some (.tup [.str "put"])]) rfl (sq_t (by simp) (ret_ok (by simp)))
      simpa using this)))
  · exact sq_f (by simp) (sq_t (by simp [eq_st]) (ret_ok (by
      have : f_put_in [.int s, .tup (dis w), .tup [.str "put", .int 0]] p = .ok .non p := fd_ret (e := [some (.int s), some (.tup (dis w)), some (.tup [.str "put", .int 0])]) rfl (sq_t (by simp) (ret_ok (by simp)))
      simpa using this)))
  · exact sq_f (by simp) (sq_t (by simp [eq_st]) (ret_ok (by
      have : f_put_in [.int s, .tup (dis w), .tup [.str "put", .int 0, .int 0]] p = .ok .non p := fd_ret (e := [some (.int s), some (.tup (dis w)), some (.tup [.str "put", .int 0, .int 0])]) rfl (sq_t (by simp) (ret_ok (by simp)))
      simpa using this)))
  · exact sq_f (by simp) (sq_t (by simp [eq_st]) (ret_ok (by
      have : f_put_in [.int s, .tup (dis w), .tup [.str "put", .int (-1), .int 1]] p = .ok .non p := fd_ret (e := [some (.int s), some (.tup (dis w)), some (.tup [.str "put", .int (-1), .int 1])]) rfl (sq_t (by simp) (ret_ok (by simp)))
      simpa using this)))
  · exact sq_f (by simp) (sq_t (by simp [eq_st]) (ret_ok (by
      have : f_put_in [.int s, .tup (dis w), .tup [.str "put", .int 0, .int 9]] p = .ok .non p := fd_ret (e := [some (.int s), some (.tup (dis w)), some (.tup [.str "put", .int 0, .int 9])]) rfl (sq_t (by simp [l3]) (ret_ok (by simp)))
      simpa using this)))
  · exact sq_f (by simp) (sq_f (by simp [eq_st]) (sq_t (by simp [kinds3]) (sq_set .non (by
      have : f_changed_at [.tup (dis w), .tup [.str "take", .int 99]] p = .ok .non p := fd_ret (e := [some (.tup (dis w)), some (.tup [.str "take", .int 99]), none, none, none]) rfl (sq_t (by simp [l2]) (ret_ok (by simp)))
      simpa using this) (ret_ok (by simp)))))
  · exact sq_f (by simp) (sq_f (by simp [eq_st]) (sq_t (by simp [kinds3]) (sq_set .non (by
      have : f_changed_at [.tup (dis w), .tup [.str "take", .bl true]] p = .ok .non p := fd_ret (e := [some (.tup (dis w)), some (.tup [.str "take", .bl true]), none, none, none]) rfl (sq_t (by simp) (ret_ok (by simp)))
      simpa using this) (ret_ok (by simp)))))
  · exact sq_f (by simp) (sq_f (by simp [eq_st]) (sq_t (by simp [kinds3]) (sq_set .non (by
      have : f_changed_at [.tup (dis w), .tup [.str "far", .int (-1)]] p = .ok .non p := fd_ret (e := [some (.tup (dis w)), some (.tup [.str "far", .int (-1)]), none, none, none]) rfl (sq_t (by simp) (ret_ok (by simp)))
      simpa using this) (ret_ok (by simp)))))
  · exact sq_f (by simp) (sq_f (by simp [eq_st]) (sq_t (by simp [kinds3]) (sq_set .non (by
      have : f_changed_at [.tup (dis w), .tup [.str "three", .non]] p = .ok .non p := fd_ret (e := [some (.tup (dis w)), some (.tup [.str "three", .non]), none, none, none]) rfl (sq_t (by simp) (ret_ok (by simp)))
      simpa using this) (ret_ok (by simp)))))
  · exact sq_f (by simp) (sq_f (by simp [eq_st]) (sq_f (by simp [kinds3]) (sq_f (by simp [eq_mv1]) (sq_t (by simp [eq_st]) (ret_ok (by
      have : f_stacked [.int s, .tup (dis w), .tup [.str "stack", .int 0]] p = .ok .non p := fd_ret (e := [some (.int s), some (.tup (dis w)), some (.tup [.str "stack", .int 0])]) rfl (sq_t (by simp) (ret_ok (by simp)))
      simpa using this))))))
  · exact sq_f (by simp) (sq_f (by simp [eq_st]) (sq_f (by simp [kinds3]) (sq_f (by simp [eq_mv1]) (sq_t (by simp [eq_st]) (ret_ok (by
      have : f_stacked [.int s, .tup (dis w), .tup [.str "stack", .int 2]] p = .ok .non p := fd_ret (e := [some (.int s), some (.tup (dis w)), some (.tup [.str "stack", .int 2])]) rfl (sq_t (by simp) (ret_ok (by simp)))
      simpa using this))))))
  · exact sq_f (by simp) (sq_f (by simp [eq_st]) (sq_f (by simp [kinds3]) (sq_f (by simp [eq_mv0]) (sq_t (by simp [eq_st]) (ret_ok (by
      have : f_stacked [.int s, .tup (dis w), .tup [.str "stack"]] p = .ok .non p := fd_ret (e := [some (.int s), some (.tup (dis w)), some (.tup [.str "stack"])]) rfl (sq_t (by simp) (ret_ok (by simp)))
      simpa using this))))))
  · exact sq_f (by simp) (sq_f (by simp [eq_st]) (sq_f (by simp [kinds3]) (sq_f (by simp [eq_mv1]) (sq_f (by simp [eq_st]) (ret_ok (by simp [eq_mv1]))))))
  · exact sq_f (by simp) (sq_f (by simp [eq_st]) (sq_f (by simp [kinds3]) (sq_f (by simp [eq_mv1]) (sq_f (by simp [eq_st]) (ret_ok (by simp [eq_mv1]))))))
  · exact sq_f (by simp) (sq_f (by simp [eq_st]) (sq_f (by simp [kinds3]) (sq_f (by simp [eq_mv0]) (sq_f (by simp [eq_st]) (ret_ok (by simp [eq_mv0]))))))
  · exact sq_f (by simp) (sq_t (by simp [eq_st]) (ret_ok (by
      have : f_put_in [.int s, .tup (dis w), .tup [.str "put", .int 99, .int 1]] p = .ok .non p := fd_ret (e := [some (.int s), some (.tup (dis w)), some (.tup [.str "put", .int 99, .int 1])]) rfl (sq_t (by simp [l1]) (ret_ok (by simp)))
      simpa using this)))
  · exact sq_t (by simp) (ret_ok (by simp))
theorem odd_one (V : Val s w) (h : d ∈ odds) : f_one_moved [.int s, .tup (dis w), d] p = .ok .non p := one_non (odd_any V h)
end
end K75
namespace K75
open PySem L2 Mz
inductive Chain (s : Int) (w : List Int) : List D → Int → List Int → Prop
  | nil : Chain s w [] s w
  | snoc {ms : List D} {s1 s2 : Int} {w1 w2 : List Int} {m : D} : Chain s w ms s1 w1 → Step s1 w1 m s2 w2 → Chain s w (ms ++ [m]) s2 w2
section
variable {p : Pen} {s : Int} {w : List Int} {ms : List D}
theorem Chain.val {s' : Int} {w' : List Int} (V : Val s w) (C : Chain s w ms s' w') : Val s' w' := by
  induction C with
  | nil => exact V
  | snoc _ h ih => exact val_step ih h
theorem Chain.pre {s' : Int} {w' : List Int} (C : Chain s w ms s' w') : ∀ n, n ≤ ms.length → ∃ s1 w1, Chain s w (ms.take n) s1 w1 := by
  induction C with
  | nil => exact fun n _ => ⟨s, w, by simp; exact .nil⟩
  | @snoc ms s1 s2 w1 w2 m C h ih =>
    intro n hn
    by_cases hz : n ≤ ms.length
    · obtain ⟨a, b, c⟩ := ih n hz
      exact ⟨a, b, by rw [List.take_append_of_le_length hz]; exact c⟩
    · exact ⟨s2, w2, by rw [List.take_of_length_le (by simp at hn ⊢; omega)]; exact .snoc C h⟩
/-- a word as a row -/
structure RowOf (W : D) (w : List Int) : Prop where
  sq : dSeq W = some (dis w)
  len : dLen W = some (.int w.length)
  row : ∀ p, f_is_row [W] p = .ok (.bl true) p
  tup : dTuple W = some (.tup (dis w))
theorem row_l (w : List Int) : RowOf (.lst (dis w)) w := ⟨rfl, by simp, fun p => by simp, rfl⟩
theorem row_t (w : List Int) : RowOf (.tup (dis w)) w := ⟨rfl, by simp, fun p => by simp, rfl⟩
theorem ns_ok (h1 : 1 ≤ s) (h2 : s ≤ 6) : f_need_strands [.int s] p = .ok .non p :=
  fd_next (e := [some (.int s)]) rfl (if_f (by simp [h1, h2]) rfl)
theorem nl_ok {W : D} (V : Val s w) (R : RowOf W w) : f_need_letters [.int s, W] p = .ok .non p := by
  obtain ⟨v1, v2, v3, v4⟩ := V
  have h1 : ¬ (12 : Int) < w.length := by omega
  have lp := for_inv (g := gtTup (gtCons (gtName 2) (gtCons (gtName 3) gtNil))) (body := sIf (tOrM (tNotM (tTru (mCall f_is_integer (maCons (mVar 3) maNil)))) (tNotM (tBl (mChain dLt dLt (mC (.int 0)) (mUn dAbs (mVar 3)) (mVar 0))))) (sRaise 2 ["index"] (maCons (mVar 2) maNil)) sNext)
    (ds := enumD (dis w)) (e := [some (.int s), some W, none, none]) (p := p) (fun i e p' => p' = p ∧ ∃ a b, e = [some (.int s), some W, a, b]) ⟨rfl, _, _, rfl⟩ (by
    rintro i d e p' hd ⟨rfl, a, b, rfl⟩
    obtain ⟨x, hx, rfl⟩ : ∃ x ∈ w, d = .tup [.int (i : Nat), .int x] := by
      unfold enumD at hd
      rw [List.getElem?_mapIdx, List.getElem?_map] at hd
      cases hw : w[i]? with
      | none => rw [hw] at hd; cases hd
      | some x => rw [hw] at hd; exact ⟨x, List.mem_of_getElem? hw, (Option.some.inj hd).symm⟩
    have h2 := v4 x hx
    exact ⟨[some (.int s), some W, some (.int i), some (.int x)], _, _, rfl, .inl (if_f (by simp [h2.1, h2.2]) rfl), rfl, _, _, rfl⟩)
  obtain ⟨e', p', hl, rfl, a, b, rfl⟩ := lp
  exact fd_next (e := [some (.int s), some W, none, none]) rfl (sq_f (by simp [R.row, R.len, h1]) (by rw [x_sFor]; simp [R.sq]; exact hl))
theorem nw_ok {W : D} (V : Val s w) (R : RowOf W w) : f_need_word [.int s, W] p = .ok .non p :=
  fd_next (e := [some (.int s), some W]) rfl (sq_expr .non (by simp [ns_ok V.1 V.2.1]) (by simp [nl_ok V R]; rfl))

/-- a move within the loop of word_led -/
def wlB : MS := (sSeq (sSet 3 (mCall f_one_moved (maCons (mBin dIx (mVar 3) (mC (.int 0))) (maCons (mBin dIx (mVar 3) (mC (.int 1))) (maCons (mVar 5) maNil)))))
    (sIf (tBl (mBin dIsN (mVar 3) (mC .non))) (sRaise 1 ["index"] (maCons (mVar 4) maNil)) sNext))
def wlG : GT := gtTup (gtCons (gtName 4) (gtCons (gtName 5) gtNil))
theorem wlB_nb (e : Mz.Env) (p : Pen) (e2 : Mz.Env) (p2 : Pen) : wlB e p ≠ .brk e2 p2 := by
  intro h
  unfold wlB at h
  rw [x_sSeq, x_sSet] at h
  cases h1 : (mCall f_one_moved (maCons (mBin dIx (mVar 3) (mC (.int 0))) (maCons (mBin dIx (mVar 3) (mC (.int 1))) (maCons (mVar 5) maNil)))) e p with
  | stuck => rw [h1] at h; cases h
  | err x q => rw [h1] at h; cases h
  | ok d q =>
    rw [h1] at h
    simp only [R.st_ok, SF.bind_next] at h
    rw [x_sIf] at h
    cases h2 : tBl (mBin dIsN (mVar 3) (mC .non)) (e.set 3 (some d)) q with
    | stuck => rw [h2] at h; cases h
    | err x q => rw [h2] at h; cases h
    | ok b q2 =>
      rw [h2] at h
      cases b with
      | false => cases h
      | true =>
        simp only [R.st_ok, if_true] at h
        rw [x_sRaise] at h
        cases h3 : maCons (mVar 4) maNil (e.set 3 (some d)) q2 with
        | stuck => rw [h3] at h; cases h
        | err x q => rw [h3] at h; cases h
        | ok ds q3 =>
          rw [h3] at h
          simp only [R.st_ok] at h
          split at h <;> cases h
theorem wl_loop {s' : Int} {w' : List Int} {d0 d1 d2 : D} (V : Val s w) (C : Chain s w ms s' w') : ∃ c4 c5, mFor wlG wlB (enumD ms) [some d0, some d1, some d2, some (.tup [.int s, .tup (dis w)]), none, none] p = .next [some d0, some d1, some d2, some (.tup [.int s', .tup (dis w')]), c4, c5] p := by
  induction C with
  | nil => exact ⟨none, none, rfl⟩
  | @snoc ms s1 s2 w1 w2 m C h ih =>
    obtain ⟨c4, c5, hl⟩ := ih
    have V1 := C.val V
    refine ⟨some (.int ms.length), some m, ?_⟩
    rw [enumD_snoc, for_app hl (fun d _ => wlB_nb)]
    have hb : wlB [some d0, some d1, some d2, some (.tup [.int s1, .tup (dis w1)]), some (.int ms.length), some m] p = .next [some d0, some d1, some d2, some (.tup [.int s2, .tup (dis w2)]), some (.int ms.length), some m] p :=
      sq_set (.tup [.int s2, .tup (dis w2)]) (by simp [step_one V1 h]) (if_f (by simp) rfl)
    show (match wlB [some d0, some d1, some d2, some (.tup [.int s1, .tup (dis w1)]), some (.int ms.length), some m] p with
      | .next e2 p2 => mFor wlG wlB [] e2 p2
      | .cnt e2 p2 => mFor wlG wlB [] e2 p2
      | .brk e2 p2 => .next e2 p2
      | r => r) = _
    rw [hb]
    rfl
theorem wl_ok {s' : Int} {w' : List Int} {W Ms : D} (V : Val s w) (R : RowOf W w) (C : Chain s w ms s' w') (hm : dSeq Ms = some ms) (hr : ∀ p, f_is_row [Ms] p = .ok (.bl true) p) : f_word_led [.int s, W, Ms] p = .ok (.tup [.int s', .tup (dis w')]) p := by
  obtain ⟨c4, c5, hl⟩ := wl_loop (p := p) (d0 := .int s) (d1 := W) (d2 := Ms) V C
  refine fd_ret (e := [some (.int s), some W, some Ms, none, none, none]) rfl ?_
  exact sq_expr .non (by simp [nw_ok V R]) (sq_f (by simp [hr]) (sq_set (.tup [.int s, .tup (dis w)]) (by simp [R.tup]) (sq_for (ds := enumD ms) (by simp [hm]) hl (ret_ok (by simp)))))
/-- an odd move among them -/
theorem wl_bad {s' : Int} {w' : List Int} {W : D} {ms2 : List D} {d : D} (V : Val s w) (R : RowOf W w) (C : Chain s w ms s' w') (hd : f_one_moved [.int s', .tup (dis w'), d] p = .ok .non p) : f_word_led [.int s, W, .lst (ms ++ [d] ++ ms2)] p = .err ⟨1, [("index", .int ms.length)]⟩ p := by
  obtain ⟨c4, c5, hl⟩ := wl_loop (p := p) (d0 := .int s) (d1 := W) (d2 := .lst (ms ++ [d] ++ ms2)) V C
  refine fd_err (e := [some (.int s), some W, some (.lst (ms ++ [d] ++ ms2)), none, none, none]) (e' := [some (.int s), some W, some (.lst (ms ++ [d] ++ ms2)), some .non, some (.int ms.length), some d]) rfl ?_
  refine sq_expr .non (by simp [nw_ok V R]) (sq_f (by simp) (sq_set (.tup [.int s, .tup (dis w)]) (by simp [R.tup]) (sq_err (ex := ⟨1, [("index", .int ms.length)]⟩) (e' := [some (.int s), some W, some (.lst (ms ++ [d] ++ ms2)), some .non, some (.int ms.length), some d]) (p' := p) ?_)))
  rw [x_sFor]
  obtain ⟨tl, he⟩ : ∃ tl, enumD (ms ++ [d] ++ ms2) = enumD ms ++ (.tup [.int ms.length, d] :: tl) := by
    refine ⟨(enumD (ms ++ [d] ++ ms2)).drop (ms.length + 1), ?_⟩
    have h1 : (enumD (ms ++ [d] ++ ms2)).take (ms.length + 1) = enumD ms ++ [.tup [.int ms.length, d]] := by
      rw [← enumD_snoc]
      unfold enumD
      rw [List.mapIdx_append, List.take_append_of_le_length (by simp), List.take_of_length_le (by simp)]
    have h2 := List.take_append_drop (ms.length + 1) (enumD (ms ++ [d] ++ ms2))
    rw [h1, List.append_assoc] at h2
    exact h2.symm
  show (Mz.R.ok (enumD (ms ++ [d] ++ ms2)) p).st _ (fun ds p => mFor wlG wlB ds _ p) = _
  rw [Mz.R.st_ok, he]
  refine (for_app hl (fun d _ => wlB_nb)).trans ?_
  have hb : wlB [some (.int s), some W, some (.lst (ms ++ [d] ++ ms2)), some (.tup [.int s', .tup (dis w')]), some (.int ms.length), some d] p = .err ⟨1, [("index", .int ms.length)]⟩ [some (.int s), some W, some (.lst (ms ++ [d] ++ ms2)), some .non, some (.int ms.length), some d] p :=
    sq_set .non (by simp [hd]) (if_t (p' := p) (by simp) (by simp))
  show (match wlB [some (.int s), some W, some (.lst (ms ++ [d] ++ ms2)), some (.tup [.int s', .tup (dis w')]), some (.int ms.length), some d] p with
    | .next e2 p2 => mFor wlG wlB _ e2 p2
    | .cnt e2 p2 => mFor wlG wlB _ e2 p2
    | .brk e2 p2 => .next e2 p2
    | r => r) = _
  rw [hb]
theorem wl_odd {s' : Int} {w' : List Int} {W : D} {ms2 : List D} {d : D} (V : Val s w) (R : RowOf W w) (C : Chain s w ms s' w') (hd : d ∈ odds) : f_word_led [.int s, W, .lst (ms ++ [d] ++ ms2)] p = .err ⟨1, [("index", .int ms.length)]⟩ p :=
  wl_bad V R C (odd_one (C.val V) hd)
end
end K75
namespace K75
open PySem L2 Mz
abbrev din (h : List Nat) : List D := h.map fun n : Nat => D.int (n : Int)
open Wm
theorem fit_of {n : Nat} {w : List Int} (h : ∀ x ∈ w, 0 < ab x ∧ ab x < n) : Fit n w := fun x hx => by
  have h1 := h x hx
  simp only [ab] at h1
  split at h1 <;> omega
section
variable {p : Pen}
def orB : MS := (sSeq (sSet 4 (mUn dAbs (mVar 3)))
    (sSet2 2 (maCons (mBin dIx (mVar 2) (mVar 4)) (maCons (mBin dIx (mVar 2) (mBin dSub (mVar 4) (mC (.int 1)))) maNil)) (mBin dSub (mVar 4) (mC (.int 1))) (mVar 4)))
theorem ixN_ok {n k : Nat} (h : k < n) : ixN n (k : Int) = some k := by
  unfold ixN
  rw [if_pos (Int.natCast_nonneg k), if_pos (by omega)]
  rfl
theorem or_body {d0 d1 : D} {c3 c4 : Option D} {h : List Nat} {x : Int} (hx : 0 < ab x ∧ ab x < h.length) : orB [some d0, some d1, some (.lst (din h)), some (.int x), c4, none] p = .next [some d0, some d1, some (.lst (din (swp x.natAbs h))), some (.int x), some (.int x.natAbs), none] p := by
  have ha : ab x = (x.natAbs : Int) := by simp only [ab]; split <;> omega
  obtain ⟨k, hk⟩ : ∃ k, x.natAbs = k + 1 := ⟨x.natAbs - 1, by omega⟩
  have h1 : k + 1 < h.length := by omega
  have e0 : (x.natAbs : Int) - 1 = (k : Int) := by omega
  have i1 : atI (din h) (x.natAbs : Int) = some (.int (h[k + 1] : Nat)) := by
    rw [hk, Mz.atI_nat, List.getElem?_map, List.getElem?_eq_getElem h1]
    rfl
  have i2 : atI (din h) (k : Int) = some (.int (h[k] : Nat)) := by
    rw [Mz.atI_nat, List.getElem?_map, List.getElem?_eq_getElem (by omega)]
    rfl
  have e1 : ixN (din h).length (k : Int) = some k := ixN_ok (by simp; omega)
  have e2 : ixN h.length (x.natAbs : Int) = some x.natAbs := ixN_ok (by omega)
  have e3 : din (swp x.natAbs h) = ((din h).set k (.int (h[k + 1] : Nat))).set x.natAbs (.int (h[k] : Nat)) := by
    unfold swp
    rw [show x.natAbs - 1 = k by omega, hk]
    simp [List.getElem?_eq_getElem h1, List.getElem?_eq_getElem (show k < h.length by omega)]
  rw [e3]
  refine sq_set (.int x.natAbs) (by rw [← ha]; simp) ?_
  have i1' : atI (din h) (x.natAbs : Int) = some (.int (h[k + 1] : Nat)) := i1
  refine (x_sSet2 _ _ _ _).trans ?_
  have m1 : maCons (mBin dIx (mVar 2) (mVar 4)) (maCons (mBin dIx (mVar 2) (mBin dSub (mVar 4) (mC (.int 1)))) maNil) [some d0, some d1, some (.lst (din h)), some (.int x), some (.int x.natAbs), none] p = .ok [.int (h[k + 1] : Nat), .int (h[k] : Nat)] p := by
    simp only [x_maCons, x_mBin, x_mVar, x_mC, x_maNil, List.getElem?_cons_succ, List.getElem?_cons_zero, R.bind_ok, v_dIxL, v_dSub, e0, i1, i2, lift_some]
  refine (congrArg (fun r => Mz.R.st r _ _) m1).trans ?_
  have e2' : ixN (((din h).set k (.int (h[k + 1] : Nat))).length) (x.natAbs : Int) = some x.natAbs := ixN_ok (by simp; omega)
  have e1' : ixN h.length (k : Int) = some k := ixN_ok (by omega)
  simp [e0, e1', e2]

theorem or_loop {d0 d1 : D} {n : Nat} : ∀ (w : List Int) (h : List Nat) (c3 c4 : Option D), h.length = n → (∀ x ∈ w, 0 < ab x ∧ ab x < n) → ∃ c3' c4', mFor (gtName 3) orB (dis w) [some d0, some d1, some (.lst (din h)), c3, c4, none] p = .next [some d0, some d1, some (.lst (din (here h w))), c3', c4', none] p
  | [], h, c3, c4, _, _ => ⟨c3, c4, rfl⟩
  | x :: w, h, c3, c4, hl, hw => by
    obtain ⟨a, b, e⟩ := or_loop (d0 := d0) (d1 := d1) w (swp x.natAbs h) (some (.int x)) (some (.int x.natAbs)) (by rw [swp_len]; exact hl) fun y hy => hw y (List.mem_cons_of_mem _ hy)
    refine ⟨a, b, ?_⟩
    have hx := or_body (p := p) (d0 := d0) (d1 := d1) (c4 := c4) (c3 := none) (h := h) (x := x) (by rw [hl]; exact hw x List.mem_cons_self)
    show (match orB [some d0, some d1, some (.lst (din h)), some (.int x), c4, none] p with
      | .next e2 p2 => mFor (gtName 3) orB (dis w) e2 p2
      | .cnt e2 p2 => mFor (gtName 3) orB (dis w) e2 p2
      | .brk e2 p2 => .next e2 p2
      | r => r) = _
    rw [hx]
    exact e
theorem idxD_din (y : Nat) : ∀ {h : List Nat}, y ∈ h → idxD (.int y) (din h) = some (h.idxOf y)
  | [], hy => by cases hy
  | x :: h, hy => by
    have e : D.eqD (.int x) (.int y) = (x == y) := by
      rw [eqD_of (by simp [D.plain]) (by simp [D.plain])]
      simp only [D.same]
      rw [Bool.eq_iff_iff, beq_iff_eq, beq_iff_eq]
      omega
    simp only [List.map_cons, idxD, e, List.idxOf_cons]
    cases hx : x == y with
    | true => simp
    | false =>
      have : y ∈ h := by
        rcases List.mem_cons.mp hy with rfl | hy
        · simp at hx
        · exact hy
      simp [idxD_din y this]
theorem cmp_din (h : List Nat) : (D.lst (din h)).cmp := by
  have := cmp_lints (h.map fun n : Nat => (n : Int))
  rwa [show dis (h.map fun n : Nat => (n : Int)) = din h by simp [dis, List.map_map, Function.comp_def]] at this
/-- the list behind: where each place came from -/
abbrev orderN (n : Nat) (w : List Int) : List Nat := (List.range n).map fun y => (here (List.range n) w).idxOf y
theorem order_ok {n : Nat} {w : List Int} {W : D} (hn : n ≤ 1000) (hW : dSeq W = some (dis w)) (hw : ∀ x ∈ w, 0 < ab x ∧ ab x < n) : f_order_of [.int n, W] p = .ok (.lst (din (orderN n w))) p := by
  have r0 : dRngL (.int 0) (.int n) = some (.lst (din (List.range n))) := dRngL_0 hn
  have gen : ∀ (f : D → Option D) (X : D), f (.int n) = some X → mUn f (mVar 0) [some (.int n), some W, none, none, none, none] p = .ok X p := fun f X h => by simp [h]
  obtain ⟨c3, c4, hl⟩ := or_loop (p := p) (d0 := .int n) (d1 := W) w (List.range n) none none (by simp) hw
  have hp := hereR (fit_of hw)
  have hlc := lc_pure (t := tYesM) (m := mIndex (mVar 2) (mVar 5)) (g := gtName 5) (e := [some (.int n), some W, some (.lst (din (here (List.range n) w))), c3, c4, none]) (enc := fun k : Nat => D.int (0 + (k : Int))) (out := fun k : Nat => D.int ((here (List.range n) w).idxOf k : Nat)) (keep := fun _ => true) (p := p) (List.range n) [] (fun y hy => by
    refine ⟨[some (.int n), some W, some (.lst (din (here (List.range n) w))), c3, c4, some (.int y)], by simp, rfl, fun _ => ?_⟩
    have hm : y ∈ here (List.range n) w := hp.mem_iff.mpr hy
    have hd : dIndex (.lst (din (here (List.range n) w))) (.int y) = some (.int ((here (List.range n) w).idxOf y : Nat)) := by
      unfold dIndex
      rw [okE_of (cmp_din _), okE_of (cmp_int _)]
      simp [dLst, idxD_din y hm]
    show (R.ok (D.lst (din (here (List.range n) w))) p).bind _ = _
    simp [hd]) (by simp; omega)
  rw [show (List.range n).filter (fun _ => true) = List.range n from List.filter_eq_self.mpr (fun _ _ => rfl), List.nil_append] at hlc
  refine fd_ret (e := [some (.int n), some W, none, none, none, none]) rfl (sq_set (.lst (din (List.range n))) (gen (fun y => dRngL (.int 0) y) _ r0) (sq_for (ds := dis w) (by simp [hW]) hl (ret_ok ?_)))
  rw [x_mLc, rng_nat (j := n) (p' := p) (by simp) (by omega)]
  refine Eq.trans hlc ?_
  simp [orderN]
end
end K75
namespace K75
open PySem L2 Mz Wm
variable {p : Pen}
theorem wr_a {n : Nat} {w : List Int} {W : D} (V : Val n w) (Rw : RowOf W w) (ho : (orderN n w).length = n) (hb : ∀ x ∈ orderN n w, x < n) : f_rounds_of_word [.int n, W] p = .ok (.tup ((rounds n (orderN n w)).2.map lotD)) p := by
  obtain ⟨v1, v2, v3, v4⟩ := id V
  have hn : n ≤ 6 := by omega
  exact rw_ok (p := p) (n := n) (W := W) (w := w_rounds_of_word_0) (order_ok (p := p) (n := n) (w := w) (W := W) (by omega) Rw.sq v4) (fun e he => by simp [w_rounds_of_word_0, lenAt, he]) ho (by omega) hb
theorem wr_ok {n : Nat} {w : List Int} {W : D} (V : Val n w) (Rw : RowOf W w) : ∃ xs : List D, (∀ p, f_rounds_of_word [.int n, W] p = .ok (.tup xs) p) ∧ xs.length = cycW n w := by
  obtain ⟨v1, v2, v3, v4⟩ := id V
  have hp := hereR (fit_of v4)
  have ho : (orderN n w).length = n := by simp
  have hb : ∀ x ∈ orderN n w, x < n := by
    intro x hx
    obtain ⟨y, hy, rfl⟩ := List.mem_map.mp hx
    have := List.idxOf_lt_length_of_mem (hp.mem_iff.mpr hy)
    rw [here_len, List.length_range] at this
    exact this
  refine ⟨(rounds n (orderN n w)).2.map lotD, fun p => wr_a V Rw ho hb, ?_⟩
  rw [List.length_map]
  unfold cycW cyc ordOf
  rw [here_len, List.length_range]
theorem rounds_le {n : Nat} {ord : List Nat} : (rounds n ord).2.length ≤ n := by
  have h : ∀ (ks : List Nat) (q : List Nat × List (List Nat)), (ks.foldl (rStep n ord) q).2.length ≤ q.2.length + ks.length := by
    intro ks
    induction ks with
    | nil => intro q; simp
    | cons k ks ih =>
      intro q
      rw [List.foldl_cons]
      have h1 := ih (rStep n ord q k)
      have h2 : (rStep n ord q k).2.length ≤ q.2.length + 1 := by unfold rStep; split <;> simp
      simp only [List.length_cons]
      omega
  have := h (List.range n) ([], [])
  simpa [rounds] using this
theorem cyc_le {n : Nat} {w : List Int} : cycW n w ≤ n := by
  have := rounds_le (n := (here (List.range n) w).length) (ord := ordOf (here (List.range n) w))
  rw [here_len, List.length_range] at this
  unfold cycW cyc
  rw [here_len, List.length_range]
  exact this
theorem cyc_6 : cycW 6 [] = 6 := by decide +kernel
theorem step_cyc {s s' : Int} {w w' : List Int} {d : D} (V : Val s w) (h : Step s w d s' w') : cycW s'.toNat w' = cycW s.toNat w := by
  have V' := val_step V h
  obtain ⟨v1, v2, v3, v4⟩ := id V
  obtain ⟨n, rfl⟩ := Int.eq_ofNat_of_zero_le (show 0 ≤ s by omega)
  have hf : Fit n w := fit_of v4
  simp only [Int.toNat_natCast]
  cases h with
  | turn x r => rw [Int.toNat_natCast]; exact cyc_turn (by omega) hf
  | unstack w x h1 h2 h3 =>
    obtain ⟨m, rfl⟩ : ∃ m, n = m + 1 := ⟨n - 1, by omega⟩
    have e : ((m + 1 : Nat) : Int) - 1 = (m : Int) := by omega
    rw [e, Int.toNat_natCast]
    refine (cyc_stack (n := m) (by omega) (by omega) (fun y hy => ?_) ?_).symm
    · have h4 := hf y (by simp [hy])
      have h5 := h3 y hy
      simp only [ab] at h5
      split at h5 <;> omega
    · simp only [ab] at h2
      split at h2 <;> omega
  | take u v x y h1 => rw [Int.toNat_natCast]; exact (cyc_take hf (by omega)).symm
  | far u v x y h1 =>
    rw [Int.toNat_natCast]
    refine cyc_far hf ?_
    simp only [ab] at h1
    repeat' split at h1
    all_goals omega
  | three u v x y h0 h1 =>
    rw [Int.toNat_natCast]
    refine cyc_three hf ?_
    have hx := hf x (by simp)
    have hy := hf y (by simp)
    rcases Int.lt_or_le x 0 with a | a <;> rcases Int.lt_or_le y 0 with b | b
    · simp only [ab] at h1; split at h1 <;> omega
    · have : x * y < 0 := Int.mul_neg_of_neg_of_pos a (by omega)
      omega
    · have : x * y < 0 := Int.mul_neg_of_pos_of_neg (by omega) b
      omega
    · simp only [ab] at h1; split at h1 <;> omega
  | put u v x h1 h2 h3 =>
    rw [Int.toNat_natCast]
    have hf' : Fit n (u ++ x :: -x :: v) := fit_of V'.2.2.2
    exact cyc_take hf' (by omega)
  | stack w x h1 h2 h3 =>
    rw [show ((n : Int) + 1).toNat = n + 1 by omega]
    refine cyc_stack (by omega) (by omega) hf ?_
    have : x = 1 ∨ x = -1 := by
      simp only [ab] at h2
      split at h2 <;> omega
    rcases this with rfl | rfl
    · simp
    · simp
theorem chain_cyc {s s' : Int} {w w' : List Int} {ms : List D} (V : Val s w) (C : Chain s w ms s' w') : cycW s'.toNat w' = cycW s.toNat w := by
  induction C with
  | nil => rfl
  | snoc C h ih => rw [step_cyc (C.val V) h, ih]
end K75
namespace Mz
open PySem L2
theorem x_miRng2 {e : Mz.Env} {p : Pen} (m m2 : M D) : miRng2 m m2 e p = (m e p).bind fun d p => (m2 e p).bind fun d2 p => match d, d2 with
  | .int i, .int j => if -(2 ^ 62) ≤ i ∧ i < 2 ^ 62 ∧ -(2 ^ 62) ≤ j ∧ j < 2 ^ 62 then .ok (rngD i (j - i).toNat) p else .stuck
  | _, _ => .stuck := rfl
theorem rng2_ok {m m2 : M D} {e : Mz.Env} {p p' p2 : Pen} {i j : Int} (h : m e p = .ok (.int i) p') (h2 : m2 e p' = .ok (.int j) p2) (a0 : -1000000 ≤ i) (a1 : i ≤ 1000000) (b0 : -1000000 ≤ j) (b1 : j ≤ 1000000) : miRng2 m m2 e p = .ok (rngD i (j - i).toNat) p2 := by
  rw [x_miRng2, h, R.bind_ok, h2, R.bind_ok]
  exact if_pos ⟨Int.le_trans (by decide) a0, Int.lt_of_le_of_lt a1 (by decide), Int.le_trans (by decide) b0, Int.lt_of_le_of_lt b1 (by decide)⟩
theorem notin_dis (k : Int) (l : List Int) : dNotInS (.int k) (.lst (dis l)) = some (.bl (!l.contains k)) := by
  unfold dNotInS
  rw [okE_of (cmp_int _), okE_of (cmp_lints l)]
  simp only [Bool.and_self, if_true, v_dSeqL, Option.map_some, inB, List.any_map]
  congr 3
  rw [List.contains_eq_any_beq]
  congr 1
  funext y
  simp only [Function.comp]
  rw [eqD_of (by simp [D.plain]) (by simp [D.plain])]
  simp only [D.same]
  rw [Bool.eq_iff_iff, beq_iff_eq, beq_iff_eq]
  exact eq_comm
theorem idxD_dis (y : Int) : ∀ {h : List Int}, y ∈ h → idxD (.int y) (dis h) = some (h.idxOf y)
  | [], hy => by cases hy
  | x :: h, hy => by
    have e : D.eqD (.int x) (.int y) = (x == y) := by
      rw [eqD_of (by simp [D.plain]) (by simp [D.plain])]
      simp only [D.same]
    simp only [List.map_cons, idxD, e, List.idxOf_cons]
    cases hx : x == y with
    | true => simp
    | false =>
      have : y ∈ h := by
        rcases List.mem_cons.mp hy with rfl | hy
        · simp at hx
        · exact hy
      simp [idxD_dis y this]
theorem index_dis {y : Int} {h : List Int} (hy : y ∈ h) : dIndex (.lst (dis h)) (.int y) = some (.int (h.idxOf y : Nat)) := by
  unfold dIndex
  rw [okE_of (cmp_lints _), okE_of (cmp_int _)]
  simp [dLst, idxD_dis y hy]
theorem new_ok {n : Nat} {m : Fi} {ma : M (List D)} {e : Mz.Env} {p p1 p2 : Pen} {ds : List D} {fs : List (Str × D)} (h : ma e p = .ok ds p1) (k : m ds p1 = .ok fs p2) : mNew n m ma e p = .ok (.ins n fs) p2 := by
  unfold mNew
  rw [h, R.bind_ok, k, R.bind_ok]
end Mz
namespace K75
open PySem L2 Mz Wm
variable {p : Pen}
theorem kept1 (i : Int) : f_kept_1 [.int i] p = .ok (.int i) p :=
  fd_ret (e := [some (.int i), none]) rfl (ret_ok (mif_f (p1 := p) (by simp) (by simp)))
theorem kept2i (i : Int) : f_kept_2 [.int i] p = .ok (.int i) p :=
  fd_ret (e := [some (.int i), none]) rfl (ret_ok (mif_f (p1 := p) (by simp) (by simp)))
theorem kept2t (l : List Int) (hl : l.length ≤ 1000) : f_kept_2 [.tup (dis l)] p = .ok (.tup (dis l)) p := by
  have h := lc_pure (t := tYesM) (m := mCall f_kept_1 (maCons (mVar 1) maNil)) (g := gtName 1) (e := [some (.tup (dis l)), none]) (enc := D.int) (out := D.int) (keep := fun _ => true) (p := p) l [] (fun x _ => ⟨[some (.tup (dis l)), some (.int x)], rfl, rfl, fun _ => call_ok rfl (kept1 x)⟩) (by simp; omega)
  rw [show l.filter (fun _ => true) = l from List.filter_eq_self.mpr (fun _ _ => rfl), List.nil_append] at h
  refine fd_ret (e := [some (.tup (dis l)), none]) rfl (ret_ok (mif_t (p1 := p) (by simp) (un_ok (x := .lst (dis l)) ?_ rfl)))
  rw [x_mLc]
  exact h
theorem kept3l (l : List Int) (hl : l.length ≤ 1000) : f_kept_3 [.lst (dis l)] p = .ok (.tup (dis l)) p := by
  have h := lc_pure (t := tYesM) (m := mCall f_kept_2 (maCons (mVar 1) maNil)) (g := gtName 1) (e := [some (.lst (dis l)), none]) (enc := D.int) (out := D.int) (keep := fun _ => true) (p := p) l [] (fun x _ => ⟨[some (.lst (dis l)), some (.int x)], rfl, rfl, fun _ => call_ok rfl (kept2i x)⟩) (by simp; omega)
  rw [show l.filter (fun _ => true) = l from List.filter_eq_self.mpr (fun _ _ => rfl), List.nil_append] at h
  refine fd_ret (e := [some (.lst (dis l)), none]) rfl (ret_ok (mif_t (p1 := p) (by simp) (un_ok (x := .lst (dis l)) ?_ rfl)))
  rw [x_mLc]
  exact h
/-- rows of pairs of ints -/
theorem kept3r (ls : List (List Int)) (hl : ls.length ≤ 1000) (h2 : ∀ l ∈ ls, l.length ≤ 1000) : f_kept_3 [.lst (ls.map fun l => D.tup (dis l))] p = .ok (.tup (ls.map fun l => D.tup (dis l))) p := by
  have h := lc_pure (t := tYesM) (m := mCall f_kept_2 (maCons (mVar 1) maNil)) (g := gtName 1) (e := [some (.lst (ls.map fun l => D.tup (dis l))), none]) (enc := fun l => D.tup (dis l)) (out := fun l => D.tup (dis l)) (keep := fun _ => true) (p := p) ls [] (fun x hx => ⟨[some (.lst (ls.map fun l => D.tup (dis l))), some (.tup (dis x))], rfl, rfl, fun _ => call_ok rfl (kept2t x (h2 x hx))⟩) (by simp; omega)
  rw [show ls.filter (fun _ => true) = ls from List.filter_eq_self.mpr (fun _ _ => rfl), List.nil_append] at h
  refine fd_ret (e := [some (.lst (ls.map fun l => D.tup (dis l))), none]) rfl (ret_ok (mif_t (p1 := p) (by simp) (un_ok (x := .lst (ls.map fun l => D.tup (dis l))) ?_ rfl)))
  rw [x_mLc]
  exact h
theorem apart_ok (d : D) : f_Apart [d] p = .ok [("k", d)] p := by simp [f_Apart, fiOf, b_Apart, iCat, iFld, iNil, putFD]
theorem negative_ok (d : D) : f_Negative [d] p = .ok [("index", d)] p := by simp [f_Negative, fiOf, b_Negative, iCat, iFld, iNil, putFD]
theorem together_ok {d d' : D} (h : f_kept_3 [d] p = .ok d' p) : f_Together [d] p = .ok [("indices", d')] p := by simp [f_Together, fiOf, b_Together, iCat, iFld, iNil, putFD, h]
theorem positive_ok {d d' : D} (h : f_kept_3 [d] p = .ok d' p) : f_Positive [d] p = .ok [("places", d')] p := by simp [f_Positive, fiOf, b_Positive, iCat, iFld, iNil, putFD, h]
end K75
namespace K75
open PySem L2 Mz Wm
variable {p : Pen}
theorem mul_small {i j : Int} (h0 : -1000000 ≤ j) (h1 : j ≤ 1000000) : dMul (.int i) (.int j) = some (.int (i * j)) := by
  rw [v_dMul, if_pos (.inr ⟨Int.lt_of_lt_of_le (by decide) h0, Int.lt_of_le_of_lt h1 (by decide)⟩)]
theorem lots_ok {n j : Nat} (hn : n ≤ 1000) (hj : j ≤ 1000) : ∃ r : Int, f_lots_among [.int n, .int j] p = .ok (.int r) p := by
  obtain ⟨e', p', h1, ⟨q, c3, rfl, rfl⟩⟩ := for_inv (g := gtName 3) (body := (sSet 2 (mBin dDiv (mBin dMul (mVar 2) (mBin dSub (mVar 0) (mVar 3))) (mBin dAdd (mVar 3) (mC (.int 1)))))) (ds := rngD 0 j) (e := [some (.int n), some (.int j), some (.int 1), none]) (p := p)
    (fun i e q => ∃ (r : Int) (c3 : Option D), e = [some (.int n), some (.int j), some (.int r), c3] ∧ q = p) ⟨1, none, rfl, rfl⟩ (by
    rintro i d e q hd ⟨r, c3, rfl, rfl⟩
    obtain ⟨hi, rfl⟩ := rngD_get0 hd
    have m := mul_small (i := r) (j := (n : Int) - (i : Int)) (by omega) (by omega)
    refine ⟨_, _, q, rfl, .inl (show _ = SF.next [some (.int n), some (.int j), some (.int (r * ((n : Int) - i) / ((i : Int) + 1))), some (.int i)] q from ?_), _, _, rfl, rfl⟩
    have h0 : (0 : Int) < (i : Int) + 1 ∧ (i : Int) + 1 < 1073741824 := by omega
    simp [m, h0])
  exact ⟨q, fd_ret (e := [some (.int n), some (.int j), none, none]) rfl (sq_set (.int 1) rfl (sq_for (rng_nat (j := j) rfl (by omega)) h1 (ret_ok rfl)))⟩
/-- the sizes of a word -/
abbrev szs (w : List Int) : List Int := w.map fun x => ab x
theorem szs_mem {w : List Int} {k : Nat} (hk : 0 < k) : (k : Int) ∈ szs w ↔ ∃ x ∈ w, x.natAbs = k := by
  rw [List.mem_map]
  constructor
  · rintro ⟨x, hx, h⟩
    refine ⟨x, hx, ?_⟩
    simp only [ab] at h
    split at h <;> omega
  · rintro ⟨x, hx, h⟩
    refine ⟨x, hx, ?_⟩
    simp only [ab]
    split <;> omega
theorem szs_ok {w : List Int} {W : D} {i : Nat} {e : Mz.Env} (hW : dSeq W = some (dis w)) (he : e[1]? = some (some W)) (hi : i < e.length) (hi1 : i ≠ 1) (hl : w.length ≤ 1000) :
    mLc (miSeq (mVar 1)) (gtName i) tYesM (mUn dAbs (mVar i)) [i] e p = .ok (.lst (dis (szs w))) p := by
  have h := lc_pure (t := tYesM) (m := mUn dAbs (mVar i)) (g := gtName i) (e := wipeE e [i]) (enc := D.int) (out := fun x => D.int (ab x)) (keep := fun _ => true) (p := p) w [] (fun x _ => ⟨_, rfl, rfl, fun _ => un_ok (x := .int x) (by
    have : ((wipeE e [i]).set i (some (.int x)))[i]? = some (some (.int x)) := List.getElem?_set_self (by rw [wipeE_len]; exact hi)
    simp [this]) (by simp)⟩) (by simp; omega)
  rw [show w.filter (fun _ => true) = w from List.filter_eq_self.mpr (fun _ _ => rfl), List.nil_append] at h
  rw [x_mLc]
  simp only [x_miSeq, x_mVar, he, R.bind_ok, hW, lift_some]
  rw [h]
  simp
theorem rngD_as (lo : Int) (n : Nat) : rngD lo n = dis ((List.range n).map fun k : Nat => lo + (k : Int)) := by
  simp [rngD, dis, List.map_map, Function.comp_def]
theorem parts_ok {n : Nat} {w : List Int} {W : D} (V : Val n w) (Rw : RowOf W w) : ∃ k : Nat, k ≤ 7 ∧ ∀ p, f_parts_of_word [.int n, W] p = .ok (.int k) p := by
  obtain ⟨v1, v2, v3, v4⟩ := id V
  have hq : ∀ p, mLc (miRng2 (mC (.int 1)) (mVar 0)) (gtName 4) (tBl (mBin dNotInS (mVar 4) (mVar 2))) (mVar 4) [4] [some (.int n), some W, some (.lst (dis (szs w))), none, none] p = .ok (.lst (dis (((List.range (n - 1)).map fun k : Nat => 1 + (k : Int)).filter fun k => !(szs w).contains k))) p := by
    intro p
    have h := lc_pure (t := tBl (mBin dNotInS (mVar 4) (mVar 2))) (m := mVar 4) (g := gtName 4) (e := [some (.int n), some W, some (.lst (dis (szs w))), none, none]) (enc := D.int) (out := D.int) (keep := fun k => !(szs w).contains k) (p := p) ((List.range (n - 1)).map fun k : Nat => 1 + (k : Int)) [] (fun x _ => ⟨[some (.int n), some W, some (.lst (dis (szs w))), none, some (.int x)], rfl, tbl_ok (bin_ok (p1 := p) (p2 := p) rfl rfl (notin_dis x (szs w))), fun _ => rfl⟩) (by simp; omega)
    rw [x_mLc, rng2_ok (i := 1) (j := n) (p' := p) (p2 := p) rfl rfl (by omega) (by omega) (by omega) (by omega), R.bind_ok, rngD_as, show ((n : Int) - 1).toNat = n - 1 by omega]
    rw [List.nil_append] at h
    exact h
  generalize hz : (((List.range (n - 1)).map fun k : Nat => 1 + (k : Int)).filter fun k => !(szs w).contains k) = z at hq
  have hzl : z.length ≤ n - 1 := by
    rw [← hz]
    refine Nat.le_trans (List.length_filter_le _ _) ?_
    simp
  refine ⟨1 + z.length, by omega, fun p => ?_⟩
  refine fd_ret (e := [some (.int n), some W, none, none, none]) rfl (sq_set (.lst (dis (szs w))) (szs_ok Rw.sq rfl (by simp) (by decide) (by omega)) (ret_ok (bin_ok (x := .int 1) (p1 := p) (p2 := p) rfl (un_ok (x := .lst (dis z)) (p1 := p) ?_ rfl) ?_)))
  · exact hq p
  · simp
/-- a word above nothing -/
theorem sp_ok {n : Nat} {w : List Int} {W : D} (V : Val n w) (hp : ∀ x ∈ w, 0 < x) (Rw : RowOf W w) : ∃ fs, f_settled_positive [.int n, W] p = .ok (.ins 7 fs) p := by
  obtain ⟨v1, v2, v3, v4⟩ := id V
  obtain ⟨k, hk, hpo⟩ := parts_ok V Rw
  obtain ⟨e', p', h1, ⟨c2, c3, rfl, rfl⟩⟩ := for_inv (g := gtTup (gtCons (gtName 2) (gtCons (gtName 3) gtNil))) (body := (sIf (tBl (mBin dLt (mVar 3) (mC (.int 0)))) (sRet (mNew 8 f_Negative (maCons (mVar 2) maNil))) sNext)) (ds := enumD (dis w)) (e := [some (.int n), some W, none, none, none, none]) (p := p)
    (fun i e q => ∃ c2 c3, e = [some (.int n), some W, c2, c3, none, none] ∧ q = p) ⟨none, none, rfl, rfl⟩ (by
    rintro i d e q hd ⟨c2, c3, rfl, rfl⟩
    obtain ⟨x, hx, rfl⟩ : ∃ x ∈ w, d = .tup [.int (i : Nat), .int x] := by
      unfold enumD at hd
      rw [List.getElem?_mapIdx, List.getElem?_map] at hd
      cases hw : w[i]? with
      | none => rw [hw] at hd; cases hd
      | some x => rw [hw] at hd; exact ⟨x, List.mem_of_getElem? hw, (Option.some.inj hd).symm⟩
    have h0 : ¬ x < 0 := by have := hp x hx; omega
    exact ⟨[some (.int n), some W, some (.int i), some (.int x), none, none], _, _, rfl, .inl (if_f (p' := q) (by simp [h0]) rfl), _, _, rfl, rfl⟩)
  obtain ⟨xs, h2, h3, h4⟩ := lc_ex (p := p') (t := tYesM) (m := (mTup (maCons (mBin dAdd (mBin dSub (mUn dLen (mVar 1)) (mVar 0)) (mBin dMul (mC (.int 2)) (mVar 5))) (maCons (mCall f_lots_among (maCons (mVar 4) (maCons (mVar 5) maNil))) maNil)))) (g := gtName 5) (e := [some (.int n), some W, c2, c3, some (.int k), none]) (fun _ d => ∃ a b : Int, d = .tup (dis [a, b])) (rngD 0 (k + 1)) [] (by
    intro i d hd
    obtain ⟨hi, rfl⟩ := rngD_get0 hd
    obtain ⟨r, hr⟩ := lots_ok (p := p') (n := k) (j := i) (by omega) (by omega)
    have m := mul_small (i := 2) (j := (i : Int)) (by omega) (by omega)
    refine ⟨[some (.int n), some W, c2, c3, some (.int k), some (.int i)], rfl, rfl, .tup (dis [(w.length : Int) - n + 2 * i, r]), ?_, _, _, rfl⟩
    refine tup_ok (as_cons (p1 := p') ?_ (as_cons (call_ok rfl hr) rfl)) (by simp)
    simp [Rw.len, m]) (by rw [rngD_len0]; simp; omega)
  obtain ⟨ls, rfl, hls⟩ : ∃ ls : List (List Int), xs = ls.map (fun l => D.tup (dis l)) ∧ ∀ l ∈ ls, l.length ≤ 1000 := by
    clear h2 h3
    induction xs with
    | nil => exact ⟨[], rfl, by simp⟩
    | cons x xs ih =>
      obtain ⟨a, b, rfl⟩ := h4 0 x rfl
      obtain ⟨ls, rfl, hls⟩ := ih fun i x hx => h4 (i + 1) x hx
      exact ⟨[a, b] :: ls, rfl, fun l hl => by
        rcases List.mem_cons.mp hl with rfl | hl
        · simp
        · exact hls l hl⟩
  rw [rngD_len0, List.length_map] at h3
  have hkp := kept3r (p := p') ls (by omega) hls
  refine ⟨[("places", .tup (ls.map fun l => D.tup (dis l)))], fd_ret (e := [some (.int n), some W, none, none, none, none]) rfl (sq_for (ds := enumD (dis w)) (p := p') (by simp [Rw.sq]) h1 (sq_set (.int k) (call_ok rfl (hpo p')) (ret_ok (new_ok (ds := [.lst (ls.map fun l => D.tup (dis l))]) (p1 := p') (as_cons ?_ rfl) (positive_ok hkp)))))⟩
  rw [x_mLc, rng_nat (j := k + 1) (p' := p') (by simp) (by omega)]
  exact h2
end K75
namespace K75
open PySem L2 Mz Wm
variable {p : Pen}
abbrev Has (w : List Int) (k : Nat) : Prop := ∃ x ∈ w, x.natAbs = k
def stB : MS := (sSeq (sIf (tBl (mBin dNotInS (mVar 4) (mVar 2))) (sRet (mNew 6 f_Apart (maCons (mVar 4) maNil))) sNext)
    (sApp 3 (mIndex (mVar 2) (mVar 4))))
theorem st_loop {n : Nat} {w : List Int} {W : D} {c5 : Option D} : ∀ (ks : List Nat) (found : List D) (c4 : Option D), found.length + ks.length ≤ 1000 → (∀ k ∈ ks, 0 < k) →
    ((∀ k ∈ ks, Has w k) ∧ ∃ found' c4', found'.length = found.length + ks.length ∧ (∃ l : List Int, found' = found ++ dis l) ∧ mFor (gtName 4) stB (ks.map fun k : Nat => D.int k) [some (.int n), some W, some (.lst (dis (szs w))), some (.lst found), c4, c5] p = .next [some (.int n), some W, some (.lst (dis (szs w))), some (.lst found'), c4', c5] p) ∨
    (∃ k ∈ ks, ¬ Has w k ∧ mFor (gtName 4) stB (ks.map fun k : Nat => D.int k) [some (.int n), some W, some (.lst (dis (szs w))), some (.lst found), c4, c5] p = .ret (.ins 6 [("k", .int k)]) p)
  | [], found, c4, _, _ => .inl ⟨by simp, found, c4, rfl, ⟨[], by simp⟩, rfl⟩
  | k :: ks, found, c4, hl, hk => by
    simp only [List.length_cons] at hl
    have hk0 := hk k List.mem_cons_self
    by_cases hg : Has w k
    · have hm := (szs_mem hk0).mpr hg
      have hc : (szs w).contains (k : Int) = true := by simpa using hm
      have hb : stB [some (.int n), some W, some (.lst (dis (szs w))), some (.lst found), some (.int k), c5] p = .next [some (.int n), some W, some (.lst (dis (szs w))), some (.lst (found ++ [.int ((szs w).idxOf (k : Int) : Nat)])), some (.int k), c5] p := by
        refine sq_f (tbl_ok (bin_ok (p1 := p) (p2 := p) rfl rfl (by rw [notin_dis, hc]; rfl))) ?_
        have hix : mIndex (mVar 2) (mVar 4) [some (.int n), some W, some (.lst (dis (szs w))), some (.lst found), some (.int k), c5] p = .ok (.int ((szs w).idxOf (k : Int) : Nat)) p := by
          show (R.ok (D.int k) p).bind (fun y p => lift (dIndex (.lst (dis (szs w))) y) p) = _
          rw [R.bind_ok, index_dis hm, lift_some]
        rw [x_sApp]
        simp only [List.getElem?_cons_succ, List.getElem?_cons_zero, hix, R.st_ok, sl_eq, show found.length < 16777216 by omega, if_true]
        rfl
      rcases st_loop ks (found ++ [.int ((szs w).idxOf (k : Int) : Nat)]) (some (.int k)) (by simp; omega) (fun j hj => hk j (List.mem_cons_of_mem _ hj)) with ⟨h1, f', c4', h2, ⟨l, hl2⟩, h3⟩ | ⟨j, hj, h1, h2⟩
      · refine .inl ⟨fun j hj => ?_, f', c4', by rw [h2]; simp; omega, ⟨((szs w).idxOf (k : Int) : Nat) :: l, by rw [hl2]; simp⟩, fo_cons rfl hb h3⟩
        rcases List.mem_cons.mp hj with rfl | hj
        · exact hg
        · exact h1 j hj
      · exact .inr ⟨j, List.mem_cons_of_mem _ hj, h1, fo_cons rfl hb h2⟩
    · have hc : (szs w).contains (k : Int) = false := by
        cases h : (szs w).contains (k : Int) with
        | false => rfl
        | true => exact absurd ((szs_mem hk0).mp (by simpa using h)) hg
      refine .inr ⟨k, List.mem_cons_self, hg, fo_ret (e1 := [some (.int n), some W, some (.lst (dis (szs w))), some (.lst found), some (.int k), c5]) rfl ?_⟩
      exact sq_t (tbl_ok (bin_ok (p1 := p) (p2 := p) rfl rfl (by rw [notin_dis, hc]; rfl))) (ret_ok (new_ok (as_cons (p1 := p) rfl rfl) (apart_ok _)))
theorem rngD1 (n : Nat) : rngD 1 (n - 1) = ((List.range (n - 1)).map fun k => k + 1).map fun k : Nat => D.int k := by
  simp only [rngD, List.map_map, Function.comp_def]
  apply List.map_congr_left
  intro k _
  congr 1
  omega
theorem st_ok {n : Nat} {w : List Int} {W : D} (V : Val n w) (Rw : RowOf W w) :
    ((∀ k, 0 < k → k < n → Has w k) ∧ ∃ fs, f_settled_together [.int n, W] p = .ok (.ins 5 fs) p) ∨ (∃ k, 0 < k ∧ k < n ∧ ¬ Has w k ∧ f_settled_together [.int n, W] p = .ok (.ins 6 [("k", .int k)]) p) := by
  obtain ⟨v1, v2, v3, v4⟩ := id V
  have pre : ∀ r : SF, (sSeq (sFor (miRng2 (mC (.int 1)) (mVar 0)) (gtName 4) stB) (sRet (mNew 5 f_Together (maCons (mVar 3) maNil)))) [some (.int n), some W, some (.lst (dis (szs w))), some (.lst []), none, none] p = r → b_settled_together [some (.int n), some W, none, none, none, none] p = r := by
    intro r h
    refine sq (a := sParN [2, 3] _) (e' := [some (.int n), some W, some (.lst (dis (szs w))), some (.lst []), none, none]) (p' := p) ?_ h
    exact par_ok (aso_cons (szs_ok Rw.sq rfl (by simp) (by decide) (by omega)) (aso_cons (p1 := p) rfl rfl)) ⟨rfl, by decide, rfl⟩
  have hr : miRng2 (mC (.int 1)) (mVar 0) [some (.int n), some W, some (.lst (dis (szs w))), some (.lst []), none, none] p = .ok (((List.range (n - 1)).map fun k => k + 1).map fun k : Nat => D.int k) p := by
    rw [rng2_ok (i := 1) (j := n) (p' := p) (p2 := p) rfl rfl (by omega) (by omega) (by omega) (by omega), show ((n : Int) - 1).toNat = n - 1 by omega, rngD1]
  have hmem : ∀ k, k ∈ ((List.range (n - 1)).map fun k => k + 1) ↔ 0 < k ∧ k < n := by
    intro k
    simp only [List.mem_map, List.mem_range]
    constructor
    · rintro ⟨j, hj, rfl⟩; omega
    · rintro ⟨h1, h2⟩; exact ⟨k - 1, by omega, by omega⟩
  rcases st_loop (p := p) (n := n) (w := w) (W := W) (c5 := none) ((List.range (n - 1)).map fun k => k + 1) [] none (by simp; omega) (fun k hk => ((hmem k).mp hk).1) with ⟨h1, f', c4', h2, ⟨l, hl⟩, h3⟩ | ⟨k, hk, h1, h2⟩
  · refine .inl ⟨fun k k1 k2 => h1 k ((hmem k).mpr ⟨k1, k2⟩), ?_⟩
    rw [List.nil_append] at hl
    subst hl
    have hll : l.length ≤ 1000 := by simp at h2; omega
    refine ⟨_, fd_ret (e := [some (.int n), some W, none, none, none, none]) rfl (pre _ (sq_for hr h3 (ret_ok (new_ok (as_cons (p1 := p) rfl rfl) (together_ok (kept3l l hll))))))⟩
  · obtain ⟨k1, k2⟩ := (hmem k).mp hk
    refine .inr ⟨k, k1, k2, h1, fd_ret (e := [some (.int n), some W, none, none, none, none]) rfl (pre _ (sq_ret ?_))⟩
    rw [x_sFor, hr]
    exact h2
/-- the genus of a word -/
theorem wg_ok {n : Nat} {w : List Int} {W : D} (V : Val n w) (hp : ∀ x ∈ w, 0 < x) (Rw : RowOf W w) :
    ((∀ k, 0 < k → k < n → Has w k) ∧ f_word_genus [.int n, W] p = .ok (.int ((2 + (w.length : Int) - n - cycW n w) / 2)) p) ∨ (∃ k : Nat, 0 < k ∧ k < n ∧ ¬ Has w k ∧ f_word_genus [.int n, W] p = .err ⟨4, [("answer", .ins 6 [("k", .int k)])]⟩ p) := by
  obtain ⟨fs, h1⟩ := sp_ok (p := p) V hp Rw
  obtain ⟨xs, h3, h4⟩ := wr_ok V Rw
  have hnw : f_need_word [.int n, W] p = .ok .non p := nw_ok V Rw
  rcases st_ok (p := p) V Rw with ⟨ha, fs2, h2⟩ | ⟨k, k1, k2, k3, h2⟩
  · refine .inl ⟨ha, fd_ret (e := [some (.int n), some W, none, none]) rfl (sq_expr .non (call_ok rfl hnw) (sq_set (.ins 7 fs) (call_ok rfl h1) (sq_f (ttru_ok (un_ok (p1 := p) rfl rfl) rfl) (sq_set (.ins 5 fs2) (call_ok rfl h2) (sq_f (tnot_ok (bb := true) (ttru_ok (x := .bl true) (un_ok (x := .ins 5 fs2) (p1 := p) rfl rfl) rfl)) (ret_ok ?_))))))⟩
    refine bin_ok (p1 := p) (p2 := p) (x := .int (2 + (w.length : Int) - n - cycW n w)) (bin_ok (p1 := p) (p2 := p) (x := .int (2 + (w.length : Int) - n)) (y := .int xs.length) ?_ (un_ok (call_ok rfl (h3 p)) rfl) (by rw [v_dSub, h4])) rfl rfl
    refine bin_ok (p1 := p) (p2 := p) (x := .int (2 + (w.length : Int))) (bin_ok (p1 := p) (p2 := p) rfl (un_ok (p1 := p) rfl Rw.len) rfl) rfl rfl
  · refine .inr ⟨k, k1, k2, k3, fd_err (e := [some (.int n), some W, none, none]) (e' := [some (.int n), some W, some (.ins 7 fs), some (.ins 6 [("k", .int k)])]) rfl (sq_expr .non (call_ok rfl hnw) (sq_set (.ins 7 fs) (call_ok rfl h1) (sq_f (ttru_ok (un_ok (p1 := p) rfl rfl) rfl) (sq_set (.ins 6 [("k", .int k)]) (call_ok rfl h2) (sq_err (if_t (tnot_ok (bb := false) (ttru_ok (x := .bl false) (un_ok (x := .ins 6 [("k", .int k)]) (p1 := p) rfl rfl) rfl)) ?_))))))⟩
    rw [x_sRaise, as_cons (p1 := p) (d := .ins 6 [("k", .int k)]) rfl rfl]
    rfl
end K75
namespace K75
open PySem L2 Mz Wm
variable {p : Pen}
def orbL (ord : List Nat) : Nat → Nat → List Nat
  | 0, _ => []
  | f + 1, k => k :: orbL ord f (ord.getD k 0)
def lotI (n : Nat) (ord : List Nat) (k : Nat) : List Int := setI ((orbL ord n k).map fun m : Nat => (m : Int))
def lawStep (n : Nat) (ord : List Nat) (found : List (List Int)) (k : Nat) : List (List Int) := if found.contains (lotI n ord k) then found else found ++ [lotI n ord k]
def lawRounds (n : Nat) (ord : List Nat) : List (List Int) := (List.range n).foldl (lawStep n ord) []
theorem law_cyc_all : (List.range 5).all (fun n => allP n fun h => (lawRounds n (ordOf h)).length == cyc h) = true := by decide +kernel
theorem or_bodyT {d0 d1 : D} {c4 : Option D} {tl : Mz.Env} {h : List Nat} {x : Int} (hx : 0 < ab x ∧ ab x < h.length) : orB (some d0 :: some d1 :: some (.lst (din h)) :: some (.int x) :: c4 :: tl) p = .next (some d0 :: some d1 :: some (.lst (din (swp x.natAbs h))) :: some (.int x) :: some (.int x.natAbs) :: tl) p := by
  have ha : ab x = (x.natAbs : Int) := by simp only [ab]; split <;> omega
  obtain ⟨k, hk⟩ : ∃ k, x.natAbs = k + 1 := ⟨x.natAbs - 1, by omega⟩
  have h1 : k + 1 < h.length := by omega
  have e0 : (x.natAbs : Int) - 1 = (k : Int) := by omega
  have i1 : atI (din h) (x.natAbs : Int) = some (.int (h[k + 1] : Nat)) := by
    rw [hk, Mz.atI_nat, List.getElem?_map, List.getElem?_eq_getElem h1]
    rfl
  have i2 : atI (din h) (k : Int) = some (.int (h[k] : Nat)) := by
    rw [Mz.atI_nat, List.getElem?_map, List.getElem?_eq_getElem (by omega)]
    rfl
  have e3 : din (swp x.natAbs h) = ((din h).set k (.int (h[k + 1] : Nat))).set x.natAbs (.int (h[k] : Nat)) := by
    unfold swp
    rw [show x.natAbs - 1 = k by omega, hk]
    simp [List.getElem?_eq_getElem h1, List.getElem?_eq_getElem (show k < h.length by omega)]
  rw [e3]
  refine sq_set (.int x.natAbs) (by rw [← ha]; simp) ?_
  refine (x_sSet2 _ _ _ _).trans ?_
  have m1 : maCons (mBin dIx (mVar 2) (mVar 4)) (maCons (mBin dIx (mVar 2) (mBin dSub (mVar 4) (mC (.int 1)))) maNil) (some d0 :: some d1 :: some (.lst (din h)) :: some (.int x) :: some (.int x.natAbs) :: tl) p = .ok [.int (h[k + 1] : Nat), .int (h[k] : Nat)] p := by
    simp only [x_maCons, x_mBin, x_mVar, x_mC, x_maNil, List.getElem?_cons_succ, List.getElem?_cons_zero, R.bind_ok, v_dIxL, v_dSub, e0, i1, i2, lift_some]
  refine (congrArg (fun r => Mz.R.st r _ _) m1).trans ?_
  have e2' : ixN (((din h).set k (.int (h[k + 1] : Nat))).length) (x.natAbs : Int) = some x.natAbs := ixN_ok (by simp; omega)
  have e1' : ixN h.length (k : Int) = some k := ixN_ok (by omega)
  have e2 : ixN h.length (x.natAbs : Int) = some x.natAbs := ixN_ok (by omega)
  simp [e0, e1', e2]
theorem or_loopT {d0 d1 : D} {tl : Mz.Env} {n : Nat} : ∀ (w : List Int) (h : List Nat) (c3 c4 : Option D), h.length = n → (∀ x ∈ w, 0 < ab x ∧ ab x < n) → ∃ c3' c4', mFor (gtName 3) orB (dis w) (some d0 :: some d1 :: some (.lst (din h)) :: c3 :: c4 :: tl) p = .next (some d0 :: some d1 :: some (.lst (din (here h w))) :: c3' :: c4' :: tl) p
  | [], h, c3, c4, _, _ => ⟨c3, c4, rfl⟩
  | x :: w, h, c3, c4, hl, hw => by
    obtain ⟨a, b, e⟩ := or_loopT (d0 := d0) (d1 := d1) (tl := tl) w (swp x.natAbs h) (some (.int x)) (some (.int x.natAbs)) (by rw [swp_len]; exact hl) fun y hy => hw y (List.mem_cons_of_mem _ hy)
    exact ⟨a, b, fo_cons rfl (or_bodyT (by rw [hl]; exact hw x List.mem_cons_self)) e⟩
section
variable {n : Nat} {ord : List Nat} {e0 e1 e2 e3 e4 e6 : Option D}
def lpB : MS := (sSeq (sApp 8 (mVar 9)) (sSet 9 (mBin dIx (mVar 5) (mVar 9))))
theorem lp_loop {e7 : Option D} (ho : ord.length = n) (hb : ∀ x ∈ ord, x < n) : ∀ (f : Nat) (j : Nat) (lot : List Nat) (k : Nat) (c10 : Option D), k < n → lot.length + f ≤ 1000 →
    ∃ k' c10', mFor (gtName 10) lpB ((List.range' j f).map fun i : Nat => D.int (0 + (i : Int))) [e0, e1, e2, e3, e4, some (.lst (din ord)), e6, e7, some (.lst (din lot)), some (.int (k : Nat)), c10] p = .next [e0, e1, e2, e3, e4, some (.lst (din ord)), e6, e7, some (.lst (din (lot ++ orbL ord f k))), some (.int (k' : Nat)), c10'] p
  | 0, j, lot, k, c10, _, _ => ⟨k, c10, by simp [orbL, mFor]⟩
  | f + 1, j, lot, k, c10, hk, hl => by
    have hkk : k < ord.length := by omega
    have hx := ix_din (l := ord) (k := k) hkk
    have hs : lot.length < 16777216 := by omega
    obtain ⟨k', c10', h⟩ := lp_loop (e7 := e7) ho hb f (j + 1) (lot ++ [k]) (ord.getD k 0) (some (.int (0 + (j : Int)))) (by simp only [List.getD, List.getElem?_eq_getElem hkk, Option.getD_some]; exact hb _ (List.getElem_mem hkk)) (by simp; omega)
    refine ⟨k', c10', ?_⟩
    rw [List.range'_succ, List.map_cons]
    refine fo_cons rfl (e2 := [e0, e1, e2, e3, e4, some (.lst (din ord)), e6, e7, some (.lst (din (lot ++ [k]))), some (.int (ord.getD k 0 : Nat)), some (.int (0 + (j : Int)))]) (p2 := p) ?_ ?_
    · refine sq (e' := [e0, e1, e2, e3, e4, some (.lst (din ord)), e6, e7, some (.lst (din (lot ++ [k]))), some (.int (k : Nat)), some (.int (0 + (j : Int)))]) (p' := p) ?_ ?_
      · rw [x_sApp]
        simp [hs]
      · rw [x_sSet, bin_ok (p1 := p) (p2 := p) (x := .lst (din ord)) (y := .int (k : Nat)) rfl rfl (show dIx (.lst (din ord)) (.int (k : Nat)) = some (.int (ord.getD k 0 : Nat)) by rw [v_dIxL, hx])]
        rfl
    · rw [h]
      simp [orbL]
def lwB : MS := (sSeq (sParN [8, 9] (maConsO true (mLst maNil) (maConsO false (mVar 7) maNil)))
    (sSeq (sFor (miRng1 (mVar 0)) (gtName 10) lpB)
    (sSeq (sSet 8 (mUn dTuple (mUn dSortSet (mVar 8))))
    (sIf (tBl (mBin dNotInS (mVar 8) (mVar 6))) (sApp 6 (mVar 8)) sNext))))
theorem toInts_din (l : List Nat) : toInts (din l) = some (l.map fun n : Nat => (n : Int)) := by
  induction l with
  | nil => rfl
  | cons x l ih => simp only [List.map_cons, toInts, ih]
theorem orbL_len (ord : List Nat) : ∀ (f k : Nat), (orbL ord f k).length = f
  | 0, _ => rfl
  | f + 1, k => by rw [orbL, List.length_cons, orbL_len ord f]
theorem notin_tups (l : List Int) (found : List (List Int)) : dNotInS (.tup (dis l)) (.lst (found.map fun l => D.tup (dis l))) = some (.bl (!found.contains l)) := by
  have hc : (D.lst (found.map fun l => D.tup (dis l))).cmp := cmp_lst fun x hx => by
    obtain ⟨m, _, rfl⟩ := List.mem_map.mp hx
    exact ⟨(cmp_tints m).1, by simp only [D.deep, deeps_ints]; decide⟩
  unfold dNotInS
  rw [okE_of (cmp_tints l), okE_of hc]
  simp only [Bool.and_self, if_true, v_dSeqL, Option.map_some, inB, List.any_map]
  congr 3
  rw [List.contains_eq_any_beq]
  congr 1
  funext y
  simp only [Function.comp]
  rw [eqD_of (cmp_tints y).1 (cmp_tints l).1]
  simp only [D.same, sames_ints]
  rw [Bool.eq_iff_iff, beq_iff_eq, beq_iff_eq]
  exact eq_comm
theorem lw_body (ho : ord.length = n) (hn : n ≤ 50) (hb : ∀ x ∈ ord, x < n) {found : List (List Int)} {k : Nat} {c8 c9 c10 : Option D} (hk : k < n) (hf : found.length ≤ 1000) (e1 e2 e3 e4 : Option D) :
    ∃ b8 b9 b10, lwB [some (.int n), e1, e2, e3, e4, some (.lst (din ord)), some (.lst (found.map fun l => D.tup (dis l))), some (.int (k : Nat)), c8, c9, c10] p = .next [some (.int n), e1, e2, e3, e4, some (.lst (din ord)), some (.lst ((lawStep n ord found k).map fun l => D.tup (dis l))), some (.int (k : Nat)), b8, b9, b10] p := by
  obtain ⟨k', c10', h⟩ := lp_loop (p := p) (e0 := some (.int n)) (e1 := e1) (e2 := e2) (e3 := e3) (e4 := e4) (e6 := some (.lst (found.map fun l => D.tup (dis l)))) (e7 := some (.int (k : Nat))) ho hb n 0 [] k c10 hk (by simp; omega)
  rw [List.nil_append] at h
  have hs : dSortSet (.lst (din (orbL ord n k))) = some (.lst ((lotI n ord k).map D.int)) := by
    unfold dSortSet
    rw [v_dSeqL, Option.bind_some, toInts_din, Option.bind_some, if_pos (by rw [List.length_map, orbL_len]; omega)]
    rfl
  refine ⟨some (.tup (dis (lotI n ord k))), some (.int (k' : Nat)), c10', ?_⟩
  refine sq (e' := [some (.int n), e1, e2, e3, e4, some (.lst (din ord)), some (.lst (found.map fun l => D.tup (dis l))), some (.int (k : Nat)), some (.lst []), some (.int (k : Nat)), c10]) (p' := p) (par_ok (aso_cons (p1 := p) rfl (aso_cons (p1 := p) rfl rfl)) ⟨rfl, by decide, rfl⟩) ?_
  refine sq_for (ds := rngD 0 n) (p := p) (e' := [some (.int n), e1, e2, e3, e4, some (.lst (din ord)), some (.lst (found.map fun l => D.tup (dis l))), some (.int (k : Nat)), some (.lst (din (orbL ord n k))), some (.int (k' : Nat)), c10']) (p' := p) (rng_nat (j := n) rfl (by omega)) ?_ ?_
  · unfold rngD
    rw [List.range_eq_range']
    exact h
  refine sq_set (.tup (dis (lotI n ord k))) (un_ok (un_ok (p1 := p) rfl hs) rfl) ?_
  have hl : (found.map fun l => D.tup (dis l)).length < 16777216 := by rw [List.length_map]; omega
  unfold lawStep
  by_cases hc : found.contains (lotI n ord k) = true
  · rw [if_pos hc]
    exact if_f (p' := p) (tbl_ok (bin_ok (p1 := p) (p2 := p) rfl rfl (by rw [notin_tups, hc]; rfl))) rfl
  · rw [if_neg hc]
    refine if_t (p' := p) (tbl_ok (bin_ok (p1 := p) (p2 := p) rfl rfl (by rw [notin_tups, Bool.eq_false_iff.mpr hc]; rfl))) ?_
    rw [x_sApp]
    simp only [List.set_cons_succ, List.set_cons_zero, List.getElem?_cons_succ, List.getElem?_cons_zero, x_mVar, R.st_ok, sl_eq, hl, if_true, List.map_append, List.map_cons, List.map_nil]
theorem lawStep_len {found : List (List Int)} {k : Nat} : (lawStep n ord found k).length ≤ found.length + 1 := by
  unfold lawStep
  split <;> simp
theorem lw_loop (ho : ord.length = n) (hn : n ≤ 50) (hb : ∀ x ∈ ord, x < n) (e1 e2 e3 e4 : Option D) : ∀ (ks : List Nat) (found : List (List Int)) (c7 c8 c9 c10 : Option D), (∀ k ∈ ks, k < n) → found.length + ks.length ≤ 1000 →
    ∃ b7 b8 b9 b10, mFor (gtName 7) lwB (din ks) [some (.int n), e1, e2, e3, e4, some (.lst (din ord)), some (.lst (found.map fun l => D.tup (dis l))), c7, c8, c9, c10] p = .next [some (.int n), e1, e2, e3, e4, some (.lst (din ord)), some (.lst ((ks.foldl (lawStep n ord) found).map fun l => D.tup (dis l))), b7, b8, b9, b10] p
  | [], found, c7, c8, c9, c10, _, _ => ⟨c7, c8, c9, c10, rfl⟩
  | k :: ks, found, c7, c8, c9, c10, hk, hl => by
    simp only [List.length_cons] at hl
    obtain ⟨a8, a9, a10, h⟩ := lw_body (p := p) (c8 := c8) (c9 := c9) (c10 := c10) ho hn hb (hk k List.mem_cons_self) (show found.length ≤ 1000 by omega) e1 e2 e3 e4
    have := lawStep_len (n := n) (ord := ord) (found := found) (k := k)
    obtain ⟨b7, b8, b9, b10, h2⟩ := lw_loop ho hn hb e1 e2 e3 e4 ks (lawStep n ord found k) (some (.int (k : Nat))) a8 a9 a10 (fun j hj => hk j (List.mem_cons_of_mem _ hj)) (by omega)
    exact ⟨b7, b8, b9, b10, fo_cons rfl h h2⟩
end
end K75
namespace K75
open PySem L2 Mz Wm
variable {p : Pen}
theorem lr_ok {n : Nat} {w : List Int} (V : Val n w) (hn : n ≤ 4) : ∃ xs : List D, xs.length = cycW n w ∧ f__law_o_rounds_of_word [.int n, .lst (dis w)] p = .ok (.tup [.lst (din (orderN n w)), .lst xs]) p := by
  obtain ⟨v1, v2, v3, v4⟩ := id V
  have hp := hereR (fit_of v4)
  have ho : (orderN n w).length = n := by simp
  have hb : ∀ x ∈ orderN n w, x < n := by
    intro x hx
    obtain ⟨y, hy, rfl⟩ := List.mem_map.mp hx
    have := List.idxOf_lt_length_of_mem (hp.mem_iff.mpr hy)
    rw [here_len, List.length_range] at this
    exact this
  have r0 : dRngL (.int 0) (.int n) = some (.lst (din (List.range n))) := dRngL_0 (by omega)
  obtain ⟨c3, c4, hl⟩ := or_loopT (p := p) (d0 := .int n) (d1 := .lst (dis w)) (tl := [none, none, none, none, none, none]) w (List.range n) none none (by simp) v4
  have hlc := lc_pure (t := tYesM) (m := mIndex (mVar 2) (mVar 7)) (g := gtName 7) (e := [some (.int n), some (.lst (dis w)), some (.lst (din (here (List.range n) w))), c3, c4, none, none, none, none, none, none]) (enc := fun k : Nat => D.int (0 + (k : Int))) (out := fun k : Nat => D.int ((here (List.range n) w).idxOf k : Nat)) (keep := fun _ => true) (p := p) (List.range n) [] (fun y hy => by
    refine ⟨[some (.int n), some (.lst (dis w)), some (.lst (din (here (List.range n) w))), c3, c4, none, none, some (.int y), none, none, none], by simp, rfl, fun _ => ?_⟩
    have hm : y ∈ here (List.range n) w := hp.mem_iff.mpr hy
    have hd : dIndex (.lst (din (here (List.range n) w))) (.int y) = some (.int ((here (List.range n) w).idxOf y : Nat)) := by
      unfold dIndex
      rw [okE_of (cmp_din _), okE_of (cmp_int _)]
      simp [dLst, idxD_din y hm]
    show (R.ok (D.int y) p).bind (fun y p => lift (dIndex (.lst (din (here (List.range n) w))) y) p) = _
    rw [R.bind_ok, hd, lift_some]) (by simp; omega)
  rw [show (List.range n).filter (fun _ => true) = List.range n from List.filter_eq_self.mpr (fun _ _ => rfl), List.nil_append] at hlc
  obtain ⟨b7, b8, b9, b10, h2⟩ := lw_loop (p := p) ho (by omega) hb (some (.lst (dis w))) (some (.lst (din (here (List.range n) w)))) c3 c4 (List.range n) [] none none none none (fun k hk => List.mem_range.mp hk) (by simp; omega)
  refine ⟨(lawRounds n (orderN n w)).map fun l => D.tup (dis l), ?_, ?_⟩
  · rw [List.length_map]
    have h1 := allP_ok (List.all_eq_true.mp law_cyc_all n (List.mem_range.mpr (by omega))) hp
    have h3 := beq_iff_eq.mp h1
    unfold cycW
    rw [← h3]
    unfold ordOf
    rw [here_len, List.length_range]
  refine fd_ret (e := [some (.int n), some (.lst (dis w)), none, none, none, none, none, none, none, none, none]) rfl (sq_set (.lst (din (List.range n))) (un_ok (p1 := p) (x := .int n) rfl r0) (sq_for (ds := dis w) (p := p) rfl hl ?_))
  refine sq (a := sParN [5, 6] _) (e' := [some (.int n), some (.lst (dis w)), some (.lst (din (here (List.range n) w))), c3, c4, some (.lst (din (orderN n w))), some (.lst []), none, none, none, none]) (p' := p) (par_ok (aso_cons (p1 := p) ?_ (aso_cons (p1 := p) rfl rfl)) ⟨rfl, by decide, rfl⟩) ?_
  · rw [x_mLc, rng_nat (j := n) (p' := p) (by simp) (by omega)]
    refine Eq.trans hlc ?_
    simp [orderN]
  refine sq_for (ds := rngD 0 n) (p := p) (rng_nat (j := n) (p := p) rfl (by omega)) (e' := [some (.int n), some (.lst (dis w)), some (.lst (din (here (List.range n) w))), c3, c4, some (.lst (din (orderN n w))), some (.lst ((lawRounds n (orderN n w)).map fun l => D.tup (dis l))), b7, b8, b9, b10]) (p' := p) ?_ (ret_ok (tup_ok (as_cons (p1 := p) rfl (as_cons (p1 := p) rfl rfl)) (by simp)))
  rw [show rngD 0 n = din (List.range n) by simp [rngD]]
  exact h2
end K75
namespace K75
open PySem L2 Mz Wm
variable {p : Pen}
theorem draw_eq' : f__law_draw = f_draw := rfl
theorem listed_eq : f__law_listed = f_listed := rfl
abbrev Pos (w : List Int) : Prop := ∀ x ∈ w, 0 < x
abbrev Jn (n : Nat) (w : List Int) : Prop := ∀ k, 0 < k → k < n → Has w k
/-- the moves that are gone -/
def Gone (w : List Int) (d : D) : Prop := d = mTurn ∨ (∃ a, d = mFar a ∨ d = mThree a) ∨ (d = mStack 1 ∧ w.length < 11) ∨ d = mUnstack
theorem go_step {n : Nat} {s' : Int} {w w' : List Int} {d : D} (V : Val n w) (hp : Pos w) (hj : Jn n w) (hl : w.length ≤ 11) (h : Step n w d s' w') (hg : Gone w d) :
    ∃ n' : Nat, s' = n' ∧ Val n' w' ∧ Pos w' ∧ Jn n' w' ∧ w'.length ≤ 11 ∧ (w'.length : Int) - n' = w.length - n ∧ cycW n' w' = cycW n w := by
  have V' := val_step V h
  have hc := step_cyc V h
  obtain ⟨n', rfl⟩ := Int.eq_ofNat_of_zero_le (show 0 ≤ s' by have := V'.1; omega)
  rw [Int.toNat_natCast, Int.toNat_natCast] at hc
  refine ⟨n', rfl, V', ?_⟩
  have v1 := V.1
  have keep : ∀ {u : List Int}, (∀ x, x ∈ w → x ∈ u) → ∀ m : Nat, m ≤ n → Jn m u := fun hu m hm k k1 k2 => by
    obtain ⟨x, hx, e⟩ := hj k k1 (by omega)
    exact ⟨x, hu x hx, e⟩
  generalize hs : (n' : Int) = s' at h
  cases h with
  | turn x r =>
    obtain rfl : n' = n := by omega
    refine ⟨fun y hy => hp y (by simp at hy ⊢; exact hy.symm), keep (fun y hy => by simp at hy ⊢; exact hy.symm) _ (Nat.le_refl _), by simp at hl ⊢; omega, by simp, hc⟩
  | unstack w x h1 h2 h3 =>
    have hx := hp x (by simp)
    refine ⟨fun y hy => hp y (by simp [hy]), fun k k1 k2 => ?_, by simp at hl ⊢; omega, by simp; omega, hc⟩
    obtain ⟨y, hy, e⟩ := hj k k1 (by omega)
    rcases List.mem_append.mp hy with hy | hy
    · exact ⟨y, hy, e⟩
    · rw [List.mem_singleton.mp hy] at e
      simp only [ab] at h2
      split at h2 <;> omega
  | take u v x y h1 => rcases hg with e | ⟨a, e | e⟩ | ⟨e, _⟩ | e <;> simp at e <;> exact absurd e.1 (by decide)
  | far u v x y h1 =>
    obtain rfl : n' = n := by omega
    have hm : ∀ z, z ∈ u ++ x :: y :: v ↔ z ∈ u ++ y :: x :: v := fun z => by simp [or_left_comm]
    exact ⟨fun z hz => hp z ((hm z).mpr hz), keep (fun z hz => (hm z).mp hz) _ (Nat.le_refl _), by simp at hl ⊢; omega, by simp, hc⟩
  | three u v x y h1 h2 =>
    obtain rfl : n' = n := by omega
    have hm : ∀ z, z ∈ u ++ x :: y :: x :: v ↔ z ∈ u ++ y :: x :: y :: v := fun z => by
      simp only [List.mem_append, List.mem_cons]
      constructor
      · rintro (h | h | h | h | h) <;> simp [h]
      · rintro (h | h | h | h | h) <;> simp [h]
    exact ⟨fun z hz => hp z ((hm z).mpr hz), keep (fun z hz => (hm z).mp hz) _ (Nat.le_refl _), by simp at hl ⊢; omega, by simp, hc⟩
  | put u v x h1 h2 h3 => rcases hg with e | ⟨a, e | e⟩ | ⟨e, _⟩ | e <;> simp at e <;> exact absurd e.1 (by decide)
  | stack w x h1 h2 h3 =>
    have hx : x = 1 ∧ w.length < 11 := by
      rcases hg with e | ⟨a, e | e⟩ | ⟨e, q⟩ | e
      · simp at e
      · simp at e; exact absurd e.1 (by decide)
      · simp at e; exact absurd e.1 (by decide)
      · simp at e; exact ⟨e, q⟩
      · simp at e
    obtain ⟨rfl, hl2⟩ := hx
    obtain rfl : n' = n + 1 := by omega
    refine ⟨fun y hy => ?_, fun k k1 k2 => ?_, by simp; omega, by simp; omega, hc⟩
    · rcases List.mem_append.mp hy with hy | hy
      · exact hp y hy
      · rw [List.mem_singleton.mp hy]; omega
    · by_cases hk : k = n
      · exact ⟨1 * (n : Int), by simp, by omega⟩
      · obtain ⟨x, hx, e⟩ := hj k k1 (by omega)
        exact ⟨x, by simp [hx], e⟩
end K75
namespace K75
open PySem L2 Mz Wm
variable {p : Pen}
def goT : M Bool := (tOrM (tBl (mBin dInS (mBin dIx (mVar 12) (mC (.int 0))) (mLst (maCons (mC (.str "turn")) (maCons (mC (.str "far")) (maCons (mC (.str "three")) maNil)))))) (tOrM (tAndM (tBl (mBin dEq (mVar 12) (mTup (maCons (mC (.str "stack")) (maCons (mC (.int 1)) maNil))))) (tBl (mBin dLt (mUn dLen (mVar 10)) (mC (.int 11))))) (tBl (mBin dEq (mVar 12) (mTup (maCons (mC (.str "unstack")) maNil))))))
theorem in3 (x : String) : dInS (.str (x : Str)) (.lst [.str "turn", .str "far", .str "three"]) = some (.bl (["turn", "far", "three"].any fun y => y == x)) :=
  in_st x ["turn", "far", "three"] rfl (okE_of (cmp_strs ["turn", "far", "three"]))
theorem goT_ok {e : Mz.Env} {w : List Int} {x : String} {l : List Int} (h10 : e[10]? = some (some (.lst (dis w)))) (h12 : e[12]? = some (some (.tup (.str (x : Str) :: dis l)))) :
    goT e p = .ok ((["turn", "far", "three"].any fun y => y == x) || ((x == "stack" && l == [1]) && decide ((w.length : Int) < 11)) || (x == "unstack" && l == [])) p := by
  have a1 : (mBin dIx (mVar 12) (mC (.int 0))) e p = .ok (.str (x : Str)) p := bin_ok (p1 := p) (p2 := p) (x := .tup (.str (x : Str) :: dis l)) (y := .int 0) (by simp [h12]) rfl (by simp)
  have a2 := eq_mv x "stack" l [1]
  have a3 := eq_mv x "unstack" l []
  have t1 : tBl (mBin dInS (mBin dIx (mVar 12) (mC (.int 0))) (mLst (maCons (mC (.str "turn")) (maCons (mC (.str "far")) (maCons (mC (.str "three")) maNil))))) e p = .ok (["turn", "far", "three"].any fun y => y == x) p :=
    tbl_ok (bin_ok (p2 := p) a1 (lst_ok (as_cons (p1 := p) rfl (as_cons (p1 := p) rfl (as_cons (p1 := p) rfl rfl))) (by simp)) (in3 x))
  have t2 : tBl (mBin dEq (mVar 12) (mTup (maCons (mC (.str "stack")) (maCons (mC (.int 1)) maNil)))) e p = .ok (x == "stack" && l == [1]) p :=
    tbl_ok (bin_ok (p1 := p) (p2 := p) (x := .tup (.str (x : Str) :: dis l)) (by simp [h12]) (tup_ok (as_cons (p1 := p) rfl (as_cons (p1 := p) rfl rfl)) (by simp)) a2)
  have t3 : tBl (mBin dEq (mVar 12) (mTup (maCons (mC (.str "unstack")) maNil))) e p = .ok (x == "unstack" && l == []) p :=
    tbl_ok (bin_ok (p1 := p) (p2 := p) (x := .tup (.str (x : Str) :: dis l)) (by simp [h12]) (tup_ok (as_cons (p1 := p) rfl rfl) (by simp)) a3)
  have t4 : tBl (mBin dLt (mUn dLen (mVar 10)) (mC (.int 11))) e p = .ok (decide ((w.length : Int) < 11)) p :=
    tbl_ok (bin_ok (p1 := p) (p2 := p) (x := .int w.length) (y := .int 11) (by simp [h10]) rfl (by simp))
  unfold goT
  cases hA : (["turn", "far", "three"].any fun y => y == x) with
  | true =>
    rw [hA] at t1
    rw [tor_t t1]
    rfl
  | false =>
    rw [hA] at t1
    refine tor_f t1 ?_
    cases hB : (x == "stack" && l == [1]) with
    | false =>
      rw [hB] at t2
      rw [tor_f (bb := (x == "unstack" && l == [])) (tand_f t2) t3]
      simp
    | true =>
      rw [hB] at t2
      cases hC : decide ((w.length : Int) < 11) with
      | true =>
        rw [hC] at t4
        rw [tor_t (tand_t t2 t4)]
        rfl
      | false =>
        rw [hC] at t4
        rw [tor_f (bb := (x == "unstack" && l == [])) (tand_t t2 t4) t3]
        simp
def stpB : MS := (sSeq (sSet 12 (mCall f__law_o_some_word_move (maCons (mVar 1) (maCons (mVar 9) (maCons (mVar 10) maNil)))))
    (sIf goT (sAsg (gtTup (gtCons (gtName 9) (gtCons (gtName 10) gtNil))) (mCall f__law_o_word_led (maCons (mVar 9) (maCons (mVar 10) (maCons (mVar 12) maNil))))) sNext))
theorem go_of {n : Nat} {s' : Int} {w w' : List Int} {d : D} (V : Val n w) (h : Step n w d s' w') : ∃ (x : String) (l : List Int), d = .tup (.str (x : Str) :: dis l) ∧
    (((["turn", "far", "three"].any fun y => y == x) || ((x == "stack" && l == [1]) && decide ((w.length : Int) < 11)) || (x == "unstack" && l == [])) = true → Gone w d) := by
  cases h with
  | turn x r => exact ⟨"turn", [], rfl, fun _ => .inl rfl⟩
  | unstack w x h1 h2 h3 => exact ⟨"unstack", [], rfl, fun _ => .inr (.inr (.inr rfl))⟩
  | take u v x y h1 => exact ⟨"take", [u.length], rfl, fun q => by simp at q⟩
  | far u v x y h1 => exact ⟨"far", [u.length], rfl, fun _ => .inr (.inl ⟨_, .inl rfl⟩)⟩
  | three u v x y h1 h2 => exact ⟨"three", [u.length], rfl, fun _ => .inr (.inl ⟨_, .inr rfl⟩)⟩
  | put u v x h1 h2 h3 => exact ⟨"put", [u.length, x], rfl, fun q => by simp at q⟩
  | stack w x h1 h2 h3 =>
    refine ⟨"stack", [x], rfl, fun q => ?_⟩
    simp at q
    obtain ⟨rfl, q2⟩ := q
    exact .inr (.inr (.inl ⟨rfl, by omega⟩))
theorem stp_body {n : Nat} {w : List Int} {k : Nat} {c2 c3 c4 c5 c6 c7 c8 c11 c12 : Option D} {tl : Mz.Env} (V : Val n w) (hp : Pos w) (hj : Jn n w) (hl : w.length ≤ 11) (G : Good (k + 4) p) :
    ∃ (n2 : Nat) (w2 : List Int) (c12' : Option D) (p' : Pen), stpB (none :: some .pen :: c2 :: c3 :: c4 :: c5 :: c6 :: c7 :: c8 :: some (.int n) :: some (.lst (dis w)) :: c11 :: c12 :: tl) p = .next (none :: some .pen :: c2 :: c3 :: c4 :: c5 :: c6 :: c7 :: c8 :: some (.int n2) :: some (.lst (dis w2)) :: c11 :: c12' :: tl) p' ∧
      Val n2 w2 ∧ Pos w2 ∧ Jn n2 w2 ∧ w2.length ≤ 11 ∧ (w2.length : Int) - n2 = w.length - n ∧ cycW n2 w2 = cycW n w ∧ Good k p' := by
  have hne : w ≠ [] ∨ (n : Int) < 6 := by
    by_cases h : (n : Int) < 6
    · exact .inr h
    · refine .inl fun z => ?_
      obtain ⟨x, hx, _⟩ := hj 1 (by omega) (by omega)
      rw [z] at hx
      cases hx
  obtain ⟨d, p', e1, G', s2, w2, h2, e2⟩ := some_move (p := p) (k := k) V hne G
  obtain ⟨x, l, rfl, hg⟩ := go_of V h2
  have ht := goT_ok (p := p') (e := (none :: some .pen :: c2 :: c3 :: c4 :: c5 :: c6 :: c7 :: c8 :: some (.int n) :: some (.lst (dis w)) :: c11 :: some (.tup (.str (x : Str) :: dis l)) :: tl)) (w := w) (x := x) (l := l) rfl rfl
  cases hb : ((["turn", "far", "three"].any fun y => y == x) || ((x == "stack" && l == [1]) && decide ((w.length : Int) < 11)) || (x == "unstack" && l == [])) with
  | false =>
    rw [hb] at ht
    exact ⟨n, w, some (.tup (.str (x : Str) :: dis l)), p', sq_setd (p' := p') _ (call_ok rfl e1) (if_f ht rfl), V, hp, hj, hl, rfl, rfl, G'⟩
  | true =>
    rw [hb] at ht
    obtain ⟨n2, rfl, V2, p2, j2, l2, q1, q2⟩ := go_step V hp hj hl h2 (hg hb)
    refine ⟨n2, w2, some (.tup (.str (x : Str) :: dis l)), p', sq_setd (p' := p') _ (call_ok rfl e1) (if_t ht ?_), V2, p2, j2, l2, q1, q2, G'⟩
    rw [x_sAsg, call_ok (p1 := p') rfl (e2 p')]
    rfl
theorem stp_loop {n : Nat} {w : List Int} {k : Nat} {c2 c3 c4 c5 c6 c7 c8 c11 c12 : Option D} {tl : Mz.Env} (V : Val n w) (hp : Pos w) (hj : Jn n w) (hl : w.length ≤ 11) (G : Good (k + 12) p) :
    ∃ (n2 : Nat) (w2 : List Int) (c11' c12' : Option D) (p' : Pen), mFor (gtName 11) stpB (rngD 0 3) (none :: some .pen :: c2 :: c3 :: c4 :: c5 :: c6 :: c7 :: c8 :: some (.int n) :: some (.lst (dis w)) :: c11 :: c12 :: tl) p = .next (none :: some .pen :: c2 :: c3 :: c4 :: c5 :: c6 :: c7 :: c8 :: some (.int n2) :: some (.lst (dis w2)) :: c11' :: c12' :: tl) p' ∧
      Val n2 w2 ∧ Pos w2 ∧ Jn n2 w2 ∧ w2.length ≤ 11 ∧ (w2.length : Int) - n2 = w.length - n ∧ cycW n2 w2 = cycW n w ∧ Good k p' := by
  obtain ⟨e', p', h1, h2⟩ := for_inv (g := gtName 11) (body := stpB) (ds := rngD 0 3) (e := (none :: some .pen :: c2 :: c3 :: c4 :: c5 :: c6 :: c7 :: c8 :: some (.int n) :: some (.lst (dis w)) :: c11 :: c12 :: tl)) (p := p)
    (fun i e q => ∃ (n2 : Nat) (w2 : List Int) (c11' c12' : Option D), e = (none :: some .pen :: c2 :: c3 :: c4 :: c5 :: c6 :: c7 :: c8 :: some (.int n2) :: some (.lst (dis w2)) :: c11' :: c12' :: tl) ∧ Val n2 w2 ∧ Pos w2 ∧ Jn n2 w2 ∧ w2.length ≤ 11 ∧ (w2.length : Int) - n2 = w.length - n ∧ cycW n2 w2 = cycW n w ∧ Good (k + 4 * (3 - i)) q)
    ⟨n, w, c11, c12, rfl, V, hp, hj, hl, rfl, rfl, G.le (by omega)⟩ (by
    rintro i d e q hd ⟨n1, w1, a11, a12, rfl, V1, p1, j1, l1, q1, q2, G1⟩
    obtain ⟨hi, rfl⟩ := rngD_get0 hd
    obtain ⟨n2, w2, b12, q', e1, V2, p2, j2, l2, r1, r2, G2⟩ := stp_body (p := q) (k := k + 4 * (3 - (i + 1))) (c2 := c2) (c3 := c3) (c4 := c4) (c5 := c5) (c6 := c6) (c7 := c7) (c8 := c8) (c11 := some (.int i)) (c12 := a12) (tl := tl) V1 p1 j1 l1 (G1.le (by omega))
    exact ⟨_, _, q', rfl, .inl e1, n2, w2, _, _, rfl, V2, p2, j2, l2, by omega, by omega, G2⟩)
  obtain ⟨n2, w2, a11, a12, rfl, V2, p2, j2, l2, q1, q2, G2⟩ := h2
  rw [rngD_len0] at G2
  exact ⟨n2, w2, a11, a12, p', h1, V2, p2, j2, l2, q1, q2, G2.le (by omega)⟩
end K75
namespace K75
open PySem L2 Mz Wm
variable {p : Pen}
theorem dis_of {xs : List D} {P : Int → Prop} (h : ∀ d ∈ xs, ∃ x : Int, d = .int x ∧ P x) : ∃ w : List Int, xs = dis w ∧ ∀ x ∈ w, P x := by
  induction xs with
  | nil => exact ⟨[], rfl, by simp⟩
  | cons d xs ih =>
    obtain ⟨x, rfl, hx⟩ := h d List.mem_cons_self
    obtain ⟨w, rfl, hw⟩ := ih fun y hy => h y (List.mem_cons_of_mem _ hy)
    exact ⟨x :: w, rfl, fun y hy => by
      rcases List.mem_cons.mp hy with rfl | hy
      · exact hx
      · exact hw y hy⟩
def wdM : M D := (mIf (tBl (mBin dGt (mVar 3) (mC (.int 1)))) (mLc (miRng1 (mCall f__law_draw (maCons (mVar 1) (maCons (mC (.int 9)) maNil)))) (gtName 5) tYesM (mBin dAdd (mC (.int 1)) (mCall f__law_draw (maCons (mVar 1) (maCons (mBin dSub (mVar 3) (mC (.int 1))) maNil)))) [5]) (mLst maNil))
theorem wd_ok {n k : Nat} {c2 c4 c5 : Option D} {tl : Mz.Env} (h1 : 1 ≤ n) (h2 : n ≤ 4) (G : Good (k + 9) p) : ∃ (w : List Int) (p' : Pen), wdM (none :: some .pen :: c2 :: some (.int n) :: c4 :: c5 :: tl) p = .ok (.lst (dis w)) p' ∧ (∀ x ∈ w, 0 < x ∧ x < n) ∧ w.length ≤ 8 ∧ Good k p' := by
  by_cases hn : n = 1
  · subst hn
    exact ⟨[], p, mif_f (p1 := p) (by simp) rfl, by simp, by simp, G.le⟩
  · obtain ⟨r, p1, e1, r0, r1, G1⟩ := draw_ok (many := 9) (k := k + 8) G (by omega) (by omega)
    obtain ⟨m, rfl⟩ := Int.eq_ofNat_of_zero_le r0
    obtain ⟨xs, p2, e2, l2, P2, G2⟩ := lc_any (t := tYesM) (m := (mBin dAdd (mC (.int 1)) (mCall f__law_draw (maCons (mVar 1) (maCons (mBin dSub (mVar 3) (mC (.int 1))) maNil))))) (g := gtName 5) (e := (none :: some .pen :: c2 :: some (.int n) :: c4 :: none :: tl)) (fun d => ∃ x : Int, d = .int x ∧ (0 < x ∧ x < n)) 1 k (rngD 0 m) [] p1 (by
      intro d hd k' q Gq
      obtain ⟨y, q2, f2, y0, y1, G2⟩ := draw_ok (k := k') (many := (n : Int) - 1) Gq (by omega) (by omega)
      refine ⟨(none :: some .pen :: c2 :: some (.int n) :: c4 :: some d :: tl), rfl, rfl, .int (1 + y), q2, ?_, ⟨_, rfl, by omega⟩, G2⟩
      exact bin_ok (p1 := q) (x := .int 1) rfl (call_ok (as_cons (p1 := q) rfl (as_cons (p1 := q) (bin_ok (p1 := q) (p2 := q) (x := .int n) (y := .int 1) rfl rfl rfl) rfl)) f2) rfl) (by
      rw [rngD_len0]
      exact G1.le (by omega)) (by simp [rngD_len0]; omega)
    obtain ⟨w, rfl, hw⟩ := dis_of P2
    rw [rngD_len0, List.length_map] at l2
    have h0 : (1 : Int) < n := by omega
    refine ⟨w, p2, mif_t (p1 := p) (by simp [h0]) ?_, hw, by omega, G2⟩
    have g1 : miRng1 (mCall f__law_draw (maCons (mVar 1) (maCons (mC (.int 9)) maNil))) (none :: some .pen :: c2 :: some (.int n) :: c4 :: c5 :: tl) p = .ok (rngD 0 m) p1 := rng_nat (j := m) (p' := p1) (call_ok (as_cons (p1 := p) rfl (as_cons (p1 := p) rfl rfl)) e1) (by omega)
    rw [x_mLc, g1]
    exact e2
def flB : MS := (sSet 4 (mBin dAdd (mVar 4) (mIf (tAndM (tBl (mBin dNotInS (mVar 5) (mVar 4))) (tBl (mBin dGt (mCall f__law_draw (maCons (mVar 1) (maCons (mC (.int 8)) maNil))) (mC (.int 0))))) (mLst (maCons (mVar 5) maNil)) (mLst maNil))))
theorem fl_loop {n k : Nat} {c2 : Option D} {tl : Mz.Env} : ∀ (f j : Nat) (w : List Int) (c5 : Option D) (p : Pen), 1 ≤ j → j + f ≤ n → (∀ x ∈ w, 0 < x ∧ x < n) → w.length + f ≤ 1000 → Good (k + f) p →
    ∃ (w' : List Int) (c5' : Option D) (p' : Pen), mFor (gtName 5) flB ((List.range' j f).map fun i : Nat => D.int (i : Int)) (none :: some .pen :: c2 :: some (.int n) :: some (.lst (dis w)) :: c5 :: tl) p = .next (none :: some .pen :: c2 :: some (.int n) :: some (.lst (dis w')) :: c5' :: tl) p' ∧ (∀ x ∈ w', 0 < x ∧ x < n) ∧ w'.length ≤ w.length + f ∧ Good k p'
  | 0, j, w, c5, p, _, _, hw, _, G => ⟨w, c5, p, rfl, hw, by omega, G⟩
  | f + 1, j, w, c5, p, h1, h2, hw, hl, G => by
    have body : ∃ (w1 : List Int) (p1 : Pen), flB (none :: some .pen :: c2 :: some (.int n) :: some (.lst (dis w)) :: some (.int j) :: tl) p = .next (none :: some .pen :: c2 :: some (.int n) :: some (.lst (dis w1)) :: some (.int j) :: tl) p1 ∧ (∀ x ∈ w1, 0 < x ∧ x < n) ∧ w1.length ≤ w.length + 1 ∧ Good (k + f) p1 := by
      have hadd : ∀ u : List Int, u.length ≤ 1 → dAdd (.lst (dis w)) (.lst (dis u)) = some (.lst (dis (w ++ u))) := fun u hu => by
        rw [v_dAddL, if_pos (by rw [sl_eq]; simp only [List.length_map]; omega), ← List.map_append]
      have fin : ∀ (m : M D) (u : List Int) (p1 : Pen), u.length ≤ 1 → m (none :: some .pen :: c2 :: some (.int n) :: some (.lst (dis w)) :: some (.int j) :: tl) p = .ok (.lst (dis u)) p1 → (sSet 4 (mBin dAdd (mVar 4) m)) (none :: some .pen :: c2 :: some (.int n) :: some (.lst (dis w)) :: some (.int j) :: tl) p = .next (none :: some .pen :: c2 :: some (.int n) :: some (.lst (dis (w ++ u))) :: some (.int j) :: tl) p1 := fun m u p1 hu hm => by
        rw [x_sSet, bin_ok (p1 := p) (x := .lst (dis w)) rfl hm (hadd u hu)]
        rfl
      by_cases hc : w.contains (j : Int) = true
      · exact ⟨w ++ [], p, fin _ [] p (by simp) (mif_f (p1 := p) (tand_f (tbl_ok (bin_ok (p1 := p) (p2 := p) rfl rfl (by rw [notin_dis, hc]; rfl)))) rfl), by simpa using hw, by simp, G.le⟩
      · obtain ⟨r, p1, e1, r0, r1, G1⟩ := draw_ok (many := 8) (k := k + f) (p := p) (G.le (by omega)) (by omega) (by omega)
        have hd : (mCall f__law_draw (maCons (mVar 1) (maCons (mC (.int 8)) maNil))) (none :: some .pen :: c2 :: some (.int n) :: some (.lst (dis w)) :: some (.int j) :: tl) p = .ok (.int r) p1 := call_ok (as_cons (p1 := p) rfl (as_cons (p1 := p) rfl rfl)) e1
        have hn : tBl (mBin dNotInS (mVar 5) (mVar 4)) (none :: some .pen :: c2 :: some (.int n) :: some (.lst (dis w)) :: some (.int j) :: tl) p = .ok true p := tbl_ok (bin_ok (p1 := p) (p2 := p) rfl rfl (by rw [notin_dis, Bool.eq_false_iff.mpr hc]; rfl))
        by_cases hr : 0 < r
        · refine ⟨w ++ [(j : Int)], p1, fin _ [(j : Int)] p1 (by simp) (mif_t (p1 := p1) (tand_t hn (tbl_ok (bin_ok (x := .int r) (y := .int 0) (p2 := p1) hd rfl (by simp [hr])))) rfl), fun x hx => ?_, by simp, G1⟩
          rcases List.mem_append.mp hx with hx | hx
          · exact hw x hx
          · rw [List.mem_singleton.mp hx]; omega
        · exact ⟨w ++ [], p1, fin _ [] p1 (by simp) (mif_f (p1 := p1) (tand_t hn (tbl_ok (bin_ok (x := .int r) (y := .int 0) (p2 := p1) hd rfl (by simp [hr])))) rfl), by simpa using hw, by simp, G1⟩
    obtain ⟨w1, p1, e1, hw1, hl1, G1⟩ := body
    obtain ⟨w', c5', p', e2, hw2, hl2, G2⟩ := fl_loop (k := k) (c2 := c2) (tl := tl) f (j + 1) w1 (some (.int j)) p1 (by omega) (by omega) hw1 (by omega) G1
    refine ⟨w', c5', p', ?_, hw2, by omega, G2⟩
    rw [List.range'_succ, List.map_cons]
    exact fo_cons rfl e1 e2
theorem val_of {n : Nat} {w : List Int} (h1 : 1 ≤ n) (h2 : n ≤ 4) (hw : ∀ x ∈ w, 0 < x ∧ x < n) (hl : w.length ≤ 11) : Val n w ∧ Pos w := ⟨⟨by omega, by omega, by omega, fun x hx => by
  have := hw x hx
  simp only [ab]
  split <;> omega⟩, fun x hx => (hw x hx).1⟩
/-- the gaps -/
def gapsI (n : Nat) (w : List Int) : List Int := ((List.range' 1 (n - 1)).map fun i : Nat => (i : Int)).filter fun k => !w.contains k
theorem mem_gaps {n : Nat} {w : List Int} (hw : Pos w) {k : Int} : k ∈ gapsI n w ↔ ∃ m : Nat, k = m ∧ 0 < m ∧ m < n ∧ ¬ Has w m := by
  unfold gapsI
  rw [List.mem_filter, List.mem_map]
  constructor
  · rintro ⟨⟨m, hm, rfl⟩, hc⟩
    rw [List.mem_range'_1] at hm
    refine ⟨m, rfl, by omega, by omega, fun ⟨x, hx, e⟩ => ?_⟩
    have h0 := hw x hx
    have : x = (m : Int) := by omega
    subst this
    simp [hx] at hc
  · rintro ⟨m, rfl, h1, h2, h3⟩
    refine ⟨⟨m, List.mem_range'_1.mpr (by omega), rfl⟩, ?_⟩
    simp only [Bool.not_eq_true', List.contains_eq_mem, decide_eq_false_iff_not]
    intro hm
    exact h3 ⟨m, hm, by simp⟩
theorem rng1n {n : Nat} (h : 1 ≤ n) : rngD 1 ((n : Int) - 1).toNat = (List.range' 1 (n - 1)).map fun i : Nat => D.int (i : Int) := by
  rw [show ((n : Int) - 1).toNat = n - 1 by omega, rngD1, List.range'_eq_map_range]
  simp only [List.map_map, Function.comp_def]
  apply List.map_congr_left
  intro k _
  congr 1
  omega
theorem gaps_ok {n : Nat} {w : List Int} {c2 c5 : Option D} {tl : Mz.Env} (h1 : 1 ≤ n) (h2 : n ≤ 4) : (mLc (miRng2 (mC (.int 1)) (mVar 3)) (gtName 5) (tBl (mBin dNotInS (mVar 5) (mVar 4))) (mVar 5) [5]) (none :: some .pen :: c2 :: some (.int n) :: some (.lst (dis w)) :: c5 :: tl) p = .ok (.lst (dis (gapsI n w))) p := by
  have h := lc_pure (t := tBl (mBin dNotInS (mVar 5) (mVar 4))) (m := mVar 5) (g := gtName 5) (e := (none :: some .pen :: c2 :: some (.int n) :: some (.lst (dis w)) :: none :: tl)) (enc := D.int) (out := D.int) (keep := fun k => !w.contains k) (p := p) ((List.range' 1 (n - 1)).map fun i : Nat => (i : Int)) [] (fun x _ => ⟨(none :: some .pen :: c2 :: some (.int n) :: some (.lst (dis w)) :: some (.int x) :: tl), rfl, tbl_ok (bin_ok (p1 := p) (p2 := p) rfl rfl (notin_dis x w)), fun _ => rfl⟩) (by simp; omega)
  rw [x_mLc, rng2_ok (i := 1) (j := n) (p' := p) (p2 := p) rfl rfl (by omega) (by omega) (by omega) (by omega), R.bind_ok, rng1n h1]
  rw [List.nil_append, List.map_map] at h
  exact h
end K75
namespace K75
open PySem L2 Mz Wm
variable {p : Pen}
theorem hdl_joined (k : Int) : hdlOf hl ⟨4, [("answer", .ins 6 [("k", .int k)])]⟩ p = .ok (.tup [.str "joined", .int k]) p := rfl
theorem hdl_pos (k : Int) : hdlOf hl ⟨3, [("answer", .ins 8 [("index", .int k)])]⟩ p = .ok (.tup [.str "positive", .int k]) p := rfl
theorem row_of {w : List Int} {W : D} (h : W = .lst (dis w) ∨ W = .tup (dis w)) : RowOf W w := by
  rcases h with rfl | rfl
  · exact row_l w
  · exact row_t w
/-- what is heard of a word -/
theorem heard_ok {n k : Nat} {w : List Int} {c2 c5 c6 : Option D} {tl : Mz.Env} (V : Val n w) (hp : Pos w) (G : Good (k + 1) p) :
    (Jn n w ∧ ∃ p', mHearC "ok" kn hl [0] lamd (mC (.clo 0)) (none :: some .pen :: c2 :: some (.int n) :: some (.lst (dis w)) :: c5 :: c6 :: tl) p = .ok (.tup [.str "ok", .int ((2 + (w.length : Int) - n - cycW n w) / 2)]) p' ∧ Good k p') ∨
    (∃ m : Nat, 0 < m ∧ m < n ∧ ¬ Has w m ∧ ∃ p', mHearC "ok" kn hl [0] lamd (mC (.clo 0)) (none :: some .pen :: c2 :: some (.int n) :: some (.lst (dis w)) :: c5 :: c6 :: tl) p = .ok (.tup [.str "joined", .int m]) p' ∧ Good k p') := by
  obtain ⟨W, p1, e1, hW, G1⟩ := listed_ok (xs := dis w) (k := k) (p := p) G
  have hl0 : (mCall f__law_listed (maCons (mVar 1) (maCons (mVar 4) maNil))) (none :: some .pen :: c2 :: some (.int n) :: some (.lst (dis w)) :: c5 :: c6 :: tl) p = .ok W p1 := call_ok (as_cons (p1 := p) rfl (as_cons (p1 := p) rfl rfl)) e1
  have hla : ∀ r, f_word_genus [.int n, W] p1 = r → lamd 0 (none :: some .pen :: c2 :: some (.int n) :: some (.lst (dis w)) :: c5 :: c6 :: tl) p = r := fun r h => call_ok (as_cons (p1 := p) rfl (as_cons hl0 rfl)) h
  rcases wg_ok (p := p1) V hp (row_of hW) with ⟨hj, h⟩ | ⟨m, m1, m2, m3, h⟩
  · refine .inl ⟨hj, p1, ?_, G1⟩
    show mHear "ok" kn hl (lamd 0) _ p = _
    unfold mHear
    rw [hla _ h]
  · refine .inr ⟨m, m1, m2, m3, p1, ?_, G1⟩
    show mHear "ok" kn hl (lamd 0) _ p = _
    unfold mHear
    rw [hla _ h]
    exact hdl_joined _
theorem dAnd1 {d : Int} (h : 0 ≤ d) (h2 : d % 2 = 0) : dEq (.int (Builtin.bitAnd d 1)) (.int 1) = some (.bl false) := by
  have e : Builtin.bitAnd d 1 = 0 := by
    obtain ⟨m, rfl⟩ := Int.eq_ofNat_of_zero_le h
    have : Builtin.bitAnd (m : Int) 1 = ((m &&& 1 : Nat) : Int) := rfl
    rw [this, Nat.and_one_is_mod]
    omega
  rw [v_dEqI, e]
  rfl
theorem ne_t (a : Int) (n : Int) (l : List Int) : dNe (.tup [.int n, .tup (dis l)]) (.tup [.int n, .tup (dis l)]) = some (.bl false) := by
  have hc : (D.tup [.int n, .tup (dis l)]).cmp := cmp_tup (by
    intro x hx
    rcases List.mem_cons.mp hx with rfl | hx
    · exact ⟨by simp [D.plain], by simp [D.deep]⟩
    · rw [List.mem_singleton.mp hx]; exact ⟨(cmp_tints l).1, by simp only [D.deep, deeps_ints]; decide⟩)
  rw [dNe_of hc hc, same_self hc.1]
  rfl
def lastIf : MS := (sIf (tOrM (tBl (mBin dNe (mCall f_word_genus (maCons (mVar 9) (maCons (mVar 10) maNil))) (mBin dIx (mVar 7) (mC (.int 1))))) (tBl (mBin dNe (mCall f_word_led (maCons (mVar 3) (maCons (mVar 4) (maCons (mBin dMul (mLst (maCons (mTup (maCons (mC (.str "turn")) maNil)) maNil)) (mUn dInt (mBin dNe (mVar 4) (mLst maNil)))) maNil)))) (mTup (maCons (mVar 3) (maCons (mUn dTuple (mBin dAdd (mSl (mVar 4) (moSome (mC (.int 1))) moNone) (mSl (mVar 4) moNone (moSome (mC (.int 1)))))) maNil)))))) (sRet (mC (.bl false))) sNext)
theorem last_ok {n n2 : Nat} {w w2 : List Int} {g : Int} {c2 c5 c6 c8 c11 c12 : Option D} {tl : Mz.Env} (V : Val n w) (hl : w.length ≤ 11) (V2 : Val n2 w2) (p2 : Pos w2) (j2 : Jn n2 w2) (hg : (2 + (w2.length : Int) - n2 - cycW n2 w2) / 2 = g) :
    lastIf (none :: some .pen :: c2 :: some (.int n) :: some (.lst (dis w)) :: c5 :: c6 :: some (.tup [.str "ok", .int g]) :: c8 :: some (.int n2) :: some (.lst (dis w2)) :: c11 :: c12 :: tl) p = .next (none :: some .pen :: c2 :: some (.int n) :: some (.lst (dis w)) :: c5 :: c6 :: some (.tup [.str "ok", .int g]) :: c8 :: some (.int n2) :: some (.lst (dis w2)) :: c11 :: c12 :: tl) p := by
  have h1 : f_word_genus [.int n2, .lst (dis w2)] p = .ok (.int g) p := by
    rcases wg_ok (p := p) V2 p2 (row_l w2) with ⟨_, h⟩ | ⟨m, m1, m2, m3, _⟩
    · rw [← hg]; exact h
    · exact absurd (j2 m m1 m2) m3
  have t1 : tBl (mBin dNe (mCall f_word_genus (maCons (mVar 9) (maCons (mVar 10) maNil))) (mBin dIx (mVar 7) (mC (.int 1)))) (none :: some .pen :: c2 :: some (.int n) :: some (.lst (dis w)) :: c5 :: c6 :: some (.tup [.str "ok", .int g]) :: c8 :: some (.int n2) :: some (.lst (dis w2)) :: c11 :: c12 :: tl) p = .ok false p :=
    tbl_ok (bin_ok (x := .int g) (y := .int g) (p2 := p) (call_ok (as_cons (p1 := p) rfl (as_cons (p1 := p) rfl rfl)) h1) (bin_ok (p1 := p) (p2 := p) (x := .tup [.str "ok", .int g]) (y := .int 1) rfl rfl (by simp)) (by simp))
  refine if_f (p' := p) (tor_f t1 ?_) rfl
  have e1 : cutD (dis w) (some 1) none = dis (w.drop 1) := by have := cut_ge (dis w) 1; simpa using this
  have e2 : cutD (dis w) none (some 1) = dis (w.take 1) := by have := cut_le (dis w) 1; simpa using this
  have rhs : (mTup (maCons (mVar 3) (maCons (mUn dTuple (mBin dAdd (mSl (mVar 4) (moSome (mC (.int 1))) moNone) (mSl (mVar 4) moNone (moSome (mC (.int 1)))))) maNil))) (none :: some .pen :: c2 :: some (.int n) :: some (.lst (dis w)) :: c5 :: c6 :: some (.tup [.str "ok", .int g]) :: c8 :: some (.int n2) :: some (.lst (dis w2)) :: c11 :: c12 :: tl) p = .ok (.tup [.int n, .tup (dis (w.drop 1 ++ w.take 1))]) p := by
    refine tup_ok (as_cons (p1 := p) rfl (as_cons (p1 := p) (un_ok (x := .lst (dis (w.drop 1 ++ w.take 1))) (p1 := p) ?_ rfl) rfl)) (by simp)
    refine bin_ok (p1 := p) (p2 := p) (x := .lst (dis (w.drop 1))) (y := .lst (dis (w.take 1))) ?_ ?_ ?_
    · simp only [x_mSl, x_mVar, x_moSome, x_moNone, x_mC, List.getElem?_cons_succ, List.getElem?_cons_zero, R.bind_ok, v_dSlL, e1, lift_some]
    · simp only [x_mSl, x_mVar, x_moSome, x_moNone, x_mC, List.getElem?_cons_succ, List.getElem?_cons_zero, R.bind_ok, v_dSlL, e2, lift_some]
    · rw [v_dAddL, if_pos (by rw [sl_eq]; simp only [List.length_map, List.length_drop, List.length_take]; omega), ← List.map_append]
  have led : ∃ ms : List D, (mBin dMul (mLst (maCons (mTup (maCons (mC (.str "turn")) maNil)) maNil)) (mUn dInt (mBin dNe (mVar 4) (mLst maNil)))) (none :: some .pen :: c2 :: some (.int n) :: some (.lst (dis w)) :: c5 :: c6 :: some (.tup [.str "ok", .int g]) :: c8 :: some (.int n2) :: some (.lst (dis w2)) :: c11 :: c12 :: tl) p = .ok (.lst ms) p ∧ Chain n w ms n (w.drop 1 ++ w.take 1) := by
    have m0 : ∀ b : Bool, dMul (.lst [mTurn]) (.int (if b then 1 else 0)) = some (.lst (if b then [mTurn] else [])) := fun b => by
      rw [v_dMulL]
      cases b <;> exact if_pos ⟨by decide, by decide, by decide⟩
    have hm : (mBin dMul (mLst (maCons (mTup (maCons (mC (.str "turn")) maNil)) maNil)) (mUn dInt (mBin dNe (mVar 4) (mLst maNil)))) (none :: some .pen :: c2 :: some (.int n) :: some (.lst (dis w)) :: c5 :: c6 :: some (.tup [.str "ok", .int g]) :: c8 :: some (.int n2) :: some (.lst (dis w2)) :: c11 :: c12 :: tl) p = .ok (.lst (if (!w.isEmpty) = true then [mTurn] else [])) p :=
      bin_ok (p1 := p) (p2 := p) (lst_ok (as_cons (p1 := p) (tup_ok (as_cons (p1 := p) rfl rfl) (by simp)) rfl) (by simp)) (un_ok (bin_ok (p1 := p) (p2 := p) rfl (lst_ok (p1 := p) (ds := []) rfl (by simp)) (v_dNeL0 w)) rfl) (m0 _)
    cases w with
    | nil => exact ⟨[], hm, .nil⟩
    | cons x r => exact ⟨[mTurn], hm, .snoc (ms := []) .nil (.turn x r)⟩
  obtain ⟨ms, h2, C⟩ := led
  have h3 : f_word_led [.int n, .lst (dis w), .lst ms] p = .ok (.tup [.int n, .tup (dis (w.drop 1 ++ w.take 1))]) p := wl_ok V (row_l w) C rfl fun p => by simp
  exact tbl_ok (bin_ok (p1 := p) (p2 := p) (call_ok (as_cons (p1 := p) rfl (as_cons (p1 := p) rfl (as_cons (p1 := p) h2 rfl))) h3) rhs (ne_t 0 _ _))
end K75
namespace K75
open PySem L2 Mz Wm
variable {p : Pen}
def chkT : M Bool := (tOrM (tBl (mBin dNe (mBin dIx (mVar 7) (mC (.int 0))) (mC (.str "ok")))) (tOrM (tNotM (tTru (mCall f__law_is_int (maCons (mBin dIx (mVar 7) (mC (.int 1))) maNil)))) (tOrM (tBl (mBin dEq (mBin dAnd (mVar 8) (mC (.int 1))) (mC (.int 1)))) (tOrM (tBl (mBin dNe (mBin dIx (mVar 7) (mC (.int 1))) (mBin dDiv (mVar 8) (mC (.int 2))))) (tBl (mBin dLt (mVar 8) (mC (.int 0))))))))
def lapB : MS := (sSeq (sSet 3 (mBin dAdd (mC (.int 1)) (mCall f__law_draw (maCons (mVar 1) (maCons (mC (.int 4)) maNil)))))
    (sSeq (sSet 4 wdM)
    (sSeq (sFor (miRng2 (mC (.int 1)) (mVar 3)) (gtName 5) flB)
    (sSeq (sSet 6 (mLc (miRng2 (mC (.int 1)) (mVar 3)) (gtName 5) (tBl (mBin dNotInS (mVar 5) (mVar 4))) (mVar 5) [5]))
    (sSeq (sSet 7 (mHearC "ok" kn hl [0] lamd (mC (.clo 0))))
    (sSeq (sIf (tBl (mBin dNe (mVar 6) (mLst maNil))) (sSeq (sIf (tOrM (tBl (mBin dNe (mBin dIx (mVar 7) (mC (.int 0))) (mC (.str "joined")))) (tBl (mBin dNotInS (mBin dIx (mVar 7) (mC (.int 1))) (mVar 6)))) (sRet (mC (.bl false))) sNext)
    sCnt) sNext)
    (sSeq (sSet 8 (mBin dSub (mBin dSub (mBin dAdd (mC (.int 2)) (mUn dLen (mVar 4))) (mVar 3)) (mUn dLen (mBin dIx (mCall f__law_o_rounds_of_word (maCons (mVar 3) (maCons (mVar 4) maNil))) (mC (.int 1))))))
    (sSeq (sIf chkT (sRet (mC (.bl false))) sNext)
    (sSeq (sParN [9, 10] (maConsO false (mVar 3) (maConsO false (mVar 4) maNil)))
    (sSeq (sFor (miRng1 (mC (.int 3))) (gtName 11) stpB)
    lastIf))))))))))
theorem sq_cnt {a b : MS} {e e' : Mz.Env} {p p' : Pen} (h : a e p = .cnt e' p') : sSeq a b e p = .cnt e' p' := by rw [x_sSeq, h]; rfl
theorem st_ne (x y : String) : dNe (.str (x : Str)) (.str (y : Str)) = some (.bl (!(x == y))) := by
  rw [dNe_of ⟨plain_str x, by simp [D.deep]⟩ ⟨plain_str y, by simp [D.deep]⟩, same_str]
theorem chk_ok {d g : Int} {e : Mz.Env} (h7 : e[7]? = some (some (.tup [.str "ok", .int g]))) (h8 : e[8]? = some (some (.int d))) (h0 : 0 ≤ d) (h2 : d % 2 = 0) (hg : g = d / 2) : chkT e p = .ok false p := by
  have a0 : (mBin dIx (mVar 7) (mC (.int 0))) e p = .ok (.str "ok") p := bin_ok (p1 := p) (p2 := p) (x := .tup [.str "ok", .int g]) (y := .int 0) (by simp [h7]) rfl (by simp)
  have a1 : (mBin dIx (mVar 7) (mC (.int 1))) e p = .ok (.int g) p := bin_ok (p1 := p) (p2 := p) (x := .tup [.str "ok", .int g]) (y := .int 1) (by simp [h7]) rfl (by simp)
  have a8 : (mVar 8) e p = .ok (.int d) p := by simp [h8]
  refine tor_f (tbl_ok (bin_ok (p2 := p) a0 rfl (by rw [st_ne]; rfl))) (tor_f (tnot_ok (bb := true) (ttru_ok (x := .bl true) (call_ok (as_cons a1 rfl) (by simp)) rfl)) (tor_f (tbl_ok (bin_ok (p2 := p) (bin_ok (p2 := p) (y := .int 1) a8 rfl rfl) rfl (dAnd1 h0 h2))) (tor_f (tbl_ok (bin_ok (p2 := p) (y := .int g) a1 (bin_ok (p2 := p) (y := .int 2) a8 rfl (by rw [v_dDiv, if_pos ⟨by decide, by decide⟩, hg])) (by simp))) (tbl_ok (bin_ok (p2 := p) (y := .int 0) a8 rfl (by rw [v_dLt]; simp; exact h0))))))
theorem lap_ok {k : Nat} {c2 c3 c4 c5 c6 c7 c8 c9 c10 c11 c12 : Option D} {tl : Mz.Env} (G : Good (k + 100) p) :
    ∃ (n : Nat) (w : List Int) (b5 b6 b7 b8 b9 b10 b11 b12 : Option D) (p' : Pen), (lapB (none :: some .pen :: c2 :: c3 :: c4 :: c5 :: c6 :: c7 :: c8 :: c9 :: c10 :: c11 :: c12 :: tl) p = .next (none :: some .pen :: c2 :: some (.int n) :: some (.lst (dis w)) :: b5 :: b6 :: b7 :: b8 :: b9 :: b10 :: b11 :: b12 :: tl) p' ∨
      lapB (none :: some .pen :: c2 :: c3 :: c4 :: c5 :: c6 :: c7 :: c8 :: c9 :: c10 :: c11 :: c12 :: tl) p = .cnt (none :: some .pen :: c2 :: some (.int n) :: some (.lst (dis w)) :: b5 :: b6 :: b7 :: b8 :: b9 :: b10 :: b11 :: b12 :: tl) p') ∧ 1 ≤ n ∧ n ≤ 4 ∧ Good k p' := by
  obtain ⟨r, p1, e1, r0, r1, G1⟩ := draw_ok (many := 4) (k := k + 99) G (by omega) (by omega)
  obtain ⟨m, rfl⟩ := Int.eq_ofNat_of_zero_le r0
  have hm : 1 + (m : Int) = ((m + 1 : Nat) : Int) := by omega
  obtain ⟨n, hn, n1, n4⟩ : ∃ n : Nat, n = m + 1 ∧ 1 ≤ n ∧ n ≤ 4 := ⟨m + 1, rfl, by omega, by omega⟩
  rw [← hn] at hm
  have s3 : (mBin dAdd (mC (.int 1)) (mCall f__law_draw (maCons (mVar 1) (maCons (mC (.int 4)) maNil)))) (none :: some .pen :: c2 :: c3 :: c4 :: c5 :: c6 :: c7 :: c8 :: c9 :: c10 :: c11 :: c12 :: tl) p = .ok (.int n) p1 := by
    rw [← hm]
    exact bin_ok (p1 := p) (x := .int 1) rfl (call_ok (as_cons (p1 := p) rfl (as_cons (p1 := p) rfl rfl)) e1) rfl
  obtain ⟨w0, p2, e2, hw0, l0, G2⟩ := wd_ok (p := p1) (n := n) (k := k + 90) (c2 := c2) (c4 := c4) (c5 := c5) (tl := c6 :: c7 :: c8 :: c9 :: c10 :: c11 :: c12 :: tl) n1 n4 G1
  obtain ⟨w, b5, p3, e3, hw, l1, G3⟩ := fl_loop (n := n) (k := k + 80) (c2 := c2) (tl := c6 :: c7 :: c8 :: c9 :: c10 :: c11 :: c12 :: tl) (n - 1) 1 w0 c5 p2 (by omega) (by omega) hw0 (by omega) (G2.le (by omega))
  obtain ⟨V, hp⟩ := val_of n1 n4 hw (by omega)
  have hr : miRng2 (mC (.int 1)) (mVar 3) (none :: some .pen :: c2 :: some (.int n) :: some (.lst (dis w0)) :: c5 :: c6 :: c7 :: c8 :: c9 :: c10 :: c11 :: c12 :: tl) p2 = .ok ((List.range' 1 (n - 1)).map fun i : Nat => D.int (i : Int)) p2 := by
    rw [rng2_ok (i := 1) (j := n) (p' := p2) (p2 := p2) rfl rfl (by omega) (by omega) (by omega) (by omega), rng1n n1]
  have pre : ∀ r : SF, (sSeq (sSet 7 (mHearC "ok" kn hl [0] lamd (mC (.clo 0)))) (sSeq (sIf (tBl (mBin dNe (mVar 6) (mLst maNil))) (sSeq (sIf (tOrM (tBl (mBin dNe (mBin dIx (mVar 7) (mC (.int 0))) (mC (.str "joined")))) (tBl (mBin dNotInS (mBin dIx (mVar 7) (mC (.int 1))) (mVar 6)))) (sRet (mC (.bl false))) sNext)
    sCnt) sNext)
    (sSeq (sSet 8 (mBin dSub (mBin dSub (mBin dAdd (mC (.int 2)) (mUn dLen (mVar 4))) (mVar 3)) (mUn dLen (mBin dIx (mCall f__law_o_rounds_of_word (maCons (mVar 3) (maCons (mVar 4) maNil))) (mC (.int 1))))))
    (sSeq (sIf chkT (sRet (mC (.bl false))) sNext)
    (sSeq (sParN [9, 10] (maConsO false (mVar 3) (maConsO false (mVar 4) maNil)))
    (sSeq (sFor (miRng1 (mC (.int 3))) (gtName 11) stpB)
    lastIf)))))) (none :: some .pen :: c2 :: some (.int n) :: some (.lst (dis w)) :: b5 :: some (.lst (dis (gapsI n w))) :: c7 :: c8 :: c9 :: c10 :: c11 :: c12 :: tl) p3 = r → lapB (none :: some .pen :: c2 :: c3 :: c4 :: c5 :: c6 :: c7 :: c8 :: c9 :: c10 :: c11 :: c12 :: tl) p = r := fun r h =>
    sq_setd (p' := p1) (.int n) s3 (sq_setd (p' := p2) (.lst (dis w0)) e2 (sq_for (p := p2) hr e3 (sq_set (.lst (dis (gapsI n w))) (gaps_ok n1 n4) h)))
  rcases heard_ok (n := n) (k := k + 79) (p := p3) (c2 := c2) (c5 := b5) (c6 := some (.lst (dis (gapsI n w)))) (tl := c7 :: c8 :: c9 :: c10 :: c11 :: c12 :: tl) V hp G3 with ⟨hj, p4, e4, G4⟩ | ⟨j, j1, j2, j3, p4, e4, G4⟩
  · -- joined
    have hg : gapsI n w = [] := by
      cases hz : gapsI n w with
      | nil => rfl
      | cons x r =>
        obtain ⟨q, _, q1, q2, q3⟩ := (mem_gaps hp).mp (show x ∈ gapsI n w by rw [hz]; simp)
        exact absurd (hj q q1 q2) q3
    obtain ⟨xs, hx, e5⟩ := lr_ok (p := p4) V n4
    have hb := cyc_bound n4 n1 w.length w rfl (fit_of V.2.2.2)
    rw [mis_zero hj] at hb
    obtain ⟨d, hd⟩ : ∃ d : Int, d = 2 + (w.length : Int) - n - cycW n w := ⟨_, rfl⟩
    have hd0 : 0 ≤ d := by omega
    have hd2 : d % 2 = 0 := by omega
    obtain ⟨n2, w2, b11, b12, p5, e6, V2, P2, J2, L2, q1, q2, G5⟩ := stp_loop (p := p4) (n := n) (w := w) (k := k) (c2 := c2) (c3 := some (.int n)) (c4 := some (.lst (dis w))) (c5 := b5) (c6 := some (.lst (dis (gapsI n w)))) (c7 := some (.tup [.str "ok", .int ((2 + (w.length : Int) - n - cycW n w) / 2)])) (c8 := some (.int d)) (c11 := c11) (c12 := c12) (tl := tl) V hp hj (by omega) (G4.le (by omega))
    refine ⟨n, w, b5, some (.lst (dis (gapsI n w))), some (.tup [.str "ok", .int ((2 + (w.length : Int) - n - cycW n w) / 2)]), some (.int d), some (.int n2), some (.lst (dis w2)), b11, b12, p5, .inl (pre _ ?_), n1, n4, G5⟩
    refine sq_setd (p' := p4) _ e4 (sq_f ?_ (sq_set (.int d) ?_ (sq_f (chk_ok (d := d) (g := (2 + (w.length : Int) - n - cycW n w) / 2) rfl rfl hd0 hd2 (by rw [hd])) ?_)))
    · have h0 := v_dNeL0 (gapsI n w)
      refine tbl_ok (bin_ok (p1 := p4) (p2 := p4) rfl (lst_ok (p1 := p4) (ds := []) rfl (by simp)) (h0.trans ?_))
      rw [hg]; rfl
    · refine bin_ok (p1 := p4) (p2 := p4) (x := .int (2 + (w.length : Int) - n)) (y := .int xs.length) (bin_ok (p1 := p4) (p2 := p4) (x := .int (2 + (w.length : Int))) (y := .int n) (bin_ok (p1 := p4) (p2 := p4) (x := .int 2) (y := .int w.length) rfl (un_ok (p1 := p4) (x := .lst (dis w)) rfl (by simp)) rfl) rfl rfl) (un_ok (x := .lst xs) (bin_ok (p2 := p4) (y := .int 1) (call_ok (as_cons (p1 := p4) rfl (as_cons (p1 := p4) rfl rfl)) e5) rfl (by simp)) (by simp)) ?_
      rw [v_dSub, hx, hd]
    refine sq (e' := (none :: some .pen :: c2 :: some (.int n) :: some (.lst (dis w)) :: b5 :: some (.lst (dis (gapsI n w))) :: some (.tup [.str "ok", .int ((2 + (w.length : Int) - n - cycW n w) / 2)]) :: some (.int d) :: some (.int n) :: some (.lst (dis w)) :: c11 :: c12 :: tl)) (p' := p4) (par_ok (aso_cons (p1 := p4) rfl (aso_cons (p1 := p4) rfl rfl)) ⟨rfl, by decide, by simp⟩) ?_
    refine sq_for (p := p4) (rng_nat (j := 3) (p := p4) rfl (by omega)) e6 ?_
    exact last_ok V (by omega) V2 P2 J2 (by rw [show 2 + (w2.length : Int) - n2 - cycW n2 w2 = 2 + (w.length : Int) - n - cycW n w by omega])
  · have hz : (j : Int) ∈ gapsI n w := (mem_gaps hp).mpr ⟨j, rfl, j1, j2, j3⟩
    refine ⟨n, w, b5, some (.lst (dis (gapsI n w))), some (.tup [.str "joined", .int j]), c8, c9, c10, c11, c12, p4, .inr (pre _ ?_), n1, n4, G4.le (by omega)⟩
    refine sq_setd (p' := p4) _ e4 (sq_cnt (if_t (p' := p4) ?_ (sq_f (tor_f (p1 := p4) ?_ ?_) rfl)))
    · have h0 := v_dNeL0 (gapsI n w)
      refine tbl_ok (bin_ok (p1 := p4) (p2 := p4) rfl (lst_ok (p1 := p4) (ds := []) rfl (by simp)) (h0.trans ?_))
      cases hq : gapsI n w with
      | nil => rw [hq] at hz; cases hz
      | cons x r => rfl
    · exact tbl_ok (bin_ok (p1 := p4) (p2 := p4) (x := .str "joined") (y := .str "joined") (bin_ok (p1 := p4) (p2 := p4) (x := .tup [.str "joined", .int j]) (y := .int 0) rfl rfl (by simp)) rfl (by rw [st_ne]; rfl))
    · refine tbl_ok (bin_ok (p1 := p4) (p2 := p4) (x := .int j) (y := .lst (dis (gapsI n w))) (bin_ok (p1 := p4) (p2 := p4) (x := .tup [.str "joined", .int j]) (y := .int 1) rfl rfl (by simp)) rfl (by rw [notin_dis]; simp [hz]))
end K75
namespace K75
open PySem L2 Mz Wm
variable {p : Pen}
/-- values that are no words, with the index -/
def oddw (s : Int) : List (D × D) := [(.non, .non), (.int 3, .non), (.str "1", .non), (.lst [.int 0], .int 0), (.lst [.int s], .int 0), (.lst [.non], .int 0), (.lst [.bl true], .int 0)] ++ [if 1 < s then (.lst (dis (List.replicate 13 1)), .non) else (.lst [.int 0], .int 0)]
theorem rep13 : dMul (.lst [.int 1]) (.int 13) = some (.lst (dis (List.replicate 13 1))) := by
  rw [v_dMulL, if_pos ⟨by decide, by decide, by decide⟩]
  rfl
theorem oddword_ok {s : Int} {k : Nat} (G : Good (k + 1) p) : ∃ d i p', f__law_o_odd_word [.pen, .int s] p = .ok (.tup [d, i]) p' ∧ (d, i) ∈ oddw s ∧ Good k p' := by
  obtain ⟨x, p1, e1, hx, G1⟩ := pick_ok (k := k) (xs := (oddw s).map fun q => .tup [q.1, q.2]) G (by simp [oddw]) (by simp [oddw])
  obtain ⟨⟨d, i⟩, hq, rfl⟩ := List.mem_map.mp hx
  refine ⟨d, i, p1, ?_, hq, G1⟩
  refine fd_ret (e := [some .pen, some (.int s)]) rfl (ret_ok ?_)
  by_cases h1 : 1 < s
  · have h13 := rep13
    simp [oddw, h1] at e1 h13
    simp [pick_eq, h1, h13, e1]
  · simp [oddw, h1] at e1
    simp [pick_eq, h1, e1]
theorem ex_err {m : M D} {e : Mz.Env} {p p1 : Pen} {x : Exn} (h : m e p = .err x p1) : sExpr m e p = .err x e p1 := by
  rw [x_sExpr, h]; rfl
def bads : List D := [.int 0, .int 7, .int (-1), .non, .bl true, .str "2"]
theorem ns_bad {d : D} (h : d ∈ bads) : f_need_strands [d] p = .err ⟨0, [("what", .str "strands"), ("value", d)]⟩ p := by
  refine fd_err (e := [some d]) (e' := [some d]) rfl ?_
  simp only [bads, List.mem_cons, List.not_mem_nil, or_false] at h
  rcases h with rfl | rfl | rfl | rfl | rfl | rfl
  all_goals exact if_t (p' := p) (by simp) (by simp)
theorem nl_bad {s : Int} {d i : D} (h1 : 1 ≤ s) (h2 : s ≤ 4) (h : (d, i) ∈ oddw s) : f_need_letters [.int s, d] p = .err ⟨2, [("index", i)]⟩ p := by
  have one : ∀ x : D, (∀ p, f_is_integer [x] p = .ok (.bl false) p) ∨ (∃ j : Int, x = .int j ∧ ¬ (0 < ab j ∧ ab j < s)) → f_need_letters [.int s, .lst [x]] p = .err ⟨2, [("index", .int 0)]⟩ p := by
    intro x hx
    refine fd_err (e := [some (.int s), some (.lst [x]), none, none]) (e' := [some (.int s), some (.lst [x]), some (.int 0), some x]) rfl (sq_f (by simp) ?_)
    rw [x_sFor]
    have g : miEnum (mVar 1) [some (.int s), some (.lst [x]), none, none] p = .ok [.tup [.int 0, x]] p := by simp [enumD]
    rw [g, R.st_ok]
    refine fo_err (e1 := [some (.int s), some (.lst [x]), some (.int 0), some x]) rfl ?_
    refine if_t (p' := p) ?_ (by simp)
    rcases hx with hx | ⟨j, rfl, hj⟩
    · simp [hx]
    · by_cases h3 : 0 < ab j
      · have h4 : ¬ ab j < s := fun z => hj ⟨h3, z⟩
        simp [h3, h4]
      · simp [h3]
  have no : (∀ p, f_is_row [d] p = .ok (.bl false) p) ∨ (∃ l, d = .lst l ∧ 12 < (l.length : Int)) → f_need_letters [.int s, d] p = .err ⟨2, [("index", .non)]⟩ p := by
    intro hx
    refine fd_err (e := [some (.int s), some d, none, none]) (e' := [some (.int s), some d, none, none]) rfl (sq_err (if_t (p' := p) ?_ (by simp)))
    rcases hx with hx | ⟨l, rfl, hl⟩
    · simp [hx]
    · simp [hl]
  unfold oddw at h
  simp only [List.cons_append, List.nil_append, List.mem_cons, List.not_mem_nil, or_false, Prod.mk.injEq] at h
  rcases h with ⟨rfl, rfl⟩ | ⟨rfl, rfl⟩ | ⟨rfl, rfl⟩ | ⟨rfl, rfl⟩ | ⟨rfl, rfl⟩ | ⟨rfl, rfl⟩ | ⟨rfl, rfl⟩ | h
  · exact no (.inl fun p => by simp)
  · exact no (.inl fun p => by simp)
  · exact no (.inl fun p => by simp)
  · exact one _ (.inr ⟨0, rfl, fun z => absurd z.1 (by decide)⟩)
  · exact one _ (.inr ⟨s, rfl, by simp only [ab]; split <;> omega⟩)
  · exact one _ (.inl fun p => by simp)
  · exact one _ (.inl fun p => by simp)
  · by_cases h3 : 1 < s
    · rw [if_pos h3] at h
      obtain ⟨rfl, rfl⟩ := Prod.mk.injEq .. ▸ h
      exact no (.inr ⟨_, rfl, by decide⟩)
    · rw [if_neg h3] at h
      obtain ⟨rfl, rfl⟩ := Prod.mk.injEq .. ▸ h
      exact one _ (.inr ⟨0, rfl, fun z => absurd z.1 (by decide)⟩)
def repD : D → D
  | .int i => .str (toString i)
  | .non => .str "None"
  | .bl b => .str (if b then "True" else "False")
  | .str x => .str (reprText x)
  | d => d
theorem rep_ok {d : D} (h : d ∈ bads) : dRepr d = some (repD d) ∧ (repD d).plain = true ∧ (repD d).deep = 0 := by
  simp only [bads, List.mem_cons, List.not_mem_nil, or_false] at h
  rcases h with rfl | rfl | rfl | rfl | rfl | rfl
  · exact ⟨by unfold dRepr; exact if_pos (by decide +kernel), plain_str _, rfl⟩
  · exact ⟨by unfold dRepr; exact if_pos (by decide +kernel), plain_str _, rfl⟩
  · exact ⟨by unfold dRepr; exact if_pos (by decide +kernel), plain_str _, rfl⟩
  · exact ⟨rfl, plain_str _, rfl⟩
  · exact ⟨rfl, plain_str _, rfl⟩
  · exact ⟨by unfold dRepr; exact if_pos (by decide +kernel), by decide +kernel, rfl⟩
theorem hear_step {n : Nat} {ds acc : List D} {e : Mz.Env} {y : D} {x : Exn} {ok : List Nat} (h : lamd n e p = .err x p) (hx : x.c ∈ kn) (hy : hdlOf hl x p = .ok y p) (hn : n ∈ ok) (ha : acc.length < 16777216) {r : R D} (k : hearGo "ok" kn hl ok lamd e ds (acc ++ [y]) p = r) : hearGo "ok" kn hl ok lamd e (.clo n :: ds) acc p = r := by
  have hm : mHear "ok" kn hl (lamd n) e p = .ok y p := by
    unfold mHear
    rw [h]
    show (if x.c ∈ kn then hdlOf hl x p else .stuck) = _
    rw [if_pos hx, hy]
  show (if n ∈ ok ∧ acc.length < sizeLine then (mHear "ok" kn hl (lamd n) e p).calm.bind fun y p => hearGo "ok" kn hl ok lamd e ds (acc ++ [y]) p else .stuck) = _
  rw [if_pos ⟨hn, by rw [sl_eq]; exact ha⟩, hm]
  exact k
theorem hdl_num0 {d r : D} (h : dRepr d = some r) : hdlOf hl ⟨0, [("what", .str "strands"), ("value", d)]⟩ p = .ok (.tup [.str "number", .str "strands", r]) p := by
  have h1 : (mFld 0 ⟨0, [("what", .str "strands"), ("value", d)]⟩ "what") [none, some (.ref 0)] p = .ok (.str "strands") p := rfl
  have h2 : (mFld 0 ⟨0, [("what", .str "strands"), ("value", d)]⟩ "value") [none, some (.ref 0)] p = .ok d p := rfl
  have h3 : (mTup (maCons (mC (.str "number")) (maCons (mFld 0 ⟨0, [("what", .str "strands"), ("value", d)]⟩ "what") (maCons (mUn dRepr (mFld 0 ⟨0, [("what", .str "strands"), ("value", d)]⟩ "value")) maNil)))) [none, some (.ref 0)] p = .ok (.tup [.str "number", .str "strands", r]) p :=
    tup_ok (as_cons rfl (as_cons h1 (as_cons (un_ok h2 h) rfl))) (by simp)
  show ((mTup (maCons (mC (.str "number")) (maCons (mFld 0 ⟨0, [("what", .str "strands"), ("value", d)]⟩ "what") (maCons (mUn dRepr (mFld 0 ⟨0, [("what", .str "strands"), ("value", d)]⟩ "value")) maNil)))) [none, some (.ref 0)] p).calm = _
  rw [h3]
  rfl
theorem hdl_num {d : D} (h : d ∈ bads) : hdlOf hl ⟨0, [("what", .str "strands"), ("value", d)]⟩ p = .ok (.tup [.str "number", .str "strands", repD d]) p := hdl_num0 (rep_ok h).1
theorem hdl_word (a : D) : hdlOf hl ⟨2, [("index", a)]⟩ p = .ok (.tup [.str "word", a]) p := rfl
theorem oddw_i {s : Int} {d i : D} (h : (d, i) ∈ oddw s) : i = .non ∨ i = .int 0 := by
  unfold oddw at h
  simp only [List.cons_append, List.nil_append, List.mem_cons, List.not_mem_nil, or_false, Prod.mk.injEq] at h
  rcases h with ⟨rfl, rfl⟩ | ⟨rfl, rfl⟩ | ⟨rfl, rfl⟩ | ⟨rfl, rfl⟩ | ⟨rfl, rfl⟩ | ⟨rfl, rfl⟩ | ⟨rfl, rfl⟩ | h
  any_goals first | exact .inl rfl | exact .inr rfl
  by_cases h3 : 1 < s
  · rw [if_pos h3] at h
    exact .inl (congrArg Prod.snd h)
  · rw [if_neg h3] at h
    exact .inr (congrArg Prod.snd h)
theorem plain_tup {xs : List D} (h : ∀ x ∈ xs, x.plain = true ∧ x.deep = 0) : (D.tup xs).plain = true ∧ (D.tup xs).deep ≤ 63 := by
  have := cmp_tup (xs := xs) fun x hx => ⟨(h x hx).1, by have := (h x hx).2; omega⟩
  refine ⟨this.1, ?_⟩
  simp only [D.deep]
  have h2 : D.deeps xs ≤ 0 := deeps_le.mpr fun x hx => by rw [(h x hx).2]; exact Nat.le_refl _
  omega

theorem wg_bads {d X : D} (h : d ∈ bads) : f_word_genus [d, X] p = .err ⟨0, [("what", .str "strands"), ("value", d)]⟩ p := by
  refine fd_err (e := [some d, some X, none, none]) (e' := [some d, some X, none, none]) rfl (sq_err (ex_err (call_ok (p1 := p) (ds := [d, X]) rfl ?_)))
  exact fd_err (e := [some d, some X]) (e' := [some d, some X]) rfl (sq_err (ex_err (call_ok (p1 := p) (ds := [d]) rfl (ns_bad h))))
theorem wg_oddw {s : Int} {d i : D} (h1 : 1 ≤ s) (h2 : s ≤ 4) (h : (d, i) ∈ oddw s) : f_word_genus [.int s, d] p = .err ⟨2, [("index", i)]⟩ p := by
  refine fd_err (e := [some (.int s), some d, none, none]) (e' := [some (.int s), some d, none, none]) rfl (sq_err (ex_err (call_ok (p1 := p) (ds := [.int s, d]) rfl ?_)))
  exact fd_err (e := [some (.int s), some d]) (e' := [some (.int s), some d]) rfl (sq_expr .non (call_ok (p1 := p) (ds := [.int s]) rfl (ns_ok h1 (by omega))) (ex_err (call_ok (p1 := p) (ds := [.int s, d]) rfl (nl_bad h1 h2 h))))
theorem wg_neg : f_word_genus [.int 4, .lst (dis [1, -1, 1])] p = .err ⟨3, [("answer", .ins 8 [("index", .int 1)])]⟩ p := by
  have V : Val (4 : Nat) [1, -1, 1] := ⟨by decide, by decide, by decide, fun x hx => by
    simp only [List.mem_cons, List.not_mem_nil, or_false] at hx
    rcases hx with rfl | rfl | rfl <;> decide⟩
  have hnw : f_need_word [.int 4, .lst (dis [1, -1, 1])] p = .ok .non p := nw_ok V (row_l _)
  have hsp : f_settled_positive [.int 4, .lst (dis [1, -1, 1])] p = .ok (.ins 8 [("index", .int 1)]) p := by
    refine fd_ret (e := [some (.int 4), some (.lst (dis [1, -1, 1])), none, none, none, none]) rfl (sq_ret ?_)
    rw [x_sFor]
    have g : miEnum (mVar 1) [some (.int 4), some (.lst (dis [1, -1, 1])), none, none, none, none] p = .ok [.tup [.int 0, .int 1], .tup [.int 1, .int (-1)], .tup [.int 2, .int 1]] p := by simp [enumD]
    rw [g, R.st_ok]
    refine fo_cons (e1 := [some (.int 4), some (.lst (dis [1, -1, 1])), some (.int 0), some (.int 1), none, none]) rfl (if_f (p' := p) (by simp) rfl) ?_
    refine fo_ret (e1 := [some (.int 4), some (.lst (dis [1, -1, 1])), some (.int 1), some (.int (-1)), none, none]) rfl ?_
    exact if_t (p' := p) (by simp) (ret_ok (new_ok (as_cons (p1 := p) rfl rfl) (negative_ok _)))
  refine fd_err (e := [some (.int 4), some (.lst (dis [1, -1, 1])), none, none]) (e' := [some (.int 4), some (.lst (dis [1, -1, 1])), some (.ins 8 [("index", .int 1)]), none]) rfl (sq_expr .non (call_ok rfl hnw) (sq_set (.ins 8 [("index", .int 1)]) (call_ok rfl hsp) (sq_err (if_t (p' := p) (ttru_ok (x := .bl true) (un_ok (x := .ins 8 [("index", .int 1)]) (p1 := p) rfl rfl) rfl) ?_))))
  rw [x_sRaise, as_cons (p1 := p) (d := .ins 8 [("index", .int 1)]) rfl rfl]
  rfl
theorem wg_gap : f_word_genus [.int 3, .lst (dis [1, 1])] p = .err ⟨4, [("answer", .ins 6 [("k", .int 2)])]⟩ p := by
  have V : Val (3 : Nat) [1, 1] := ⟨by decide, by decide, by decide, fun x hx => by
    simp only [List.mem_cons, List.not_mem_nil, or_false] at hx
    rcases hx with rfl | rfl <;> decide⟩
  rcases wg_ok (p := p) V (fun x hx => by
    simp only [List.mem_cons, List.not_mem_nil, or_false] at hx
    rcases hx with rfl | rfl <;> decide) (row_l _) with ⟨h, _⟩ | ⟨m, m1, m2, m3, h⟩
  · obtain ⟨x, hx, e⟩ := h 2 (by omega) (by omega)
    simp only [List.mem_cons, List.not_mem_nil, or_false] at hx
    rcases hx with rfl | rfl <;> cases e
  · have : m = 2 := by
      by_cases h1 : m = 1
      · exact absurd ⟨1, by simp, by simp [h1]⟩ m3
      · omega
    subst this
    exact h
/-- known ones -/
theorem wg_known {n : Nat} {w : List Int} {g : Int} (V : Val n w) (hp : Pos w) (hj : Jn n w) (hg : (2 + (w.length : Int) - n - cycW n w) / 2 = g) : f_word_genus [.int n, .lst (dis w)] p = .ok (.int g) p := by
  rcases wg_ok (p := p) V hp (row_l w) with ⟨_, h⟩ | ⟨m, m1, m2, m3, _⟩
  · rw [← hg]; exact h
  · exact absurd (hj m m1 m2) m3
theorem wg_two {k : Nat} (h1 : 1 ≤ k) (h2 : k ≤ 7) : f_word_genus [.int 2, .lst (dis (List.replicate k 1))] p = .ok (.int (((k : Int) - 1) / 2)) p := by
  have V : Val (2 : Nat) (List.replicate k 1) := ⟨by decide, by decide, by simp; omega, fun x hx => by rw [List.eq_of_mem_replicate hx]; decide⟩
  have hc : ∀ k, k ≤ 7 → cycW 2 (List.replicate k 1) = if k % 2 = 0 then 2 else 1 := by
    have : (List.range 8).all (fun k => cycW 2 (List.replicate k 1) == if k % 2 = 0 then 2 else 1) = true := by decide +kernel
    intro k hk
    exact beq_iff_eq.mp (List.all_eq_true.mp this k (List.mem_range.mpr (by omega)))
  refine wg_known (n := 2) V (fun x hx => by rw [List.eq_of_mem_replicate hx]; decide) (fun j j1 j2 => ⟨1, List.mem_replicate.mpr ⟨by omega, rfl⟩, by omega⟩) ?_
  rw [hc k h2, List.length_replicate]
  split <;> omega
theorem wg_eight : f_word_genus [.int 3, .lst (dis [1, 2, 1, 2, 1, 2, 1, 2])] p = .ok (.int 3) p := by
  have V : Val (3 : Nat) [1, 2, 1, 2, 1, 2, 1, 2] := ⟨by decide, by decide, by decide, by decide⟩
  have hc : cycW 3 [1, 2, 1, 2, 1, 2, 1, 2] = 1 := by decide +kernel
  refine wg_known (n := 3) V (by decide) (fun j j1 j2 => ?_) (by rw [hc]; decide)
  have : j = 1 ∨ j = 2 := by omega
  rcases this with rfl | rfl
  · exact ⟨1, by simp, rfl⟩
  · exact ⟨2, by simp, rfl⟩
theorem wg_none : f_word_genus [.int 1, .lst (dis [])] p = .ok (.int 0) p := by
  have V : Val (1 : Nat) [] := ⟨by decide, by decide, by simp, by simp⟩
  have hc : cycW 1 [] = 1 := by decide +kernel
  exact wg_known (n := 1) V (fun x hx => by cases hx) (fun j j1 j2 => by omega) (by rw [hc]; decide)
end K75
namespace K75
open PySem L2 Mz Wm
variable {p : Pen}
def told (bad i : D) : List D := [.tup [.str "number", .str "strands", repD bad], .tup [.str "word", i], .tup [.str "positive", .int 1], .tup [.str "joined", .int 2]]
theorem told_cmp {bad i : D} (hb : bad ∈ bads) (hi : i = .non ∨ i = .int 0) : (D.lst (told bad i)).cmp := cmp_lst fun x hx => by
  have hr := rep_ok hb
  have st : ∀ x : String, (D.str (x : Str)).plain = true ∧ (D.str (x : Str)).deep = 0 := fun x => ⟨plain_str x, by simp [D.deep]⟩
  have nn : D.non.plain = true ∧ D.non.deep = 0 := ⟨by simp [D.plain], by simp [D.deep]⟩
  have i0 : ∀ i : Int, (D.int i).plain = true ∧ (D.int i).deep = 0 := fun i => ⟨by simp [D.plain], by simp [D.deep]⟩
  simp only [told, List.mem_cons, List.not_mem_nil, or_false] at hx
  rcases hx with rfl | rfl | rfl | rfl
  · refine plain_tup fun y hy => ?_
    simp only [List.mem_cons, List.not_mem_nil, or_false] at hy
    rcases hy with rfl | rfl | rfl
    · exact st _
    · exact st _
    · exact hr.2
  all_goals
    refine plain_tup fun y hy => ?_
    simp only [List.mem_cons, List.not_mem_nil, or_false] at hy
    rcases hy with rfl | rfl
    · exact st _
    · first | exact i0 _ | (rcases hi with rfl | rfl; exact nn; exact i0 _)
section
variable {n : Nat} {bad odd i : D} {e : Mz.Env}
theorem lam1 (h15 : e[15]? = some (some (.tup [odd, i]))) (h14 : e[14]? = some (some bad)) (hb : bad ∈ bads) : lamd 1 e p = .err ⟨0, [("what", .str "strands"), ("value", bad)]⟩ p := by
  show mCall f_word_genus (maCons (mVar 14) (maCons (mBin dIx (mVar 15) (mC (.int 0))) maNil)) e p = _
  exact call_ok (p1 := p) (ds := [bad, odd]) (by simp [h15, h14]) (wg_bads hb)
theorem lam2 (h15 : e[15]? = some (some (.tup [odd, i]))) (h3 : e[3]? = some (some (.int n))) (h1 : 1 ≤ n) (hn : n ≤ 4) (ho : (odd, i) ∈ oddw n) : lamd 2 e p = .err ⟨2, [("index", i)]⟩ p := by
  show mCall f_word_genus (maCons (mVar 3) (maCons (mBin dIx (mVar 15) (mC (.int 0))) maNil)) e p = _
  exact call_ok (p1 := p) (ds := [.int n, odd]) (by simp [h15, h3]) (wg_oddw (by omega) (by omega) ho)
theorem lam3 : lamd 3 e p = .err ⟨3, [("answer", .ins 8 [("index", .int 1)])]⟩ p := by
  show mCall f_word_genus (maCons (mC (.int 4)) (maCons (mLst (maCons (mC (.int 1)) (maCons (mUn dNeg (mC (.int 1))) (maCons (mC (.int 1)) maNil)))) maNil)) e p = _
  exact call_ok (p1 := p) (ds := [.int 4, .lst (dis [1, -1, 1])]) (as_cons (p1 := p) rfl (as_cons (lst_ok (as_cons (p1 := p) rfl (as_cons (p1 := p) rfl (as_cons (p1 := p) rfl rfl))) (by simp)) rfl)) wg_neg
theorem lam4 : lamd 4 e p = .err ⟨4, [("answer", .ins 6 [("k", .int 2)])]⟩ p := by
  show mCall f_word_genus (maCons (mC (.int 3)) (maCons (mLst (maCons (mC (.int 1)) (maCons (mC (.int 1)) maNil))) maNil)) e p = _
  exact call_ok (p1 := p) (ds := [.int 3, .lst (dis [1, 1])]) (as_cons (p1 := p) rfl (as_cons (lst_ok (as_cons (p1 := p) rfl (as_cons (p1 := p) rfl rfl)) (by simp)) rfl)) wg_gap
theorem end_ok (h3 : e[3]? = some (some (.int n))) (h14 : e[14]? = some (some bad)) (h15 : e[15]? = some (some (.tup [odd, i]))) (h1 : 1 ≤ n) (hn : n ≤ 4) (hb : bad ∈ bads) (ho : (odd, i) ∈ oddw n) :
    hearGo "ok" kn hl [1, 2, 3, 4] lamd e [.clo 1, .clo 2, .clo 3, .clo 4] [] p = .ok (.lst (told bad i)) p := by
  refine hear_step (lam1 h15 h14 hb) (by simp [kn]) (hdl_num hb) (by decide) (by simp) ?_
  refine hear_step (lam2 h15 h3 h1 hn ho) (by simp [kn]) (hdl_word i) (by decide) (by simp) ?_
  refine hear_step lam3 (by decide) (hdl_pos _) (by decide) (by simp) ?_
  refine hear_step lam4 (by decide) (hdl_joined _) (by decide) (by simp) ?_
  rfl
end
theorem laps_ok {k : Nat} {c2 c3 c4 c5 c6 c7 c8 c9 c10 c11 c12 : Option D} {tl : Mz.Env} (G : Good (k + 400) p) :
    ∃ (n : Nat) (b2 b4 b5 b6 b7 b8 b9 b10 b11 b12 : Option D) (p' : Pen), (sFor (miRng1 (mC (.int 4))) (gtName 2) lapB) (none :: some .pen :: c2 :: c3 :: c4 :: c5 :: c6 :: c7 :: c8 :: c9 :: c10 :: c11 :: c12 :: tl) p = .next (none :: some .pen :: b2 :: some (.int n) :: b4 :: b5 :: b6 :: b7 :: b8 :: b9 :: b10 :: b11 :: b12 :: tl) p' ∧ 1 ≤ n ∧ n ≤ 4 ∧ Good k p' := by
  obtain ⟨e', p', h1, h2⟩ := for_inv (g := gtName 2) (body := lapB) (ds := rngD 0 4) (e := (none :: some .pen :: c2 :: c3 :: c4 :: c5 :: c6 :: c7 :: c8 :: c9 :: c10 :: c11 :: c12 :: tl)) (p := p)
    (fun i e q => ∃ a2 a3 a4 a5 a6 a7 a8 a9 a10 a11 a12, e = (none :: some .pen :: a2 :: a3 :: a4 :: a5 :: a6 :: a7 :: a8 :: a9 :: a10 :: a11 :: a12 :: tl) ∧ (0 < i → ∃ n : Nat, a3 = some (.int n) ∧ 1 ≤ n ∧ n ≤ 4) ∧ Good (k + 100 * (4 - i)) q)
    ⟨_, _, _, _, _, _, _, _, _, _, _, rfl, fun h => absurd h (by omega), G.le (by omega)⟩ (by
    rintro i d e q hd ⟨a2, a3, a4, a5, a6, a7, a8, a9, a10, a11, a12, rfl, _, Gq⟩
    obtain ⟨hi, rfl⟩ := rngD_get0 hd
    obtain ⟨n, w, b5, b6, b7, b8, b9, b10, b11, b12, q', e1, n1, n4, G2⟩ := lap_ok (p := q) (k := k + 100 * (4 - (i + 1))) (c2 := some (.int i)) (c3 := a3) (c4 := a4) (c5 := a5) (c6 := a6) (c7 := a7) (c8 := a8) (c9 := a9) (c10 := a10) (c11 := a11) (c12 := a12) (tl := tl) (Gq.le (by omega))
    exact ⟨_, _, q', rfl, e1, _, _, _, _, _, _, _, _, _, _, _, rfl, fun _ => ⟨n, rfl, n1, n4⟩, G2⟩)
  obtain ⟨a2, a3, a4, a5, a6, a7, a8, a9, a10, a11, a12, rfl, hp, Gq⟩ := h2
  rw [rngD_len0] at hp Gq
  obtain ⟨n, rfl, n1, n4⟩ := hp (by omega)
  refine ⟨n, a2, a4, a5, a6, a7, a8, a9, a10, a11, a12, p', ?_, n1, n4, Gq.le (by omega)⟩
  have g0 : miRng1 (mC (.int 4)) (none :: some .pen :: c2 :: c3 :: c4 :: c5 :: c6 :: c7 :: c8 :: c9 :: c10 :: c11 :: c12 :: tl) p = .ok (rngD 0 4) p := rng_nat (j := 4) rfl (by omega)
  rw [x_sFor, g0]
  exact h1
theorem mulL {x : List D} {k : Nat} (hx : x.length ≤ 10) (hk : k ≤ 100) : dMul (.lst x) (.int k) = some (.lst (List.replicate k x).flatten) := by
  rw [v_dMulL, if_pos ⟨Int.le_trans (by decide) (Int.natCast_nonneg k), Int.lt_of_le_of_lt (show (k : Int) ≤ 100 by omega) (by decide), by
    rw [Int.toNat_natCast, sl_eq]
    have := Nat.mul_le_mul hx hk
    omega⟩, Int.toNat_natCast]
theorem known_ok {c2 c3 c4 c5 c6 c7 c8 c9 c10 c11 c12 : Option D} {tl : Mz.Env} : (mLc (miSeq (mLst (maCons (mC (.int 1)) (maCons (mC (.int 2)) (maCons (mC (.int 3)) (maCons (mC (.int 4)) (maCons (mC (.int 5)) (maCons (mC (.int 7)) maNil)))))))) (gtName 5) tYesM (mCall f_word_genus (maCons (mC (.int 2)) (maCons (mBin dMul (mLst (maCons (mC (.int 1)) maNil)) (mVar 5)) maNil))) [5]) (none :: some .pen :: c2 :: c3 :: c4 :: c5 :: c6 :: c7 :: c8 :: c9 :: c10 :: c11 :: c12 :: tl) p = .ok (.lst (dis [0, 0, 1, 1, 2, 3])) p := by
  have h := lc_pure (t := tYesM) (m := (mCall f_word_genus (maCons (mC (.int 2)) (maCons (mBin dMul (mLst (maCons (mC (.int 1)) maNil)) (mVar 5)) maNil)))) (g := gtName 5) (e := (none :: some .pen :: c2 :: c3 :: c4 :: none :: c6 :: c7 :: c8 :: c9 :: c10 :: c11 :: c12 :: tl)) (enc := fun k : Nat => D.int (k : Int)) (out := fun k : Nat => D.int (((k : Int) - 1) / 2)) (keep := fun _ => true) (p := p) [1, 2, 3, 4, 5, 7] [] (fun k hk => by
    have hk2 : 1 ≤ k ∧ k ≤ 7 := by
      simp only [List.mem_cons, List.not_mem_nil, or_false] at hk
      omega
    refine ⟨(none :: some .pen :: c2 :: c3 :: c4 :: some (.int k) :: c6 :: c7 :: c8 :: c9 :: c10 :: c11 :: c12 :: tl), rfl, rfl, fun _ => ?_⟩
    refine call_ok (as_cons (p1 := p) rfl (as_cons (p1 := p) (bin_ok (p1 := p) (p2 := p) (lst_ok (as_cons (p1 := p) rfl rfl) (by simp)) rfl (mulL (by simp) (by omega))) rfl)) ?_
    have : (List.replicate k [D.int 1]).flatten = dis (List.replicate k 1) := by
      clear hk hk2
      induction k with
      | zero => rfl
      | succ k ih => rw [List.replicate_succ, List.flatten_cons, ih, List.replicate_succ]; rfl
    rw [this]
    exact wg_two hk2.1 hk2.2) (by simp)
  rw [x_mLc]
  exact h
theorem law_true : ∀ (ns : List Int) (fold : Int), ns.length ≤ 63 → 0 ≤ fold → fold < FOLD → ∃ p', b_law (e0 N_law.length) ⟨ns, 0, 0, 0, fold⟩ = .ret (.bl true) p' := by
  intro ns fold _ h0 h1
  have G : Good 1000000000 ⟨ns, 0, 0, 0, fold⟩ := good0 h0 h1
  obtain ⟨n, b2, b4, b5, b6, b7, b8, b9, b10, b11, b12, p1, e1, n1, n4, G1⟩ := laps_ok (k := 10) (c2 := none) (c3 := none) (c4 := none) (c5 := none) (c6 := none) (c7 := none) (c8 := none) (c9 := none) (c10 := none) (c11 := none) (c12 := none) (tl := [none, none, none, none, none, none]) (G.le (by omega))
  obtain ⟨bad, p2, e2, hb, G2⟩ := pick_ok (k := 9) (xs := bads) G1 (by simp [bads]) (by simp [bads])
  obtain ⟨odd, i, p3, e3, ho, G3⟩ := oddword_ok (s := n) (k := 8) G2
  rw [← pick_eq] at e2
  have hr := rep_ok hb
  refine ⟨p3, ?_⟩
  refine sq (e' := [none, some .pen, b2, some (.int n), b4, b5, b6, b7, b8, b9, b10, b11, b12, none, none, none, none, none, none]) (p' := p1) e1 ?_
  refine sq_set (.lst (dis [0, 0, 1, 1, 2, 3])) known_ok ?_
  refine sq_f (p := p1) ?_ ?_
  · refine tor_f (p1 := p1) (tbl_ok (bin_ok (p1 := p1) (p2 := p1) (x := .lst (dis [0, 0, 1, 1, 2, 3])) (y := .lst (dis [0, 0, 1, 1, 2, 3])) rfl (lst_ok (as_cons (p1 := p1) rfl (as_cons (p1 := p1) rfl (as_cons (p1 := p1) rfl (as_cons (p1 := p1) rfl (as_cons (p1 := p1) rfl (as_cons (p1 := p1) rfl rfl)))))) (by simp)) (by rw [dNe_of (cmp_lints _) (cmp_lints _), same_self (cmp_lints _).1]; rfl))) (tor_f (p1 := p1) (tbl_ok (bin_ok (p1 := p1) (p2 := p1) (x := .int 3) (y := .int 3) (call_ok (ds := [.int 3, .lst (dis [1, 2, 1, 2, 1, 2, 1, 2])]) (as_cons (p1 := p1) rfl (as_cons (p1 := p1) (bin_ok (p1 := p1) (p2 := p1) (x := .lst (dis [1, 2])) (y := .int 4) (lst_ok (as_cons (p1 := p1) rfl (as_cons (p1 := p1) rfl rfl)) (by simp)) rfl (mulL (k := 4) (by simp) (by omega))) rfl)) wg_eight) rfl (by simp))) (tbl_ok (bin_ok (p1 := p1) (p2 := p1) (x := .int 0) (y := .int 0) (call_ok (ds := [.int 1, .lst (dis [])]) (as_cons (p1 := p1) rfl (as_cons (p1 := p1) (lst_ok (p1 := p1) (ds := []) rfl (by simp)) rfl)) wg_none) rfl (by simp))))
  refine sq (e' := [none, some .pen, b2, some (.int n), b4, b5, b6, b7, b8, b9, b10, b11, b12, some (.lst (dis [0, 0, 1, 1, 2, 3])), some bad, some (.tup [odd, i]), none, none, none]) (p' := p3) ?_ ?_
  · refine par_ok (ds := [bad, .tup [odd, i]]) (aso_cons (call_ok (as_cons (p1 := p1) rfl (as_cons (d := .lst bads) (p1 := p1) (lst_ok (ds := bads) (as_cons (p1 := p1) rfl (as_cons (p1 := p1) rfl (as_cons (p1 := p1) rfl (as_cons (p1 := p1) rfl (as_cons (p1 := p1) rfl (as_cons (p1 := p1) rfl rfl)))))) (by simp [bads])) rfl)) e2) (aso_cons (call_ok (p1 := p2) rfl e3) rfl)) ⟨rfl, by simp, rfl⟩
  refine sq_set (.lst (told bad i)) ?_ (sq_set (.lst [.clo 1, .clo 2, .clo 3, .clo 4]) ?_ (ret_ok ?_))
  · have t2 : ∀ (a b : D) (m m' : M D) (e : Mz.Env), m e p3 = .ok a p3 → m' e p3 = .ok b p3 → mTup (maCons m (maCons m' maNil)) e p3 = .ok (.tup [a, b]) p3 := fun a b m m' e h1 h2 => tup_ok (as_cons h1 (as_cons h2 rfl)) (by simp)
    refine lst_ok (ds := told bad i) (as_cons (p1 := p3) (tup_ok (as_cons (p1 := p3) rfl (as_cons (p1 := p3) rfl (as_cons (un_ok (p1 := p3) (x := bad) rfl hr.1) rfl))) (by simp)) (as_cons (t2 _ _ _ _ _ rfl ?_) (as_cons (t2 _ _ _ _ _ rfl rfl) (as_cons (t2 _ _ _ _ _ rfl rfl) rfl)))) (by simp [told])
    simp [setE]
  · exact lst_ok (as_cons (p1 := p3) rfl (as_cons (p1 := p3) rfl (as_cons (p1 := p3) rfl (as_cons (p1 := p3) rfl rfl)))) (by simp)
  · have hc := told_cmp hb (oddw_i ho)
    refine bin_ok (hearAll_ok (ds := [.clo 1, .clo 2, .clo 3, .clo 4]) (p1 := p3) rfl (by simp) (end_ok (n := n) (bad := bad) (odd := odd) (i := i) rfl rfl rfl n1 n4 hb ho)) (y := .lst (told bad i)) (p2 := p3) rfl ?_
    rw [dEq_of hc hc, same_self hc.1]
end K75
open PySem PySem.W PyProof.Rows
set_option maxRecDepth 100000 in
set_option maxHeartbeats 0 in
theorem PySem.Challenge.cw_linkholes_k75_whole_genus_of_words_holds : PySem.Challenge.rw_linkholes_k75_whole_genus_of_words.Holds := by
  w_on; o_law; k_head; (case hw => w_witness2)
  k_fill
  refine LamX.walk_ofTs (n := 63) (k := 12) (x := "script") (CX := fun w => L2.CX PySem.Challenge.pw_linkholes_k75_whole_genus_of_words w) rfl (by decide) rfl ⟨rfl, by decide, by decide⟩ (fun w h Y => PySem.W.km_in_of Y) ?F ?G
  case F =>
    intro w mg fa h Y KX G hmg
    refine' K75.all_mk KX G hmg K75.law_true (PySem.W.km_tabs_of Y 446 (by decide)) ?a_is_integer ?l_is_integer ?c_is_integer ?k_is_integer ?a_is_count ?l_is_count ?v_is_count ?c_is_count ?k_is_count ?a_is_row ?l_is_row ?c_is_row ?k_is_row ?a_kept ?l_kept ?c_kept ?k_kept ?a_need_strands ?l_need_strands ?c_need_strands ?k_need_strands ?a_need_letters ?l_need_letters ?c_need_letters ?k_need_letters ?a_need_word ?l_need_word ?c_need_word ?k_need_word ?a_order_of ?l_order_of ?c_order_of ?k_order_of ?a_rounds_of_word ?l_rounds_of_word ?c_rounds_of_word ?k_rounds_of_word ?a_settled_together ?l_settled_together ?c_settled_together ?k_settled_together ?a_lots_among ?l_lots_among ?c_lots_among ?k_lots_among ?a_parts_of_word ?l_parts_of_word ?c_parts_of_word ?k_parts_of_word ?a_settled_positive ?l_settled_positive ?c_settled_positive ?k_settled_positive ?a_word_genus ?l_word_genus ?c_word_genus ?k_word_genus ?a_put_in ?l_put_in ?c_put_in ?k_put_in ?a_changed_at ?l_changed_at ?c_changed_at ?k_changed_at ?a_stacked ?l_stacked ?c_stacked ?k_stacked ?a_unstacked ?l_unstacked ?c_unstacked ?k_unstacked ?a_any_moved ?l_any_moved ?c_any_moved ?k_any_moved ?a_one_moved ?l_one_moved ?c_one_moved ?k_one_moved ?a_word_led ?l_word_led ?c_word_led ?k_word_led ?a__law_draw ?l__law_draw ?c__law_draw ?k__law_draw ?a__law_pick ?l__law_pick ?c__law_pick ?k__law_pick ?a__law_listed ?l__law_listed ?c__law_listed ?k__law_listed ?a__law_is_int ?l__law_is_int ?c__law_is_int ?k__law_is_int ?a__law_o_word_led ?l__law_o_word_led ?c__law_o_word_led ?k__law_o_word_led ?a__law_o_some_word_move ?l__law_o_some_word_move ?c__law_o_some_word_move ?k__law_o_some_word_move ?a__law_o_rounds_of_word ?l__law_o_rounds_of_word ?c__law_o_rounds_of_word ?k__law_o_rounds_of_word ?a__law_o_odd_word ?l__law_o_odd_word ?c__law_o_odd_word ?k__law_o_odd_word ?a__law_pen ?l__law_pen ?c__law_pen ?k__law_pen ?a__law_heard ?l__law_heard ?c__law_heard ?k__law_heard ?a_law ?l_law ?c_law ?a_BadNumber ?x_BadNumber ?i_BadNumber ?l_BadNumber ?e_BadNumber ?b_BadNumber ?j_BadNumber ?a_BadMoves ?x_BadMoves ?i_BadMoves ?l_BadMoves ?e_BadMoves ?b_BadMoves ?j_BadMoves ?a_BadWord ?x_BadWord ?i_BadWord ?l_BadWord ?e_BadWord ?b_BadWord ?j_BadWord ?a_NotPositive ?x_NotPositive ?i_NotPositive ?l_NotPositive ?e_NotPositive ?b_NotPositive ?j_NotPositive ?a_NotJoined ?x_NotJoined ?i_NotJoined ?l_NotJoined ?e_NotJoined ?b_NotJoined ?j_NotJoined ?a_Together ?i_Together ?l_Together ?c_Together ?f_Together ?mk_Together ?kp_Together ?o_Together_indices ?a_Apart ?i_Apart ?l_Apart ?c_Apart ?f_Apart ?mk_Apart ?kp_Apart ?o_Apart_k ?a_Positive ?i_Positive ?l_Positive ?c_Positive ?f_Positive ?mk_Positive ?kp_Positive ?o_Positive_places ?a_Negative ?i_Negative ?l_Negative ?c_Negative ?f_Negative ?mk_Negative ?kp_Negative ?o_Negative_index ?n_super ?n_abs ?n_any ?n_bool ?n_enumerate ?n_int ?n_isinstance ?n_len ?n_list ?n_range ?n_repr ?n_set ?n_sorted ?n_str ?n_tuple ?c_MOST_CROSSINGS ?c_MOST_STRANDS ?kcb ?xm ?nT ?hd
    case a_is_integer => k_is
    case l_is_integer => k_is
    case c_is_integer => k_is
    case k_is_integer => k_is
    case a_is_count => k_is
    case l_is_count => k_is
    case v_is_count => k_is
    case c_is_count => k_is
    case k_is_count => k_is
    case a_is_row => k_is
    case l_is_row => k_is
    case c_is_row => k_is
    case k_is_row => k_is
    case a_kept => k_is
    case l_kept => k_is
    case c_kept => k_is
    case k_kept => k_is
    case a_need_strands => k_is
    case l_need_strands => k_is
    case c_need_strands => k_is
    case k_need_strands => k_is
    case a_need_letters => k_is
    case l_need_letters => k_is
    case c_need_letters => k_is
    case k_need_letters => k_is
    case a_need_word => k_is
    case l_need_word => k_is
    case c_need_word => k_is
    case k_need_word => k_is
    case a_order_of => k_is
    case l_order_of => k_is
    case c_order_of => k_is
    case k_order_of => k_is
    case a_rounds_of_word => k_is
    case l_rounds_of_word => k_is
    case c_rounds_of_word => k_is
    case k_rounds_of_word => k_is
    case a_settled_together => k_is
    case l_settled_together => k_is
    case c_settled_together => k_is
    case k_settled_together => k_is
    case a_lots_among => k_is
    case l_lots_among => k_is
    case c_lots_among => k_is
    case k_lots_among => k_is
    case a_parts_of_word => k_is
    case l_parts_of_word => k_is
    case c_parts_of_word => k_is
    case k_parts_of_word => k_is
    case a_settled_positive => k_is
    case l_settled_positive => k_is
    case c_settled_positive => k_is
    case k_settled_positive => k_is
    case a_word_genus => k_is
    case l_word_genus => k_is
    case c_word_genus => k_is
    case k_word_genus => k_is
    case a_put_in => k_is
    case l_put_in => k_is
    case c_put_in => k_is
    case k_put_in => k_is
    case a_changed_at => k_is
    case l_changed_at => k_is
    case c_changed_at => k_is
    case k_changed_at => k_is
    case a_stacked => k_is
    case l_stacked => k_is
    case c_stacked => k_is
    case k_stacked => k_is
    case a_unstacked => k_is
    case l_unstacked => k_is
    case c_unstacked => k_is
    case k_unstacked => k_is
    case a_any_moved => k_is
    case l_any_moved => k_is
    case c_any_moved => k_is
    case k_any_moved => k_is
    case a_one_moved => k_is
    case l_one_moved => k_is
    case c_one_moved => k_is
    case k_one_moved => k_is
    case a_word_led => k_is
    case l_word_led => k_is
    case c_word_led => k_is
    case k_word_led => k_is
    case a__law_draw => k_is
    case l__law_draw => k_is
    case c__law_draw => k_is
    case k__law_draw => k_is
    case a__law_pick => k_is
    case l__law_pick => k_is
    case c__law_pick => k_is
    case k__law_pick => k_is
    case a__law_listed => k_is
    case l__law_listed => k_is
    case c__law_listed => k_is
    case k__law_listed => k_is
    case a__law_is_int => k_is
    case l__law_is_int => k_is
    case c__law_is_int => k_is
    case k__law_is_int => k_is
    case a__law_o_word_led => k_is
    case l__law_o_word_led => k_is
    case c__law_o_word_led => k_is
    case k__law_o_word_led => k_is
    case a__law_o_some_word_move => k_is
    case l__law_o_some_word_move => k_is
    case c__law_o_some_word_move => k_is
    case k__law_o_some_word_move => k_is
    case a__law_o_rounds_of_word => k_is
    case l__law_o_rounds_of_word => k_is
    case c__law_o_rounds_of_word => k_is
    case k__law_o_rounds_of_word => k_is
    case a__law_o_odd_word => k_is
    case l__law_o_odd_word => k_is
    case c__law_o_odd_word => k_is
    case k__law_o_odd_word => k_is
    case a__law_pen => k_is
    case l__law_pen => k_is
    case c__law_pen => k_is
    case k__law_pen => k_is
    case a__law_heard => k_is
    case l__law_heard => k_is
    case c__law_heard => k_is
    case k__law_heard => k_is
    case a_law => k_is
    case l_law => k_is
    case c_law => k_is
    case a_BadNumber => k_is
    case x_BadNumber => k_is
    case i_BadNumber => k_is
    case l_BadNumber => k_is
    case e_BadNumber => k_is
    case b_BadNumber => kernel_rfl
    case j_BadNumber => kernel_rfl
    case a_BadMoves => k_is
    case x_BadMoves => k_is
    case i_BadMoves => k_is
    case l_BadMoves => k_is
    case e_BadMoves => k_is
    case b_BadMoves => kernel_rfl
    case j_BadMoves => kernel_rfl
    case a_BadWord => k_is
    case x_BadWord => k_is
    case i_BadWord => k_is
    case l_BadWord => k_is
    case e_BadWord => k_is
    case b_BadWord => kernel_rfl
    case j_BadWord => kernel_rfl
    case a_NotPositive => k_is
    case x_NotPositive => k_is
    case i_NotPositive => k_is
    case l_NotPositive => k_is
    case e_NotPositive => k_is
    case b_NotPositive => kernel_rfl
    case j_NotPositive => kernel_rfl
    case a_NotJoined => k_is
    case x_NotJoined => k_is
    case i_NotJoined => k_is
    case l_NotJoined => k_is
    case e_NotJoined => k_is
    case b_NotJoined => kernel_rfl
    case j_NotJoined => kernel_rfl
    case a_Together => k_is
    case i_Together => k_is
    case l_Together => k_is
    case c_Together => k_is
    case f_Together => k_is
    case mk_Together => k_is
    case kp_Together => k_is
    case o_Together_indices => k_is
    case a_Apart => k_is
    case i_Apart => k_is
    case l_Apart => k_is
    case c_Apart => k_is
    case f_Apart => k_is
    case mk_Apart => k_is
    case kp_Apart => k_is
    case o_Apart_k => k_is
    case a_Positive => k_is
    case i_Positive => k_is
    case l_Positive => k_is
    case c_Positive => k_is
    case f_Positive => k_is
    case mk_Positive => k_is
    case kp_Positive => k_is
    case o_Positive_places => k_is
    case a_Negative => k_is
    case i_Negative => k_is
    case l_Negative => k_is
    case c_Negative => k_is
    case f_Negative => k_is
    case mk_Negative => k_is
    case kp_Negative => k_is
    case o_Negative_index => k_is
    case n_super => k_is
    case n_abs => k_is
    case n_any => k_is
    case n_bool => k_is
    case n_enumerate => k_is
    case n_int => k_is
    case n_isinstance => k_is
    case n_len => k_is
    case n_list => k_is
    case n_range => k_is
    case n_repr => k_is
    case n_set => k_is
    case n_sorted => k_is
    case n_str => k_is
    case n_tuple => k_is
    case c_MOST_CROSSINGS => k_is
    case c_MOST_STRANDS => k_is
    case kcb => kernel_rfl
    case xm => kernel_rfl
    case nT => kernel_rfl
    case hd => kernel_rfl
  case G =>
    intro w H s e s' z
    obtain ⟨_, _, _, _, _, _, _, _, _, _, _, _, z⟩ := z
    exact z
