import PyProof.Rows.All
import Wide.All
import OpenK.AllK
import Wide.FinOn
import HandS.ForMost
import HandS.ForExc
import HandS.Deep
import HandS.TupAny
import HandS.TupMul
import HandS.IsInst
import HandS.Sort
import HandS.Flow
import HandS.Defaults
import HandS.Conv
import HandS.Zip
import KE.GoesMore
import KE.GoesEnum
import HandS.DictTup
import HandS.Style
import HandS.HeadEnd
import HandS.Words
import KE.KStateDown
import Lean
import HandS.Ends
import HandS.More
import HandS.WordsExc
import HandS.Head0
import HandS.Head1
import HandS.Head2
import HandS.HeadHook1
import HandS.HeadHook2
import PySem.Challenge.RW_splitfree_k74_whole_histories_judged
set_option Elab.async false
set_option linter.all false
set_option maxRecDepth 100000
set_option maxHeartbeats 0
/-! Reflection layer, part 1: plain data and how a heap holds it. -/
namespace Rf
open PySem PySem.Spec PyProof.Rows L2

/-- plain data, as a tree -/
inductive D where
  | non | bl (b : Bool) | int (i : Int) | str (x : Str)
  | tup (xs : List D) | lst (xs : List D)
  | dk (ks : List Key) (vs : List D) | dt (ks : List (List Key)) (vs : List D)
  /-- a list of the law's caller, of which its length alone is asked -/
  | scr (n : Nat)

/-- a part of the heap out of sight -/
noncomputable def mask (O : Addr → Prop) (H : Hp) : Hp := fun a => open Classical in if O a then none else H a
theorem mask_of {O : Addr → Prop} {H : Hp} {a : Addr} {o : HO} (h : mask O H a = some o) : ¬ O a ∧ H a = some o := by
  unfold mask at h
  split at h
  · cases h
  · exact ⟨by assumption, h⟩
theorem mask_at {O : Addr → Prop} {H : Hp} {a : Addr} {o : HO} (n : ¬ O a) (h : H a = some o) : mask O H a = some o := by
  unfold mask
  rw [if_neg n]
  exact h

/-- what a lock leaves: a dict may be known by its object meanwhile -/
def isD : HO → Bool
  | .dK _ => true
  | .dT _ => true
  | _ => false
def LeO (o o' : HO) : Prop := o' = o ∨ (∃ u, isD u = true ∧ (o = u ∨ ∃ q, o = .frz q u) ∧ (o' = u ∨ ∃ q, o' = .frz q u))
/-- all that stands in the one stands in the other -/
def Le (H H' : Hp) : Prop := ∀ a o, H a = some o → ∃ o', H' a = some o' ∧ LeO o o'
theorem LeO.refl (o : HO) : LeO o o := .inl rfl
theorem Le.refl (H : Hp) : Le H H := fun a o h => ⟨o, h, .refl o⟩
theorem isD_frz {q : Obj} {u : HO} : isD (.frz q u) = false := rfl
theorem LeO.trans {a b c : HO} (h : LeO a b) (k : LeO b c) : LeO a c := by
  rcases h with rfl | ⟨u, hu, h1, h2⟩
  · exact k
  · rcases k with rfl | ⟨v, hv, k1, k2⟩
    · exact .inr ⟨u, hu, h1, h2⟩
    · have e : u = v := by
        rcases h2 with rfl | ⟨q, rfl⟩
        · rcases k1 with rfl | ⟨r, e⟩
          · rfl
          · subst e; rw [isD_frz] at hu; cases hu
        · rcases k1 with e | ⟨r, e⟩
          · subst e; rw [isD_frz] at hv; cases hv
          · cases e; rfl
      subst e
      exact .inr ⟨u, hu, h1, k2⟩
theorem Le.trans {H H1 H2 : Hp} (h : Le H H1) (k : Le H1 H2) : Le H H2 := fun a o e => by
  obtain ⟨o1, e1, l1⟩ := h a o e
  obtain ⟨o2, e2, l2⟩ := k a o1 e1
  exact ⟨o2, e2, l1.trans l2⟩
theorem Le.lst {H H' : Hp} (h : Le H H') {a : Addr} {vs : List V} (e : H a = some (.lst vs)) : H' a = some (.lst vs) := by
  obtain ⟨o, e1, l⟩ := h a _ e
  rcases l with rfl | ⟨u, hu, h1, _⟩
  · exact e1
  · rcases h1 with rfl | ⟨q, h1⟩
    · cases hu
    · cases h1
theorem Le.tup {H H' : Hp} (h : Le H H') {a : Addr} {vs : List V} (e : H a = some (.tup vs)) : H' a = some (.tup vs) := by
  obtain ⟨o, e1, l⟩ := h a _ e
  rcases l with rfl | ⟨u, hu, h1, _⟩
  · exact e1
  · rcases h1 with rfl | ⟨q, h1⟩
    · cases hu
    · cases h1
theorem Le.rd {H H' : Hp} (h : Le H H') {a : Addr} {u : HO} (e : Rd H a u) (hu : isD u = true) : Rd H' a u := by
  rcases e with e | ⟨q, e⟩
  · obtain ⟨o, e1, l⟩ := h a _ e
    rcases l with rfl | ⟨v, hv, h1, h2⟩
    · exact .inl e1
    · have : u = v := by
        rcases h1 with rfl | ⟨r, h1⟩
        · rfl
        · subst h1; cases hu
      subst this
      rcases h2 with rfl | ⟨r, rfl⟩
      · exact .inl e1
      · exact .inr ⟨r, e1⟩
  · obtain ⟨o, e1, l⟩ := h a _ e
    rcases l with rfl | ⟨v, hv, h1, h2⟩
    · exact .inr ⟨q, e1⟩
    · have : u = v := by
        rcases h1 with rfl | ⟨r, h1⟩
        · cases hv
        · cases h1; rfl
      subst this
      rcases h2 with rfl | ⟨r, rfl⟩
      · exact .inl e1
      · exact .inr ⟨r, e1⟩
theorem Le.sqT {K : PySem.W.Frag} {H H' : Hp} (h : Le H H') {a : Addr} {vs : List V} (e : SqT K H a vs) : SqT K H' a vs := by
  rcases e with (e | ⟨q, e⟩) | e
  · exact .inl (.inl (h.tup e))
  · obtain ⟨o, e1, l⟩ := h a _ e
    rcases l with rfl | ⟨u, hu, h1, _⟩
    · exact .inl (.inr ⟨q, e1⟩)
    · rcases h1 with rfl | ⟨r, h1⟩
      · cases hu
      · cases h1; cases hu
  · exact .inr e
theorem Le.sqL {K : PySem.W.Frag} {H H' : Hp} (h : Le H H') {a : Addr} {vs : List V} (e : SqL K H a vs) : SqL K H' a vs := by
  rcases e with (e | ⟨q, e⟩) | e
  · exact .inl (.inl (h.lst e))
  · obtain ⟨o, e1, l⟩ := h a _ e
    rcases l with rfl | ⟨u, hu, h1, _⟩
    · exact .inl (.inr ⟨q, e1⟩)
    · rcases h1 with rfl | ⟨r, h1⟩
      · cases hu
      · cases h1; cases hu
  · exact .inr e

mutual
/-- the value v stands for the data d -/
inductive Rp (K : PySem.W.Frag) (H : Hp) : V → D → Prop
  | non : Rp K H .non .non
  | bl (b : Bool) : Rp K H (.bl b) (.bl b)
  | int (i : Int) : Rp K H (.int i) (.int i)
  | str (x : Str) : Rp K H (.str x) (.str x)
  | tup {a : Addr} {vs : List V} {ds : List D} : H a = some (.tup vs) → RpA K H vs ds → Rp K H (.ref a) (.tup ds)
  | lst {a : Addr} {vs : List V} {ds : List D} : H a = some (.lst vs) → RpA K H vs ds → Rp K H (.ref a) (.lst ds)
  | dk {a : Addr} {ks : List Key} {vs : List V} {ds : List D} : ks.length = vs.length → Rd H a (.dK (ks.zip vs)) → RpA K H vs ds → Rp K H (.ref a) (.dk ks ds)
  | dt {a : Addr} {ks : List (List Key)} {vs : List V} {ds : List D} : ks.length = vs.length → Rd H a (.dT (ks.zip vs)) → RpA K H vs ds → Rp K H (.ref a) (.dt ks ds)
inductive RpA (K : PySem.W.Frag) (H : Hp) : List V → List D → Prop
  | nil : RpA K H [] []
  | cons {v : V} {vs : List V} {d : D} {ds : List D} : Rp K H v d → RpA K H vs ds → RpA K H (v :: vs) (d :: ds)
end

section
variable {K : PySem.W.Frag} {H H' : Hp}
mutual
theorem Rp.le (l : Le H H') : ∀ {v : V} {d : D}, Rp K H v d → Rp K H' v d
  | _, _, .non => .non
  | _, _, .bl b => .bl b
  | _, _, .int b => .int b
  | _, _, .str b => .str b
  | _, _, .tup h r => .tup (l.tup h) (RpA.le l r)
  | _, _, .lst h r => .lst (l.lst h) (RpA.le l r)
  | _, _, .dk z h r => .dk z (l.rd h rfl) (RpA.le l r)
  | _, _, .dt z h r => .dt z (l.rd h rfl) (RpA.le l r)
theorem RpA.le (l : Le H H') : ∀ {vs : List V} {ds : List D}, RpA K H vs ds → RpA K H' vs ds
  | _, _, .nil => .nil
  | _, _, .cons h r => .cons (Rp.le l h) (RpA.le l r)
end
theorem RpA.length : ∀ {vs : List V} {ds : List D}, RpA K H vs ds → vs.length = ds.length
  | _, _, .nil => rfl
  | _, _, .cons _ r => by simp [RpA.length r]
theorem RpA.append : ∀ {vs ws : List V} {ds es : List D}, RpA K H vs ds → RpA K H ws es → RpA K H (vs ++ ws) (ds ++ es)
  | _, _, _, _, .nil, s => s
  | _, _, _, _, .cons h r, s => .cons h (RpA.append r s)
theorem RpA.take : ∀ {vs : List V} {ds : List D} (n : Nat), RpA K H vs ds → RpA K H (vs.take n) (ds.take n)
  | _, _, 0, _ => .nil
  | _, _, _ + 1, .nil => .nil
  | _, _, n + 1, .cons h r => .cons h (RpA.take n r)
theorem RpA.drop : ∀ {vs : List V} {ds : List D} (n : Nat), RpA K H vs ds → RpA K H (vs.drop n) (ds.drop n)
  | _, _, 0, r => r
  | _, _, _ + 1, .nil => .nil
  | _, _, n + 1, .cons _ r => RpA.drop n r
theorem RpA.get : ∀ {vs : List V} {ds : List D} {i : Nat} {d : D}, RpA K H vs ds → ds[i]? = some d → ∃ v, vs[i]? = some v ∧ Rp K H v d
  | _, _, _, _, .nil, e => by simp at e
  | _, _, 0, _, .cons h _, e => by simp at e; subst e; exact ⟨_, rfl, h⟩
  | _, _, i + 1, d, .cons _ r, e => by
    obtain ⟨v, e1, h⟩ := RpA.get (i := i) (d := d) r (by simpa using e)
    exact ⟨v, by simpa using e1, h⟩
theorem RpA.get' : ∀ {vs : List V} {ds : List D} {i : Nat} {v : V}, RpA K H vs ds → vs[i]? = some v → ∃ d, ds[i]? = some d ∧ Rp K H v d
  | _, _, _, _, .nil, e => by simp at e
  | _, _, 0, _, .cons h _, e => by simp at e; subst e; exact ⟨_, rfl, h⟩
  | _, _, i + 1, d, .cons _ r, e => by
    obtain ⟨v, e1, h⟩ := RpA.get' (i := i) (v := d) r (by simpa using e)
    exact ⟨v, by simpa using e1, h⟩
theorem RpA.set : ∀ {vs : List V} {ds : List D} (i : Nat) {v : V} {d : D}, RpA K H vs ds → Rp K H v d → RpA K H (vs.set i v) (ds.set i d)
  | _, _, _, _, _, .nil, _ => .nil
  | _, _, 0, _, _, .cons _ r, k => .cons k r
  | _, _, i + 1, _, _, .cons h r, k => .cons h (RpA.set i r k)
theorem RpA.eraseIdx : ∀ {vs : List V} {ds : List D} (i : Nat), RpA K H vs ds → RpA K H (vs.eraseIdx i) (ds.eraseIdx i)
  | _, _, _, .nil => .nil
  | _, _, 0, .cons _ r => r
  | _, _, i + 1, .cons h r => .cons h (RpA.eraseIdx i r)
theorem RpA.reverse {vs : List V} {ds : List D} (r : RpA K H vs ds) : RpA K H vs.reverse ds.reverse := by
  induction vs generalizing ds with
  | nil => cases r; exact .nil
  | cons v vs ih =>
    cases r with
    | cons h r =>
      rw [List.reverse_cons, List.reverse_cons]
      exact (ih r).append (.cons h .nil)
theorem RpA.rep {vs : List V} {ds : List D} (r : RpA K H vs ds) : ∀ n : Nat, RpA K H (List.replicate n vs).flatten (List.replicate n ds).flatten
  | 0 => .nil
  | n + 1 => by
    rw [List.replicate_succ, List.replicate_succ, List.flatten_cons, List.flatten_cons]
    exact r.append (RpA.rep r n)
theorem RpA.dropLast {vs : List V} {ds : List D} (r : RpA K H vs ds) : RpA K H vs.dropLast ds.dropLast := by
  rw [List.dropLast_eq_take, List.dropLast_eq_take, r.length]
  exact r.take _
end
end Rf
/-! Reflection layer, part 2: a small language and its meaning over plain data. -/
namespace Rf
open PySem PySem.Spec PyProof.Rows L2

inductive Op where
  | add | sub | mul | fdiv | mod | pow | eq | ne | lt | le | gt | ge | isN | notN | inn | nin
  deriving DecidableEq
inductive Ty where
  | int | bool | str | tuple | list | dict
  deriving DecidableEq
inductive Bi where
  | len | isi (t : Ty) | all | any | sum | min | max | abs | listOf | tupOf | dictOf | repr | int
  deriving DecidableEq
/-- a target: one name, or a tuple of names -/
inductive Tg where
  | one (i : Nat) | many (is : List Nat)
  deriving DecidableEq

mutual
/-- an expression that gives data of its own (nothing that a name owns) -/
inductive ME
  | var (i : Nat)
  | cst (d : D)
  | glo (x : Str)
  | tup (es : MEs) | lst (es : MEs) | dk0 | dt0
  | op (o : Op) (a b : MV)
  | chain (o o' : Op) (a b c : MV)
  | inR (neg : Bool) (x lo hi : ME)
  | neg (a : ME) | not (a : ME) | and (a b : ME) | or (a b : ME) | ite (c a b : ME)
  | sub (a : MV) (i : ME) | slc (a : MV) (lo hi : MO) | rev (a : MV)
  | call (f : Nat) (as : MAs) | callk (f : Nat) (ks : List Nat) (as : MAs)
  | take (j : Nat) (a : ME)
  | bi (b : Bi) (as : MVs)
  | lc (tg : Tg) (own : List Nat) (it : MI) (c : MO) (e : ME)
  | lc2 (tg : Tg) (own own1 : List Nat) (it : MI) (c : MO) (tg1 : Tg) (it1 : MI) (c1 : MO) (e : ME)
inductive MO
  | no | yes (e : ME)
/-- an operand that is read at once: a name's container may be the name's own -/
inductive MV
  | e (m : ME) | pk (i : Nat)
inductive MEs
  | nil | cons (e : ME) (es : MEs)
inductive MVs
  | nil | cons (e : MV) (es : MVs)
/-- an argument: data, or what stands at a name (lent) -/
inductive MA
  | val (m : ME) | lend (i : Nat)
inductive MAs
  | nil | cons (e : MA) (es : MAs)
/-- what is walked -/
inductive MI
  | seq (a : MV) | keys (a : MV) | rng (lo hi : ME) | enu (a : MV) | zip (a b : MV)
end
mutual
inductive MS
  | asg (i : Nat) (e : ME)
  | new (i : Nat) (e : ME)
  | ali (i : Nat) (c : ME) (e : ME) (j : Nat)
  | fz (is : List Nat) (s : MS)
  | par (ts : List (Nat × Bool)) (es : MEs)
  | unp (is : List Nat) (e : ME)
  | put (i : Nat) (k e : ME)
  | aug (i : Nat) (o : Op) (e : ME)
  | app (i : Nat) (e : ME)
  | appPop (i j : Nat) (e : ME)
  | dpop (i : Nat) (e : ME)
  | ex (e : ME) | ret (e : ME) | retN
  | ite (c : ME) (a b : MSs)
  | loop (tg : Tg) (it : MI) (body : MSs)
  | whl (c : ME) (body : MSs)
  | brk | cnt | pass
inductive MSs
  | nil | cons (s : MS) (ss : MSs)
end

/-! ### meanings -/
/-- no tuple -/
def NT : HO → Prop
  | .tup _ => False
  | _ => True
/-- the machine of draws -/
structure Drw where
  S : Type
  take : S → Int → Option (Int × S)
  rel : Addr → (Addr → Prop) → S → Hp → Prop
  frame : ∀ {dr Dm s H H'}, rel dr Dm s H → (∀ a, Dm a → H' a = H a) → rel dr Dm s H'
  dom : ∀ {dr Dm s H a}, rel dr Dm s H → Dm a → ∃ o, H a = some o ∧ NT o

structure Er where
  cls : Str
  arg : Option Int
/-- what comes out: a result, an error, or nothing that is told -/
inductive Rs (S α : Type) where
  | ok (a : α) (s : S) | err (e : Er) (s : S) | stuck
def Rs.bind {S α β : Type} (r : Rs S α) (f : α → S → Rs S β) : Rs S β := match r with
  | .ok a s => f a s
  | .err e s => .err e s
  | .stuck => .stuck
def Rs.lift {S α : Type} (o : Option α) (s : S) : Rs S α := match o with
  | some a => .ok a s
  | none => .stuck
@[simp] theorem Rs.bind_ok {S α β : Type} (a : α) (s : S) (f : α → S → Rs S β) : (Rs.ok a s).bind f = f a s := rfl
@[simp] theorem Rs.bind_err {S α β : Type} (e : Er) (s : S) (f : α → S → Rs S β) : (Rs.err e s).bind f = .err e s := rfl
@[simp] theorem Rs.bind_stuck {S α β : Type} (f : α → S → Rs S β) : (Rs.stuck : Rs S α).bind f = .stuck := rfl
@[simp] theorem Rs.lift_some {S α : Type} (a : α) (s : S) : Rs.lift (some a) s = .ok a s := rfl
@[simp] theorem Rs.lift_none {S α : Type} (s : S) : Rs.lift (none : Option α) s = .stuck := rfl

/-- where no error may come -/
def Rs.calm {S α : Type} (r : Rs S α) : Rs S α := match r with
  | .err _ _ => .stuck
  | r => r
@[simp] theorem Rs.calm_ok {S α : Type} (a : α) (s : S) : (Rs.ok a s).calm = .ok a s := rfl
@[simp] theorem Rs.calm_err {S α : Type} (e : Er) (s : S) : (Rs.err e s : Rs S α).calm = .stuck := rfl
@[simp] theorem Rs.calm_stuck {S α : Type} : (Rs.stuck : Rs S α).calm = .stuck := rfl
inductive Slot where
  | non | dat (d : D) | own (d : D) | bor (d : D) | ali (j : Nat) | drw
abbrev En := List Slot
inductive Arg where
  | dat (d : D) | bor (d : D) | drw
inductive Out where
  | nxt (e : En) | brk (e : En) | cnt (e : En) | ret (d : D)

/-! #### data -/
mutual
def toPy : D → PyData
  | .non => .none
  | .bl b => .bool b
  | .int i => .int i
  | .str x => .str x
  | .tup xs => .tuple (toPyA xs)
  | .lst xs => .list (toPyA xs)
  | .dk _ _ => .dict []
  | .dt _ _ => .dict []
  | .scr _ => .dict []
def toPyA : List D → List PyData
  | [] => []
  | d :: ds => toPy d :: toPyA ds
end
def shaped (d : D) : Bool := SeqAt.shaped (toPy d)
def eqvD (x y : D) : Bool := PyData.eqv (toPy x) (toPy y)
def keyOf : D → Option Key
  | .int i => some (.inl i)
  | .str x => some (.inr x)
  | _ => none
def keysOf : List D → Option (List Key)
  | [] => some []
  | d :: ds => match keyOf d, keysOf ds with
    | some k, some ks => some (k :: ks)
    | _, _ => none
def keyD : Key → D
  | .inl i => .int i
  | .inr x => .str x
section
variable {κ : Type} [DecidableEq κ]
def lookD : List κ → List D → κ → Option D
  | k :: ks, d :: ds, j => if k = j then some d else lookD ks ds j
  | _, _, _ => none
/-- d[k] = v: in place, or behind all -/
def setDs : List κ → List D → κ → D → List D
  | k :: ks, d :: ds, j, v => (if k = j then v else d) :: setDs ks ds j v
  | _, _, _, _ => []
def putKs (ks : List κ) (j : κ) : List κ := if j ∈ ks then ks else ks ++ [j]
def putDs (ks : List κ) (ds : List D) (j : κ) (v : D) : List D := if j ∈ ks then setDs ks ds j v else ds ++ [v]
def dropKs : List κ → κ → List κ
  | [], _ => []
  | k :: ks, j => if k = j then dropKs ks j else k :: dropKs ks j
def dropDs : List κ → List D → κ → List D
  | k :: ks, d :: ds, j => if k = j then dropDs ks ds j else d :: dropDs ks ds j
  | _, _, _ => []
end
/-- a look-up in a dict -/
def getD? (d k : D) : Option (Option D) := match d with
  | .dk ks vs => (keyOf k).map fun k => lookD ks vs k
  | .dt ks vs => match k with
    | .tup xs => (keysOf xs).map fun k => lookD ks vs k
    | _ => none
  | _ => none
def putD (d k v : D) : Option D := match d with
  | .dk ks vs => (keyOf k).bind fun k => if ks.length < sizeLine then some (.dk (putKs ks k) (putDs ks vs k v)) else none
  | .dt ks vs => match k with
    | .tup xs => (keysOf xs).bind fun k => if ks.length < sizeLine then some (.dt (putKs ks k) (putDs ks vs k v)) else none
    | _ => none
  | .lst xs => match k with
    | .int i => (ixN xs.length i).map fun j => .lst (xs.set j v)
    | _ => none
  | _ => none
def augD (o : Op) (d x : D) : Option D := match o, d, x with
  | .add, .int a, .int b => some (.int (a + b))
  | .sub, .int a, .int b => some (.int (a - b))
  | _, _, _ => none
/-- what a list's pop tells, and what it leaves -/
def popD (ys : List D) (x : D) : Option (D × List D) := match x with
  | .int k => if -(2 ^ 63) ≤ k ∧ k < 2 ^ 63 then (ixN ys.length k).bind fun n => (ys[n]?).map fun y => (y, ys.eraseIdx n) else none
  | _ => none
def isDict : D → Bool
  | .dk _ _ => true
  | .dt _ _ => true
  | _ => false
def dpopD (d k : D) : Option D := match d with
  | .dk ks vs => (keyOf k).bind fun k => if (lookD ks vs k).isSome then some (.dk (dropKs ks k) (dropDs ks vs k)) else none
  | .dt ks vs => (match k with
    | .tup xs => (keysOf xs).bind fun k => if (lookD ks vs k).isSome then some (.dt (dropKs ks k) (dropDs ks vs k)) else none
    | _ => none)
  | _ => none
def truth : D → Option Bool
  | .non => some false
  | .bl b => some b
  | .int i => some (i != 0)
  | .tup xs => some (!xs.isEmpty)
  | .lst xs => some (!xs.isEmpty)
  | _ => none
def cutD (xs : List D) (lo hi : Option Int) : List D := (xs.drop (HT.sIx xs.length 0 lo)).take (HT.sIx xs.length xs.length hi - HT.sIx xs.length 0 lo)
def memD (x : D) (xs : List D) : Bool := xs.any fun y => eqvD y x
def shapedA (xs : List D) : Bool := SeqAt.shaped (.list (toPyA xs))
def addD : D → D → Option D
  | .int i, .int j => some (.int (i + j))
  | .tup xs, .tup ys => if xs.length + ys.length ≤ sizeLine then some (.tup (xs ++ ys)) else none
  | .lst xs, .lst ys => if xs.length + ys.length ≤ sizeLine then some (.lst (xs ++ ys)) else none
  | .str x, .str y => if x.length + y.length ≤ sizeLine then some (.str (x ++ y)) else none
  | _, _ => none
def int2 (f : Int → Int → Option D) : D → D → Option D
  | .int i, .int j => f i j
  | _, _ => none
def mulD : D → D → Option D
  | .int i, .int j => if (-(2 ^ 64) < i ∧ i < 2 ^ 64) ∨ (-(2 ^ 64) < j ∧ j < 2 ^ 64) then some (.int (i * j)) else none
  | .lst xs, .int k => if 0 ≤ k ∧ k ≤ 1000 ∧ xs.length ≤ 1000 then some (.lst (List.replicate k.toNat xs).flatten) else none
  | .tup xs, .int k => if xs.length ≠ 0 ∧ 1 ≤ k ∧ k ≤ 1000 ∧ xs.length ≤ 1000 then some (.tup (List.replicate k.toNat xs).flatten) else none
  | _, _ => none
def isN : D → Bool
  | .non => true
  | _ => false
def inD (neg : Bool) : D → D → Option D
  | x, .lst ys => if shaped x && shapedA ys then some (.bl (neg != memD x ys)) else none
  | x, .dk ks vs => (getD? (.dk ks vs) x).map fun o => .bl (neg != o.isSome)
  | x, .dt ks vs => (getD? (.dt ks vs) x).map fun o => .bl (neg != o.isSome)
  | _, _ => none
def opD : Op → D → D → Option D
  | .add => addD
  | .sub => int2 fun i j => some (.int (i - j))
  | .mul => mulD
  | .fdiv => int2 fun i j => if 0 < j ∧ j < 1073741824 then some (.int (i / j)) else none
  | .mod => int2 fun i j => if 0 < j then some (.int (i % j)) else none
  | .pow => int2 fun i j => if 0 ≤ j ∧ j ≤ 1000000 ∧ i.natAbs < 2 ^ 64 then some (.int (i ^ j.toNat)) else none
  | .eq => fun x y => if shaped x && shaped y then some (.bl (eqvD x y)) else none
  | .ne => fun x y => if shaped x && shaped y then some (.bl (!eqvD x y)) else none
  | .lt => int2 fun i j => some (.bl (decide (i < j)))
  | .le => int2 fun i j => some (.bl (decide (i ≤ j)))
  | .gt => int2 fun i j => some (.bl (decide (j < i)))
  | .ge => int2 fun i j => some (.bl (decide (j ≤ i)))
  | .isN => fun x y => match y with | .non => some (.bl (isN x)) | _ => none
  | .notN => fun x y => match y with | .non => some (.bl (!isN x)) | _ => none
  | .inn => inD false
  | .nin => inD true
/-- a[i] -/
def subD : D → D → Option D
  | .tup xs, .int i => atI xs i
  | .lst xs, .int i => atI xs i
  | .dk ks vs, k => (getD? (.dk ks vs) k).bind id
  | .dt ks vs, k => (getD? (.dt ks vs) k).bind id
  | _, _ => none
def slcD : D → Option Int → Option Int → Option D
  | .tup xs, lo, hi => some (.tup (cutD xs lo hi))
  | .lst xs, lo, hi => some (.lst (cutD xs lo hi))
  | _, _, _ => none
def revD : D → Option D
  | .tup xs => some (.tup xs.reverse)
  | .lst xs => some (.lst xs.reverse)
  | _ => none
def isTy : Ty → D → Bool
  | .int, .int _ => true
  | .int, .bl _ => true
  | .bool, .bl _ => true
  | .str, .str _ => true
  | .tuple, .tup _ => true
  | .list, .lst _ => true
  | .dict, .dk _ _ => true
  | .dict, .dt _ _ => true
  | _, _ => false
def bools : List D → Option (List Bool)
  | [] => some []
  | .bl b :: r => (bools r).map fun bs => b :: bs
  | _ :: _ => none
def intsOf : List D → Option (List Int)
  | [] => some []
  | .int b :: r => (intsOf r).map fun bs => b :: bs
  | _ :: _ => none
/-- repr, of what it is known here -/
def reprD (d : D) : Option D := if shaped d && (toPy d).showable && decide ((toPy d).shown.length ≤ sizeLine) then some (.str (toPy d).shown) else none
def plainD : D → Bool
  | .dt _ _ => false
  | .scr _ => false
  | _ => true
def biD : Bi → List D → Option D
  | .len, [.tup xs] => some (.int xs.length)
  | .len, [.lst xs] => some (.int xs.length)
  | .len, [.dk ks _] => some (.int ks.length)
  | .len, [.scr n] => some (.int n)
  | .isi t, [x] => if plainD x then some (.bl (isTy t x)) else none
  | .all, [.lst xs] => (bools xs).map fun bs => .bl (bs.all id)
  | .any, [.lst xs] => (bools xs).map fun bs => .bl (bs.any id)
  | .sum, [.lst xs] => (intsOf xs).map fun ns => .int ns.sum
  | .min, [.int i, .int j] => some (.int (if j < i then j else i))
  | .max, [.int i, .int j] => some (.int (if j > i then j else i))
  | .abs, [.int i] => some (.int (if i < 0 then -i else i))
  | .listOf, [.lst xs] => some (.lst xs)
  | .listOf, [.tup xs] => some (.lst xs)
  | .tupOf, [.lst xs] => some (.tup xs)
  | .tupOf, [.tup xs] => some (.tup xs)
  | .dictOf, [.dk ks vs] => some (.dk ks vs)
  | .repr, [x] => reprD x
  | .int, [.int i] => some (.int i)
  | .int, [.bl b] => some (.int (if b then 1 else 0))
  | _, _ => none

/-! #### names -/
def kill (i : Nat) : Slot → Slot
  | .ali k => if k = i then .non else .ali k
  | t => t
/-- what stood there is let go -/
def setS (e : En) (i : Nat) (s : Slot) : En := match e[i]? with
  | some (.own _) => (e.map (kill i)).set i s
  | _ => e.set i s
def bindMany : List Nat → List D → En → Option En
  | [], [], e => some e
  | i :: is, d :: ds, e => bindMany is ds (setS e i (.dat d))
  | _, _, _ => none
def bindTg (t : Tg) (d : D) (e : En) : Option En := match t with
  | .one i => some (setS e i (.dat d))
  | .many is => match d with
    | .tup ds => bindMany is ds e
    | _ => none
/-- a comprehension's own names, forgotten within -/
def wipeE (e : En) : List Nat → Option En
  | [] => some e
  | i :: is => match wipeE e is with
    | some e' => (match e'[i]? with
      | some (.own _) => none
      | _ => some (e'.set i .non))
    | none => none
def freezeS : Slot → Slot
  | .own d => .dat d
  | .ali _ => .non
  | t => t
def freeze1 (e : En) (i : Nat) : En := match e[i]? with
  | some (.own d) => (e.map (kill i)).set i (.dat d)
  | _ => e
def freeze (is : List Nat) (e : En) : En := is.foldl freeze1 e
/-- all that is owned becomes data -/
def freezeAll (e : En) : En := e.map freezeS
def viewS (e : En) (i : Nat) : Option D := match e[i]? with
  | some (.dat d) => some d
  | some (.own d) => some d
  | some (.bor d) => some d
  | some (.ali j) => (match e[j]? with
    | some (.own d) => some d
    | _ => none)
  | _ => none
def dataS (e : En) (i : Nat) : Option D := match e[i]? with
  | some (.dat d) => some d
  | _ => none
def lendS (e : En) (i : Nat) : Option Arg := match e[i]? with
  | some (.dat d) => some (.dat d)
  | some (.own d) => some (.bor d)
  | some (.bor d) => some (.bor d)
  | some (.ali j) => (match e[j]? with
    | some (.own d) => some (.bor d)
    | _ => none)
  | some .drw => some .drw
  | _ => none
def seqD : D → Option (List D)
  | .tup xs => some xs
  | .lst xs => some xs
  | _ => none
def keysD : D → Option (List D)
  | .dk ks _ => some (ks.map keyD)
  | .dt ks _ => some (ks.map fun k => .tup (k.map keyD))
  | _ => none
def rngD (lo hi : D) : Option (List D) := match lo, hi with
  | .int i, .int j => if -(2 ^ 62) ≤ i ∧ i < 2 ^ 62 ∧ -(2 ^ 62) ≤ j ∧ j < 2 ^ 62 then some ((List.range (j - i).toNat).map fun (k : Nat) => .int (i + k)) else none
  | _, _ => none
def enuD (xs : List D) : List D := xs.zipIdx.map fun p => .tup [.int p.2, p.1]
def zipD (xs ys : List D) : List D := (xs.zip ys).map fun p => .tup [p.1, p.2]
def pickA : List Nat → List Arg → Option (List Arg)
  | [], _ => some []
  | j :: js, as => match as[j]?, pickA js as with
    | some a, some r => some (a :: r)
    | _, _ => none
/-- what the law's other defs are, how the draws go, what the module's names hold -/
structure Wld where
  dw : Drw
  glo : Str → Option D
abbrev Wld.T (w : Wld) : Type := Option w.dw.S
abbrev Fs (w : Wld) : Type := Nat → List Arg → w.T → Rs w.T D

section
variable {w : Wld} (F : Fs w)
def lcLoop (own : List Nat) (tg : Tg) (c : En → w.T → Rs w.T Bool) (f : En → w.T → Rs w.T D) (e : En) : List D → List D → w.T → Rs w.T (List D)
  | [], acc, s => .ok acc s
  | d :: ds, acc, s => (Rs.lift (bindTg tg d e) s).bind fun e1 s1 => (c e1 s1).calm.bind fun b s2 =>
      if b then (f e1 s2).calm.bind fun x s3 => if acc.length < sizeLine then lcLoop own tg c f e ds (acc ++ [x]) s3 else .stuck
      else lcLoop own tg c f e ds acc s2
def lcOuter (tg : Tg) (c : En → w.T → Rs w.T Bool) (inner : En → List D → w.T → Rs w.T (List D)) (e : En) : List D → List D → w.T → Rs w.T (List D)
  | [], acc, s => .ok acc s
  | d :: ds, acc, s => (Rs.lift (bindTg tg d e) s).bind fun e1 s1 => (c e1 s1).calm.bind fun b s2 =>
      if b then (inner e1 acc s2).calm.bind fun acc' s3 => lcOuter tg c inner e ds acc' s3
      else lcOuter tg c inner e ds acc s2

mutual
def denE : ME → En → w.T → Rs w.T D
  | .var i, e, s => .lift (dataS e i) s
  | .cst d, _, s => .ok d s
  | .glo x, _, s => .lift (w.glo x) s
  | .tup es, e, s => (denEs es e s).bind fun ds s1 => if ds.length ≤ sizeLine then .ok (.tup ds) s1 else .stuck
  | .lst es, e, s => (denEs es e s).bind fun ds s1 => if ds.length ≤ sizeLine then .ok (.lst ds) s1 else .stuck
  | .dk0, _, s => .ok (.dk [] []) s
  | .dt0, _, s => .ok (.dt [] []) s
  | .op o a b, e, s => (denV a e s).bind fun x s1 => (denV b e s1).bind fun y s2 => .lift (opD o x y) s2
  | .chain o o' a b c, e, s => (denV a e s).bind fun x s1 => (denV b e s1).bind fun y s2 => (Rs.lift (opD o x y) s2).bind fun r s3 => match r with
    | .bl true => (denV c e s3).bind fun z s4 => .lift (opD o' y z) s4
    | .bl false => .ok (.bl false) s3
    | _ => .stuck
  | .inR neg x lo hi, e, s => (denE x e s).bind fun x s1 => (denE lo e s1).bind fun l s2 => (denE hi e s2).bind fun h s3 => match x, l, h with
    | .int i, .int j, .int k => if -(2 ^ 62) ≤ j ∧ j < 2 ^ 62 ∧ -(2 ^ 62) ≤ k ∧ k < 2 ^ 62 then .ok (.bl (neg != decide (j ≤ i ∧ i < k))) s3 else .stuck
    | _, _, _ => .stuck
  | .neg a, e, s => (denE a e s).bind fun x s1 => match x with
    | .int i => .ok (.int (-i)) s1
    | _ => .stuck
  | .not a, e, s => (denE a e s).bind fun x s1 => (Rs.lift (truth x) s1).bind fun b s2 => .ok (.bl (!b)) s2
  | .and a b, e, s => (denE a e s).bind fun x s1 => match x with
    | .bl true => denE b e s1
    | .bl false => .ok (.bl false) s1
    | _ => .stuck
  | .or a b, e, s => (denE a e s).bind fun x s1 => match x with
    | .bl true => .ok (.bl true) s1
    | .bl false => denE b e s1
    | _ => .stuck
  | .ite c a b, e, s => (denE c e s).bind fun x s1 => (Rs.lift (truth x) s1).bind fun k s2 => if k then denE a e s2 else denE b e s2
  | .sub a i, e, s => (denV a e s).bind fun x s1 => (denE i e s1).bind fun y s2 => .lift (subD x y) s2
  | .slc a lo hi, e, s => (denV a e s).bind fun x s1 => (denO lo e s1).bind fun l s2 => (denO hi e s2).bind fun h s3 => .lift (slcD x l h) s3
  | .rev a, e, s => (denV a e s).bind fun x s1 => .lift (revD x) s1
  | .call f as, e, s => (denAs as e s).bind fun xs s1 => F f xs s1
  | .callk f ks as, e, s => (denAs as e s).bind fun xs s1 => match pickA ks xs with
    | some ys => F f ys s1
    | none => .stuck
  | .take j a, e, s => match e[j]? with
    | some .drw => (denE a e s).bind fun x s1 => (match x, s1 with
      | .int n, some t => (match w.dw.take t n with
        | some (r, t') => .ok (.int r) (some t')
        | none => .stuck)
      | _, _ => .stuck)
    | _ => .stuck
  | .bi b as, e, s => (denVs as e s).bind fun xs s1 => .lift (biD b xs) s1
  | .lc tg own it c f, e, s => (denI it e s).bind fun ds s1 => match wipeE e own with
    | some e0 => (lcLoop own tg (denC c) (denE f) e0 ds [] s1).bind fun ys s2 => .ok (.lst ys) s2
    | none => .stuck
  | .lc2 tg own own1 it c tg1 it1 c1 f, e, s => (denI it e s).bind fun ds s1 => match wipeE e own with
    | some e0 => (lcOuter tg (denC c) (fun e1 acc t => (denI it1 e1 t).bind fun ds1 t1 => match wipeE e1 own1 with
        | some e2 => lcLoop own1 tg1 (denC c1) (denE f) e2 ds1 acc t1
        | none => .stuck) e0 ds [] s1).bind fun ys s2 => .ok (.lst ys) s2
    | none => .stuck
/-- a test within a comprehension, if there is one -/
def denC : MO → En → w.T → Rs w.T Bool
  | .no, _, s => .ok true s
  | .yes c, e, s => (denE c e s).bind fun x s1 => .lift (truth x) s1
def denO : MO → En → w.T → Rs w.T (Option Int)
  | .no, _, s => .ok none s
  | .yes c, e, s => (denE c e s).bind fun x s1 => match x with
    | .int i => .ok (some i) s1
    | _ => .stuck
def denV : MV → En → w.T → Rs w.T D
  | .e m, e, s => denE m e s
  | .pk i, e, s => .lift (viewS e i) s
def denEs : MEs → En → w.T → Rs w.T (List D)
  | .nil, _, s => .ok [] s
  | .cons m ms, e, s => (denE m e s).bind fun x s1 => (denEs ms e s1).bind fun xs s2 => .ok (x :: xs) s2
def denVs : MVs → En → w.T → Rs w.T (List D)
  | .nil, _, s => .ok [] s
  | .cons m ms, e, s => (denV m e s).bind fun x s1 => (denVs ms e s1).bind fun xs s2 => .ok (x :: xs) s2
def denA : MA → En → w.T → Rs w.T Arg
  | .val m, e, s => (denE m e s).bind fun x s1 => .ok (.dat x) s1
  | .lend i, e, s => .lift (lendS e i) s
def denAs : MAs → En → w.T → Rs w.T (List Arg)
  | .nil, _, s => .ok [] s
  | .cons m ms, e, s => (denA m e s).bind fun x s1 => (denAs ms e s1).bind fun xs s2 => .ok (x :: xs) s2
def denI : MI → En → w.T → Rs w.T (List D)
  | .seq a, e, s => (denV a e s).bind fun x s1 => .lift (seqD x) s1
  | .keys a, e, s => (denV a e s).bind fun x s1 => .lift (keysD x) s1
  | .rng lo hi, e, s => (denE lo e s).bind fun l s1 => (denE hi e s1).bind fun h s2 => .lift (rngD l h) s2
  | .enu a, e, s => (denV a e s).bind fun x s1 => .lift ((seqD x).map enuD) s1
  | .zip a b, e, s => (denV a e s).bind fun x s1 => (denV b e s1).bind fun y s2 => .lift ((seqD x).bind fun xs => (seqD y).bind fun ys => if xs.length = ys.length then some (zipD xs ys) else none) s2
end
def denT (c : ME) (e : En) (s : w.T) : Rs w.T Bool := (denE F c e s).bind fun x s1 => .lift (truth x) s1
/-- what a for statement may walk: nothing that a name owns meanwhile -/
def loopOk (e : En) : MI → Bool
  | .seq (.pk i) | .keys (.pk i) | .enu (.pk i) => (match e[i]? with
    | some (.dat _) => true
    | some (.bor _) => true
    | _ => false)
  | .zip (.pk _) _ | .zip _ (.pk _) => false
  | _ => true
def loopFor (tg : Tg) (body : En → w.T → Rs w.T Out) : List D → En → w.T → Rs w.T Out
  | [], e, s => .ok (.nxt e) s
  | d :: ds, e, s => (Rs.lift (bindTg tg d e) s).bind fun e1 s1 => (body e1 s1).bind fun o s2 => match o with
    | .nxt e2 => loopFor tg body ds e2 s2
    | .cnt e2 => loopFor tg body ds e2 s2
    | .brk e2 => .ok (.nxt e2) s2
    | .ret d => .ok (.ret d) s2
def loopWhl (c : En → w.T → Rs w.T Bool) (body : En → w.T → Rs w.T Out) : Nat → En → w.T → Rs w.T Out
  | 0, _, _ => .stuck
  | n + 1, e, s => (c e s).bind fun b s1 => if b then (body e s1).bind fun o s2 => (match o with
      | .nxt e2 => loopWhl c body n e2 s2
      | .cnt e2 => loopWhl c body n e2 s2
      | .brk e2 => .ok (.nxt e2) s2
      | .ret d => .ok (.ret d) s2)
    else .ok (.nxt e) s1
def isKeys : MI → Bool
  | .keys _ => true
  | _ => false
/-- while a dict is walked no error may come -/
def calmIf {S α : Type} (k : Bool) (r : Rs S α) : Rs S α := match k with
  | true => r.calm
  | false => r
/-- the turns that a while may take -/
def whlMost : Nat := 1000000
def parSet : List (Nat × Bool) → List D → En → Option En
  | [], [], e => some e
  | (i, b) :: ts, d :: ds, e => parSet ts ds (setS e i (if b then .own d else .dat d))
  | _, _, _ => none
def ownS (e : En) (i : Nat) : Option D := match e[i]? with
  | some (.own d) => some d
  | _ => none
mutual
def denS : MS → En → w.T → Rs w.T Out
  | .asg i m, e, s => (denE F m e s).bind fun x s1 => .ok (.nxt (setS e i (.dat x))) s1
  | .new i m, e, s => (denE F m e s).bind fun x s1 => .ok (.nxt (setS e i (.own x))) s1
  | .ali i c m j, e, s => (denT F c e s).bind fun k s1 => if k then (denE F m e s1).bind fun x s2 => .ok (.nxt (setS e i (.dat x))) s2
      else match e[j]?, e[i]? with
      | some (.own _), some (.own _) => .stuck
      | some (.own _), _ => .ok (.nxt (e.set i (.ali j))) s1
      | _, _ => .stuck
  | .fz is m, e, s => denS m (freeze is e) s
  | .par ts ms, e, s => (denEs F ms e s).bind fun xs s1 => (Rs.lift (parSet ts xs e) s1).bind fun e1 s2 => .ok (.nxt e1) s2
  | .unp is m, e, s => (denE F m e s).bind fun x s1 => (Rs.lift (bindTg (.many is) x e) s1).bind fun e1 s2 => .ok (.nxt e1) s2
  | .put i k m, e, s => (match ownS e i with
    | some d => (denE F m e s).bind fun x s1 => (denE F k e s1).bind fun y s2 => (Rs.lift (putD d y x) s2).bind fun d' s3 => .ok (.nxt (e.set i (.own d'))) s3
    | none => .stuck)
  | .aug i o m, e, s => (match dataS e i with
    | some d => (denE F m e s).bind fun x s1 => (Rs.lift (augD o d x) s1).bind fun r s2 => .ok (.nxt (setS e i (.dat r))) s2
    | none => .stuck)
  | .app i m, e, s => (match ownS e i with
    | some (.lst xs) => (denE F m e s).bind fun x s1 => if xs.length < sizeLine then .ok (.nxt (e.set i (.own (.lst (xs ++ [x]))))) s1 else .stuck
    | _ => .stuck)
  | .appPop i j m, e, s => (match ownS e i, ownS e j with
    | some (.lst xs), some (.lst ys) => if i = j then .stuck else (denE F m e s).bind fun x s1 => (Rs.lift (popD ys x) s1).bind fun p s2 =>
        if xs.length < sizeLine then .ok (.nxt ((e.set j (.own (.lst p.2))).set i (.own (.lst (xs ++ [p.1]))))) s2 else .stuck
    | _, _ => .stuck)
  | .dpop i m, e, s => (match ownS e i with
    | some d => if isDict d then (denE F m e s).bind fun x s1 => (Rs.lift (dpopD d x) s1).bind fun d' s2 => .ok (.nxt (e.set i (.own d'))) s2 else .stuck
    | none => .stuck)
  | .ex m, e, s => (denE F m e s).bind fun _ s1 => .ok (.nxt e) s1
  | .ret m, e, s => (denE F m (freezeAll e) s).bind fun x s1 => .ok (.ret x) s1
  | .retN, _, s => .ok (.ret .non) s
  | .ite c a b, e, s => (denT F c e s).bind fun k s1 => if k then denSs a e s1 else denSs b e s1
  | .loop tg it b, e, s => if loopOk e it then (denI F it e s).bind fun ds s1 => calmIf (isKeys it) (loopFor tg (denSs b) ds e s1) else .stuck
  | .whl c b, e, s => loopWhl (denT F c) (denSs b) whlMost e s
  | .brk, e, s => .ok (.brk e) s
  | .cnt, e, s => .ok (.cnt e) s
  | .pass, e, s => .ok (.nxt e) s
def denSs : MSs → En → w.T → Rs w.T Out
  | .nil, e, s => .ok (.nxt e) s
  | .cons a r, e, s => (denS a e s).bind fun o s1 => match o with
    | .nxt e1 => denSs r e1 s1
    | o => .ok o s1
end
end
/-- one def: how many parameters, how many names, its body -/
structure MFn where
  np : Nat
  nn : Nat
  body : MSs
def argSlot : Arg → Slot
  | .dat d => .dat d
  | .bor d => .bor d
  | .drw => .drw
def startE (f : MFn) (as : List Arg) : En := as.map argSlot ++ List.replicate (f.nn - as.length) .non
/-- the law's defs, n calls deep at most -/
def runF (w : Wld) (fs : Nat → Option MFn) : Nat → Fs w
  | 0, _, _, _ => .stuck
  | n + 1, f, as, s => match fs f with
    | some fd => if as.length = fd.np then (denSs (runF w fs n) fd.body (startE fd as) s).bind fun o s1 => (match o with
        | .ret d => .ok d s1
        | .nxt _ => .ok .non s1
        | _ => .stuck) else .stuck
    | none => .stuck
section
variable {w : Wld} (F : Fs w)
theorem denV_e (m : ME) : denV F (.e m) = denE F m := by funext e s; simp only [denV]
theorem denV_pk (i : Nat) : denV F (.pk i) = fun e s => .lift (viewS e i) s := by funext e s; simp only [denV]
theorem denE_var (i : Nat) : denE F (.var i) = fun e s => .lift (dataS e i) s := by funext e s; simp only [denE]
theorem denE_cst (d : D) : denE F (.cst d) = fun _ s => .ok d s := by funext e s; simp only [denE]
theorem denE_glo (x : Str) : denE F (.glo x) = fun _ s => .lift (w.glo x) s := by funext e s; simp only [denE]
theorem denE_tup (es : MEs) : denE F (.tup es) = fun e s => (denEs F es e s).bind fun ds s1 => if ds.length ≤ sizeLine then .ok (.tup ds) s1 else .stuck := by funext e s; simp only [denE]
theorem denE_lst (es : MEs) : denE F (.lst es) = fun e s => (denEs F es e s).bind fun ds s1 => if ds.length ≤ sizeLine then .ok (.lst ds) s1 else .stuck := by funext e s; simp only [denE]
theorem denE_dk0 : denE F .dk0 = fun _ s => .ok (.dk [] []) s := by funext e s; simp only [denE]
theorem denE_dt0 : denE F .dt0 = fun _ s => .ok (.dt [] []) s := by funext e s; simp only [denE]
theorem denE_op (o : Op) (a b : MV) : denE F (.op o a b) = fun e s => (denV F a e s).bind fun x s1 => (denV F b e s1).bind fun y s2 => .lift (opD o x y) s2 := by funext e s; simp only [denE]
theorem denE_chain (o o' : Op) (a b c : MV) : denE F (.chain o o' a b c) = fun e s => (denV F a e s).bind fun x s1 => (denV F b e s1).bind fun y s2 => (Rs.lift (opD o x y) s2).bind fun r s3 => match r with
    | .bl true => (denV F c e s3).bind fun z s4 => .lift (opD o' y z) s4
    | .bl false => .ok (.bl false) s3
    | _ => .stuck := by funext e s; simp only [denE]
theorem denE_inR (neg : Bool) (x lo hi : ME) : denE F (.inR neg x lo hi) = fun e s => (denE F x e s).bind fun x s1 => (denE F lo e s1).bind fun l s2 => (denE F hi e s2).bind fun h s3 => match x, l, h with
    | .int i, .int j, .int k => if -(2 ^ 62) ≤ j ∧ j < 2 ^ 62 ∧ -(2 ^ 62) ≤ k ∧ k < 2 ^ 62 then .ok (.bl (neg != decide (j ≤ i ∧ i < k))) s3 else .stuck
    | _, _, _ => .stuck := by funext e s; simp only [denE]
theorem denE_neg (a : ME) : denE F (.neg a) = fun e s => (denE F a e s).bind fun x s1 => match x with
    | .int i => .ok (.int (-i)) s1
    | _ => .stuck := by funext e s; simp only [denE]
theorem denE_not (a : ME) : denE F (.not a) = fun e s => (denT F a e s).bind fun b s2 => .ok (.bl (!b)) s2 := by
  funext e s; simp only [denE, denT]; cases denE F a e s <;> simp [Rs.bind]
theorem denE_and (a b : ME) : denE F (.and a b) = fun e s => (denE F a e s).bind fun x s1 => match x with
    | .bl true => denE F b e s1
    | .bl false => .ok (.bl false) s1
    | _ => .stuck := by funext e s; simp only [denE]
theorem denE_or (a b : ME) : denE F (.or a b) = fun e s => (denE F a e s).bind fun x s1 => match x with
    | .bl true => .ok (.bl true) s1
    | .bl false => denE F b e s1
    | _ => .stuck := by funext e s; simp only [denE]
theorem denE_ite (c a b : ME) : denE F (.ite c a b) = fun e s => (denT F c e s).bind fun k s2 => if k then denE F a e s2 else denE F b e s2 := by
  funext e s; simp only [denE, denT]; cases denE F c e s <;> simp [Rs.bind]
theorem denE_sub (a : MV) (i : ME) : denE F (.sub a i) = fun e s => (denV F a e s).bind fun x s1 => (denE F i e s1).bind fun y s2 => .lift (subD x y) s2 := by funext e s; simp only [denE]
theorem denE_slc (a : MV) (lo hi : MO) : denE F (.slc a lo hi) = fun e s => (denV F a e s).bind fun x s1 => (denO F lo e s1).bind fun l s2 => (denO F hi e s2).bind fun h s3 => .lift (slcD x l h) s3 := by funext e s; simp only [denE]
theorem denO_no : denO F .no = fun _ s => .ok none s := by funext e s; simp only [denO]
theorem denO_yes (m : ME) : denO F (.yes m) = fun e s => (denE F m e s).bind fun x s1 => match x with
    | .int i => .ok (some i) s1
    | _ => .stuck := by funext e s; simp only [denO]
theorem denC_no : denC F .no = fun _ s => .ok true s := by funext e s; simp only [denC]
theorem denC_yes (m : ME) : denC F (.yes m) = denT F m := by funext e s; simp only [denC, denT]
theorem denE_take (j : Nat) (a : ME) : denE F (.take j a) = fun e s => match e[j]? with
    | some .drw => (denE F a e s).bind fun x s1 => (match x, s1 with
      | .int n, some t => (match w.dw.take t n with
        | some (r, t') => .ok (.int r) (some t')
        | none => .stuck)
      | _, _ => .stuck)
    | _ => .stuck := by funext e s; simp only [denE]
theorem denE_rev (a : MV) : denE F (.rev a) = fun e s => (denV F a e s).bind fun x s1 => .lift (revD x) s1 := by funext e s; simp only [denE]
theorem denE_call (f : Nat) (as : MAs) : denE F (.call f as) = fun e s => (denAs F as e s).bind fun xs s1 => F f xs s1 := by funext e s; simp only [denE]
theorem denE_callk (f : Nat) (ks : List Nat) (as : MAs) : denE F (.callk f ks as) = fun e s => (denAs F as e s).bind fun xs s1 => match pickA ks xs with
    | some ys => F f ys s1
    | none => .stuck := by funext e s; simp only [denE]
theorem denE_bi (b : Bi) (as : MVs) : denE F (.bi b as) = fun e s => (denVs F as e s).bind fun xs s1 => .lift (biD b xs) s1 := by funext e s; simp only [denE]
theorem denEs_nil : denEs F .nil = fun _ s => .ok [] s := by funext e s; simp only [denEs]
theorem denEs_cons (m : ME) (ms : MEs) : denEs F (.cons m ms) = fun e s => (denE F m e s).bind fun x s1 => (denEs F ms e s1).bind fun xs s2 => .ok (x :: xs) s2 := by funext e s; simp only [denEs]
theorem denVs_nil : denVs F .nil = fun _ s => .ok [] s := by funext e s; simp only [denVs]
theorem denVs_cons (m : MV) (ms : MVs) : denVs F (.cons m ms) = fun e s => (denV F m e s).bind fun x s1 => (denVs F ms e s1).bind fun xs s2 => .ok (x :: xs) s2 := by funext e s; simp only [denVs]
theorem denAs_nil : denAs F .nil = fun _ s => .ok [] s := by funext e s; simp only [denAs]
theorem denAs_cons (m : MA) (ms : MAs) : denAs F (.cons m ms) = fun e s => (denA F m e s).bind fun x s1 => (denAs F ms e s1).bind fun xs s2 => .ok (x :: xs) s2 := by funext e s; simp only [denAs]
end
end Rf
/-! Reflection layer, part 3: what a frame holds. -/
namespace Rf
open PySem PySem.Spec PyProof.Rows L2

/-- a frame's surroundings: the heap at its entry, what others may change, the draws' addresses -/
structure Fc where
  H0 : Hp
  /-- the heap at the very entry: what was borrowed is read there -/
  Hb : Hp
  O0 : Addr → Prop
  Dm : Addr → Prop
  dr : Addr
/-- all but the draws stands -/
def Kp (Dm : Addr → Prop) (H H' : Hp) : Prop := ∀ a o, H a = some o → ¬ Dm a → H' a = some o
theorem Kp.refl {Dm : Addr → Prop} (H : Hp) : Kp Dm H H := fun _ _ h _ => h
theorem Kp.trans {Dm : Addr → Prop} {H H1 H2 : Hp} (a : Kp Dm H H1) (b : Kp Dm H1 H2) : Kp Dm H H2 := fun c o h n => b c o (a c o h n) n
theorem Kp.new {Dm : Addr → Prop} {H : Hp} {p : Addr} {o : HO} (n : H p = none) : Kp Dm H (upd H p o) := fun c u h _ => by
  rw [upd_ne (ne_of_none h n)]; exact h
theorem Kp.none {Dm : Addr → Prop} {H H' : Hp} (k : Kp Dm H H') {p : Addr} (n : H' p = none) (d : ¬ Dm p) : H p = Option.none := by
  cases e : H p with
  | none => rfl
  | some o => rw [k p o e d] at n; cases n
def DrawAt (w : Wld) (C : Fc) (s : w.T) (H : Hp) : Prop := match s with
  | none => ∀ a, ¬ C.Dm a
  | some t => w.dw.rel C.dr C.Dm t H
/-- what a frame owns, and what it must not touch -/
def Os (C : Fc) (e : En) (ad : Nat → Addr) : Addr → Prop := fun a => C.O0 a ∨ ∃ i d, e[i]? = some (.own d) ∧ a = ad i
/-- the shallow reading: the container itself may be owned, its items are not -/
inductive VRp (K : PySem.W.Frag) (Dm : Addr → Prop) (M H : Hp) : V → D → Prop
  | rp {v : V} {d : D} : Rp K M v d → VRp K Dm M H v d
  | lst {a : Addr} {vs : List V} {ds : List D} : ¬ Dm a → H a = some (.lst vs) → RpA K M vs ds → VRp K Dm M H (.ref a) (.lst ds)
  | scr {a : Addr} {vs : List V} : (¬ Dm a ∨ SqL K (fun _ => none) a vs) → SqL K H a vs → VRp K Dm M H (.ref a) (.scr vs.length)
  | dk {a : Addr} {ks : List Key} {vs : List V} {ds : List D} : ¬ Dm a → ks.length = vs.length → Rd H a (.dK (ks.zip vs)) → RpA K M vs ds → VRp K Dm M H (.ref a) (.dk ks ds)
  | dt {a : Addr} {ks : List (List Key)} {vs : List V} {ds : List D} : ¬ Dm a → ks.length = vs.length → Rd H a (.dT (ks.zip vs)) → RpA K M vs ds → VRp K Dm M H (.ref a) (.dt ks ds)
/-- a container that may be changed -/
inductive ORp (K : PySem.W.Frag) (M H : Hp) : Addr → D → Prop
  | lst {a : Addr} {vs : List V} {ds : List D} : H a = some (.lst vs) → RpA K M vs ds → ORp K M H a (.lst ds)
  | dk {a : Addr} {ks : List Key} {vs : List V} {ds : List D} : ks.length = vs.length → H a = some (.dK (ks.zip vs)) → RpA K M vs ds → ORp K M H a (.dk ks ds)
  | dt {a : Addr} {ks : List (List Key)} {vs : List V} {ds : List D} : ks.length = vs.length → H a = some (.dT (ks.zip vs)) → RpA K M vs ds → ORp K M H a (.dt ks ds)
theorem ORp.view {K : PySem.W.Frag} {Dm : Addr → Prop} {M H : Hp} {a : Addr} {d : D} (h : ORp K M H a d) (n : ¬ Dm a) : VRp K Dm M H (.ref a) d := by
  cases h with
  | lst h r => exact .lst n h r
  | dk z h r => exact .dk n z (.inl h) r
  | dt z h r => exact .dt n z (.inl h) r
/-- once nobody owns it, it is data -/
theorem ORp.free {K : PySem.W.Frag} {M H M' : Hp} {a : Addr} {d : D} (h : ORp K M H a d) (l : Le M M') (e : M' a = H a) : Rp K M' (.ref a) d := by
  cases h with
  | lst h r => exact .lst (e.trans h) (r.le l)
  | dk z h r => exact .dk z (.inl (e.trans h)) (r.le l)
  | dt z h r => exact .dt z (.inl (e.trans h)) (r.le l)
theorem ORp.le {K : PySem.W.Frag} {M H M' H' : Hp} {a : Addr} {d : D} (h : ORp K M H a d) (l : Le M M') (e : ∀ o, H a = some o → H' a = some o) : ORp K M' H' a d := by
  cases h with
  | lst h r => exact .lst (e _ h) (r.le l)
  | dk z h r => exact .dk z (e _ h) (r.le l)
  | dt z h r => exact .dt z (e _ h) (r.le l)
theorem nt_mut {o : HO} (h : Mut (some o)) : NT o := by
  cases o <;> first | trivial | exact h.elim
theorem ORp.there {K : PySem.W.Frag} {M H : Hp} {a : Addr} {d : D} (h : ORp K M H a d) : ∃ o, H a = some o ∧ Mut (some o) := by
  cases h with
  | lst h r => exact ⟨_, h, trivial⟩
  | dk z h r => exact ⟨_, h, trivial⟩
  | dt z h r => exact ⟨_, h, trivial⟩
theorem sqL_kp {K : PySem.W.Frag} {Dm : Addr → Prop} {H H' : Hp} {a : Addr} {vs : List V} (k : Kp Dm H H') (n : ¬ Dm a) (h : SqL K H a vs) : SqL K H' a vs := by
  rcases h with (z | ⟨q, z⟩) | z
  · exact .inl (.inl (k _ _ z n))
  · exact .inl (.inr ⟨q, k _ _ z n⟩)
  · exact .inr z
theorem rd_kp {Dm : Addr → Prop} {H H' : Hp} {a : Addr} {u : HO} (k : Kp Dm H H') (n : ¬ Dm a) (h : Rd H a u) : Rd H' a u := by
  rcases h with z | ⟨q, z⟩
  · exact .inl (k _ _ z n)
  · exact .inr ⟨q, k _ _ z n⟩
theorem sqL_non {K : PySem.W.Frag} {H : Hp} {a : Addr} {vs : List V} (h : SqL K (fun _ => none) a vs) : SqL K H a vs := by
  rcases h with (z | ⟨q, z⟩) | z
  · cases z
  · cases z
  · exact .inr z
theorem VRp.le {K : PySem.W.Frag} {Dm : Addr → Prop} {M H M' H' : Hp} {v : V} {d : D} (h : VRp K Dm M H v d) (l : Le M M') (k : Kp Dm H H') : VRp K Dm M' H' v d := by
  cases h with
  | rp h => exact .rp (h.le l)
  | lst n h r => exact .lst n (k _ _ h n) (r.le l)
  | scr n h => exact .scr n (n.elim (fun n => sqL_kp k n h) sqL_non)
  | dk n z h r => exact .dk n z (rd_kp k n h) (r.le l)
  | dt n z h r => exact .dt n z (rd_kp k n h) (r.le l)
theorem LeO.sqL {K : PySem.W.Frag} {H H' : Hp} {a : Addr} {vs : List V} (h : SqL K H a vs) (l : ∀ o, H a = some o → ∃ o', H' a = some o' ∧ LeO o o') : SqL K H' a vs := by
  rcases h with (z | ⟨q, z⟩) | z
  · obtain ⟨o', e, k⟩ := l _ z
    rcases k with rfl | ⟨u, hu, k1, _⟩
    · exact .inl (.inl e)
    · rcases k1 with k1 | ⟨q, k1⟩
      · subst k1; cases hu
      · cases k1
  · obtain ⟨o', e, k⟩ := l _ z
    rcases k with rfl | ⟨u, hu, k1, _⟩
    · exact .inl (.inr ⟨q, e⟩)
    · rcases k1 with k1 | ⟨r, k1⟩
      · subst k1; cases hu
      · cases k1; cases hu
  · exact .inr z
/-- what is read at an address stands behind locks -/
theorem VRp.leX {K : PySem.W.Frag} {Dm : Addr → Prop} {M Hb M' H : Hp} {v : V} {d : D} (h : VRp K Dm M Hb v d) (l : Le M M') (k : Le (mask Dm Hb) H) : VRp K Dm M' H v d := by
  cases h with
  | rp h => exact .rp (h.le l)
  | lst n h r => exact .lst n (k.lst (mask_at n h)) (r.le l)
  | scr n h => exact .scr n (n.elim (fun n => LeO.sqL h fun o e => k _ o (mask_at n e)) sqL_non)
  | dk n z h r => exact .dk n z (k.rd (h.elim (fun e => .inl (mask_at n e)) fun ⟨q, e⟩ => .inr ⟨q, mask_at n e⟩) rfl) (r.le l)
  | dt n z h r => exact .dt n z (k.rd (h.elim (fun e => .inl (mask_at n e)) fun ⟨q, e⟩ => .inr ⟨q, mask_at n e⟩) rfl) (r.le l)
theorem mask_le {O : Addr → Prop} {H : Hp} : Le (mask O H) H := fun a o h => ⟨o, (mask_of h).2, .refl o⟩
theorem Rp.unmask {K : PySem.W.Frag} {O : Addr → Prop} {H : Hp} {v : V} {d : D} (h : Rp K (mask O H) v d) : Rp K H v d := h.le mask_le
/-- one name's slot -/
def SlotR (K : PySem.W.Frag) (C : Fc) (M H : Hp) (e : En) (ad : Nat → Addr) (σ : L2.St) (i : Nat) : Slot → Prop
  | .non => True
  | .dat d => ∃ v, σ[i]? = some (some v) ∧ Rp K M v d
  | .own d => σ[i]? = some (some (.ref (ad i))) ∧ ORp K M H (ad i) d
  | .bor d => ∃ a, σ[i]? = some (some (.ref a)) ∧ VRp K C.Dm M C.Hb (.ref a) d
  | .ali j => (∃ d, e[j]? = some (.own d)) ∧ σ[i]? = some (some (.ref (ad j)))
  | .drw => σ[i]? = some (some (.ref C.dr))
structure Rel (w : Wld) (K : PySem.W.Frag) (C : Fc) (e : En) (ad : Nat → Addr) (s : w.T) (σ : L2.St) (H : Hp) : Prop where
  keep : Kp C.Dm C.H0 H
  draw : DrawAt w C s H
  dsub : ∀ a, C.Dm a → C.O0 a
  odom : ∀ a, C.O0 a → ∃ o, H a = some o ∧ NT o
  slots : ∀ i t, e[i]? = some t → SlotR K C (mask (Os C e ad) H) H e ad σ i t
  own1 : ∀ i d, e[i]? = some (.own d) → ¬ C.O0 (ad i) ∧ C.H0 (ad i) = none
  own2 : ∀ i j d d', e[i]? = some (.own d) → e[j]? = some (.own d') → ad i = ad j → i = j
  len : σ.length = e.length
  base : Le (mask C.Dm C.Hb) C.H0
section
variable {w : Wld} {K : PySem.W.Frag} {C : Fc} {e : En} {ad : Nat → Addr} {s s' : w.T} {σ : L2.St} {H H' : Hp}
theorem DrawAt.dom (h : DrawAt w C s H) {a : Addr} (d : C.Dm a) : ∃ o, H a = some o ∧ NT o := by
  cases s with
  | none => exact absurd d (h a)
  | some t => exact w.dw.dom h d
theorem DrawAt.same (h : DrawAt w C s H) (k : ∀ a, C.Dm a → H' a = H a) : DrawAt w C s H' := by
  cases s with
  | none => exact h
  | some t => exact w.dw.frame h k
/-- a new object is no draw's -/
theorem DrawAt.new (h : DrawAt w C s H) {p : Addr} {o : HO} (n : H p = none) : DrawAt w C s (upd H p o) := h.same fun a d => by
  obtain ⟨u, e, _⟩ := h.dom d
  exact upd_ne (ne_of_none e n)
theorem DrawAt.nd (h : DrawAt w C s H) {p : Addr} (n : H p = none) : ¬ C.Dm p := fun d => by
  obtain ⟨u, e, _⟩ := h.dom d
  rw [e] at n; cases n
theorem Rel.odom' (R : Rel w K C e ad s σ H) {a : Addr} (h : Os C e ad a) : ∃ o, H a = some o ∧ NT o := by
  rcases h with h | ⟨i, d, h, rfl⟩
  · exact R.odom a h
  · obtain ⟨_, h⟩ := R.slots i _ h
    obtain ⟨o, h, m⟩ := h.there
    exact ⟨o, h, nt_mut m⟩
theorem Rel.notOs (R : Rel w K C e ad s σ H) {p : Addr} (n : H p = none) : ¬ Os C e ad p := fun h => by
  obtain ⟨o, h, _⟩ := R.odom' h
  rw [h] at n; cases n
theorem Rel.dOs (R : Rel w K C e ad s σ H) {a : Addr} (h : C.Dm a) : Os C e ad a := .inl (R.dsub a h)
/-- keeping all but the draws keeps what is not owned -/
theorem Rel.le (R : Rel w K C e ad s σ H) (k : Kp C.Dm H H') : Le (mask (Os C e ad) H) (mask (Os C e ad) H') := fun a o h => by
  obtain ⟨n, h⟩ := mask_of h
  exact ⟨o, mask_at n (k a o h fun d => n (R.dOs d)), .refl o⟩
theorem Rel.leH (R : Rel w K C e ad s σ H) {H1 H2 : Hp} (k : Kp C.Dm H1 H2) : Le (mask (Os C e ad) H1) (mask (Os C e ad) H2) := fun a o h => by
  obtain ⟨n, h⟩ := mask_of h
  exact ⟨o, mask_at n (k a o h fun d => n (R.dOs d)), .refl o⟩
/-- behind an expression -/
theorem Rel.ext (R : Rel w K C e ad s σ H) (k : Kp C.Dm H H') (d : DrawAt w C s' H') : Rel w K C e ad s' σ H' where
  keep := R.keep.trans k
  draw := d
  dsub := R.dsub
  odom := fun a h => by
    by_cases hd : C.Dm a
    · exact d.dom hd
    · obtain ⟨o, z, m⟩ := R.odom a h
      exact ⟨o, k a o z hd, m⟩
  slots := fun i t h => by
    have q := R.slots i t h
    have l := R.le k
    cases t with
    | non => trivial
    | dat d => obtain ⟨v, e1, r⟩ := q; exact ⟨v, e1, r.le l⟩
    | own d =>
      obtain ⟨e1, r⟩ := q
      refine ⟨e1, r.le l fun o ho => k _ o ho fun hd => (R.own1 i d h).1 (R.dsub _ hd)⟩
    | bor d => obtain ⟨a, e1, r⟩ := q; exact ⟨a, e1, r.le l (.refl _)⟩
    | ali j => exact q
    | drw => exact q
  own1 := R.own1
  own2 := R.own2
  len := R.len
  base := R.base
theorem Rel.atH (R : Rel w K C e ad s σ H) : Le (mask C.Dm C.Hb) H := fun a o h => by
  obtain ⟨o', e1, l⟩ := R.base a o h
  exact ⟨o', R.keep a o' e1 (mask_of h).1, l⟩
/-- a name's container, as it is read -/
theorem Rel.view (R : Rel w K C e ad s σ H) {i : Nat} {d : D} (h : viewS e i = some d) : ∃ v, σ[i]? = some (some v) ∧ VRp K C.Dm (mask (Os C e ad) H) H v d := by
  unfold viewS at h
  split at h
  case h_1 hi => cases h; obtain ⟨v, e1, r⟩ := R.slots i _ hi; exact ⟨v, e1, .rp r⟩
  case h_2 hi => cases h; obtain ⟨e1, r⟩ := R.slots i _ hi; exact ⟨_, e1, r.view fun z => (R.own1 i _ hi).1 (R.dsub _ z)⟩
  case h_3 hi =>
    cases h
    obtain ⟨a, e1, r⟩ := R.slots i _ hi
    exact ⟨_, e1, r.leX (.refl _) R.atH⟩
  case h_4 j hi =>
    split at h
    case h_1 hj =>
      cases h
      obtain ⟨_, e1⟩ := R.slots i _ hi
      obtain ⟨_, r⟩ := R.slots j _ hj
      exact ⟨_, e1, r.view fun z => (R.own1 j _ hj).1 (R.dsub _ z)⟩
    · cases h
  · cases h
theorem Rel.data (R : Rel w K C e ad s σ H) {i : Nat} {d : D} (h : dataS e i = some d) : ∃ v, σ[i]? = some (some v) ∧ Rp K (mask (Os C e ad) H) v d := by
  unfold dataS at h
  split at h
  case h_1 hi => cases h; exact R.slots i _ hi
  · cases h
end

/-! ### readings -/
/-- behind an expression that gives data -/
structure PoE (w : Wld) (K : PySem.W.Frag) (C : Fc) (e : En) (ad : Nat → Addr) (H : Hp) (s' : w.T) (H' : Hp) : Prop where
  kp : Kp C.Dm H H'
  dr : DrawAt w C s' H'
/-- an exception: its class and what it bears -/
def ErR (X : Er → Value → Option Addr → Hp → Prop) (er : Er) (cls : Value) (d : Option Addr) (H : Hp) : Prop := X er cls d H
section
variable (w : Wld) (K : PySem.W.Frag) (XE : Er → Value → Option Addr → Hp → Prop) (W : WX)
/-- an expression's reading out of its meaning f; Z what the value is -/
def rd {α β : Type} (Z : Fc → En → (Nat → Addr) → Hp → Hp → β → α → Prop) (f : En → w.T → Rs w.T α) : L2.St → Hp → (β → Hp → Prop) → Prop := fun σ H Q =>
  ∃ (C : Fc) (e : En) (ad : Nat → Addr) (s : w.T), Rel w K C e ad s σ H ∧ match f e s with
    | .ok d s' => ∀ v H', PoE w K C e ad H s' H' → Z C e ad H H' v d → Q v H'
    | .err er s' => ∀ cls dx H', PoE w K C e ad H s' H' → XE er cls dx H' → W cls dx σ H'
    | .stuck => False
def ZE : Fc → En → (Nat → Addr) → Hp → Hp → V → D → Prop := fun C e ad _ H' v d => Rp K (mask (Os C e ad) H') v d
def ZV : Fc → En → (Nat → Addr) → Hp → Hp → V → D → Prop := fun C e ad _ H' v d => VRp K C.Dm (mask (Os C e ad) H') H' v d
def ZB : Fc → En → (Nat → Addr) → Hp → Hp → Bool → Bool → Prop := fun _ _ _ _ _ v d => v = d
/-- a container that is new -/
def ZF : Fc → En → (Nat → Addr) → Hp → Hp → V → D → Prop := fun C e ad H H' v d => ∃ p, v = .ref p ∧ H p = none ∧ ORp K (mask (fun a => Os C e ad a ∨ a = p) H') H' p d
def ZEs : Fc → En → (Nat → Addr) → Hp → Hp → List V → List D → Prop := fun C e ad _ H' v d => RpA K (mask (Os C e ad) H') v d
inductive VRpA (K : PySem.W.Frag) (Dm : Addr → Prop) (M H : Hp) : List V → List D → Prop
  | nil : VRpA K Dm M H [] []
  | cons {v : V} {vs : List V} {d : D} {ds : List D} : VRp K Dm M H v d → VRpA K Dm M H vs ds → VRpA K Dm M H (v :: vs) (d :: ds)
def ZVs : Fc → En → (Nat → Addr) → Hp → Hp → List V → List D → Prop := fun C e ad _ H' v d => VRpA K C.Dm (mask (Os C e ad) H') H' v d
end
section
variable {w : Wld} {K : PySem.W.Frag} {XE : Er → Value → Option Addr → Hp → Prop} {W : WX}
/-- two steps in a row -/
theorem rd_bind {α β α' β' : Type} {Z : Fc → En → (Nat → Addr) → Hp → Hp → β → α → Prop} {Z' : Fc → En → (Nat → Addr) → Hp → Hp → β' → α' → Prop} {f : En → w.T → Rs w.T α} {g : α → En → w.T → Rs w.T α'} {σ : L2.St} {H : Hp} {Q : β' → Hp → Prop}
    (h : rd w K XE W Z' (fun e s => (f e s).bind fun d s1 => g d e s1) σ H Q) :
    rd w K XE W Z f σ H fun v H1 => ∃ (C : Fc) (e : En) (ad : Nat → Addr) (s1 : w.T) (d : α), Rel w K C e ad s1 σ H1 ∧ PoE w K C e ad H s1 H1 ∧ Z C e ad H H1 v d ∧ match g d e s1 with
      | .ok d' s' => ∀ v' H', PoE w K C e ad H1 s' H' → Z' C e ad H H' v' d' → Q v' H'
      | .err er s' => ∀ cls dx H', PoE w K C e ad H1 s' H' → XE er cls dx H' → W cls dx σ H'
      | .stuck => False := by
  obtain ⟨C, e, ad, s, R, h⟩ := h
  refine ⟨C, e, ad, s, R, ?_⟩
  cases hf : f e s with
  | ok d s1 =>
    simp only [hf, Rs.bind_ok] at h ⊢
    intro v H1 p z
    refine ⟨C, e, ad, s1, d, R.ext p.kp p.dr, p, z, ?_⟩
    cases hg : g d e s1 with
    | ok d' s' => simp only [hg] at h ⊢; exact fun v' H' p' z' => h v' H' ⟨p.kp.trans p'.kp, p'.dr⟩ z'
    | err er s' => simp only [hg] at h ⊢; exact fun cls dx H' p' z' => h cls dx H' ⟨p.kp.trans p'.kp, p'.dr⟩ z'
    | stuck => simp only [hg] at h
  | err er s1 =>
    simp only [hf, Rs.bind_err] at h ⊢
    exact fun cls dx H' p z => h cls dx H' p z
  | stuck => simp only [hf, Rs.bind_stuck] at h
end
end Rf
/-! Reflection layer, part 4: operators. -/
namespace Rf
open PySem PySem.Spec PyProof.Rows L2

theorem _root_.L2.PE.imp {X : Cx} {e : Expr} {t t' : TE} (h : PE X e t) (i : ∀ σ H Q, t' σ H Q → t σ H Q) : PE X e t' := ⟨fun pins s σ H Q I q => h.run pins s σ H Q I (i σ H Q q)⟩
theorem _root_.L2.PT.imp {X : Cx} {e : Expr} {t t' : TT} (h : PT X e t) (i : ∀ σ H Q, t' σ H Q → t σ H Q) : PT X e t' := ⟨fun pins s σ H Q I q => h.run pins s σ H Q I (i σ H Q q)⟩
theorem _root_.L2.PA.imp {X : Cx} {e : List Expr} {t t' : TA} (h : PA X e t) (i : ∀ σ H Q, t' σ H Q → t σ H Q) : PA X e t' := ⟨fun pos pins s σ H Q I q => h.run pos pins s σ H Q I (i σ H Q q)⟩
theorem _root_.L2.PS.imp {X : Cx} {e : Stmt} {t t' : TS} (h : PS X e t) (i : ∀ D σ H, t' D σ H → t D σ H) : PS X e t' := ⟨fun pins s σ H D I q => h.run pins s σ H D I (i D σ H q)⟩
theorem _root_.L2.PSs.imp {X : Cx} {e : List Stmt} {t t' : TS} (h : PSs X e t) (i : ∀ D σ H, t' D σ H → t D σ H) : PSs X e t' := ⟨fun pins s σ H D I q => h.run pins s σ H D I (i D σ H q)⟩
theorem _root_.L2.PE.either {X : Cx} {e : Expr} {t t' : TE} (h : PE X e t) (h' : PE X e t') : PE X e (fun σ H Q => t σ H Q ∨ t' σ H Q) := ⟨fun pins s σ H Q I q => by
  rcases q with q | q
  · exact h.run pins s σ H Q I q
  · exact h'.run pins s σ H Q I q⟩
theorem _root_.L2.PS.either {X : Cx} {e : Stmt} {t t' : TS} (h : PS X e t) (h' : PS X e t') : PS X e (fun D σ H => t D σ H ∨ t' D σ H) := ⟨fun pins s σ H D I q => by
  rcases q with q | q
  · exact h.run pins s σ H D I q
  · exact h'.run pins s σ H D I q⟩

section
variable {w : Wld} {K : PySem.W.Frag} {XE : Er → Value → Option Addr → Hp → Prop} {W : WX}
/-- weaken what a value is known to be -/
theorem rd_weak {α β : Type} {Z Z' : Fc → En → (Nat → Addr) → Hp → Hp → β → α → Prop} {f : En → w.T → Rs w.T α} {σ : L2.St} {H : Hp} {Q : β → Hp → Prop}
    (z : ∀ {C e ad s s'} {H' : Hp} {v : β} {d : α}, Rel w K C e ad s σ H → PoE w K C e ad H s' H' → Z C e ad H H' v d → Z' C e ad H H' v d) (h : rd w K XE W Z' f σ H Q) : rd w K XE W Z f σ H Q := by
  obtain ⟨C, e, ad, s, R, h⟩ := h
  refine ⟨C, e, ad, s, R, ?_⟩
  cases hf : f e s with
  | ok d s1 => simp only [hf] at h ⊢; exact fun v H' p q => h v H' p (z R p q)
  | err er s1 => simp only [hf] at h ⊢; exact h
  | stuck => simp only [hf] at h
/-- what is known of a value stays, behind further steps -/
def Stab {α β : Type} (w : Wld) (K : PySem.W.Frag) (Z : Fc → En → (Nat → Addr) → Hp → Hp → β → α → Prop) : Prop := ∀ {C e ad} {s1 : w.T} {σ : L2.St} {H H1 H2 : Hp} {x : β} {d : α}, Rel w K C e ad s1 σ H1 → Kp C.Dm H1 H2 → Z C e ad H H1 x d → Z C e ad H H2 x d
theorem stab_E : Stab w K (ZE K) := fun R k z => Rp.le (R.le k) z
theorem stab_V : Stab w K (ZV K) := fun R k z => VRp.le z (R.le k) k
theorem stab_Es : Stab w K (ZEs K) := fun R k z => RpA.le (R.le k) z
theorem stab_B : Stab w K ZB := fun _ _ z => z
/-- two steps, then a third -/
theorem rd_two {α α1 α2 β β1 β2 : Type} {Z1 : Fc → En → (Nat → Addr) → Hp → Hp → β1 → α1 → Prop} {Z2 : Fc → En → (Nat → Addr) → Hp → Hp → β2 → α2 → Prop} {Z' : Fc → En → (Nat → Addr) → Hp → Hp → β → α → Prop}
    {f : En → w.T → Rs w.T α1} {g : En → w.T → Rs w.T α2} {h : α1 → α2 → En → w.T → Rs w.T α} {σ : L2.St} {H : Hp} {Q : β → Hp → Prop} {R : β1 → β2 → Hp → Prop} (st : Stab w K Z1)
    (hh : rd w K XE W Z' (fun e s => (f e s).bind fun x s1 => (g e s1).bind fun y s2 => h x y e s2) σ H Q)
    (k : ∀ {C e ad} {s2 : w.T} {dx : α1} {dy : α2} {x : β1} {y : β2} {H1 H2 : Hp}, Rel w K C e ad s2 σ H2 → Z1 C e ad H H2 x dx → Z2 C e ad H1 H2 y dy → Kp C.Dm H H2 → (∀ p, H2 p = none → H p = none) →
      (match h dx dy e s2 with
      | .ok d s' => ∀ v H', PoE w K C e ad H2 s' H' → Z' C e ad H H' v d → Q v H'
      | .err er s' => ∀ cls dx H', PoE w K C e ad H2 s' H' → XE er cls dx H' → W cls dx σ H'
      | .stuck => False) → R x y H2) :
    rd w K XE W Z1 f σ H fun x H1 => rd w K XE W Z2 g σ H1 fun y H2 => R x y H2 := by
  obtain ⟨C, e, ad, s, R0, hh⟩ := hh
  refine ⟨C, e, ad, s, R0, ?_⟩
  cases hf : f e s with
  | err er s1 => simp only [hf, Rs.bind_err] at hh ⊢; exact hh
  | stuck => simp only [hf, Rs.bind_stuck] at hh
  | ok dx s1 =>
    simp only [hf, Rs.bind_ok] at hh ⊢
    intro x H1 p1 z1
    have R1 := R0.ext p1.kp p1.dr
    refine ⟨C, e, ad, s1, R1, ?_⟩
    cases hg : g e s1 with
    | err er s2 => simp only [hg, Rs.bind_err] at hh ⊢; exact fun cls dx H' p z => hh cls dx H' ⟨p1.kp.trans p.kp, p.dr⟩ z
    | stuck => simp only [hg, Rs.bind_stuck] at hh
    | ok dy s2 =>
      simp only [hg, Rs.bind_ok] at hh ⊢
      intro y H2 p2 z2
      have R2 := R1.ext p2.kp p2.dr
      have kk := p1.kp.trans p2.kp
      refine k R2 (st R1 p2.kp z1) z2 kk (fun p n => kk.none n (R2.draw.nd n)) ?_
      cases hq : h dx dy e s2 with
      | ok d s' => simp only [hq] at hh ⊢; exact fun v H' p z => hh v H' ⟨kk.trans p.kp, p.dr⟩ z
      | err er s' => simp only [hq] at hh ⊢; exact fun cls dx H' p z => hh cls dx H' ⟨kk.trans p.kp, p.dr⟩ z
      | stuck => simp only [hq] at hh
theorem rd_one {α α1 β β1 : Type} {Z1 : Fc → En → (Nat → Addr) → Hp → Hp → β1 → α1 → Prop} {Z' : Fc → En → (Nat → Addr) → Hp → Hp → β → α → Prop}
    {f : En → w.T → Rs w.T α1} {h : α1 → En → w.T → Rs w.T α} {σ : L2.St} {H : Hp} {Q : β → Hp → Prop} {R : β1 → Hp → Prop}
    (hh : rd w K XE W Z' (fun e s => (f e s).bind fun x s1 => h x e s1) σ H Q)
    (k : ∀ {C e ad} {s2 : w.T} {dx : α1} {x : β1} {H2 : Hp}, Rel w K C e ad s2 σ H2 → Z1 C e ad H H2 x dx → Kp C.Dm H H2 → (∀ p, H2 p = none → H p = none) →
      (match h dx e s2 with
      | .ok d s' => ∀ v H', PoE w K C e ad H2 s' H' → Z' C e ad H H' v d → Q v H'
      | .err er s' => ∀ cls dx H', PoE w K C e ad H2 s' H' → XE er cls dx H' → W cls dx σ H'
      | .stuck => False) → R x H2) :
    rd w K XE W Z1 f σ H fun x H1 => R x H1 := by
  obtain ⟨C, e, ad, s, R0, hh⟩ := hh
  refine ⟨C, e, ad, s, R0, ?_⟩
  cases hf : f e s with
  | err er s1 => simp only [hf, Rs.bind_err] at hh ⊢; exact hh
  | stuck => simp only [hf, Rs.bind_stuck] at hh
  | ok dx s1 =>
    simp only [hf, Rs.bind_ok] at hh ⊢
    intro x H1 p1 z1
    have R1 := R0.ext p1.kp p1.dr
    refine k R1 z1 p1.kp (fun p n => p1.kp.none n (R1.draw.nd n)) ?_
    cases hq : h dx e s1 with
    | ok d s' => simp only [hq] at hh ⊢; exact fun v H' p z => hh v H' ⟨p1.kp.trans p.kp, p.dr⟩ z
    | err er s' => simp only [hq] at hh ⊢; exact fun cls dx H' p z => hh cls dx H' ⟨p1.kp.trans p.kp, p.dr⟩ z
    | stuck => simp only [hq] at hh

section
variable {C : Fc} {e : En} {ad : Nat → Addr} {s : w.T} {σ : L2.St} {H H2 : Hp}
theorem PoE.refl (R : Rel w K C e ad s σ H) : PoE w K C e ad H s H := ⟨.refl _, R.draw⟩
theorem PoE.new (R : Rel w K C e ad s σ H) {p : Addr} {o : HO} (n : H p = none) : PoE w K C e ad H s (upd H p o) := ⟨.new n, R.draw.new n⟩
theorem Rel.leNew (R : Rel w K C e ad s σ H) {p : Addr} {o : HO} (n : H p = none) : Le (mask (Os C e ad) H) (mask (Os C e ad) (upd H p o)) := R.le (.new n)
theorem Rel.newTup (R : Rel w K C e ad s σ H) {p : Addr} {vs : List V} {ds : List D} (n : H p = none) (r : RpA K (mask (Os C e ad) H) vs ds) :
    Rp K (mask (Os C e ad) (upd H p (.tup vs))) (.ref p) (.tup ds) := .tup (mask_at (R.notOs n) upd_same) (r.le (R.leNew n))
theorem mask_more {O : Addr → Prop} {H : Hp} {p : Addr} {o : HO} (n : H p = none) : Le (mask O H) (mask (fun a => O a ∨ a = p) (upd H p o)) := fun a u h => by
  obtain ⟨n1, h⟩ := mask_of h
  have ne := ne_of_none h n
  exact ⟨u, mask_at (fun z => z.elim n1 ne) (by rw [upd_ne ne]; exact h), .refl u⟩
theorem Rel.newLst (R : Rel w K C e ad s σ H) {p : Addr} {vs : List V} {ds : List D} (n : H p = none) (r : RpA K (mask (Os C e ad) H) vs ds) :
    ORp K (mask (fun a => Os C e ad a ∨ a = p) (upd H p (.lst vs))) (upd H p (.lst vs)) p (.lst ds) := .lst upd_same (r.le (mask_more n))
/-- a new container is data too -/
theorem ZF.toE (R : Rel w K C e ad s σ H) {H' : Hp} {v : V} {d : D} (z : ZF K C e ad H H' v d) : ZE K C e ad H H' v d := by
  obtain ⟨p, rfl, n, h⟩ := z
  have np := R.notOs n
  refine h.free (fun a o q => ?_) ?_
  · obtain ⟨n1, q⟩ := mask_of q
    exact ⟨o, mask_at (fun z => n1 (.inl z)) q, .refl o⟩
  · unfold mask; rw [if_neg np]
theorem ZE.toV {H' : Hp} {v : V} {d : D} (z : ZE K C e ad H H' v d) : ZV K C e ad H H' v d := .rp z
end
theorem _root_.L2.PE.fresh {X : Cx} {e : Expr} {f : En → w.T → Rs w.T D} (h : PE X e (rd w K XE W (ZF K) f)) : PE X e (rd w K XE W (ZE K) f) := h.imp fun _ _ _ q => rd_weak (fun R _ z => ZF.toE R z) q
theorem _root_.L2.PE.view {X : Cx} {e : Expr} {f : En → w.T → Rs w.T D} (h : PE X e (rd w K XE W (ZE K) f)) : PE X e (rd w K XE W (ZV K) f) := h.imp fun _ _ _ q => rd_weak (fun R _ z => ZE.toV z) q
end

theorem VRp.full {K : PySem.W.Frag} {Dm O : Addr → Prop} {H : Hp} {v : V} {d : D} (h : VRp K Dm (mask O H) H v d) (s : shaped d = true) : Rp K H v d := by
  cases h with
  | rp h => exact h.unmask
  | lst _ h r => exact .lst h (r.le mask_le)
  | dk _ z h r => exact .dk z h (r.le mask_le)
  | dt _ z h r => exact .dt z h (r.le mask_le)
  | scr _ _ => simp [shaped, toPy, SeqAt.shaped, PyData.canLay0] at s
/-! ### data for the kit's own rules -/
section
variable {K : PySem.W.Frag} {H : Hp}
mutual
theorem Rp.dp : ∀ {v : V} {d : D}, Rp K H v d → (toPy d).canLay0 = true → Dp K H v (toPy d)
  | _, _, .non, _ => .non
  | _, _, .bl b, _ => .bl b
  | _, _, .int i, _ => .int i
  | _, _, .str x, _ => .str x
  | _, _, .tup h r, c => by
    simp only [toPy, PyData.canLay0] at c ⊢
    exact .tup (.inl (.inl h)) (RpA.dp r c)
  | _, _, .lst h r, c => by
    simp only [toPy, PyData.canLay0] at c ⊢
    exact .lst (.inl (.inl h)) (RpA.dp r c)
  | _, _, .dk _ _ _, c => by simp [toPy, PyData.canLay0] at c
  | _, _, .dt _ _ _, c => by simp [toPy, PyData.canLay0] at c
theorem RpA.dp : ∀ {vs : List V} {ds : List D}, RpA K H vs ds → PyData.canLayAll0 (toPyA ds) = true → DpAll K H vs (toPyA ds)
  | _, _, .nil, _ => .nil
  | _, _, .cons h r, c => by
    simp only [toPyA, PyData.canLayAll0, Bool.and_eq_true] at c ⊢
    exact .cons (Rp.dp h c.1) (RpA.dp r c.2)
end
theorem Rp.dps {v : V} {d : D} (h : Rp K H v d) (s : shaped d = true) : Dp K H v (toPy d) := h.dp (SeqAt.canLay_of_shaped s)
theorem Rp.intv {v : V} {i : Int} (h : Rp K H v (.int i)) : v = .int i := by cases h; rfl
theorem Rp.blv {v : V} {i : Bool} (h : Rp K H v (.bl i)) : v = .bl i := by cases h; rfl
theorem Rp.strv {v : V} {i : Str} (h : Rp K H v (.str i)) : v = .str i := by cases h; rfl
theorem Rp.nonv {v : V} (h : Rp K H v .non) : v = .non := by cases h; rfl
theorem VRp.intv {Dm : Addr → Prop} {M : Hp} {v : V} {i : Int} (h : VRp K Dm M H v (.int i)) : v = .int i := by cases h with | rp h => exact h.intv
theorem VRp.blv {Dm : Addr → Prop} {M : Hp} {v : V} {i : Bool} (h : VRp K Dm M H v (.bl i)) : v = .bl i := by cases h with | rp h => exact h.blv
theorem VRp.strv {Dm : Addr → Prop} {M : Hp} {v : V} {i : Str} (h : VRp K Dm M H v (.str i)) : v = .str i := by cases h with | rp h => exact h.strv
theorem VRp.nonv {Dm : Addr → Prop} {M : Hp} {v : V} (h : VRp K Dm M H v .non) : v = .non := by cases h with | rp h => exact h.nonv
theorem VRp.tupv {Dm : Addr → Prop} {M : Hp} {v : V} {ds : List D} (h : VRp K Dm M H v (.tup ds)) : ∃ a vs, v = .ref a ∧ M a = some (.tup vs) ∧ RpA K M vs ds := by
  cases h with | rp h => cases h with | tup h r => exact ⟨_, _, rfl, h, r⟩
theorem VRp.lstv {Dm O : Addr → Prop} {v : V} {ds : List D} (h : VRp K Dm (mask O H) H v (.lst ds)) : ∃ a vs, v = .ref a ∧ H a = some (.lst vs) ∧ RpA K (mask O H) vs ds := by
  cases h with
  | rp h => cases h with | lst h r => exact ⟨_, _, rfl, mask_le.lst h, r⟩
  | lst _ h r => exact ⟨_, _, rfl, h, r⟩
theorem VRp.dkv {Dm O : Addr → Prop} {v : V} {ks : List Key} {ds : List D} (h : VRp K Dm (mask O H) H v (.dk ks ds)) : ∃ a vs, v = .ref a ∧ ks.length = vs.length ∧ Rd H a (.dK (ks.zip vs)) ∧ RpA K (mask O H) vs ds := by
  cases h with
  | rp h => cases h with | dk z h r => exact ⟨_, _, rfl, z, mask_le.rd h rfl, r⟩
  | dk _ z h r => exact ⟨_, _, rfl, z, h, r⟩
theorem VRp.dtv {Dm O : Addr → Prop} {v : V} {ks : List (List Key)} {ds : List D} (h : VRp K Dm (mask O H) H v (.dt ks ds)) : ∃ a vs, v = .ref a ∧ ks.length = vs.length ∧ Rd H a (.dT (ks.zip vs)) ∧ RpA K (mask O H) vs ds := by
  cases h with
  | rp h => cases h with | dt z h r => exact ⟨_, _, rfl, z, mask_le.rd h rfl, r⟩
  | dt _ z h r => exact ⟨_, _, rfl, z, h, r⟩
theorem keyOf_v {v : V} {d : D} {k : Key} (h : Rp K H v d) (e : keyOf d = some k) : v = kV k ∧ d = keyD k := by
  cases d <;> simp [keyOf] at e
  · subst e; rw [h.intv]; exact ⟨rfl, rfl⟩
  · subst e; rw [h.strv]; exact ⟨rfl, rfl⟩
theorem keysOf_v : ∀ {vs : List V} {ds : List D} {ks : List Key}, RpA K H vs ds → keysOf ds = some ks → vs = ks.map kV ∧ ds = ks.map keyD
  | _, _, ks, .nil, e => by simp [keysOf] at e; subst e; exact ⟨rfl, rfl⟩
  | _, _, ks, .cons (d := d) (ds := ds) h r, e => by
    unfold keysOf at e
    cases h1 : keyOf d with
    | none => rw [h1] at e; cases e
    | some k =>
      cases h2 : keysOf ds with
      | none => rw [h1, h2] at e; cases e
      | some r' =>
        rw [h1, h2] at e
        cases e
        obtain ⟨a1, a2⟩ := keyOf_v h h1
        obtain ⟨b1, b2⟩ := keysOf_v r h2
        subst a1 b1 a2 b2
        exact ⟨rfl, rfl⟩
end
def OptR (K : PySem.W.Frag) (M : Hp) (o : Option D) (r : Option V) : Prop := match o with
  | some d => ∃ v, r = some v ∧ Rp K M v d
  | none => r = none
section
variable {κ : Type} [DecidableEq κ] {K : PySem.W.Frag} {H : Hp}
theorem lookD_v : ∀ {ks : List κ} {vs : List V} {ds : List D} (k : κ), ks.length = vs.length → RpA K H vs ds → OptR K H (lookD ks ds k) (valV (ks.zip vs) k)
  | [], [], _, k, _, .nil => by simp [OptR, lookD, valV]
  | k0 :: ks, v0 :: vs, _, k, l, .cons (d := d) (ds := ds) h r => by
    have ih := lookD_v k (Nat.succ.inj l) r
    unfold lookD
    by_cases e : k0 = k
    · rw [if_pos e]
      exact ⟨v0, by rw [List.zip_cons_cons, valV_pos e], h⟩
    · rw [if_neg e, List.zip_cons_cons, valV_neg e]
      exact ih
  | [], _ :: _, _, _, l, _ => by cases l
  | _ :: _, [], _, _, l, _ => by cases l
theorem OptR.some_eq {M : Hp} {o : Option D} {r : Option V} (h : OptR K M o r) : r.isSome = o.isSome := by
  cases o with
  | none => rw [show r = none from h]; rfl
  | some d => obtain ⟨v, e, _⟩ := h; rw [e]; rfl
end
end Rf
/-! Reflection layer, part 5: operators, one by one. -/
namespace Rf
open PySem PySem.Spec PyProof.Rows L2
section
variable {X : Cx}
/-- t * 1 is t itself -/
theorem tuple_mul1 (l : Addr) (items : Array Value) (n : Nat) (dd : Option Addr) (sl : Array (Option Value)) (u : Tok) :
    Meets (Builtin.«tuple.__mul__» ⟨[.ref l, .int 1 u], []⟩) (fun _ R s => s.heap.get? l = some { cls := .type "tuple", dict := dd, data := .seq items n, slots := sl } ∧ R (.ok (.ret (Value.ref l))) s) :=
  .of_wp fun prog w A R s h => by
    obtain ⟨hp, g, d, tk, os⟩ := s
    obtain ⟨hl, h⟩ := h
    have f1 := AutoSeq1.idx_int
    have c0 : (decide ((1 : Int) < -(2 ^ 63)) || decide ((1 : Int) ≥ 2 ^ 63)) = false := by decide
    have c1 : (items.isEmpty || (1 : Int) == 1) = true := by simp
    wp_walk using wpAny_loadPart' hl
    repeat (first
      | (refine wpAny_ite_false (decide_eq_false (by rw [c0]; exact Bool.false_ne_true)) ?_; wp_walk using wpAny_loadPart' hl)
      | (refine wpAny_ite_true (decide_eq_true c1) ?_; wp_walk using wpAny_loadPart' hl))
    exact ⟨_, rfl, h⟩
def rRepT1 (K : PySem.W.Frag) : R2 := fun x y H Q => ∃ l xs, x = .ref l ∧ y = .int 1 ∧ SqT K H l xs ∧ Q (.ref l) H
theorem op_repT1 : OpR X (binaryOp .Mult) (rRepT1 X.K) := by
  intro pins s σ H x y v u Q I rx ry h
  obtain ⟨l, xs, rfl, rfl, hT, q⟩ := h
  cases rx
  obtain ⟨t, rfl⟩ := ry
  obtain ⟨its, r, ⟨⟨cls, dd, data, sl⟩, ho, hc, n, hd⟩, hs⟩ := I.tuple hT
  simp only at hc hd
  subst hc hd
  refine wpAny_binaryOp_repeat_ref (T := "tuple") (U := "int") (by decide) ⟨_, ho, rfl⟩ (fun s' => typeIs_int s' 1 t) noFill_tuple_mul F.fills_int_mul F.slot_int_rmul repeat_tuple F.slot_int_index.lookup
    (call_meets F.slot_int_rmul (typeIs_int s 1 t) F.entry_int_rmul (F.args_int_rmul_2 _ _) (int_rmul_tuple 1 t l its.toArray n dd sl)
      ⟨ho, rfl, ⟨_, ho, rfl⟩, call_meets F.slot_tuple_mul ⟨_, ho, rfl⟩ F.entry_tuple_mul (F.args_tuple_mul_2 _ _) (tuple_mul1 l its.toArray n dd sl t) ⟨ho, ?_⟩⟩)
  exact ⟨.ref l, H, I, rfl, q⟩
/-- i not in r -/
theorem op_notin_rng : OpR X (compareOp .NotIn) (fun x y H Q => ∃ i a lo hi, x = V.int i ∧ y = V.ref a ∧ H a = some (.rng lo hi) ∧ Q (.bl (!decide (lo ≤ i ∧ i < hi))) H) := by
  intro pins s σ H x y v u Q I rx ry h
  obtain ⟨i, a, lo, hi, rfl, rfl, ha, q⟩ := h
  obtain ⟨k, rfl⟩ := rx
  obtain rfl : u = Value.ref a := ry
  obtain ⟨t1, t2, t3, ho⟩ := I.hok a _ ha
  show wpAny _ _ (do return Value.bool (!(← contains (Value.ref a) (Value.int i k)))) _ _ s
  refine wpAny_bind (wpAny_contains_slot (T := "range") ⟨_, ho, rfl⟩ F.slot_range_contains (call_meets F.slot_range_contains ⟨_, ho, rfl⟩ F.entry_range_contains (F.args_range_contains_2 _ _) (q_contains a lo hi i t1 t2 t3 k)
    ⟨ho, wpAny_truthy_bool (wpAny_pure ⟨.bl _, H, I, rfl, ?_⟩)⟩))
  rw [place1]
  exact q
end

/-! ### what an operator asks, and that data answers -/
section
variable {w : Wld} {X : Cx} {K : PySem.W.Frag} {XE : Er → Value → Option Addr → Hp → Prop} {C : Fc} {e : En} {ad : Nat → Addr} {s : w.T} {σ : L2.St} {H H2 : Hp} {dx dy d : D} {x y : V} {Q : VK}
/-- what is wanted behind -/
abbrev Fin (w : Wld) (K : PySem.W.Frag) (C : Fc) (e : En) (ad : Nat → Addr) (s : w.T) (H2 : Hp) (d : D) (Q : VK) : Prop := ∀ v H', PoE w K C e ad H2 s H' → Rp K (mask (Os C e ad) H') v d → Q v H'
theorem map_cut (xs : List V) (lo hi : Option Int) : True := trivial
def rAddR (K : PySem.W.Frag) : R2 := fun x y H Q => rI0 (fun i j => .int (i + j)) x y H Q ∨ rCatA K x y H Q ∨ rCat x y H Q ∨ (∃ i j, x = .str i ∧ y = .str j ∧ i.length + j.length ≤ sizeLine ∧ Q (.str (i ++ j)) H)
theorem op_addR : OpR X (binaryOp .Add) (rAddR X.K) := op_add.or (op_catA.or (op_cat.or op_add_str))
theorem add_ok (R : Rel w K C e ad s σ H2) (zx : VRp K C.Dm (mask (Os C e ad) H2) H2 x dx) (zy : VRp K C.Dm (mask (Os C e ad) H2) H2 y dy) (h : addD dx dy = some d) (q : Fin w K C e ad s H2 d Q) : rAddR K x y H2 Q := by
  unfold addD at h
  split at h
  · cases h
    exact .inl ⟨_, _, zx.intv, zy.intv, q _ _ (.refl R) (.int _)⟩
  · split at h
    · rename_i hl
      cases h
      obtain ⟨a, vs, rfl, ha, ra⟩ := zx.tupv
      obtain ⟨b, ws, rfl, hb, rb⟩ := zy.tupv
      refine .inr (.inl ⟨a, b, vs, ws, rfl, rfl, (.inl (.inl (mask_le.tup ha))), (.inl (.inl (mask_le.tup hb))), by rw [ra.length, rb.length]; exact hl, fun z => ?_, fun _ z => ?_, fun _ _ p n => ?_⟩)
      · subst z
        cases ra
        exact q _ _ (.refl R) (.tup hb rb)
      · subst z
        cases rb
        refine q _ _ (.refl R) ?_
        rw [List.append_nil]
        exact .tup ha ra
      · exact q _ _ (.new R n) (R.newTup n (ra.append rb))
    · cases h
  · split at h
    · rename_i hl
      cases h
      obtain ⟨a, vs, rfl, ha, ra⟩ := zx.lstv
      obtain ⟨b, ws, rfl, hb, rb⟩ := zy.lstv
      refine .inr (.inr (.inl ⟨a, b, vs, ws, rfl, rfl, ha, hb, by rw [ra.length, rb.length]; exact hl, fun p n => ?_⟩))
      exact q _ _ (.new R n) (ZF.toE (H' := upd H2 p _) R ⟨p, rfl, n, R.newLst n (ra.append rb)⟩)
    · cases h
  · split at h
    · rename_i hl
      cases h
      exact .inr (.inr (.inr ⟨_, _, zx.strv, zy.strv, hl, q _ _ (.refl R) (.str _)⟩))
    · cases h
  · cases h
theorem int2_ok {f : Int → Int → Option D} {C' : Int → Int → Prop} {g : Int → Int → V} (R : Rel w K C e ad s σ H2) (zx : VRp K C.Dm (mask (Os C e ad) H2) H2 x dx) (zy : VRp K C.Dm (mask (Os C e ad) H2) H2 y dy) (h : int2 f dx dy = some d) (q : Fin w K C e ad s H2 d Q)
    (hf : ∀ i j d, f i j = some d → C' i j ∧ ∀ M, Rp K M (g i j) d) : rI C' g x y H2 Q := by
  unfold int2 at h
  split at h
  · obtain ⟨c, r⟩ := hf _ _ _ h
    exact ⟨_, _, zx.intv, zy.intv, c, q _ _ (.refl R) (r _)⟩
  · cases h
def rMulR (K : PySem.W.Frag) : R2 := fun x y H Q => rI CMul (fun i j => .int (i * j)) x y H Q ∨ rRep x y H Q ∨ rRepT K x y H Q ∨ rRepT1 K x y H Q
theorem op_mulR : OpR X (binaryOp .Mult) (rMulR X.K) := op_mul.or (op_rep.or (op_repT.or op_repT1))
theorem mul_ok (R : Rel w K C e ad s σ H2) (zx : VRp K C.Dm (mask (Os C e ad) H2) H2 x dx) (zy : VRp K C.Dm (mask (Os C e ad) H2) H2 y dy) (h : mulD dx dy = some d) (q : Fin w K C e ad s H2 d Q) : rMulR K x y H2 Q := by
  unfold mulD at h
  split at h
  · split at h
    · rename_i hc
      cases h
      exact .inl ⟨_, _, zx.intv, zy.intv, hc, q _ _ (.refl R) (.int _)⟩
    · cases h
  · split at h
    · rename_i xs k hc
      cases h
      obtain ⟨a, vs, rfl, ha, ra⟩ := zx.lstv
      refine .inr (.inl ⟨a, k, vs, rfl, zy.intv, ha, by omega, by omega, ?_, fun p n => ?_⟩)
      · rw [ra.length, sizeLine_eq]
        have a1 : xs.length * k.toNat ≤ 1000 * 1000 := Nat.mul_le_mul hc.2.2 (by omega)
        omega
      · exact q _ _ (.new R n) (ZF.toE (H' := upd H2 p _) R ⟨p, rfl, n, R.newLst n (ra.rep _)⟩)
    · cases h
  · split at h
    · rename_i xs k hc
      cases h
      obtain ⟨a, vs, rfl, ha, ra⟩ := zx.tupv
      have hl := ra.length
      by_cases h1 : k = 1
      · subst h1
        have ey := zy.intv
        subst ey
        refine .inr (.inr (.inr ⟨a, vs, rfl, rfl, (.inl (.inl (mask_le.tup ha))), q _ _ (.refl R) ?_⟩))
        have e1 : (List.replicate (1 : Int).toNat xs).flatten = xs := by simp
        rw [e1]
        exact .tup ha ra
      · refine .inr (.inr (.inl ⟨a, k, vs, rfl, zy.intv, (.inl (.inl (mask_le.tup ha))), fun z => hc.1 (by rw [← hl, z]; rfl), by omega, by omega, by omega, fun p n => ?_⟩))
        exact q _ _ (.new R n) (R.newTup n (ra.rep _))
    · cases h
  · cases h
theorem shapedA_len {xs : List D} : (toPyA xs).length = xs.length := by
  induction xs with
  | nil => rfl
  | cons x xs ih => simp [toPyA, ih]
theorem memD_any (x : D) : ∀ ys : List D, ((toPyA ys).any fun z => PyData.eqv z (toPy x)) = memD x ys
  | [] => rfl
  | y :: ys => by
    have ih := memD_any x ys
    unfold memD at ih ⊢
    simp only [toPyA, List.any_cons, ih, eqvD]
def rInR (K : PySem.W.Frag) (neg : Bool) : R2 := fun x y H Q => ∃ d ds, Dp K H x d ∧ Dp K H y (.list ds) ∧ SeqAt.shaped d = true ∧ SeqAt.shaped (.list ds) = true ∧ Q (.bl (neg != (ds.any fun z => PyData.eqv z d))) H
theorem op_inR (hu : X.A.units + 65 < cLine) : OpR X (compareOp .In) (rInR X.K false) := fun pins s σ H x y v u Q I rx ry h => op_inD hu pins s σ H x y v u Q I rx ry (by
  obtain ⟨d, ds, h1, h2, h3, h4, h5⟩ := h
  exact ⟨d, ds, h1, h2, h3, h4, by simpa using h5⟩)
theorem op_ninR (hu : X.A.units + 65 < cLine) : OpR X (compareOp .NotIn) (rInR X.K true) := fun pins s σ H x y v u Q I rx ry h => op_notInD hu pins s σ H x y v u Q I rx ry (by
  obtain ⟨d, ds, h1, h2, h3, h4, h5⟩ := h
  exact ⟨d, ds, h1, h2, h3, h4, by simpa using h5⟩)
/-- k in d, as an operator of values -/
def rDIn (neg : Bool) : R2 := fun x y H Q => ∃ a o, y = .ref a ∧ DGet H a x o ∧ Q (.bl (neg != o.isSome)) H
theorem op_dIn (hu : X.A.units + 1 < cLine) : OpR X (compareOp .In) (rDIn false) := by
  intro pins s σ H x y v u Q I rx ry h
  obtain ⟨a, o, rfl, g, q⟩ := h
  cases ry
  exact d_in hu I g rx fun s' I' => ⟨.bl _, H, I', rfl, by simpa using q⟩
theorem op_dNin (hu : X.A.units + 1 < cLine) : OpR X (compareOp .NotIn) (rDIn true) := by
  intro pins s σ H x y v u Q I rx ry h
  obtain ⟨a, o, rfl, g, q⟩ := h
  cases ry
  exact d_notIn hu I g rx fun s' I' => ⟨.bl _, H, I', rfl, by simpa using q⟩
/-- a look-up, as the kit has it -/
theorem dget_ok (zd : VRp K C.Dm (mask (Os C e ad) H2) H2 y dy) (zx : VRp K C.Dm (mask (Os C e ad) H2) H2 x dx) {o : Option D} (h : getD? dy dx = some o) :
    ∃ a r, y = .ref a ∧ DGet H2 a x r ∧ OptR K (mask (Os C e ad) H2) o r := by
  cases dy with
  | dk ks vs =>
    simp only [getD?] at h
    obtain ⟨a, us, rfl, hl, hr, ru⟩ := zd.dkv
    cases hk : keyOf dx with
    | none => rw [hk] at h; cases h
    | some k =>
      rw [hk] at h
      cases h
      have ex : x = kV k := by
        have : Rp K (mask (Os C e ad) H2) x dx := by
          cases zx with
          | rp z => exact z
          | _ => simp [keyOf] at hk
        exact (keyOf_v this hk).1
      refine ⟨a, valV (ks.zip us) k, rfl, .inl ⟨_, k, hr, ex, rfl⟩, ?_⟩
      exact lookD_v k hl ru
  | dt ks vs =>
    cases dx with
    | tup xs =>
      simp only [getD?] at h
      obtain ⟨a, us, rfl, hl, hr, ru⟩ := zd.dtv
      cases hk : keysOf xs with
      | none => rw [hk] at h; cases h
      | some k =>
        rw [hk] at h
        cases h
        obtain ⟨b, ws, rfl, hb, rb⟩ := zx.tupv
        obtain ⟨e1, e2⟩ := keysOf_v rb hk
        subst e1
        refine ⟨a, valV (ks.zip us) k, rfl, .inr ⟨_, k, b, hr, rfl, mask_le.tup hb, rfl⟩, ?_⟩
        exact lookD_v k hl ru
    | _ => simp [getD?] at h
  | _ => simp [getD?] at h
theorem shaped_lst {xs : List D} (h : shapedA xs = true) : shaped (.lst xs) = true := by unfold shaped; rw [toPy]; exact h
def rInAll (K : PySem.W.Frag) (neg : Bool) : R2 := fun x y H Q => rInR K neg x y H Q ∨ rDIn neg x y H Q
theorem op_inAll (hu : X.A.units + 65 < cLine) : OpR X (compareOp .In) (rInAll X.K false) := (op_inR hu).or (op_dIn (by omega))
theorem op_ninAll (hu : X.A.units + 65 < cLine) : OpR X (compareOp .NotIn) (rInAll X.K true) := (op_ninR hu).or (op_dNin (by omega))
theorem in_ok {neg : Bool} (R : Rel w K C e ad s σ H2) (zx : VRp K C.Dm (mask (Os C e ad) H2) H2 x dx) (zy : VRp K C.Dm (mask (Os C e ad) H2) H2 y dy) (h : inD neg dx dy = some d) (q : Fin w K C e ad s H2 d Q) : rInAll K neg x y H2 Q := by
  have dc : ∀ {o : Option D}, getD? dy dx = some o → (.bl (neg != o.isSome) : D) = d → rInAll K neg x y H2 Q := fun {o} h e => by
    obtain ⟨a, r, rfl, g, z⟩ := dget_ok zy zx h
    subst e
    refine .inr ⟨a, r, rfl, g, ?_⟩
    rw [z.some_eq]
    exact q _ _ (.refl R) (.bl _)
  unfold inD at h
  split at h
  · split at h
    · rename_i ys hs
      cases h
      simp only [Bool.and_eq_true] at hs
      have sl := shaped_lst hs.2
      refine .inl ⟨toPy dx, toPyA ys, (zx.full hs.1).dps hs.1, ?_, hs.1, hs.2, ?_⟩
      · have := (zy.full sl).dps sl
        rw [toPy] at this
        exact this
      · rw [memD_any]
        exact q _ _ (.refl R) (.bl _)
    · cases h
  · rename_i ks vs
    cases hg : getD? (.dk ks vs) dx with
    | none => rw [hg] at h; cases h
    | some o => rw [hg] at h; exact dc hg (Option.some.inj h)
  · rename_i ks vs
    cases hg : getD? (.dt ks vs) dx with
    | none => rw [hg] at h; cases h
    | some o => rw [hg] at h; exact dc hg (Option.some.inj h)
  · cases h
/-- == and != -/
theorem eq_ok (R : Rel w K C e ad s σ H2) (zx : VRp K C.Dm (mask (Os C e ad) H2) H2 x dx) (zy : VRp K C.Dm (mask (Os C e ad) H2) H2 y dy) (h : (if shaped dx && shaped dy then some (.bl (eqvD dx dy)) else none : Option D) = some d) (q : Fin w K C e ad s H2 d Q) : rEqD K x y H2 Q := by
  split at h
  · rename_i hs
    cases h
    simp only [Bool.and_eq_true] at hs
    exact ⟨_, _, (zx.full hs.1).dps hs.1, (zy.full hs.2).dps hs.2, hs.1, hs.2, q _ _ (.refl R) (.bl _)⟩
  · cases h
theorem ne_ok (R : Rel w K C e ad s σ H2) (zx : VRp K C.Dm (mask (Os C e ad) H2) H2 x dx) (zy : VRp K C.Dm (mask (Os C e ad) H2) H2 y dy) (h : (if shaped dx && shaped dy then some (.bl (!eqvD dx dy)) else none : Option D) = some d) (q : Fin w K C e ad s H2 d Q) : rNeD K x y H2 Q := by
  split at h
  · rename_i hs
    cases h
    simp only [Bool.and_eq_true] at hs
    exact ⟨_, _, (zx.full hs.1).dps hs.1, (zy.full hs.2).dps hs.2, hs.1, hs.2, q _ _ (.refl R) (.bl _)⟩
  · cases h
theorem isN_v {Dm : Addr → Prop} {M : Hp} {v : V} {d : D} (z : VRp K Dm M H2 v d) : decide (v = .non) = isN d := by
  cases z with
  | rp z => cases z <;> simp [isN]
  | _ => simp [isN]
theorem is_ok (R : Rel w K C e ad s σ H2) (zx : VRp K C.Dm (mask (Os C e ad) H2) H2 x dx) (zy : VRp K C.Dm (mask (Os C e ad) H2) H2 y dy) (h : opD .isN dx dy = some d) (q : Fin w K C e ad s H2 d Q) : y = .non ∧ Q (.bl (decide (x = .non))) H2 := by
  cases dy with
  | non =>
    simp only [opD] at h
    cases h
    refine ⟨zy.nonv, ?_⟩
    rw [isN_v zx]
    exact q _ _ (.refl R) (.bl _)
  | _ => simp [opD] at h
theorem isnot_ok (R : Rel w K C e ad s σ H2) (zx : VRp K C.Dm (mask (Os C e ad) H2) H2 x dx) (zy : VRp K C.Dm (mask (Os C e ad) H2) H2 y dy) (h : opD .notN dx dy = some d) (q : Fin w K C e ad s H2 d Q) : y = .non ∧ Q (.bl (!decide (x = .non))) H2 := by
  cases dy with
  | non =>
    simp only [opD] at h
    cases h
    refine ⟨zy.nonv, ?_⟩
    rw [isN_v zx]
    exact q _ _ (.refl R) (.bl _)
  | _ => simp [opD] at h
/-! ### which Python operator is which -/
def binOf : Op → Option Operator
  | .add => some .Add
  | .sub => some .Sub
  | .mul => some .Mult
  | .fdiv => some .FloorDiv
  | .mod => some .Mod
  | .pow => some .Pow
  | _ => none
def cmpOf : Op → Option CmpOp
  | .eq => some .Eq
  | .ne => some .NotEq
  | .lt => some .Lt
  | .le => some .LtE
  | .gt => some .Gt
  | .ge => some .GtE
  | .isN => some .Is
  | .notN => some .IsNot
  | .inn => some .In
  | .nin => some .NotIn
  | _ => none
/-- for each binary operator a rule of the kit, and what it asks, answered -/
theorem bin_rule {o : Op} {op : Operator} (ho : binOf o = some op) (X : Cx) : ∃ r, OpR X (binaryOp op) r ∧ ∀ {w : Wld} {C : Fc} {e : En} {ad : Nat → Addr} {s : w.T} {σ : L2.St} {H2 : Hp} {dx dy d : D} {x y : V} {Q : VK}, Rel w X.K C e ad s σ H2 →
    VRp X.K C.Dm (mask (Os C e ad) H2) H2 x dx → VRp X.K C.Dm (mask (Os C e ad) H2) H2 y dy → opD o dx dy = some d → Fin w X.K C e ad s H2 d Q → r x y H2 Q := by
  cases o <;> simp [binOf] at ho <;> subst ho
  · exact ⟨_, op_addR, fun R zx zy h q => add_ok R zx zy h q⟩
  · exact ⟨_, op_sub, fun R zx zy h q => by
      obtain ⟨i, j, e1, e2, _, q⟩ := int2_ok (C' := fun _ _ => True) (g := fun i j => .int (i - j)) R zx zy h q fun i j d h => by cases h; exact ⟨trivial, fun M => .int _⟩
      exact ⟨i, j, e1, e2, q⟩⟩
  · exact ⟨_, op_mulR, fun R zx zy h q => mul_ok R zx zy h q⟩
  · exact ⟨_, op_fdiv, fun R zx zy h q => int2_ok R zx zy h q fun i j d h => by
      split at h
      · rename_i c; cases h; exact ⟨c, fun M => .int _⟩
      · cases h⟩
  · exact ⟨_, op_mod, fun R zx zy h q => int2_ok R zx zy h q fun i j d h => by
      split at h
      · rename_i c; cases h; exact ⟨c, fun M => .int _⟩
      · cases h⟩
  · exact ⟨_, op_pow, fun R zx zy h q => int2_ok R zx zy h q fun i j d h => by
      split at h
      · rename_i c; cases h; exact ⟨c, fun M => .int _⟩
      · cases h⟩
theorem cmp_rule {o : Op} {op : CmpOp} (ho : cmpOf o = some op) (X : Cx) (hu : X.A.units + 65 < cLine) : ∃ r, OpR X (compareOp op) r ∧ ∀ {w : Wld} {C : Fc} {e : En} {ad : Nat → Addr} {s : w.T} {σ : L2.St} {H2 : Hp} {dx dy d : D} {x y : V} {Q : VK}, Rel w X.K C e ad s σ H2 →
    VRp X.K C.Dm (mask (Os C e ad) H2) H2 x dx → VRp X.K C.Dm (mask (Os C e ad) H2) H2 y dy → opD o dx dy = some d → Fin w X.K C e ad s H2 d Q → r x y H2 Q := by
  have ci : ∀ {f : Int → Int → Bool} {w : Wld} {C : Fc} {e : En} {ad : Nat → Addr} {s : w.T} {σ : L2.St} {H2 : Hp} {dx dy d : D} {x y : V} {Q : VK}, Rel w X.K C e ad s σ H2 →
    VRp X.K C.Dm (mask (Os C e ad) H2) H2 x dx → VRp X.K C.Dm (mask (Os C e ad) H2) H2 y dy → int2 (fun i j => some (.bl (f i j))) dx dy = some d → Fin w X.K C e ad s H2 d Q → rI0 (fun i j => .bl (f i j)) x y H2 Q := fun {f w C e ad s σ H2 dx dy d x y Q} R zx zy h q => by
      obtain ⟨i, j, e1, e2, _, q⟩ := int2_ok (C' := fun _ _ => True) (g := fun i j => .bl (f i j)) R zx zy h q fun i j d h => by cases h; exact ⟨trivial, fun M => .bl _⟩
      exact ⟨i, j, e1, e2, q⟩
  cases o <;> simp [cmpOf] at ho <;> subst ho
  · exact ⟨_, op_eqD (by omega), fun R zx zy h q => eq_ok R zx zy h q⟩
  · exact ⟨_, op_neD (by omega), fun R zx zy h q => ne_ok R zx zy h q⟩
  · exact ⟨_, op_lt, fun R zx zy h q => ci R zx zy h q⟩
  · exact ⟨_, op_le, fun R zx zy h q => ci R zx zy h q⟩
  · exact ⟨_, op_gt, fun R zx zy h q => ci R zx zy h q⟩
  · exact ⟨_, op_ge, fun R zx zy h q => ci R zx zy h q⟩
  · exact ⟨_, op_isN, fun R zx zy h q => is_ok R zx zy h q⟩
  · exact ⟨_, op_notN, fun R zx zy h q => isnot_ok R zx zy h q⟩
  · exact ⟨_, op_inAll hu, fun R zx zy h q => in_ok R zx zy h q⟩
  · exact ⟨_, op_ninAll hu, fun R zx zy h q => in_ok R zx zy h q⟩
end
end Rf
/-! Reflection layer, part 6: expressions. -/
namespace Rf
open PySem PySem.Spec PyProof.Rows L2
section
variable {w : Wld} {X : Cx} {XE : Er → Value → Option Addr → Hp → Prop} {W : WX} {F : Fs w}
abbrev RE (w : Wld) (X : Cx) (XE : Er → Value → Option Addr → Hp → Prop) (W : WX) (f : En → w.T → Rs w.T D) : TE := rd w X.K XE W (ZE X.K) f
abbrev RV (w : Wld) (X : Cx) (XE : Er → Value → Option Addr → Hp → Prop) (W : WX) (f : En → w.T → Rs w.T D) : TE := rd w X.K XE W (ZV X.K) f
abbrev RF (w : Wld) (X : Cx) (XE : Er → Value → Option Addr → Hp → Prop) (W : WX) (f : En → w.T → Rs w.T D) : TE := rd w X.K XE W (ZF X.K) f
abbrev RT (w : Wld) (X : Cx) (XE : Er → Value → Option Addr → Hp → Prop) (W : WX) (f : En → w.T → Rs w.T Bool) : TT := rd w X.K XE W ZB f
abbrev REs (w : Wld) (X : Cx) (XE : Er → Value → Option Addr → Hp → Prop) (W : WX) (f : En → w.T → Rs w.T (List D)) : TA := rd w X.K XE W (ZEs X.K) f
abbrev RVs (w : Wld) (X : Cx) (XE : Er → Value → Option Addr → Hp → Prop) (W : WX) (f : En → w.T → Rs w.T (List D)) : TA := rd w X.K XE W (ZVs X.K) f

/-! ### names, constants -/
theorem s_var {i : Nat} {x : Str} {pos : Pos} (hN : X.N[i]? = some x) (hv : Vis X.env.scope x) (hd : (x == ("__debug__" : Str)) = false) (hcd : (x == ("__classdict__" : Str)) = false) : PE X (.Name x pos) (RE w X XE W (denE F (.var i))) :=
  (pe_var hN hv hd hcd).imp fun σ H Q ⟨C, e, ad, s, R, h⟩ => by
    rw [denE_var] at h
    cases hs : dataS e i with
    | none => simp [hs] at h
    | some d =>
      simp only [hs, Rs.lift_some] at h
      obtain ⟨v, e1, r⟩ := R.data hs
      exact ⟨v, e1, h v H (.refl R) r⟩
theorem s_pk {i : Nat} {x : Str} {pos : Pos} (hN : X.N[i]? = some x) (hv : Vis X.env.scope x) (hd : (x == ("__debug__" : Str)) = false) (hcd : (x == ("__classdict__" : Str)) = false) : PE X (.Name x pos) (RV w X XE W (denV F (.pk i))) :=
  (pe_var hN hv hd hcd).imp fun σ H Q ⟨C, e, ad, s, R, h⟩ => by
    rw [denV_pk] at h
    cases hs : viewS e i with
    | none => simp [hs] at h
    | some d =>
      simp only [hs, Rs.lift_some] at h
      obtain ⟨v, e1, r⟩ := R.view hs
      exact ⟨v, e1, h v H (.refl R) r⟩
theorem s_cst {e : Expr} {v : V} {d : D} (h : PE X e (tC v)) (r : ∀ M, Rp X.K M v d) : PE X e (RE w X XE W (denE F (.cst d))) :=
  h.imp fun σ H Q ⟨C, e, ad, s, R, h⟩ => by
    rw [denE_cst] at h
    exact h v H (.refl R) (r _)
theorem s_e {e : Expr} {m : ME} (h : PE X e (RE w X XE W (denE F m))) : PE X e (RV w X XE W (denV F (.e m))) := by
  rw [denV_e]
  exact h.view

/-! ### several in a row -/
theorem s_nil : PA X [] (REs w X XE W (denEs F .nil)) := pa_nil.imp fun σ H Q ⟨C, e, ad, s, R, h⟩ => by
  rw [denEs_nil] at h
  exact h [] H (.refl R) .nil
theorem s_cons {e : Expr} {es : List Expr} {m : ME} {ms : MEs} (h : PE X e (RE w X XE W (denE F m))) (hs : PA X es (REs w X XE W (denEs F ms))) (hst : starEach (e :: es) X.env = (false, eval e X.env) :: starEach es X.env) : PA X (e :: es) (REs w X XE W (denEs F (.cons m ms))) :=
  (pa_cons h hs hst).imp fun σ H Q q => by
    rw [denEs_cons] at q
    exact rd_two stab_E q fun R z1 z2 _ _ h => h _ _ (.refl R) (.cons z1 z2)
theorem sv_nil : PA X [] (RVs w X XE W (denVs F .nil)) := pa_nil.imp fun σ H Q ⟨C, e, ad, s, R, h⟩ => by
  rw [denVs_nil] at h
  exact h [] H (.refl R) .nil
theorem sv_cons {e : Expr} {es : List Expr} {m : MV} {ms : MVs} (h : PE X e (RV w X XE W (denV F m))) (hs : PA X es (RVs w X XE W (denVs F ms))) (hst : starEach (e :: es) X.env = (false, eval e X.env) :: starEach es X.env) : PA X (e :: es) (RVs w X XE W (denVs F (.cons m ms))) :=
  (pa_cons h hs hst).imp fun σ H Q q => by
    rw [denVs_cons] at q
    exact rd_two stab_V q fun R z1 z2 _ _ h => h _ _ (.refl R) (.cons z1 z2)
theorem s_tup {es : List Expr} {k : Nat} {pos : Pos} {ms : MEs} (h : PA X es (REs w X XE W (denEs F ms))) : PE X (.Tuple es k pos) (RE w X XE W (denE F (.tup ms))) :=
  (pe_tup h).imp fun σ H Q q => by
    rw [denE_tup] at q
    refine rd_one q fun {C e ad s2 dx x H2} R z _ _ h => ?_
    split at h
    · next d s' hd =>
      split at hd
      · next hl =>
        cases hd
        exact ⟨by rw [RpA.length z]; exact hl, fun p n => h _ _ (.new R n) (R.newTup n z)⟩
      · cases hd
    · next hd => split at hd <;> cases hd
    · exact h.elim
theorem s_lstF {es : List Expr} {pos : Pos} {ms : MEs} (h : PA X es (REs w X XE W (denEs F ms))) : PE X (.List es pos) (RF w X XE W (denE F (.lst ms))) :=
  (pe_lst h).imp fun σ H Q q => by
    rw [denE_lst] at q
    refine rd_one q fun {C e ad s2 dx x H2} R z _ ff h => ?_
    split at h
    · next d s' hd =>
      split at hd
      · next hl =>
        cases hd
        exact ⟨by rw [RpA.length z]; exact hl, fun p n => h _ _ (.new R n) ⟨p, rfl, ff p n, R.newLst n z⟩⟩
      · cases hd
    · next hd => split at hd <;> cases hd
    · exact h.elim
theorem s_dk0 {pos : Pos} : PE X (.Dict [] [] pos) (RF w X XE W (denE F .dk0)) := pe_dnewK.imp fun σ H Q ⟨C, e, ad, s, R, h⟩ => by
  rw [denE_dk0] at h
  exact fun p n => h _ _ (.new R n) ⟨p, rfl, n, .dk (vs := []) rfl upd_same .nil⟩
theorem s_dt0 {pos : Pos} : PE X (.Dict [] [] pos) (RF w X XE W (denE F .dt0)) := pe_dnewT.imp fun σ H Q ⟨C, e, ad, s, R, h⟩ => by
  rw [denE_dt0] at h
  exact fun p n => h _ _ (.new R n) ⟨p, rfl, n, .dt (vs := []) rfl upd_same .nil⟩
/-- a result that may fail to be told -/
theorem lift_ok {K : PySem.W.Frag} {C : Fc} {e : En} {ad : Nat → Addr} {H2 : Hp} {s : w.T} {σ : L2.St} {α β : Type} {o : Option α} {Z : β → α → Hp → Prop} {Q : β → Hp → Prop} {R : Prop}
    (h : match Rs.lift o s with
      | .ok d s' => ∀ v H', PoE w K C e ad H2 s' H' → Z v d H' → Q v H'
      | .err er s' => ∀ cls dx H', PoE w K C e ad H2 s' H' → XE er cls dx H' → W cls dx σ H'
      | .stuck => False) (k : ∀ d, o = some d → (∀ v H', PoE w K C e ad H2 s H' → Z v d H' → Q v H') → R) : R := by
  cases o with
  | none => exact h.elim
  | some d => exact k d rfl h
/-! ### operators -/
theorem s_bin {o : Op} {op : Operator} (ho : binOf o = some op) {a b : Expr} {pos : Pos} {ma mb : MV} (ha : PE X a (RV w X XE W (denV F ma))) (hb : PE X b (RV w X XE W (denV F mb))) : PE X (.BinOp a op b pos) (RE w X XE W (denE F (.op o ma mb))) := by
  obtain ⟨r, hr, k⟩ := bin_rule ho X
  refine (pe_op hr ha hb).imp fun σ H Q q => ?_
  rw [denE_op] at q
  exact rd_two stab_V q fun R z1 z2 _ _ h => lift_ok h fun d e q => k R z1 z2 e q
theorem s_cmp {o : Op} {op : CmpOp} (ho : cmpOf o = some op) (hu : X.A.units + 65 < cLine) {a b : Expr} {pos : Pos} {ma mb : MV} (ha : PE X a (RV w X XE W (denV F ma))) (hb : PE X b (RV w X XE W (denV F mb))) (hm : behindInMarks op b = false) :
    PE X (.Compare a [op] [b] pos) (RE w X XE W (denE F (.op o ma mb))) := by
  obtain ⟨r, hr, k⟩ := cmp_rule ho X hu
  refine (pe_cmpR hr ha hb hm).imp fun σ H Q q => ?_
  rw [denE_op] at q
  exact rd_two stab_V q fun R z1 z2 _ _ h => lift_ok h fun d e q => k R z1 z2 e q
end
end Rf
/-! Reflection layer, part 7: tests, subscripts. -/
namespace Rf
open PySem PySem.Spec PyProof.Rows L2
section
variable {w : Wld} {X : Cx} {XE : Er → Value → Option Addr → Hp → Prop} {W : WX} {F : Fs w}
/-! ### tests -/
theorem tru_v {K : PySem.W.Frag} {M H : Hp} {O : Addr → Prop} {v : V} {d : D} {b : Bool} (h : Rp K (mask O H) v d) (t : truth d = some b) : TruV K v H b := by
  cases h with
  | non => cases t; rfl
  | bl b => cases t; rfl
  | int i => cases t; rfl
  | str x => cases t
  | tup h r =>
    cases t
    refine .inr (.inl ⟨_, .inl (.inl (mask_le.tup h)), ?_⟩)
    cases r <;> rfl
  | lst h r =>
    cases t
    refine .inl ⟨_, .inl (.inl (mask_le.lst h)), ?_⟩
    cases r <;> rfl
  | dk _ _ _ => cases t
  | dt _ _ _ => cases t
def plainTest : Expr → Bool
  | .UnaryOp .Not _ _ => false
  | .BoolOp _ _ _ => false
  | .IfExp _ _ _ _ => false
  | .Compare _ _ _ _ => false
  | _ => true
theorem plainTest_eq {e : Expr} (h : plainTest e = true) (env : Env) (whole : Sem Value) : isTrue e env whole = (do let v ← whole; standAt e.pos; holding [v] (truthy v)) := by
  cases e with
  | UnaryOp op a pos => cases op <;> first | rfl | cases h
  | BoolOp => cases h
  | IfExp => cases h
  | Compare => cases h
  | _ => rfl
theorem s_test {e : Expr} {m : ME} (p : plainTest e = true) (h : PE X e (RE w X XE W (denE F m))) : PT X e (RT w X XE W (denT F m)) :=
  (pt_truth h (plainTest_eq p X.env)).imp fun σ H Q q => by
    refine rd_one (h := fun x _ s1 => .lift (truth x) s1) q fun {C e ad s2 dx x H2} R z _ _ h => lift_ok h fun b eb q => ?_
    exact ⟨b, tru_v (M := H2) z eb, q b H2 (.refl R) rfl⟩
/-- a comparison's answer is a bool -/
theorem cmp_bl {o : Op} {op : CmpOp} (ho : cmpOf o = some op) {x y d : D} (h : opD o x y = some d) : ∃ b, d = .bl b := by
  have i2 : ∀ {f : Int → Int → Bool}, int2 (fun i j => some (.bl (f i j))) x y = some d → ∃ b, d = .bl b := fun {f} h => by
    unfold int2 at h
    split at h
    · exact ⟨_, (Option.some.inj h).symm⟩
    · cases h
  have iD : ∀ {n : Bool}, inD n x y = some d → ∃ b, d = .bl b := fun {n} h => by
    cases y with
    | lst ys =>
      simp only [inD] at h
      split at h
      · exact ⟨_, (Option.some.inj h).symm⟩
      · cases h
    | dk ks vs =>
      simp only [inD] at h
      cases hg : getD? (.dk ks vs) x with
      | none => rw [hg] at h; cases h
      | some o => rw [hg] at h; exact ⟨_, (Option.some.inj h).symm⟩
    | dt ks vs =>
      simp only [inD] at h
      cases hg : getD? (.dt ks vs) x with
      | none => rw [hg] at h; cases h
      | some o => rw [hg] at h; exact ⟨_, (Option.some.inj h).symm⟩
    | _ => simp [inD] at h
  cases o <;> simp [cmpOf] at ho
  · simp only [opD] at h; split at h
    · exact ⟨_, (Option.some.inj h).symm⟩
    · cases h
  · simp only [opD] at h; split at h
    · exact ⟨_, (Option.some.inj h).symm⟩
    · cases h
  · exact i2 h
  · exact i2 h
  · exact i2 h
  · exact i2 h
  · simp only [opD] at h; split at h
    · exact ⟨_, (Option.some.inj h).symm⟩
    · cases h
  · simp only [opD] at h; split at h
    · exact ⟨_, (Option.some.inj h).symm⟩
    · cases h
  · exact iD h
  · exact iD h
/-- where the data is a bool, the test is it -/
theorem rd_test {f : En → w.T → Rs w.T D} {σ : L2.St} {H : Hp} {Q : Bool → Hp → Prop} (hb : ∀ e s d s', f e s = .ok d s' → ∃ b, d = .bl b) (q : rd w X.K XE W ZB (fun e s => (f e s).bind fun x s1 => Rs.lift (truth x) s1) σ H Q) :
    rd w X.K XE W (ZE X.K) f σ H fun v H1 => ∃ k, v = .bl k ∧ Q k H1 := by
  obtain ⟨C, e, ad, s, R, h⟩ := q
  refine ⟨C, e, ad, s, R, ?_⟩
  cases hf : f e s with
  | err er s1 => simp only [hf, Rs.bind_err] at h ⊢; exact h
  | stuck => simp only [hf, Rs.bind_stuck] at h
  | ok d s1 =>
    simp only [hf, Rs.bind_ok] at h ⊢
    obtain ⟨b, rfl⟩ := hb _ _ _ _ hf
    intro v H1 p z
    have ev : v = .bl b := Rp.blv z
    subst ev
    exact ⟨b, rfl, h b H1 p rfl⟩
theorem s_cmpT {o : Op} {op : CmpOp} (ho : cmpOf o = some op) (hu : X.A.units + 65 < cLine) {a b : Expr} {pos : Pos} {ma mb : MV} (ha : PE X a (RV w X XE W (denV F ma))) (hb : PE X b (RV w X XE W (denV F mb))) (hm : behindInMarks op b = false) :
    PT X (.Compare a [op] [b] pos) (RT w X XE W (denT F (.op o ma mb))) := by
  obtain ⟨r, hr, k⟩ := cmp_rule ho X hu
  refine (pt_cmpR hr ha hb hm).imp fun σ H Q q => ?_
  have q2 : rd w X.K XE W (ZE X.K) (denE F (.op o ma mb)) σ H fun v H1 => ∃ k, v = .bl k ∧ Q k H1 := rd_test (fun e s d s' hf => by
    rw [denE_op] at hf
    cases h1 : denV F ma e s with
    | ok x s1 =>
      cases h2 : denV F mb e s1 with
      | ok y s2 =>
        simp only [h1, h2, Rs.bind_ok] at hf
        cases h3 : opD o x y with
        | none => rw [h3] at hf; cases hf
        | some d' => rw [h3] at hf; cases hf; exact cmp_bl ho h3
      | _ => simp [h1, h2] at hf
    | _ => simp [h1] at hf) q
  rw [denE_op] at q2
  exact rd_two stab_V q2 fun R z1 z2 _ _ h => lift_ok h fun d e q => k R z1 z2 e q
theorem s_not {a : Expr} {pos : Pos} {m : ME} (h : PT X a (RT w X XE W (denT F m))) (hv : PE X a (RE w X XE W (denE F m))) : PE X (.UnaryOp .Not a pos) (RE w X XE W (denE F (.not m))) :=
  (pe_notT hv).imp fun σ H Q q => by
    rw [denE_not] at q
    have q2 : rd w X.K XE W (ZE X.K) (fun e s => (denE F m e s).bind fun x s1 => (Rs.lift (truth x) s1).bind fun b s2 => .ok (.bl (!b)) s2) σ H Q := by
      have e1 : (fun e s => (denT F m e s).bind fun b s2 => Rs.ok (.bl (!b)) s2) = fun e s => (denE F m e s).bind fun x s1 => (Rs.lift (truth x) s1).bind fun b s2 => Rs.ok (D.bl (!b)) s2 := by
        funext e s; simp only [denT]; cases denE F m e s <;> simp [Rs.bind]
      rw [← e1]
      exact q
    refine rd_one q2 fun {C e ad s2 dx x H2} R z _ _ h => ?_
    cases ht : truth dx with
    | none => simp only [ht, Rs.lift_none, Rs.bind_stuck] at h
    | some b =>
      simp only [ht, Rs.lift_some, Rs.bind_ok] at h
      exact ⟨b, tru_v (M := H2) z ht, h _ H2 (.refl R) (.bl _)⟩
theorem s_notT {a : Expr} {pos : Pos} {m : ME} (h : PT X a (RT w X XE W (denT F m))) : PT X (.UnaryOp .Not a pos) (RT w X XE W (denT F (.not m))) :=
  (pt_not h).imp fun σ H Q q => by
    have e1 : denT F (.not m) = fun e s => (denT F m e s).bind fun b s2 => .ok (!b) s2 := by
      funext e s
      show ((denE F (.not m) e s).bind fun x s1 => Rs.lift (truth x) s1) = _
      rw [denE_not]
      simp only [denT]
      cases denE F m e s with
      | ok x s1 => simp only [Rs.bind_ok]; cases truth x <;> rfl
      | _ => rfl
    rw [e1] at q
    exact rd_one q fun R z _ _ h => by
      have : _ = _ := z
      subst this
      exact h _ _ (.refl R) rfl
theorem s_neg {a : Expr} {pos : Pos} {m : ME} (h : PE X a (RE w X XE W (denE F m))) : PE X (.UnaryOp .USub a pos) (RE w X XE W (denE F (.neg m))) :=
  (pe_un un_neg h).imp fun σ H Q q => by
    rw [denE_neg] at q
    refine rd_one q fun {C e ad s2 dx x H2} R z _ _ h => ?_
    split at h
    · next d s' hd =>
      split at hd
      · cases hd; exact ⟨_, Rp.intv z, h _ _ (.refl R) (.int _)⟩
      · cases hd
    · next hd => split at hd <;> cases hd
    · exact h.elim
/-- and, or: the first one, then the rest (a BoolOp of the rest) -/
theorem s_and {a b : Expr} {rest : List Expr} {pos : Pos} {ma mb : ME} (ha : PE X a (RE w X XE W (denE F ma))) (hb : PE X (.BoolOp .And (b :: rest) pos) (RE w X XE W (denE F mb))) : PE X (.BoolOp .And (a :: b :: rest) pos) (RE w X XE W (denE F (.and ma mb))) :=
  (pe_and ha hb).imp fun σ H Q q => by
    rw [denE_and] at q
    refine rd_one q fun {C e ad s2 dx x H2} R z _ _ h => ?_
    cases dx with
    | bl c =>
      refine ⟨c, Rp.blv z, ?_⟩
      cases c with
      | true => rw [if_pos rfl]; exact ⟨C, e, ad, s2, R, h⟩
      | false => rw [if_neg Bool.false_ne_true]; exact h _ _ (.refl R) (.bl _)
    | _ => exact h.elim
theorem s_or {a b : Expr} {rest : List Expr} {pos : Pos} {ma mb : ME} (ha : PE X a (RE w X XE W (denE F ma))) (hb : PE X (.BoolOp .Or (b :: rest) pos) (RE w X XE W (denE F mb))) : PE X (.BoolOp .Or (a :: b :: rest) pos) (RE w X XE W (denE F (.or ma mb))) :=
  (pe_or ha hb).imp fun σ H Q q => by
    rw [denE_or] at q
    refine rd_one q fun {C e ad s2 dx x H2} R z _ _ h => ?_
    cases dx with
    | bl c =>
      refine ⟨c, Rp.blv z, ?_⟩
      cases c with
      | true => rw [if_pos rfl]; exact h _ _ (.refl R) (.bl _)
      | false => rw [if_neg Bool.false_ne_true]; exact ⟨C, e, ad, s2, R, h⟩
    | _ => exact h.elim
theorem s_andT {a b : Expr} {rest : List Expr} {pos : Pos} {ma mb : ME} (ha : PT X a (RT w X XE W (denT F ma))) (hb : PW X (.BoolOp .And (b :: rest) pos) (RT w X XE W (denT F mb))) : PW X (.BoolOp .And (a :: b :: rest) pos) (RT w X XE W (denT F (.and ma mb))) := by
  refine ⟨fun whole pins s σ H Q I h => (pw_and ha hb).run whole pins s σ H Q I ?_⟩
  have e1 : denT F (.and ma mb) = fun e s => (denE F ma e s).bind fun x s1 => match x with
    | .bl true => denT F mb e s1
    | .bl false => .ok false s1
    | _ => .stuck := by
    funext e s; simp only [denT, denE_and]; cases denE F ma e s with
    | ok x s1 => cases x with
      | bl b => cases b <;> simp [truth]
      | _ => simp
    | _ => simp
  rw [e1] at h
  obtain ⟨C, e, ad, s0, R, h⟩ := h
  refine ⟨C, e, ad, s0, R, ?_⟩
  have e2 : denT F ma e s0 = (denE F ma e s0).bind fun x s1 => Rs.lift (truth x) s1 := rfl
  rw [e2]
  cases hf : denE F ma e s0 with
  | err er s1 => simp only [hf, Rs.bind_err] at h ⊢; exact h
  | stuck => simp only [hf, Rs.bind_stuck] at h
  | ok x s1 =>
    simp only [hf, Rs.bind_ok] at h ⊢
    cases x with
    | bl c =>
      simp only [truth, Rs.lift_some]
      intro v H1 p z
      have : v = c := z
      subst this
      have R1 := R.ext p.kp p.dr
      cases v with
      | true =>
        rw [if_pos rfl]
        refine ⟨C, e, ad, s1, R1, ?_⟩
        simp only at h
        cases hg : denT F mb e s1 with
        | ok d s' => simp only [hg] at h ⊢; exact fun v H' p' z' => h v H' ⟨p.kp.trans p'.kp, p'.dr⟩ z'
        | err er s' => simp only [hg] at h ⊢; exact fun cls dx H' p' z' => h cls dx H' ⟨p.kp.trans p'.kp, p'.dr⟩ z'
        | stuck => simp only [hg] at h
      | false =>
        rw [if_neg Bool.false_ne_true]
        exact h _ _ p rfl
    | _ => exact h.elim
theorem s_orT {a b : Expr} {rest : List Expr} {pos : Pos} {ma mb : ME} (ha : PT X a (RT w X XE W (denT F ma))) (hb : PW X (.BoolOp .Or (b :: rest) pos) (RT w X XE W (denT F mb))) : PW X (.BoolOp .Or (a :: b :: rest) pos) (RT w X XE W (denT F (.or ma mb))) := by
  refine ⟨fun whole pins s σ H Q I h => (pw_or ha hb).run whole pins s σ H Q I ?_⟩
  have e1 : denT F (.or ma mb) = fun e s => (denE F ma e s).bind fun x s1 => match x with
    | .bl true => .ok true s1
    | .bl false => denT F mb e s1
    | _ => .stuck := by
    funext e s; simp only [denT, denE_or]; cases denE F ma e s with
    | ok x s1 => cases x with
      | bl b => cases b <;> simp [truth]
      | _ => simp
    | _ => simp
  rw [e1] at h
  obtain ⟨C, e, ad, s0, R, h⟩ := h
  refine ⟨C, e, ad, s0, R, ?_⟩
  have e2 : denT F ma e s0 = (denE F ma e s0).bind fun x s1 => Rs.lift (truth x) s1 := rfl
  rw [e2]
  cases hf : denE F ma e s0 with
  | err er s1 => simp only [hf, Rs.bind_err] at h ⊢; exact h
  | stuck => simp only [hf, Rs.bind_stuck] at h
  | ok x s1 =>
    simp only [hf, Rs.bind_ok] at h ⊢
    cases x with
    | bl c =>
      simp only [truth, Rs.lift_some]
      intro v H1 p z
      have : v = c := z
      subst this
      have R1 := R.ext p.kp p.dr
      cases v with
      | false =>
        rw [if_neg Bool.false_ne_true]
        refine ⟨C, e, ad, s1, R1, ?_⟩
        simp only at h
        cases hg : denT F mb e s1 with
        | ok d s' => simp only [hg] at h ⊢; exact fun v H' p' z' => h v H' ⟨p.kp.trans p'.kp, p'.dr⟩ z'
        | err er s' => simp only [hg] at h ⊢; exact fun cls dx H' p' z' => h cls dx H' ⟨p.kp.trans p'.kp, p'.dr⟩ z'
        | stuck => simp only [hg] at h
      | true =>
        rw [if_pos rfl]
        exact h _ _ p rfl
    | _ => exact h.elim
theorem s_ite {c a b : Expr} {pos : Pos} {mc ma mb : ME} (hc : PT X c (RT w X XE W (denT F mc))) (ha : PE X a (RE w X XE W (denE F ma))) (hb : PE X b (RE w X XE W (denE F mb))) : PE X (.IfExp c a b pos) (RE w X XE W (denE F (.ite mc ma mb))) :=
  (pe_ifExp hc ha hb).imp fun σ H Q q => by
    rw [denE_ite] at q
    refine rd_one q fun {C e ad s2 dx x H2} R z _ _ h => ?_
    have : x = dx := z
    subst this
    cases x with
    | true => rw [if_pos rfl] at h ⊢; exact ⟨C, e, ad, s2, R, h⟩
    | false => rw [if_neg Bool.false_ne_true] at h ⊢; exact ⟨C, e, ad, s2, R, h⟩
end
end Rf
/-! Reflection layer, part 8: subscripts, slices, built-ins. -/
namespace Rf
open PySem PySem.Spec PyProof.Rows L2
section
variable {w : Wld} {X : Cx} {XE : Er → Value → Option Addr → Hp → Prop} {W : WX} {F : Fs w}
/-- the first two steps' answers tell which of two ways is gone -/
theorem rd_split {K : PySem.W.Frag} {α α1 α2 β : Type} {Z' : Fc → En → (Nat → Addr) → Hp → Hp → β → α → Prop} {f : En → w.T → Rs w.T α1} {g : En → w.T → Rs w.T α2} {h : α1 → α2 → En → w.T → Rs w.T α} {σ : L2.St} {H : Hp} {Q : β → Hp → Prop} (p : α1 → α2 → Bool)
    (hh : rd w K XE W Z' (fun e s => (f e s).bind fun x s1 => (g e s1).bind fun y s2 => h x y e s2) σ H Q) :
    rd w K XE W Z' (fun e s => (f e s).bind fun x s1 => (g e s1).bind fun y s2 => if p x y = true then h x y e s2 else .stuck) σ H Q ∨ rd w K XE W Z' (fun e s => (f e s).bind fun x s1 => (g e s1).bind fun y s2 => if p x y = true then .stuck else h x y e s2) σ H Q := by
  obtain ⟨C, e, ad, s, R, hh⟩ := hh
  cases hf : f e s with
  | err er s1 => exact .inl ⟨C, e, ad, s, R, by simp only [hf, Rs.bind_err] at hh ⊢; exact hh⟩
  | stuck => simp only [hf, Rs.bind_stuck] at hh
  | ok x s1 =>
    cases hg : g e s1 with
    | err er s2 => exact .inl ⟨C, e, ad, s, R, by simp only [hf, hg, Rs.bind_ok, Rs.bind_err] at hh ⊢; exact hh⟩
    | stuck => simp only [hf, hg, Rs.bind_ok, Rs.bind_stuck] at hh
    | ok y s2 =>
      by_cases hp : p x y = true
      · exact .inl ⟨C, e, ad, s, R, by simp only [hf, hg, Rs.bind_ok] at hh ⊢; rw [if_pos hp]; exact hh⟩
      · exact .inr ⟨C, e, ad, s, R, by simp only [hf, hg, Rs.bind_ok] at hh ⊢; rw [if_neg hp]; exact hh⟩
/-- three steps, then a fourth -/
theorem rd_three {K : PySem.W.Frag} {α α1 α2 α3 β β1 β2 β3 : Type} {Z1 : Fc → En → (Nat → Addr) → Hp → Hp → β1 → α1 → Prop} {Z2 : Fc → En → (Nat → Addr) → Hp → Hp → β2 → α2 → Prop} {Z3 : Fc → En → (Nat → Addr) → Hp → Hp → β3 → α3 → Prop} {Z' : Fc → En → (Nat → Addr) → Hp → Hp → β → α → Prop}
    {f : En → w.T → Rs w.T α1} {g : En → w.T → Rs w.T α2} {g' : En → w.T → Rs w.T α3} {h : α1 → α2 → α3 → En → w.T → Rs w.T α} {σ : L2.St} {H : Hp} {Q : β → Hp → Prop} {R : β1 → β2 → β3 → Hp → Prop} (st : Stab w K Z1)
    (st2 : ∀ {C e ad} {s1 : w.T} {σ : L2.St} {Ha Hb H1 H2 : Hp} {x : β2} {d : α2}, Rel w K C e ad s1 σ H1 → Kp C.Dm H1 H2 → Z2 C e ad Ha H1 x d → Z2 C e ad Hb H2 x d)
    (hh : rd w K XE W Z' (fun e s => (f e s).bind fun x s1 => (g e s1).bind fun y s2 => (g' e s2).bind fun z s3 => h x y z e s3) σ H Q)
    (k : ∀ {C e ad} {s2 : w.T} {dx : α1} {dy : α2} {dz : α3} {x : β1} {y : β2} {z : β3} {H1 H2 : Hp}, Rel w K C e ad s2 σ H2 → Z1 C e ad H H2 x dx → Z2 C e ad H H2 y dy → Z3 C e ad H1 H2 z dz → Kp C.Dm H H2 → (∀ p, H2 p = none → H p = none) →
      (match h dx dy dz e s2 with
      | .ok d s' => ∀ v H', PoE w K C e ad H2 s' H' → Z' C e ad H H' v d → Q v H'
      | .err er s' => ∀ cls dx H', PoE w K C e ad H2 s' H' → XE er cls dx H' → W cls dx σ H'
      | .stuck => False) → R x y z H2) :
    rd w K XE W Z1 f σ H fun x H1 => rd w K XE W Z2 g σ H1 fun y H2 => rd w K XE W Z3 g' σ H2 fun z H3 => R x y z H3 := by
  obtain ⟨C, e, ad, s, R0, hh⟩ := hh
  refine ⟨C, e, ad, s, R0, ?_⟩
  cases hf : f e s with
  | err er s1 => simp only [hf, Rs.bind_err] at hh ⊢; exact hh
  | stuck => simp only [hf, Rs.bind_stuck] at hh
  | ok dx s1 =>
    simp only [hf, Rs.bind_ok] at hh ⊢
    intro x H1 p1 z1
    have R1 := R0.ext p1.kp p1.dr
    refine ⟨C, e, ad, s1, R1, ?_⟩
    cases hg : g e s1 with
    | err er s2 => simp only [hg, Rs.bind_err] at hh ⊢; exact fun cls dx H' p z => hh cls dx H' ⟨p1.kp.trans p.kp, p.dr⟩ z
    | stuck => simp only [hg, Rs.bind_stuck] at hh
    | ok dy s2 =>
      simp only [hg, Rs.bind_ok] at hh ⊢
      intro y H2 p2 z2
      have R2 := R1.ext p2.kp p2.dr
      have kk := p1.kp.trans p2.kp
      refine ⟨C, e, ad, s2, R2, ?_⟩
      cases hg' : g' e s2 with
      | err er s3 => simp only [hg', Rs.bind_err] at hh ⊢; exact fun cls dx H' p z => hh cls dx H' ⟨kk.trans p.kp, p.dr⟩ z
      | stuck => simp only [hg', Rs.bind_stuck] at hh
      | ok dz s3 =>
        simp only [hg', Rs.bind_ok] at hh ⊢
        intro z H3 p3 z3
        have R3 := R2.ext p3.kp p3.dr
        have k3 := kk.trans p3.kp
        refine k R3 (st R2 p3.kp (st R1 p2.kp z1)) (st2 R2 p3.kp z2) z3 k3 (fun p n => k3.none n (R3.draw.nd n)) ?_
        cases hq : h dx dy dz e s3 with
        | ok d s' => simp only [hq] at hh ⊢; exact fun v H' p z => hh v H' ⟨k3.trans p.kp, p.dr⟩ z
        | err er s' => simp only [hq] at hh ⊢; exact fun cls dx H' p z => hh cls dx H' ⟨k3.trans p.kp, p.dr⟩ z
        | stuck => simp only [hq] at hh

/-! ### subscripts -/
def isDic : D → Bool
  | .dk _ _ => true
  | .dt _ _ => true
  | _ => false
theorem atI_map {K : PySem.W.Frag} {M : Hp} {vs : List V} {ds : List D} {i : Int} {d : D} (r : RpA K M vs ds) (h : atI ds i = some d) : ∃ v, atI vs i = some v ∧ Rp K M v d := by
  unfold atI at h ⊢
  rw [r.length]
  cases hi : ixN ds.length i with
  | none => rw [hi] at h; cases h
  | some j =>
    rw [hi] at h
    exact r.get h
theorem s_sub (hu : X.A.units + 1 < cLine) {a b : Expr} {pos : Pos} {ma : MV} {mb : ME} (ha : PE X a (RV w X XE W (denV F ma))) (hb : PE X b (RE w X XE W (denE F mb))) (hp : ∀ o i, subscripted b false o i = operate [o, i] (getItem o i)) : PE X (.Subscript a b pos) (RE w X XE W (denE F (.sub ma mb))) :=
  ((pe_ix (ix_list.or ix_tup) ha hb hp).either (pe_dget hu ha hb hp)).imp fun σ H Q q => by
    rw [denE_sub] at q
    rcases rd_split (fun x _ => isDic x) q with q | q
    · refine .inr ?_
      refine rd_two stab_V q fun {C e ad s2 dx dy x y H1 H2} R z1 z2 _ _ h => ?_
      split at h
      · next d s' hd =>
        split at hd
        · next hx =>
          cases hs : subD dx dy with
          | none => rw [hs] at hd; cases hd
          | some d' =>
            rw [hs] at hd
            cases hd
            have hg : getD? dx dy = some (some d) := by
              cases dx with
              | dk ks vs => simp only [subD] at hs; cases hq : getD? (.dk ks vs) dy with
                | none => rw [hq] at hs; cases hs
                | some o => rw [hq] at hs; simpa using hs
              | dt ks vs => simp only [subD] at hs; cases hq : getD? (.dt ks vs) dy with
                | none => rw [hq] at hs; cases hs
                | some o => rw [hq] at hs; simpa using hs
              | _ => cases hx
            obtain ⟨a, r, rfl, g, z⟩ := dget_ok z1 (.rp z2) hg
            obtain ⟨v, rfl, rv⟩ := z
            exact ⟨a, v, rfl, g, h v H2 (.refl R) rv⟩
        · cases hd
      · next hd => split at hd
                   · cases hs : subD dx dy <;> rw [hs] at hd <;> cases hd
                   · cases hd
      · exact h.elim
    · refine .inl ?_
      refine rd_two stab_V q fun {C e ad s2 dx dy x y H1 H2} R z1 z2 _ _ h => ?_
      split at h
      · next d s' hd =>
        split at hd
        · cases hd
        · next hx =>
          cases hs : subD dx dy with
          | none => rw [hs] at hd; cases hd
          | some d' =>
            rw [hs] at hd
            cases hd
            cases dx with
            | dk _ _ => exact absurd rfl hx
            | dt _ _ => exact absurd rfl hx
            | lst xs =>
              cases dy with
              | int i =>
                obtain ⟨a, vs, rfl, ha, ra⟩ := VRp.lstv z1
                obtain ⟨v, e1, rv⟩ := atI_map ra hs
                exact .inl ⟨a, vs, i, v, rfl, Rp.intv z2, .inl (.inl ha), e1, h v H2 (.refl R) rv⟩
              | _ => simp [subD] at hs
            | tup xs =>
              cases dy with
              | int i =>
                obtain ⟨a, vs, rfl, ha, ra⟩ := VRp.tupv z1
                obtain ⟨v, e1, rv⟩ := atI_map ra hs
                exact .inr ⟨a, vs, i, v, rfl, Rp.intv z2, .inl (.inl (mask_le.tup ha)), e1, h v H2 (.refl R) rv⟩
              | _ => simp [subD] at hs
            | _ => simp [subD] at hs
      · next hd => split at hd
                   · cases hd
                   · cases hs : subD dx dy <;> rw [hs] at hd <;> cases hd
      · exact h.elim
/-! ### slices -/
def ZO : Fc → En → (Nat → Addr) → Hp → Hp → Option Int → Option Int → Prop := fun _ _ _ _ _ v d => v = d
abbrev RO (w : Wld) (X : Cx) (XE : Er → Value → Option Addr → Hp → Prop) (W : WX) (f : En → w.T → Rs w.T (Option Int)) : TO := rd w X.K XE W ZO f
theorem _root_.L2.PO.imp {X : Cx} {e : Option Expr} {t t' : TO} (h : PO X e t) (i : ∀ σ H Q, t' σ H Q → t σ H Q) : PO X e t' := ⟨fun pins s σ H Q I q => h.run pins s σ H Q I (i σ H Q q)⟩
theorem s_no : PO X none (RO w X XE W (denO F .no)) := po_none.imp fun σ H Q ⟨C, e, ad, s, R, h⟩ => by
  rw [denO_no] at h
  exact h none H (.refl R) rfl
theorem s_yes {a : Expr} {m : ME} (h : PE X a (RE w X XE W (denE F m))) : PO X (some a) (RO w X XE W (denO F (.yes m))) := (po_some h).imp fun σ H Q q => by
  rw [denO_yes] at q
  refine rd_one q fun {C e ad s2 dx x H2} R z _ _ h => ?_
  cases dx with
  | int i => exact ⟨i, Rp.intv z, h _ _ (.refl R) rfl⟩
  | _ => exact h.elim
theorem cut_v {K : PySem.W.Frag} {M : Hp} {vs : List V} {ds : List D} (r : RpA K M vs ds) (lo hi : Option Int) : RpA K M (cutV vs lo hi) (cutD ds lo hi) := by
  unfold cutV cutD
  rw [r.length]
  exact (r.drop _).take _
theorem s_slc {a : Expr} {lo hi : Option Expr} {pos p2 : Pos} {ma : MV} {ml mh : MO} (ha : PE X a (RV w X XE W (denV F ma))) (hl : PO X lo (RO w X XE W (denO F ml))) (hh : PO X hi (RO w X XE W (denO F mh))) :
    PE X (.Subscript a (.Slice lo hi none p2) pos) (RE w X XE W (denE F (.slc ma ml mh))) :=
  (pe_slice (sl_list.or sl_tupA) ha hl hh).imp fun σ H Q q => by
    rw [denE_slc] at q
    refine rd_three stab_V (Z2 := ZO) (fun _ _ z => z) q fun {C e ad s2 dx dl dh x l u H1 H2} R z1 z2 z3 _ _ h => lift_ok h fun d ed q => ?_
    have e1 : l = dl := z2
    have e2 : u = dh := z3
    subst e1 e2
    cases dx with
    | tup xs =>
      cases ed
      obtain ⟨p, vs, rfl, ha, ra⟩ := VRp.tupv z1
      refine .inr ⟨p, vs, rfl, .inl (.inl (mask_le.tup ha)), fun ⟨h0, h1⟩ => ?_, fun _ p' n => q _ _ (.new R n) (R.newTup n (cut_v ra l u))⟩
      have ec : cutV vs l u = vs := by
        unfold cutV
        rw [h0, h1, List.drop_zero, Nat.sub_zero, List.take_length]
      have rc := cut_v ra l u
      rw [ec] at rc
      exact q _ _ (.refl R) (.tup ha rc)
    | lst xs =>
      cases ed
      obtain ⟨p, vs, rfl, ha, ra⟩ := VRp.lstv z1
      refine .inl ⟨p, vs, rfl, .inl (.inl ha), fun p' n => q _ _ (.new R n) (ZF.toE (H' := upd H2 p' _) R ⟨p', rfl, n, R.newLst n (cut_v ra l u)⟩)⟩
    | _ => cases ed
end
end Rf
/-! Reflection layer, part 9: built-ins. -/
namespace Rf
open PySem PySem.Spec PyProof.Rows L2
section
variable {w : Wld} {X : Cx} {XE : Er → Value → Option Addr → Hp → Prop} {W : WX} {F : Fs w}
theorem VRpA.one {K : PySem.W.Frag} {Dm : Addr → Prop} {M H : Hp} {vs : List V} {d : D} (h : VRpA K Dm M H vs [d]) : ∃ v, vs = [v] ∧ VRp K Dm M H v d := by
  cases h with | cons h r => cases r; exact ⟨_, rfl, h⟩
theorem VRpA.two {K : PySem.W.Frag} {Dm : Addr → Prop} {M H : Hp} {vs : List V} {d d' : D} (h : VRpA K Dm M H vs [d, d']) : ∃ v v', vs = [v, v'] ∧ VRp K Dm M H v d ∧ VRp K Dm M H v' d' := by
  cases h with | cons h r => cases r with | cons h' r => cases r; exact ⟨_, _, rfl, h, h'⟩
/-- what a built-in's rule must answer -/
def BiOk (X : Cx) (b : Bi) (r : List V → Hp → VK → Prop) : Prop := ∀ {w : Wld} {C : Fc} {e : En} {ad : Nat → Addr} {s : w.T} {σ : L2.St} {H2 : Hp} {ds : List D} {d : D} {vs : List V} {Q : VK}, Rel w X.K C e ad s σ H2 →
    VRpA X.K C.Dm (mask (Os C e ad) H2) H2 vs ds → biD b ds = some d → Fin w X.K C e ad s H2 d Q → r vs H2 Q
theorem s_biB {b : Bi} {r : List V → Hp → VK → Prop} {x : Str} {id : String} {a : Expr} {es : List Expr} {p pos : Pos} {ms : MVs} (ok : BiOk X b r) (hc : CallR X (.builtin id) r) (hg : Gl X x) (hm : X.mg x = none) (hv : bootBuiltins x = some (.builtin id)) (ha : PA X (a :: es) (RVs w X XE W (denVs F ms)))
    (hn : x ≠ "__name__") (hdb : (x == ("__debug__" : Str)) = false) (he : starEach (a :: es) X.env = (false, eval a X.env) :: starEach es X.env) (hpl : (backTo pos (starEach es X.env)).any (·.1) = false) : PE X (.Call (.Name x p) (a :: es) [] pos) (RE w X XE W (denE F (.bi b ms))) :=
  (pe_callB hc hg hm hv ha hn hdb he hpl).imp fun σ H Q q => by
    rw [denE_bi] at q
    exact rd_one q fun R z _ _ h => lift_ok h fun d ed q => ok R z ed q
theorem s_biT {b : Bi} {r : List V → Hp → VK → Prop} {x : Str} {T : String} {a : Expr} {es : List Expr} {p pos : Pos} {ms : MVs} (ok : BiOk X b r) (hc : CallR X (.type T) r) (hg : Gl X x) (hm : X.mg x = none) (hv : bootBuiltins x = some (.type T)) (ha : PA X (a :: es) (RVs w X XE W (denVs F ms)))
    (hn : x ≠ "__name__") (hdb : (x == ("__debug__" : Str)) = false) (he : starEach (a :: es) X.env = (false, eval a X.env) :: starEach es X.env) (hpl : (backTo pos (starEach es X.env)).any (·.1) = false) : PE X (.Call (.Name x p) (a :: es) [] pos) (RE w X XE W (denE F (.bi b ms))) :=
  (pe_callTy hc hg hm hv ha hn hdb he hpl).imp fun σ H Q q => by
    rw [denE_bi] at q
    exact rd_one q fun R z _ _ h => lift_ok h fun d ed q => ok R z ed q
/-! #### one by one -/
def rLenA (K : PySem.W.Frag) : List V → Hp → VK → Prop := fun xs H Q => (∃ x n, xs = [x] ∧ LenV K x H n ∧ Q (.int n) H) ∨ ∃ a kvs, xs = [.ref a] ∧ Rd H a (.dK kvs) ∧ Q (.int kvs.length) H
theorem call_lenA : CallR X (.builtin "len") (rLenA X.K) := CallR.or call_len fun pins s σ H xs us Q I r h => by
  obtain ⟨a, kvs, rfl, ha, q⟩ := h
  obtain ⟨u, rfl, ru⟩ := vals1 r
  cases ru
  exact d_len I ha fun t s' I' => ⟨.int kvs.length, H, I', ⟨t, rfl⟩, q⟩
theorem ok_len : BiOk X .len (rLenA X.K) := fun {w C e ad s σ H2 ds d vs Q} R z h q => by
  unfold biD at h
  split at h <;> first | (rename_i hb; cases hb; done) | skip
  all_goals first | cases h | skip
  · obtain ⟨v, rfl, y⟩ := z.one
    obtain ⟨a, vs, rfl, ha, ra⟩ := y.tupv
    refine .inl ⟨_, vs.length, rfl, .inr ⟨vs, .inl (.inl (mask_le.tup ha)), rfl⟩, ?_⟩
    rw [ra.length]
    exact q _ _ (.refl R) (.int _)
  · obtain ⟨v, rfl, y⟩ := z.one
    obtain ⟨a, vs, rfl, ha, ra⟩ := y.lstv
    refine .inl ⟨_, vs.length, rfl, .inl ⟨vs, .inl (.inl ha), rfl⟩, ?_⟩
    rw [ra.length]
    exact q _ _ (.refl R) (.int _)
  · obtain ⟨v, rfl, y⟩ := z.one
    obtain ⟨a, vs, rfl, hl, ha, ra⟩ := y.dkv
    refine .inr ⟨_, _, rfl, ha, ?_⟩
    rw [List.length_zip, ← hl, Nat.min_self]
    exact q _ _ (.refl R) (.int _)
  · obtain ⟨v, rfl, y⟩ := z.one
    cases y with
    | rp y => cases y
    | scr n h => exact .inl ⟨_, _, rfl, .inl ⟨_, h, rfl⟩, q _ _ (.refl R) (.int _)⟩
theorem bools_v {K : PySem.W.Frag} {M : Hp} : ∀ {vs : List V} {ds : List D} {bs : List Bool}, RpA K M vs ds → bools ds = some bs → vs = bs.map V.bl
  | _, _, bs, .nil, h => by simp [bools] at h; subst h; rfl
  | _, _, bs, .cons (d := d) (ds := ds) h0 r, h => by
    cases d with
    | bl b =>
      simp only [bools] at h
      cases hq : bools ds with
      | none => rw [hq] at h; cases h
      | some cs =>
        rw [hq] at h
        cases h
        rw [h0.blv, bools_v r hq]
        rfl
    | _ => simp [bools] at h
theorem ints_v {K : PySem.W.Frag} {M : Hp} : ∀ {vs : List V} {ds : List D} {bs : List Int}, RpA K M vs ds → intsOf ds = some bs → vs = bs.map V.int
  | _, _, bs, .nil, h => by simp [intsOf] at h; subst h; rfl
  | _, _, bs, .cons (d := d) (ds := ds) h0 r, h => by
    cases d with
    | int b =>
      simp only [intsOf] at h
      cases hq : intsOf ds with
      | none => rw [hq] at h; cases h
      | some cs =>
        rw [hq] at h
        cases h
        rw [h0.intv, ints_v r hq]
        rfl
    | _ => simp [intsOf] at h
theorem ok_all : BiOk X .all (rAll X.K) := fun {w C e ad s σ H2 ds d vs Q} R z h q => by
  match ds, z, h with
  | [.lst xs], z, h =>
    simp only [biD] at h
    cases hb : bools xs with
    | none => rw [hb] at h; cases h
    | some bs =>
      rw [hb] at h
      cases h
      obtain ⟨v, rfl, y⟩ := z.one
      obtain ⟨a, vs, rfl, ha, ra⟩ := y.lstv
      have e1 := bools_v ra hb
      subst e1
      exact ⟨a, bs, rfl, .inl (.inl ha), q _ _ (.refl R) (.bl _)⟩
theorem ok_any : BiOk X .any (rAny X.K) := fun {w C e ad s σ H2 ds d vs Q} R z h q => by
  match ds, z, h with
  | [.lst xs], z, h =>
    simp only [biD] at h
    cases hb : bools xs with
    | none => rw [hb] at h; cases h
    | some bs =>
      rw [hb] at h
      cases h
      obtain ⟨v, rfl, y⟩ := z.one
      obtain ⟨a, vs, rfl, ha, ra⟩ := y.lstv
      have e1 := bools_v ra hb
      subst e1
      exact ⟨a, bs, rfl, .inl (.inl ha), q _ _ (.refl R) (.bl _)⟩
theorem ok_sum : BiOk X .sum (rSum X.K) := fun {w C e ad s σ H2 ds d vs Q} R z h q => by
  match ds, z, h with
  | [.lst xs], z, h =>
    simp only [biD] at h
    cases hb : intsOf xs with
    | none => rw [hb] at h; cases h
    | some bs =>
      rw [hb] at h
      cases h
      obtain ⟨v, rfl, y⟩ := z.one
      obtain ⟨a, vs, rfl, ha, ra⟩ := y.lstv
      have e1 := ints_v ra hb
      subst e1
      exact ⟨a, bs, rfl, .inl (.inl ha), q _ _ (.refl R) (.int _)⟩
theorem ok_min : BiOk X .min (fun xs H Q => ∃ i j, xs = [.int i, .int j] ∧ Q (.int (if j < i then j else i)) H) := fun {w C e ad s σ H2 ds d vs Q} R z h q => by
  match ds, z, h with
  | [.int i, .int j], z, h =>
    cases h
    obtain ⟨v, u, rfl, z1, z2⟩ := z.two
    rw [z1.intv, z2.intv]
    exact ⟨i, j, rfl, q _ _ (.refl R) (.int _)⟩
theorem ok_max : BiOk X .max (fun xs H Q => ∃ i j, xs = [.int i, .int j] ∧ Q (.int (if j > i then j else i)) H) := fun {w C e ad s σ H2 ds d vs Q} R z h q => by
  match ds, z, h with
  | [.int i, .int j], z, h =>
    cases h
    obtain ⟨v, u, rfl, z1, z2⟩ := z.two
    rw [z1.intv, z2.intv]
    exact ⟨i, j, rfl, q _ _ (.refl R) (.int _)⟩
theorem ok_abs : BiOk X .abs (fun xs H Q => ∃ i, xs = [.int i] ∧ Q (.int (if i < 0 then -i else i)) H) := fun {w C e ad s σ H2 ds d vs Q} R z h q => by
  match ds, z, h with
  | [.int i], z, h =>
    cases h
    obtain ⟨v, rfl, z1⟩ := z.one
    rw [z1.intv]
    exact ⟨i, rfl, q _ _ (.refl R) (.int _)⟩
theorem ok_int : BiOk X .int (fun xs H Q => (∃ i, xs = [.int i] ∧ Q (.int i) H) ∨ ∃ k, xs = [.bl k] ∧ Q (.int (if k then 1 else 0)) H) := fun {w C e ad s σ H2 ds d vs Q} R z h q => by
  match ds, z, h with
  | [.int i], z, h =>
    cases h
    obtain ⟨v, rfl, z1⟩ := z.one
    rw [z1.intv]
    exact .inl ⟨i, rfl, q _ _ (.refl R) (.int _)⟩
  | [.bl i], z, h =>
    cases h
    obtain ⟨v, rfl, z1⟩ := z.one
    rw [z1.blv]
    exact .inr ⟨i, rfl, q _ _ (.refl R) (.int _)⟩
theorem ok_tupOf : BiOk X .tupOf (fun xs H Q => ∃ p ys, xs = [.ref p] ∧ ((SqL X.K H p ys ∧ ∀ l, H l = none → Q (.ref l) (upd H l (.tup ys))) ∨ (SqT X.K H p ys ∧ Q (.ref p) H))) := fun {w C e ad s σ H2 ds d vs Q} R z h q => by
  match ds, z, h with
  | [.lst xs], z, h =>
    cases h
    obtain ⟨v, rfl, y⟩ := z.one
    obtain ⟨a, vs, rfl, ha, ra⟩ := y.lstv
    exact ⟨a, vs, rfl, .inl ⟨.inl (.inl ha), fun l n => q _ _ (.new R n) (R.newTup n ra)⟩⟩
  | [.tup xs], z, h =>
    cases h
    obtain ⟨v, rfl, y⟩ := z.one
    obtain ⟨a, vs, rfl, ha, ra⟩ := y.tupv
    exact ⟨a, vs, rfl, .inr ⟨.inl (.inl (mask_le.tup ha)), q _ _ (.refl R) (.tup ha ra)⟩⟩
/-- list(..), dict(..): new ones -/
theorem s_listOf {x : Str} {a : Expr} {p pos : Pos} {m : MV} (hg : Gl X x) (hm : X.mg x = none) (hv : bootBuiltins x = some (.type "list")) (ha : PA X [a] (RVs w X XE W (denVs F (.cons m .nil))))
    (hn : x ≠ "__name__") (hdb : (x == ("__debug__" : Str)) = false) (he : starEach [a] X.env = (false, eval a X.env) :: starEach [] X.env) (hpl : (backTo pos (starEach [] X.env)).any (·.1) = false) : PE X (.Call (.Name x p) [a] [] pos) (RF w X XE W (denE F (.bi .listOf (.cons m .nil)))) :=
  (pe_callTy call_list_of hg hm hv ha hn hdb he hpl).imp fun σ H Q q => by
    rw [denE_bi] at q
    refine rd_one q fun {C e ad s2 ds vs H2} R z _ ff h => lift_ok h fun d ed q => ?_
    match ds, z, ed with
    | [.lst xs], z, ed =>
      cases ed
      obtain ⟨v, rfl, y⟩ := VRpA.one z
      obtain ⟨a, vs, rfl, ha, ra⟩ := VRp.lstv y
      exact ⟨a, vs, rfl, .inl (.inl (.inl ha)), fun l n => q _ _ (.new R n) ⟨l, rfl, ff l n, R.newLst n ra⟩⟩
    | [.tup xs], z, ed =>
      cases ed
      obtain ⟨v, rfl, y⟩ := VRpA.one z
      obtain ⟨a, vs, rfl, ha, ra⟩ := VRp.tupv y
      exact ⟨a, vs, rfl, .inr (.inl (.inl (mask_le.tup ha))), fun l n => q _ _ (.new R n) ⟨l, rfl, ff l n, R.newLst n ra⟩⟩
theorem call_dict_copy : CallR X (.type "dict") (fun xs H Q => ∃ a kvs, xs = [.ref a] ∧ Rd H a (.dK kvs) ∧ ∀ p, H p = none → Q (.ref p) (upd H p (.dK kvs))) := fun pins s σ H xs us Q I r h => by
  obtain ⟨a, kvs, rfl, ha, q⟩ := h
  obtain ⟨u, rfl, ru⟩ := vals1 r
  cases ru
  exact d_copyOf I ha fun p s' n I' => ⟨.ref p, _, I', rfl, q p n⟩
theorem s_dictOf {x : Str} {a : Expr} {p pos : Pos} {m : MV} (hg : Gl X x) (hm : X.mg x = none) (hv : bootBuiltins x = some (.type "dict")) (ha : PA X [a] (RVs w X XE W (denVs F (.cons m .nil))))
    (hn : x ≠ "__name__") (hdb : (x == ("__debug__" : Str)) = false) (he : starEach [a] X.env = (false, eval a X.env) :: starEach [] X.env) (hpl : (backTo pos (starEach [] X.env)).any (·.1) = false) : PE X (.Call (.Name x p) [a] [] pos) (RF w X XE W (denE F (.bi .dictOf (.cons m .nil)))) :=
  (pe_callTy call_dict_copy hg hm hv ha hn hdb he hpl).imp fun σ H Q q => by
    rw [denE_bi] at q
    refine rd_one q fun {C e ad s2 ds vs H2} R z _ ff h => lift_ok h fun d ed q => ?_
    match ds, z, ed with
    | [.dk ks xs], z, ed =>
      cases ed
      obtain ⟨v, rfl, y⟩ := VRpA.one z
      obtain ⟨a, vs, rfl, hl, ha, ra⟩ := VRp.dkv y
      exact ⟨a, _, rfl, ha, fun l n => q _ _ (.new R n) ⟨l, rfl, ff l n, .dk hl upd_same (ra.le (mask_more n))⟩⟩
/-! #### isinstance -/
def Ty.name : Ty → String
  | .int => "int"
  | .bool => "bool"
  | .str => "str"
  | .tuple => "tuple"
  | .list => "list"
  | .dict => "dict"
def tyOfD : D → String
  | .non => "NoneType"
  | .bl _ => "bool"
  | .int _ => "int"
  | .str _ => "str"
  | .tup _ => "tuple"
  | .lst _ => "list"
  | .dk _ _ => "dict"
  | .dt _ _ => "dict"
  | .scr _ => "list"
theorem kit_isTy (t : Ty) (d : D) (h : plainD d = true) : kitB (tyOfD d) t.name = some (isTy t d) := by
  cases d with
  | scr n => cases h
  | dt _ _ => cases h
  | _ => cases t <;> (simp only [tyOfD, Ty.name, isTy]; decide +kernel)
theorem tyX_v {K : PySem.W.Frag} {H : Hp} {O Dm : Addr → Prop} {v : V} {d : D} (z : VRp K Dm (mask O H) H v d) (h : plainD d = true) : TyX K H v (.type (tyOfD d)) := by
  cases z with
  | rp z =>
    cases z with
    | non => exact .base .non
    | bl b => exact .base (.bl b)
    | int b => exact .base (.int b)
    | str b => exact .base (.str b)
    | tup e _ => exact .base (.tup (mask_le.tup e))
    | lst e _ => exact .base (.lst (mask_le.lst e))
    | dk _ e _ =>
      rcases mask_le.rd e rfl with e | ⟨o, e⟩
      · exact .base (.dK e)
      · exact .fDict e
    | dt _ _ _ => cases h
  | lst _ e _ => exact .base (.lst e)
  | dk _ _ e _ =>
    rcases e with e | ⟨o, e⟩
    · exact .base (.dK e)
    · exact .fDict e
  | dt _ _ _ _ => cases h
  | scr _ _ => cases h
theorem s_isi {t : Ty} {x y : Str} {a : Expr} {p p2 pos : Pos} {m : MV} (hg : Gl X x) (hm : X.mg x = none) (hv : bootBuiltins x = some (.builtin "isinstance")) (hg2 : Gl X y) (hm2 : X.mg y = none) (hv2 : bootBuiltins y = some (.type t.name)) (ha : PE X a (RV w X XE W (denV F m)))
    (hn : x ≠ "__name__") (hdb : (x == ("__debug__" : Str)) = false) (hn2 : y ≠ "__name__") (hdb2 : (y == ("__debug__" : Str)) = false) (he : starEach [a, .Name y p2] X.env = (false, eval a X.env) :: starEach [.Name y p2] X.env) (hpl : (backTo pos (starEach [.Name y p2] X.env)).any (·.1) = false) :
    PE X (.Call (.Name x p) [a, .Name y p2] [] pos) (RE w X XE W (denE F (.bi (.isi t) (.cons m .nil)))) :=
  (pe_callB call_isi hg hm hv (pa_cons ha (pa_cons (pe_bltn hg2 hm2 hv2 (v := .ty t.name) rfl hn2 hdb2) pa_nil rfl) he) hn hdb he hpl).imp fun σ H Q q => by
    rw [denE_bi] at q
    have q2 : rd w X.K XE W (ZE X.K) (fun e s => (denV F m e s).bind fun x s1 => Rs.lift (biD (.isi t) [x]) s1) σ H Q := by
      have e1 : (fun e s => (denVs F (.cons m .nil) e s).bind fun xs s1 => Rs.lift (biD (.isi t) xs) s1) = fun e s => (denV F m e s).bind fun x s1 => Rs.lift (biD (.isi t) [x]) s1 := by
        funext e s
        rw [denVs_cons]
        show ((denV F m e s).bind _).bind _ = _
        cases denV F m e s with
        | ok x s1 => simp only [Rs.bind_ok, denVs_nil]
        | _ => rfl
      rw [← e1]
      exact q
    show RV w X XE W (denV F m) σ H _
    refine rd_one q2 fun {C e ad s2 dx x H2} R z _ _ h => lift_ok h fun d ed q => ?_
    show rIsi X.K [x, .ty t.name] H2 Q
    simp only [biD] at ed
    split at ed
    · next hp =>
      cases ed
      exact ⟨x, .ty t.name, .type (tyOfD dx), .type t.name, isTy t dx, rfl, .ty _, tyX_v z hp, kit_ty (kit_isTy t dx hp), q _ _ (.refl R) (.bl _)⟩
    · cases ed
theorem noDict_of {d : PyData} {as : List Addr} (h : d.canLay0 = true) : d.hasDict = true → sysModules ∉ as := PyData.noDict_hsm (PyData.hasDict_of_canLay d h)
/-- repr, with no other repr around -/
theorem call_repr (hgd : X.A.guards = some []) (hu : X.A.units + 65 < cLine) : CallR X (.builtin "repr") (fun xs H Q => ∃ x d, xs = [x] ∧ Dp X.K H x d ∧ SeqAt.shaped d = true ∧ d.showable = true ∧ d.shown.length ≤ sizeLine ∧ Q (.str d.shown) H) := fun pins s σ H xs us Q I r h => by
  obtain ⟨x, d, rfl, hd, hs, hw, hz, q⟩ := h
  obtain ⟨u, rfl, ru⟩ := vals1 r
  have hc := SeqAt.canLay_of_shaped hs
  have hdp := SeqAt.depth_of_shaped hs
  obtain ⟨as, rr⟩ := Dp.reads I d x u hd ru
  have fin : ∀ h' u' tk, (∀ b o, s.heap.get? b = some o → h'.get? b = some o) → EP X pins σ Q (.str d.shown u') { s with heap := h', toks := tk } := fun h' u' tk k => ⟨.str d.shown, H, I.kept k, ⟨u', rfl⟩, q⟩
  cases hd with
  | non => cases ru; exact PySem.P.repr_of_none ⟨.str "None", H, I.tok _, ⟨_, rfl⟩, q⟩
  | bl b => cases ru; exact PySem.P.repr_of_bool ⟨.str (if b then "True" else "False"), H, I.tok _, ⟨_, rfl⟩, q⟩
  | int i =>
    obtain ⟨t, rfl⟩ := ru
    have hl : i.natAbs.log2 < 1920 := by simpa [PyData.showable] using hw
    exact PySem.P.repr_of_int hl ⟨.str (toString i), H, I.tok _, ⟨_, rfl⟩, q⟩
  | str y =>
    obtain ⟨t, rfl⟩ := ru
    exact PySem.P.repr_of_str ⟨.str (reprText y), H, I.tok _, ⟨_, rfl⟩, q⟩ (by simpa [PyData.shown] using hz)
  | lst hh hr =>
    cases ru
    exact repr_of_reads' rr hw (noDict_of hc) hgd (by omega) (fun _ _ e => e) fin hz
  | tup hh hr =>
    cases ru
    exact repr_of_reads' rr hw (noDict_of hc) hgd (by omega) (fun _ _ e => e) fin hz
theorem ok_repr : BiOk X .repr (fun xs H Q => ∃ x d, xs = [x] ∧ Dp X.K H x d ∧ SeqAt.shaped d = true ∧ d.showable = true ∧ d.shown.length ≤ sizeLine ∧ Q (.str d.shown) H) := fun {w C e ad s σ H2 ds d vs Q} R z h q => by
  match ds, z, h with
  | [x], z, h =>
    simp only [biD, reprD] at h
    split at h
    · next hc =>
      simp only [Bool.and_eq_true, decide_eq_true_eq] at hc
      cases h
      obtain ⟨v, rfl, y⟩ := z.one
      exact ⟨v, toPy x, rfl, (y.full hc.1.1).dps hc.1.1, hc.1.1, hc.1.2, hc.2, q _ _ (.refl R) (.str _)⟩
    · cases h
end
end Rf
/-! Reflection layer, part 10: calls. -/
namespace Rf
open PySem PySem.Spec PyProof.Rows L2

/-- a def keeps its promise where no repr runs -/
structure FnG (P : Program) (w : World) (K : PySem.W.Frag) (mg : Str → Option Value) (base : Heap) (CX : CXT) (k : Nat) (f : Addr) (fd : FuncData) (ps : List Str) (sp : Sp) : Prop where
  len : ∀ vs H Q E, sp vs H Q E → vs.length = ps.length
  run : ∀ (A : Around) (outer : List Env) (s : Shared) (H : Hp) (args : Args) (us : List Value) (vs : List V) (Q : VK) (E : XK), A.guards = some [] → Room k A → Env0 P w K mg base A outer s H → BindsTo s fd args (ps.zip us) → Vals vs us → sp vs H Q E →
    codeAny (model P w) A (.call (.ref f) args) (CR CX outer P w H s Q E) s
section
variable {P : Program} {wd : World} {K : PySem.W.Frag} {mg : Str → Option Value} {base : Heap}
theorem FnG.mono {CX : CXT} {j k : Nat} {f : Addr} {fd : FuncData} {ps : List Str} {sp : Sp} (F : FnG P wd K mg base CX j f fd ps sp) (h : j ≤ k) : FnG P wd K mg base CX k f fd ps sp :=
  ⟨F.len, fun A outer s H args us vs Q E g hr => F.run A outer s H args us vs Q E g (hr.mono h)⟩
theorem FnG.of {CX : CXT} {k : Nat} {f : Addr} {fd : FuncData} {ps : List Str} {sp : Sp} (F : FnOk P wd K mg base CX k f fd ps sp) : FnG P wd K mg base CX k f fd ps sp :=
  ⟨F.len, fun A outer s H args us vs Q E _ hr => F.run A outer s H args us vs Q E hr⟩
/-- a def's body, walked where no repr runs. The kit's rule for FnOk is used at a promise that also says so -/
theorem fnG_of {CX : CXT} {N ps : List Str} {k : Nat} {sp : Sp} {x qual : Str} {params : Arguments} {body : List Stmt} {scope : Scope} {dvs : List V} {kws : List (Str × V)} {f : Addr} {fd : FuncData} (F : FunD K x qual params body scope dvs kws f fd) (S : FnScope N ps scope) (len : ∀ vs H Q E, sp vs H Q E → vs.length = ps.length)
    (hbody : ∀ (cdv : Value) (A : Around) (outer : List Env) (s : Shared) (H : Hp) (vs : List V) (Q : VK) (E : XK), A.guards = some [] → Room k (A.deeper (envOfC qual scope s.heap.objs.size f cdv)) → sp vs H Q E →
      ∃ t, PSs (cxOf CX P wd K mg base N qual scope f cdv A outer s H E) body t ∧ t { nx := fun _ H' => Q .non H', rt := Q } (start N vs) H) : FnG P wd K mg base CX (k + 1) f fd ps sp := by
  refine ⟨len, fun A outer s H args us vs Q E g hr e0 hb r hsp => ?_⟩
  obtain ⟨oc, od, dV, kV, doc, pm, an, cdv, ct, osl, rfl, lk, hcd, _, _⟩ := F.ex
  have hl := len _ _ _ _ hsp
  have KX : K.In s.heap := e0.mod.kin.keeps fun b o e => (e0.bs b o e).1
  have lim : s.heap.NoLimit := e0.mod.nolimit.keeps fun b o e => (e0.bs b o e).1
  have hkind : ∀ y ∈ ps.zip us, scope.names.lookup y.1 = some .local ∨ (scope.names.lookup y.1 = some .cell ∧ ((cellsFrom (s.heap.objs.size + 1) scope.names []).lookup y.1).isSome = true) := by
    rintro ⟨n, v⟩ hy
    rcases S.par n (List.of_mem_zip hy).1 with q | q
    · exact Or.inl q
    · exact Or.inr ⟨q, PySem.W.cellsFrom_some _ _ _ (Or.inl q)⟩
  refine codeAny_call_function hr.depth (KX _ _ lk) rfl S.co S.gen rfl (PySem.W.codeRec_of KX hcd) (hb _ _ _ _ ?_)
  refine wpAny_newFunctionEnv_cells S.kind hkind fun env he s1 x => ?_
  subst he
  refine ⟨lim.keeps x.toInCall.keep, codeAny_func ?_⟩
  obtain ⟨t, ht, hq⟩ := hbody cdv A outer s H vs Q E g (hr.deeper _) hsp
  have I : Inv (cxOf CX P wd K mg base N qual scope f cdv A outer s H E) [] (start N vs) H s1 := inv_start S hr.hd e0 hl r x
  have fin : ∀ {σ' : L2.St} {H' : Hp} {v : V} {u : Value} {s' : Shared}, Inv (cxOf CX P wd K mg base N qual scope f cdv A outer s H E) [] σ' H' s' → RelV v u → Q v H' → CE outer P wd H s Q u s' := by
    intro σ' H' v u s' J rv q
    exact ⟨v, H', J.os, J.bare, J.base, J.hok, rv, q⟩
  refine wpAny_mono (ht.run [] s1 (start N vs) H _ I hq) (fun fl s' hs => ?_) fun e s' hs => hs
  match fl, hs with
  | .ret u, hs => obtain ⟨v, σ', H', J, rv, q⟩ := hs; exact fin J rv q
  | .next, hs => obtain ⟨σ', H', J, q⟩ := hs; exact fin (v := V.non) (u := Value.none) J rfl q
  | .brk, hs => obtain ⟨_, _, _, q⟩ := hs; exact q.elim
  | .cont, hs => obtain ⟨_, _, _, q⟩ := hs; exact q.elim
end
section
variable {X : Cx} {CX : CXT} {k : Nat} {f : Addr} {fd : FuncData} {ps ks : List Str} {sp : Sp} {E : L2.St → XK} {x : Str} {p pos : Pos} {e : Expr} {es : List Expr} {kws : List Keyword} {t tk : TA}
/-- the callee runs; us, binding, values: in the parameters' order -/
theorem run_G {pins : List (Addr × Obj)} {σ : L2.St} {H : Hp} {s : Shared} {Q : VK} {args : Args} {us : List Value} {vs : List V} (F : FnG X.prog X.w X.K X.mg X.base CX k f fd ps sp) (g : X.A.guards = some []) (hr : Room k X.A) (hb : BindsTo s fd args (ps.zip us)) (hx : PassesAt CX X σ (E σ))
    (I : Inv X pins σ H s) (r : Vals vs us) (h : sp vs H Q (E σ)) : codeAny (model X.prog X.w) X.A (.call (.ref f) args) (fun r s' => match r with
      | .ok (.ret u) => EP X pins σ Q u s'
      | .ok _ => False
      | .error e => X.xe e s') s :=
  codeAny_mono (F.run X.A X.stack s H args us vs Q (E σ) g hr I.env0 hb r h) fun rr s' hq => by
    match rr, hq with
    | .error er, hq => exact hx pins H s er s' I hq
    | .ok (.ret u), hq => exact I.after hq
    | .ok .next, hq => exact hq.elim
    | .ok .brk, hq => exact hq.elim
    | .ok .cont, hq => exact hq.elim
theorem call_of {M : Model} {A : Around} {s : Shared} {fv : Value} {us : List Value} {kw : List (Str × Value)} {Q : Value → Shared → Prop} {E : Value → Shared → Prop} (h : codeAny M A (.call fv ⟨us, kw⟩) (fun r s' => match r with
      | .ok (.ret u) => Q u s'
      | .ok _ => False
      | .error e => E e s') s) : wpAny M A (call fv us kw) Q E s := wpAny_call (codeAny_mono h fun r s' q => by
  match r, q with
  | .error e, q => exact q
  | .ok (.ret u), q => exact q)
theorem pe_callG (F : FnG X.prog X.w X.K X.mg X.base CX k f fd ps sp) (g : X.A.guards = some []) (hr : Room k X.A) (hg : Gl X x) (hm : X.mg x = some (.ref f)) (hk : PySem.W.keepIn X.K (.ref f) = true) (hb : Binds X.K fd ps []) (hx : ∀ σ, PassesAt CX X σ (E σ))
    (ha : PA X (e :: es) t) (hdb : (x == ("__debug__" : Str)) = false) (he : starEach (e :: es) X.env = (false, eval e X.env) :: starEach es X.env) (hpl : (backTo pos (starEach es X.env)).any (·.1) = false) :
    PE X (.Call (.Name x p) (e :: es) [] pos) (tCallS sp E t) := by
  refine ⟨fun pins s σ H Q I h => wpAny_Call_Name_kw (ld_glob I hg hm ?_ hdb)⟩
  refine PySem.W.callWith_K (h₀ := X.base) I.ok.mod.kin hk (thn (ha.run pos pins s σ H _ I h) fun us s1 ⟨vs, H1, I1, r, q⟩ => ⟨I1.kIn, ?_⟩) he hpl
  have b := hb s1 us I1.kIn (by rw [List.append_nil, ← r.length]; exact F.len _ _ _ _ q)
  rw [List.append_nil] at b
  exact call_of (run_G F g hr b (hx σ) I1 r q)
theorem pe_call0G (F : FnG X.prog X.w X.K X.mg X.base CX k f fd ps sp) (g : X.A.guards = some []) (hr : Room k X.A) (hg : Gl X x) (hm : X.mg x = some (.ref f)) (hk : PySem.W.keepIn X.K (.ref f) = true) (hb : Binds X.K fd ps []) (hx : ∀ σ, PassesAt CX X σ (E σ))
    (hdb : (x == ("__debug__" : Str)) = false) : PE X (.Call (.Name x p) [] [] pos) (tCallS sp E tNil) := by
  refine ⟨fun pins s σ H Q I h => wpAny_Call_Name_kw (ld_glob I hg hm ?_ hdb)⟩
  have h' : sp [] H Q (E σ) := h
  have b := hb s [] I.kIn (F.len _ _ _ _ h')
  exact PySem.W.callWith_K0 I.kIn hk (call_of (run_G (us := []) F g hr b (hx σ) I .nil h'))
/-- f(k = v, ..), keywords alone: gV puts them in the parameters' order -/
structure KBd (K : PySem.W.Frag) (fd : FuncData) (ps ks : List Str) (g : List Value → List Value) (gV : List V → List V) : Prop where
  to : ∀ (s : Shared) (ws : List Value), K.In s.heap → ws.length = ks.length → BindsTo s fd ⟨[], ks.zip ws⟩ (ps.zip (g ws))
  rel : ∀ {zs : List V} {ws : List Value}, Vals zs ws → Vals (gV zs) (g ws)
def tCallKS (n : Nat) (sp : Sp) (gV : List V → List V) (E : L2.St → XK) (tk : TA) : TE := fun σ H Q => tk σ H fun zs H1 => zs.length = n ∧ sp (gV zs) H1 Q (E σ)
theorem pe_callKG {g : List Value → List Value} {gV : List V → List V} (F : FnG X.prog X.w X.K X.mg X.base CX k f fd ps sp) (gd : X.A.guards = some []) (hr : Room k X.A) (hg : Gl X x) (hm : X.mg x = some (.ref f)) (hk : PySem.W.keepIn X.K (.ref f) = true) (hb : KBd X.K fd ps ks g gV) (hx : ∀ σ, PassesAt CX X σ (E σ))
    (hkw : PK X kws tk) (hall : (backToKw pos (keywordEach kws X.env)).all (·.1.isSome) = true) (hks : (backToKw pos (keywordEach kws X.env)).filterMap (·.1) = ks)
    (hdb : (x == ("__debug__" : Str)) = false) (hpl : (backToKw pos (keywordEach kws X.env)).any (·.1.isNone) = false) (hne : kws ≠ []) :
    PE X (.Call (.Name x p) [] kws pos) (tCallKS ks.length sp gV E tk) := by
  refine ⟨fun pins s σ H Q I h => wpAny_Call_Name_kw (ld_glob I hg hm ?_ hdb)⟩
  refine PySem.W.callWith_KW0 (h₀ := X.base) I.ok.mod.kin hk hall (thn (hkw.run pos pins s σ H _ I h) fun ws s1 ⟨zs, H1, I1, rz, l, q⟩ => ⟨I1.kIn, ?_⟩) ?_
  · rw [hks]
    exact call_of (run_G F gd hr (hb.to s1 ws I1.kIn (rz.length.symm.trans l)) (hx σ) I1 (hb.rel rz) q)
  · exact hpl
end

/-! ### a def's promise, by its meaning -/
inductive ArgR (K : PySem.W.Frag) (Dm : Addr → Prop) (dr : Addr) (M H : Hp) : V → Arg → Prop
  | dat {v : V} {d : D} : Rp K M v d → ArgR K Dm dr M H v (.dat d)
  | bor {a : Addr} {d : D} : VRp K Dm M H (.ref a) d → ArgR K Dm dr M H (.ref a) (.bor d)
  | drw : ArgR K Dm dr M H (.ref dr) .drw
inductive ArgsR (K : PySem.W.Frag) (Dm : Addr → Prop) (dr : Addr) (M H : Hp) : List V → List Arg → Prop
  | nil : ArgsR K Dm dr M H [] []
  | cons {v : V} {vs : List V} {a : Arg} {as : List Arg} : ArgR K Dm dr M H v a → ArgsR K Dm dr M H vs as → ArgsR K Dm dr M H (v :: vs) (a :: as)
theorem ArgsR.length {K : PySem.W.Frag} {Dm : Addr → Prop} {dr : Addr} {M H : Hp} : ∀ {vs : List V} {as : List Arg}, ArgsR K Dm dr M H vs as → vs.length = as.length
  | _, _, .nil => rfl
  | _, _, .cons _ r => by simp [ArgsR.length r]
theorem ArgR.le {K : PySem.W.Frag} {Dm : Addr → Prop} {dr : Addr} {M H M' H' : Hp} {v : V} {a : Arg} (h : ArgR K Dm dr M H v a) (l : Le M M') (k : Kp Dm H H') : ArgR K Dm dr M' H' v a := by
  cases h with
  | dat h => exact .dat (h.le l)
  | bor h => exact .bor (h.le l k)
  | drw => exact .drw
theorem ArgsR.get {K : PySem.W.Frag} {Dm : Addr → Prop} {dr : Addr} {M H : Hp} : ∀ {vs : List V} {as : List Arg} {i : Nat} {a : Arg}, ArgsR K Dm dr M H vs as → as[i]? = some a → ∃ v, vs[i]? = some v ∧ ArgR K Dm dr M H v a
  | _, _, _, _, .nil, e => by simp at e
  | _, _, 0, _, .cons h _, e => by simp at e; subst e; exact ⟨_, rfl, h⟩
  | _, _, i + 1, a, .cons _ r, e => by
    obtain ⟨v, e1, h⟩ := ArgsR.get (i := i) (a := a) r (by simpa using e)
    exact ⟨v, by simpa using e1, h⟩
/-- called with such arguments, a def does what g tells -/
def spF (w : Wld) (K : PySem.W.Frag) (XE : Er → Value → Option Addr → Hp → Prop) (n : Nat) (g : List Arg → w.T → Rs w.T D) : Sp := fun vs H Q E => vs.length = n ∧ ∃ (C : Fc) (as : List Arg) (s : w.T), C.H0 = H ∧ C.Hb = H ∧ DrawAt w C s H ∧ (∀ a, C.Dm a → C.O0 a) ∧ (∀ a, C.O0 a → ∃ o, H a = some o ∧ NT o) ∧
  ArgsR K C.Dm C.dr (mask C.O0 H) H vs as ∧ match g as s with
    | .ok d s' => ∀ v H', Kp C.Dm H H' → DrawAt w C s' H' → Rp K (mask C.O0 H') v d → Q v H'
    | .err er s' => ∀ cls dx H', Kp C.Dm H H' → DrawAt w C s' H' → XE er cls dx H' → E cls dx H'
    | .stuck => False
section
variable {w : Wld} {X : Cx} {XE : Er → Value → Option Addr → Hp → Prop} {W : WX} {F : Fs w}
def ZAs (K : PySem.W.Frag) : Fc → En → (Nat → Addr) → Hp → Hp → List V → List Arg → Prop := fun C e ad _ H' vs as => ArgsR K C.Dm C.dr (mask (Os C e ad) H') H' vs as
def ZA (K : PySem.W.Frag) : Fc → En → (Nat → Addr) → Hp → Hp → V → Arg → Prop := fun C e ad _ H' v a => ArgR K C.Dm C.dr (mask (Os C e ad) H') H' v a
theorem stab_A {K : PySem.W.Frag} : Stab w K (ZA K) := fun R k z => ArgR.le z (R.le k) k
abbrev RAs (w : Wld) (X : Cx) (XE : Er → Value → Option Addr → Hp → Prop) (W : WX) (f : En → w.T → Rs w.T (List Arg)) : TA := rd w X.K XE W (ZAs X.K) f
abbrev RA (w : Wld) (X : Cx) (XE : Er → Value → Option Addr → Hp → Prop) (W : WX) (f : En → w.T → Rs w.T Arg) : TE := rd w X.K XE W (ZA X.K) f
theorem denA_val (m : ME) : denA F (.val m) = fun e s => (denE F m e s).bind fun x s1 => .ok (.dat x) s1 := by funext e s; simp only [denA]
theorem denA_lend (i : Nat) : denA F (.lend i) = fun e s => .lift (lendS e i) s := by funext e s; simp only [denA]
theorem sa_val {a : Expr} {m : ME} (h : PE X a (RE w X XE W (denE F m))) : PE X a (RA w X XE W (denA F (.val m))) := h.imp fun σ H Q q => by
  rw [denA_val] at q
  exact rd_one q fun R z _ _ h => h _ _ (.refl R) (.dat z)
theorem sa_lend {i : Nat} {x : Str} {pos : Pos} (hN : X.N[i]? = some x) (hv : Vis X.env.scope x) (hd : (x == ("__debug__" : Str)) = false) (hcd : (x == ("__classdict__" : Str)) = false) : PE X (.Name x pos) (RA w X XE W (denA F (.lend i))) :=
  (pe_var hN hv hd hcd).imp fun σ H Q ⟨C, e, ad, s, R, h⟩ => by
    rw [denA_lend] at h
    refine lift_ok h fun a ea q => ?_
    have vw : ∀ d, viewS e i = some d → (∀ v, σ[i]? = some (some v) → VRp X.K C.Dm (mask (Os C e ad) H) H v d → ArgR X.K C.Dm C.dr (mask (Os C e ad) H) H v a) → ∃ v, σ[i]? = some (some v) ∧ Q v H := fun d hd k => by
      obtain ⟨v, e1, z⟩ := R.view hd
      exact ⟨v, e1, q v H (.refl R) (k v e1 z)⟩
    unfold lendS at ea
    split at ea
    · next d hi =>
      cases ea
      obtain ⟨v, e1, r⟩ := R.slots i _ hi
      exact ⟨v, e1, q v H (.refl R) (.dat r)⟩
    · next d hi =>
      cases ea
      exact vw d (by unfold viewS; rw [hi]) fun v e1 z => by
        obtain ⟨e2, _⟩ := R.slots i _ hi
        rw [e1] at e2; cases e2
        exact .bor z
    · next d hi =>
      cases ea
      exact vw d (by unfold viewS; rw [hi]) fun v e1 z => by
        obtain ⟨a, e2, _⟩ := R.slots i _ hi
        rw [e1] at e2; cases e2
        exact .bor z
    · next j hi =>
      split at ea
      · next d hj =>
        cases ea
        exact vw d (by unfold viewS; rw [hi]; simp only [hj]) fun v e1 z => by
          obtain ⟨_, e2⟩ := R.slots i _ hi
          rw [e1] at e2; cases e2
          exact .bor z
      · cases ea
    · next hi =>
      cases ea
      have e1 := R.slots i _ hi
      exact ⟨_, e1, q _ H (.refl R) .drw⟩
    · cases ea
theorem sa_nil : PA X [] (RAs w X XE W (denAs F .nil)) := pa_nil.imp fun σ H Q ⟨C, e, ad, s, R, h⟩ => by
  rw [denAs_nil] at h
  exact h [] H (.refl R) .nil
theorem sa_cons {e : Expr} {es : List Expr} {m : MA} {ms : MAs} (h : PE X e (RA w X XE W (denA F m))) (hs : PA X es (RAs w X XE W (denAs F ms))) (hst : starEach (e :: es) X.env = (false, eval e X.env) :: starEach es X.env) : PA X (e :: es) (RAs w X XE W (denAs F (.cons m ms))) :=
  (pa_cons h hs hst).imp fun σ H Q q => by
    rw [denAs_cons] at q
    exact rd_two stab_A q fun R z1 z2 _ _ h => h _ _ (.refl R) (.cons z1 z2)
/-- keywords' values in a row -/
theorem sk_nil : PK X [] (RAs w X XE W (denAs F .nil)) := ⟨fun pos pins s σ H Q I h => pk_nil.run pos pins s σ H Q I (by
  obtain ⟨C, e, ad, t, R, h⟩ := h
  rw [denAs_nil] at h
  exact h [] H (.refl R) .nil)⟩
theorem sk_cons {e : Expr} {kws : List Keyword} {nm : Option Str} {kpos : Pos} {m : MA} {ms : MAs} (h : PE X e (RA w X XE W (denA F m))) (hs : PK X kws (RAs w X XE W (denAs F ms))) : PK X (⟨nm, e, kpos⟩ :: kws) (RAs w X XE W (denAs F (.cons m ms))) :=
  ⟨fun pos pins s σ H Q I q => (pk_cons h hs).run pos pins s σ H Q I (by
    rw [denAs_cons] at q
    exact rd_two stab_A q fun R z1 z2 _ _ h => h _ _ (.refl R) (.cons z1 z2))⟩
/-- from the frame to the callee -/
theorem call_sp {C : Fc} {e : En} {ad : Nat → Addr} {s : w.T} {σ : L2.St} {H2 : Hp} {as : List Arg} {vs : List V} {n : Nat} {g : List Arg → w.T → Rs w.T D} {Q : VK} (R : Rel w X.K C e ad s σ H2) (z : ArgsR X.K C.Dm C.dr (mask (Os C e ad) H2) H2 vs as) (hn : ∀ as s, g as s ≠ .stuck → as.length = n)
    (h0 : g as s ≠ .stuck) (h1 : ∀ d s', g as s = .ok d s' → ∀ v H', PoE w X.K C e ad H2 s' H' → Rp X.K (mask (Os C e ad) H') v d → Q v H') (h2 : ∀ er s', g as s = .err er s' → ∀ cls dx H', PoE w X.K C e ad H2 s' H' → XE er cls dx H' → W cls dx σ H') : spF w X.K XE n g vs H2 Q (WE W σ) := by
  refine ⟨?_, ⟨H2, H2, Os C e ad, C.Dm, C.dr⟩, as, s, rfl, rfl, R.draw, fun a h => R.dOs h, fun a h => R.odom' h, z, ?_⟩
  · rw [z.length]
    exact hn as s h0
  · cases hg : g as s with
    | ok d s' => exact fun v H' k dr r => h1 d s' hg v H' ⟨k, dr⟩ r
    | err er s' => exact fun cls dx H' k dr r => h2 er s' hg cls dx H' ⟨k, dr⟩ r
    | stuck => exact h0 hg
end
end Rf
/-! Reflection layer, part 11: calls of the law's defs, draws, chains, ranges. -/
namespace Rf
open PySem PySem.Spec PyProof.Rows L2
section
variable {w : Wld} {X : Cx} {XE : Er → Value → Option Addr → Hp → Prop} {W : WX} {F : Fs w}
/-- a def of the law as its caller sees it -/
structure Cal (w : Wld) (X : Cx) (XE : Er → Value → Option Addr → Hp → Prop) (k : Nat) (g : List Arg → w.T → Rs w.T D) (x : Str) where
  f : Addr
  fd : FuncData
  ps : List Str
  mg : X.mg x = some (.ref f)
  kp : PySem.W.keepIn X.K (.ref f) = true
  bd : Binds X.K fd ps []
  ok : FnG X.prog X.w X.K X.mg X.base (L2.CX X.prog X.w) k f fd ps (spF w X.K XE ps.length g)
  ln : ∀ as s, g as s ≠ .stuck → as.length = ps.length
theorem s_call {k i : Nat} {x : Str} {a : Expr} {es : List Expr} {p pos : Pos} {ms : MAs} (c : Cal w X XE k (F i) x) (tk : Takes X W) (gd : X.A.guards = some []) (hr : Room k X.A) (hg : Gl X x) (ha : PA X (a :: es) (RAs w X XE W (denAs F ms)))
    (hdb : (x == ("__debug__" : Str)) = false) (he : starEach (a :: es) X.env = (false, eval a X.env) :: starEach es X.env) (hpl : (backTo pos (starEach es X.env)).any (·.1) = false) : PE X (.Call (.Name x p) (a :: es) [] pos) (RE w X XE W (denE F (.call i ms))) :=
  (pe_callG (E := WE W) c.ok gd hr hg c.mg c.kp c.bd (fun σ => passAt tk σ) ha hdb he hpl).imp fun σ H Q q => by
    rw [denE_call] at q
    refine rd_one q fun {C e ad s2 dx x H2} R z _ _ h => ?_
    cases hq : F i dx s2 with
    | ok d s' => rw [hq] at h; exact call_sp R z c.ln (by rw [hq]; intro z; cases z) (fun d' s'' e v H' p r => by rw [hq] at e; cases e; exact h v H' p r) (fun er s'' e => by rw [hq] at e; cases e)
    | err er s' => rw [hq] at h; exact call_sp R z c.ln (by rw [hq]; intro z; cases z) (fun d' s'' e => by rw [hq] at e; cases e) (fun er s'' e cls dx H' p r => by rw [hq] at e; cases e; exact h cls dx H' p r)
    | stuck => rw [hq] at h; exact h.elim
theorem s_call0 {k i : Nat} {x : Str} {p pos : Pos} (c : Cal w X XE k (F i) x) (tk : Takes X W) (gd : X.A.guards = some []) (hr : Room k X.A) (hg : Gl X x)
    (hdb : (x == ("__debug__" : Str)) = false) : PE X (.Call (.Name x p) [] [] pos) (RE w X XE W (denE F (.call i .nil))) :=
  (pe_call0G (E := WE W) c.ok gd hr hg c.mg c.kp c.bd (fun σ => passAt tk σ) hdb).imp fun σ H Q ⟨C, e, ad, s, R, h⟩ => by
    rw [denE_call] at h
    simp only [denAs_nil, Rs.bind_ok] at h
    cases hq : F i [] s with
    | ok d s' => rw [hq] at h; exact call_sp R .nil c.ln (by rw [hq]; intro z; cases z) (fun d' s'' e v H' p r => by rw [hq] at e; cases e; exact h v H' p r) (fun er s'' e => by rw [hq] at e; cases e)
    | err er s' => rw [hq] at h; exact call_sp R .nil c.ln (by rw [hq]; intro z; cases z) (fun d' s'' e => by rw [hq] at e; cases e) (fun er s'' e cls dx H' p r => by rw [hq] at e; cases e; exact h cls dx H' p r)
    | stuck => rw [hq] at h; exact h.elim
def gVal {α : Type} (js : List Nat) (d : α) (zs : List α) : List α := js.map fun j => (zs[j]?).getD d
theorem gVal_rel (js : List Nat) {zs : List V} {ws : List Value} (r : Vals zs ws) : Vals (gVal js .non zs) (gVal js .none ws) := by
  induction js with
  | nil => exact .nil
  | cons j js ih =>
    refine .cons ?_ ih
    show L2.RelV ((zs[j]?).getD .non) ((ws[j]?).getD .none)
    cases hj : zs[j]? with
    | none => rw [r.none_of hj]; exact rfl
    | some v => obtain ⟨u, e1, r1⟩ := r.get hj; rw [e1]; exact r1
theorem pickA_v {K : PySem.W.Frag} {Dm : Addr → Prop} {dr : Addr} {M H : Hp} {vs : List V} {as : List Arg} (z : ArgsR K Dm dr M H vs as) : ∀ {js : List Nat} {ys : List Arg}, pickA js as = some ys → ArgsR K Dm dr M H (gVal js .non vs) ys
  | [], ys, h => by simp [pickA] at h; subst h; exact .nil
  | j :: js, ys, h => by
    unfold pickA at h
    split at h
    · next a r ha hr =>
      cases h
      obtain ⟨v, e1, q⟩ := z.get ha
      refine .cons ?_ (pickA_v z hr)
      show ArgR K Dm dr M H ((vs[j]?).getD .non) a
      rw [e1]
      exact q
    · cases h
theorem s_callk {k i : Nat} {x : Str} {kws : List Keyword} {p pos : Pos} {ms : MAs} {js : List Nat} {ks : List Str} (c : Cal w X XE k (F i) x) (hb : KBd X.K c.fd c.ps ks (gVal js .none) (gVal js .non)) (hl : ∀ {C e ad H H' vs as}, ZAs X.K C e ad H H' vs as → (∃ s e s', denAs F ms e s = .ok as s') → vs.length = ks.length)
    (tk : Takes X W) (gd : X.A.guards = some []) (hr : Room k X.A) (hg : Gl X x) (ha : PK X kws (RAs w X XE W (denAs F ms))) (hall : (backToKw pos (keywordEach kws X.env)).all (·.1.isSome) = true) (hks : (backToKw pos (keywordEach kws X.env)).filterMap (·.1) = ks)
    (hdb : (x == ("__debug__" : Str)) = false) (hpl : (backToKw pos (keywordEach kws X.env)).any (·.1.isNone) = false) (hne : kws ≠ []) : PE X (.Call (.Name x p) [] kws pos) (RE w X XE W (denE F (.callk i js ms))) :=
  (pe_callKG (E := WE W) c.ok gd hr hg c.mg c.kp hb (fun σ => passAt tk σ) ha hall hks hdb hpl hne).imp fun σ H Q q => by
    rw [denE_callk] at q
    obtain ⟨C, e, ad, s, R, h⟩ := q
    refine ⟨C, e, ad, s, R, ?_⟩
    cases hf : denAs F ms e s with
    | err er s1 => simp only [hf, Rs.bind_err] at h ⊢; exact h
    | stuck => simp only [hf, Rs.bind_stuck] at h
    | ok as s1 =>
      simp only [hf, Rs.bind_ok] at h ⊢
      intro vs H1 p1 z1
      refine ⟨hl z1 ⟨_, _, _, hf⟩, ?_⟩
      cases hp : pickA js as with
      | none => simp only [hp] at h
      | some ys =>
        simp only [hp] at h
        have R1 := R.ext p1.kp p1.dr
        have zz := pickA_v z1 hp
        cases hq : F i ys s1 with
        | ok d s' => simp only [hq] at h; exact call_sp R1 zz c.ln (by rw [hq]; intro z; cases z) (fun d' s'' e v H' p r => by rw [hq] at e; cases e; exact h v H' ⟨p1.kp.trans p.kp, p.dr⟩ r) (fun er s'' e => by rw [hq] at e; cases e)
        | err er s' => simp only [hq] at h; exact call_sp R1 zz c.ln (by rw [hq]; intro z; cases z) (fun d' s'' e => by rw [hq] at e; cases e) (fun er s'' e cls dx H' p r => by rw [hq] at e; cases e; exact h cls dx H' ⟨p1.kp.trans p.kp, p.dr⟩ r)
        | stuck => simp only [hq] at h
/-! ### draws -/
def spTake (w : Wld) : Sp := fun vs H Q _ => ∃ (dr : Addr) (Dm : Addr → Prop) (t t' : w.dw.S) (n r : Int), vs = [.ref dr, .int n] ∧ w.dw.rel dr Dm t H ∧ w.dw.take t n = some (r, t') ∧ ∀ H', Kp Dm H H' → w.dw.rel dr Dm t' H' → Q (.int r) H'
theorem s_take {k j : Nat} {x y : Str} {a : Expr} {p p2 pos : Pos} {m : ME} {f : Addr} {fd : FuncData} {ps : List Str} (ok : FnG X.prog X.w X.K X.mg X.base (L2.CX X.prog X.w) k f fd ps (spTake w)) (mgx : X.mg x = some (.ref f)) (kp : PySem.W.keepIn X.K (.ref f) = true) (bd : Binds X.K fd ps [])
    (tk : Takes X W) (gd : X.A.guards = some []) (hr : Room k X.A) (hg : Gl X x) (hN : X.N[j]? = some y) (hv : Vis X.env.scope y) (hd : (y == ("__debug__" : Str)) = false) (hcd : (y == ("__classdict__" : Str)) = false) (ha : PE X a (RE w X XE W (denE F m)))
    (hdb : (x == ("__debug__" : Str)) = false) (he : starEach [.Name y p2, a] X.env = (false, eval (.Name y p2) X.env) :: starEach [a] X.env) (he2 : starEach [a] X.env = (false, eval a X.env) :: starEach [] X.env) (hpl : (backTo pos (starEach [a] X.env)).any (·.1) = false) :
    PE X (.Call (.Name x p) [.Name y p2, a] [] pos) (RE w X XE W (denE F (.take j m))) :=
  (pe_callG (E := WE W) ok gd hr hg mgx kp bd (fun σ => passAt tk σ) (pa_cons (pe_var hN hv hd hcd) (pa_cons ha pa_nil he2) he) hdb he hpl).imp fun σ H Q ⟨C, e, ad, s, R, h⟩ => by
    rw [denE_take] at h
    split at h
    · next d s' hd =>
      simp only at hd
      split at hd
      · next hj =>
        have e1 := R.slots j _ hj
        refine ⟨_, e1, C, e, ad, s, R, ?_⟩
        cases hf : denE F m e s with
        | err er s1 => simp only [hf, Rs.bind_err] at hd; cases hd
        | stuck => simp only [hf, Rs.bind_stuck] at hd; cases hd
        | ok dx s1 =>
          simp only [hf, Rs.bind_ok] at hd ⊢
          intro v H1 p1 z1
          have R1 := R.ext p1.kp p1.dr
          cases dx with
          | int n =>
            cases s1 with
            | none => simp at hd
            | some t =>
              simp only at hd
              cases ht : w.dw.take t n with
              | none => simp [ht] at hd
              | some rt =>
                obtain ⟨r, t'⟩ := rt
                simp only [ht] at hd
                cases hd
                have ev : v = .int n := Rp.intv z1
                subst ev
                exact ⟨C.dr, C.Dm, t, t', n, r, rfl, R1.draw, ht, fun H' k d => h _ H' ⟨p1.kp.trans k, d⟩ (.int r)⟩
          | _ => simp at hd
      · cases hd
    · next er s' hd =>
      simp only at hd
      split at hd
      · next hj =>
        have e1 := R.slots j _ hj
        refine ⟨_, e1, C, e, ad, s, R, ?_⟩
        cases hf : denE F m e s with
        | err er2 s1 =>
          simp only [hf, Rs.bind_err] at hd ⊢
          cases hd
          exact h
        | stuck => simp only [hf, Rs.bind_stuck] at hd; cases hd
        | ok dx s1 =>
          simp only [hf, Rs.bind_ok] at hd
          cases dx with
          | int n =>
            cases s1 with
            | none => simp at hd
            | some t =>
              simp only at hd
              cases ht : w.dw.take t n with
              | none => simp [ht] at hd
              | some rt => simp [ht] at hd
          | _ => simp at hd
      · cases hd
    · exact h.elim
/-! ### chains of comparisons -/
def chainK (w : Wld) (X : Cx) (o : Op) (r : R2) : Prop := ∀ {C : Fc} {e : En} {ad : Nat → Addr} {s : w.T} {σ : L2.St} {H2 : Hp} {dx dy d : D} {x y : V} {Q : VK}, Rel w X.K C e ad s σ H2 →
    VRp X.K C.Dm (mask (Os C e ad) H2) H2 x dx → VRp X.K C.Dm (mask (Os C e ad) H2) H2 y dy → opD o dx dy = some d → Fin w X.K C e ad s H2 d Q → r x y H2 Q
theorem chain_read {o o' : Op} {op : CmpOp} (ho : cmpOf o = some op) {r r' : R2} (k : chainK w X o r) (k' : chainK w X o' r') {ma mb mc : MV} {σ : L2.St} {H : Hp} {Q : VK} (q : RE w X XE W (denE F (.chain o o' ma mb mc)) σ H Q) :
    tChain r r' (RV w X XE W (denV F ma)) (RV w X XE W (denV F mb)) (RV w X XE W (denV F mc)) σ H Q := by
  rw [denE_chain] at q
  refine rd_two stab_V q fun {C e ad s2 dx dy x y H1 H2} R z1 z2 kp nn h => ?_
  cases h3 : opD o dx dy with
  | none => simp only [h3, Rs.lift_none, Rs.bind_stuck] at h
  | some d =>
    simp only [h3, Rs.lift_some, Rs.bind_ok] at h
    obtain ⟨b, rfl⟩ := cmp_bl ho h3
    refine k R z1 z2 h3 fun v H' p z => ?_
    have ev := Rp.blv z
    subst ev
    have R' := R.ext p.kp p.dr
    refine ⟨b, rfl, ?_⟩
    cases b with
    | false =>
      rw [if_neg Bool.false_ne_true]
      exact h _ _ p (.bl _)
    | true =>
      rw [if_pos rfl]
      simp only at h
      refine ⟨C, e, ad, s2, R', ?_⟩
      cases hc' : denV F mc e s2 with
      | err er s3 =>
        simp only [hc', Rs.bind_err] at h ⊢
        exact fun cls dx H'' p' z' => h cls dx H'' ⟨p.kp.trans p'.kp, p'.dr⟩ z'
      | stuck => simp only [hc', Rs.bind_stuck] at h
      | ok dz s3 =>
        simp only [hc', Rs.bind_ok] at h ⊢
        intro z H4 p4 z4
        have R4 := R'.ext p4.kp p4.dr
        cases ed : opD o' dy dz with
        | none => simp only [ed, Rs.lift_none] at h
        | some d =>
          simp only [ed, Rs.lift_some] at h
          exact k' R4 (VRp.le z2 (R.leH (p.kp.trans p4.kp)) (p.kp.trans p4.kp)) z4 ed fun v H'' p' z' => h v H'' ⟨p.kp.trans (p4.kp.trans p'.kp), p'.dr⟩ z'
theorem s_chain {o o' : Op} {op op' : CmpOp} (ho : cmpOf o = some op) (ho' : cmpOf o' = some op') (hu : X.A.units + 65 < cLine) {a b c : Expr} {pos : Pos} {ma mb mc : MV} (ha : PE X a (RV w X XE W (denV F ma))) (hb : PE X b (RV w X XE W (denV F mb))) (hc : PE X c (RV w X XE W (denV F mc))) (hm : lastMarks [op, op'] [b, c] = false) :
    PE X (.Compare a [op, op'] [b, c] pos) (RE w X XE W (denE F (.chain o o' ma mb mc))) := by
  obtain ⟨r, hr, k⟩ := cmp_rule ho X hu
  obtain ⟨r', hr', k'⟩ := cmp_rule ho' X hu
  exact (pe_chain hr hr' ha hb hc hm).imp fun σ H Q q => chain_read ho k k' q
theorem s_chainT {o o' : Op} {op op' : CmpOp} (ho : cmpOf o = some op) (ho' : cmpOf o' = some op') (hu : X.A.units + 65 < cLine) {a b c : Expr} {pos : Pos} {ma mb mc : MV} (ha : PE X a (RV w X XE W (denV F ma))) (hb : PE X b (RV w X XE W (denV F mb))) (hc : PE X c (RV w X XE W (denV F mc))) (hm : lastMarks [op, op'] [b, c] = false) :
    PT X (.Compare a [op, op'] [b, c] pos) (RT w X XE W (denT F (.chain o o' ma mb mc))) := by
  obtain ⟨r, hr, k⟩ := cmp_rule ho X hu
  obtain ⟨r', hr', k'⟩ := cmp_rule ho' X hu
  refine (pt_chain hr hr' ha hb hc hm).imp fun σ H Q q => chain_read ho k k' (rd_test (fun e s d s' hf => ?_) q)
  rw [denE_chain] at hf
  simp only at hf
  cases h1 : denV F ma e s with
  | err => simp [h1] at hf
  | stuck => simp [h1] at hf
  | ok x s1 =>
    cases h2 : denV F mb e s1 with
    | err => simp [h1, h2] at hf
    | stuck => simp [h1, h2] at hf
    | ok y s2 =>
      simp only [h1, h2, Rs.bind_ok] at hf
      cases h3 : opD o x y with
      | none => simp [h3] at hf
      | some d1 =>
        simp only [h3, Rs.lift_some, Rs.bind_ok] at hf
        split at hf
        · cases h4 : denV F mc e s2 with
          | err => simp [h4] at hf
          | stuck => simp [h4] at hf
          | ok z s3 =>
            simp only [h4, Rs.bind_ok] at hf
            cases h5 : opD o' y z with
            | none => rw [h5] at hf; cases hf
            | some d2 => rw [h5] at hf; cases hf; exact cmp_bl ho' h5
        · cases hf; exact ⟨_, rfl⟩
        · cases hf
/-! ### i in range(a, b) -/
theorem s_inR {neg : Bool} {a b c : Expr} {x : Str} {p pos pos2 : Pos} {ma mb mc : ME} (hg : Gl X x) (hm : X.mg x = none) (hv : bootBuiltins x = some (.type "range")) (ha : PE X a (RE w X XE W (denE F ma))) (hb : PE X b (RE w X XE W (denE F mb))) (hc : PE X c (RE w X XE W (denE F mc)))
    (hn : x ≠ "__name__") (hdb : (x == ("__debug__" : Str)) = false) (he : starEach [b, c] X.env = (false, eval b X.env) :: starEach [c] X.env) (he2 : starEach [c] X.env = (false, eval c X.env) :: starEach [] X.env) (hpl : (backTo pos2 (starEach [c] X.env)).any (·.1) = false) :
    PE X (.Compare a [if neg then .NotIn else .In] [.Call (.Name x p) [b, c] [] pos2] pos) (RE w X XE W (denE F (.inR neg ma mb mc))) := by
  have hr := pe_callTy cr_range2 hg hm hv (pa_cons hb (pa_cons hc pa_nil he2) he) hn hdb he hpl (pos := pos2) (p := p)
  have key : ∀ σ H Q, RE w X XE W (denE F (.inR neg ma mb mc)) σ H Q → RE w X XE W (denE F ma) σ H fun v H1 => RE w X XE W (denE F mb) σ H1 fun l H2 => RE w X XE W (denE F mc) σ H2 fun u H3 => ∃ i j k : Int, v = .int i ∧ l = .int j ∧ u = .int k ∧ ∀ r, H3 r = none → Q (.bl (neg != decide (j ≤ i ∧ i < k))) (upd H3 r (.rng j k)) := fun σ H Q q => by
    rw [denE_inR] at q
    refine rd_three stab_E (Z2 := ZE X.K) (fun R k z => Rp.le (R.le k) z) q fun {C e ad s2 dv dl du v l u H1 H2} R z1 z2 z3 _ _ h => ?_
    cases dv with
    | int i =>
      cases dl with
      | int j =>
        cases du with
        | int k =>
          simp only at h
          split at h
          · next d s' hd =>
            split at hd
            · cases hd
              exact ⟨i, j, k, Rp.intv z1, Rp.intv z2, Rp.intv z3, fun r n => h _ _ (.new R n) (.bl _)⟩
            · cases hd
          · next hd => split at hd <;> cases hd
          · exact h.elim
        | _ => exact h.elim
      | _ => exact h.elim
    | _ => exact h.elim
  cases neg with
  | false =>
    refine (pe_cmpR op_in_rng ha hr rfl).imp fun σ H Q q => ?_
    obtain ⟨C, e, ad, s, R, h⟩ := key σ H Q q
    refine ⟨C, e, ad, s, R, ?_⟩
    cases hf : denE F ma e s with
    | err er s1 => simp only [hf] at h ⊢; exact h
    | stuck => simp only [hf] at h
    | ok d s1 =>
      simp only [hf] at h ⊢
      intro v H1 p z
      obtain ⟨C2, e2, ad2, s2, R2, h2⟩ := h v H1 p z
      show RE w X XE W (denE F mb) σ H1 _
      refine ⟨C2, e2, ad2, s2, R2, ?_⟩
      cases hf2 : denE F mb e2 s2 with
      | err er s3 => simp only [hf2] at h2 ⊢; exact h2
      | stuck => simp only [hf2] at h2
      | ok d2 s3 =>
        simp only [hf2] at h2 ⊢
        intro l H2 p2 z2
        obtain ⟨C3, e3, ad3, s4, R3, h3⟩ := h2 l H2 p2 z2
        show RE w X XE W (denE F mc) σ H2 _
        refine ⟨C3, e3, ad3, s4, R3, ?_⟩
        cases hf3 : denE F mc e3 s4 with
        | err er s5 => simp only [hf3] at h3 ⊢; exact h3
        | stuck => simp only [hf3] at h3
        | ok d3 s5 =>
          simp only [hf3] at h3 ⊢
          intro u H3 p3 z3
          obtain ⟨i, j, k, rfl, rfl, rfl, q⟩ := h3 u H3 p3 z3
          exact ⟨j, k, rfl, fun r n => ⟨i, r, j, k, rfl, rfl, upd_same, by simpa using q r n⟩⟩
  | true =>
    refine (pe_cmpR op_notin_rng ha hr rfl).imp fun σ H Q q => ?_
    obtain ⟨C, e, ad, s, R, h⟩ := key σ H Q q
    refine ⟨C, e, ad, s, R, ?_⟩
    cases hf : denE F ma e s with
    | err er s1 => simp only [hf] at h ⊢; exact h
    | stuck => simp only [hf] at h
    | ok d s1 =>
      simp only [hf] at h ⊢
      intro v H1 p z
      obtain ⟨C2, e2, ad2, s2, R2, h2⟩ := h v H1 p z
      show RE w X XE W (denE F mb) σ H1 _
      refine ⟨C2, e2, ad2, s2, R2, ?_⟩
      cases hf2 : denE F mb e2 s2 with
      | err er s3 => simp only [hf2] at h2 ⊢; exact h2
      | stuck => simp only [hf2] at h2
      | ok d2 s3 =>
        simp only [hf2] at h2 ⊢
        intro l H2 p2 z2
        obtain ⟨C3, e3, ad3, s4, R3, h3⟩ := h2 l H2 p2 z2
        show RE w X XE W (denE F mc) σ H2 _
        refine ⟨C3, e3, ad3, s4, R3, ?_⟩
        cases hf3 : denE F mc e3 s4 with
        | err er s5 => simp only [hf3] at h3 ⊢; exact h3
        | stuck => simp only [hf3] at h3
        | ok d3 s5 =>
          simp only [hf3] at h3 ⊢
          intro u H3 p3 z3
          obtain ⟨i, j, k, rfl, rfl, rfl, q⟩ := h3 u H3 p3 z3
          exact ⟨j, k, rfl, fun r n => ⟨i, r, j, k, rfl, rfl, upd_same, by simpa using q r n⟩⟩
end
end Rf
/-! enumerate of a tuple, over the hand layer. -/
namespace Rf
open PySem PySem.Spec PyProof.Rows L2
set_option maxHeartbeats 1000000 in
theorem enum_new1 {v : Value} {o : Obj} {S : Heap → Prop} (B : Begins v o S) :
    Meets (Builtin.«enumerate.__new__» ⟨[.type "enumerate", v], []⟩) (fun _ R s => S s.heap ∧
      R (.ok (.ret (.ref (s.heap.push o).objs.size))) { s with heap := (s.heap.push o).push { cls := .type "enumerate", data := .fields #[.none, .bool false, .ref s.heap.objs.size, rawInt 0, .none, .none] } }) :=
  .of_wp fun prog w A R s h => by
    obtain ⟨hp, gg, dd, kk, ss⟩ := s
    obtain ⟨h1, h⟩ := h
    have hsub := sub_enumerate
    have q1 : ∀ {A' : Around} {E : Value → Shared → Prop} {Q : Value → Shared → Prop}, Q (.ref hp.objs.size) ⟨hp.push o, gg, dd, kk, ss⟩ → wpAny (model prog w) A' (pyIter v) Q E ⟨hp, gg, dd, kk, ss⟩ :=
      fun q => B.iter prog w _ _ ⟨hp, gg, dd, kk, ss⟩ _ h1 q
    wp_walk using q1
    refine wpAny_stack_any fun st => wpAny_pure ?_
    split
    · rename_i c _ _ _ _ _
      cases (c == Value.type "enumerate") <;> (wp_walk using q1; exact ⟨_, rfl, h⟩)
    · wp_walk using q1
      exact ⟨_, rfl, h⟩
section
variable {prog : Program} {w : World} {A : Around} {E : Value → Shared → Prop} {s : Shared}
theorem call_enum1 {v : Value} {o : Obj} {S : Heap → Prop} {Q : Value → Shared → Prop} (B : Begins v o S) (h1 : S s.heap)
    (h : ∀ h', IsEnum h' (s.heap.objs.size + 1) s.heap.objs.size 0 .none → h'.get? s.heap.objs.size = some o → (∀ b ob, s.heap.get? b = some ob → h'.get? b = some ob) → Q (.ref (s.heap.objs.size + 1)) { s with heap := h' }) :
    wpAny (model prog w) A (call (.type "enumerate") [v]) Q E s := by
  refine callType_new F.called_enumerate (by decide) (F.typeCall_enumerate_1 _) (F.newCall_enumerate_1 _) (fun obj => F.args_object_init_2 obj _) F.entry_enumerate_new (enum_new1 B) ⟨h1, ?_⟩
  have hz : (s.heap.push o).objs.size = s.heap.objs.size + 1 := Heap.size_push ..
  show _ ∧ _
  rw [hz]
  have he : IsEnum ((s.heap.push o).push { cls := .type "enumerate", data := .fields #[.none, .bool false, .ref s.heap.objs.size, rawInt 0, .none, .none] }) (s.heap.objs.size + 1) s.heap.objs.size 0 .none := by
    have q := Heap.get?_push_size (s.heap.push o) (o := { cls := .type "enumerate", data := .fields #[.none, .bool false, .ref s.heap.objs.size, rawInt 0, .none, .none] }) rfl
    rw [hz] at q
    exact q
  exact ⟨⟨_, he, rfl⟩, h _ he (Heap.get?_push_of_some _ (Heap.get?_push_size _ B.free)) fun b ob x => Heap.get?_push_of_some _ (Heap.get?_push_of_some _ x)⟩
end
/-- the tuple at a, each item in a new pair -/
def IteT (K : PySem.W.Frag) (a : Addr) : It :=
  ⟨fun i H => ∃ (xs : List V) (x : V), SqT K H a xs ∧ xs[i]? = some x, fun i H v H' => ∃ T x, v = .ref T ∧ H T = none ∧ H' = upd H T (.tup [.int (i : Nat), x]) ∧ ∀ xs, SqT K H a xs → xs[i]? = some x, fun i H => ∃ xs : List V, SqT K H a xs ∧ i = xs.length⟩
theorem turn_enumT {P : Program} {w : World} {K : PySem.W.Frag} {elts : List Expr} {kk : Nat} {tpos : Pos} (a e it : Addr) :
    Turn P w K (.Tuple elts kk tpos) (IteT K a) [e, it] e (fun i h => (∃ old, IsEnum h e it ((i : Nat) : Int) old) ∧ h.IsTupleIter it a i ∧ e ≠ it) where
  mem := by simp
  obj := fun i h st b hb => by
    obtain ⟨⟨old, he⟩, ⟨o, ho, hc, hd⟩, _⟩ := st
    rcases (show b = e ∨ b = it by simpa using hb) with z | z
    · rw [z]
      exact ⟨_, he, fun v q => nomatch q⟩
    · rw [z]
      exact ⟨o, ho, fun v q => by rw [hd] at q; cases q⟩
  keep := fun i h h' st k => by
    obtain ⟨⟨old, he⟩, hi, hne⟩ := st
    exact ⟨⟨old, k e (by simp) _ he⟩, hi.at fun o q => k it (by simp) o q, hne⟩
  item := by
    intro X hP hw hK hc i pins s σ H E I hf st hg
    subst hP hw hK
    obtain ⟨⟨old, he⟩, hit, hne⟩ := st
    obtain ⟨xs, x, hq, hx⟩ := hg
    obtain ⟨its, rv, p, hz⟩ := I.tuple hq
    obtain ⟨u, hu, ru⟩ := rv.get hx
    have pt : s.heap.IsTuple a its.toArray := p
    have hel : e < s.heap.objs.size := Heap.lt_size he
    have hil : it < s.heap.objs.size := by
      obtain ⟨_, q, _⟩ := hit
      exact Heap.lt_size q
    have nea : a ≠ it := fun z => by
      obtain ⟨o1, e1, c1, _⟩ := pt
      obtain ⟨o2, e2, c2, _⟩ := hit
      rw [z] at e1
      rw [e1] at e2
      cases e2
      rw [c1] at c2
      exact absurd (Value.type.inj c2) (by decide)
    have nee : a ≠ e := fun z => by
      obtain ⟨o1, e1, c1, _⟩ := pt
      rw [z] at e1
      rw [show s.heap.get? e = _ from he] at e1
      cases e1
      exact absurd (Value.type.inj c1) (by decide)
    have hlt : i < its.toArray.size := by
      rw [List.size_toArray]
      exact (List.getElem?_eq_some_iff.mp hu).1
    refine wpAny_pyNext_enum_itemD (Draws.tuple (A := X.A.in1) (I.ok.hd hc) it a nea its.toArray) he ⟨hit, pt⟩ hlt hne (by simp [hne, Ne.symm nee]) fun x' h' tk hx' ho hst hT hsz hk => ?_
    have eu : x' = u := by
      have q : its.toArray[i]? = some u := by simpa using hu
      rw [q] at hx'
      exact (Option.some.inj hx').symm
    subst eu
    refine ⟨_, rfl, wpAny_letOwnedTupleGo_enum (s := { s with heap := h', toks := tk + 1 }) ho fun h'' he' sb => ?_⟩
    have hT2 : h''.get? s.heap.objs.size = some { cls := .type "tuple", data := .seq #[.int i tk, x'] } := (sb.2 _ (Nat.ne_of_gt hel)).trans hT
    have fresh : ObjOk X.prog X.w (upd H s.heap.objs.size (.tup [.int (i : Nat), x])) h'' s.heap.objs.size (.tup [.int (i : Nat), x]) :=
      ⟨by show 2 ≤ sizeLine; decide, [.int i tk, x'], .cons ⟨_, rfl⟩ (.cons ru .nil), ⟨_, hT2, rfl, _, rfl⟩⟩
    have I1 : Inv X pins σ (upd H s.heap.objs.size (.tup [.int (i : Nat), x])) { s with heap := h'', toks := tk + 1 } :=
      I.turnedNew (ch := [e, it]) (fun b ob hb q => (sb.2 b (fun z => hb (by simp [z]))).trans (hk b ob (fun z => hb (by simp [z])) (fun z => hb (by simp [z])) q)) hf (Nat.le_refl _) fresh
    refine ⟨.ref s.heap.objs.size, _, I1, rfl, ⟨_, x, rfl, I.hok.fresh (Nat.le_refl _), rfl, fun ys hy => by rw [I.tuple_inj hy hq]; exact hx⟩, ⟨⟨x', by rw [show ((i + 1 : Nat) : Int) = (i : Int) + 1 by omega]; exact he'⟩, hst.1.at fun o q => (sb.2 it (Ne.symm hne)).trans q, hne⟩, fun b hb => ?_⟩
    have hb' : b < s.heap.objs.size := by
      rcases (show b = e ∨ b = it by simpa using hb) with z | z
      · rw [z]; exact hel
      · rw [z]; exact hil
    rw [upd_ne (Nat.ne_of_lt hb')]
    exact (hf b hb).1
  done := by
    intro X hP hw hK hc i pins s σ H E I hf st hg
    subst hP hw hK
    obtain ⟨⟨old, he⟩, hit, hne⟩ := st
    obtain ⟨xs, hq, hx⟩ := hg
    obtain ⟨its, rv, p, hz⟩ := I.tuple hq
    have pt : s.heap.IsTuple a its.toArray := p
    obtain ⟨f0, f1, f2, f3, f4, f5⟩ := hf it (by simp)
    have hl := rv.length
    have nea : a ≠ it := fun z => by
      obtain ⟨o1, e1, c1, _⟩ := pt
      obtain ⟨o2, e2, c2, _⟩ := hit
      rw [z] at e1
      rw [e1] at e2
      cases e2
      rw [c1] at c2
      exact absurd (Value.type.inj c2) (by decide)
    have hn : i = its.toArray.size := by rw [List.size_toArray, ← hl]; exact hx
    rw [hn] at hit
    exact wpAny_pyNext_enum_endD (Draws.tuple (A := X.A.in1) (I.ok.hd hc) it a nea its.toArray) he ⟨hit, pt⟩ fun h' eb => ⟨rfl, I.turned (t' := s.toks) (fun b o hb q => eb b o hb q) f0 f1 f3 f4 f5⟩
  self := fun A i s Q E st h => by
    obtain ⟨⟨_, he⟩, _⟩ := st
    exact wpAny_pyIter_enum he h
def iEnumT (K : PySem.W.Frag) (ta : TA) : TI := fun σ H R => ta σ H fun vs H1 => ∃ a xs, vs = [.ref a] ∧ SqT K H1 a xs ∧ R (IteT K a) H1
theorem pi_enumT {X : Cx} {e : Expr} {ta : TA} {x : Str} {p pos tpos : Pos} {elts : List Expr} {kk : Nat} (hg : Gl X x) (hm : X.mg x = none) (hv : bootBuiltins x = some (.type "enumerate")) (hn : x ≠ "__name__") (hdb : (x == ("__debug__" : Str)) = false) (ha : PA X [e] ta) (hs : starEach [e] X.env = [(false, eval e X.env)]) :
    PI X (.Tuple elts kk tpos) (.Call (.Name x p) [e] [] pos) (iEnumT X.K ta) := by
  refine ⟨fun pins s σ H R I h => Call_ (ld_blt I hg hm hv (PyProof.Rows.callWith_type1 (thn (ha.run pos pins s σ H _ I h) fun us s1 ⟨vs, H1, I1, r1, q1⟩ => ?_) hs rfl) hn hdb)⟩
  obtain ⟨a, xs, ex, hq, q⟩ := q1
  subst ex
  rw [Vals.ref1 r1]
  obtain ⟨its, rv, pt, hz⟩ := I1.tuple hq
  refine call_enum1 (begins_tuple a its.toArray) pt fun h' he hit hk => wpAny_pyIter_enum he ?_
  have I2 : Inv X pins σ H1 { s1 with heap := h' } := I1.kept (t' := s1.toks) hk
  refine ⟨s1.heap.objs.size + 1, [s1.heap.objs.size + 1, s1.heap.objs.size], _, _, H1, rfl, I2, turn_enumT a (s1.heap.objs.size + 1) s1.heap.objs.size, ⟨⟨.none, he⟩, ⟨_, hit, rfl, rfl⟩, Nat.succ_ne_self _⟩, fun b hb => ?_, q⟩
  have hle : s1.heap.objs.size ≤ b := by
    rcases (show b = s1.heap.objs.size + 1 ∨ b = s1.heap.objs.size by simpa using hb) with z | z
    · rw [z]; exact Nat.le_add_right _ _
    · rw [z]; exact Nat.le_refl _
  exact I1.fpOk hle (I1.hok.fresh hle)
end Rf
/-! Reflection layer, part 12: what is walked. -/
namespace Rf
open PySem PySem.Spec PyProof.Rows L2
theorem _root_.L2.PI.imp {X : Cx} {tg e : Expr} {t t' : TI} (h : PI X tg e t) (i : ∀ σ H R, t' σ H R → t σ H R) : PI X tg e t' := ⟨fun pins s σ H R I q => h.run pins s σ H R I (i σ H R q)⟩
theorem _root_.L2.PI.either {X : Cx} {tg e : Expr} {t t' : TI} (h : PI X tg e t) (h' : PI X tg e t') : PI X tg e (fun σ H R => t σ H R ∨ t' σ H R) := ⟨fun pins s σ H R I q => by
  rcases q with q | q
  · exact h.run pins s σ H R I q
  · exact h'.run pins s σ H R I q⟩
section
variable {w : Wld} {X : Cx} {XE : Er → Value → Option Addr → Hp → Prop} {W : WX} {F : Fs w}
/-- an iterator yields just these data, while its sources stand -/
structure IOk (w : Wld) (K : PySem.W.Frag) (Dm : Addr → Prop) (Src : Hp → Hp → Prop) (J : It) (ds : List D) : Prop where
  go : ∀ {C e ad} {s : w.T} {σ : L2.St} {H : Hp} {i : Nat} {d : D}, C.Dm = Dm → Rel w K C e ad s σ H → Src (mask (Os C e ad) H) H → ds[i]? = some d → J.go i H ∧ ∀ x H', J.yld i H x H' → PoE w K C e ad H s H' ∧ Rp K (mask (Os C e ad) H') x d
  stop : ∀ {C e ad} {s : w.T} {σ : L2.St} {H : Hp}, C.Dm = Dm → Rel w K C e ad s σ H → Src (mask (Os C e ad) H) H → J.stop ds.length H
/-- all but the draws and what the frame made out of sight stands -/
def KpX (C : Fc) (H H' : Hp) : Prop := ∀ a o, H a = some o → ¬ C.Dm a → ¬ (C.O0 a ∧ C.H0 a = none) → H' a = some o
theorem Kp.x {C : Fc} {H H' : Hp} (k : Kp C.Dm H H') : KpX C H H' := fun a o h d _ => k a o h d
/-- an iterator's reading; P: nothing that a name owns is walked -/
def rdI (w : Wld) (K : PySem.W.Frag) (XE : Er → Value → Option Addr → Hp → Prop) (W : WX) (P : En → Prop) (f : En → w.T → Rs w.T (List D)) : TI := fun σ H R =>
  ∃ (C : Fc) (e : En) (ad : Nat → Addr) (s : w.T), Rel w K C e ad s σ H ∧ match f e s with
    | .ok ds s' => ∀ J H' (Src : Hp → Hp → Prop), PoE w K C e ad H s' H' → (∀ M' H2, Le (mask (Os C e ad) H') M' → KpX C H' H2 → Src M' H2) →
        (P e → ∀ e' ad' (t : w.T) σ' H2, Rel w K C e' ad' t σ' H2 → Le (mask (Os C e ad) H') (mask (Os C e' ad') H2) → Src (mask (Os C e' ad') H2) H2) → IOk w K C.Dm Src J ds → R J H'
    | .err er s' => ∀ cls dx H', PoE w K C e ad H s' H' → XE er cls dx H' → W cls dx σ H'
    | .stuck => False
/-- a source: it stands as long as the frame's names do, where P says so -/
def ZS (w : Wld) (K : PySem.W.Frag) (P : En → Prop) : Fc → En → (Nat → Addr) → Hp → Hp → V → D → Prop := fun C e ad _ H' v d => (∀ M' H2, Le (mask (Os C e ad) H') M' → KpX C H' H2 → VRp K C.Dm M' H2 v d) ∧
  (P e → ∀ e' ad' (t : w.T) σ' H2, Rel w K C e' ad' t σ' H2 → Le (mask (Os C e ad) H') (mask (Os C e' ad') H2) → VRp K C.Dm (mask (Os C e' ad') H2) H2 v d)
abbrev RS (w : Wld) (X : Cx) (XE : Er → Value → Option Addr → Hp → Prop) (W : WX) (P : En → Prop) (f : En → w.T → Rs w.T D) : TE := rd w X.K XE W (ZS w X.K P) f
theorem src_e {P : En → Prop} {a : Expr} {m : ME} (h : PE X a (RE w X XE W (denE F m))) : PE X a (RS w X XE W P (denV F (.e m))) := by
  rw [denV_e]
  exact h.imp fun σ H Q q => rd_weak (fun {C e ad s s' H' v d} R p z => ⟨fun M' H2 l _ => .rp (Rp.le l z), fun _ e' ad' t σ' H2 _ l => .rp (Rp.le l z)⟩) q
theorem Rel.viewX {K : PySem.W.Frag} {C : Fc} {e : En} {ad : Nat → Addr} {s : w.T} {σ : L2.St} {H : Hp} (R : Rel w K C e ad s σ H) {i : Nat} {d : D} (h : viewS e i = some d) : ∃ v, σ[i]? = some (some v) ∧ ∀ M' H2, Le (mask (Os C e ad) H) M' → KpX C H H2 → VRp K C.Dm M' H2 v d := by
  have own : ∀ {j : Nat}, e[j]? = some (.own d) → ∀ M' H2, Le (mask (Os C e ad) H) M' → KpX C H H2 → VRp K C.Dm M' H2 (.ref (ad j)) d := fun {j} hj M' H2 l k => by
    obtain ⟨_, r⟩ := R.slots j _ hj
    have n := (R.own1 j _ hj).1
    have nd : ¬ C.Dm (ad j) := fun z => n (R.dsub _ z)
    exact (r.le l fun o z => k _ o z nd fun q => n q.1).view nd
  unfold viewS at h
  split at h
  case h_1 hi => cases h; obtain ⟨v, e1, r⟩ := R.slots i _ hi; exact ⟨v, e1, fun M' H2 l _ => .rp (r.le l)⟩
  case h_2 hi => cases h; exact ⟨_, (R.slots i _ hi).1, own hi⟩
  case h_3 hi =>
    cases h
    obtain ⟨a, e1, r⟩ := R.slots i _ hi
    refine ⟨_, e1, fun M' H2 l k => ?_⟩
    exact r.leX l fun a o z => by
      obtain ⟨o', e2, l2⟩ := R.base a o z
      have nd := (mask_of z).1
      exact ⟨o', k a o' (R.keep a o' e2 nd) nd (fun q => by rw [q.2] at e2; cases e2), l2⟩
  case h_4 j hi =>
    split at h
    case h_1 hj =>
      cases h
      exact ⟨_, (R.slots i _ hi).2, own hj⟩
    · cases h
  · cases h
theorem ZS.here {K : PySem.W.Frag} {P : En → Prop} {C : Fc} {e : En} {ad : Nat → Addr} {H H' : Hp} {v : V} {d : D} (z : ZS w K P C e ad H H' v d) : VRp K C.Dm (mask (Os C e ad) H') H' v d := z.1 _ _ (.refl _) fun _ _ h _ _ => h
def slotOk (e : En) (i : Nat) : Prop := (∃ d, e[i]? = some (.dat d)) ∨ ∃ d, e[i]? = some (.bor d)
theorem src_pk {P : En → Prop} {i : Nat} {x : Str} {pos : Pos} (hP : ∀ e, P e → slotOk e i) (hN : X.N[i]? = some x) (hv : Vis X.env.scope x) (hd : (x == ("__debug__" : Str)) = false) (hcd : (x == ("__classdict__" : Str)) = false) : PE X (.Name x pos) (RS w X XE W P (denV F (.pk i))) :=
  (pe_var hN hv hd hcd).imp fun σ H Q ⟨C, e, ad, s, R, h⟩ => by
    rw [denV_pk] at h
    cases hs : viewS e i with
    | none => simp [hs] at h
    | some d =>
      simp only [hs, Rs.lift_some] at h
      obtain ⟨v, e1, r⟩ := R.viewX hs
      refine ⟨v, e1, h v H (.refl R) ⟨r, fun hp e' ad' t σ' H2 R2 l => ?_⟩⟩
      rcases hP e hp with ⟨d', hi⟩ | ⟨d', hi⟩
      · obtain ⟨v', e2, r2⟩ := R.slots i _ hi
        rw [e1] at e2; cases e2
        simp only [viewS, hi] at hs
        cases hs
        exact .rp (r2.le l)
      · obtain ⟨a, e2, r2⟩ := R.slots i _ hi
        rw [e1] at e2; cases e2
        simp only [viewS, hi] at hs
        cases hs
        exact r2.leX l R2.atH
/-! ### one by one -/
theorem iok_list {K : PySem.W.Frag} {Dm : Addr → Prop} {a : Addr} {ds : List D} : IOk w K Dm (fun M H => VRp K Dm M H (.ref a) (.lst ds)) (Itl K a) ds where
  go := fun {C e ad s σ H i d} hC R z hd => by
    obtain ⟨b, vs, eb, hb, rb⟩ := z.lstv
    cases eb
    obtain ⟨x, hx, rx⟩ := rb.get hd
    refine ⟨⟨vs, x, .inl (.inl hb), hx⟩, fun y H' hy => ?_⟩
    obtain ⟨rfl, hy⟩ := hy
    have := hy vs (.inl (.inl hb))
    rw [hx] at this
    cases this
    exact ⟨.refl R, rx⟩
  stop := fun {C e ad s σ H} hC R z => by
    obtain ⟨b, vs, eb, hb, rb⟩ := z.lstv
    cases eb
    exact ⟨vs, .inl (.inl hb), Nat.le_of_eq rb.length⟩
theorem iok_tup {K : PySem.W.Frag} {Dm : Addr → Prop} {a : Addr} {ds : List D} : IOk w K Dm (fun M H => VRp K Dm M H (.ref a) (.tup ds)) (Itt K a) ds where
  go := fun {C e ad s σ H i d} hC R z hd => by
    obtain ⟨b, vs, eb, hb, rb⟩ := z.tupv
    cases eb
    obtain ⟨x, hx, rx⟩ := rb.get hd
    refine ⟨⟨vs, x, .inl (.inl (mask_le.tup hb)), hx⟩, fun y H' hy => ?_⟩
    obtain ⟨rfl, hy⟩ := hy
    have := hy vs (.inl (.inl (mask_le.tup hb)))
    rw [hx] at this
    cases this
    exact ⟨.refl R, rx⟩
  stop := fun {C e ad s σ H} hC R z => by
    obtain ⟨b, vs, eb, hb, rb⟩ := z.tupv
    cases eb
    exact ⟨vs, .inl (.inl (mask_le.tup hb)), Nat.le_of_eq rb.length⟩
theorem enu_get {ds : List D} {i : Nat} {d : D} (h : (enuD ds)[i]? = some d) : ∃ x, ds[i]? = some x ∧ d = .tup [.int (i : Nat), x] := by
  unfold enuD at h
  rw [List.getElem?_map, List.getElem?_zipIdx] at h
  cases hx : ds[i]? with
  | none => rw [hx] at h; cases h
  | some x =>
    rw [hx] at h
    simp at h
    exact ⟨x, rfl, h.symm⟩
theorem enu_len (ds : List D) : (enuD ds).length = ds.length := by simp [enuD]
theorem iok_enuL {K : PySem.W.Frag} {Dm : Addr → Prop} {a : Addr} {ds : List D} : IOk w K Dm (fun M H => VRp K Dm M H (.ref a) (.lst ds)) (Ite K a) (enuD ds) where
  go := fun {C e ad s σ H i d} hC R z hd => by
    obtain ⟨b, vs, eb, hb, rb⟩ := z.lstv
    cases eb
    obtain ⟨dx, hdx, rfl⟩ := enu_get hd
    obtain ⟨x, hx, rx⟩ := rb.get hdx
    refine ⟨⟨vs, x, .inl (.inl hb), hx⟩, fun y H' hy => ?_⟩
    obtain ⟨T, x', rfl, n, rfl, hy⟩ := hy
    have := hy vs (.inl (.inl hb))
    rw [hx] at this
    cases this
    exact ⟨.new R n, R.newTup n (.cons (.int _) (.cons rx .nil))⟩
  stop := fun {C e ad s σ H} hC R z => by
    obtain ⟨b, vs, eb, hb, rb⟩ := z.lstv
    cases eb
    exact ⟨vs, .inl (.inl hb), by rw [enu_len]; exact Nat.le_of_eq rb.length⟩
theorem iok_enuT {K : PySem.W.Frag} {Dm : Addr → Prop} {a : Addr} {ds : List D} : IOk w K Dm (fun M H => VRp K Dm M H (.ref a) (.tup ds)) (IteT K a) (enuD ds) where
  go := fun {C e ad s σ H i d} hC R z hd => by
    obtain ⟨b, vs, eb, hb, rb⟩ := z.tupv
    cases eb
    obtain ⟨dx, hdx, rfl⟩ := enu_get hd
    obtain ⟨x, hx, rx⟩ := rb.get hdx
    refine ⟨⟨vs, x, .inl (.inl (mask_le.tup hb)), hx⟩, fun y H' hy => ?_⟩
    obtain ⟨T, x', rfl, n, rfl, hy⟩ := hy
    have := hy vs (.inl (.inl (mask_le.tup hb)))
    rw [hx] at this
    cases this
    exact ⟨.new R n, R.newTup n (.cons (.int _) (.cons rx .nil))⟩
  stop := fun {C e ad s σ H} hC R z => by
    obtain ⟨b, vs, eb, hb, rb⟩ := z.tupv
    cases eb
    exact ⟨vs, .inl (.inl (mask_le.tup hb)), by rw [enu_len]; exact rb.length.symm⟩
theorem iok_rng {K : PySem.W.Frag} {Dm : Addr → Prop} {lo : Int} {n : Nat} : IOk w K Dm (fun _ _ => True) (Itr lo n) ((List.range n).map fun (k : Nat) => .int (lo + k)) where
  go := fun {C e ad s σ H i d} hC R z hd => by
    rw [List.getElem?_map] at hd
    by_cases hi : i < n
    · rw [List.getElem?_range hi] at hd
      cases hd
      refine ⟨hi, fun y H' hy => ?_⟩
      obtain ⟨rfl, rfl⟩ := hy
      exact ⟨.refl R, .int _⟩
    · rw [List.getElem?_eq_none (by simpa using hi)] at hd
      cases hd
  stop := fun {C e ad s σ H} hC R z => by
    show n ≤ _
    simp
theorem vals_two {α : Type} {a b : α} {l : List α} : True := trivial
/-- a walk over a source's data g -/
theorem s_iter {P : En → Prop} {tg it : Expr} {a : MV} {g : D → Option (List D)} {wi : TI} {t : TE} {fm : En → w.T → Rs w.T (List D)} (hf : fm = fun e s => (denV F a e s).bind fun x s1 => Rs.lift (g x) s1) (hi : PI X tg it wi)
    (k : ∀ σ H R, (∃ (C : Fc) (e : En) (ad : Nat → Addr) (s : w.T), Rel w X.K C e ad s σ H ∧ match denV F a e s with
        | .ok d s' => ∃ ds, g d = some ds ∧ ∀ v H', PoE w X.K C e ad H s' H' → ZS w X.K P C e ad H H' v d → ∀ J, IOk w X.K C.Dm (fun M H => VRp X.K C.Dm M H v d) J ds → R J H'
        | .err er s' => ∀ cls dx H', PoE w X.K C e ad H s' H' → XE er cls dx H' → W cls dx σ H'
        | .stuck => False) → wi σ H R) : PI X tg it (rdI w X.K XE W P fm) :=
  hi.imp fun σ H R q => k σ H R (by
    subst hf
    obtain ⟨C, e, ad, s, R0, h⟩ := q
    refine ⟨C, e, ad, s, R0, ?_⟩
    cases hd : denV F a e s with
    | err er s1 => simp only [hd, Rs.bind_err] at h ⊢; exact h
    | stuck => simp only [hd, Rs.bind_stuck] at h
    | ok d s1 =>
      simp only [hd, Rs.bind_ok] at h ⊢
      cases hg : g d with
      | none => simp only [hg, Rs.lift_none] at h
      | some ds =>
        simp only [hg, Rs.lift_some] at h
        exact ⟨ds, rfl, fun v H' p z J ok => h J H' _ p z.1 (fun hp e' ad' t σ' H2 R2 l => z.2 hp e' ad' t σ' H2 R2 l) ok⟩)
theorem denI_seq (a : MV) : denI F (.seq a) = fun e s => (denV F a e s).bind fun x s1 => .lift (seqD x) s1 := by funext e s; simp only [denI]
theorem denI_enu (a : MV) : denI F (.enu a) = fun e s => (denV F a e s).bind fun x s1 => .lift ((seqD x).map enuD) s1 := by funext e s; simp only [denI]
theorem denI_rng (lo hi : ME) : denI F (.rng lo hi) = fun e s => (denE F lo e s).bind fun l s1 => (denE F hi e s1).bind fun h s2 => .lift (rngD l h) s2 := by funext e s; simp only [denI]
theorem i_seq {P : En → Prop} {tg a : Expr} {ma : MV} (ha : PE X a (RS w X XE W P (denV F ma))) : PI X tg a (rdI w X.K XE W P (denI F (.seq ma))) :=
  s_iter (t := fun _ _ _ => True) (denI_seq ma) ((pi_list ha).either (pi_tup ha)) fun σ H R ⟨C, e, ad, s, R0, h⟩ => by
    cases hd : denV F ma e s with
    | err er s1 =>
      simp only [hd] at h
      exact .inl ⟨C, e, ad, s, R0, by simp only [hd]; exact h⟩
    | stuck => simp only [hd] at h
    | ok d s1 =>
      simp only [hd] at h
      obtain ⟨ds, hg, h⟩ := h
      cases d with
      | lst xs =>
        cases hg
        refine .inl ⟨C, e, ad, s, R0, ?_⟩
        simp only [hd]
        intro v H' p z
        obtain ⟨b, vs, rfl, hb, rb⟩ := VRp.lstv z.here
        exact ⟨b, rfl, ⟨vs, .inl (.inl hb)⟩, h _ H' p z _ iok_list⟩
      | tup xs =>
        cases hg
        refine .inr ⟨C, e, ad, s, R0, ?_⟩
        simp only [hd]
        intro v H' p z
        obtain ⟨b, vs, rfl, hb, rb⟩ := VRp.tupv z.here
        exact ⟨b, rfl, ⟨vs, .inl (.inl (mask_le.tup hb))⟩, h _ H' p z _ iok_tup⟩
      | _ => cases hg
theorem i_enu {P : En → Prop} {a : Expr} {ma : MV} {x : Str} {p pos tpos : Pos} {elts : List Expr} {kk : Nat} (hx : x = ("enumerate" : Str)) (hg : Gl X x) (hm : X.mg x = none) (ha : PE X a (RS w X XE W P (denV F ma))) (hs : starEach [a] X.env = [(false, eval a X.env)]) :
    PI X (.Tuple elts kk tpos) (.Call (.Name x p) [a] [] pos) (rdI w X.K XE W P (denI F (.enu ma))) := by
  subst hx
  have hs2 : starEach [a] X.env = (false, eval a X.env) :: starEach [] X.env := hs
  refine s_iter (t := fun _ _ _ => True) (denI_enu ma) ((pi_enum hg hm (pa_cons ha pa_nil hs2) hs).either (pi_enumT hg hm boot_enumerate (by decide) (by decide) (pa_cons ha pa_nil hs2) hs)) fun σ H R ⟨C, e, ad, s, R0, h⟩ => ?_
  cases hd : denV F ma e s with
  | err er s1 =>
    simp only [hd] at h
    exact .inl ⟨C, e, ad, s, R0, by simp only [hd]; exact h⟩
  | stuck => simp only [hd] at h
  | ok d s1 =>
    simp only [hd] at h
    obtain ⟨ds, hg, h⟩ := h
    cases d with
    | lst xs =>
      cases hg
      refine .inl ⟨C, e, ad, s, R0, ?_⟩
      simp only [hd]
      intro v H' p z
      obtain ⟨b, vs, rfl, hb, rb⟩ := VRp.lstv z.here
      exact ⟨b, vs, rfl, .inl (.inl hb), h _ H' p z _ iok_enuL⟩
    | tup xs =>
      cases hg
      refine .inr ⟨C, e, ad, s, R0, ?_⟩
      simp only [hd]
      intro v H' p z
      obtain ⟨b, vs, rfl, hb, rb⟩ := VRp.tupv z.here
      exact ⟨b, vs, rfl, .inl (.inl (mask_le.tup hb)), h _ H' p z _ iok_enuT⟩
    | _ => cases hg
end
end Rf
/-! Reflection layer, part 13: ranges, targets. -/
namespace Rf
open PySem PySem.Spec PyProof.Rows L2
section
variable {w : Wld} {X : Cx} {XE : Er → Value → Option Addr → Hp → Prop} {W : WX} {F : Fs w}
theorem i_rng1 {P : En → Prop} {tg a : Expr} {ma : ME} {x : Str} {p pos : Pos} (hx : x = ("range" : Str)) (hg : Gl X x) (hm : X.mg x = none) (ha : PE X a (RE w X XE W (denE F ma))) (hs : starEach [a] X.env = [(false, eval a X.env)]) :
    PI X tg (.Call (.Name x p) [a] [] pos) (rdI w X.K XE W P (denI F (.rng (.cst (.int 0)) ma))) := by
  subst hx
  have hs2 : starEach [a] X.env = (false, eval a X.env) :: starEach [] X.env := hs
  refine (pi_range1 hg hm (pa_cons ha pa_nil hs2) hs).imp fun σ H R ⟨C, e, ad, s, R0, h⟩ => ?_
  rw [denI_rng, denE_cst] at h
  simp only [Rs.bind_ok] at h
  refine ⟨C, e, ad, s, R0, ?_⟩
  cases hd : denE F ma e s with
  | err er s1 => simp only [hd, Rs.bind_err] at h ⊢; exact h
  | stuck => simp only [hd, Rs.bind_stuck] at h
  | ok d s1 =>
    simp only [hd, Rs.bind_ok] at h ⊢
    intro v H' p z
    cases d with
    | int j =>
      simp only [rngD] at h
      split at h
      · next hb =>
        split at hb
        · next hc =>
          rw [Rs.lift_some] at hb
          cases hb
          have ev : v = .int j := Rp.intv z
          subst ev
          refine ⟨j, rfl, hc.2.2.1, hc.2.2.2, h _ H' _ p (fun _ _ _ _ => trivial) (fun _ _ _ _ _ _ _ _ => trivial) ?_⟩
          have q := iok_rng (w := w) (K := X.K) (Dm := C.Dm) (lo := 0) (n := j.toNat)
          simpa using q
        · cases hb
      · next hb => split at hb <;> cases hb
      · exact h.elim
    | _ => exact h.elim
theorem i_rng2 {P : En → Prop} {tg a b : Expr} {ma mb : ME} {x : Str} {p pos : Pos} (hx : x = ("range" : Str)) (hg : Gl X x) (hm : X.mg x = none) (ha : PE X a (RE w X XE W (denE F ma))) (hb : PE X b (RE w X XE W (denE F mb)))
    (hs : starEach [a, b] X.env = [(false, eval a X.env), (false, eval b X.env)]) (hs2 : starEach [b] X.env = [(false, eval b X.env)]) :
    PI X tg (.Call (.Name x p) [a, b] [] pos) (rdI w X.K XE W P (denI F (.rng ma mb))) := by
  subst hx
  have hs3 : starEach [b] X.env = (false, eval b X.env) :: starEach [] X.env := hs2
  have hs4 : starEach [a, b] X.env = (false, eval a X.env) :: starEach [b] X.env := by rw [hs, hs2]
  refine (pi_range2 hg hm (pa_cons ha (pa_cons hb pa_nil hs3) hs4) hs hs2).imp fun σ H R ⟨C, e, ad, s, R0, h⟩ => ?_
  rw [denI_rng] at h
  refine ⟨C, e, ad, s, R0, ?_⟩
  cases hd : denE F ma e s with
  | err er s1 => simp only [hd, Rs.bind_err] at h ⊢; exact h
  | stuck => simp only [hd, Rs.bind_stuck] at h
  | ok d s1 =>
    simp only [hd, Rs.bind_ok] at h ⊢
    intro v H' p z
    have R1 := R0.ext p.kp p.dr
    refine ⟨C, e, ad, s1, R1, ?_⟩
    cases hd2 : denE F mb e s1 with
    | err er s2 => simp only [hd2, Rs.bind_err] at h ⊢; exact fun cls dx H'' p' z' => h cls dx H'' ⟨p.kp.trans p'.kp, p'.dr⟩ z'
    | stuck => simp only [hd2, Rs.bind_stuck] at h
    | ok d2 s2 =>
      simp only [hd2, Rs.bind_ok] at h ⊢
      intro v2 H2 p2 z2
      cases d with
      | int i =>
        cases d2 with
        | int j =>
          simp only [rngD] at h
          split at h
          · next hb =>
            split at hb
            · next hc =>
              rw [Rs.lift_some] at hb
              cases hb
              have ev : v = .int i := Rp.intv z
              have ev2 : v2 = .int j := Rp.intv z2
              subst ev ev2
              exact ⟨i, j, rfl, hc, h _ H2 _ ⟨p.kp.trans p2.kp, p2.dr⟩ (fun _ _ _ _ => trivial) (fun _ _ _ _ _ _ _ _ => trivial) iok_rng⟩
            · cases hb
          · next hb => split at hb <;> cases hb
          · exact h.elim
        | _ => exact h.elim
      | _ => exact h.elim

/-! ### targets -/
section
variable {K : PySem.W.Frag} {C : Fc} {e : En} {ad : Nat → Addr} {s : w.T} {σ : L2.St} {H : Hp}
theorem kill_get {e : En} {i j : Nat} : (e.map (kill i))[j]? = (e[j]?).map (kill i) := by rw [List.getElem?_map]
theorem setS_len {e : En} {i : Nat} {t : Slot} : (setS e i t).length = e.length := by
  unfold setS; split <;> simp
theorem setS_self {e : En} {i : Nat} {t : Slot} (h : i < e.length) : (setS e i t)[i]? = some t := by
  unfold setS
  split
  · rw [List.getElem?_set_self (by simpa using h)]
  · rw [List.getElem?_set_self h]
/-- what stands at another name behind a store -/
theorem setS_ne {e : En} {i j : Nat} {t u : Slot} (ne : i ≠ j) (h : (setS e i t)[j]? = some u) : u = .non ∨ (e[j]? = some u ∧ ∀ k, u = .ali k → k = i → ∀ d, e[i]? ≠ some (.own d)) := by
  unfold setS at h
  split at h
  · next d hi =>
    rw [List.getElem?_set_ne ne, kill_get] at h
    cases hj : e[j]? with
    | none => rw [hj] at h; cases h
    | some v =>
      rw [hj] at h
      simp only [Option.map_some, Option.some.injEq] at h
      cases v with
      | ali k =>
        simp only [kill] at h
        split at h
        · exact .inl h.symm
        · next hk => subst h; exact .inr ⟨rfl, fun k' e' => by cases e'; exact fun z => absurd z hk⟩
      | _ => simp only [kill] at h; subst h; exact .inr ⟨rfl, fun k e' => by cases e'⟩
  · next hi =>
    rw [List.getElem?_set_ne ne] at h
    exact .inr ⟨h, fun k _ _ d z => hi d z⟩
/-- what is owned behind a store at i -/
theorem Os_set {e : En} {i : Nat} {t : Slot} {a : Addr} (nt : ∀ d, t ≠ .own d) (h : Os C (setS e i t) ad a) : Os C e ad a := by
  rcases h with h | ⟨j, d, h, rfl⟩
  · exact .inl h
  · by_cases ij : i = j
    · subst ij
      have hl : i < e.length := by
        have := List.getElem?_eq_some_iff.mp h
        obtain ⟨q, _⟩ := this
        rw [setS_len] at q; exact q
      rw [setS_self hl] at h
      cases h
      exact absurd rfl (nt d)
    · rcases setS_ne ij h with z | ⟨z, _⟩
      · cases z
      · exact .inr ⟨j, d, z, rfl⟩
theorem mask_sub {O O' : Addr → Prop} {H : Hp} (h : ∀ a, O' a → O a) : Le (mask O H) (mask O' H) := fun a o q => by
  obtain ⟨n, q⟩ := mask_of q
  exact ⟨o, mask_at (fun z => n (h a z)) q, .refl o⟩
/-- data stored at a name -/
theorem Rel.setDat (R : Rel w K C e ad s σ H) {i : Nat} {v : V} {d : D} (hi : i < e.length) (r : Rp K (mask (Os C e ad) H) v d) : Rel w K C (setS e i (.dat d)) ad s (σ.set i (some v)) H ∧ Le (mask (Os C e ad) H) (mask (Os C (setS e i (.dat d)) ad) H) := by
  have l : Le (mask (Os C e ad) H) (mask (Os C (setS e i (.dat d)) ad) H) := mask_sub fun a => Os_set (fun _ z => by cases z)
  refine ⟨⟨R.keep, R.draw, R.dsub, R.odom, fun j t h => ?_, fun j d' h => ?_, fun j k d1 d2 h1 h2 => ?_, by rw [List.length_set, setS_len]; exact R.len, R.base⟩, l⟩
  · by_cases ij : i = j
    · subst ij
      rw [setS_self hi] at h
      cases h
      exact ⟨v, List.getElem?_set_self (by rw [R.len]; exact hi), r.le l⟩
    · rcases setS_ne ij h with rfl | ⟨h, ha⟩
      · trivial
      · have q := R.slots j t h
        have e1 : (σ.set i (some v))[j]? = σ[j]? := List.getElem?_set_ne ij
        cases t with
        | non => trivial
        | dat d' => obtain ⟨u, e2, q⟩ := q; exact ⟨u, e1.trans e2, q.le l⟩
        | own d' => obtain ⟨e2, q⟩ := q; exact ⟨e1.trans e2, q.le l fun o z => z⟩
        | bor d' => obtain ⟨a, e2, q⟩ := q; exact ⟨a, e1.trans e2, q.le l (.refl _)⟩
        | ali k =>
          obtain ⟨⟨d', hk⟩, e2⟩ := q
          refine ⟨⟨d', ?_⟩, e1.trans e2⟩
          have ki : i ≠ k := fun z => by subst z; exact ha i rfl rfl d' hk
          unfold setS
          split
          · next d2 hi2 =>
            rw [List.getElem?_set_ne ki, kill_get, hk]; rfl
          · rw [List.getElem?_set_ne ki]; exact hk
        | drw => exact e1.trans q
  · by_cases ij : i = j
    · subst ij; rw [setS_self hi] at h; cases h
    · rcases setS_ne ij h with z | ⟨h, _⟩
      · cases z
      · exact R.own1 j d' h
  · by_cases ij : i = j
    · subst ij; rw [setS_self hi] at h1; cases h1
    · by_cases ik : i = k
      · subst ik; rw [setS_self hi] at h2; cases h2
      · rcases setS_ne ij h1 with z | ⟨h1, _⟩
        · cases z
        · rcases setS_ne ik h2 with z | ⟨h2, _⟩
          · cases z
          · exact R.own2 j k d1 d2 h1 h2
end
def Tg.all : Tg → List Nat
  | .one i => [i]
  | .many is => is
/-- behind a target -/
structure PoG (w : Wld) (K : PySem.W.Frag) (C : Fc) (e : En) (ad : Nat → Addr) (s : w.T) (σ : L2.St) (H : Hp) (js : List Nat) (e1 : En) (σ1 : L2.St) : Prop where
  rel : Rel w K C e1 ad s σ1 H
  le : Le (mask (Os C e ad) H) (mask (Os C e1 ad) H)
  rest : ∀ j, j ∉ js → σ1[j]? = σ[j]?
  len : σ1.length = σ.length
  os : ∀ a, Os C e1 ad a → Os C e ad a
def rdG (w : Wld) (K : PySem.W.Frag) (t : Tg) : TG := fun v σ H Q => ∃ (C : Fc) (e : En) (ad : Nat → Addr) (s : w.T) (d : D) (e1 : En), Rel w K C e ad s σ H ∧ Rp K (mask (Os C e ad) H) v d ∧ bindTg t d e = some e1 ∧ ∀ σ1, PoG w K C e ad s σ H t.all e1 σ1 → Q σ1 H
def rdGs (w : Wld) (K : PySem.W.Frag) (js : List Nat) : TGs := fun vs σ H Q => ∃ (C : Fc) (e : En) (ad : Nat → Addr) (s : w.T) (ds : List D) (e1 : En), Rel w K C e ad s σ H ∧ RpA K (mask (Os C e ad) H) vs ds ∧ bindMany js ds e = some e1 ∧ ∀ σ1, PoG w K C e ad s σ H js e1 σ1 → Q σ1 H
theorem _root_.L2.PG.imp {X : Cx} {e : Expr} {t t' : TG} (h : PG X e t) (i : ∀ v σ H Q, t' v σ H Q → t v σ H Q) : PG X e t' := ⟨fun pins s σ H v u Q I r q => h.run pins s σ H v u Q I r (i v σ H Q q)⟩
theorem _root_.L2.PGs.imp {X : Cx} {e : List Expr} {t t' : TGs} (h : PGs X e t) (i : ∀ v σ H Q, t' v σ H Q → t v σ H Q) : PGs X e t' := ⟨fun pins s σ H v u Q I r q => h.run pins s σ H v u Q I r (i v σ H Q q)⟩
theorem ix_lt {N : List Str} {i : Nat} {x : Str} {σ : L2.St} {e : En} (hi : N[i]? = some x) (h1 : σ.length = N.length) (h2 : σ.length = e.length) : i < e.length := by
  obtain ⟨q, _⟩ := List.getElem?_eq_some_iff.mp hi
  rw [← h2, h1]; exact q
theorem g_one {i : Nat} {x : Str} {pos : Pos} (hN : X.N.Nodup) (hi : X.N[i]? = some x) (hx : Loc X.env.scope x) (hf : X.fn x = true ∨ X.env.scope.names.lookup x = some .local) : PG X (.Name x pos) (rdG w X.K (.one i)) := by
  refine ⟨fun pins s σ H v u Q I r q => (pg_name hN hi hx hf).run pins s σ H v u Q I r ?_⟩
  obtain ⟨C, e, ad, t, d, e1, R, z, hb, k⟩ := q
  simp only [bindTg, Option.some.injEq] at hb
  subst hb
  obtain ⟨R1, l⟩ := R.setDat (ix_lt hi I.len R.len) z
  exact k _ ⟨R1, l, fun j hj => List.getElem?_set_ne (fun e => hj (by subst e; exact List.mem_singleton.mpr rfl)), by rw [List.length_set], fun a => Os_set (fun _ z => by cases z)⟩
theorem gs_nil : PGs X [] (rdGs w X.K []) := pgs_nil.imp fun vs σ H Q ⟨C, e, ad, s, ds, e1, R, z, hb, k⟩ => by
  cases ds with
  | nil =>
    cases z
    simp only [bindMany, Option.some.injEq] at hb
    subst hb
    exact ⟨rfl, k _ ⟨R, .refl _, fun _ _ => rfl, rfl, fun _ h => h⟩⟩
  | cons d ds => simp [bindMany] at hb
theorem gs_cons {i : Nat} {js : List Nat} {x : Expr} {xs : List Expr} (h : PG X x (rdG w X.K (.one i))) (hs : PGs X xs (rdGs w X.K js)) (ha : (assignEach (x :: xs) X.env).map (·.2) = assign x X.env :: (assignEach xs X.env).map (·.2)) : PGs X (x :: xs) (rdGs w X.K (i :: js)) :=
  (pgs_cons h hs ha).imp fun vs σ H Q ⟨C, e, ad, s, ds, e1, R, z, hb, k⟩ => by
    cases ds with
    | nil => simp [bindMany] at hb
    | cons d ds =>
      cases z with
      | cons z zs =>
        simp only [bindMany] at hb
        refine ⟨_, _, rfl, C, e, ad, s, d, _, R, z, rfl, fun σ1 p => ?_⟩
        refine ⟨C, _, ad, s, ds, e1, p.rel, zs.le p.le, hb, fun σ2 p2 => k σ2 ⟨p2.rel, p.le.trans p2.le, fun j hj => ?_, p2.len.trans p.len, fun a q => p.os a (p2.os a q)⟩⟩
        rw [p2.rest j fun q => hj (List.mem_cons_of_mem _ q)]
        exact p.rest j fun q => hj (by rw [show (Tg.one i).all = [i] from rfl, List.mem_singleton] at q; subst q; exact List.mem_cons_self ..)
theorem g_many {js : List Nat} {xs : List Expr} {kk n : Nat} {pos : Pos} (hc : X.calm = true) (h : PGs X xs (rdGs w X.K js)) (hn : (assignEach xs X.env).length = js.length) (hst : (assignEach xs X.env).findIdx? (·.1) = none) : PG X (.Tuple xs kk pos) (rdG w X.K (.many js)) :=
  (pg_tup hc h hn hst).imp fun v σ H Q ⟨C, e, ad, s, d, e1, R, z, hb, k⟩ => by
    cases d with
    | tup ds =>
      simp only [bindTg] at hb
      cases z with
      | tup hq r =>
        refine ⟨_, _, rfl, .inl (.inl (mask_le.tup hq)), ?_, C, e, ad, s, ds, e1, R, r, hb, k⟩
        rw [r.length]
        have : ∀ (js : List Nat) (ds : List D) (e e1 : En), bindMany js ds e = some e1 → ds.length = js.length := by
          intro js
          induction js with
          | nil => intro ds e e1 h; cases ds with
            | nil => rfl
            | cons => simp [bindMany] at h
          | cons j js ih => intro ds e e1 h; cases ds with
            | nil => simp [bindMany] at h
            | cons d ds => simp only [bindMany] at h; simp [ih _ _ _ h]
        exact this _ _ _ _ hb
    | _ => simp [bindTg] at hb
end
end Rf
/-! Reflection layer, part 14: comprehensions. -/
namespace Rf
open PySem PySem.Spec PyProof.Rows L2
section
variable {w : Wld} {X : Cx} {XE : Er → Value → Option Addr → Hp → Prop} {W : WX} {F : Fs w}
/-- no exception -/
abbrev W0 : WX := fun _ _ _ _ => False
/-! ### names forgotten -/
theorem wipeE_len : ∀ {js : List Nat} {e e0 : En}, wipeE e js = some e0 → e0.length = e.length
  | [], _, _, h => by simp [wipeE] at h; subst h; rfl
  | j :: js, e, e0, h => by
    unfold wipeE at h
    split at h
    · next e' h' =>
      split at h
      · cases h
      · cases h; rw [List.length_set]; exact wipeE_len h'
    · cases h
theorem wipeE_get : ∀ {js : List Nat} {e e0 : En} {i : Nat} {t : Slot}, wipeE e js = some e0 → e0[i]? = some t → t = .non ∨ (e[i]? = some t ∧ i ∉ js)
  | [], _, _, _, _, h, k => by simp [wipeE] at h; subst h; exact .inr ⟨k, by simp⟩
  | j :: js, e, e0, i, t, h, k => by
    unfold wipeE at h
    split at h
    · next e' h' =>
      split at h
      · cases h
      · cases h
        by_cases ij : j = i
        · subst ij
          obtain ⟨q, z⟩ := List.getElem?_eq_some_iff.mp k
          rw [List.getElem_set_self] at z
          exact .inl z.symm
        · rw [List.getElem?_set_ne ij] at k
          rcases wipeE_get h' k with z | ⟨z1, z2⟩
          · exact .inl z
          · exact .inr ⟨z1, by simp only [List.mem_cons, not_or]; exact ⟨fun q => ij q.symm, z2⟩⟩
    · cases h
theorem wipeE_own : ∀ {js : List Nat} {e e0 : En} {i : Nat} {d : D}, wipeE e js = some e0 → e[i]? = some (.own d) → e0[i]? = some (.own d)
  | [], _, _, _, _, h, k => by simp [wipeE] at h; subst h; exact k
  | j :: js, e, e0, i, d, h, k => by
    unfold wipeE at h
    split at h
    · next e' h' =>
      have ih := wipeE_own h' k
      split at h
      · cases h
      · next hn =>
        cases h
        by_cases ij : j = i
        · subst ij
          exact absurd ih (hn d)
        · rw [List.getElem?_set_ne ij]; exact ih
    · cases h
/-- a wiped name holds nothing -/
theorem wipeE_non {js : List Nat} {e e0 : En} {i : Nat} {t : Slot} (h : wipeE e js = some e0) (k : e0[i]? = some t) (m : i ∈ js) : t = .non := (wipeE_get h k).elim id fun z => absurd m z.2
theorem mask_same {O O' : Addr → Prop} {H : Hp} (h : ∀ a, O' a → O a) : Le (mask O H) (mask O' H) := mask_sub h
section
variable {K : PySem.W.Frag} {C : Fc} {e e0 : En} {ad : Nat → Addr} {s : w.T} {σ : L2.St} {H : Hp}
theorem Os_wipe {js : List Nat} (h : wipeE e js = some e0) {a : Addr} : Os C e0 ad a ↔ Os C e ad a := by
  constructor
  · rintro (z | ⟨i, d, z, rfl⟩)
    · exact .inl z
    · rcases wipeE_get h z with q | ⟨q, _⟩
      · cases q
      · exact .inr ⟨i, d, q, rfl⟩
  · rintro (z | ⟨i, d, z, rfl⟩)
    · exact .inl z
    · exact .inr ⟨i, d, wipeE_own h z, rfl⟩
theorem Rel.wipe (R : Rel w K C e ad s σ H) {js : List Nat} (h : wipeE e js = some e0) : Rel w K C e0 ad s (L2.wipe σ js) H := by
  have l : Le (mask (Os C e ad) H) (mask (Os C e0 ad) H) := mask_sub fun a z => (Os_wipe h).mp z
  refine ⟨R.keep, R.draw, R.dsub, R.odom, fun i t hi => ?_, fun i d hi => ?_, fun i j d d' hi hj => ?_, by rw [wipe_length, wipeE_len h]; exact R.len, R.base⟩
  · rcases wipeE_get h hi with rfl | ⟨hi, ni⟩
    · trivial
    · have q := R.slots i t hi
      have e1 : (L2.wipe σ js)[i]? = σ[i]? := wipe_out ni
      cases t with
      | non => trivial
      | dat d => obtain ⟨v, e2, r⟩ := q; exact ⟨v, e1.trans e2, r.le l⟩
      | own d => obtain ⟨e2, r⟩ := q; exact ⟨e1.trans e2, r.le l fun o z => z⟩
      | bor d => obtain ⟨a, e2, r⟩ := q; exact ⟨a, e1.trans e2, r.le l (.refl _)⟩
      | ali k => obtain ⟨⟨d, hk⟩, e2⟩ := q; exact ⟨⟨d, wipeE_own h hk⟩, e1.trans e2⟩
      | drw => exact e1.trans q
  · rcases wipeE_get h hi with q | ⟨q, _⟩
    · cases q
    · exact R.own1 i d q
  · rcases wipeE_get h hi with q | ⟨hi, _⟩
    · cases q
    · rcases wipeE_get h hj with q | ⟨hj, _⟩
      · cases q
      · exact R.own2 i j d d' hi hj
/-- one more address out of sight -/
def Fc.hide (C : Fc) (p : Addr) : Fc := { C with O0 := fun a => C.O0 a ∨ a = p }
theorem Os_hide {p a : Addr} : Os (C.hide p) e ad a ↔ (Os C e ad a ∨ a = p) := by
  constructor
  · rintro ((z | z) | z)
    · exact .inl (.inl z)
    · exact .inr z
    · exact .inl (.inr z)
  · rintro ((z | z) | z)
    · exact .inl (.inl z)
    · exact .inr z
    · exact .inl (.inr z)
theorem draw_hide {p : Addr} : DrawAt w (C.hide p) s H ↔ DrawAt w C s H := by cases s <;> exact Iff.rfl
/-- a new object, hidden -/
theorem Rel.hideNew (R : Rel w K C e ad s σ H) {p : Addr} {o : HO} (n : H p = none) (nt : NT o) : Rel w K (C.hide p) e ad s σ (upd H p o) := by
  have R1 : Rel w K C e ad s σ (upd H p o) := R.ext (.new n) (R.draw.new n)
  have l : Le (mask (Os C e ad) H) (mask (Os (C.hide p) e ad) (upd H p o)) := fun a u h => by
    obtain ⟨n1, h⟩ := mask_of h
    have ne := ne_of_none h n
    exact ⟨u, mask_at (fun z => (Os_hide.mp z).elim n1 ne) (by rw [upd_ne ne]; exact h), .refl u⟩
  refine ⟨R1.keep, draw_hide.mpr R1.draw, fun a h => .inl (R.dsub a h), fun a h => ?_, fun i t hi => ?_, fun i d hi => ⟨fun z => ?_, (R.own1 i d hi).2⟩, R.own2, R.len, R.base⟩
  · rcases h with h | rfl
    · exact R1.odom a h
    · exact ⟨_, upd_same, nt⟩
  · have q := R.slots i t hi
    cases t with
    | non => trivial
    | dat d => obtain ⟨v, e2, r⟩ := q; exact ⟨v, e2, r.le l⟩
    | own d => obtain ⟨e2, r⟩ := q; exact ⟨e2, r.le l fun o z => by rw [upd_ne (ne_of_none z n)]; exact z⟩
    | bor d => obtain ⟨a, e2, r⟩ := q; exact ⟨a, e2, r.le l (.refl _)⟩
    | ali k => exact q
    | drw => exact q
  · rcases z with z | z
    · exact (R.own1 i d hi).1 z
    · obtain ⟨_, r⟩ := R.slots i _ hi
      obtain ⟨o, ho, _⟩ := r.there
      rw [z, n] at ho; cases ho
/-- what is out of sight may change -/
theorem Rel.hop (R : Rel w K C e ad s σ H) {p : Addr} {H5 : Hp} {s5 : w.T} (h0 : C.O0 p) (hn : C.H0 p = none) (k : ∀ a o, H a = some o → ¬ C.Dm a → a ≠ p → H5 a = some o) (hp : ∃ o, H5 p = some o ∧ NT o) (dr : DrawAt w C s5 H5) : Rel w K C e ad s5 σ H5 := by
  have l : Le (mask (Os C e ad) H) (mask (Os C e ad) H5) := fun a u h => by
    obtain ⟨n1, h⟩ := mask_of h
    exact ⟨u, mask_at n1 (k a u h (fun d => n1 (R.dOs d)) fun z => n1 (by rw [z]; exact .inl h0)), .refl u⟩
  refine ⟨fun a u h q => ?_, dr, R.dsub, fun a h => ?_, fun i t hi => ?_, R.own1, R.own2, R.len, R.base⟩
  · exact k a u (R.keep a u h q) q (ne_of_none h hn)
  · by_cases z : a = p
    · subst z; exact hp
    · by_cases hd : C.Dm a
      · exact dr.dom hd
      · obtain ⟨o, ho, m⟩ := R.odom a h; exact ⟨o, k a o ho hd z, m⟩
  · have q := R.slots i t hi
    cases t with
    | non => trivial
    | dat d => obtain ⟨v, e2, r⟩ := q; exact ⟨v, e2, r.le l⟩
    | own d => obtain ⟨e2, r⟩ := q; exact ⟨e2, r.le l fun u z => k _ u z (fun d' => (R.own1 i d hi).1 (R.dsub _ d')) fun y => (R.own1 i d hi).1 (by rw [y]; exact h0)⟩
    | bor d => obtain ⟨a, e2, r⟩ := q; exact ⟨a, e2, r.le l (.refl _)⟩
    | ali k => exact q
    | drw => exact q
theorem Rel.touch (R : Rel w K C e ad s σ H) {p : Addr} {o : HO} (nt : NT o) (h0 : C.O0 p) (hn : C.H0 p = none) (nd : ¬ C.Dm p) : Rel w K C e ad s σ (upd H p o) :=
  R.hop h0 hn (fun a u h _ n => by rw [upd_ne n]; exact h) ⟨_, upd_same, nt⟩ (R.draw.same fun a d => upd_ne (fun z => nd (by rw [← z]; exact d)))
theorem bindMany_own : ∀ {js : List Nat} {ds : List D} {e e1 : En}, bindMany js ds e = some e1 → (∀ j ∈ js, ∀ d, e[j]? ≠ some (.own d)) → ∀ (i : Nat) d, e[i]? = some (.own d) → e1[i]? = some (.own d)
  | [], [], e, e1, h, _, i, d, k => by simp [bindMany] at h; subst h; exact k
  | [], _ :: _, _, _, h, _, _, _, _ => by simp [bindMany] at h
  | _ :: _, [], _, _, h, _, _, _, _ => by simp [bindMany] at h
  | j :: js, x :: ds, e, e1, h, n, i, d, k => by
    simp only [bindMany] at h
    have nj := n j (List.mem_cons_self ..)
    have es : setS e j (.dat x) = e.set j (.dat x) := by
      unfold setS
      split
      · next d' hd => exact absurd hd (nj d')
      · rfl
    rw [es] at h
    have ne : j ≠ i := fun z => by subst z; exact nj d k
    refine bindMany_own h (fun j' hj' d' z => ?_) i d (by rw [List.getElem?_set_ne ne]; exact k)
    by_cases jj : j = j'
    · subst jj
      obtain ⟨q, y⟩ := List.getElem?_eq_some_iff.mp z
      rw [List.getElem_set_self] at y
      cases y
    · rw [List.getElem?_set_ne jj] at z
      exact n j' (List.mem_cons_of_mem _ hj') d' z
theorem bindTg_own {t : Tg} {d0 : D} {e e1 : En} (h : bindTg t d0 e = some e1) (n : ∀ j ∈ t.all, ∀ d, e[j]? ≠ some (.own d)) : ∀ (i : Nat) d, e[i]? = some (.own d) → e1[i]? = some (.own d) := by
  cases t with
  | one j =>
    refine bindMany_own (js := [j]) (ds := [d0]) (e := e) ?_ n
    simpa [bindMany, bindTg] using h
  | many js =>
    cases d0 with
    | tup ds => exact bindMany_own (js := js) (ds := ds) (e := e) (by simpa [bindTg] using h) n
    | _ => simp [bindTg] at h
end
theorem wipe_eq {σ σ2 : L2.St} {js ks : List Nat} (hl : σ2.length = (L2.wipe σ js).length) (h : ∀ j, j ∉ ks → σ2[j]? = (L2.wipe σ js)[j]?) (sub : ∀ j ∈ ks, j ∈ js) : L2.wipe σ2 js = L2.wipe σ js := by
  refine List.ext_getElem? fun i => ?_
  have no : ∀ (τ : L2.St) (ls : List Nat), i ∈ ls → (L2.wipe τ ls)[i]? = if i < τ.length then some none else none := by
    intro τ ls
    induction ls with
    | nil => intro h; cases h
    | cons l ls ih =>
      intro hm
      unfold L2.wipe
      by_cases il : l = i
      · subst il
        split
        · next hl => rw [List.getElem?_set_self (by rw [wipe_length]; exact hl)]
        · next hl => rw [List.getElem?_eq_none (by rw [List.length_set, wipe_length]; omega)]
      · rw [List.getElem?_set_ne il]
        rcases List.mem_cons.mp hm with z | z
        · exact absurd z.symm il
        · exact ih z
  by_cases hi : i ∈ js
  · rw [no _ _ hi, no _ _ hi, hl, wipe_length]
  · rw [wipe_out hi]
    exact h i fun z => hi (sub i z)

/-! ### the loop -/
theorem calm_ok {S α : Type} {r : Rs S α} {a : α} {s : S} (h : r.calm = .ok a s) : r = .ok a s := by
  cases r with
  | ok => exact h
  | err => cases h
  | stuck => cases h
theorem bind_okI {S α β : Type} {r : Rs S α} {f : α → S → Rs S β} {b : β} {s : S} (h : r.bind f = .ok b s) : ∃ a s1, r = .ok a s1 ∧ f a s1 = .ok b s := by
  cases r with
  | ok a s1 => exact ⟨a, s1, rfl, h⟩
  | err => cases h
  | stuck => cases h
theorem lift_okI {S α : Type} {o : Option α} {a : α} {s s' : S} (h : Rs.lift o s = .ok a s') : o = some a ∧ s' = s := by
  cases o with
  | none => cases h
  | some => cases h; exact ⟨rfl, rfl⟩
theorem lcLoop_ne {own : List Nat} {t : Tg} {c : En → w.T → Rs w.T Bool} {f : En → w.T → Rs w.T D} {e : En} : ∀ {ds acc : List D} {s s' : w.T} {er : Er}, lcLoop own t c f e ds acc s ≠ .err er s'
  | [], _, _, _, _ => by simp [lcLoop]
  | d :: ds, acc, s, s', er => by
    unfold lcLoop
    cases bindTg t d e with
    | none => simp
    | some e1 =>
      simp only [Rs.lift_some, Rs.bind_ok]
      cases c e1 s with
      | err => simp
      | stuck => simp
      | ok b s2 =>
        simp only [Rs.calm_ok, Rs.bind_ok]
        cases b with
        | false => simp only [Bool.false_eq_true, if_false]; exact lcLoop_ne
        | true =>
          simp only [if_true]
          cases f e1 s2 with
          | err => simp
          | stuck => simp
          | ok x s3 =>
            simp only [Rs.calm_ok, Rs.bind_ok]
            split
            · exact lcLoop_ne
            · simp
/-- what stands at a turn of the loop -/
structure LS (w : Wld) (K : PySem.W.Frag) (C : Fc) (e : En) (ad : Nat → Addr) (D0 : Addr) (H1 : Hp) (σ : L2.St) (s : w.T) (acc : List D) (H : Hp) : Prop where
  rel : Rel w K C e ad s σ H
  kp : Kp C.Dm H1 H
  new : ∃ vs, H D0 = some (.lst vs) ∧ RpA K (mask (Os C e ad) H) vs acc
  o0 : C.O0 D0
  nd : ¬ C.Dm D0
  n0 : C.H0 D0 = none
  n1 : H1 D0 = none
theorem lc_walk {K : PySem.W.Frag} {C : Fc} {e : En} {ad : Nat → Addr} {D0 : Addr} {H1 Hs : Hp} {σ : L2.St} {vs : List Nat} {s s2 : w.T} {acc ys ds : List D} {J : It} {Src : Hp → Hp → Prop} {t : Tg} {c : MO} {f : ME} {Fin : Hp → Prop} {ow : List Nat}
    (ls : LS w K C e ad D0 H1 (L2.wipe σ vs) s acc Hs) (ok : IOk w K C.Dm Src J ds) (src : ∀ H, Kp C.Dm H1 H → Src (mask (Os C e ad) H) H)
    (lo : lcLoop ow t (denC F c) (denE F f) e ds acc s = .ok ys s2) (sub : ∀ j ∈ t.all, j ∈ vs) (nw : ∀ j ∈ vs, ∀ d, e[j]? ≠ some (.own d))
    (fin : ∀ H, LS w K C e ad D0 H1 (L2.wipe σ vs) s2 ys H → Fin H) :
    ∃ W : Nat → Nat → Hp → Prop, (∃ m, W 0 m Hs) ∧ ∀ i m H, W i m H →
      (J.stop i H ∧ Fin H) ∨ (J.go i H ∧ ∃ Nx : Hp → Prop, (∀ H', Nx H' → ∃ m', m' < m ∧ W (i + 1) m' H') ∧ ∀ x H', J.yld i H x H' → rdG w K t x (L2.wipe σ vs) H' fun σ2 H2 => L2.wipe σ2 vs = L2.wipe σ vs ∧ rd w K XE W0 ZB (denC F c) σ2 H2 fun b H3 =>
        if b = true then rd w K XE W0 (ZE K) (denE F f) σ2 H3 fun y H4 => ∃ acc, H4 D0 = some (.lst acc) ∧ acc.length < sizeLine ∧ Nx (upd H4 D0 (.lst (acc ++ [y]))) else Nx H3) := by
  refine ⟨fun i m H => m = ds.length - i ∧ i ≤ ds.length ∧ ∃ acc s, LS w K C e ad D0 H1 (L2.wipe σ vs) s acc H ∧ lcLoop ow t (denC F c) (denE F f) e (ds.drop i) acc s = .ok ys s2, ⟨ds.length, by simp, Nat.zero_le _, acc, s, ls, by simpa using lo⟩, ?_⟩
  rintro i m H ⟨rfl, hi, acc, s, ls, lo⟩
  by_cases hlt : i < ds.length
  · obtain ⟨d, hd⟩ : ∃ d, ds[i]? = some d := ⟨ds[i], List.getElem?_eq_getElem hlt⟩
    have hdr : ds.drop i = d :: ds.drop (i + 1) := by
      rw [List.drop_eq_getElem_cons hlt]
      rw [List.getElem?_eq_getElem hlt] at hd
      cases hd; rfl
    rw [hdr] at lo
    unfold lcLoop at lo
    obtain ⟨e1, s1', hb0, lo1⟩ := bind_okI lo
    obtain ⟨hb, es⟩ := lift_okI hb0
    rw [es] at lo1
    obtain ⟨b, sb, hc0, lo2⟩ := bind_okI lo1
    have hc := calm_ok hc0
    clear lo lo1
    have lo := lo2
    clear lo2
    obtain ⟨go, yl⟩ := ok.go rfl ls.rel (src H ls.kp) hd
    refine .inr ⟨go, fun H' => i + 1 ≤ ds.length ∧ ∃ acc s, LS w K C e ad D0 H1 (L2.wipe σ vs) s acc H' ∧ lcLoop ow t (denC F c) (denE F f) e (ds.drop (i + 1)) acc s = .ok ys s2, fun H' h' => ⟨ds.length - (i + 1), by omega, rfl, h'.1, h'.2⟩, fun x H' hy => ?_⟩
    obtain ⟨p, z⟩ := yl x H' hy
    have R' := ls.rel.ext p.kp p.dr
    refine ⟨C, e, ad, _, d, e1, R', z, hb, fun σ2 pg => ⟨wipe_eq (by rw [pg.len]) (fun j hj => pg.rest j hj) sub, C, e1, ad, _, pg.rel, ?_⟩⟩
    have hso : ∀ a, Os C e ad a → Os C e1 ad a := fun a z => by
      rcases z with z | ⟨k, d', z, rfl⟩
      · exact .inl z
      · exact .inr ⟨k, d', bindTg_own hb (fun j hj d => nw j (sub j hj) d) k d' z, rfl⟩
    -- back at the turn's end
    have back : ∀ {H5 : Hp} {s5 : w.T} {σ' : L2.St} {e' : En}, Kp C.Dm H' H5 → DrawAt w C s5 H5 → LS w K C e ad D0 H1 (L2.wipe σ vs) s5 acc H5 := fun {H5 s5 _ _} k dr => by
      obtain ⟨vs', hD, ra⟩ := ls.new
      have kk := p.kp.trans k
      exact ⟨ls.rel.ext kk dr, ls.kp.trans kk, ⟨vs', kk _ _ hD ls.nd, ra.le (ls.rel.le kk)⟩, ls.o0, ls.nd, ls.n0, ls.n1⟩
    rw [hc]
    intro b' H3 p3 hbb
    cases (show b' = b from hbb)
    cases b with
    | false =>
      simp only [Bool.false_eq_true, if_false] at lo ⊢
      exact ⟨hlt, acc, sb, back (σ' := σ2) (e' := e1) p3.kp p3.dr, lo⟩
    | true =>
      simp only [if_true] at lo ⊢
      obtain ⟨y, sy, hf, lo⟩ := bind_okI lo
      have hf := calm_ok hf
      refine ⟨C, e1, ad, sb, pg.rel.ext p3.kp p3.dr, ?_⟩
      rw [hf]
      intro v H4 p4 zy
      have l4 := back (σ' := σ2) (e' := e1) (p3.kp.trans p4.kp) p4.dr
      obtain ⟨vs', hD, ra⟩ := l4.new
      split at lo
      · next hz =>
        refine ⟨vs', hD, by rw [ra.length]; exact hz, hlt, acc ++ [y], sy, ⟨l4.rel.touch (o := .lst (vs' ++ [v])) trivial ls.o0 ls.n0 ls.nd, fun a o h q => ?_, ⟨vs' ++ [v], upd_same, ?_⟩, ls.o0, ls.nd, ls.n0, ls.n1⟩, lo⟩
        · rw [upd_ne (ne_of_none h ls.n1)]; exact l4.kp a o h q
        · have lm : Le (mask (Os C e ad) H4) (mask (Os C e ad) (upd H4 D0 (.lst (vs' ++ [v])))) := fun a u h => by
            obtain ⟨n1, h⟩ := mask_of h
            exact ⟨u, mask_at n1 (by rw [upd_ne (fun z => n1 (by rw [z]; exact .inl ls.o0))]; exact h), .refl u⟩
          refine (ra.le lm).append (.cons ?_ .nil)
          exact (Rp.le (mask_sub hso) (show Rp K (mask (Os C e1 ad) H4) v y from zy)).le lm
      · cases lo
  · have e' : i = ds.length := by omega
    subst e'
    rw [List.drop_length] at lo
    simp only [lcLoop] at lo
    cases lo
    exact .inl ⟨ok.stop rfl ls.rel (src H ls.kp), fin H ls⟩
end
end Rf
/-! Reflection layer, part 15: comprehensions, as values. -/
namespace Rf
open PySem PySem.Spec PyProof.Rows L2
section
variable {w : Wld} {X : Cx} {XE : Er → Value → Option Addr → Hp → Prop} {W : WX} {F : Fs w}
theorem denE_lc (t : Tg) (own : List Nat) (it : MI) (c : MO) (f : ME) : denE F (.lc t own it c f) = fun e s => (denI F it e s).bind fun ds s1 => match wipeE e own with
    | some e0 => (lcLoop own t (denC F c) (denE F f) e0 ds [] s1).bind fun ys s2 => .ok (.lst ys) s2
    | none => .stuck := by funext e s; simp only [denE] <;> rfl
def lcIn (F : Fs w) (own1 : List Nat) (t1 : Tg) (it1 : MI) (c1 : MO) (f : ME) (e1 : En) (acc : List D) (s : w.T) : Rs w.T (List D) := (denI F it1 e1 s).bind fun ds1 t1' => match wipeE e1 own1 with
    | some e2 => lcLoop own1 t1 (denC F c1) (denE F f) e2 ds1 acc t1'
    | none => .stuck
theorem denE_lc2 (t : Tg) (own own1 : List Nat) (it : MI) (c : MO) (t1 : Tg) (it1 : MI) (c1 : MO) (f : ME) : denE F (.lc2 t own own1 it c t1 it1 c1 f) = fun e s => (denI F it e s).bind fun ds s1 => match wipeE e own with
    | some e0 => (lcOuter t (denC F c) (lcIn F own1 t1 it1 c1 f) e0 ds [] s1).bind fun ys s2 => .ok (.lst ys) s2
    | none => .stuck := by funext e s; simp only [denE] <;> rfl
/-- the loop's end: the new list -/
theorem lc_end {K : PySem.W.Frag} {C : Fc} {e e0 : En} {ad : Nat → Addr} {H H1 H2 : Hp} {D0 : Addr} {σ0 : L2.St} {s2 : w.T} {ys : List D} {js : List Nat} (hw : wipeE e js = some e0) (kp : Kp C.Dm H H1) (n : H D0 = none) (ls : LS w K (C.hide D0) e0 ad D0 H1 σ0 s2 ys H2) : PoE w K C e ad H s2 H2 ∧ ZF K C e ad H H2 (.ref D0) (.lst ys) := by
  obtain ⟨vs, hD, r⟩ := ls.new
  refine ⟨⟨kp.trans ls.kp, draw_hide.mp ls.rel.draw⟩, D0, rfl, n, .lst hD (r.le (mask_sub fun a z => ?_))⟩
  refine Os_hide.mpr ?_
  rcases z with z | z
  · exact .inl ((Os_wipe hw).mpr z)
  · exact .inr z
theorem lc_start {K : PySem.W.Frag} {C : Fc} {e e0 : En} {ad : Nat → Addr} {H1 : Hp} {D0 : Addr} {σ : L2.St} {s : w.T} {js : List Nat} (R : Rel w K C e ad s σ H1) (hw : wipeE e js = some e0) (n : H1 D0 = none) : LS w K (C.hide D0) e0 ad D0 H1 (L2.wipe σ js) s [] (upd H1 D0 (.lst [])) := by
  have R0 := R.wipe hw
  refine ⟨R0.hideNew n trivial, .new n, ⟨[], upd_same, .nil⟩, .inr rfl, R.draw.nd n, ?_, n⟩
  cases h : C.H0 D0 with
  | none => exact h
  | some o =>
    have q := R.keep _ _ h (R.draw.nd n)
    rw [n] at q; cases q
/-- where the sources stay in sight -/
theorem lc_src {C : Fc} {e e0 : En} {ad : Nat → Addr} {H1 : Hp} {D0 : Addr} {js : List Nat} {Src : Hp → Hp → Prop} (hw : wipeE e js = some e0) (n : H1 D0 = none) (nd : ∀ a, C.Dm a → Os C e ad a) (keep : ∀ M' H2, Le (mask (Os C e ad) H1) M' → KpX C H1 H2 → Src M' H2) (H : Hp) (k : Kp C.Dm H1 H) : Src (mask (Os (C.hide D0) e0 ad) H) H := by
  refine keep _ _ (fun a o h => ?_) k.x
  obtain ⟨n1, h⟩ := mask_of h
  refine ⟨o, mask_at (fun z => ?_) (k a o h fun d => n1 (nd a d)), .refl o⟩
  rcases Os_hide.mp z with z | z
  · exact n1 ((Os_wipe hw).mp z)
  · exact ne_of_none h n z
theorem lc_read {P : En → Prop} {t : Tg} {js : List Nat} {it : MI} {c : MO} {f : ME} (sub : ∀ j ∈ t.all, j ∈ js) {σ : L2.St} {H : Hp} {Q : VK} (q : RF w X XE W (denE F (.lc t js it c f)) σ H Q) :
    tLc (rdI w X.K XE W P (denI F it)) (rdG w X.K t) (rd w X.K XE W0 ZB (denC F c)) (rd w X.K XE W0 (ZE X.K) (denE F f)) js σ H Q := by
  obtain ⟨C, e, ad, s, R, h⟩ := q
  rw [denE_lc] at h
  refine ⟨C, e, ad, s, R, ?_⟩
  cases hd : denI F it e s with
  | err er s1 => simp only [hd, Rs.bind_err] at h ⊢; exact h
  | stuck => simp only [hd, Rs.bind_stuck] at h
  | ok ds s1 =>
    simp only [hd, Rs.bind_ok] at h ⊢
    intro J H1 Src p keep _ ok D0 n
    have R1 := R.ext p.kp p.dr
    cases hw : wipeE e js with
    | none => simp only [hw] at h
    | some e0 =>
      simp only [hw] at h
      cases hl : lcLoop js t (denC F c) (denE F f) e0 ds [] s1 with
      | err => exact absurd hl lcLoop_ne
      | stuck => simp only [hl, Rs.bind_stuck] at h
      | ok ys s2 =>
        simp only [hl, Rs.bind_ok] at h
        have ls := lc_start R1 hw n
        refine lc_walk ls (show IOk w X.K (C.hide D0).Dm Src J ds from ok) (lc_src hw n (fun a d => R1.dOs d) keep) hl sub (fun j hj d z => ?_) fun H2 ls2 => ?_
        · have := wipeE_non hw z hj
          cases this
        · obtain ⟨p2, z2⟩ := lc_end hw p.kp (p.kp.none n (R1.draw.nd n)) ls2
          exact h _ _ p2 z2
theorem lcOuter_ne {t : Tg} {c : En → w.T → Rs w.T Bool} {g : En → List D → w.T → Rs w.T (List D)} {e : En} : ∀ {ds acc : List D} {s s' : w.T} {er : Er}, lcOuter t c g e ds acc s ≠ .err er s'
  | [], _, _, _, _ => by simp [lcOuter]
  | d :: ds, acc, s, s', er => by
    unfold lcOuter
    cases bindTg t d e with
    | none => simp
    | some e1 =>
      simp only [Rs.lift_some, Rs.bind_ok]
      cases c e1 s with
      | err => simp
      | stuck => simp
      | ok b s2 =>
        simp only [Rs.calm_ok, Rs.bind_ok]
        cases b with
        | false => simp only [Bool.false_eq_true, if_false]; exact lcOuter_ne
        | true =>
          simp only [if_true]
          cases g e1 acc s2 with
          | err => simp
          | stuck => simp
          | ok x s3 =>
            simp only [Rs.calm_ok, Rs.bind_ok]
            exact lcOuter_ne
theorem lc2_read {P P1 : En → Prop} {t t1 : Tg} {js js1 : List Nat} {it it1 : MI} {c c1 : MO} {f : ME} (sub : ∀ j ∈ t.all, j ∈ js) (sub1 : ∀ j ∈ t1.all, j ∈ js1) {σ : L2.St} {H : Hp} {Q : VK} (q : RF w X XE W (denE F (.lc2 t js js1 it c t1 it1 c1 f)) σ H Q) :
    tLc2 (rdI w X.K XE W P (denI F it)) (rdG w X.K t) (rd w X.K XE W0 ZB (denC F c)) (rdI w X.K XE W0 P1 (denI F it1)) (rdG w X.K t1) (rd w X.K XE W0 ZB (denC F c1)) (rd w X.K XE W0 (ZE X.K) (denE F f)) js js1 σ H Q := by
  obtain ⟨C0, e, ad, s, R, h⟩ := q
  rw [denE_lc2] at h
  refine ⟨C0, e, ad, s, R, ?_⟩
  cases hd : denI F it e s with
  | err er s1 => simp only [hd, Rs.bind_err] at h ⊢; exact h
  | stuck => simp only [hd, Rs.bind_stuck] at h
  | ok ds s1 =>
    simp only [hd, Rs.bind_ok] at h ⊢
    intro J H1 Src p keep _ ok D0 n
    have R1 := R.ext p.kp p.dr
    cases hw : wipeE e js with
    | none => simp only [hw] at h
    | some e0 =>
      simp only [hw] at h
      cases hl : lcOuter t (denC F c) (lcIn F js1 t1 it1 c1 f) e0 ds [] s1 with
      | err => exact absurd hl lcOuter_ne
      | stuck => simp only [hl, Rs.bind_stuck] at h
      | ok ys s2 =>
        simp only [hl, Rs.bind_ok] at h
        have ls := lc_start R1 hw n
        have src : ∀ H, Kp (C0.hide D0).Dm H1 H → Src (mask (Os (C0.hide D0) e0 ad) H) H := fun H k => lc_src (ad := ad) hw n (fun a d => R1.dOs d) keep H k
        have nw : ∀ j ∈ js, ∀ d, e0[j]? ≠ some (.own d) := fun j hj d z => by
          have := wipeE_non hw z hj
          cases this
        have fin : ∀ H2, LS w X.K (C0.hide D0) e0 ad D0 H1 (L2.wipe σ js) s2 ys H2 → Q (.ref D0) H2 := fun H2 ls2 => by
          obtain ⟨p2, z2⟩ := lc_end hw p.kp (p.kp.none n (R1.draw.nd n)) ls2
          exact h _ _ p2 z2
        have ok : IOk w X.K (C0.hide D0).Dm Src J ds := ok
        clear h keep
        generalize C0.hide D0 = C at ls src fin ok
        refine ⟨fun i m H => m = ds.length - i ∧ i ≤ ds.length ∧ ∃ acc s, LS w X.K C e0 ad D0 H1 (L2.wipe σ js) s acc H ∧ lcOuter t (denC F c) (lcIn F js1 t1 it1 c1 f) e0 (ds.drop i) acc s = .ok ys s2, ⟨ds.length, by simp, Nat.zero_le _, [], s1, ls, by simpa using hl⟩, ?_⟩
        clear ls hl
        rintro i m H ⟨rfl, hi, acc, s, ls, lo⟩
        by_cases hlt : i < ds.length
        · obtain ⟨d, hd⟩ : ∃ d, ds[i]? = some d := ⟨ds[i], List.getElem?_eq_getElem hlt⟩
          have hdr : ds.drop i = d :: ds.drop (i + 1) := by
            rw [List.drop_eq_getElem_cons hlt]
            rw [List.getElem?_eq_getElem hlt] at hd
            cases hd; rfl
          rw [hdr] at lo
          unfold lcOuter at lo
          obtain ⟨e1, s1', hb0, lo1⟩ := bind_okI lo
          obtain ⟨hb, es⟩ := lift_okI hb0
          rw [es] at lo1
          obtain ⟨b, sb, hc0, lo2⟩ := bind_okI lo1
          have hc := calm_ok hc0
          clear lo lo1
          have lo := lo2
          clear lo2
          obtain ⟨go, yl⟩ := ok.go rfl ls.rel (src H ls.kp) hd
          refine .inr ⟨go, fun H' => i + 1 ≤ ds.length ∧ ∃ acc s, LS w X.K C e0 ad D0 H1 (L2.wipe σ js) s acc H' ∧ lcOuter t (denC F c) (lcIn F js1 t1 it1 c1 f) e0 (ds.drop (i + 1)) acc s = .ok ys s2, fun H' h' => ⟨ds.length - (i + 1), by omega, rfl, h'.1, h'.2⟩, fun x H' hy => ?_⟩
          obtain ⟨p, z⟩ := yl x H' hy
          have R' := ls.rel.ext p.kp p.dr
          refine ⟨C, e0, ad, _, d, e1, R', z, hb, fun σ2 pg => ⟨wipe_eq (by rw [pg.len]) (fun j hj => pg.rest j hj) sub, C, e1, ad, _, pg.rel, ?_⟩⟩
          have hso : ∀ a, Os C e0 ad a → Os C e1 ad a := fun a z => by
            rcases z with z | ⟨k, d', z, rfl⟩
            · exact .inl z
            · exact .inr ⟨k, d', bindTg_own hb (fun j hj d => nw j (sub j hj) d) k d' z, rfl⟩
          have back : ∀ {H5 : Hp} {s5 : w.T}, Kp C.Dm H' H5 → DrawAt w C s5 H5 → LS w X.K C e0 ad D0 H1 (L2.wipe σ js) s5 acc H5 := fun {H5 s5} k dr => by
            obtain ⟨vs', hD, ra⟩ := ls.new
            have kk := p.kp.trans k
            exact ⟨ls.rel.ext kk dr, ls.kp.trans kk, ⟨vs', kk _ _ hD ls.nd, ra.le (ls.rel.le kk)⟩, ls.o0, ls.nd, ls.n0, ls.n1⟩
          rw [hc]
          intro b' H3 p3 hbb
          cases (show b' = b from hbb)
          cases b with
          | false =>
            simp only [Bool.false_eq_true, if_false] at lo ⊢
            exact ⟨hlt, acc, sb, back p3.kp p3.dr, lo⟩
          | true =>
            simp only [if_true] at lo ⊢
            obtain ⟨acc', sy, hf0, lo1⟩ := bind_okI lo
            have hf := calm_ok hf0
            unfold lcIn at hf
            obtain ⟨ds1, s3, hi1, hf1⟩ := bind_okI hf
            refine ⟨C, e1, ad, sb, pg.rel.ext p3.kp p3.dr, ?_⟩
            rw [hi1]
            intro J1 H4 Src1 p4 keep1 _ ok1
            cases hw1 : wipeE e1 js1 with
            | none => simp only [hw1] at hf1; cases hf1
            | some e2 =>
              simp only [hw1] at hf1
              have R4 := pg.rel.ext (p3.kp.trans p4.kp) p4.dr
              obtain ⟨vs', hD, ra⟩ := (back (p3.kp.trans p4.kp) p4.dr).new
              have l12 : ∀ {H : Hp}, Le (mask (Os C e0 ad) H) (mask (Os C e2 ad) H) := mask_sub fun a z => pg.os a ((Os_wipe hw1).mp z)
              have l21 : ∀ {H : Hp}, Le (mask (Os C e2 ad) H) (mask (Os C e0 ad) H) := mask_sub fun a z => (Os_wipe hw1).mpr (hso a z)
              have n4 := ls.kp.trans (p.kp.trans (p3.kp.trans p4.kp))
              -- the heap without the new list
              have hR : ∀ a o, H4 a = some o → a ≠ D0 → (fun a => if a = D0 then none else H4 a : Hp) a = some o := fun a o h q => by show (if a = D0 then none else H4 a) = some o; rw [if_neg q]; exact h
              have hR0 : (fun a => if a = D0 then none else H4 a : Hp) D0 = none := if_pos rfl
              have hRL : ∀ a o, (fun a => if a = D0 then none else H4 a : Hp) a = some o → a ≠ D0 ∧ H4 a = some o := fun a o h => by
                have h : (if a = D0 then none else H4 a) = some o := h
                split at h
                · cases h
                · next q => exact ⟨q, h⟩
              generalize (fun a => if a = D0 then none else H4 a : Hp) = HR at hR hR0 hRL
              have ls1 : LS w X.K C e2 ad D0 HR (L2.wipe σ2 js1) s3 acc H4 := ⟨R4.wipe hw1, fun a o h _ => (hRL a o h).2, ⟨vs', hD, ra.le l12⟩, ls.o0, ls.nd, ls.n0, hR0⟩
              have src1 : ∀ H5, Kp C.Dm HR H5 → Src1 (mask (Os C e2 ad) H5) H5 := fun H5 k => keep1 _ _ (fun a o h => by
                obtain ⟨n1, h⟩ := mask_of h
                exact ⟨o, mask_at (fun z => n1 ((Os_wipe hw1).mp z)) (k a o (hR a o h fun z => n1 (by rw [z]; exact .inl ls.o0)) fun d => n1 (.inl (R4.dsub a d))), .refl o⟩) fun a o h d q => k a o (hR a o h fun z => q (by rw [z]; exact ⟨ls.o0, ls.n0⟩)) d
              refine lc_walk ls1 ok1 src1 hf1 sub1 (fun j hj d z => by have := wipeE_non hw1 z hj; cases this) fun H5 ls5 => ⟨hlt, acc', sy, ⟨?_, fun a o h d => ?_, ?_, ls.o0, ls.nd, ls.n0, ls.n1⟩, lo1⟩
              · obtain ⟨vs5, h5, _⟩ := ls5.new
                exact (back (p3.kp.trans p4.kp) p4.dr).rel.hop ls.o0 ls.n0 (fun a o h d q => ls5.kp a o (hR a o h q) d) ⟨_, h5, trivial⟩ ls5.rel.draw
              · exact ls5.kp a o (hR a o (n4 a o h d) (ne_of_none h ls.n1)) d
              · obtain ⟨vs5, h5, r5⟩ := ls5.new
                exact ⟨vs5, h5, r5.le l21⟩
        · have e' : i = ds.length := by omega
          subst e'
          rw [List.drop_length] at lo
          simp only [lcOuter] at lo
          cases lo
          exact .inl ⟨ok.stop rfl ls.rel (src H ls.kp), fin H ls⟩
end
end Rf
/-! Reflection layer, part 16: statements. -/
namespace Rf
open PySem PySem.Spec PyProof.Rows L2
section
variable {w : Wld} {X : Cx} {XE : Er → Value → Option Addr → Hp → Prop} {W : WX} {F : Fs w}
/-- a frame between two statements, as seen from an earlier one -/
def SS (w : Wld) (K : PySem.W.Frag) (C : Fc) (M0 : Hp) (e : En) (s : w.T) (σ : L2.St) (H : Hp) : Prop := ∃ ad, Rel w K C e ad s σ H ∧ Le M0 (mask (Os C e ad) H)
/-- what a statement's outcome asks of the rest -/
def PoR (w : Wld) (K : PySem.W.Frag) (XE : Er → Value → Option Addr → Hp → Prop) (W : WX) (C : Fc) (M0 : Hp) (r : Rs w.T Out) (D : Ends) : Prop := match r with
  | .ok (.nxt e1) s1 => ∀ σ1 H1, SS w K C M0 e1 s1 σ1 H1 → D.nx σ1 H1
  | .ok (.brk e1) s1 => ∀ σ1 H1, SS w K C M0 e1 s1 σ1 H1 → D.bk σ1 H1
  | .ok (.cnt e1) s1 => ∀ σ1 H1, SS w K C M0 e1 s1 σ1 H1 → D.ct σ1 H1
  | .ok (.ret d) s1 => ∀ v H1, Kp C.Dm C.H0 H1 → DrawAt w C s1 H1 → Rp K (mask C.O0 H1) v d → D.rt v H1
  | .err er s1 => ∀ cls dx σ1 H1, Kp C.Dm C.H0 H1 → DrawAt w C s1 H1 → XE er cls dx H1 → W cls dx σ1 H1
  | .stuck => False
def rdS (w : Wld) (K : PySem.W.Frag) (XE : Er → Value → Option Addr → Hp → Prop) (W : WX) (f : En → w.T → Rs w.T Out) : TS := fun D σ H =>
  ∃ (C : Fc) (e : En) (ad : Nat → Addr) (s : w.T), Rel w K C e ad s σ H ∧ PoR w K XE W C (mask (Os C e ad) H) (f e s) D
abbrev RS' (w : Wld) (X : Cx) (XE : Er → Value → Option Addr → Hp → Prop) (W : WX) (f : En → w.T → Rs w.T Out) : TS := rdS w X.K XE W f
theorem PoR.mono {K : PySem.W.Frag} {C : Fc} {M0 M1 : Hp} {r : Rs w.T Out} {D : Ends} (h : PoR w K XE W C M0 r D) (l : Le M0 M1) : PoR w K XE W C M1 r D := by
  cases r with
  | ok o s =>
    cases o with
    | nxt e1 => exact fun σ1 H1 ⟨ad, R, m⟩ => h σ1 H1 ⟨ad, R, l.trans m⟩
    | brk e1 => exact fun σ1 H1 ⟨ad, R, m⟩ => h σ1 H1 ⟨ad, R, l.trans m⟩
    | cnt e1 => exact fun σ1 H1 ⟨ad, R, m⟩ => h σ1 H1 ⟨ad, R, l.trans m⟩
    | ret d => exact h
  | err er s => exact h
  | stuck => exact h
theorem PoR.swap {K : PySem.W.Frag} {C : Fc} {M0 : Hp} {r : Rs w.T Out} {D D' : Ends} (h : PoR w K XE W C M0 r D) (n : ∀ σ H, D.nx σ H → D'.nx σ H) (b : ∀ σ H, D.bk σ H → D'.bk σ H) (c : ∀ σ H, D.ct σ H → D'.ct σ H) (t : ∀ v H, D.rt v H → D'.rt v H) : PoR w K XE W C M0 r D' := by
  cases r with
  | ok o s =>
    cases o with
    | nxt e1 => exact fun σ1 H1 q => n _ _ (h σ1 H1 q)
    | brk e1 => exact fun σ1 H1 q => b _ _ (h σ1 H1 q)
    | cnt e1 => exact fun σ1 H1 q => c _ _ (h σ1 H1 q)
    | ret d => exact fun v H1 k dr z => t _ _ (h v H1 k dr z)
  | err er s => exact h
  | stuck => exact h
theorem denSs_nil : denSs F .nil = fun e s => .ok (.nxt e) s := by funext e s; simp only [denSs]
theorem denSs_cons (a : MS) (r : MSs) : denSs F (.cons a r) = fun e s => (denS F a e s).bind fun o s1 => match o with
    | .nxt e1 => denSs F r e1 s1
    | o => .ok o s1 := by funext e s; simp only [denSs] <;> rfl
theorem SS.refl {K : PySem.W.Frag} {C : Fc} {e : En} {ad : Nat → Addr} {s : w.T} {σ : L2.St} {H : Hp} (R : Rel w K C e ad s σ H) : SS w K C (mask (Os C e ad) H) e s σ H := ⟨ad, R, .refl _⟩
theorem ss_nil : PSs X [] (RS' w X XE W (denSs F .nil)) := pss_nil.imp fun D σ H ⟨C, e, ad, s, R, h⟩ => by
  rw [denSs_nil] at h
  exact h σ H (SS.refl R)
theorem ss_cons {st : Stmt} {rest : List Stmt} {a : MS} {r : MSs} (h1 : PS X st (RS' w X XE W (denS F a))) (h2 : PSs X rest (RS' w X XE W (denSs F r))) : PSs X (st :: rest) (RS' w X XE W (denSs F (.cons a r))) :=
  (pss_cons h1 h2).imp fun D σ H ⟨C, e, ad, s, R, h⟩ => by
    rw [denSs_cons] at h
    refine ⟨C, e, ad, s, R, ?_⟩
    cases hd : denS F a e s with
    | err er s1 => simp only [hd, Rs.bind_err] at h ⊢; exact h
    | stuck => simp only [hd, Rs.bind_stuck] at h; exact h
    | ok o s1 =>
      simp only [hd, Rs.bind_ok] at h
      cases o with
      | nxt e1 => exact fun σ1 H1 ⟨ad1, R1, l⟩ => ⟨C, e1, ad1, s1, R1, h.mono l⟩
      | brk e1 => exact h
      | cnt e1 => exact h
      | ret d => exact h
/-- a statement that first works an expression out -/
theorem st_one {α β : Type} {K : PySem.W.Frag} {Z : Fc → En → (Nat → Addr) → Hp → Hp → β → α → Prop} {f : En → w.T → Rs w.T α} {g : α → En → w.T → Rs w.T Out} {σ : L2.St} {H : Hp} {D : Ends} {Rq : β → Hp → Prop} {C : Fc} {e : En} {ad : Nat → Addr} {s : w.T} {M0 : Hp}
    (R : Rel w K C e ad s σ H) (h : PoR w K XE W C M0 ((f e s).bind fun x s1 => g x e s1) D)
    (k : ∀ {dx : α} {x : β} {H1 : Hp} {s1 : w.T}, f e s = .ok dx s1 → PoE w K C e ad H s1 H1 → Rel w K C e ad s1 σ H1 → Z C e ad H H1 x dx → PoR w K XE W C M0 (g dx e s1) D → Rq x H1) : rd w K XE W Z f σ H Rq := by
  refine ⟨C, e, ad, s, R, ?_⟩
  cases hf : f e s with
  | err er s1 =>
    simp only [hf, Rs.bind_err] at h ⊢
    exact fun cls dx H' p z => h cls dx σ H' (R.keep.trans p.kp) p.dr z
  | stuck => simp only [hf, Rs.bind_stuck] at h; exact h.elim
  | ok dx s1 =>
    simp only [hf, Rs.bind_ok] at h ⊢
    exact fun v H' p z => k hf p (R.ext p.kp p.dr) z h
theorem denS_asg (i : Nat) (m : ME) : denS F (.asg i m) = fun e s => (denE F m e s).bind fun x s1 => .ok (.nxt (setS e i (.dat x))) s1 := by funext e s; simp only [denS]
theorem denS_new (i : Nat) (m : ME) : denS F (.new i m) = fun e s => (denE F m e s).bind fun x s1 => .ok (.nxt (setS e i (.own x))) s1 := by funext e s; simp only [denS]
/-! #### what a name's store leaves -/
section
variable {K : PySem.W.Frag} {C : Fc} {e : En} {ad : Nat → Addr} {s s1 : w.T} {σ : L2.St} {H H1 : Hp}
def adSet (ad : Nat → Addr) (i : Nat) (p : Addr) : Nat → Addr := fun j => if j = i then p else ad j
theorem adSet_self {i : Nat} {p : Addr} : adSet ad i p i = p := if_pos rfl
theorem adSet_ne {i j : Nat} {p : Addr} (h : j ≠ i) : adSet ad i p j = ad j := if_neg h
theorem Os_setOwn {i : Nat} {d : D} {p a : Addr} (hi : i < e.length) (h : Os C (setS e i (.own d)) (adSet ad i p) a) : Os C e ad a ∨ a = p := by
  rcases h with h | ⟨j, d', h, rfl⟩
  · exact .inl (.inl h)
  · by_cases ij : i = j
    · subst ij; exact .inr adSet_self
    · rcases setS_ne ij h with z | ⟨z, _⟩
      · cases z
      · rw [adSet_ne (Ne.symm ij)]
        exact .inl (.inr ⟨j, d', z, rfl⟩)
/-- a new container stored at a name -/
theorem Rel.setOwn (R : Rel w K C e ad s σ H) (po : PoE w K C e ad H s1 H1) {i : Nat} {p : Addr} {d : D} (hi : i < e.length) (n : H p = none) (o : ORp K (mask (fun a => Os C e ad a ∨ a = p) H1) H1 p d) :
    Rel w K C (setS e i (.own d)) (adSet ad i p) s1 (σ.set i (some (.ref p))) H1 ∧ Le (mask (Os C e ad) H) (mask (Os C (setS e i (.own d)) (adSet ad i p)) H1) := by
  have nd : ¬ C.Dm p := R.draw.nd n
  have l : Le (mask (Os C e ad) H) (mask (Os C (setS e i (.own d)) (adSet ad i p)) H1) := fun a u h => by
    obtain ⟨n1, h⟩ := mask_of h
    refine ⟨u, mask_at (fun z => ?_) (po.kp a u h fun q => n1 (R.dOs q)), .refl u⟩
    rcases Os_setOwn hi z with z | z
    · exact n1 z
    · exact ne_of_none h n z
  have R1 := R.ext po.kp po.dr
  have np : ∀ j d', e[j]? = some (.own d') → ad j ≠ p := fun j d' h z => by
    obtain ⟨_, r⟩ := R.slots j _ h
    obtain ⟨u, hu, _⟩ := r.there
    rw [z, n] at hu; cases hu
  refine ⟨⟨R1.keep, po.dr, R.dsub, R1.odom, fun j t h => ?_, fun j d' h => ?_, fun j k d1 d2 h1 h2 => ?_, by rw [List.length_set, setS_len]; exact R.len, R.base⟩, l⟩
  · by_cases ij : i = j
    · subst ij
      rw [setS_self hi] at h
      cases h
      have e0 : adSet ad i p i = p := adSet_self
      refine ⟨?_, ?_⟩
      · rw [e0]; exact List.getElem?_set_self (by rw [R.len]; exact hi)
      · rw [e0]
        exact o.le (mask_sub fun a z => Os_setOwn hi z) fun _ z => z
    · rcases setS_ne ij h with rfl | ⟨h, ha⟩
      · trivial
      · have q := R.slots j t h
        have e1 : (σ.set i (some (V.ref p)))[j]? = σ[j]? := List.getElem?_set_ne ij
        cases t with
        | non => trivial
        | dat d' => obtain ⟨u, e2, q⟩ := q; exact ⟨u, e1.trans e2, q.le l⟩
        | own d' =>
          obtain ⟨e2, q⟩ := q
          have ea : adSet ad i p j = ad j := adSet_ne (Ne.symm ij)
          refine ⟨?_, ?_⟩
          · rw [ea]; exact e1.trans e2
          · rw [ea]; exact q.le l fun u z => po.kp _ u z fun y => (R.own1 j d' h).1 (R.dsub _ y)
        | bor d' => obtain ⟨a, e2, q⟩ := q; exact ⟨a, e1.trans e2, q.le l (.refl _)⟩
        | ali k =>
          obtain ⟨⟨d', hk⟩, e2⟩ := q
          have ki : i ≠ k := fun z => by subst z; exact ha i rfl rfl d' hk
          refine ⟨⟨d', ?_⟩, ?_⟩
          · unfold setS
            split
            · next d2 hi2 => rw [List.getElem?_set_ne ki, kill_get, hk]; rfl
            · rw [List.getElem?_set_ne ki]; exact hk
          · rw [adSet_ne (Ne.symm ki)]; exact e1.trans e2
        | drw => exact e1.trans q
  · by_cases ij : i = j
    · subst ij
      rw [adSet_self]
      refine ⟨fun z => ?_, ?_⟩
      · obtain ⟨u, hu, _⟩ := R.odom p z
        rw [n] at hu; cases hu
      · cases hp : C.H0 p with
        | none => rfl
        | some u =>
          have := R.keep p u hp nd
          rw [n] at this; cases this
    · rcases setS_ne ij h with z | ⟨h, _⟩
      · cases z
      · rw [adSet_ne (Ne.symm ij)]; exact R.own1 j d' h
  · by_cases ij : i = j
    · by_cases ik : i = k
      · exact fun _ => ij.symm.trans ik
      · subst ij
        rcases setS_ne ik h2 with z | ⟨h2, _⟩
        · cases z
        · rw [adSet_self, adSet_ne (Ne.symm ik)]
          exact fun z => absurd z.symm (np k d2 h2)
    · rcases setS_ne ij h1 with z | ⟨h1, _⟩
      · cases z
      · by_cases ik : i = k
        · subst ik
          rw [adSet_self, adSet_ne (Ne.symm ij)]
          exact fun z => absurd z (np j d1 h1)
        · rcases setS_ne ik h2 with z | ⟨h2, _⟩
          · cases z
          · rw [adSet_ne (Ne.symm ij), adSet_ne (Ne.symm ik)]
            exact R.own2 j k d1 d2 h1 h2
/-- the owned container at a name changes -/
theorem Rel.write (R : Rel w K C e ad s σ H) {i : Nat} {d d' : D} {o : HO} (hi : e[i]? = some (.own d)) (r : ∀ H', H' (ad i) = some o → ORp K (mask (Os C e ad) H) H' (ad i) d') :
    Rel w K C (e.set i (.own d')) ad s σ (upd H (ad i) o) ∧ Le (mask (Os C e ad) H) (mask (Os C (e.set i (.own d')) ad) (upd H (ad i) o)) := by
  have hl : i < e.length := (List.getElem?_eq_some_iff.mp hi).1
  have n0 := R.own1 i d hi
  have nd : ¬ C.Dm (ad i) := fun z => n0.1 (R.dsub _ z)
  have os : ∀ a, Os C (e.set i (.own d')) ad a → Os C e ad a := fun a h => by
    rcases h with h | ⟨j, x, h, rfl⟩
    · exact .inl h
    · by_cases ij : i = j
      · subst ij; exact .inr ⟨i, d, hi, rfl⟩
      · rw [List.getElem?_set_ne ij] at h; exact .inr ⟨j, x, h, rfl⟩
  have l : Le (mask (Os C e ad) H) (mask (Os C (e.set i (.own d')) ad) (upd H (ad i) o)) := fun a u h => by
    obtain ⟨n1, h⟩ := mask_of h
    refine ⟨u, mask_at (fun z => n1 (os a z)) ?_, .refl u⟩
    rw [upd_ne fun z => n1 (by rw [z]; exact .inr ⟨i, d, hi, rfl⟩)]
    exact h
  have own : ∀ (j : Nat) (x : D), (e.set i (.own d'))[j]? = some (Slot.own x) → ∃ y : D, e[j]? = some (Slot.own y) := fun j x h => by
    by_cases ij : i = j
    · subst ij; exact ⟨d, hi⟩
    · rw [List.getElem?_set_ne ij] at h; exact ⟨x, h⟩
  refine ⟨⟨fun a u h q => ?_, R.draw.same fun a q => upd_ne fun z => nd (by rw [← z]; exact q), R.dsub, fun a h => ?_, fun j t h => ?_, fun j x h => ?_, fun j k x y h1 h2 => ?_, by rw [List.length_set]; exact R.len, R.base⟩, l⟩
  · rw [upd_ne (ne_of_none h n0.2)]; exact R.keep a u h q
  · by_cases z : a = ad i
    · subst z
      obtain ⟨u, hu, m⟩ := (r (upd H (ad i) o) upd_same).there
      exact ⟨u, hu, nt_mut m⟩
    · rw [upd_ne z]; exact R.odom a h
  · by_cases ij : i = j
    · subst ij
      rw [List.getElem?_set_self hl] at h
      cases h
      exact ⟨(R.slots i _ hi).1, (r _ upd_same).le l fun _ z => z⟩
    · rw [List.getElem?_set_ne ij] at h
      have q := R.slots j t h
      cases t with
      | non => trivial
      | dat d2 => obtain ⟨u, e2, q⟩ := q; exact ⟨u, e2, q.le l⟩
      | own d2 => obtain ⟨e2, q⟩ := q; exact ⟨e2, q.le l fun u z => by rw [upd_ne fun y => ij (R.own2 i j d d2 hi h y.symm)]; exact z⟩
      | bor d2 => obtain ⟨a, e2, q⟩ := q; exact ⟨a, e2, q.le l (.refl _)⟩
      | ali k =>
        obtain ⟨⟨d2, hk⟩, e2⟩ := q
        refine ⟨?_, e2⟩
        by_cases ik : i = k
        · subst ik; exact ⟨d', List.getElem?_set_self hl⟩
        · exact ⟨d2, by rw [List.getElem?_set_ne ik]; exact hk⟩
      | drw => exact q
  · obtain ⟨y, h⟩ := own j x h
    exact R.own1 j y h
  · obtain ⟨x', h1⟩ := own j x h1
    obtain ⟨y', h2⟩ := own k y h2
    exact R.own2 j k x' y' h1 h2
/-- a name's container is let go: it is data from now on -/
theorem Rel.unown (R : Rel w K C e ad s σ H) {i : Nat} {d : D} (hi : e[i]? = some (.own d)) :
    Rel w K C ((e.map (kill i)).set i (.dat d)) ad s σ H ∧ Le (mask (Os C e ad) H) (mask (Os C ((e.map (kill i)).set i (.dat d)) ad) H) := by
  have hl : i < e.length := (List.getElem?_eq_some_iff.mp hi).1
  have es : (e.map (kill i)).set i (.dat d) = setS e i (.dat d) := by unfold setS; rw [hi]
  rw [es]
  have l : Le (mask (Os C e ad) H) (mask (Os C (setS e i (.dat d)) ad) H) := mask_sub fun a => Os_set (fun _ z => by cases z)
  obtain ⟨e1, r⟩ := R.slots i _ hi
  have n0 := R.own1 i d hi
  have no : ¬ Os C (setS e i (.dat d)) ad (ad i) := fun z => by
    rcases z with z | ⟨j, x, h, z⟩
    · exact n0.1 z
    · by_cases ij : i = j
      · subst ij; rw [setS_self hl] at h; cases h
      · rcases setS_ne ij h with q | ⟨h, _⟩
        · cases q
        · exact ij (R.own2 i j d x hi h z)
  have rr : Rp K (mask (Os C (setS e i (.dat d)) ad) H) (.ref (ad i)) d := r.free l (by unfold mask; rw [if_neg no])
  refine ⟨⟨R.keep, R.draw, R.dsub, R.odom, fun j t h => ?_, fun j d' h => ?_, fun j k d1 d2 h1 h2 => ?_, by rw [setS_len]; exact R.len, R.base⟩, l⟩
  · by_cases ij : i = j
    · subst ij
      rw [setS_self hl] at h
      cases h
      exact ⟨_, e1, rr⟩
    · rcases setS_ne ij h with rfl | ⟨h, ha⟩
      · trivial
      · have q := R.slots j t h
        cases t with
        | non => trivial
        | dat d' => obtain ⟨u, e2, q⟩ := q; exact ⟨u, e2, q.le l⟩
        | own d' => obtain ⟨e2, q⟩ := q; exact ⟨e2, q.le l fun o z => z⟩
        | bor d' => obtain ⟨a, e2, q⟩ := q; exact ⟨a, e2, q.le l (.refl _)⟩
        | ali k =>
          obtain ⟨⟨d', hk⟩, e2⟩ := q
          have ki : i ≠ k := fun z => by subst z; exact ha i rfl rfl d hi
          refine ⟨⟨d', ?_⟩, e2⟩
          unfold setS
          split
          · next d2 hi2 => rw [List.getElem?_set_ne ki, kill_get, hk]; rfl
          · rw [List.getElem?_set_ne ki]; exact hk
        | drw => exact q
  · by_cases ij : i = j
    · subst ij; rw [setS_self hl] at h; cases h
    · rcases setS_ne ij h with z | ⟨h, _⟩
      · cases z
      · exact R.own1 j d' h
  · by_cases ij : i = j
    · subst ij; rw [setS_self hl] at h1; cases h1
    · by_cases ik : i = k
      · subst ik; rw [setS_self hl] at h2; cases h2
      · rcases setS_ne ij h1 with z | ⟨h1, _⟩
        · cases z
        · rcases setS_ne ik h2 with z | ⟨h2, _⟩
          · cases z
          · exact R.own2 j k d1 d2 h1 h2
theorem Rel.freeze1 (R : Rel w K C e ad s σ H) (i : Nat) : Rel w K C (freeze1 e i) ad s σ H ∧ Le (mask (Os C e ad) H) (mask (Os C (freeze1 e i) ad) H) := by
  unfold Rf.freeze1
  split
  · next d hi => exact R.unown hi
  · exact ⟨R, .refl _⟩
theorem Rel.freeze : ∀ (is : List Nat) {e : En}, Rel w K C e ad s σ H → Rel w K C (freeze is e) ad s σ H ∧ Le (mask (Os C e ad) H) (mask (Os C (freeze is e) ad) H)
  | [], e, R => ⟨R, .refl _⟩
  | i :: is, e, R => by
    obtain ⟨R1, l1⟩ := R.freeze1 i
    obtain ⟨R2, l2⟩ := Rel.freeze is R1
    exact ⟨R2, l1.trans l2⟩
theorem Rel.freezeAll (R : Rel w K C e ad s σ H) : Rel w K C (freezeAll e) ad s σ H ∧ Le (mask (Os C e ad) H) (mask (Os C (freezeAll e) ad) H) ∧ ∀ a, Os C (freezeAll e) ad a → C.O0 a := by
  have g : ∀ i, (Rf.freezeAll e)[i]? = (e[i]?).map freezeS := fun i => by unfold Rf.freezeAll; rw [List.getElem?_map]
  have no : ∀ (i : Nat) (d : D), (Rf.freezeAll e)[i]? ≠ some (Slot.own d) := fun i d h => by
    rw [g] at h
    cases hi : e[i]? with
    | none => rw [hi] at h; cases h
    | some t => rw [hi] at h; cases t <;> simp [freezeS] at h
  have os : ∀ a, Os C (Rf.freezeAll e) ad a → C.O0 a := fun a h => by
    rcases h with h | ⟨i, d, h, _⟩
    · exact h
    · exact absurd h (no i d)
  have l : Le (mask (Os C e ad) H) (mask (Os C (Rf.freezeAll e) ad) H) := mask_sub fun a h => .inl (os a h)
  refine ⟨⟨R.keep, R.draw, R.dsub, R.odom, fun i t h => ?_, fun i d h => absurd h (no i d), fun i j d d' h => absurd h (no i d), ?_, R.base⟩, l, os⟩
  · rw [g] at h
    cases hi : e[i]? with
    | none => rw [hi] at h; cases h
    | some u =>
      rw [hi] at h
      simp only [Option.map_some, Option.some.injEq] at h
      have q := R.slots i u hi
      cases u with
      | non => subst h; trivial
      | dat d => subst h; obtain ⟨v, e1, r⟩ := q; exact ⟨v, e1, r.le l⟩
      | own d =>
        subst h
        obtain ⟨e1, r⟩ := q
        exact ⟨_, e1, r.free l (by unfold mask; rw [if_neg fun z => (R.own1 i d hi).1 (os _ z)])⟩
      | bor d => subst h; obtain ⟨a, e1, r⟩ := q; exact ⟨a, e1, r.le l (.refl _)⟩
      | ali k => subst h; trivial
      | drw => subst h; exact q
  · unfold Rf.freezeAll; rw [List.length_map]; exact R.len
end
end
end Rf
/-! Reflection layer, part 17: statements, one by one. -/
namespace Rf
open PySem PySem.Spec PyProof.Rows L2
section
variable {w : Wld} {X : Cx} {XE : Er → Value → Option Addr → Hp → Prop} {W : WX} {F : Fs w}
theorem _root_.L2.PS.impL {X : Cx} {e : Stmt} {t t' : TS} (h : PS X e t) (i : ∀ D σ H, σ.length = X.N.length → t' D σ H → t D σ H) : PS X e t' := ⟨fun pins s σ H D I q => h.run pins s σ H D I (i D σ H I.len q)⟩
theorem st_asg {st : Stmt} {i : Nat} {m : ME} (h : PS X st (tAsg (RE w X XE W (denE F m)) (gName i))) (hi : i < X.N.length) : PS X st (RS' w X XE W (denS F (.asg i m))) := h.impL fun D σ H hl ⟨C, e, ad, s, R, h⟩ => by
  rw [denS_asg] at h
  refine st_one (g := fun x e s1 => .ok (.nxt (setS e i (.dat x))) s1) R h fun {dx x H1 s1} _ p R1 z h => ?_
  obtain ⟨R2, l⟩ := R1.setDat (by rw [← R.len, hl]; exact hi) z
  exact h _ _ ⟨ad, R2, (R.le p.kp).trans l⟩
theorem st_new {st : Stmt} {i : Nat} {m : ME} (h : PS X st (tAsg (RF w X XE W (denE F m)) (gName i))) (hi : i < X.N.length) : PS X st (RS' w X XE W (denS F (.new i m))) := h.impL fun D σ H hl ⟨C, e, ad, s, R, h⟩ => by
  rw [denS_new] at h
  refine st_one (g := fun x e s1 => .ok (.nxt (setS e i (.own x))) s1) R h fun {dx x H1 s1} _ p R1 z h => ?_
  obtain ⟨q, rfl, n, o⟩ := z
  obtain ⟨R2, l⟩ := R.setOwn p (by rw [← R.len, hl]; exact hi) n o
  exact h _ _ ⟨_, R2, l⟩
theorem denS_ret (m : ME) : denS F (.ret m) = fun e s => (denE F m (freezeAll e) s).bind fun x s1 => .ok (.ret x) s1 := by funext e s; simp only [denS]
theorem st_ret {e : Expr} {m : ME} {pos : Pos} (h : PE X e (RE w X XE W (denE F m))) : PS X (.Return (some e) pos) (RS' w X XE W (denS F (.ret m))) := (ps_ret h).imp fun D σ H ⟨C, e, ad, s, R, h⟩ => by
  rw [denS_ret] at h
  obtain ⟨R', l, os⟩ := R.freezeAll
  exact st_one (g := fun x _ s1 => .ok (.ret x) s1) R' (h.mono l) fun {dx x H1 s1} _ p R1 z h => h x H1 R1.keep R1.draw (Rp.le (mask_sub fun a z => .inl z) (show Rp X.K (mask (Os C (freezeAll e) ad) H1) x dx from z))
theorem st_retN {pos : Pos} : PS X (.Return none pos) (RS' w X XE W (denS F .retN)) := ps_retN.imp fun D σ H ⟨C, e, ad, s, R, h⟩ => by
  simp only [denS] at h
  exact h _ H R.keep R.draw .non
theorem denS_ex (m : ME) : denS F (.ex m) = fun e s => (denE F m e s).bind fun _ s1 => .ok (.nxt e) s1 := by funext e s; simp only [denS]
theorem st_ex {e : Expr} {m : ME} {pos : Pos} (h : PE X e (RE w X XE W (denE F m))) (hs : swapsWith e none pos.line X.env = pure false) : PS X (.Expr e pos) (RS' w X XE W (denS F (.ex m))) := (ps_expr h hs).imp fun D σ H ⟨C, e, ad, s, R, h⟩ => by
  rw [denS_ex] at h
  exact st_one (g := fun _ e s1 => .ok (.nxt e) s1) R h fun {dx x H1 s1} _ p R1 z h => h _ _ ⟨ad, R1, R.le p.kp⟩
theorem st_doc {x : Str} {j : Nat} {p pos : Pos} : True := trivial
theorem st_pass {pos : Pos} : PS X (.Pass pos) (RS' w X XE W (denS F .pass)) := ps_pass.imp fun D σ H ⟨C, e, ad, s, R, h⟩ => by
  simp only [denS] at h
  exact h _ _ (SS.refl R)
theorem st_brk {pos : Pos} : PS X (.Break pos) (RS' w X XE W (denS F .brk)) := ps_break.imp fun D σ H ⟨C, e, ad, s, R, h⟩ => by
  simp only [denS] at h
  exact h _ _ (SS.refl R)
theorem st_cnt {pos : Pos} : PS X (.Continue pos) (RS' w X XE W (denS F .cnt)) := ps_continue.imp fun D σ H ⟨C, e, ad, s, R, h⟩ => by
  simp only [denS] at h
  exact h _ _ (SS.refl R)
theorem denS_ite (c : ME) (a b : MSs) : denS F (.ite c a b) = fun e s => (denT F c e s).bind fun k s1 => if k then denSs F a e s1 else denSs F b e s1 := by funext e s; simp only [denS]
theorem st_if {c : Expr} {a b : List Stmt} {mc : ME} {ma mb : MSs} {pos : Pos} (hc : PT X c (RT w X XE W (denT F mc))) (ha : PSs X a (RS' w X XE W (denSs F ma))) (hb : PSs X b (RS' w X XE W (denSs F mb))) : PS X (.If c a b pos) (RS' w X XE W (denS F (.ite mc ma mb))) := (ps_if hc ha hb).imp fun D σ H ⟨C, e, ad, s, R, h⟩ => by
  rw [denS_ite] at h
  refine st_one (g := fun k e s1 => if k then denSs F ma e s1 else denSs F mb e s1) R h fun {dx x H1 s1} _ p R1 z h => ?_
  have ex : x = dx := z
  subst ex
  cases x with
  | true => exact ⟨C, e, ad, s1, R1, h.mono (R.le p.kp)⟩
  | false => exact ⟨C, e, ad, s1, R1, h.mono (R.le p.kp)⟩
theorem denS_fz (is : List Nat) (m : MS) : denS F (.fz is m) = fun e s => denS F m (freeze is e) s := by funext e s; simp only [denS]
theorem st_fz {st : Stmt} {is : List Nat} {m : MS} (h : PS X st (RS' w X XE W (denS F m))) : PS X st (RS' w X XE W (denS F (.fz is m))) := h.imp fun D σ H ⟨C, e, ad, s, R, h⟩ => by
  rw [denS_fz] at h
  obtain ⟨R', l⟩ := R.freeze is
  exact ⟨C, _, ad, s, R', h.mono l⟩
theorem denS_unp (is : List Nat) (m : ME) : denS F (.unp is m) = fun e s => (denE F m e s).bind fun x s1 => (Rs.lift (bindTg (.many is) x e) s1).bind fun e1 s2 => .ok (.nxt e1) s2 := by funext e s; simp only [denS]
theorem st_unp {st : Stmt} {is : List Nat} {m : ME} (h : PS X st (tAsg (RE w X XE W (denE F m)) (rdG w X.K (.many is)))) : PS X st (RS' w X XE W (denS F (.unp is m))) := h.imp fun D σ H ⟨C, e, ad, s, R, h⟩ => by
  rw [denS_unp] at h
  refine st_one (g := fun x e s1 => (Rs.lift (bindTg (.many is) x e) s1).bind fun e1 s2 => .ok (.nxt e1) s2) R h fun {dx x H1 s1} _ p R1 z h => ?_
  cases hb : bindTg (.many is) dx e with
  | none => simp only [hb, Rs.lift_none, Rs.bind_stuck] at h; exact h.elim
  | some e1 =>
    simp only [hb, Rs.lift_some, Rs.bind_ok] at h
    exact ⟨C, e, ad, s1, dx, e1, R1, z, hb, fun σ1 pg => h _ _ ⟨ad, pg.rel, (R.le p.kp).trans pg.le⟩⟩
/-! ### containers that change -/
theorem setDs_lk {κ : Type} [DecidableEq κ] {K : PySem.W.Frag} {M : Hp} : ∀ {ks : List κ} {vs : List V} {ds : List D} (k : κ) {v : V} {d : D}, ks.length = vs.length → RpA K M vs ds → Rp K M v d → ∃ vs', (ks.zip vs).map (fun p => if p.1 = k then (p.1, v) else p) = ks.zip vs' ∧ ks.length = vs'.length ∧ RpA K M vs' (setDs ks ds k d)
  | [], [], _, k, v, d, _, .nil, r => ⟨[], rfl, rfl, .nil⟩
  | k0 :: ks, v0 :: vs, _, k, v, d, l, .cons (d := d0) (ds := ds) h t, r => by
    obtain ⟨vs', e1, e2, e3⟩ := setDs_lk k (Nat.succ.inj l) t r
    by_cases e : k0 = k
    · exact ⟨v :: vs', by simp [e, ← e1], by simp [e2], by simp only [setDs, if_pos e]; exact .cons r e3⟩
    · exact ⟨v0 :: vs', by simp [e, ← e1], by simp [e2], by simp only [setDs, if_neg e]; exact .cons h e3⟩
  | [], _ :: _, _, _, _, _, l, _, _ => by cases l
  | _ :: _, [], _, _, _, _, l, _, _ => by cases l
theorem any_zip {κ : Type} [DecidableEq κ] (k : κ) : ∀ {ks : List κ} {vs : List V}, ks.length = vs.length → ((ks.zip vs).any fun p => decide (p.1 = k)) = decide (k ∈ ks)
  | [], [], _ => by simp
  | k0 :: ks, v0 :: vs, l => by
    have ih := any_zip k (Nat.succ.inj l)
    rw [List.zip_cons_cons, List.any_cons, ih]
    by_cases e : k0 = k
    · simp [e]
    · simp [e, Ne.symm e]
  | [], _ :: _, l => by cases l
  | _ :: _, [], l => by cases l
theorem putK_lk {κ : Type} [DecidableEq κ] {K : PySem.W.Frag} {M : Hp} {ks : List κ} {vs : List V} {ds : List D} (k : κ) {v : V} {d : D} (l : ks.length = vs.length) (t : RpA K M vs ds) (r : Rp K M v d) : ∃ vs', putK (ks.zip vs) k v = (putKs ks k).zip vs' ∧ (putKs ks k).length = vs'.length ∧ RpA K M vs' (putDs ks ds k d) := by
  unfold putK
  rw [any_zip k l]
  by_cases e : k ∈ ks
  · obtain ⟨vs', e1, e2, e3⟩ := setDs_lk k l t r
    exact ⟨vs', by simp only [e, decide_true, if_true, putKs]; exact e1, by simp only [putKs, if_pos e]; exact e2, by simp only [putDs, if_pos e]; exact e3⟩
  · refine ⟨vs ++ [v], by simp only [e, decide_false, putKs]; rw [if_neg Bool.false_ne_true, if_neg not_false, List.zip_append l]; rfl, by simp [putKs, e, l], by simp only [putDs, if_neg e]; exact t.append (.cons r .nil)⟩
theorem dropK_lk {κ : Type} [DecidableEq κ] {K : PySem.W.Frag} {M : Hp} : ∀ {ks : List κ} {vs : List V} {ds : List D} (k : κ), ks.length = vs.length → RpA K M vs ds → ∃ vs', dropK (ks.zip vs) k = (dropKs ks k).zip vs' ∧ (dropKs ks k).length = vs'.length ∧ RpA K M vs' (dropDs ks ds k)
  | [], [], _, k, _, .nil => ⟨[], by simp [dropK, dropKs], rfl, .nil⟩
  | k0 :: ks, v0 :: vs, _, k, l, .cons (d := d0) (ds := ds) h t => by
    obtain ⟨vs', e1, e2, e3⟩ := dropK_lk k (Nat.succ.inj l) t
    by_cases e : k0 = k
    · refine ⟨vs', ?_, ?_, ?_⟩
      · simp only [dropKs, if_pos e, List.zip_cons_cons]
        rw [← e1]; exact List.filter_cons_of_neg (by simp [e])
      · simpa [dropKs, e] using e2
      · simpa [dropDs, e] using e3
    · refine ⟨v0 :: vs', ?_, ?_, ?_⟩
      · simp only [dropKs, if_neg e, List.zip_cons_cons]
        rw [← e1]; exact List.filter_cons_of_pos (by simp [e])
      · simp [dropKs, e, e2]
      · simp only [dropDs, if_neg e]; exact .cons h e3
  | [], _ :: _, _, _, l, _ => by cases l
  | _ :: _, [], _, _, l, _ => by cases l
end
end Rf
/-! Reflection layer: d.pop(k), the key a tuple that is there. -/
namespace Rf
open PySem PySem.Spec PyProof.Rows L2
section
variable {K : Type} [DecidableEq K] {prog : Program} {w : World} {knd : HeapKind prog w K}
theorem pop_meets {a c : Addr} {k : K} {q : Addr × Value} (na : (a == sysModules) = false) :
    MeetsIn prog w (Builtin.«dict.pop» ⟨[.ref a, .ref c], []⟩) (fun A R s => ∃ ys, knd.room A.in1 ∧ knd.is s.heap k c ∧ s.heap.DictOfH knd a ys ∧ ys.length ≤ sizeLine ∧ atKey ys k = some q ∧
      ∀ g tk, g.DictOfH knd a (DT.dropH ys k) → Heap.SameBut a s.heap g → R (.ok (.ret q.2)) { s with heap := g, toks := tk }) :=
  .of_wp fun A R s ⟨ys, room, isk, dh, hl, at1, fin⟩ => by
    obtain ⟨ob, es, ep, g1, g2, g3, g4, g5, g6⟩ := id dh
    have sz : es.size = ys.length := size_of_entries g4
    unfold Builtin.«dict.pop»
    refine wpAny_bind ?_
    unfold Builtin.Dict.keyAndDefault
    refine wpAny_bind (wpAny_notOrdered_dict dh.typeIs ?_)
    show wpAny _ _ (pure (a, Value.ref c, none)) _ _ s
    refine wpAny_pure ?_
    have kp : (keyPart (Value.ref c)).isSome = false := rfl
    simp only [kp, Bool.false_eq_true, if_false]
    refine wpAny_bind (wpAny_dictEntries g1 g3 (wpAny_bind (wpAny_pure ?_)))
    cases em : es.isEmpty with
    | true =>
      have z : ys = [] := List.length_eq_zero_iff.mp (by rw [← sz]; simpa using em)
      rw [z] at at1
      exact absurd at1 (by simp [atKey])
    | false =>
      simp only [Bool.false_eq_true, if_false]
      refine wpAny_bind (DT.takeH room isk dh hl (fun none1 => ?_) fun p e at2 ev g dg sg => ?_)
      · rw [at1] at none1; cases none1
      · rw [at1] at at2
        cases at2
        simp only [Option.isNone_some, Bool.false_eq_true, if_false]
        exact wpAny_bind (wpAny_letGo (wpAny_pure ⟨e.val, rfl, by rw [ev]; exact fin g _ dg sg⟩))
end
def rPop1T : V → List V → Hp → VK → Prop := fun x xs H Q => ∃ (a c : Addr) (kvs : List (List L2.Key × V)) (k : List L2.Key) (v : V), x = .ref a ∧ xs = [.ref c] ∧ H a = some (.dT kvs) ∧ H c = some (.tup (k.map kV)) ∧ valV kvs k = some v ∧ Q v (upd H a (.dT (dropK kvs k)))
theorem mt_pop1T {X : Cx} (hu : X.A.units + 1 < cLine) : MtR X "dict.pop" rPop1T := by
  intro pins s σ H x xs v us Q I rx rxs h
  obtain ⟨a, c, kvs, k, v0, rfl, rfl, ha, hc, hv, q⟩ := h
  cases rx
  obtain ⟨u, rfl, ru⟩ := rxs.one
  cases ru
  obtain ⟨z, na, ys, rel, dd⟩ := dt_of I.hok ha
  have hl : ys.length ≤ sizeLine := by rw [← Paired.length rel]; exact z
  have vr := rel.val k
  rw [hv] at vr
  obtain ⟨p, hp, rv⟩ : ∃ p, atKey ys k = some p ∧ RelV v0 p.2 := by
    cases hp : atKey ys k with
    | none => rw [hp] at vr; exact (show False from vr).elim
    | some p => rw [hp] at vr; exact ⟨p, rfl, vr⟩
  refine call_meetsIn PySem.F.slot_dict_pop dd.typeIs PySem.F.entry_dict_pop (PySem.F.args_dict_pop_2 _ _) (pop_meets (knd := tupleKind (mixKind X.prog X.w)) (k := k) (q := p) na)
    ⟨ys, tupleKind_room_in1 hu, key_of I.hok hc, dd, hl, hp, fun g tk dg sg => ?_⟩
  obtain ⟨ob, es, ep, o1, o2, o3, o4, _, o5⟩ := dg
  have I2 : Inv X pins σ (upd H a (.dT (dropK kvs k))) { s with heap := g, toks := tk } :=
    d_write I (by rw [ha]; exact True.intro) sg ⟨ob, o1⟩ ⟨Nat.le_trans (dropK_le kvs k) z, na, _, (L2.DX.KT_drop k rel).keeps (fun b ws eb => (by rw [upd_ne (ne_of eb ha (fun z => nomatch z))]; exact eb)), ob, es, ep, o1, o2, o3, o4, o5⟩
  exact ⟨v0, _, I2, rv, q⟩
end Rf
/-! Reflection layer, part 18: statements that change containers. -/
namespace Rf
open PySem PySem.Spec PyProof.Rows L2
section
variable {w : Wld} {X : Cx} {XE : Er → Value → Option Addr → Hp → Prop} {W : WX} {F : Fs w}
theorem denS_put (i : Nat) (k m : ME) : denS F (.put i k m) = fun e s => match ownS e i with
    | some d => (denE F m e s).bind fun x s1 => (denE F k e s1).bind fun y s2 => (Rs.lift (putD d y x) s2).bind fun d' s3 => .ok (.nxt (e.set i (.own d'))) s3
    | none => .stuck := by funext e s; simp only [denS] <;> rfl
theorem ownS_some {e : En} {i : Nat} {d : D} (h : ownS e i = some d) : e[i]? = some (.own d) := by
  unfold ownS at h
  split at h
  · next d' hi => cases h; exact hi
  · cases h
/-- a value that may fail to be told, in a statement -/
theorem lift_st {α : Type} {o : Option α} {s : w.T} {g : α → w.T → Rs w.T Out} {C : Fc} {M0 : Hp} {D0 : Ends} {K : PySem.W.Frag} (h : PoR w K XE W C M0 ((Rs.lift o s).bind g) D0) : ∃ a, o = some a ∧ PoR w K XE W C M0 (g a s) D0 := by
  cases o with
  | none => exact h.elim
  | some a => exact ⟨a, rfl, h⟩
theorem ORp.lstv {K : PySem.W.Frag} {M H : Hp} {a : Addr} {xs : List D} (h : ORp K M H a (.lst xs)) : ∃ vs, H a = some (.lst vs) ∧ RpA K M vs xs := by
  cases h with | lst h r => exact ⟨_, h, r⟩
theorem ORp.dkv {K : PySem.W.Frag} {M H : Hp} {a : Addr} {ks : List Key} {xs : List D} (h : ORp K M H a (.dk ks xs)) : ∃ vs, ks.length = vs.length ∧ H a = some (.dK (ks.zip vs)) ∧ RpA K M vs xs := by
  cases h with | dk z h r => exact ⟨_, z, h, r⟩
theorem ORp.dtv {K : PySem.W.Frag} {M H : Hp} {a : Addr} {ks : List (List Key)} {xs : List D} (h : ORp K M H a (.dt ks xs)) : ∃ vs, ks.length = vs.length ∧ H a = some (.dT (ks.zip vs)) ∧ RpA K M vs xs := by
  cases h with | dt z h r => exact ⟨_, z, h, r⟩
/-- behind a write at an owned name -/
theorem write_fin {K : PySem.W.Frag} {C : Fc} {e : En} {ad : Nat → Addr} {s2 : w.T} {σ : L2.St} {H2 M0 : Hp} {i : Nat} {d d' : D} {o : HO} {D0 : Ends} (ho : e[i]? = some (.own d)) (R2 : Rel w K C e ad s2 σ H2) (l : Le M0 (mask (Os C e ad) H2)) (h : PoR w K XE W C M0 (.ok (.nxt (e.set i (.own d'))) s2) D0)
    (r : ∀ H', H' (ad i) = some o → ORp K (mask (Os C e ad) H2) H' (ad i) d') : D0.nx σ (upd H2 (ad i) o) := by
  obtain ⟨R3, l3⟩ := R2.write ho r
  exact h _ _ ⟨ad, R3, l.trans l3⟩
theorem ixN_lt {n : Nat} {i : Int} {j : Nat} (h : ixN n i = some j) : j < n := by
  obtain ⟨h1, h2, h3, h4⟩ := ixN_seq h
  unfold seqIndex? at h1
  simp only [] at h1
  repeat' split at h1
  all_goals first | (cases h1; done) | (cases h1; omega)
/-- two expressions, then the change; T what is asked between -/
theorem st_two {α1 α2 β1 β2 : Type} {K : PySem.W.Frag} {Z1 : Fc → En → (Nat → Addr) → Hp → Hp → β1 → α1 → Prop} {Z2 : Fc → En → (Nat → Addr) → Hp → Hp → β2 → α2 → Prop} (sb : Stab w K Z1) {f : En → w.T → Rs w.T α1} {g : En → w.T → Rs w.T α2} {q : α1 → α2 → En → w.T → Rs w.T Out} {σ : L2.St} {H : Hp} {D : Ends} {C : Fc} {e : En} {ad : Nat → Addr} {s : w.T} {M0 : Hp} {T : β1 → Hp → Prop} {U : β1 → β2 → Hp → Prop}
    (R : Rel w K C e ad s σ H) (h : PoR w K XE W C M0 ((f e s).bind fun x s1 => (g e s1).bind fun y s2 => q x y e s2) D) (hT : ∀ x H1, rd w K XE W Z2 g σ H1 (U x) → T x H1)
    (k : ∀ {dx : α1} {dy : α2} {x : β1} {y : β2} {H1 H2 : Hp} {s2 : w.T}, Rel w K C e ad s2 σ H2 → Le (mask (Os C e ad) H) (mask (Os C e ad) H2) → Kp C.Dm H H2 → Z1 C e ad H H2 x dx → Z2 C e ad H1 H2 y dy → PoR w K XE W C M0 (q dx dy e s2) D → U x y H2) : rd w K XE W Z1 f σ H T :=
  st_one (g := fun x e s1 => (g e s1).bind fun y s2 => q x y e s2) R h fun {dx x H1 s1} _ p R1 z h => hT x H1 (st_one (g := fun y e s2 => q dx y e s2) R1 h fun {dy y H2 s2} _ p2 R2 z2 h => k R2 ((R.le p.kp).trans (R1.le p2.kp)) (p.kp.trans p2.kp) (sb R1 p2.kp z) z2 h)
def putQ (i : Nat) (d : D) (x y : D) (e : En) (s2 : w.T) : Rs w.T Out := (Rs.lift (putD d y x) s2).bind fun d' s3 => .ok (.nxt (e.set i (.own d'))) s3
theorem st_put {i : Nat} {x : Str} {xp pos' pos : Pos} {ix value : Expr} {k m : ME} (hu : X.A.units + 65 < cLine) (hN : X.N[i]? = some x) (hv : Vis X.env.scope x) (hd : (x == ("__debug__" : Str)) = false) (hcd : (x == ("__classdict__" : Str)) = false)
    (hi : PE X ix (RE w X XE W (denE F k))) (he : PE X value (RE w X XE W (denE F m))) (hs : swapsWith value (some (.Subscript (.Name x xp) ix pos')) pos.line X.env = pure false) (hs2 : swapsWithSole [.Subscript (.Name x xp) ix pos'] value pos.line X.env = pure false) (hw : swappedStores [.Subscript (.Name x xp) ix pos'] value X.env = pure none)
    (h1 : (assignEach [.Subscript (.Name x xp) ix pos'] X.env).map (·.2) = [assign (.Subscript (.Name x xp) ix pos') X.env])
    (ha : ∀ v, assign (.Subscript (.Name x xp) ix pos') X.env v = (do
      let ov ← holding [v] (eval (.Name x xp) X.env)
      let iv ← holding [v, ov] (eval ix X.env)
      standAt pos'
      holding [v, ov, iv] (setItem ov iv v)
      release [v, ov, iv] [])) :
    PS X (.Assign [.Subscript (.Name x xp) ix pos'] value pos) (RS' w X XE W (denS F (.put i k m))) :=
  ((ps_asg he (pg_sub (pe_var hN hv hd hcd) hi set_list ha) hs2 hw h1).either (ps_dput (by omega) (pe_var hN hv hd hcd) hi he hs)).imp fun D0 σ H ⟨C, e, ad, s, R, h⟩ => by
    rw [denS_put] at h
    cases ho : ownS e i with
    | none => simp only [ho] at h; exact h.elim
    | some d =>
      simp only [ho] at h
      have ho := ownS_some ho
      have eσ := (R.slots i _ ho).1
      have hq : PoR w X.K XE W C (mask (Os C e ad) H) ((denE F m e s).bind fun x s1 => (denE F k e s1).bind fun y s2 => putQ i d x y e s2) D0 := h
      cases d with
      | lst xs =>
        refine .inl (show RE w X XE W (denE F m) σ H _ from st_two (Z1 := ZE X.K) (Z2 := ZE X.K) (f := denE F m) (g := denE F k) (q := putQ i (.lst xs)) stab_E R hq (fun v H1 q => ⟨_, eσ, q⟩) fun {dx dy v iv H1 H2 s2} R2 l _ z1 z2 h => ?_)
        obtain ⟨d', hp, h⟩ := lift_st h
        obtain ⟨_, or⟩ := R2.slots i _ ho
        obtain ⟨vs, hH, ra⟩ := or.lstv
        cases dy with
        | int kk =>
          simp only [putD] at hp
          cases hj : ixN xs.length kk with
          | none => rw [hj] at hp; cases hp
          | some j =>
            rw [hj] at hp
            cases hp
            have ev : iv = .int kk := Rp.intv z2
            subst ev
            exact ⟨_, vs, kk, j, rfl, rfl, hH, by rw [ra.length]; exact hj, write_fin ho R2 l h fun H' e' => .lst e' (ra.set j z1)⟩
        | _ => simp [putD] at hp
      | dk ks xs =>
        refine .inr (show RE w X XE W (denE F m) σ H _ from st_two (Z1 := ZE X.K) (Z2 := ZE X.K) (f := denE F m) (g := denE F k) (q := putQ i (.dk ks xs)) stab_E R hq (fun v H1 q => ⟨_, eσ, q⟩) fun {dx dy v iv H1 H2 s2} R2 l _ z1 z2 h => ?_)
        obtain ⟨d', hp, h⟩ := lift_st h
        obtain ⟨_, or⟩ := R2.slots i _ ho
        obtain ⟨vs, hl, hH, ra⟩ := or.dkv
        simp only [putD] at hp
        cases hk : keyOf dy with
        | none => rw [hk] at hp; cases hp
        | some kk =>
          rw [hk] at hp
          simp only [Option.bind_some] at hp
          split at hp
          · next hz =>
            cases hp
            obtain ⟨ev, _⟩ := keyOf_v (show Rp X.K (mask (Os C e ad) H2) iv dy from z2) hk
            obtain ⟨vs', e1, e2, e3⟩ := putK_lk kk hl ra (show Rp X.K (mask (Os C e ad) H2) v dx from z1)
            have hlz : (ks.zip vs).length < sizeLine := by rw [List.length_zip, ← hl, Nat.min_self]; exact hz
            refine ⟨_, _, rfl, .inl ⟨_, kk, hH, ev, hlz, rfl⟩, ?_⟩
            rw [e1]
            exact write_fin ho R2 l h fun H' e' => .dk e2 e' e3
          · cases hp
      | dt ks xs =>
        refine .inr (show RE w X XE W (denE F m) σ H _ from st_two (Z1 := ZE X.K) (Z2 := ZE X.K) (f := denE F m) (g := denE F k) (q := putQ i (.dt ks xs)) stab_E R hq (fun v H1 q => ⟨_, eσ, q⟩) fun {dx dy v iv H1 H2 s2} R2 l _ z1 z2 h => ?_)
        obtain ⟨d', hp, h⟩ := lift_st h
        obtain ⟨_, or⟩ := R2.slots i _ ho
        obtain ⟨vs, hl, hH, ra⟩ := or.dtv
        cases dy with
        | tup ys =>
          simp only [putD] at hp
          cases hk : keysOf ys with
          | none => rw [hk] at hp; cases hp
          | some kk =>
            rw [hk] at hp
            simp only [Option.bind_some] at hp
            split at hp
            · next hz =>
              cases hp
              obtain ⟨b, ws, ev, hb, rw'⟩ := VRp.tupv (Dm := C.Dm) (H := H2) (.rp (show Rp X.K (mask (Os C e ad) H2) iv (.tup ys) from z2))
              obtain ⟨ew, _⟩ := keysOf_v rw' hk
              obtain ⟨vs', e1, e2, e3⟩ := putK_lk kk hl ra (show Rp X.K (mask (Os C e ad) H2) v dx from z1)
              have hlz : (ks.zip vs).length < sizeLine := by rw [List.length_zip, ← hl, Nat.min_self]; exact hz
              refine ⟨_, _, rfl, .inr ⟨_, kk, b, hH, ev, by rw [← ew]; exact (mask_of hb).2, hlz, rfl⟩, ?_⟩
              rw [e1]
              exact write_fin ho R2 l h fun H' e' => .dt e2 e' e3
            · cases hp
        | _ => simp [putD] at hp
      | _ =>
        obtain ⟨_, or⟩ := R.slots i _ ho
        cases or
/-! ### x.append(e), x.append(y.pop(e)), d.pop(k) -/
theorem denS_app (i : Nat) (m : ME) : denS F (.app i m) = fun e s => match ownS e i with
    | some (.lst xs) => (denE F m e s).bind fun x s1 => if xs.length < sizeLine then .ok (.nxt (e.set i (.own (.lst (xs ++ [x]))))) s1 else .stuck
    | _ => .stuck := by funext e s; simp only [denS] <;> rfl
theorem denS_appPop (i j : Nat) (m : ME) : denS F (.appPop i j m) = fun e s => match ownS e i, ownS e j with
    | some (.lst xs), some (.lst ys) => if i = j then .stuck else (denE F m e s).bind fun x s1 => (Rs.lift (popD ys x) s1).bind fun p s2 =>
        if xs.length < sizeLine then .ok (.nxt ((e.set j (.own (.lst p.2))).set i (.own (.lst (xs ++ [p.1]))))) s2 else .stuck
    | _, _ => .stuck := by funext e s; simp only [denS] <;> rfl
theorem denS_dpop (i : Nat) (m : ME) : denS F (.dpop i m) = fun e s => match ownS e i with
    | some d => if isDict d then (denE F m e s).bind fun x s1 => (Rs.lift (dpopD d x) s1).bind fun d' s2 => .ok (.nxt (e.set i (.own d'))) s2 else .stuck
    | none => .stuck := by funext e s; simp only [denS] <;> rfl
/-- a method call with one argument: what the kit's rule asks of its row -/
structure Row1 (X : Cx) (o : Expr) (m : Str) (apos : Pos) (e : Expr) (cpos : Pos) : Prop where
  m1 : M1 X o m apos e cpos
  st : starEach [e] X.env = (false, eval e X.env) :: starEach [] X.env
  pl : (backTo cpos (starEach [] X.env)).any (·.1) = false
theorem st_app {i : Nat} {x : Str} {xp apos cpos pos : Pos} {a : Expr} {m : ME} (hN : X.N[i]? = some x) (hv : Vis X.env.scope x) (hd : (x == ("__debug__" : Str)) = false) (hcd : (x == ("__classdict__" : Str)) = false)
    (he : PE X a (RE w X XE W (denE F m))) (r : Row1 X (.Name x xp) "append" apos a cpos) (hs : swapsWith (.Call (.Attribute (.Name x xp) "append" apos) [a] [] cpos) none pos.line X.env = pure false) :
    PS X (.Expr (.Call (.Attribute (.Name x xp) "append" apos) [a] [] cpos) pos) (RS' w X XE W (denS F (.app i m))) :=
  (ps_expr (pe_bm (T := "list") (id := "list.append") PySem.F.plainAttrs_list PySem.F.slot_list_append PySem.F.type_list_append mt_append (pe_var hN hv hd hcd) (pa_cons he pa_nil r.st) r.m1.base r.m1.few r.m1.line r.st r.pl) hs).imp fun D0 σ H ⟨C, e, ad, s, R, h⟩ => by
    rw [denS_app] at h
    simp only at h
    split at h
    · next xs ho =>
      have ho := ownS_some ho
      obtain ⟨eσ, or0⟩ := R.slots i _ ho
      obtain ⟨vs0, hH0, ra0⟩ := or0.lstv
      refine ⟨_, eσ, .inl ⟨rfl, vs0, .inl (.inl hH0)⟩, (show RE w X XE W (denE F m) σ H _ from st_one (g := fun x e s1 => if xs.length < sizeLine then .ok (.nxt (e.set i (.own (.lst (xs ++ [x]))))) s1 else .stuck) R h fun {dx v H1 s1} _ p R1 z h => ?_)⟩
      split at h
      · next hz =>
        obtain ⟨_, or1⟩ := R1.slots i _ ho
        obtain ⟨vs, hH, ra⟩ := or1.lstv
        exact ⟨_, vs, v, rfl, rfl, hH, by rw [ra.length]; exact hz, write_fin ho R1 (R.le p.kp) h fun H' e' => .lst e' (ra.append (.cons z .nil))⟩
      · exact h.elim
    · exact h.elim
theorem st_appPop {i j : Nat} {x y : Str} {xp yp apos cpos apos2 cpos2 pos : Pos} {a : Expr} {m : ME} (hN : X.N[i]? = some x) (hv : Vis X.env.scope x) (hd : (x == ("__debug__" : Str)) = false) (hcd : (x == ("__classdict__" : Str)) = false)
    (hN2 : X.N[j]? = some y) (hv2 : Vis X.env.scope y) (hd2 : (y == ("__debug__" : Str)) = false) (hcd2 : (y == ("__classdict__" : Str)) = false)
    (he : PE X a (RE w X XE W (denE F m))) (r2 : Row1 X (.Name y yp) "pop" apos2 a cpos2) (r : Row1 X (.Name x xp) "append" apos (.Call (.Attribute (.Name y yp) "pop" apos2) [a] [] cpos2) cpos)
    (hs : swapsWith (.Call (.Attribute (.Name x xp) "append" apos) [.Call (.Attribute (.Name y yp) "pop" apos2) [a] [] cpos2] [] cpos) none pos.line X.env = pure false) :
    PS X (.Expr (.Call (.Attribute (.Name x xp) "append" apos) [.Call (.Attribute (.Name y yp) "pop" apos2) [a] [] cpos2] [] cpos) pos) (RS' w X XE W (denS F (.appPop i j m))) :=
  (ps_expr (pe_bm (T := "list") (id := "list.append") PySem.F.plainAttrs_list PySem.F.slot_list_append PySem.F.type_list_append mt_append (pe_var hN hv hd hcd)
    (pa_cons (pe_bm (T := "list") (id := "list.pop") PySem.F.plainAttrs_list PySem.F.slot_list_pop PySem.F.type_list_pop mt_popAt (pe_var hN2 hv2 hd2 hcd2) (pa_cons he pa_nil r2.st) r2.m1.base r2.m1.few r2.m1.line r2.st r2.pl) pa_nil r.st) r.m1.base r.m1.few r.m1.line r.st r.pl) hs).imp fun D0 σ H ⟨C, e, ad, s, R, h⟩ => by
    rw [denS_appPop] at h
    simp only at h
    split at h
    · next xs ys ho ho2 =>
      have ho := ownS_some ho
      have ho2 := ownS_some ho2
      split at h
      · exact h.elim
      · next nij =>
        obtain ⟨eσ, or0⟩ := R.slots i _ ho
        obtain ⟨vs0, hH0, ra0⟩ := or0.lstv
        obtain ⟨eσ2, or2⟩ := R.slots j _ ho2
        obtain ⟨vs2, hH2, ra2⟩ := or2.lstv
        refine ⟨_, eσ, .inl ⟨rfl, vs0, .inl (.inl hH0)⟩, _, eσ2, .inl ⟨rfl, vs2, .inl (.inl hH2)⟩, (show RE w X XE W (denE F m) σ H _ from st_one (g := fun x e s1 => (Rs.lift (popD ys x) s1).bind fun p s2 =>
          if xs.length < sizeLine then .ok (.nxt ((e.set j (.own (.lst p.2))).set i (.own (.lst (xs ++ [p.1]))))) s2 else .stuck) R h fun {dx v H1 s1} _ p R1 z h => ?_)⟩
        obtain ⟨⟨d1, zs⟩, hp, h⟩ := lift_st h
        split at h
        · next hz =>
          cases dx with
          | int k =>
            simp only [popD] at hp
            split at hp
            · next hk =>
              cases hn : ixN ys.length k with
              | none => rw [hn] at hp; cases hp
              | some n =>
                rw [hn] at hp
                simp only [Option.bind_some] at hp
                cases hy : ys[n]? with
                | none => rw [hy] at hp; cases hp
                | some yv =>
                  rw [hy] at hp
                  cases hp
                  have ev : v = .int k := Rp.intv z
                  subst ev
                  obtain ⟨_, or1⟩ := R1.slots i _ ho
                  obtain ⟨vs, hH, ra⟩ := or1.lstv
                  obtain ⟨_, or3⟩ := R1.slots j _ ho2
                  obtain ⟨vs3, hH3, ra3⟩ := or3.lstv
                  obtain ⟨u, hu, ru⟩ := ra3.get hy
                  have six : seqIndex? k vs3.length = some n := by rw [ra3.length]; exact (ixN_seq hn).1
                  have nad : ad i ≠ ad j := fun q => nij (R.own2 i j _ _ ho ho2 q)
                  obtain ⟨R4, l4⟩ := R1.write (d' := .lst (ys.eraseIdx n)) (o := .lst (vs3.eraseIdx n)) ho2 fun H' e' => .lst e' (ra3.eraseIdx n)
                  have ho4 : (e.set j (.own (.lst (ys.eraseIdx n))))[i]? = some (.own (.lst xs)) := by rw [List.getElem?_set_ne (Ne.symm nij)]; exact ho
                  refine ⟨_, vs3, k, n, u, rfl, rfl, hH3, hk.1, hk.2, six, hu, _, vs, u, rfl, rfl, by rw [upd_ne nad]; exact hH, by rw [ra.length]; exact hz, ?_⟩
                  exact write_fin ho4 R4 ((R.le p.kp).trans l4) h fun H' e' => .lst e' ((ra.le l4).append (.cons (ru.le l4) .nil))
            · cases hp
          | _ => simp [popD] at hp
        · exact h.elim
    · exact h.elim
theorem st_dpop {i : Nat} {x : Str} {xp apos cpos pos : Pos} {a : Expr} {m : ME} (hu : X.A.units + 65 < cLine) (hN : X.N[i]? = some x) (hv : Vis X.env.scope x) (hd : (x == ("__debug__" : Str)) = false) (hcd : (x == ("__classdict__" : Str)) = false)
    (he : PE X a (RE w X XE W (denE F m))) (r : Row1 X (.Name x xp) "pop" apos a cpos) (hs : swapsWith (.Call (.Attribute (.Name x xp) "pop" apos) [a] [] cpos) none pos.line X.env = pure false) :
    PS X (.Expr (.Call (.Attribute (.Name x xp) "pop" apos) [a] [] cpos) pos) (RS' w X XE W (denS F (.dpop i m))) :=
  ((ps_expr (pe_dpop1 (pe_var hN hv hd hcd) he r.m1) hs).either (ps_expr (pe_bm (T := "dict") (id := "dict.pop") PySem.F.plainAttrs_dict PySem.F.slot_dict_pop PySem.F.type_dict_pop (mt_pop1T (by omega)) (pe_var hN hv hd hcd) (pa_cons he pa_nil r.st) r.m1.base r.m1.few r.m1.line r.st r.pl) hs)).imp fun D0 σ H ⟨C, e, ad, s, R, h⟩ => by
    rw [denS_dpop] at h
    cases ho : ownS e i with
    | none => simp only [ho] at h; exact h.elim
    | some d =>
      simp only [ho] at h
      have ho := ownS_some ho
      split at h
      · next hdi =>
        obtain ⟨eσ, or0⟩ := R.slots i _ ho
        cases d with
        | dk ks xs =>
          obtain ⟨vs0, hl0, hH0, ra0⟩ := or0.dkv
          refine .inl ⟨_, eσ, _, rfl, .inl ⟨_, .inl hH0⟩, (show RE w X XE W (denE F m) σ H _ from st_one (g := fun x e s1 => (Rs.lift (dpopD (.dk ks xs) x) s1).bind fun d' s2 => .ok (.nxt (e.set i (.own d'))) s2) R h fun {dx v H1 s1} _ p R1 z h => ?_)⟩
          obtain ⟨d', hp, h⟩ := lift_st h
          obtain ⟨_, or⟩ := R1.slots i _ ho
          obtain ⟨vs, hl, hH, ra⟩ := or.dkv
          simp only [dpopD] at hp
          cases hk : keyOf dx with
          | none => rw [hk] at hp; cases hp
          | some kk =>
            rw [hk] at hp
            simp only [Option.bind_some] at hp
            split at hp
            · next hsome =>
              cases hp
              obtain ⟨ev, _⟩ := keyOf_v (show Rp X.K (mask (Os C e ad) H1) v dx from z) hk
              have lk := lookD_v kk hl ra
              cases hlk : lookD ks xs kk with
              | none => rw [hlk] at hsome; cases hsome
              | some dv =>
                rw [hlk] at lk
                obtain ⟨u, hu1, _⟩ := lk
                obtain ⟨vs', e1, e2, e3⟩ := dropK_lk kk hl ra
                refine ⟨_, kk, u, hH, ev, hu1, ?_⟩
                rw [e1]
                exact write_fin ho R1 (R.le p.kp) h fun H' e' => .dk e2 e' e3
            · cases hp
        | dt ks xs =>
          obtain ⟨vs0, hl0, hH0, ra0⟩ := or0.dtv
          refine .inr ⟨_, eσ, .inr (.inr (.inl ⟨rfl, .inr ⟨_, hH0⟩⟩)), (show RE w X XE W (denE F m) σ H _ from st_one (g := fun x e s1 => (Rs.lift (dpopD (.dt ks xs) x) s1).bind fun d' s2 => .ok (.nxt (e.set i (.own d'))) s2) R h fun {dx v H1 s1} _ p R1 z h => ?_)⟩
          obtain ⟨d', hp, h⟩ := lift_st h
          obtain ⟨_, or⟩ := R1.slots i _ ho
          obtain ⟨vs, hl, hH, ra⟩ := or.dtv
          cases dx with
          | tup ys =>
            simp only [dpopD] at hp
            cases hk : keysOf ys with
            | none => rw [hk] at hp; cases hp
            | some kk =>
              rw [hk] at hp
              simp only [Option.bind_some] at hp
              split at hp
              · next hsome =>
                cases hp
                obtain ⟨b, ws, ev, hb, rw'⟩ := VRp.tupv (Dm := C.Dm) (H := H1) (.rp (show Rp X.K (mask (Os C e ad) H1) v (.tup ys) from z))
                obtain ⟨ew, _⟩ := keysOf_v rw' hk
                have lk := lookD_v kk hl ra
                cases hlk : lookD ks xs kk with
                | none => rw [hlk] at hsome; cases hsome
                | some dv =>
                  rw [hlk] at lk
                  obtain ⟨u, hu1, _⟩ := lk
                  obtain ⟨vs', e1, e2, e3⟩ := dropK_lk kk hl ra
                  refine ⟨_, b, _, kk, u, rfl, by rw [ev], hH, by rw [← ew]; exact (mask_of hb).2, hu1, ?_⟩
                  rw [e1]
                  exact write_fin ho R1 (R.le p.kp) h fun H' e' => .dt e2 e' e3
              · cases hp
          | _ => simp [dpopD] at hp
        | _ => cases hdi
      · exact h.elim
/-! ### name += e -/
theorem denS_aug (i : Nat) (o : Op) (m : ME) : denS F (.aug i o m) = fun e s => (match dataS e i with
    | some d => (denE F m e s).bind fun x s1 => (Rs.lift (augD o d x) s1).bind fun r s2 => .ok (.nxt (setS e i (.dat r))) s2
    | none => .stuck) := by funext e s; simp only [denS] <;> rfl
theorem st_aug {i : Nat} {x : Str} {a : Expr} {m : ME} {o : Op} {op : Operator} {pos pos' : Pos} (ho : (o = .add ∧ op = .Add) ∨ (o = .sub ∧ op = .Sub)) (hNd : X.N.Nodup) (hN : X.N[i]? = some x) (hx : Loc X.env.scope x) (hf : X.fn x = true ∨ X.env.scope.names.lookup x = some .local) (he : PE X a (RE w X XE W (denE F m))) :
    PS X (.AugAssign (.Name x pos') op a pos) (RS' w X XE W (denS F (.aug i o m))) := by
  have hi : i < X.N.length := (List.getElem?_eq_some_iff.mp hN).1
  rcases ho with ⟨rfl, rfl⟩ | ⟨rfl, rfl⟩
  · refine (ps_aug hNd hN hx he ip_add hf).impL fun D0 σ H hl ⟨C, e, ad, s, R, h⟩ => ?_
    rw [denS_aug] at h
    cases hd : dataS e i with
    | none => simp only [hd] at h; exact h.elim
    | some d =>
      simp only [hd] at h
      obtain ⟨v, e1, r⟩ := R.data hd
      refine ⟨v, e1, (show RE w X XE W (denE F m) σ H _ from st_one (g := fun x e s1 => (Rs.lift (augD .add d x) s1).bind fun r s2 => .ok (.nxt (setS e i (.dat r))) s2) R h fun {dx y H1 s1} _ p R1 z h => ?_)⟩
      obtain ⟨d', hp, h⟩ := lift_st h
      cases d with
      | int ia =>
        cases dx with
        | int ib =>
          cases hp
          have ev := Rp.intv r
          have ey : y = .int ib := Rp.intv z
          subst ev ey
          obtain ⟨R2, l⟩ := R1.setDat (i := i) (v := .int (ia + ib)) (d := .int (ia + ib)) (by rw [← R.len, hl]; exact hi) (.int _)
          exact ⟨ia, ib, rfl, rfl, h _ _ ⟨ad, R2, (R.le p.kp).trans l⟩⟩
        | _ => simp [augD] at hp
      | _ => simp [augD] at hp
  · refine (ps_aug hNd hN hx he ip_sub hf).impL fun D0 σ H hl ⟨C, e, ad, s, R, h⟩ => ?_
    rw [denS_aug] at h
    cases hd : dataS e i with
    | none => simp only [hd] at h; exact h.elim
    | some d =>
      simp only [hd] at h
      obtain ⟨v, e1, r⟩ := R.data hd
      refine ⟨v, e1, (show RE w X XE W (denE F m) σ H _ from st_one (g := fun x e s1 => (Rs.lift (augD .sub d x) s1).bind fun r s2 => .ok (.nxt (setS e i (.dat r))) s2) R h fun {dx y H1 s1} _ p R1 z h => ?_)⟩
      obtain ⟨d', hp, h⟩ := lift_st h
      cases d with
      | int ia =>
        cases dx with
        | int ib =>
          cases hp
          have ev := Rp.intv r
          have ey : y = .int ib := Rp.intv z
          subst ev ey
          obtain ⟨R2, l⟩ := R1.setDat (i := i) (v := .int (ia - ib)) (d := .int (ia - ib)) (by rw [← R.len, hl]; exact hi) (.int _)
          exact ⟨ia, ib, rfl, rfl, h _ _ ⟨ad, R2, (R.le p.kp).trans l⟩⟩
        | _ => simp [augD] at hp
      | _ => simp [augD] at hp
end
end Rf
/-! Reflection layer, part 19: loops. -/
namespace Rf
open PySem PySem.Spec PyProof.Rows L2
section
variable {w : Wld} {X : Cx} {XE : Er → Value → Option Addr → Hp → Prop} {W : WX} {F : Fs w}
/-- what a turn's outcome leads to -/
theorem turn_out {K : PySem.W.Frag} {C : Fc} {M M0 : Hp} {r : Rs w.T Out} {k : En → w.T → Rs w.T Out} {D : Ends} {N : L2.St → Hp → Prop} (l : Le M0 M) (h : PoR w K XE W C M0 (r.bind fun o s2 => match o with
      | .nxt e2 => k e2 s2
      | .cnt e2 => k e2 s2
      | .brk e2 => .ok (.nxt e2) s2
      | .ret d => .ok (.ret d) s2) D) (hN : ∀ e2 s2 σ1 H1, PoR w K XE W C M0 (k e2 s2) D → SS w K C M e2 s2 σ1 H1 → N σ1 H1) : PoR w K XE W C M r { D with nx := N, ct := N, bk := D.nx } := by
  cases r with
  | err er s1 => exact h
  | stuck => exact h
  | ok o s2 =>
    cases o with
    | nxt e2 => exact fun σ1 H1 q => hN e2 s2 σ1 H1 h q
    | cnt e2 => exact fun σ1 H1 q => hN e2 s2 σ1 H1 h q
    | brk e2 => exact fun σ1 H1 ⟨ad1, R1, l1⟩ => h σ1 H1 ⟨ad1, R1, l.trans l1⟩
    | ret d => exact h
theorem for_walk {K : PySem.W.Frag} {C : Fc} {e : En} {ad : Nat → Addr} {s : w.T} {σ : L2.St} {H1 M0 : Hp} {J : It} {ds : List D} {Src : Hp → Hp → Prop} {tg : Tg} {b : MSs} {D0 : Ends} (R : Rel w K C e ad s σ H1) (ok : IOk w K C.Dm Src J ds)
    (src : ∀ e' ad' (t' : w.T) σ' H2, Rel w K C e' ad' t' σ' H2 → Le (mask (Os C e ad) H1) (mask (Os C e' ad') H2) → Src (mask (Os C e' ad') H2) H2) (l0 : Le M0 (mask (Os C e ad) H1)) (h : PoR w K XE W C M0 (loopFor tg (denSs F b) ds e s) D0) :
    ∃ Wv : Nat → Nat → L2.St → Hp → Prop, (∃ m, Wv 0 m σ H1) ∧ ∀ i m σ H, Wv i m σ H → (J.stop i H ∧ D0.nx σ H) ∨ (J.go i H ∧ ∃ N : L2.St → Hp → Prop, (∀ σ' H', N σ' H' → ∃ m', m' < m ∧ Wv (i + 1) m' σ' H') ∧
      ∀ x H', J.yld i H x H' → rdG w K tg x σ H' fun σ2 H2 => rdS w K XE W (denSs F b) { D0 with nx := N, ct := N, bk := D0.nx } σ2 H2) := by
  refine ⟨fun i m σ H => m = ds.length - i ∧ i ≤ ds.length ∧ ∃ e' ad' s', Rel w K C e' ad' s' σ H ∧ Le (mask (Os C e ad) H1) (mask (Os C e' ad') H) ∧ PoR w K XE W C M0 (loopFor tg (denSs F b) (ds.drop i) e' s') D0, ⟨ds.length, by simp, Nat.zero_le _, e, ad, s, R, .refl _, by simpa using h⟩, ?_⟩
  clear h R s σ
  rintro i m σ H ⟨rfl, hi, e', ad', s', R, l, h⟩
  by_cases hlt : i < ds.length
  · obtain ⟨d, hd⟩ : ∃ d, ds[i]? = some d := ⟨ds[i], List.getElem?_eq_getElem hlt⟩
    have hdr : ds.drop i = d :: ds.drop (i + 1) := by
      rw [List.drop_eq_getElem_cons hlt]
      rw [List.getElem?_eq_getElem hlt] at hd
      cases hd; rfl
    rw [hdr] at h
    unfold loopFor at h
    obtain ⟨e1, hb, h⟩ := lift_st h
    obtain ⟨go, yl⟩ := ok.go rfl R (src _ _ _ _ _ R l) hd
    refine .inr ⟨go, fun σ' H' => i + 1 ≤ ds.length ∧ ∃ e2 ad2 s2, Rel w K C e2 ad2 s2 σ' H' ∧ Le (mask (Os C e ad) H1) (mask (Os C e2 ad2) H') ∧ PoR w K XE W C M0 (loopFor tg (denSs F b) (ds.drop (i + 1)) e2 s2) D0, fun σ' H' q => ⟨ds.length - (i + 1), by omega, rfl, q.1, q.2⟩, fun x H' hy => ?_⟩
    obtain ⟨p, z⟩ := yl x H' hy
    have R' := R.ext p.kp p.dr
    refine ⟨C, e', ad', s', d, e1, R', z, hb, fun σ1 pg => ⟨C, e1, ad', s', pg.rel, ?_⟩⟩
    have ll := l.trans ((R.le p.kp).trans pg.le)
    exact turn_out (l0.trans ll) h fun e2 s2 σ2 H2 q ⟨ad2, R2, l2⟩ => ⟨hlt, e2, ad2, s2, R2, ll.trans l2, q⟩
  · have e0 : i = ds.length := by omega
    subst e0
    rw [List.drop_length] at h
    simp only [loopFor] at h
    exact .inl ⟨ok.stop rfl R (src _ _ _ _ _ R l), h σ H ⟨ad', R, l0.trans l⟩⟩
theorem denS_loop (tg : Tg) (it : MI) (b : MSs) : denS F (.loop tg it b) = fun e s => if loopOk e it then (denI F it e s).bind fun ds s1 => calmIf (isKeys it) (loopFor tg (denSs F b) ds e s1) else .stuck := by funext e s; simp only [denS]
theorem st_for {tg iter : Expr} {body : List Stmt} {pos : Pos} {t : Tg} {it : MI} {b : MSs} (hp : PassesOwn (model X.prog X.w) X.A X.env X.xe) (hc : X.calm = true) (hi : PI X tg iter (rdI w X.K XE W (fun e => loopOk e it = true) (denI F it))) (hg : PG X tg (rdG w X.K t)) (hb : PSs X body (RS' w X XE W (denSs F b)))
    (hs : ∀ x, foldedSetIterable iter X.env x = pure x) (nk : isKeys it = false) : PS X (.For tg iter body [] pos) (RS' w X XE W (denS F (.loop t it b))) := (ps_for hp hc hi hg hb hs).imp fun D0 σ H ⟨C, e, ad, s, R, h⟩ => by
  rw [denS_loop] at h
  simp only [nk, calmIf] at h
  split at h
  · next hok =>
    refine ⟨C, e, ad, s, R, ?_⟩
    cases hd : denI F it e s with
    | err er s1 =>
      simp only [hd, Rs.bind_err] at h ⊢
      exact fun cls dx H' p z => h cls dx σ H' (R.keep.trans p.kp) p.dr z
    | stuck => simp only [hd, Rs.bind_stuck] at h; exact h.elim
    | ok ds s1 =>
      simp only [hd, Rs.bind_ok] at h ⊢
      exact fun J H1 Src p keep strict ok => for_walk (R.ext p.kp p.dr) ok (strict hok) (R.le p.kp) h
  · exact h.elim
/-! ### while -/
theorem denS_whl (c : ME) (b : MSs) : denS F (.whl c b) = fun e s => loopWhl (denT F c) (denSs F b) whlMost e s := by funext e s; simp only [denS]
theorem st_while {c : Expr} {body : List Stmt} {pos : Pos} {mc : ME} {b : MSs} (hp : PassesOwn (model X.prog X.w) X.A X.env X.xe) (hc : PT X c (RT w X XE W (denT F mc))) (hb : PSs X body (RS' w X XE W (denSs F b))) : PS X (.While c body [] pos) (RS' w X XE W (denS F (.whl mc b))) := (ps_while hp hc hb).imp fun D0 σ H ⟨C, e, ad, s, R, h⟩ => by
  rw [denS_whl] at h
  refine ⟨fun m σ' H' => ∃ e' ad' s', Rel w X.K C e' ad' s' σ' H' ∧ Le (mask (Os C e ad) H) (mask (Os C e' ad') H') ∧ PoR w X.K XE W C (mask (Os C e ad) H) (loopWhl (denT F mc) (denSs F b) m e' s') D0, ⟨whlMost, e, ad, s, R, .refl _, h⟩, ?_⟩
  rintro m σ1 H1 ⟨e1, ad1, s1, R1, l1, h⟩
  cases m with
  | zero => exact h.elim
  | succ m =>
    unfold loopWhl at h
    refine (show RT w X XE W (denT F mc) σ1 H1 _ from st_one (g := fun k e s1 => if k then (denSs F b e s1).bind fun o s2 => (match o with
      | .nxt e2 => loopWhl (denT F mc) (denSs F b) m e2 s2
      | .cnt e2 => loopWhl (denT F mc) (denSs F b) m e2 s2
      | .brk e2 => .ok (.nxt e2) s2
      | .ret d => .ok (.ret d) s2) else .ok (.nxt e) s1) R1 h fun {dx x H2 s2} _ p R2 z h => ?_)
    have ex : x = dx := z
    subst ex
    have l2 := l1.trans (R1.le p.kp)
    cases x with
    | false => exact h σ1 H2 ⟨ad1, R2, l2⟩
    | true =>
      rw [if_pos rfl] at h ⊢
      refine ⟨fun σ' H' => ∃ e' ad' s', Rel w X.K C e' ad' s' σ' H' ∧ Le (mask (Os C e ad) H) (mask (Os C e' ad') H') ∧ PoR w X.K XE W C (mask (Os C e ad) H) (loopWhl (denT F mc) (denSs F b) m e' s') D0, fun σ' H' q => ⟨m, Nat.lt_succ_self m, q⟩, C, e1, ad1, s2, R2, ?_⟩
      exact turn_out l2 h fun e2 s3 σ3 H3 q ⟨ad3, R3, l3⟩ => ⟨e2, ad3, s3, R3, l2.trans l3, q⟩
end
end Rf
/-! Reflection layer, part 20: loops over a dict's keys. -/
namespace Rf
open PySem PySem.Spec PyProof.Rows L2
section
variable {w : Wld} {X : Cx} {XE : Er → Value → Option Addr → Hp → Prop} {W : WX} {F : Fs w}
theorem keys_rp {K : PySem.W.Frag} {M : Hp} : ∀ k : List Key, RpA K M (k.map kV) (k.map keyD)
  | [] => .nil
  | .inl i :: r => .cons (.int i) (keys_rp r)
  | .inr x :: r => .cons (.str x) (keys_rp r)
theorem key_rp {K : PySem.W.Frag} {M : Hp} (k : Key) : Rp K M (kV k) (keyD k) := by
  cases k with
  | inl i => exact .int i
  | inr x => exact .str x
theorem zip_get {α : Type} {ks : List α} {vs : List V} {i : Nat} {k : α} {v : V} (h : (ks.zip vs)[i]? = some (k, v)) : ks[i]? = some k := by
  rw [List.getElem?_zip_eq_some] at h
  exact h.1
theorem iok_dt {K : PySem.W.Frag} {Dm : Addr → Prop} {a : Addr} {o : Obj} {ks : List (List Key)} {vs : List V} (hl : ks.length = vs.length) : IOk w K Dm (fun _ H => H a = some (.frz o (.dT (ks.zip vs)))) (Itkt a o (ks.zip vs)) (ks.map fun k => .tup (k.map keyD)) where
  go := fun {C e ad s σ H i d} hC R z hd => by
    rw [List.getElem?_map] at hd
    cases hk : ks[i]? with
    | none => rw [hk] at hd; cases hd
    | some k =>
      rw [hk] at hd
      cases hd
      have hlt : i < (ks.zip vs).length := by rw [List.length_zip, ← hl, Nat.min_self]; exact (List.getElem?_eq_some_iff.mp hk).1
      refine ⟨⟨z, hlt⟩, fun y H' hy => ?_⟩
      obtain ⟨rfl, k', v, q, hz, rfl, hq⟩ := hy
      have := zip_get hz
      rw [hk] at this
      cases this
      refine ⟨.refl R, .tup (mask_at (fun os => ?_) hq) (keys_rp k)⟩
      obtain ⟨u, hu, nt⟩ := R.odom' os
      rw [hq] at hu
      cases hu
      exact nt
  stop := fun {C e ad s σ H} hC R z => ⟨z, by rw [List.length_zip, ← hl, Nat.min_self, List.length_map]; exact Nat.le_refl _⟩
theorem iok_dk {K : PySem.W.Frag} {Dm : Addr → Prop} {a : Addr} {o : Obj} {ks : List Key} {vs : List V} (hl : ks.length = vs.length) : IOk w K Dm (fun _ H => H a = some (.frz o (.dK (ks.zip vs)))) (Itk a o (ks.zip vs)) (ks.map keyD) where
  go := fun {C e ad s σ H i d} hC R z hd => by
    rw [List.getElem?_map] at hd
    cases hk : ks[i]? with
    | none => rw [hk] at hd; cases hd
    | some k =>
      rw [hk] at hd
      cases hd
      have hlt : i < (ks.zip vs).length := by rw [List.length_zip, ← hl, Nat.min_self]; exact (List.getElem?_eq_some_iff.mp hk).1
      refine ⟨⟨z, hlt⟩, fun y H' hy => ?_⟩
      obtain ⟨rfl, k', v, hz, rfl⟩ := hy
      have := zip_get hz
      rw [hk] at this
      cases this
      exact ⟨.refl R, key_rp k⟩
  stop := fun {C e ad s σ H} hC R z => ⟨z, by rw [List.length_zip, ← hl, Nat.min_self, List.length_map]; exact Nat.le_refl _⟩
/-! ### locks -/
def Fc.lock (C : Fc) (a : Addr) (o : HO) : Fc := { C with H0 := upd C.H0 a o }
section
variable {K : PySem.W.Frag} {C : Fc} {e : En} {ad : Nat → Addr} {s : w.T} {σ : L2.St} {H : Hp} {a : Addr}
theorem le_upd {O : Addr → Prop} {x o' : HO} (h : H a = some x) (l : LeO x o') : Le (mask O H) (mask O (upd H a o')) := fun b o q => by
  obtain ⟨n, q⟩ := mask_of q
  by_cases z : b = a
  · subst z
    rw [h] at q; cases q
    exact ⟨o', mask_at n upd_same, l⟩
  · exact ⟨o, mask_at n (by rw [upd_ne z]; exact q), .refl o⟩
theorem draw_lock {o : HO} : DrawAt w (C.lock a o) s H ↔ DrawAt w C s H := by cases s <;> exact Iff.rfl
theorem Rel.lock (R : Rel w K C e ad s σ H) {x o' : HO} (h : H a = some x) (l : LeO x o') (nt : NT o') (nd : ¬ C.Dm a) (no : ∀ j d', e[j]? = some (.own d') → ad j ≠ a) : Rel w K (C.lock a o') e ad s σ (upd H a o') := by
  have ll : Le (mask (Os C e ad) H) (mask (Os (C.lock a o') e ad) (upd H a o')) := le_upd h l
  refine ⟨fun b o q n => ?_, draw_lock.mpr (R.draw.same fun b q => upd_ne fun z => nd (by rw [← z]; exact q)), R.dsub, fun b q => ?_, fun i t hi => ?_, fun i d hi => ⟨(R.own1 i d hi).1, ?_⟩, R.own2, R.len, fun b o q => ?_⟩
  · by_cases z : b = a
    · subst z
      have q : upd C.H0 b o' b = some o := q
      rw [upd_same] at q; rw [upd_same]; exact q
    · have q : upd C.H0 a o' b = some o := q
      rw [upd_ne z] at q; rw [upd_ne z]; exact R.keep b o q n
  · by_cases z : b = a
    · subst z; exact ⟨_, upd_same, nt⟩
    · rw [upd_ne z]; exact R.odom b q
  · have q := R.slots i t hi
    cases t with
    | non => trivial
    | dat d => obtain ⟨v, e2, r⟩ := q; exact ⟨v, e2, r.le ll⟩
    | own d => obtain ⟨e2, r⟩ := q; exact ⟨e2, r.le ll fun u z => by rw [upd_ne (no i d hi)]; exact z⟩
    | bor d => obtain ⟨b, e2, r⟩ := q; exact ⟨b, e2, r.le ll (.refl _)⟩
    | ali k => exact q
    | drw => exact q
  · show upd C.H0 a o' (ad i) = none
    rw [upd_ne (no i d hi)]; exact (R.own1 i d hi).2
  · obtain ⟨y, hy, ly⟩ := R.base b o q
    show ∃ y, upd C.H0 a o' b = some y ∧ LeO o y
    by_cases z : b = a
    · subst z
      have := R.keep b y hy nd
      rw [h] at this; cases this
      exact ⟨o', upd_same, ly.trans l⟩
    · exact ⟨y, by rw [upd_ne z]; exact hy, ly⟩
theorem Rel.unlock {o' u : HO} (R : Rel w K (C.lock a o') e ad s σ H) (hb : Le (mask C.Dm C.Hb) C.H0) (hk : ∀ y, C.H0 a = some y → y = u) (l : LeO o' u) (nt : NT u) (nd : ¬ C.Dm a) :
    H a = some o' ∧ Rel w K C e ad s σ (upd H a u) ∧ Le (mask (Os C e ad) H) (mask (Os C e ad) (upd H a u)) := by
  have ha : H a = some o' := R.keep a o' upd_same nd
  have ll : Le (mask (Os C e ad) H) (mask (Os C e ad) (upd H a u)) := le_upd ha l
  have no : ∀ j d', e[j]? = some (.own d') → ad j ≠ a := fun j d' h z => by
    have q : upd C.H0 a o' (ad j) = none := (R.own1 j d' h).2
    rw [z, upd_same] at q; cases q
  refine ⟨ha, ⟨fun b o q n => ?_, (draw_lock.mp R.draw).same fun b q => upd_ne fun z => nd (by rw [← z]; exact q), R.dsub, fun b q => ?_, fun i t hi => ?_, fun i d hi => ⟨(R.own1 i d hi).1, ?_⟩, R.own2, R.len, hb⟩, ll⟩
  · by_cases z : b = a
    · subst z; rw [upd_same, hk o q]
    · rw [upd_ne z]; exact R.keep b o (by show upd C.H0 a o' b = some o; rw [upd_ne z]; exact q) n
  · by_cases z : b = a
    · subst z; exact ⟨_, upd_same, nt⟩
    · rw [upd_ne z]; exact R.odom b q
  · have q := R.slots i t hi
    cases t with
    | non => trivial
    | dat d => obtain ⟨v, e2, r⟩ := q; exact ⟨v, e2, r.le ll⟩
    | own d => obtain ⟨e2, r⟩ := q; exact ⟨e2, r.le ll fun u z => by rw [upd_ne (no i d hi)]; exact z⟩
    | bor d => obtain ⟨b, e2, r⟩ := q; exact ⟨b, e2, r.le ll (.refl _)⟩
    | ali k => exact q
    | drw => exact q
  · have q : upd C.H0 a o' (ad i) = none := (R.own1 i d hi).2
    rw [upd_ne (no i d hi)] at q; exact q
theorem upd_self {o : HO} (h : H a = some o) : upd H a o = H := funext fun b => by
  by_cases z : b = a
  · subst z; rw [upd_same, h]
  · rw [upd_ne z]
/-- from what is asked without the lock to what is asked under it; U the thing behind -/
theorem PoR.lock {r : Rs w.T Out} {M0 M1 : Hp} {D D' : Ends} {o' u : HO} (h : PoR w K XE W C M0 r.calm D) (l0 : Le M0 M1) (hb : Le (mask C.Dm C.Hb) C.H0) (hk : ∀ y, C.H0 a = some y → y = u) (l : LeO o' u) (nt : NT u) (nd : ¬ C.Dm a)
    (dn : ∀ σ' H', H' a = some o' → D.nx σ' (upd H' a u) → D'.nx σ' H') (db : ∀ σ' H', H' a = some o' → D.bk σ' (upd H' a u) → D'.bk σ' H') (dc : ∀ σ' H', H' a = some o' → D.ct σ' (upd H' a u) → D'.ct σ' H') (dr : ∀ v H', H' a = some o' → D.rt v (upd H' a u) → D'.rt v H') :
    PoR w K XE W (C.lock a o') M1 r D' := by
  cases r with
  | err er s1 => exact h.elim
  | stuck => exact h.elim
  | ok o s1 =>
    cases o with
    | nxt e1 => exact fun σ1 H1 ⟨ad1, R1, l1⟩ => let ⟨ha, R2, l2⟩ := R1.unlock hb hk l nt nd; dn σ1 H1 ha (h σ1 _ ⟨ad1, R2, l0.trans (l1.trans l2)⟩)
    | brk e1 => exact fun σ1 H1 ⟨ad1, R1, l1⟩ => let ⟨ha, R2, l2⟩ := R1.unlock hb hk l nt nd; db σ1 H1 ha (h σ1 _ ⟨ad1, R2, l0.trans (l1.trans l2)⟩)
    | cnt e1 => exact fun σ1 H1 ⟨ad1, R1, l1⟩ => let ⟨ha, R2, l2⟩ := R1.unlock hb hk l nt nd; dc σ1 H1 ha (h σ1 _ ⟨ad1, R2, l0.trans (l1.trans l2)⟩)
    | ret d =>
      intro v H1 kp dw z
      have ha : H1 a = some o' := kp a o' upd_same nd
      refine dr v H1 ha (h v _ (fun b o q n => ?_) ((draw_lock.mp dw).same fun b q => upd_ne fun z => nd (by rw [← z]; exact q)) (Rp.le (le_upd ha l) z))
      by_cases zz : b = a
      · subst zz; rw [upd_same, hk o q]
      · rw [upd_ne zz]; exact kp b o (by show upd C.H0 a o' b = some o; rw [upd_ne zz]; exact q) n
end
theorem dict_at {K : PySem.W.Frag} {C : Fc} {e : En} {ad : Nat → Addr} {s : w.T} {σ : L2.St} {H : Hp} {i : Nat} {dd : D} (R : Rel w K C e ad s σ H) (ok : slotOk e i) (h : viewS e i = some dd) {ds : List D} (hk : keysD dd = some ds) :
    ∃ a, σ[i]? = some (some (.ref a)) ∧ ¬ C.Dm a ∧ (∀ j d', e[j]? = some (.own d') → ad j ≠ a) ∧
      ((∃ ks vs, dd = .dk ks vs) ∨ (∃ ks vs, dd = .dt ks vs)) ∧ VRp K C.Dm (mask (Os C e ad) H) H (.ref a) dd := by
  obtain ⟨v, e1, r⟩ := R.view h
  have sh : (∃ ks vs, dd = .dk ks vs) ∨ (∃ ks vs, dd = .dt ks vs) := by
    cases dd <;> first | exact .inl ⟨_, _, rfl⟩ | exact .inr ⟨_, _, rfl⟩ | cases hk
  rcases ok with ⟨d, hi⟩ | ⟨d, hi⟩
  · obtain ⟨v', e2, r2⟩ := R.slots i _ hi
    rw [e1] at e2; cases e2
    have ed : d = dd := by unfold viewS at h; rw [hi] at h; cases h; rfl
    subst ed
    have : ∃ a o, v = .ref a ∧ mask (Os C e ad) H a = some o := by
      rcases sh with ⟨ks, vs, rfl⟩ | ⟨ks, vs, rfl⟩
      · cases r2 with | dk z hh rr => rcases hh with q | ⟨x, q⟩ <;> exact ⟨_, _, rfl, q⟩
      · cases r2 with | dt z hh rr => rcases hh with q | ⟨x, q⟩ <;> exact ⟨_, _, rfl, q⟩
    obtain ⟨a, o, rfl, hm⟩ := this
    have n := (mask_of hm).1
    exact ⟨a, e1, fun z => n (R.dOs z), fun j d' hj z => n (.inr ⟨j, d', hj, z.symm⟩), sh, r⟩
  · obtain ⟨a, e2, r2⟩ := R.slots i _ hi
    rw [e1] at e2; cases e2
    have ed : d = dd := by unfold viewS at h; rw [hi] at h; cases h; rfl
    subst ed
    have : ¬ C.Dm a ∧ ∃ o, C.Hb a = some o ∨ (mask (Os C e ad) H a = some o ∧ ∀ j d', e[j]? = some (.own d') → ad j ≠ a) := by
      rcases sh with ⟨ks, vs, rfl⟩ | ⟨ks, vs, rfl⟩
      · cases r2 with
        | dk n z hh rr => rcases hh with q | ⟨x, q⟩ <;> exact ⟨n, _, .inl q⟩
        | rp r2 => cases r2 with | dk z hh rr => rcases hh with q | ⟨x, q⟩ <;> exact ⟨fun z => (mask_of q).1 (R.dOs z), _, .inr ⟨q, fun j d' hj z => (mask_of q).1 (.inr ⟨j, d', hj, z.symm⟩)⟩⟩
      · cases r2 with
        | dt n z hh rr => rcases hh with q | ⟨x, q⟩ <;> exact ⟨n, _, .inl q⟩
        | rp r2 => cases r2 with | dt z hh rr => rcases hh with q | ⟨x, q⟩ <;> exact ⟨fun z => (mask_of q).1 (R.dOs z), _, .inr ⟨q, fun j d' hj z => (mask_of q).1 (.inr ⟨j, d', hj, z.symm⟩)⟩⟩
    obtain ⟨nd, o, q⟩ := this
    refine ⟨a, e1, nd, fun j d' hj z => ?_, sh, r⟩
    rcases q with q | q
    · obtain ⟨o', h0, _⟩ := R.base a o (mask_at nd q)
      rw [← z, (R.own1 j d' hj).2] at h0; cases h0
    · exact q.2 j d' hj z
theorem denI_keys (a : MV) : denI F (.keys a) = fun e s => (denV F a e s).bind fun x s1 => .lift (keysD x) s1 := by funext e s; simp only [denI]
theorem st_forK {tg : Expr} {body : List Stmt} {pos xp : Pos} {t : Tg} {i : Nat} {x : Str} {b : MSs} (hp : PassesOwn (model X.prog X.w) X.A X.env X.xe) (hc : X.calm = true) (hN : X.N[i]? = some x) (hv : Vis X.env.scope x) (hd : (x == ("__debug__" : Str)) = false) (hcd : (x == ("__classdict__" : Str)) = false) (hg : PG X tg (rdG w X.K t)) (hb : PSs X body (RS' w X XE W (denSs F b))) :
    PS X (.For tg (.Name x xp) body [] pos) (RS' w X XE W (denS F (.loop t (.keys (.pk i)) b))) :=
  ((ps_for hp hc (pi_keys (pe_var hN hv hd hcd)) hg hb (fun _ => rfl)).either (ps_lock (ps_for hp hc (pi_keys (pe_var hN hv hd hcd)) hg hb (fun _ => rfl)))).imp fun D0 σ H ⟨C, e, ad, s, R, h⟩ => by
    rw [denS_loop] at h
    simp only [isKeys, calmIf] at h
    split at h
    · next hok =>
      have sk : slotOk e i := by
        simp only [loopOk] at hok
        split at hok
        · exact .inl ⟨_, by assumption⟩
        · exact .inr ⟨_, by assumption⟩
        · cases hok
      rw [denI_keys, denV_pk] at h
      simp only at h
      cases hvw : viewS e i with
      | none => simp only [hvw, Rs.lift_none, Rs.bind_stuck] at h; exact h.elim
      | some dd =>
        simp only [hvw, Rs.lift_some, Rs.bind_ok] at h
        cases hks : keysD dd with
        | none => simp only [hks, Rs.lift_none, Rs.bind_stuck] at h; exact h.elim
        | some ds =>
          simp only [hks, Rs.lift_some, Rs.bind_ok] at h
          obtain ⟨a, eσ, nd, no, sh, vr⟩ := dict_at R sk hvw hks
          -- under the lock at a: J walks ds
          have core : ∀ {o' u : HO} {J : It} {D' : Ends}, H a = some u → LeO u o' → LeO o' u → NT o' → NT u → (∀ {C' : Fc}, IOk w X.K C'.Dm (fun _ H => H a = some o') J ds) →
              (∀ σ' H', H' a = some o' → D0.nx σ' (upd H' a u) → D'.nx σ' H') → (∀ σ' H', H' a = some o' → D0.bk σ' (upd H' a u) → D'.bk σ' H') → (∀ σ' H', H' a = some o' → D0.ct σ' (upd H' a u) → D'.ct σ' H') → (∀ v H', H' a = some o' → D0.rt v (upd H' a u) → D'.rt v H') →
              ∃ Wv : Nat → Nat → L2.St → Hp → Prop, (∃ m, Wv 0 m σ (upd H a o')) ∧ ∀ i m σ H, Wv i m σ H → (J.stop i H ∧ D'.nx σ H) ∨ (J.go i H ∧ ∃ N : L2.St → Hp → Prop, (∀ σ' H', N σ' H' → ∃ m', m' < m ∧ Wv (i + 1) m' σ' H') ∧
                ∀ x H', J.yld i H x H' → rdG w X.K t x σ H' fun σ2 H2 => rdS w X.K XE W (denSs F b) { D' with nx := N, ct := N, bk := D'.nx } σ2 H2) := by
            intro o' u J D' ha l1 l2 nt1 nt2 ok dn db dc dr
            have RL := R.lock ha l1 nt1 nd no
            have hk : ∀ y, C.H0 a = some y → y = u := fun y hy => by
              have := R.keep a y hy nd
              rw [ha] at this; cases this; rfl
            exact for_walk RL ok (fun e' ad' t' σ' H2 R2 _ => R2.keep a o' upd_same nd) (.refl _) (PoR.lock h (le_upd ha l1) R.base hk l2 nt2 nd dn db dc dr)
          have two : ∀ {u : HO}, isD u = true → Rd H a u → H a = some u ∨ ∃ q, H a = some (.frz q u) := fun _ z => z
          rcases sh with ⟨ks, dv, rfl⟩ | ⟨ks, dv, rfl⟩
          · cases hks
            obtain ⟨a', vs, ea, hl, rdv, _⟩ := vr.dkv
            cases ea
            rcases rdv with z | ⟨q, z⟩
            · refine .inr ⟨a, _, z, trivial, fun od => ⟨_, eσ, a, od, rfl, .inl ⟨_, upd_same, ?_⟩⟩⟩
              exact core z (.inr ⟨_, rfl, .inl rfl, .inr ⟨od, rfl⟩⟩) (.inr ⟨_, rfl, .inr ⟨od, rfl⟩, .inl rfl⟩) trivial trivial (iok_dk hl) (fun _ _ h1 h2 => ⟨h1, h2⟩) (fun _ _ h1 h2 => ⟨h1, h2⟩) (fun _ _ h1 h2 => ⟨h1, h2⟩) (fun _ _ h1 h2 => ⟨h1, h2⟩)
            · refine .inl ⟨_, eσ, a, q, rfl, .inl ⟨_, z, ?_⟩⟩
              have := core (D' := D0) z (.refl _) (.refl _) trivial trivial (iok_dk hl) (fun _ _ h1 h2 => by rw [upd_self h1] at h2; exact h2) (fun _ _ h1 h2 => by rw [upd_self h1] at h2; exact h2) (fun _ _ h1 h2 => by rw [upd_self h1] at h2; exact h2) (fun _ _ h1 h2 => by rw [upd_self h1] at h2; exact h2)
              rw [upd_self z] at this
              exact this
          · cases hks
            obtain ⟨a', vs, ea, hl, rdv, _⟩ := vr.dtv
            cases ea
            rcases rdv with z | ⟨q, z⟩
            · refine .inr ⟨a, _, z, trivial, fun od => ⟨_, eσ, a, od, rfl, .inr ⟨_, upd_same, ?_⟩⟩⟩
              exact core z (.inr ⟨_, rfl, .inl rfl, .inr ⟨od, rfl⟩⟩) (.inr ⟨_, rfl, .inr ⟨od, rfl⟩, .inl rfl⟩) trivial trivial (iok_dt hl) (fun _ _ h1 h2 => ⟨h1, h2⟩) (fun _ _ h1 h2 => ⟨h1, h2⟩) (fun _ _ h1 h2 => ⟨h1, h2⟩) (fun _ _ h1 h2 => ⟨h1, h2⟩)
            · refine .inl ⟨_, eσ, a, q, rfl, .inr ⟨_, z, ?_⟩⟩
              have := core (D' := D0) z (.refl _) (.refl _) trivial trivial (iok_dt hl) (fun _ _ h1 h2 => by rw [upd_self h1] at h2; exact h2) (fun _ _ h1 h2 => by rw [upd_self h1] at h2; exact h2) (fun _ _ h1 h2 => by rw [upd_self h1] at h2; exact h2) (fun _ _ h1 h2 => by rw [upd_self h1] at h2; exact h2)
              rw [upd_self z] at this
              exact this
    · exact h.elim
end
end Rf
/-! Reflection layer, part 21: several names at once, a name that follows another. -/
namespace Rf
open PySem PySem.Spec PyProof.Rows L2
section
variable {w : Wld} {X : Cx} {XE : Er → Value → Option Addr → Hp → Prop} {W : WX} {F : Fs w}
theorem _root_.L2.PA.imp' {X : Cx} {e : List Expr} {t t' : TA} (h : PA X e t) (i : ∀ σ H Q, t' σ H Q → t σ H Q) : PA X e t' := h.imp i
/-! ### x = e if c else y -/
theorem denS_ali (i j : Nat) (c m : ME) : denS F (.ali i c m j) = fun e s => (denT F c e s).bind fun k s1 => if k then (denE F m e s1).bind fun x s2 => .ok (.nxt (setS e i (.dat x))) s2
      else match e[j]?, e[i]? with
      | some (.own _), some (.own _) => .stuck
      | some (.own _), _ => .ok (.nxt (e.set i (.ali j))) s1
      | _, _ => .stuck := by funext e s; simp only [denS] <;> rfl
theorem Rel.setAli {K : PySem.W.Frag} {C : Fc} {e : En} {ad : Nat → Addr} {s : w.T} {σ : L2.St} {H : Hp} (R : Rel w K C e ad s σ H) {i j : Nat} {d : D} (hi : i < e.length) (hj : e[j]? = some (.own d)) (ni : ∀ d, e[i]? ≠ some (.own d)) :
    Rel w K C (e.set i (.ali j)) ad s (σ.set i (some (.ref (ad j)))) H ∧ Le (mask (Os C e ad) H) (mask (Os C (e.set i (.ali j)) ad) H) := by
  have ij : i ≠ j := fun z => by subst z; exact ni d hj
  have get : ∀ {k : Nat} {t : Slot}, i ≠ k → (e.set i (.ali j))[k]? = some t → e[k]? = some t := fun n h => by rw [List.getElem?_set_ne n] at h; exact h
  have own : ∀ (k : Nat) (d' : D), (e.set i (.ali j))[k]? = some (Slot.own d') → e[k]? = some (Slot.own d') := fun k d' h => by
    by_cases z : i = k
    · subst z; rw [List.getElem?_set_self hi] at h; cases h
    · exact get z h
  have l : Le (mask (Os C e ad) H) (mask (Os C (e.set i (.ali j)) ad) H) := mask_sub fun a z => by
    rcases z with z | ⟨k, d', z, rfl⟩
    · exact .inl z
    · exact .inr ⟨k, d', own k d' z, rfl⟩
  refine ⟨⟨R.keep, R.draw, R.dsub, R.odom, fun k t h => ?_, fun k d' h => R.own1 k d' (own k d' h), fun k k' d1 d2 h1 h2 => R.own2 k k' d1 d2 (own k d1 h1) (own k' d2 h2), by rw [List.length_set, List.length_set]; exact R.len, R.base⟩, l⟩
  by_cases ik : i = k
  · subst ik
    rw [List.getElem?_set_self hi] at h
    cases h
    exact ⟨⟨d, by rw [List.getElem?_set_ne ij]; exact hj⟩, List.getElem?_set_self (by rw [R.len]; exact hi)⟩
  · have q := R.slots k t (get ik h)
    have e1 : (σ.set i (some (V.ref (ad j))))[k]? = σ[k]? := List.getElem?_set_ne ik
    cases t with
    | non => trivial
    | dat d' => obtain ⟨u, e2, q⟩ := q; exact ⟨u, e1.trans e2, q.le l⟩
    | own d' => obtain ⟨e2, q⟩ := q; exact ⟨e1.trans e2, q.le l fun o z => z⟩
    | bor d' => obtain ⟨a, e2, q⟩ := q; exact ⟨a, e1.trans e2, q.le l (.refl _)⟩
    | ali k' =>
      obtain ⟨⟨d', hk⟩, e2⟩ := q
      exact ⟨⟨d', by rw [List.getElem?_set_ne fun z => by subst z; exact ni d' hk]; exact hk⟩, e1.trans e2⟩
    | drw => exact e1.trans q
theorem st_ali {i j : Nat} {x y : Str} {c a : Expr} {yp ip pos pos' : Pos} {mc m : ME} (hNd : X.N.Nodup) (hN : X.N[i]? = some x) (hx : Loc X.env.scope x) (hf : X.fn x = true ∨ X.env.scope.names.lookup x = some .local) (hN2 : X.N[j]? = some y) (hv : Vis X.env.scope y) (hd : (y == ("__debug__" : Str)) = false) (hcd : (y == ("__classdict__" : Str)) = false)
    (hc : PT X c (RT w X XE W (denT F mc))) (ha : PE X a (RE w X XE W (denE F m))) (hs : swapsWith (.IfExp c a (.Name y yp) ip) (some (.Name x pos')) pos.line X.env = pure false) :
    PS X (.Assign [.Name x pos'] (.IfExp c a (.Name y yp) ip) pos) (RS' w X XE W (denS F (.ali i mc m j))) := (ps_set hNd hN hx (pe_ifExp hc ha (pe_var hN2 hv hd hcd)) hs hf).impL fun D0 σ H hl ⟨C, e, ad, s, R, h⟩ => by
  rw [denS_ali] at h
  have hi : i < e.length := by rw [← R.len, hl]; exact (List.getElem?_eq_some_iff.mp hN).1
  refine (show RT w X XE W (denT F mc) σ H _ from st_one (g := fun k e s1 => if k then (denE F m e s1).bind fun x s2 => .ok (.nxt (setS e i (.dat x))) s2
      else match e[j]?, e[i]? with
      | some (.own _), some (.own _) => .stuck
      | some (.own _), _ => .ok (.nxt (e.set i (.ali j))) s1
      | _, _ => .stuck) R h fun {dx x H1 s1} _ p R1 z h => ?_)
  have ex : x = dx := z
  subst ex
  cases x with
  | true =>
    rw [if_pos rfl] at h ⊢
    refine (show RE w X XE W (denE F m) σ H1 _ from st_one (g := fun x e s2 => .ok (.nxt (setS e i (.dat x))) s2) R1 h fun {dx v H2 s2} _ p2 R2 z h => ?_)
    obtain ⟨R3, l⟩ := R2.setDat hi z
    exact h _ _ ⟨ad, R3, (R.le p.kp).trans ((R1.le p2.kp).trans l)⟩
  | false =>
    rw [if_neg Bool.false_ne_true] at h ⊢
    split at h
    · exact h.elim
    · next d hj hn =>
      obtain ⟨e1, _⟩ := R1.slots j _ hj
      obtain ⟨R2, l⟩ := R1.setAli hi hj fun d' z => hn d' z
      exact ⟨_, e1, h _ _ ⟨ad, R2, (R.le p.kp).trans l⟩⟩
    · exact h.elim
/-! ### several values, some of them new containers -/
inductive NewA (K : PySem.W.Frag) (M H0 H' : Hp) : List Addr → List Bool → List V → List D → Prop
  | nil : NewA K M H0 H' [] [] [] []
  | dat {ps : List Addr} {bs : List Bool} {vs : List V} {ds : List D} {v : V} {d : D} : Rp K M v d → NewA K M H0 H' ps bs vs ds → NewA K M H0 H' ps (false :: bs) (v :: vs) (d :: ds)
  | own {ps : List Addr} {bs : List Bool} {vs : List V} {ds : List D} {p : Addr} {d : D} : H0 p = none → p ∉ ps → ORp K M H' p d → NewA K M H0 H' ps bs vs ds → NewA K M H0 H' (p :: ps) (true :: bs) (.ref p :: vs) (d :: ds)
theorem NewA.fresh {K : PySem.W.Frag} {M H0 H' : Hp} : ∀ {ps : List Addr} {bs : List Bool} {vs : List V} {ds : List D}, NewA K M H0 H' ps bs vs ds → ∀ p ∈ ps, H0 p = none ∧ ∃ o, H' p = some o ∧ NT o
  | _, _, _, _, .nil, _, h => by cases h
  | _, _, _, _, .dat _ t, p, h => t.fresh p h
  | _, _, _, _, .own n _ o t, p, h => by
    rcases List.mem_cons.mp h with rfl | h
    · obtain ⟨u, hu, m⟩ := o.there
      exact ⟨n, u, hu, nt_mut m⟩
    · exact t.fresh p h
theorem NewA.le {K : PySem.W.Frag} {M M' H0 H0' H' H'' : Hp} (l : Le M M') (k : ∀ p, H0 p = none → H0' p = none) : ∀ {ps : List Addr} {bs : List Bool} {vs : List V} {ds : List D}, NewA K M H0 H' ps bs vs ds → (∀ p ∈ ps, ∀ o, H' p = some o → H'' p = some o) → NewA K M' H0' H'' ps bs vs ds
  | _, _, _, _, .nil, _ => .nil
  | _, _, _, _, .dat r t, q => .dat (r.le l) (t.le l k q)
  | _, _, _, _, .own n a o t, q => .own (k _ n) a (o.le l fun u z => q _ (List.mem_cons_self ..) u z) (t.le l k fun p hp => q p (List.mem_cons_of_mem _ hp))
theorem NewA.lens {K : PySem.W.Frag} {M H0 H' : Hp} : ∀ {ps : List Addr} {bs : List Bool} {vs : List V} {ds : List D}, NewA K M H0 H' ps bs vs ds → vs.length = ds.length ∧ bs.length = ds.length
  | _, _, _, _, .nil => ⟨rfl, rfl⟩
  | _, _, _, _, .dat _ t => by simp [t.lens.1, t.lens.2]
  | _, _, _, _, .own _ _ _ t => by simp [t.lens.1, t.lens.2]
def hideL (C : Fc) : List Addr → Fc
  | [] => C
  | p :: ps => (hideL C ps).hide p
theorem hideL_Dm {C : Fc} : ∀ {ps : List Addr}, (hideL C ps).Dm = C.Dm
  | [] => rfl
  | _ :: ps => hideL_Dm (ps := ps)
theorem hideL_H0 {C : Fc} : ∀ {ps : List Addr}, (hideL C ps).H0 = C.H0
  | [] => rfl
  | _ :: ps => hideL_H0 (ps := ps)
theorem Os_hideL {C : Fc} {e : En} {ad : Nat → Addr} {a : Addr} : ∀ {ps : List Addr}, Os (hideL C ps) e ad a ↔ (Os C e ad a ∨ a ∈ ps)
  | [] => by simp [hideL]
  | p :: ps => by
    unfold hideL
    rw [Os_hide, Os_hideL (ps := ps)]
    simp only [List.mem_cons]
    constructor
    · rintro ((h | h) | h)
      · exact .inl h
      · exact .inr (.inr h)
      · exact .inr (.inl h)
    · rintro (h | h | h)
      · exact .inl (.inl h)
      · exact .inr h
      · exact .inl (.inr h)
theorem O0_hideL {C : Fc} {a : Addr} : ∀ {ps : List Addr}, (hideL C ps).O0 a ↔ (C.O0 a ∨ a ∈ ps)
  | [] => by simp [hideL]
  | p :: ps => by
    show ((hideL C ps).O0 a ∨ a = p) ↔ _
    rw [O0_hideL (ps := ps)]
    simp only [List.mem_cons]
    constructor
    · rintro ((h | h) | h)
      · exact .inl h
      · exact .inr (.inr h)
      · exact .inr (.inl h)
    · rintro (h | h | h)
      · exact .inl (.inl h)
      · exact .inr h
      · exact .inl (.inr h)
theorem draw_hideL {C : Fc} {s : w.T} {H : Hp} : ∀ {ps : List Addr}, DrawAt w (hideL C ps) s H ↔ DrawAt w C s H
  | [] => Iff.rfl
  | p :: ps => draw_hide.trans (draw_hideL (ps := ps))
section
variable {K : PySem.W.Frag} {C : Fc} {e : En} {ad : Nat → Addr} {s s1 : w.T} {σ : L2.St} {H H1 : Hp}
theorem le_hide {ps : List Addr} (R : Rel w K C e ad s σ H) (po : PoE w K C e ad H s1 H1) (hp : ∀ p ∈ ps, H p = none) : Le (mask (Os C e ad) H) (mask (Os (hideL C ps) e ad) H1) := fun a u h => by
  obtain ⟨n1, h⟩ := mask_of h
  refine ⟨u, mask_at (fun z => ?_) (po.kp a u h fun q => n1 (R.dOs q)), .refl u⟩
  rcases Os_hideL.mp z with z | z
  · exact n1 z
  · exact ne_of_none h (hp a z) rfl
/-- behind a step that made containers -/
theorem Rel.hideAt {ps : List Addr} (R : Rel w K C e ad s σ H) (po : PoE w K C e ad H s1 H1) (hp : ∀ p ∈ ps, H p = none ∧ ∃ o, H1 p = some o ∧ NT o) : Rel w K (hideL C ps) e ad s1 σ H1 := by
  have l := le_hide R po fun p h => (hp p h).1
  have R1 := R.ext po.kp po.dr
  have b1 : (hideL C ps).Hb = C.Hb := by
    clear l hp
    induction ps with
    | nil => rfl
    | cons p ps ih => exact ih
  refine ⟨by rw [hideL_H0, hideL_Dm]; exact R1.keep, draw_hideL.mpr po.dr, fun a h => ?_, fun a h => ?_, fun i t hi => ?_, fun i d hi => ⟨fun z => ?_, by rw [hideL_H0]; exact (R.own1 i d hi).2⟩, R.own2, R.len, by rw [hideL_H0, hideL_Dm, b1]; exact R.base⟩
  · rw [hideL_Dm] at h
    exact O0_hideL.mpr (.inl (R.dsub a h))
  · rcases O0_hideL.mp h with h | h
    · exact R1.odom a h
    · exact (hp a h).2
  · have q := R.slots i t hi
    cases t with
    | non => trivial
    | dat d => obtain ⟨v, e2, r⟩ := q; exact ⟨v, e2, r.le l⟩
    | own d => obtain ⟨e2, r⟩ := q; exact ⟨e2, r.le l fun o z => po.kp _ o z fun y => (R.own1 i d hi).1 (R.dsub _ y)⟩
    | bor d => obtain ⟨a, e2, r⟩ := q; exact ⟨a, e2, by rw [hideL_Dm, b1]; exact r.le l (.refl _)⟩
    | ali k => exact q
    | drw =>
      have : (hideL C ps).dr = C.dr := by
        clear l hp b1
        induction ps with
        | nil => rfl
        | cons p ps ih => exact ih
      show σ[i]? = some (some (.ref (hideL C ps).dr))
      rw [this]; exact q
  · rcases O0_hideL.mp z with z | z
    · exact (R.own1 i d hi).1 z
    · obtain ⟨_, r⟩ := R.slots i _ hi
      obtain ⟨u, hu, _⟩ := r.there
      rw [(hp _ z).1] at hu; cases hu
/-- a hidden container gets its name -/
theorem Rel.ownHid {p : Addr} {i : Nat} {d : D} (R : Rel w K (C.hide p) e ad s σ H) (hi : i < e.length) (h0 : C.H0 p = none) (n0 : ¬ C.O0 p) (nd : ¬ C.Dm p) (o : ORp K (mask (Os (C.hide p) e ad) H) H p d) :
    Rel w K C (setS e i (.own d)) (adSet ad i p) s (σ.set i (some (.ref p))) H ∧ Le (mask (Os (C.hide p) e ad) H) (mask (Os C (setS e i (.own d)) (adSet ad i p)) H) := by
  have l : Le (mask (Os (C.hide p) e ad) H) (mask (Os C (setS e i (.own d)) (adSet ad i p)) H) := mask_sub fun a z => Os_hide.mpr (Os_setOwn hi z)
  have np : ∀ j d', e[j]? = some (.own d') → ad j ≠ p := fun j d' h z => (R.own1 j d' h).1 (.inr z)
  refine ⟨⟨R.keep, draw_hide.mp R.draw, fun a h => ?_, fun a h => R.odom a (.inl h), fun j t h => ?_, fun j d' h => ?_, fun j k d1 d2 h1 h2 => ?_, by rw [List.length_set, setS_len]; exact R.len, R.base⟩, l⟩
  · rcases R.dsub a h with z | z
    · exact z
    · exact absurd (z ▸ h) nd
  · by_cases ij : i = j
    · subst ij
      rw [setS_self hi] at h
      cases h
      have e0 : adSet ad i p i = p := adSet_self
      refine ⟨?_, ?_⟩
      · rw [e0]; exact List.getElem?_set_self (by rw [R.len]; exact hi)
      · rw [e0]; exact o.le l fun _ z => z
    · rcases setS_ne ij h with rfl | ⟨h, ha⟩
      · trivial
      · have q := R.slots j t h
        have e1 : (σ.set i (some (V.ref p)))[j]? = σ[j]? := List.getElem?_set_ne ij
        cases t with
        | non => trivial
        | dat d' => obtain ⟨u, e2, q⟩ := q; exact ⟨u, e1.trans e2, q.le l⟩
        | own d' =>
          obtain ⟨e2, q⟩ := q
          have ea : adSet ad i p j = ad j := adSet_ne (Ne.symm ij)
          refine ⟨?_, ?_⟩
          · rw [ea]; exact e1.trans e2
          · rw [ea]; exact q.le l fun u z => z
        | bor d' => obtain ⟨a, e2, q⟩ := q; exact ⟨a, e1.trans e2, q.le l (.refl _)⟩
        | ali k =>
          obtain ⟨⟨d', hk⟩, e2⟩ := q
          have ki : i ≠ k := fun z => by subst z; exact ha i rfl rfl d' hk
          refine ⟨⟨d', ?_⟩, ?_⟩
          · unfold setS
            split
            · next d2 hi2 => rw [List.getElem?_set_ne ki, kill_get, hk]; rfl
            · rw [List.getElem?_set_ne ki]; exact hk
          · rw [adSet_ne (Ne.symm ki)]; exact e1.trans e2
        | drw => exact e1.trans q
  · by_cases ij : i = j
    · subst ij; rw [adSet_self]; exact ⟨n0, h0⟩
    · rcases setS_ne ij h with z | ⟨h, _⟩
      · cases z
      · rw [adSet_ne (Ne.symm ij)]; exact ⟨fun z => (R.own1 j d' h).1 (.inl z), (R.own1 j d' h).2⟩
  · by_cases ij : i = j
    · by_cases ik : i = k
      · exact fun _ => ij.symm.trans ik
      · subst ij
        rcases setS_ne ik h2 with z | ⟨h2, _⟩
        · cases z
        · rw [adSet_self, adSet_ne (Ne.symm ik)]
          exact fun z => absurd z.symm (np k d2 h2)
    · rcases setS_ne ij h1 with z | ⟨h1, _⟩
      · cases z
      · by_cases ik : i = k
        · subst ik
          rw [adSet_self, adSet_ne (Ne.symm ij)]
          exact fun z => absurd z (np j d1 h1)
        · rcases setS_ne ik h2 with z | ⟨h2, _⟩
          · cases z
          · rw [adSet_ne (Ne.symm ij), adSet_ne (Ne.symm ik)]
            exact R.own2 j k d1 d2 h1 h2
def setAll : L2.St → List Nat → List V → L2.St
  | σ, i :: is, v :: vs => setAll (σ.set i (some v)) is vs
  | σ, _, _ => σ
theorem Rel.parSet {ts : List (Nat × Bool)} : ∀ {ps : List Addr} {vs : List V} {ds : List D} {e e1 : En} {ad : Nat → Addr} {σ : L2.St}, Rel w K (hideL C ps) e ad s σ H1 → NewA K (mask (Os (hideL C ps) e ad) H1) H H1 ps (ts.map (·.2)) vs ds → (∀ p, H p = none → C.H0 p = none ∧ ¬ C.O0 p ∧ ¬ C.Dm p) → (∀ t ∈ ts, t.1 < e.length) → parSet ts ds e = some e1 →
    ∃ ad1, Rel w K C e1 ad1 s (setAll σ (ts.map (·.1)) vs) H1 ∧ Le (mask (Os (hideL C ps) e ad) H1) (mask (Os C e1 ad1) H1) := by
  induction ts with
  | nil =>
    intro ps vs ds e e1 ad σ R t _ _ h
    cases t
    simp only [Rf.parSet, Option.some.injEq] at h
    subst h
    exact ⟨ad, R, .refl _⟩
  | cons ib ts ih =>
    obtain ⟨i, b⟩ := ib
    intro ps vs ds e e1 ad σ R t g hl h
    cases b with
    | false =>
      cases t with
      | dat r t =>
        simp only [Rf.parSet, Bool.false_eq_true, if_false] at h
        obtain ⟨R1, l1⟩ := R.setDat (hl _ (List.mem_cons_self ..)) r
        obtain ⟨ad1, R2, l2⟩ := ih R1 (t.le l1 (fun _ z => z) fun _ _ _ z => z) g (fun u hu => by rw [setS_len]; exact hl u (List.mem_cons_of_mem _ hu)) h
        exact ⟨ad1, R2, l1.trans l2⟩
    | true =>
      cases t with
      | own n a o t =>
        simp only [Rf.parSet, if_true] at h
        obtain ⟨g1, g2, g3⟩ := g _ n
        obtain ⟨R1, l1⟩ := Rel.ownHid R (hl _ (List.mem_cons_self ..)) (by rw [hideL_H0]; exact g1) (fun z => (O0_hideL.mp z).elim g2 a) (by rw [hideL_Dm]; exact g3) o
        obtain ⟨ad1, R2, l2⟩ := ih R1 (t.le l1 (fun _ z => z) fun _ _ _ z => z) g (fun u hu => by rw [setS_len]; exact hl u (List.mem_cons_of_mem _ hu)) h
        exact ⟨ad1, R2, l1.trans l2⟩
end
def ZN (K : PySem.W.Frag) (bs : List Bool) : Fc → En → (Nat → Addr) → Hp → Hp → List V → List D → Prop := fun C e ad H H' vs ds => ∃ ps, NewA K (mask (Os (hideL C ps) e ad) H') H H' ps bs vs ds
abbrev RN (w : Wld) (X : Cx) (XE : Er → Value → Option Addr → Hp → Prop) (W : WX) (bs : List Bool) (f : En → w.T → Rs w.T (List D)) : TA := rd w X.K XE W (ZN X.K bs) f
theorem sn_nil : PA X [] (RN w X XE W [] (denEs F .nil)) := pa_nil.imp fun σ H Q ⟨C, e, ad, s, R, h⟩ => by
  rw [denEs_nil] at h
  exact h [] H (.refl R) ⟨[], .nil⟩
theorem sn_dat {e : Expr} {es : List Expr} {m : ME} {ms : MEs} {bs : List Bool} (h : PE X e (RE w X XE W (denE F m))) (hs : PA X es (RN w X XE W bs (denEs F ms))) (hst : starEach (e :: es) X.env = (false, eval e X.env) :: starEach es X.env) : PA X (e :: es) (RN w X XE W (false :: bs) (denEs F (.cons m ms))) :=
  (pa_cons h hs hst).imp fun σ H Q q => by
    rw [denEs_cons] at q
    obtain ⟨C, e, ad, s, R, q⟩ := q
    refine ⟨C, e, ad, s, R, ?_⟩
    cases hf : denE F m e s with
    | err er s1 => simp only [hf, Rs.bind_err] at q ⊢; exact q
    | stuck => simp only [hf, Rs.bind_stuck] at q
    | ok x s1 =>
      simp only [hf, Rs.bind_ok] at q ⊢
      intro v H1 p1 z1
      have R1 := R.ext p1.kp p1.dr
      refine ⟨C, e, ad, s1, R1, ?_⟩
      cases hg : denEs F ms e s1 with
      | err er s2 => simp only [hg, Rs.bind_err] at q ⊢; exact fun cls dx H' p z => q cls dx H' ⟨p1.kp.trans p.kp, p.dr⟩ z
      | stuck => simp only [hg, Rs.bind_stuck] at q
      | ok xs s2 =>
        simp only [hg, Rs.bind_ok] at q ⊢
        rintro vs H2 p2 ⟨ps, t⟩
        refine q _ H2 ⟨p1.kp.trans p2.kp, p2.dr⟩ ⟨ps, .dat (Rp.le (le_hide R1 p2 fun p hp => (t.fresh p hp).1) z1) (t.le (.refl _) (fun p n => p1.kp.none n (R1.draw.nd n)) fun _ _ _ z => z)⟩
theorem sn_own {e : Expr} {es : List Expr} {m : ME} {ms : MEs} {bs : List Bool} (h : PE X e (RF w X XE W (denE F m))) (hs : PA X es (RN w X XE W bs (denEs F ms))) (hst : starEach (e :: es) X.env = (false, eval e X.env) :: starEach es X.env) : PA X (e :: es) (RN w X XE W (true :: bs) (denEs F (.cons m ms))) :=
  (pa_cons h hs hst).imp fun σ H Q q => by
    rw [denEs_cons] at q
    obtain ⟨C, e, ad, s, R, q⟩ := q
    refine ⟨C, e, ad, s, R, ?_⟩
    cases hf : denE F m e s with
    | err er s1 => simp only [hf, Rs.bind_err] at q ⊢; exact q
    | stuck => simp only [hf, Rs.bind_stuck] at q
    | ok x s1 =>
      simp only [hf, Rs.bind_ok] at q ⊢
      intro v H1 p1 z1
      obtain ⟨p, rfl, n, o⟩ := z1
      have R1 := R.ext p1.kp p1.dr
      obtain ⟨u, hu, mu⟩ := o.there
      have R1h : Rel w X.K (C.hide p) e ad s1 σ H1 := Rel.hideAt (ps := [p]) R p1 fun a ha => by
        rw [List.mem_singleton] at ha
        subst ha
        exact ⟨n, u, hu, nt_mut mu⟩
      have nd : ¬ C.Dm p := R.draw.nd n
      refine ⟨C.hide p, e, ad, s1, R1h, ?_⟩
      cases hg : denEs F ms e s1 with
      | err er s2 => simp only [hg, Rs.bind_err] at q ⊢; exact fun cls dx H' p2 z => q cls dx H' ⟨p1.kp.trans p2.kp, draw_hide.mp p2.dr⟩ z
      | stuck => simp only [hg, Rs.bind_stuck] at q
      | ok xs s2 =>
        simp only [hg, Rs.bind_ok] at q ⊢
        rintro vs H2 p2 ⟨ps, t⟩
        have np : p ∉ ps := fun z => by
          have := (t.fresh p z).1
          rw [hu] at this; cases this
        have osx : ∀ a, Os (hideL C (p :: ps)) e ad a → Os (hideL (C.hide p) ps) e ad a := fun a z => by
          rw [Os_hideL] at z
          rw [Os_hideL, Os_hide]
          rcases z with z | z
          · exact .inl (.inl z)
          · rcases List.mem_cons.mp z with z | z
            · exact .inl (.inr z)
            · exact .inr z
        have l0 : Le (mask (fun a => Os C e ad a ∨ a = p) H1) (mask (Os (hideL C (p :: ps)) e ad) H2) := fun a w1 h => by
          obtain ⟨n1, h⟩ := mask_of h
          refine ⟨w1, mask_at (fun z => ?_) (p2.kp a w1 h fun d => n1 (.inl (R.dOs d))), .refl w1⟩
          rw [Os_hideL] at z
          rcases z with z | z
          · exact n1 (.inl z)
          · rcases List.mem_cons.mp z with z | z
            · exact n1 (.inr z)
            · exact ne_of_none h (t.fresh a z).1 rfl
        refine q _ H2 ⟨p1.kp.trans p2.kp, draw_hide.mp p2.dr⟩ ⟨p :: ps, .own n np (o.le l0 fun w1 z => p2.kp _ w1 z nd) (t.le (mask_sub osx) (fun a na => p1.kp.none na (R1.draw.nd na)) fun _ _ _ z => z)⟩
/-! ### the statement -/
theorem denS_par (ts : List (Nat × Bool)) (ms : MEs) : denS F (.par ts ms) = fun e s => (denEs F ms e s).bind fun xs s1 => (Rs.lift (parSet ts xs e) s1).bind fun e1 s2 => .ok (.nxt e1) s2 := by funext e s; simp only [denS]
theorem par_fin {ts : List (Nat × Bool)} {C : Fc} {e : En} {ad : Nat → Addr} {s s1 : w.T} {σ : L2.St} {H H1 : Hp} {vs : List V} {ds : List D} {D0 : Ends} (R : Rel w X.K C e ad s σ H) (po : PoE w X.K C e ad H s1 H1) (z : ZN X.K (ts.map (·.2)) C e ad H H1 vs ds) (hl : ∀ t ∈ ts, t.1 < e.length)
    (h : PoR w X.K XE W C (mask (Os C e ad) H) ((Rs.lift (parSet ts ds e) s1).bind fun e1 s2 => .ok (.nxt e1) s2) D0) : D0.nx (setAll σ (ts.map (·.1)) vs) H1 := by
  obtain ⟨ps, t⟩ := z
  obtain ⟨e1, hp, h⟩ := lift_st h
  have RH := R.hideAt po fun p q => t.fresh p q
  have g : ∀ p, H p = none → C.H0 p = none ∧ ¬ C.O0 p ∧ ¬ C.Dm p := fun p n => by
    refine ⟨?_, fun z => ?_, R.draw.nd n⟩
    · cases hp0 : C.H0 p with
      | none => rfl
      | some u =>
        have := R.keep p u hp0 (R.draw.nd n)
        rw [n] at this; cases this
    · obtain ⟨u, hu, _⟩ := R.odom p z
      rw [n] at hu; cases hu
  obtain ⟨ad1, R1, l1⟩ := Rel.parSet RH t g hl hp
  exact h _ _ ⟨ad1, R1, (le_hide R po fun p q => (t.fresh p q).1).trans l1⟩
theorem st_par2 {st : Stmt} {i j : Nat} {a b : Bool} {ms : MEs} (h : PS X st (tPar i j (RN w X XE W [a, b] (denEs F ms)))) (hi : i < X.N.length) (hj : j < X.N.length) : PS X st (RS' w X XE W (denS F (.par [(i, a), (j, b)] ms))) := h.impL fun D0 σ H hl ⟨C, e, ad, s, R, h⟩ => by
  rw [denS_par] at h
  refine (show RN w X XE W [a, b] (denEs F ms) σ H _ from st_one (g := fun xs e s1 => (Rs.lift (parSet [(i, a), (j, b)] xs e) s1).bind fun e1 s2 => .ok (.nxt e1) s2) R h fun {ds vs H1 s1} _ p R1 z h => ?_)
  have fin := par_fin (ts := [(i, a), (j, b)]) R p z (fun t ht => by
    have el : e.length = X.N.length := by rw [← R.len, hl]
    rcases List.mem_cons.mp ht with rfl | ht
    · rw [el]; exact hi
    · rw [List.mem_singleton] at ht; subst ht; rw [el]; exact hj) h
  obtain ⟨ps, t⟩ := z
  have l1 := t.lens.1
  have l2 := t.lens.2
  match vs, (show vs.length = 2 by rw [l1, ← l2]; rfl) with
  | [v1, v2], _ => exact ⟨v1, v2, rfl, fin⟩
theorem st_par3 {st : Stmt} {i j k : Nat} {a b c : Bool} {ms : MEs} (h : PS X st (tPar3 i j k (RN w X XE W [a, b, c] (denEs F ms)))) (hi : i < X.N.length) (hj : j < X.N.length) (hk : k < X.N.length) : PS X st (RS' w X XE W (denS F (.par [(i, a), (j, b), (k, c)] ms))) := h.impL fun D0 σ H hl ⟨C, e, ad, s, R, h⟩ => by
  rw [denS_par] at h
  refine (show RN w X XE W [a, b, c] (denEs F ms) σ H _ from st_one (g := fun xs e s1 => (Rs.lift (parSet [(i, a), (j, b), (k, c)] xs e) s1).bind fun e1 s2 => .ok (.nxt e1) s2) R h fun {ds vs H1 s1} _ p R1 z h => ?_)
  have fin := par_fin (ts := [(i, a), (j, b), (k, c)]) R p z (fun t ht => by
    have el : e.length = X.N.length := by rw [← R.len, hl]
    rcases List.mem_cons.mp ht with rfl | ht
    · rw [el]; exact hi
    · rcases List.mem_cons.mp ht with rfl | ht
      · rw [el]; exact hj
      · rw [List.mem_singleton] at ht; subst ht; rw [el]; exact hk) h
  obtain ⟨ps, t⟩ := z
  have l1 := t.lens.1
  have l2 := t.lens.2
  match vs, (show vs.length = 3 by rw [l1, ← l2]; rfl) with
  | [v1, v2, v3], _ => exact ⟨v1, v2, v3, rfl, fin⟩
/-- names, one after another -/
def gAll (is : List Nat) : TGs := fun vs σ H Q => vs.length = is.length ∧ Q (setAll σ is vs) H
theorem gall_nil : PGs X [] (gAll []) := pgs_nil.imp fun vs σ H Q ⟨h1, h2⟩ => by
  cases vs with
  | nil => exact ⟨rfl, h2⟩
  | cons => cases h1
theorem gall_cons {i : Nat} {is : List Nat} {e : Expr} {es : List Expr} (h : PG X e (gName i)) (hs : PGs X es (gAll is)) (ha : (assignEach (e :: es) X.env).map (·.2) = assign e X.env :: (assignEach es X.env).map (·.2)) : PGs X (e :: es) (gAll (i :: is)) := (pgs_cons h hs ha).imp fun vs σ H Q ⟨h1, h2⟩ => by
  cases vs with
  | nil => cases h1
  | cons v vs => exact ⟨v, vs, rfl, Nat.succ.inj h1, h2⟩
theorem st_parN {st : Stmt} {ts : List (Nat × Bool)} {ms : MEs} {n : Nat} (hn : n = ts.length) (h : PS X st (tAsg (tTup (RN w X XE W (ts.map (·.2)) (denEs F ms))) (gTup X.K n (gAll (ts.map (·.1)))))) (hl : ∀ t ∈ ts, t.1 < X.N.length) (hz : n ≤ sizeLine) : PS X st (RS' w X XE W (denS F (.par ts ms))) := h.impL fun D0 σ H hlen ⟨C, e, ad, s, R, h⟩ => by
  rw [denS_par] at h
  refine (show RN w X XE W (ts.map (·.2)) (denEs F ms) σ H _ from st_one (g := fun xs e s1 => (Rs.lift (parSet ts xs e) s1).bind fun e1 s2 => .ok (.nxt e1) s2) R h fun {ds vs H1 s1} _ p R1 z h => ?_)
  obtain ⟨ps, t⟩ := z
  have ln : vs.length = ts.length := by rw [t.lens.1, ← t.lens.2, List.length_map]
  refine ⟨by rw [ln, ← hn]; exact hz, fun q nq => ⟨q, vs, rfl, .inl (.inl upd_same), by rw [ln, ← hn], by rw [ln, List.length_map], ?_⟩⟩
  have p2 : PoE w X.K C e ad H s1 (upd H1 q (.tup vs)) := ⟨p.kp.trans (.new nq), p.dr.new nq⟩
  refine par_fin (ts := ts) R p2 ⟨ps, t.le (fun a o h => ?_) (fun _ z => z) fun a ha o h => by rw [upd_ne (ne_of_none h nq)]; exact h⟩ (fun u hu => by rw [← R.len, hlen]; exact hl u hu) h
  obtain ⟨n1, h⟩ := mask_of h
  exact ⟨o, mask_at n1 (by rw [upd_ne (ne_of_none h nq)]; exact h), .refl o⟩
end
end Rf
/-! Reflection layer, part 22: ranges asked, chains as tests, turned tuples, what the stores ask. -/
namespace Rf
open PySem PySem.Spec PyProof.Rows L2
section
variable {w : Wld} {X : Cx} {XE : Er → Value → Option Addr → Hp → Prop} {W : WX} {F : Fs w}
/-! ### range objects -/
def tRg (tl th : TE) : TE := fun σ H Q => tl σ H fun l H1 => th σ H1 fun u H2 => ∃ j k : Int, l = .int j ∧ u = .int k ∧ ∀ r, H2 r = none → Q (.ref r) (upd H2 r (.rng j k))
theorem cr_range1 : CallR X (.type "range") (fun vs H Q => ∃ j, vs = [V.int j] ∧ ∀ p, H p = none → Q (.ref p) (upd H p (.rng 0 j))) := by
  intro pins s σ H vs us Q I r h
  obtain ⟨j, rfl, q⟩ := h
  obtain ⟨u, rfl, rj⟩ := vals1 r
  obtain ⟨t, rfl⟩ := rj
  refine call_range_1 ⟨.ref s.heap.objs.size, upd H s.heap.objs.size (.rng 0 j), I.laid (t' := s.toks + 2) (fun b o e => Heap.get?_push_of_some _ e) (Nat.le_refl _) ?_, rfl, q _ (I.hok.fresh (Nat.le_refl _))⟩
  exact ⟨_, _, _, Heap.get?_push_size _ rfl⟩
theorem rd_mono {α β : Type} {K : PySem.W.Frag} {Z : Fc → En → (Nat → Addr) → Hp → Hp → β → α → Prop} {f : En → w.T → Rs w.T α} {σ : L2.St} {H : Hp} {Q Q' : β → Hp → Prop} (h : rd w K XE W Z f σ H Q) (k : ∀ v H, Q v H → Q' v H) : rd w K XE W Z f σ H Q' := by
  obtain ⟨C, e, ad, s, R, h⟩ := h
  refine ⟨C, e, ad, s, R, ?_⟩
  revert h
  cases f e s with
  | err => exact id
  | stuck => exact id
  | ok d s1 => exact fun h v H' p z => k v H' (h v H' p z)
theorem pe_rg2 {b c : Expr} {x : Str} {p pos : Pos} {mb mc : ME} (hg : Gl X x) (hm : X.mg x = none) (hv : bootBuiltins x = some (.type "range")) (hb : PE X b (RE w X XE W (denE F mb))) (hc : PE X c (RE w X XE W (denE F mc)))
    (hn : x ≠ "__name__") (hdb : (x == ("__debug__" : Str)) = false) (he : starEach [b, c] X.env = (false, eval b X.env) :: starEach [c] X.env) (he2 : starEach [c] X.env = (false, eval c X.env) :: starEach [] X.env) (hpl : (backTo pos (starEach [c] X.env)).any (·.1) = false) :
    PE X (.Call (.Name x p) [b, c] [] pos) (tRg (RE w X XE W (denE F mb)) (RE w X XE W (denE F mc))) := (pe_callTy cr_range2 hg hm hv (pa_cons hb (pa_cons hc pa_nil he2) he) hn hdb he hpl).imp fun σ H Q q =>
  rd_mono q fun l H1 q => rd_mono q fun u H2 ⟨j, k, e1, e2, q⟩ => ⟨j, k, by rw [e1, e2], q⟩
theorem pe_rg1 {c : Expr} {x : Str} {p pos : Pos} {mc : ME} (hg : Gl X x) (hm : X.mg x = none) (hv : bootBuiltins x = some (.type "range")) (hc : PE X c (RE w X XE W (denE F mc)))
    (hn : x ≠ "__name__") (hdb : (x == ("__debug__" : Str)) = false) (he2 : starEach [c] X.env = (false, eval c X.env) :: starEach [] X.env) (hpl : (backTo pos (starEach [] X.env)).any (·.1) = false) :
    PE X (.Call (.Name x p) [c] [] pos) (tRg (RE w X XE W (denE F (.cst (.int 0)))) (RE w X XE W (denE F mc))) := (pe_callTy cr_range1 hg hm hv (pa_cons hc pa_nil he2) hn hdb he2 hpl).imp fun σ H Q ⟨C, e, ad, s, R, q⟩ => by
  rw [denE_cst] at q
  have q := q (.int 0) H (.refl R) (.int 0)
  exact rd_mono q fun u H2 ⟨j, k, e1, e2, q⟩ => ⟨k, by rw [e2], by cases e1; exact q⟩
theorem inR_read {neg : Bool} {ma ml mh : ME} {σ : L2.St} {H : Hp} {Q : VK} (q : RE w X XE W (denE F (.inR neg ma ml mh)) σ H Q) : RE w X XE W (denE F ma) σ H fun v H1 => tRg (RE w X XE W (denE F ml)) (RE w X XE W (denE F mh)) σ H1 fun y H3 => ∃ i a lo hi, v = V.int i ∧ y = V.ref a ∧ H3 a = some (.rng lo hi) ∧ Q (.bl (neg != decide (lo ≤ i ∧ i < hi))) H3 := by
  rw [denE_inR] at q
  refine rd_three stab_E (Z2 := ZE X.K) (fun R k z => Rp.le (R.le k) z) q fun {C e ad s2 dv dl du v l u H1 H2} R z1 z2 z3 _ _ h => ?_
  cases dv with
  | int i =>
    cases dl with
    | int j =>
      cases du with
      | int k =>
        simp only at h
        split at h
        · next d s' hd =>
          split at hd
          · cases hd
            exact ⟨j, k, Rp.intv z2, Rp.intv z3, fun r n => ⟨i, r, j, k, Rp.intv z1, rfl, upd_same, h _ _ (.new R n) (.bl _)⟩⟩
          · cases hd
        · next hd => split at hd <;> cases hd
        · exact h.elim
      | _ => exact h.elim
    | _ => exact h.elim
  | _ => exact h.elim
theorem inR_bl {neg : Bool} {ma ml mh : ME} (e : En) (s : w.T) (d : D) (s' : w.T) (hf : denE F (.inR neg ma ml mh) e s = .ok d s') : ∃ b, d = .bl b := by
  rw [denE_inR] at hf
  obtain ⟨x, s1, _, hf⟩ := bind_okI hf
  obtain ⟨l, s2, _, hf⟩ := bind_okI hf
  obtain ⟨h, s3, _, hf⟩ := bind_okI hf
  split at hf
  · split at hf
    · cases hf; exact ⟨_, rfl⟩
    · cases hf
  · cases hf
theorem s_inRG {neg : Bool} {a r : Expr} {pos : Pos} {ma ml mh : ME} (ha : PE X a (RE w X XE W (denE F ma))) (hr : PE X r (tRg (RE w X XE W (denE F ml)) (RE w X XE W (denE F mh)))) (hm : behindInMarks (if neg then .NotIn else .In) r = false) :
    PE X (.Compare a [if neg then .NotIn else .In] [r] pos) (RE w X XE W (denE F (.inR neg ma ml mh))) := by
  cases neg with
  | false => exact (pe_cmpR op_in_rng ha hr hm).imp fun σ H Q q => rd_mono (inR_read q) fun v H1 q => rd_mono q fun l H2 q => rd_mono q fun u H3 ⟨j, k, e1, e2, q⟩ => ⟨j, k, e1, e2, fun r n => let ⟨i, a, lo, hi, h1, h2, h3, h4⟩ := q r n; ⟨i, a, lo, hi, h1, h2, h3, by simpa using h4⟩⟩
  | true => exact (pe_cmpR op_notin_rng ha hr hm).imp fun σ H Q q => rd_mono (inR_read q) fun v H1 q => rd_mono q fun l H2 q => rd_mono q fun u H3 ⟨j, k, e1, e2, q⟩ => ⟨j, k, e1, e2, fun r n => let ⟨i, a, lo, hi, h1, h2, h3, h4⟩ := q r n; ⟨i, a, lo, hi, h1, h2, h3, by simpa using h4⟩⟩
theorem s_inRGT {neg : Bool} {a r : Expr} {pos : Pos} {ma ml mh : ME} (ha : PE X a (RE w X XE W (denE F ma))) (hr : PE X r (tRg (RE w X XE W (denE F ml)) (RE w X XE W (denE F mh)))) (hm : behindInMarks (if neg then .NotIn else .In) r = false) :
    PT X (.Compare a [if neg then .NotIn else .In] [r] pos) (RT w X XE W (denT F (.inR neg ma ml mh))) := by
  cases neg with
  | false => exact (pt_cmpR op_in_rng ha hr hm).imp fun σ H Q q => rd_mono (inR_read (rd_test inR_bl q)) fun v H1 q => rd_mono q fun l H2 q => rd_mono q fun u H3 ⟨j, k, e1, e2, q⟩ => ⟨j, k, e1, e2, fun r n => let ⟨i, a, lo, hi, h1, h2, h3, h4⟩ := q r n; ⟨i, a, lo, hi, h1, h2, h3, by simpa using h4⟩⟩
  | true => exact (pt_cmpR op_notin_rng ha hr hm).imp fun σ H Q q => rd_mono (inR_read (rd_test inR_bl q)) fun v H1 q => rd_mono q fun l H2 q => rd_mono q fun u H3 ⟨j, k, e1, e2, q⟩ => ⟨j, k, e1, e2, fun r n => let ⟨i, a, lo, hi, h1, h2, h3, h4⟩ := q r n; ⟨i, a, lo, hi, h1, h2, h3, by simpa using h4⟩⟩
end
end Rf
/-! Reflection layer, part 23: from the program's trees to the small language. -/
namespace Rf
open PySem PySem.Spec PyProof.Rows L2
/-! ### what the trees' own functions tell -/
def notStar : Expr → Bool
  | .Starred _ _ => false
  | _ => true
theorem star_cons {e : Expr} {es : List Expr} {env : Env} (h : notStar e = true) : starEach (e :: es) env = (false, eval e env) :: starEach es env := by
  cases e <;> first | rfl | cases h
theorem star_one {e : Expr} {env : Env} (h : notStar e = true) : starEach [e] env = [(false, eval e env)] := star_cons h
theorem star_any {pos : Pos} {env : Env} : ∀ {es : List Expr}, es.all notStar = true → (backTo pos (starEach es env)).any (·.1) = false
  | [], _ => rfl
  | e :: es, h => by
    rw [List.all_cons, Bool.and_eq_true] at h
    rw [star_cons h.1]
    exact star_any (pos := pos) (env := env) h.2
theorem asg_cons {e : Expr} {es : List Expr} {env : Env} (h : notStar e = true) : (assignEach (e :: es) env).map (·.2) = assign e env :: (assignEach es env).map (·.2) := by
  cases e <;> first | rfl | cases h
theorem asg_len {env : Env} : ∀ {es : List Expr}, (assignEach es env).length = es.length
  | [] => rfl
  | e :: es => by
    have := asg_len (env := env) (es := es)
    cases e <;> exact congrArg Nat.succ this
theorem asg_none {env : Env} : ∀ {es : List Expr}, es.all notStar = true → (assignEach es env).findIdx? (·.1) = none
  | [], _ => rfl
  | e :: es, h => by
    rw [List.all_cons, Bool.and_eq_true] at h
    have := asg_none (env := env) h.2
    have e1 : assignEach (e :: es) env = (false, assign e env) :: assignEach es env := by
      cases e <;> first | rfl | cases h.1
    rw [e1, List.findIdx?_cons, this]
    rfl
def notComp : Expr → Bool
  | .ListComp _ _ _ _ => false
  | .SetComp _ _ _ _ => false
  | .DictComp _ _ _ _ _ => false
  | _ => true
theorem swaps_no {e : Expr} {t : Option Expr} {l : Nat} {env : Env} (h : notComp e = true) : swapsWith e t l env = pure false := by
  cases e <;> first | rfl | cases h
def notSlice : Expr → Bool
  | .Slice _ _ _ _ => false
  | _ => true
theorem sub_plain {b : Expr} (h : notSlice b = true) (o i : Value) : subscripted b false o i = operate [o, i] (getItem o i) := by
  cases b <;> first | rfl | cases h
theorem sub_asg {o i : Expr} {pos : Pos} {env : Env} (h : notSlice i = true) (v : Value) : assign (.Subscript o i pos) env v = (do
      let ov ← holding [v] (eval o env)
      let iv ← holding [v, ov] (eval i env)
      standAt pos
      holding [v, ov, iv] (setItem ov iv v)
      release [v, ov, iv] []) := by
  cases i <;> first | rfl | cases h
def notTup : Expr → Bool
  | .Tuple _ _ _ => false
  | _ => true
theorem stores_no {tg e : Expr} {env : Env} (h : notTup e = true) : swappedStores [tg] e env = pure none := by
  cases e <;> first | (cases tg <;> rfl) | cases h
def notTg : Expr → Bool
  | .Tuple _ _ _ => false
  | .List _ _ => false
  | _ => true
theorem stores_tg {tg e : Expr} {env : Env} (h : notTg tg = true) : swappedStores [tg] e env = pure none := by
  cases tg <;> first | rfl | cases h
/-- does a comprehension's store stand ahead of its names' end -/
def swB (scope : Scope) (y : Str) (py pos : Pos) (sc : Scope) : Bool := decide (sc.names.lookup y = some .local) && (py.line == pos.line) && !(scope.names.any fun (n, k) => n == y && (k == .local || k == .cell))
theorem swaps_b {elt : Expr} {gs : List Comprehension} {scope : Scope} {pos py : Pos} {y : Str} {l : Nat} {env : Env} (hk : env.scope.kind = .function) (h : swB scope y py pos env.scope = false) : swapsWith (.ListComp elt gs scope pos) (some (.Name y py)) l env = pure false := by
  have hb : env.blockKind = .function := by unfold Env.blockKind; rw [hk]; rfl
  have e1 : (env.kindOf y == some NameKind.local) = decide (env.scope.names.lookup y = some .local) := by
    by_cases q : env.scope.names.lookup y = some .local
    · have : env.kindOf y = some .local := q
      rw [this]; simp [q]
    · have : ¬ env.kindOf y = some .local := q
      simp [q, this]
  unfold swapsWith
  simp only [hb, Expr.pos, e1]
  unfold swB at h
  refine congrArg pure ?_
  simpa using h
theorem swaps_t {elt : Expr} {gs : List Comprehension} {scope : Scope} {pos py : Pos} {y : Str} {l : Nat} {env : Env} (hk : env.scope.kind = .function) (h : swB scope y py pos env.scope = true) : swapsWith (.ListComp elt gs scope pos) (some (.Name y py)) l env = pure true := by
  unfold swB at h
  simp only [Bool.and_eq_true, decide_eq_true_eq, Bool.not_eq_true'] at h
  exact sw_true hk h.1.1 h.1.2 h.2
theorem star_arm {a : Expr} (h : notStar a = true) : (match a with | .Starred .. => true | _ => false) = false := by
  cases a <;> first | rfl | cases h
theorem kind_env {env : Env} (hk : env.scope.kind = .function) : (env.blockKind != .function) = false := by
  have : env.blockKind = .function := by unfold Env.blockKind; rw [hk]; rfl
  rw [this]; rfl
/-- do the stores of names on one line go from the right; none: the model does not tell -/
def swpL (xs : List (Str × Pos)) (vs : List Expr) (sc : Scope) : Option Bool :=
  if xs.length = 2 ∨ xs.length = 3 then
    if (xs.map (·.1)).eraseDups.length = xs.length ∧ xs.all (fun p => decide (sc.names.lookup p.1 = some .local) && p.2.line == (xs.head?.map (·.2.line)).getD 0) = true then
      if vs.all (foldedForSure 8) then some false else if vs.all (constantsAlone 8) then none else some true
    else none
  else some false
def nameE (p : Str × Pos) : Expr := .Name p.1 p.2
theorem stores_long {ts vs : List Expr} {k k2 : Nat} {p p2 : Pos} {env : Env} (h : ¬ (ts.length = 2 ∨ ts.length = 3)) : swappedStores [.Tuple ts k p] (.Tuple vs k2 p2) env = pure none := by
  unfold swappedStores
  have e1 : (!(ts.length == 2 || ts.length == 3)) = true := by simpa using h
  simp only [e1, Bool.true_or]
  rfl
theorem loc_kind {env : Env} {x : Str} (h : env.scope.names.lookup x = some .local) : (env.kindOf x == some NameKind.local) = true := by
  have : env.kindOf x = some .local := h
  rw [this]; rfl
theorem swp2 {x y : Str} {px py : Pos} {a b : Expr} {k k2 : Nat} {p p2 : Pos} {env : Env} (hk : env.scope.kind = .function) (ha : notStar a = true) (hb : notStar b = true) (h1 : env.scope.names.lookup x = some .local) (h2 : env.scope.names.lookup y = some .local) (hl : (py.line == px.line) = true) (hne : [x, y].eraseDups.length = 2) :
    (([a, b].all (foldedForSure 8) = true → swappedStores [.Tuple [.Name x px, .Name y py] k p] (.Tuple [a, b] k2 p2) env = pure none)) ∧
    ([a, b].all (foldedForSure 8) = false → [a, b].all (constantsAlone 8) = false → swappedStores [.Tuple [.Name x px, .Name y py] k p] (.Tuple [a, b] k2 p2) env = pure (some [x, y])) := by
  have e1 := loc_kind h1
  have e2 := loc_kind h2
  constructor
  · intro hf
    unfold swappedStores
    simp [kind_env hk, star_arm ha, star_arm hb, e1, e2, Expr.pos, hl, hne, hf]
  · intro hf hc
    have k1 : env.kindOf x = some .local := h1
    have k2' : env.kindOf y = some .local := h2
    have l1 : py.line = px.line := by simpa using hl
    unfold swappedStores
    simp [kind_env hk, Expr.pos, hne, hf, hc, List.filterMap_cons, k1, k2', l1]
    intro q
    exfalso
    rcases q with q | q
    · cases a <;> first | exact Bool.false_ne_true q | cases ha
    · cases b <;> first | exact Bool.false_ne_true q | cases hb
theorem swp3 {x y z : Str} {px py pz : Pos} {a b c : Expr} {k k2 : Nat} {p p2 : Pos} {env : Env} (hk : env.scope.kind = .function) (ha : notStar a = true) (hb : notStar b = true) (hc0 : notStar c = true) (h1 : env.scope.names.lookup x = some .local) (h2 : env.scope.names.lookup y = some .local) (h3 : env.scope.names.lookup z = some .local) (hl : (py.line == px.line) = true) (hl2 : (pz.line == px.line) = true) (hne : [x, y, z].eraseDups.length = 3) :
    (([a, b, c].all (foldedForSure 8) = true → swappedStores [.Tuple [.Name x px, .Name y py, .Name z pz] k p] (.Tuple [a, b, c] k2 p2) env = pure none)) ∧
    ([a, b, c].all (foldedForSure 8) = false → [a, b, c].all (constantsAlone 8) = false → swappedStores [.Tuple [.Name x px, .Name y py, .Name z pz] k p] (.Tuple [a, b, c] k2 p2) env = pure (some [x, y, z])) := by
  have e1 := loc_kind h1
  have e2 := loc_kind h2
  have e3 := loc_kind h3
  constructor
  · intro hf
    unfold swappedStores
    simp [kind_env hk, star_arm ha, star_arm hb, star_arm hc0, e1, e2, e3, Expr.pos, hl, hl2, hne, hf]
  · intro hf hc
    have k1 : env.kindOf x = some .local := h1
    have k2' : env.kindOf y = some .local := h2
    have k3 : env.kindOf z = some .local := h3
    have l1 : py.line = px.line := by simpa using hl
    have l2 : pz.line = px.line := by simpa using hl2
    unfold swappedStores
    simp [kind_env hk, Expr.pos, hne, hf, hc, List.filterMap_cons, k1, k2', k3, l1, l2]
    intro q
    exfalso
    rcases q with q | q | q
    · cases a <;> first | exact Bool.false_ne_true q | cases ha
    · cases b <;> first | exact Bool.false_ne_true q | cases hb
    · cases c <;> first | exact Bool.false_ne_true q | cases hc0
/-- a method call's row -/
theorem row1 {X : Cx} {y m : Str} {yp apos cpos : Pos} {e : Expr} (hs : notStar e = true) (hl : (apos.endLine == cpos.line) = true) : Row1 X (.Name y yp) m apos e cpos := by
  refine ⟨⟨rfl, ?_, hl, ?_⟩, star_cons hs, rfl⟩
  · rw [star_one hs]; rfl
  · rw [star_one hs]; rfl
end Rf
/-! Reflection layer: t[::-1] of a tuple. -/
namespace Rf
open PySem PySem.Spec PyProof.Rows L2
theorem back_adjust (n : Nat) : Builtin.Slice.sliceAdjust none none (-1) (n : Int) = ((n : Int) - 1, -1) := by
  unfold Builtin.Slice.sliceAdjust
  simp
theorem back_places (n : Nat) : Builtin.Slice.slicePlaces ((n : Int) - 1) (-1) (-1) = n := by
  unfold Builtin.Slice.slicePlaces
  simp
  omega
theorem fm_range (ys : List Value) (g : Nat → Option Value) : ∀ n, n ≤ ys.length → (∀ k, k < n → g k = ys[k]?) → (List.range n).filterMap g = ys.take n
  | 0, _, _ => by simp
  | n + 1, hn, h => by
    rw [List.range_succ, List.filterMap_append, fm_range ys g n (by omega) fun k hk => h k (by omega)]
    have e := h n (by omega)
    rw [List.getElem?_eq_getElem (by omega)] at e
    rw [List.filterMap_cons, e, List.filterMap_nil, List.take_succ, List.getElem?_eq_getElem (by omega)]
    rfl
theorem back_pick (xs : Array Value) : ((List.range xs.size).filterMap fun (k : Nat) => xs[((xs.size : Int) - 1 + (k : Int) * -1).toNat]?).toArray = xs.toList.reverse.toArray := by
  rw [fm_range xs.toList.reverse _ xs.size (by simp) fun k hk => ?_]
  · rw [List.take_of_length_le (by simp)]
  · rw [List.getElem?_reverse (by simpa using hk), ← Array.getElem?_toList]
    congr 1
    simp
    omega
section
variable {prog : Program} {w : World} {A : Around} {E : Value → Shared → Prop} {s : Shared}
theorem sliceApplied_back {sl : Addr} {vs : Value} {n : Nat} {Q : Int × Int × Nat → Shared → Prop} (hs : s.heap.IsSliceOf sl .none .none vs) (ps : IsPart vs (some (-1))) (h : Q ((n : Int) - 1, -1, n) s) : wpAny (model prog w) A (Builtin.Slice.sliceApplied (.ref sl) (pure (n : Int))) Q E s := by
  obtain ⟨os, h1, h2, h3⟩ := id hs
  unfold Builtin.Slice.sliceApplied Builtin.Slice.sliceFields
  refine wpAny_bind (wpAny_bind (wpAny_field h1 h3 (x := .none) rfl (wpAny_bind (wpAny_field h1 h3 (x := .none) rfl (wpAny_bind (wpAny_field h1 h3 (x := vs) rfl (wpAny_pure ?_)))))))
  refine wpAny_bind (HT.slicePart_ ps ?_)
  show wpAny _ _ (if ((-1 : Int) == 0) = true then _ else _) _ _ s
  rw [if_neg (by decide)]
  refine wpAny_bind (HT.slicePart_ .none (wpAny_bind (HT.slicePart_ .none (wpAny_bind (wpAny_pure ?_)))))
  show wpAny _ _ (match Builtin.Slice.sliceAdjust none none (-1) (n : Int) with | (lo, hi) => pure (lo, (-1 : Int), Builtin.Slice.slicePlaces lo hi (-1))) _ _ s
  rw [back_adjust n]
  show wpAny _ _ (pure ((n : Int) - 1, (-1 : Int), Builtin.Slice.slicePlaces ((n : Int) - 1) (-1) (-1))) _ _ s
  rw [back_places]
  exact wpAny_pure h
theorem getItem_tuple_back {t sl : Addr} {items : Array Value} {vs : Value} {Q : Value → Shared → Prop} (ht : IsTup s.heap t items) (hs : s.heap.IsSliceOf sl .none .none vs) (ps : IsPart vs (some (-1)))
    (h : Q (.ref s.heap.objs.size) { s with heap := s.heap.push { cls := .type "tuple", data := .seq items.toList.reverse.toArray } }) (hz : items.size ≤ sizeLine) : wpAny (model prog w) A (getItem (.ref t) (.ref sl)) Q E s := by
  have fits : sizeOk (.seq items.toList.reverse.toArray) := by
    show items.toList.reverse.toArray.size ≤ sizeLine
    simpa using hz
  obtain ⟨os, h1, h2, h3⟩ := id hs
  have ty : s.TypeIs (.ref sl) "slice" := ⟨os, h1, h2⟩
  unfold getItem
  try with_reducible refine wpAny_holding ?_
  first | refine wpAny_bind (wpAny_pure ?_) | skip
  refine wpAny_bind (wpAny_sequenceKey ht.typeIs (by decide) ?_)
  refine wpAny_bind (wpAny_callSpecial?_slot (name := Str.ofString "__getitem__") ht.typeIs PyProof.Rows.slot_tuple_getitem
    (wpAny_call_entry PyProof.Rows.slot_tuple_getitem ht.typeIs entry_tuple_getitem ?_ (args_tuple_getitem _ _)))
  show wpAny _ _ (Builtin.Tuple.tupleItemsOf (.ref t) >>= _) _ _ s
  refine wpAny_bind (tupleItemsOf_ ht ?_)
  refine wpAny_bind (wpAny_typeOf ty ?_)
  rw [if_pos (by decide)]
  refine wpAny_bind (sliceApplied_back hs ps ?_)
  show wpAny _ _ (if (((items.size : Int) - 1) == 0 && (-1 : Int) == 1 && items.size == items.size) = true then _ else _) _ _ s
  rw [if_neg (by simp), back_pick]
  first
    | exact wpAny_bind (m := Builtin.Tuple.tupleExact _) (wpAny_newObj_type (wpAny_pure ⟨_, rfl, wpAny_pure h⟩) fits)
    | exact wpAny_bind (m := Builtin.Tuple.tupleExact _) (wpAny_newObj_type (wpAny_bind (wpAny_pure (wpAny_pure ⟨_, rfl, wpAny_pure h⟩))) fits)
    | exact wpAny_bind (wpAny_bind (m := Builtin.Tuple.tupleExact _) (wpAny_newObj_type (wpAny_pure (wpAny_pure ⟨_, rfl, wpAny_pure h⟩)) fits))
    | exact wpAny_bind (wpAny_bind (m := Builtin.Tuple.tupleExact _) (wpAny_newObj_type (wpAny_pure ⟨_, rfl, wpAny_pure h⟩) fits))
end
def tRevT (K : PySem.W.Frag) (te : TE) : TE := fun σ H Q => te σ H fun x H1 => ∃ a xs, x = .ref a ∧ SqT K H1 a xs ∧ ∀ p, H1 p = none → Q (.ref p) (upd H1 p (.tup xs.reverse))
/-- the tree of -1 -/
abbrev backE (k : Nat) (p1 p2 p3 : Pos) : Expr := .Slice none none (some (.UnaryOp .USub (.Constant (.int 1) k p1) p2)) p3
theorem pe_revT {X : Cx} {e : Expr} {te : TE} {k : Nat} {p1 p2 p3 pos : Pos} (he : PE X e te) : PE X (.Subscript e (backE k p1 p2 p3) pos) (tRevT X.K te) := by
  refine ⟨fun pins s σ H Q I h => ?_⟩
  refine Subscript_ (thn (he.run pins s σ H _ I h) fun v s1 ⟨x, H1, I1, r1, q1⟩ => ?_)
  obtain ⟨a, xs, ex, hx, q⟩ := q1
  subst ex
  cases r1
  have step : PO X (some (.UnaryOp .USub (.Constant (.int 1) k p1) p2)) (tPart (tUn (rU fun i => .int (-i)) (tC (.int 1)))) := po_some (pe_un un_neg pe_int)
  refine wpAny_Slice (thn (po_none.run pins s1 σ H1 (fun o H2 => o = none ∧ H2 = H1) I1 ⟨rfl, rfl⟩) fun vl s2 ⟨l, H2, I2, pl, el, e2⟩ => ?_)
  subst el e2
  refine thn (po_none.run pins s2 σ H2 (fun o H3 => o = none ∧ H3 = H2) I2 ⟨rfl, rfl⟩) fun vu s3 ⟨u, H3, I3, pu, eu, e3⟩ => ?_
  subst eu e3
  refine thn (step.run pins s3 σ H3 (fun o H4 => o = some (-1) ∧ H4 = H3) I3 ⟨1, rfl, -1, rfl, rfl, rfl⟩) fun vs s4 ⟨o, H4, I4, ps, eo, e4⟩ => ?_
  subst eo e4
  have I5 : Inv X pins σ H4 { s4 with heap := s4.heap.push { cls := .type "slice", data := .fields #[vl, vu, vs] } } := I4.kept (t' := s4.toks) fun b ob q => Heap.get?_push_of_some _ q
  obtain ⟨its, r, ht, hz⟩ := I5.tuple hx
  have hl := r.length
  cases pl
  cases pu
  show wpAny (model X.prog X.w) X.A (subscriptTail e (backE k p1 p2 p3) (.ref a) (.ref s4.heap.objs.size)) (EP X pins σ Q) X.xe { s4 with heap := s4.heap.push { cls := .type "slice", data := .fields #[.none, .none, vs] } }
  refine tail_any (ops := [.ref a, .ref s4.heap.objs.size]) ht.typeIs (PyProof.Rows.slot_tuple_getitem.lookup) ?_ (by with_unfolding_all rfl)
  refine getItem_tuple_back ht (Heap.IsSliceOf.new _ .none .none vs) ps ?_ (by rw [List.size_toArray, ← hl]; exact hz)
  refine ⟨.ref _, _, I5.laid (t' := s4.toks) (o := .tup xs.reverse) (fun b ob q => Heap.get?_push_of_some _ q) (Nat.le_refl _) ?_, rfl, q _ (I5.hok.fresh (Nat.le_refl _))⟩
  exact ⟨by rw [List.length_reverse]; exact hz, _, r.reverse, IsTup.new _ _⟩
section
variable {w : Wld} {X : Cx} {XE : Er → Value → Option Addr → Hp → Prop} {W : WX} {F : Fs w}
theorem s_rev {a : Expr} {k : Nat} {p1 p2 p3 pos : Pos} {ma : MV} (ha : PE X a (RV w X XE W (denV F ma))) : PE X (.Subscript a (backE k p1 p2 p3) pos) (RE w X XE W (denE F (.rev ma))) :=
  ((pe_revL ha).either (pe_revT ha)).imp fun σ H Q ⟨C, e, ad, s, R, h⟩ => by
    rw [denE_rev] at h
    simp only at h
    cases hd : denV F ma e s with
    | err er s1 => simp only [hd, Rs.bind_err] at h; exact .inl ⟨C, e, ad, s, R, by simp only [hd]; exact h⟩
    | stuck => simp only [hd, Rs.bind_stuck] at h
    | ok d s1 =>
      simp only [hd, Rs.bind_ok] at h
      cases d with
      | lst xs =>
        refine .inl ⟨C, e, ad, s, R, ?_⟩
        simp only [hd]
        intro v H1 p z
        obtain ⟨a, vs, rfl, ha, ra⟩ := VRp.lstv z
        have R1 := R.ext p.kp p.dr
        exact ⟨a, vs, rfl, .inl (.inl ha), fun q n => h _ _ ⟨p.kp.trans (.new n), p.dr.new n⟩ (ZF.toE (H := H1) R1 ⟨q, rfl, n, R1.newLst n ra.reverse⟩)⟩
      | tup xs =>
        refine .inr ⟨C, e, ad, s, R, ?_⟩
        simp only [hd]
        intro v H1 p z
        obtain ⟨a, vs, rfl, ha, ra⟩ := VRp.tupv z
        have R1 := R.ext p.kp p.dr
        exact ⟨a, vs, rfl, .inl (.inl (mask_le.tup ha)), fun q n => h _ _ ⟨p.kp.trans (.new n), p.dr.new n⟩ (R1.newTup n ra.reverse)⟩
      | _ => simp [revD] at h
end
end Rf
/-! Reflection layer, part 24: from trees to the small language. -/
namespace Rf
open PySem PySem.Spec PyProof.Rows L2
/-- where a tree stands -/
structure Cc where
  sc : Scope
  N : List Str
  /-- the defs: number, parameters -/
  fns : List (Str × Nat × List Str)
  /-- calls by keywords: the def, its keywords, where each parameter's value stands -/
  kws : List (Str × List Str × List Nat)
  tkn : Option Str
  glb : List Str
  dts : List Nat
  dks : List Nat
  fn : Str → Bool
def idxN : List Str → Str → Option Nat
  | [], _ => none
  | y :: ys, x => if y = x then some 0 else (idxN ys x).map (· + 1)
def vis (sc : Scope) (x : Str) : Bool := decide (sc.names.lookup x = some .local) || decide (sc.names.lookup x = some .cell) || decide (sc.names.lookup x = some .free)
def visI (cx : Cc) (x : Str) : Option Nat := if vis cx.sc x && !(x == ("__debug__" : Str)) && !(x == ("__classdict__" : Str)) then idxN cx.N x else none
def isGl (cx : Cc) (x : Str) : Bool := decide (cx.sc.names.lookup x = some .globalImplicit) && !(x == ("__debug__" : Str)) && !(x == ("__name__" : Str))
def bop : Operator → Option Op
  | .Add => some .add
  | .Sub => some .sub
  | .Mult => some .mul
  | .FloorDiv => some .fdiv
  | .Mod => some .mod
  | .Pow => some .pow
  | _ => none
def cop : CmpOp → Option Op
  | .Eq => some .eq
  | .NotEq => some .ne
  | .Lt => some .lt
  | .LtE => some .le
  | .Gt => some .gt
  | .GtE => some .ge
  | .Is => some .isN
  | .IsNot => some .notN
  | .In => some .inn
  | .NotIn => some .nin
def cstOf : Const → Option D
  | .none => some .non
  | .bool b => some (.bl b)
  | .int i => some (.int i)
  | .str x => some (.str x)
  | _ => none
/-- what may stand as a test -/
def testOkN : Nat → Expr → Bool
  | 0, _ => false
  | n + 1, e => match e with
    | .UnaryOp .Not a _ => testOkN n a
    | .BoolOp _ es _ => es.all (testOkN n)
    | .IfExp _ _ _ _ => false
    | _ => true
def testOk (e : Expr) : Bool := testOkN 12 e
def isFresh : ME → Bool
  | .lst _ => true
  | .dk0 => true
  | .dt0 => true
  | .lc _ _ _ _ _ => true
  | .lc2 _ _ _ _ _ _ _ _ _ => true
  | .bi .listOf (.cons _ .nil) => true
  | .bi .dictOf (.cons _ .nil) => true
  | _ => false
def isTup : Expr → Bool
  | .Tuple _ _ _ => true
  | _ => false
def Ty.nm : Ty → Str
  | .int => "int"
  | .bool => "bool"
  | .str => "str"
  | .tuple => "tuple"
  | .list => "list"
  | .dict => "dict"
def Bi.nm : Bi → Str
  | .len => "len"
  | .all => "all"
  | .any => "any"
  | .sum => "sum"
  | .min => "min"
  | .max => "max"
  | .abs => "abs"
  | .listOf => "list"
  | .tupOf => "tuple"
  | .dictOf => "dict"
  | .repr => "repr"
  | .int => "int"
  | .isi _ => "isinstance"
def tyOf (x : Str) : Option Ty := [Ty.int, .bool, .str, .tuple, .list, .dict].find? fun t => decide (t.nm = x)
def biOf (x : Str) : Option Bi := [Bi.len, .all, .any, .sum, .min, .max, .abs, .listOf, .tupOf, .dictOf, .repr, .int].find? fun b => decide (b.nm = x)
/-- how many arguments -/
def biN : Bi → Nat
  | .min => 2
  | .max => 2
  | _ => 1
section
variable (f : Expr → Option ME) (cx : Cc)
def convV (e : Expr) : Option MV := match e with
  | .Name x _ => (match visI cx x with
    | some i => some (.pk i)
    | none => (f e).map .e)
  | _ => (f e).map .e
def convEs : List Expr → Option MEs
  | [] => some .nil
  | e :: es => if notStar e then (match f e, convEs es with
    | some m, some ms => some (.cons m ms)
    | _, _ => none) else none
def convVs : List Expr → Option MVs
  | [] => some .nil
  | e :: es => if notStar e then (match convV f cx e, convVs es with
    | some m, some ms => some (.cons m ms)
    | _, _ => none) else none
def convA (e : Expr) : Option MA := match e with
  | .Name x _ => (match visI cx x with
    | some i => some (.lend i)
    | none => (f e).map .val)
  | _ => (f e).map .val
def convAs : List Expr → Option MAs
  | [] => some .nil
  | e :: es => if notStar e then (match convA f cx e, convAs es with
    | some m, some ms => some (.cons m ms)
    | _, _ => none) else none
def convKs : List Keyword → Option MAs
  | [] => some .nil
  | ⟨some _, e, _⟩ :: ks => (match convA f cx e, convKs ks with
    | some m, some ms => some (.cons m ms)
    | _, _ => none)
  | _ => none
def convO : Option Expr → Option MO
  | none => some .no
  | some e => (f e).map .yes
/-- range(..), asked or walked -/
def convR (e : Expr) : Option (ME × ME) := match e with
  | .Call (.Name x _) [c] [] _ => if x = ("range" : Str) ∧ isGl cx x = true ∧ cx.fns.lookup x = none ∧ notStar c = true then (f c).map fun m => (.cst (.int 0), m) else none
  | .Call (.Name x _) [b, c] [] _ => if x = ("range" : Str) ∧ isGl cx x = true ∧ cx.fns.lookup x = none ∧ notStar b = true ∧ notStar c = true then (match f b, f c with
    | some m, some m' => some (m, m')
    | _, _ => none) else none
  | _ => none
def cName (x : Str) : Option ME := match visI cx x with
  | some i => some (.var i)
  | none => if isGl cx x && cx.glb.contains x then some (.glo x) else none
def cCmp1 (a : Expr) (op : CmpOp) (b : Expr) : Option ME := match convR f cx b with
  | some (l, h) => if op = .In then (f a).map fun m => .inR false m l h else if op = .NotIn then (f a).map fun m => .inR true m l h else none
  | none => if behindInMarks op b then none else (match cop op, convV f cx a, convV f cx b with
      | some o, some ma, some mb => some (.op o ma mb)
      | _, _, _ => none)
def cCmp2 (a : Expr) (op op' : CmpOp) (b c : Expr) : Option ME := if lastMarks [op, op'] [b, c] then none else (match cop op, cop op', convV f cx a, convV f cx b, convV f cx c with
    | some o, some o', some ma, some mb, some mc => some (.chain o o' ma mb mc)
    | _, _, _, _, _ => none)
def cCmp (a : Expr) (ops : List CmpOp) (bs : List Expr) : Option ME := match ops, bs with
  | [op], [b] => cCmp1 f cx a op b
  | [op, op'], [b, c] => cCmp2 f cx a op op' b c
  | _, _ => none
def cSub (a b : Expr) : Option ME := if notSlice b then (match convV f cx a, f b with
    | some ma, some mb => some (.sub ma mb)
    | _, _ => none)
  else (match b with
    | .Slice lo hi none _ => (match convV f cx a, convO f lo, convO f hi with
      | some ma, some ml, some mh => some (.slc ma ml mh)
      | _, _, _ => none)
    | .Slice none none (some (.UnaryOp .USub (.Constant (.int 1) _ _) _)) _ => (convV f cx a).map .rev
    | _ => none)
def cBi (x : Str) (as : List Expr) : Option ME :=
  if x = ("isinstance" : Str) then (match as with
    | [a, .Name y _] => if notStar a && isGl cx y && (cx.fns.lookup y).isNone then (match convV f cx a, tyOf y with
      | some ma, some t => some (.bi (.isi t) (.cons ma .nil))
      | _, _ => none) else none
    | _ => none)
  else (match biOf x with
    | some b => if as.length = biN b then (convVs f cx as).map (.bi b) else none
    | none => none)
def cCall (g : Expr) (as : List Expr) (ks : List Keyword) : Option ME := match g with
  | .Name x _ => if isGl cx x then (match cx.fns.lookup x with
    | some (i, ps) => (match ks with
      | [] => (convAs f cx as).map (.call i)
      | _ => if as.isEmpty then (match cx.kws.find? (fun q => decide (q.1 = x ∧ ks.map (·.arg) = q.2.1.map some)), convKs f cx ks with
        | some (_, _, js), some ms => some (.callk i js ms)
        | _, _ => none) else none)
    | none => (match ks with
      | [] => if cx.tkn = some x then (match as with
          | [.Name y _, a] => if notStar a then (match visI cx y, f a with
            | some j, some m => some (.take j m)
            | _, _ => none) else none
          | _ => none)
        else cBi f cx x as
      | _ => none)) else none
  | _ => none
def convTs : List Expr → Option (List Nat)
  | [] => some []
  | .Name x _ :: es => (match visI cx x, convTs es with
    | some i, some is => if decide (cx.sc.names.lookup x = some .free) then none else if cx.fn x || decide (cx.sc.names.lookup x = some .local) then some (i :: is) else none
    | _, _ => none)
  | _ => none
def convTg (e : Expr) : Option Tg := match e with
  | .Tuple es _ _ => (convTs cx es).map .many
  | .Name x p => (match convTs cx [.Name x p] with
    | some [i] => some (.one i)
    | _ => none)
  | _ => none
/-- enumerate(..), into several names -/
def enuArg (tg e : Expr) : Option Expr := match e with
  | .Call (.Name x _) [a] [] _ => if x = ("enumerate" : Str) ∧ isGl cx x = true ∧ cx.fns.lookup x = none ∧ notStar a = true ∧ isTup tg = true then some a else none
  | _ => none
def isSet : Expr → Bool
  | .Set _ _ _ => true
  | _ => false
def convI (tg e : Expr) : Option MI := match convR f cx e with
  | some (l, h) => some (.rng l h)
  | none => (match enuArg cx tg e with
    | some a => (convV f cx a).map .enu
    | none => if isSet e then none else (convV f cx e).map .seq)
def convC : List Expr → Option MO
  | [] => some .no
  | [c] => if testOk c then (f c).map .yes else none
  | _ => none
end
def blkOwn (N : List Str) (scope : Scope) : List (Str × Nat) := scope.names.filterMap fun (n, k) => if k = .local ∨ k = .cell then (idxN N n).map fun i => (n, i) else none
def blkCx (cx : Cc) (scope : Scope) : Cc := { cx with sc := relS scope cx.sc, fn := fun x => scope.names.lookup x == some .cell }
def cLc (g : Cc → Expr → Option ME) (cx : Cc) (elt : Expr) (gs : List Comprehension) (scope : Scope) : Option ME := match gs with
  | [⟨tg, it, ifs, 0⟩] =>
    let own := blkOwn cx.N scope
    let cx' := blkCx cx scope
    if blkC cx.N cx.sc scope own then (match convTg cx' tg, convI (g cx) cx tg it, convC (g cx') ifs, g cx' elt with
      | some t, some i, some c, some m => if t.all.all fun j => (own.map (·.2)).contains j then some (.lc t (own.map (·.2)) i c m) else none
      | _, _, _, _ => none) else none
  | [⟨tg, it, ifs, 0⟩, ⟨tg1, it1, ifs1, 0⟩] =>
    let own := blkOwn cx.N scope
    let cx' := blkCx cx scope
    if blkC cx.N cx.sc scope own then (match convTg cx' tg, convI (g cx) cx tg it, convC (g cx') ifs, convTg cx' tg1, convI (g cx') cx' tg1 it1, convC (g cx') ifs1, g cx' elt with
      | some t, some i, some c, some t1, some i1, some c1, some m => if (t.all.all fun j => (own.map (·.2)).contains j) && (t1.all.all fun j => (own.map (·.2)).contains j) then some (.lc2 t (own.map (·.2)) t1.all i c t1 i1 c1 m) else none
      | _, _, _, _, _, _, _ => none) else none
  | _ => none
def convE : Nat → Cc → Expr → Option ME
  | 0, _, _ => none
  | n + 1, cx, e => match e with
    | .Name x _ => cName cx x
    | .Constant c _ _ => (cstOf c).map .cst
    | .Tuple es _ _ => (convEs (convE n cx) es).map .tup
    | .List es _ => (convEs (convE n cx) es).map .lst
    | .Dict [] [] _ => some .dk0
    | .BinOp a op b _ => (match bop op, convV (convE n cx) cx a, convV (convE n cx) cx b with
      | some o, some ma, some mb => some (.op o ma mb)
      | _, _, _ => none)
    | .UnaryOp .Not a _ => if testOk a then (convE n cx a).map .not else none
    | .UnaryOp .USub a _ => (convE n cx a).map .neg
    | .BoolOp _ [a] _ => convE n cx a
    | .BoolOp .And (a :: b :: rest) pos => (match convE n cx a, convE n cx (.BoolOp .And (b :: rest) pos) with
      | some ma, some mb => some (.and ma mb)
      | _, _ => none)
    | .BoolOp .Or (a :: b :: rest) pos => (match convE n cx a, convE n cx (.BoolOp .Or (b :: rest) pos) with
      | some ma, some mb => some (.or ma mb)
      | _, _ => none)
    | .IfExp c a b _ => if testOk c then (match convE n cx c, convE n cx a, convE n cx b with
      | some mc, some ma, some mb => some (.ite mc ma mb)
      | _, _, _ => none) else none
    | .Compare a ops bs _ => cCmp (convE n cx) cx a ops bs
    | .Subscript a b _ => cSub (convE n cx) cx a b
    | .Call g as ks _ => cCall (convE n cx) cx g as ks
    | .ListComp elt gs scope _ => cLc (convE n) cx elt gs scope
    | _ => none
/-! ### statements -/
mutual
/-- the names read as data -/
def varsE : ME → List Nat
  | .var i => [i]
  | .cst _ => []
  | .glo _ => []
  | .tup es => varsEs es
  | .lst es => varsEs es
  | .dk0 => []
  | .dt0 => []
  | .op _ a b => varsV a ++ varsV b
  | .chain _ _ a b c => varsV a ++ varsV b ++ varsV c
  | .inR _ a b c => varsE a ++ varsE b ++ varsE c
  | .neg a => varsE a
  | .not a => varsE a
  | .and a b => varsE a ++ varsE b
  | .or a b => varsE a ++ varsE b
  | .ite a b c => varsE a ++ varsE b ++ varsE c
  | .sub a b => varsV a ++ varsE b
  | .slc a b c => varsV a ++ varsO b ++ varsO c
  | .rev a => varsV a
  | .call _ as => varsAs as
  | .callk _ _ as => varsAs as
  | .take _ a => varsE a
  | .bi _ as => varsVs as
  | .lc _ _ it c e => varsI it ++ varsO c ++ varsE e
  | .lc2 _ _ _ it c _ it1 c1 e => varsI it ++ varsO c ++ varsI it1 ++ varsO c1 ++ varsE e
def varsO : MO → List Nat
  | .no => []
  | .yes e => varsE e
def varsV : MV → List Nat
  | .e m => varsE m
  | .pk _ => []
def varsEs : MEs → List Nat
  | .nil => []
  | .cons e es => varsE e ++ varsEs es
def varsVs : MVs → List Nat
  | .nil => []
  | .cons e es => varsV e ++ varsVs es
def varsA : MA → List Nat
  | .val m => varsE m
  | .lend _ => []
def varsAs : MAs → List Nat
  | .nil => []
  | .cons e es => varsA e ++ varsAs es
def varsI : MI → List Nat
  | .seq a => varsV a
  | .keys a => varsV a
  | .rng a b => varsE a ++ varsE b
  | .enu a => varsV a
  | .zip a b => varsV a ++ varsV b
end
/-- with what is read as data let go first -/
def fzS (mu : List Nat) (vs : List Nat) (s : MS) : MS := match (vs.filter mu.contains).eraseDups with
  | [] => s
  | is => .fz is s
/-- a walked name's container is let go first -/
def walkV : MI → List Nat
  | .seq (.pk i) => [i]
  | .enu (.pk i) => [i]
  | .keys (.pk i) => [i]
  | _ => []
section
variable (f : Expr → Option ME) (cx : Cc) (mu : List Nat)
/-- what a name is bound to -/
def convB (i : Nat) (e : Expr) : Option ME := match e with
  | .Dict [] [] _ => if cx.dts.contains i then some .dt0 else some .dk0
  | e => f e
def convBs : List Nat → List Expr → Option MEs
  | [], [] => some .nil
  | i :: is, e :: es => if notStar e then (match convB f cx i e, convBs is es with
    | some m, some ms => some (.cons m ms)
    | _, _ => none) else none
  | _, _ => none
def freshs : List Nat → MEs → List (Nat × Bool)
  | i :: is, .cons m ms => (i, isFresh m && mu.contains i) :: freshs is ms
  | _, _ => []
def locN (e : Expr) : Bool := match e with
  | .Name x _ => decide (cx.sc.names.lookup x = some .local)
  | _ => false
def lineN (e : Expr) (l : Nat) : Bool := match e with
  | .Name _ p => p.line == l
  | _ => false
def nameN (e : Expr) : Str := match e with
  | .Name x _ => x
  | _ => ("" : Str)
def apart : List Str → Bool
  | [] => true
  | x :: xs => xs.all (fun y => decide (x ≠ y)) && apart xs
/-- a pair's or a triple's stores: from the right (true), or as a tuple (false) -/
def parK (ts vs : List Expr) : Option Bool :=
  if ts.length = 2 ∨ ts.length = 3 then
    if ts.all (locN cx) && ts.all (fun e => lineN e (ts.head?.map (·.pos.line)).get!) && decide ((ts.map nameN).eraseDups.length = ts.length) && apart (ts.map nameN) then
      if vs.all (foldedForSure 8) then some false else if vs.all (constantsAlone 8) then none else some true
    else none
  else some false
def cAsg (tg v : Expr) (pos : Pos) : Option MS := match tg with
  | .Name x px => (match convTs cx [.Name x px] with
    | some [i] => (match v with
      | .IfExp c a (.Name y _) _ => if mu.contains ((visI cx y).getD 0) && (visI cx y).isSome && testOk c then (match f c, f a, visI cx y with
          | some mc, some ma, some j => some (fzS mu (varsE ma ++ varsE mc) (.ali i mc ma j))
          | _, _, _ => none)
        else (f v).map fun m => fzS mu (varsE m) (.asg i m)
      | v => (convB f cx i v).map fun m => fzS mu (varsE m) (if isFresh m && mu.contains i then .new i m else .asg i m))
    | _ => none)
  | .Tuple ts _ _ => (match convTs cx ts with
    | some is => (match v with
      | .Tuple vs _ _ => (match convBs f cx is vs, parK cx ts vs with
        | some ms, some _ => if vs.length ≤ 1000 then some (fzS mu (varsEs ms) (.par (freshs mu is ms) ms)) else none
        | _, _ => none)
      | v => (f v).map fun m => fzS mu (varsE m) (.unp is m))
    | none => none)
  | .Subscript (.Name x _) ix _ => if notSlice ix && notComp v then (match visI cx x, f ix, f v with
    | some i, some mk, some m => some (fzS mu (varsE mk ++ varsE m) (.put i mk m))
    | _, _, _ => none) else none
  | _ => none
def cExp (e : Expr) : Option MS := match e with
  | .Call (.Attribute (.Name x _) m ap) [a] [] cp => if notStar a && (ap.endLine == cp.line) then (match visI cx x with
    | some i => if m = ("append" : Str) then (match a with
        | .Call (.Attribute (.Name y _) m2 ap2) [b] [] cp2 => if m2 = ("pop" : Str) ∧ notStar b = true ∧ (ap2.endLine == cp2.line) = true then (match visI cx y, f b with
            | some j, some mb => some (fzS mu (varsE mb) (.appPop i j mb))
            | _, _ => none) else none
        | a => (f a).map fun ma => fzS mu (varsE ma) (.app i ma))
      else if m = ("pop" : Str) then (f a).map fun ma => fzS mu (varsE ma) (.dpop i ma) else none
    | none => none) else none
  | e => if notComp e then (f e).map fun m => fzS mu (varsE m) (.ex m) else none
end
def augOp : Operator → Option Op
  | .Add => some .add
  | .Sub => some .sub
  | _ => none
def isDoc : Stmt → Bool
  | .Expr (.Constant (.str _) _ _) _ => true
  | _ => false
mutual
def convS : Nat → Cc → List Nat → Stmt → Option MS
  | 0, _, _, _ => none
  | n + 1, cx, mu, st => match st with
    | .Return none _ => some .retN
    | .Return (some e) _ => (convE n cx e).map .ret
    | .Assign [tg] v pos => cAsg (convE n cx) cx mu tg v pos
    | .AugAssign (.Name x px) op e _ => (match convTs cx [.Name x px], augOp op, convE n cx e with
      | some [i], some o, some m => some (.aug i o m)
      | _, _, _ => none)
    | .Expr e _ => cExp (convE n cx) cx mu e
    | .If c a b _ => if testOk c then (match convE n cx c, convSs n cx mu a, convSs n cx mu b with
      | some mc, some ma, some mb => some (fzS mu (varsE mc) (.ite mc ma mb))
      | _, _, _ => none) else none
    | .While c a [] _ => if testOk c then (match convE n cx c, convSs n cx mu a with
      | some mc, some ma => some (.whl mc ma)
      | _, _ => none) else none
    | .For tg it a [] _ => (match convTg cx tg, convSs n cx mu a with
      | some t, some ma => (match it with
        | .Name x _ => (match visI cx x with
          | some i => if cx.dks.contains i then some (fzS mu [i] (.loop t (.keys (.pk i)) ma)) else some (fzS mu [i] (.loop t (.seq (.pk i)) ma))
          | none => (convI (convE n cx) cx tg it).map fun mi => fzS mu (varsI mi) (.loop t mi ma))
        | _ => (convI (convE n cx) cx tg it).map fun mi => fzS mu (varsI mi ++ walkV mi) (.loop t mi ma))
      | _, _ => none)
    | .Pass _ => some .pass
    | .Break _ => some .brk
    | .Continue _ => some .cnt
    | _ => none
def convSs : Nat → Cc → List Nat → List Stmt → Option MSs
  | 0, _, _, _ => none
  | n + 1, cx, mu, sts => match sts with
    | [] => some .nil
    | st :: r => (match convS n cx mu st, convSs n cx mu r with
      | some m, some ms => some (.cons m ms)
      | _, _ => none)
end
end Rf
/-! Reflection layer, part 25: a def's names, a def as a whole. -/
namespace Rf
open PySem PySem.Spec PyProof.Rows L2
/-- the names of comprehensions' blocks within -/
def ownsE : Nat → Expr → List Str
  | 0, _ => []
  | n + 1, e => match e with
    | .Tuple es _ _ => es.flatMap (ownsE n)
    | .List es _ => es.flatMap (ownsE n)
    | .BinOp a _ b _ => ownsE n a ++ ownsE n b
    | .UnaryOp _ a _ => ownsE n a
    | .BoolOp _ es _ => es.flatMap (ownsE n)
    | .IfExp a b c _ => ownsE n a ++ ownsE n b ++ ownsE n c
    | .Compare a _ es _ => ownsE n a ++ es.flatMap (ownsE n)
    | .Subscript a b _ => ownsE n a ++ ownsE n b
    | .Slice a b _ _ => (a.map (ownsE n)).getD [] ++ (b.map (ownsE n)).getD []
    | .Call g as ks _ => ownsE n g ++ as.flatMap (ownsE n) ++ ks.flatMap fun k => ownsE n k.value
    | .Attribute a _ _ => ownsE n a
    | .ListComp e gs scope _ => (scope.names.filterMap fun (x, k) => if (k = .local ∨ k = .cell) ∧ x ≠ (".0" : Str) then some x else none) ++ ownsE n e ++ gs.flatMap fun g => ownsE n g.iter ++ g.ifs.flatMap (ownsE n)
    | _ => []
mutual
def ownsS : Nat → Stmt → List Str
  | 0, _ => []
  | n + 1, st => match st with
    | .Return (some e) _ => ownsE n e
    | .Assign ts e _ => ts.flatMap (ownsE n) ++ ownsE n e
    | .AugAssign t _ e _ => ownsE n t ++ ownsE n e
    | .Expr e _ => ownsE n e
    | .If c a b _ => ownsE n c ++ ownsSs n a ++ ownsSs n b
    | .While c a b _ => ownsE n c ++ ownsSs n a ++ ownsSs n b
    | .For _ it a b _ => ownsE n it ++ ownsSs n a ++ ownsSs n b
    | _ => []
def ownsSs : Nat → List Stmt → List Str
  | 0, _ => []
  | n + 1, sts => match sts with
    | [] => []
    | st :: r => ownsS n st ++ ownsSs n r
end
/-- the names whose containers are changed in place -/
def muE : Nat → Expr → List Str
  | 0, _ => []
  | n + 1, e => match e with
    | .Call (.Attribute (.Name x _) m _) as _ _ => (if m = ("append" : Str) ∨ m = ("pop" : Str) then [x] else []) ++ as.flatMap (muE n)
    | _ => []
mutual
def muS : Nat → Stmt → List Str
  | 0, _ => []
  | n + 1, st => match st with
    | .Assign [.Subscript (.Name x _) _ _] _ _ => [x]
    | .Expr e _ => muE n e
    | .If _ a b _ => muSs n a ++ muSs n b
    | .While _ a b _ => muSs n a ++ muSs n b
    | .For _ _ a b _ => muSs n a ++ muSs n b
    | _ => []
def muSs : Nat → List Stmt → List Str
  | 0, _ => []
  | n + 1, sts => match sts with
    | [] => []
    | st :: r => muS n st ++ muSs n r
end
/-- names added once -/
def addN : List Str → List Str → List Str
  | acc, [] => acc
  | acc, x :: xs => if acc.contains x then addN acc xs else addN (acc ++ [x]) xs
/-- what the reader of a def is told besides its tree -/
structure Hint where
  dts : List Str := []
  dks : List Str := []
structure PyFn where
  name : Str
  ps : List Str
  scope : Scope
  body : List Stmt
def namesOf (d : PyFn) : List Str := addN (addN d.ps (d.scope.names.filterMap fun (x, k) => if k = .local ∨ k = .cell then some x else none)) (ownsSs 200 d.body)
structure Mod' where
  fns : List (Str × Nat × List Str)
  kws : List (Str × List Str × List Nat)
  tkn : Option Str
  glb : List Str
def cxFor (m : Mod') (d : PyFn) (h : Hint) : Cc where
  sc := d.scope
  N := namesOf d
  fns := m.fns
  kws := m.kws
  tkn := m.tkn
  glb := m.glb
  dts := h.dts.filterMap (idxN (namesOf d))
  dks := h.dks.filterMap (idxN (namesOf d))
  fn := fun _ => true
def noDoc (b : List Stmt) : List Stmt := match b with
  | st :: r => if isDoc st then r else st :: r
  | [] => []
def convFn (m : Mod') (d : PyFn) (h : Hint) : Option MFn :=
  let cx := cxFor m d h
  (convSs 200 cx ((muSs 200 d.body).filterMap (idxN cx.N)) (noDoc d.body)).map fun b => ⟨d.ps.length, cx.N.length, b⟩
def pyFn : Stmt → Option PyFn
  | .FunctionDef name args body _ _ _ scope _ _ _ => some ⟨name, args.args.map (·.arg), scope, body⟩
  | _ => none
end Rf
/-! Reflection layer, part 26: the translation is right, expressions. -/
namespace Rf
open PySem PySem.Spec PyProof.Rows L2
def bnames : List Str := ["len", "isinstance", "int", "bool", "str", "tuple", "list", "dict", "all", "any", "sum", "min", "max", "abs", "range", "enumerate", "repr"]
/-- a place that the translation may be used at -/
structure XOk (w : Wld) (X : Cx) (XE : Er → Value → Option Addr → Hp → Prop) (F : Fs w) (k : Nat) (cx : Cc) : Prop where
  sc : X.env.scope = cx.sc
  N : X.N = cx.N
  nd : X.N.Nodup
  kind : X.env.scope.kind = .function
  calm : X.calm = true
  gd : X.A.guards = some []
  rm : Room k X.A
  fn : X.fn = cx.fn
  bl : ∀ x ∈ bnames, cx.fns.lookup x = none → X.mg x = none
  fns : ∀ x i ps, cx.fns.lookup x = some (i, ps) → ∃ c : Cal w X XE k (F i) x, c.ps = ps ∧ ∀ q ∈ cx.kws, q.1 = x → KBd X.K c.fd c.ps q.2.1 (gVal q.2.2 .none) (gVal q.2.2 .non)
  tkn : ∀ x, cx.tkn = some x → ∃ f fd ps, FnG X.prog X.w X.K X.mg X.base (L2.CX X.prog X.w) k f fd ps (spTake w) ∧ X.mg x = some (.ref f) ∧ PySem.W.keepIn X.K (.ref f) = true ∧ Binds X.K fd ps []
  glb : cx.glb = []
section
variable {w : Wld} {X : Cx} {XE : Er → Value → Option Addr → Hp → Prop} {W : WX} {F : Fs w} {k : Nat} {cx : Cc}
structure Snd (w : Wld) (X : Cx) (XE : Er → Value → Option Addr → Hp → Prop) (W : WX) (F : Fs w) (e : Expr) (m : ME) : Prop where
  pe : PE X e (RE w X XE W (denE F m))
  pt : testOk e = true → PT X e (RT w X XE W (denT F m))
  pw : (∃ op es p, e = .BoolOp op es p) → testOk e = true → PW X e (RT w X XE W (denT F m))
  pf : isFresh m = true → PE X e (RF w X XE W (denE F m))
theorem XOk.hu (ok : XOk w X XE F k cx) : X.A.units + 65 < cLine := by have := ok.rm.un; omega
theorem idxN_ok : ∀ {N : List Str} {x : Str} {i : Nat}, idxN N x = some i → N[i]? = some x
  | [], _, _, h => by simp [idxN] at h
  | y :: ys, x, i, h => by
    unfold idxN at h
    split at h
    · next e => cases h; simp [e]
    · cases hi : idxN ys x with
      | none => rw [hi] at h; cases h
      | some j => rw [hi] at h; cases h; simpa using idxN_ok hi
structure VisOk (X : Cx) (x : Str) (i : Nat) : Prop where
  n : X.N[i]? = some x
  v : Vis X.env.scope x
  d : (x == ("__debug__" : Str)) = false
  c : (x == ("__classdict__" : Str)) = false
theorem visI_ok (ok : XOk w X XE F k cx) {x : Str} {i : Nat} (h : visI cx x = some i) : VisOk X x i := by
  unfold visI at h
  split at h
  · next c =>
    simp only [Bool.and_eq_true, Bool.not_eq_true'] at c
    refine ⟨by rw [ok.N]; exact idxN_ok h, ?_, c.1.2, c.2⟩
    have v := c.1.1
    unfold vis at v
    simp only [Bool.or_eq_true, decide_eq_true_eq] at v
    rw [ok.sc]
    rcases v with (v | v) | v
    · exact .inl v
    · exact .inr (.inl v)
    · exact .inr (.inr v)
  · cases h
structure GlOk (X : Cx) (x : Str) : Prop where
  g : Gl X x
  d : (x == ("__debug__" : Str)) = false
  n : x ≠ "__name__"
theorem isGl_ok (ok : XOk w X XE F k cx) {x : Str} (h : isGl cx x = true) : GlOk X x := by
  unfold isGl at h
  simp only [Bool.and_eq_true, Bool.not_eq_true', decide_eq_true_eq] at h
  refine ⟨?_, h.1.2, fun e => ?_⟩
  · show X.env.scope.names.lookup x = _
    rw [ok.sc]; exact h.1.1
  · have := h.2
    rw [e] at this
    exact absurd this (by decide)
theorem snd_plain {e : Expr} {m : ME} (h : PE X e (RE w X XE W (denE F m))) (p : plainTest e = true) (nb : ∀ op es p, e ≠ .BoolOp op es p) (nf : isFresh m = false) : Snd w X XE W F e m :=
  ⟨h, fun _ => s_test p h, fun ⟨op, es, q, z⟩ => absurd z (nb op es q), fun z => by rw [nf] at z; cases z⟩
theorem snd_fresh {e : Expr} {m : ME} (h : PE X e (RF w X XE W (denE F m))) (p : plainTest e = true) (nb : ∀ op es p, e ≠ .BoolOp op es p) : Snd w X XE W F e m :=
  ⟨h.fresh, fun _ => s_test p h.fresh, fun ⟨op, es, q, z⟩ => absurd z (nb op es q), fun _ => h⟩
/-! ### lists of expressions -/
section
variable {f : Expr → Option ME} (ok : XOk w X XE F k cx) (hf : ∀ e m, f e = some m → Snd w X XE W F e m)
include ok hf
theorem snd_V {e : Expr} {m : MV} (h : convV f cx e = some m) : PE X e (RV w X XE W (denV F m)) := by
  have gen : ∀ {e : Expr} {m : MV}, (f e).map MV.e = some m → PE X e (RV w X XE W (denV F m)) := fun {e m} h => by
    cases hm : f e with
    | none => rw [hm] at h; cases h
    | some m' => rw [hm] at h; cases h; exact s_e (hf _ _ hm).pe
  unfold convV at h
  split at h
  · split at h
    · next i hi =>
      cases h
      have v := visI_ok ok hi
      exact s_pk v.n v.v v.d v.c
    · exact gen h
  · exact gen h
theorem snd_Es : ∀ {es : List Expr} {ms : MEs}, convEs f es = some ms → PA X es (REs w X XE W (denEs F ms)) ∧ es.all notStar = true
  | [], ms, h => by
    simp only [convEs, Option.some.injEq] at h
    subst h
    exact ⟨s_nil, rfl⟩
  | e :: es, ms, h => by
    unfold convEs at h
    split at h
    · next ns =>
      split at h
      · next m ms' h1 h2 =>
        cases h
        obtain ⟨r1, r2⟩ := snd_Es h2
        exact ⟨s_cons (hf _ _ h1).pe r1 (star_cons ns), by rw [List.all_cons, ns, r2]; rfl⟩
      · cases h
    · cases h
theorem snd_Vs : ∀ {es : List Expr} {ms : MVs}, convVs f cx es = some ms → PA X es (RVs w X XE W (denVs F ms)) ∧ es.all notStar = true
  | [], ms, h => by
    simp only [convVs, Option.some.injEq] at h
    subst h
    exact ⟨sv_nil, rfl⟩
  | e :: es, ms, h => by
    unfold convVs at h
    split at h
    · next ns =>
      split at h
      · next m ms' h1 h2 =>
        cases h
        obtain ⟨r1, r2⟩ := snd_Vs h2
        exact ⟨sv_cons (snd_V ok hf h1) r1 (star_cons ns), by rw [List.all_cons, ns, r2]; rfl⟩
      · cases h
    · cases h
theorem snd_A {e : Expr} {m : MA} (h : convA f cx e = some m) : PE X e (RA w X XE W (denA F m)) := by
  have gen : ∀ {e : Expr} {m : MA}, (f e).map MA.val = some m → PE X e (RA w X XE W (denA F m)) := fun {e m} h => by
    cases hm : f e with
    | none => rw [hm] at h; cases h
    | some m' => rw [hm] at h; cases h; exact sa_val (hf _ _ hm).pe
  unfold convA at h
  split at h
  · split at h
    · next i hi =>
      cases h
      have v := visI_ok ok hi
      exact sa_lend v.n v.v v.d v.c
    · exact gen h
  · exact gen h
theorem snd_As : ∀ {es : List Expr} {ms : MAs}, convAs f cx es = some ms → PA X es (RAs w X XE W (denAs F ms)) ∧ es.all notStar = true
  | [], ms, h => by
    simp only [convAs, Option.some.injEq] at h
    subst h
    exact ⟨sa_nil, rfl⟩
  | e :: es, ms, h => by
    unfold convAs at h
    split at h
    · next ns =>
      split at h
      · next m ms' h1 h2 =>
        cases h
        obtain ⟨r1, r2⟩ := snd_As h2
        exact ⟨sa_cons (snd_A ok hf h1) r1 (star_cons ns), by rw [List.all_cons, ns, r2]; rfl⟩
      · cases h
    · cases h
theorem snd_Ks : ∀ {ks : List Keyword} {ms : MAs}, convKs f cx ks = some ms → PK X ks (RAs w X XE W (denAs F ms)) ∧ ks.all (fun q => q.arg.isSome) = true
  | [], ms, h => by
    simp only [convKs, Option.some.injEq] at h
    subst h
    exact ⟨sk_nil, rfl⟩
  | ⟨none, e, p⟩ :: ks, ms, h => by simp [convKs] at h
  | ⟨some x, e, p⟩ :: ks, ms, h => by
    unfold convKs at h
    split at h
    · next m ms' h1 h2 =>
      cases h
      obtain ⟨r1, r2⟩ := snd_Ks h2
      exact ⟨sk_cons (snd_A ok hf h1) r1, by rw [List.all_cons, r2]; rfl⟩
    · cases h
theorem snd_O {e : Option Expr} {m : MO} (h : convO f e = some m) : PO X e (RO w X XE W (denO F m)) := by
  unfold convO at h
  split at h
  · cases h; exact s_no
  · next e =>
    cases hm : f e with
    | none => rw [hm] at h; cases h
    | some m' => rw [hm] at h; cases h; exact s_yes (hf _ _ hm).pe
theorem snd_R {e : Expr} {l h : ME} (hh : convR f cx e = some (l, h)) : PE X e (tRg (RE w X XE W (denE F l)) (RE w X XE W (denE F h))) ∧ ∀ op, behindInMarks op e = false := by
  have hb : ∀ x : Str, x = ("range" : Str) → cx.fns.lookup x = none → X.mg x = none := fun x hx hn => ok.bl x (by subst hx; decide) hn
  have hv : ∀ x : Str, x = ("range" : Str) → bootBuiltins x = some (.type "range") := fun x hx => by subst hx; exact boot_range
  unfold convR at hh
  split at hh
  · next x p c q =>
    split at hh
    · next cc =>
      cases hm : f c with
      | none => rw [hm] at hh; cases hh
      | some m' =>
        rw [hm] at hh
        cases hh
        have g := isGl_ok ok cc.2.1
        exact ⟨pe_rg1 g.g (hb _ cc.1 cc.2.2.1) (hv _ cc.1) (hf _ _ hm).pe g.n g.d (star_cons cc.2.2.2) rfl, fun _ => rfl⟩
    · cases hh
  · next x p b c q =>
    split at hh
    · next cc =>
      split at hh
      · next m m' h1 h2 =>
        cases hh
        have g := isGl_ok ok cc.2.1
        exact ⟨pe_rg2 g.g (hb _ cc.1 cc.2.2.1) (hv _ cc.1) (hf _ _ h1).pe (hf _ _ h2).pe g.n g.d (star_cons cc.2.2.2.1) (star_cons cc.2.2.2.2) (star_any (es := [c]) (by rw [List.all_cons, cc.2.2.2.2]; rfl)), fun _ => rfl⟩
      · cases hh
    · cases hh
  · cases hh
end
/-! ### one form after another -/
theorem bop_ok {op : Operator} {o : Op} (h : bop op = some o) : binOf o = some op := by
  cases op <;> first | cases h; done | (cases h; rfl)
theorem cop_ok {op : CmpOp} {o : Op} (h : cop op = some o) : cmpOf o = some op := by
  cases op <;> first | cases h; done | (cases h; rfl)
theorem snd_name (ok : XOk w X XE F k cx) {x : Str} {p : Pos} {m : ME} (h : cName cx x = some m) : Snd w X XE W F (.Name x p) m := by
  unfold cName at h
  split at h
  · next i hi =>
    cases h
    have v := visI_ok ok hi
    exact snd_plain (s_var v.n v.v v.d v.c) rfl (fun _ _ _ z => by cases z) rfl
  · rw [ok.glb] at h
    simp at h
theorem snd_cst {c : Const} {j : Nat} {p : Pos} {m : ME} (h : (cstOf c).map ME.cst = some m) : Snd w X XE W F (.Constant c j p) m := by
  cases c with
  | none => cases h; exact snd_plain (s_cst pe_non fun _ => .non) rfl (fun _ _ _ z => by cases z) rfl
  | bool b => cases h; exact snd_plain (s_cst pe_bl fun _ => .bl _) rfl (fun _ _ _ z => by cases z) rfl
  | int i => cases h; exact snd_plain (s_cst pe_int fun _ => .int _) rfl (fun _ _ _ z => by cases z) rfl
  | str x => cases h; exact snd_plain (s_cst pe_str fun _ => .str _) rfl (fun _ _ _ z => by cases z) rfl
  | _ => cases h
section
variable {f : Expr → Option ME} (ok : XOk w X XE F k cx) (hf : ∀ e m, f e = some m → Snd w X XE W F e m)
include ok hf
theorem snd_cmpM {a : Expr} {ops : List CmpOp} {bs : List Expr} {p : Pos} {m : ME} (h1 : PE X (.Compare a ops bs p) (RE w X XE W (denE F m))) (h2 : PT X (.Compare a ops bs p) (RT w X XE W (denT F m))) (h3 : isFresh m = false) : Snd w X XE W F (.Compare a ops bs p) m :=
  ⟨h1, fun _ => h2, fun ⟨_, _, _, z⟩ => (by cases z), fun z => by rw [h3] at z; cases z⟩
theorem snd_cmp1 {a : Expr} {op : CmpOp} {b : Expr} {p : Pos} {m : ME} (h : cCmp1 f cx a op b = some m) : Snd w X XE W F (.Compare a [op] [b] p) m := by
  unfold cCmp1 at h
  split at h
  · next l hh hr =>
    obtain ⟨r1, r2⟩ := snd_R ok hf hr
    cases hm : f a with
    | none => rw [hm] at h; split at h <;> first | cases h; done | (split at h <;> cases h)
    | some m' =>
      rw [hm] at h
      split at h
      · next e => subst e; cases h; exact snd_cmpM ok hf (s_inRG (neg := false) (hf _ _ hm).pe r1 (r2 _)) (s_inRGT (neg := false) (hf _ _ hm).pe r1 (r2 _)) rfl
      · split at h
        · next e => subst e; cases h; exact snd_cmpM ok hf (s_inRG (neg := true) (hf _ _ hm).pe r1 (r2 _)) (s_inRGT (neg := true) (hf _ _ hm).pe r1 (r2 _)) rfl
        · cases h
  · split at h
    · cases h
    · next hbm =>
      split at h
      · next o ma mb h1 h2 h3 =>
        cases h
        have hbm : behindInMarks op b = false := by simpa using hbm
        exact snd_cmpM ok hf (s_cmp (cop_ok h1) ok.hu (snd_V ok hf h2) (snd_V ok hf h3) hbm) (s_cmpT (cop_ok h1) ok.hu (snd_V ok hf h2) (snd_V ok hf h3) hbm) rfl
      · cases h
theorem snd_cmp {a : Expr} {ops : List CmpOp} {bs : List Expr} {p : Pos} {m : ME} (h : cCmp f cx a ops bs = some m) : Snd w X XE W F (.Compare a ops bs p) m := by
  unfold cCmp at h
  split at h
  · exact snd_cmp1 ok hf h
  · next op op' b c =>
    unfold cCmp2 at h
    split at h
    · cases h
    · next hbm =>
      split at h
      · next o o' ma mb mc h1 h1' h2 h3 h4 =>
        cases h
        have hbm : lastMarks [op, op'] [b, c] = false := by simpa using hbm
        exact snd_cmpM ok hf (s_chain (cop_ok h1) (cop_ok h1') ok.hu (snd_V ok hf h2) (snd_V ok hf h3) (snd_V ok hf h4) hbm) (s_chainT (cop_ok h1) (cop_ok h1') ok.hu (snd_V ok hf h2) (snd_V ok hf h3) (snd_V ok hf h4) hbm) rfl
      · cases h
  · cases h
theorem snd_sub {a b : Expr} {p : Pos} {m : ME} (h : cSub f cx a b = some m) : Snd w X XE W F (.Subscript a b p) m := by
  unfold cSub at h
  split at h
  · next ns =>
    split at h
    · next ma mb h1 h2 =>
      cases h
      exact snd_plain (s_sub (by have := ok.hu; omega) (snd_V ok hf h1) (hf _ _ h2).pe (sub_plain ns)) rfl (fun _ _ _ z => by cases z) rfl
    · cases h
  · split at h
    · next lo hi q _ =>
      split at h
      · next ma ml mh h1 h2 h3 =>
        cases h
        exact snd_plain (s_slc (snd_V ok hf h1) (snd_O ok hf h2) (snd_O ok hf h3)) rfl (fun _ _ _ z => by cases z) rfl
      · cases h
    · cases hm : convV f cx a with
      | none => rw [hm] at h; cases h
      | some ma => rw [hm] at h; cases h; exact snd_plain (s_rev (snd_V ok hf hm)) rfl (fun _ _ _ z => by cases z) rfl
    · cases h
end
end
end Rf
/-! Reflection layer, part 27: the translation is right, calls. -/
namespace Rf
open PySem PySem.Spec PyProof.Rows L2
theorem boots : bootBuiltins "len" = some (.builtin "len") ∧ bootBuiltins "all" = some (.builtin "all") ∧ bootBuiltins "any" = some (.builtin "any") ∧ bootBuiltins "sum" = some (.builtin "sum") ∧ bootBuiltins "min" = some (.builtin "min") ∧ bootBuiltins "max" = some (.builtin "max") ∧
    bootBuiltins "abs" = some (.builtin "abs") ∧ bootBuiltins "repr" = some (.builtin "repr") ∧ bootBuiltins "isinstance" = some (.builtin "isinstance") ∧ bootBuiltins "int" = some (.type "int") ∧ bootBuiltins "bool" = some (.type "bool") ∧ bootBuiltins "str" = some (.type "str") ∧
    bootBuiltins "tuple" = some (.type "tuple") ∧ bootBuiltins "list" = some (.type "list") ∧ bootBuiltins "dict" = some (.type "dict") := by decide +kernel
theorem tyOf_ok {x : Str} {t : Ty} (h : tyOf x = some t) : x = t.nm := by
  have := List.find?_some h
  exact (of_decide_eq_true this).symm
theorem biOf_ok {x : Str} {b : Bi} (h : biOf x = some b) : x = b.nm ∧ ∀ t, b ≠ .isi t := by
  have h1 := List.find?_some h
  have h2 := List.mem_of_find?_eq_some h
  refine ⟨(of_decide_eq_true h1).symm, fun t e => ?_⟩
  subst e
  simp at h2
theorem ty_boot (t : Ty) : t.nm ∈ bnames ∧ bootBuiltins t.nm = some (.type t.name) := by
  obtain ⟨b1, b2, b3, b4, b5, b6, b7, b8, b9, b10, b11, b12, b13, b14, b15⟩ := boots
  cases t
  · exact ⟨by decide, b10⟩
  · exact ⟨by decide, b11⟩
  · exact ⟨by decide, b12⟩
  · exact ⟨by decide, b13⟩
  · exact ⟨by decide, b14⟩
  · exact ⟨by decide, b15⟩
theorem bi_mem (b : Bi) : b.nm ∈ bnames := by
  cases b with
  | isi t => exact (by decide : ("isinstance" : Str) ∈ bnames)
  | _ => decide
section
variable {w : Wld} {X : Cx} {XE : Er → Value → Option Addr → Hp → Prop} {W : WX} {F : Fs w} {k : Nat} {cx : Cc}
section
variable {f : Expr → Option ME} (ok : XOk w X XE F k cx) (hf : ∀ e m, f e = some m → Snd w X XE W F e m)
include ok hf
theorem snd_bi {x : Str} {as : List Expr} {p pos : Pos} {m : ME} (g : GlOk X x) (hfn : cx.fns.lookup x = none) (h : cBi f cx x as = some m) : Snd w X XE W F (.Call (.Name x p) as [] pos) m := by
  have mg : ∀ y, y ∈ bnames → cx.fns.lookup y = none → X.mg y = none := ok.bl
  have nb : ∀ op es q, (Expr.Call (.Name x p) as [] pos) ≠ .BoolOp op es q := fun _ _ _ z => by cases z
  obtain ⟨b1, b2, b3, b4, b5, b6, b7, b8, b9, b10, b11, b12, b13, b14, b15⟩ := boots
  unfold cBi at h
  split at h
  · next hx =>
    split at h
    · next a y yp =>
      split at h
      · next cc =>
        simp only [Bool.and_eq_true, Option.isNone_iff_eq_none] at cc
        split at h
        · next ma t h1 h2 =>
          cases h
          have g2 := isGl_ok ok cc.1.2
          have ey := tyOf_ok h2
          have hy := ty_boot t
          rw [← ey] at hy
          subst hx
          exact snd_plain (s_isi g.g (mg _ (by decide) hfn) b9 g2.g (mg _ hy.1 cc.2) hy.2 (snd_V ok hf h1) g.n g.d g2.n g2.d (star_cons cc.1.1) rfl) rfl nb rfl
        · cases h
      · cases h
    · cases h
  · split at h
    · next b hb =>
      split at h
      · next hn =>
        cases hm : convVs f cx as with
        | none => rw [hm] at h; cases h
        | some ms =>
          rw [hm] at h
          cases h
          obtain ⟨pa, ns⟩ := snd_Vs ok hf hm
          obtain ⟨ex, nisi⟩ := biOf_ok hb
          have mgx : X.mg x = none := by rw [ex] at hfn ⊢; exact mg _ (bi_mem b) hfn
          match as, hm, ns, pa, hn with
          | [], hm, ns, pa, hn => cases b <;> cases hn
          | a :: es, hm, ns, pa, hn =>
            rw [List.all_cons, Bool.and_eq_true] at ns
            have he := star_cons (es := es) (env := X.env) ns.1
            have hpl := star_any (pos := pos) (env := X.env) ns.2
            cases b with
            | isi t => exact absurd rfl (nisi t)
            | len => exact snd_plain (s_biB ok_len call_lenA g.g mgx (by rw [ex]; exact b1) pa g.n g.d he hpl) rfl nb rfl
            | all => exact snd_plain (s_biB ok_all (cr_all ok.calm) g.g mgx (by rw [ex]; exact b2) pa g.n g.d he hpl) rfl nb rfl
            | any => exact snd_plain (s_biB ok_any (cr_any ok.calm) g.g mgx (by rw [ex]; exact b3) pa g.n g.d he hpl) rfl nb rfl
            | sum => exact snd_plain (s_biB ok_sum (cr_sum ok.calm) g.g mgx (by rw [ex]; exact b4) pa g.n g.d he hpl) rfl nb rfl
            | min => exact snd_plain (s_biB ok_min (call_min2 ok.calm) g.g mgx (by rw [ex]; exact b5) pa g.n g.d he hpl) rfl nb rfl
            | max => exact snd_plain (s_biB ok_max (call_max2 ok.calm) g.g mgx (by rw [ex]; exact b6) pa g.n g.d he hpl) rfl nb rfl
            | abs => exact snd_plain (s_biB ok_abs call_abs g.g mgx (by rw [ex]; exact b7) pa g.n g.d he hpl) rfl nb rfl
            | repr => exact snd_plain (s_biB ok_repr (call_repr ok.gd ok.hu) g.g mgx (by rw [ex]; exact b8) pa g.n g.d he hpl) rfl nb rfl
            | int => exact snd_plain (s_biT ok_int call_int1 g.g mgx (by rw [ex]; exact b10) pa g.n g.d he hpl) rfl nb rfl
            | tupOf => exact snd_plain (s_biT ok_tupOf call_tuple_of g.g mgx (by rw [ex]; exact b13) pa g.n g.d he hpl) rfl nb rfl
            | listOf =>
              match es, hn, ms, hm, he, hpl, pa with
              | [], _, .cons m .nil, hm, he, hpl, pa => exact snd_fresh (s_listOf g.g mgx (by rw [ex]; exact b14) pa g.n g.d he hpl) rfl nb
              | [], _, .nil, hm, _, _, _ => unfold convVs at hm; split at hm <;> first | cases hm; done | (split at hm <;> cases hm)
              | [], _, .cons m (.cons _ _), hm, _, _, _ => unfold convVs at hm; split at hm <;> first | cases hm; done | (split at hm <;> first | cases hm; done | (next q _ h2 => simp [convVs] at h2; subst h2; cases hm))
            | dictOf =>
              match es, hn, ms, hm, he, hpl, pa with
              | [], _, .cons m .nil, hm, he, hpl, pa => exact snd_fresh (s_dictOf g.g mgx (by rw [ex]; exact b15) pa g.n g.d he hpl) rfl nb
              | [], _, .nil, hm, _, _, _ => unfold convVs at hm; split at hm <;> first | cases hm; done | (split at hm <;> cases hm)
              | [], _, .cons m (.cons _ _), hm, _, _, _ => unfold convVs at hm; split at hm <;> first | cases hm; done | (split at hm <;> first | cases hm; done | (next q _ h2 => simp [convVs] at h2; subst h2; cases hm))
      · cases h
    · cases h
end
end
end Rf
/-! Reflection layer, part 28: the translation is right, defs' calls and comprehensions. -/
namespace Rf
open PySem PySem.Spec PyProof.Rows L2
theorem kw_names {pos : Pos} {env : Env} : ∀ {ks : List Keyword}, (backToKw pos (keywordEach ks env)).map (·.1) = ks.map (·.arg)
  | [] => rfl
  | ⟨n, v, p⟩ :: ks => by
    have := kw_names (pos := pos) (env := env) (ks := ks)
    show n :: _ = n :: _
    rw [← this]; rfl
section
variable {w : Wld} {X : Cx} {XE : Er → Value → Option Addr → Hp → Prop} {W : WX} {F : Fs w} {k : Nat} {cx : Cc}
theorem denAs_len {f : Expr → Option ME} {cx : Cc} : ∀ {ks : List Keyword} {ms : MAs}, convKs f cx ks = some ms → ∀ {e : En} {s s' : w.T} {as : List Arg}, denAs F ms e s = .ok as s' → as.length = ks.length
  | [], ms, h, e, s, s', as, q => by
    simp only [convKs, Option.some.injEq] at h
    subst h
    rw [denAs_nil] at q
    cases q; rfl
  | ⟨none, v, p⟩ :: ks, ms, h, _, _, _, _, _ => by simp [convKs] at h
  | ⟨some x, v, p⟩ :: ks, ms, h, e, s, s', as, q => by
    unfold convKs at h
    split at h
    · next m ms' h1 h2 =>
      cases h
      rw [denAs_cons] at q
      obtain ⟨y, s1, _, q⟩ := bind_okI q
      obtain ⟨ys, s2, q2, q⟩ := bind_okI q
      cases q
      rw [List.length_cons, List.length_cons, denAs_len h2 q2]
    · cases h
section
variable {f : Expr → Option ME} (ok : XOk w X XE F k cx) (tk : Takes X W) (hf : ∀ e m, f e = some m → Snd w X XE W F e m)
include ok tk hf
theorem snd_call {g : Expr} {as : List Expr} {ks : List Keyword} {pos : Pos} {m : ME} (h : cCall f cx g as ks = some m) : Snd w X XE W F (.Call g as ks pos) m := by
  have nb : ∀ op es q, (Expr.Call g as ks pos) ≠ .BoolOp op es q := fun _ _ _ z => by cases z
  unfold cCall at h
  split at h
  · next x xp =>
    split at h
    · next hgl =>
      have g := isGl_ok ok hgl
      split at h
      · next i ps hfn =>
        obtain ⟨c, hc, hkw⟩ := ok.fns x i ps hfn
        split at h
        · -- positional arguments
          cases hm : convAs f cx as with
          | none => rw [hm] at h; cases h
          | some ms =>
            rw [hm] at h
            cases h
            obtain ⟨pa, ns⟩ := snd_As ok hf hm
            cases as with
            | nil =>
              simp only [convAs, Option.some.injEq] at hm
              subst hm
              exact snd_plain (s_call0 c tk ok.gd ok.rm g.g g.d) rfl nb rfl
            | cons a es =>
              rw [List.all_cons, Bool.and_eq_true] at ns
              exact snd_plain (s_call c tk ok.gd ok.rm g.g pa g.d (star_cons ns.1) (star_any ns.2)) rfl nb rfl
        · next hne =>
          split at h
          · next has =>
            have has : as = [] := by simpa using has
            subst has
            split at h
            · next q1 q2 js ms hfind hks =>
              cases h
              have hmem := List.mem_of_find?_eq_some hfind
              have hp := List.find?_some hfind
              simp only [decide_eq_true_eq] at hp
              obtain ⟨e1, e2⟩ := hp
              subst e1
              obtain ⟨pk, nsome⟩ := snd_Ks ok hf hks
              have kn := kw_names (pos := pos) (env := X.env) (ks := ks)
              have fst : (backToKw pos (keywordEach ks X.env)).map (·.1) = q2.map some := kn.trans e2
              have kb := hkw _ hmem rfl
              refine snd_plain (s_callk c kb (fun {C e ad H H' vs as} z hh => ?_) tk ok.gd ok.rm g.g pk ?_ ?_ g.d ?_ (fun z => by subst z; exact hne rfl)) rfl nb rfl
              · obtain ⟨s, e, s', hq⟩ := hh
                have l1 := denAs_len hks hq
                have l2 := congrArg List.length e2
                rw [List.length_map, List.length_map] at l2
                rw [ArgsR.length z, l1, l2]
              · have : (backToKw pos (keywordEach ks X.env)).all (·.1.isSome) = ((backToKw pos (keywordEach ks X.env)).map (·.1)).all (·.isSome) := by rw [List.all_map]; rfl
                rw [this, fst]
                simp
              · have : (backToKw pos (keywordEach ks X.env)).filterMap (·.1) = ((backToKw pos (keywordEach ks X.env)).map (·.1)).filterMap id := by rw [List.filterMap_map]; rfl
                rw [this, fst]
                simp
              · have : (backToKw pos (keywordEach ks X.env)).any (·.1.isNone) = ((backToKw pos (keywordEach ks X.env)).map (·.1)).any (·.isNone) := by rw [List.any_map]; rfl
                rw [this, fst]
                simp
            · cases h
          · cases h
      · next hfn =>
        split at h
        · split at h
          · next hx =>
            split at h
            · next y yp a =>
              split at h
              · next ns =>
                split at h
                · next j m' h1 h2 =>
                  cases h
                  have v := visI_ok ok h1
                  obtain ⟨fa, fd, ps, fo, mg, kp, bd⟩ := ok.tkn _ hx
                  exact snd_plain (s_take fo mg kp bd tk ok.gd ok.rm g.g v.n v.v v.d v.c (hf _ _ h2).pe g.d rfl (star_cons ns) (star_any (es := [a]) (by rw [List.all_cons, ns]; rfl))) rfl nb rfl
                · cases h
              · cases h
            · cases h
          · exact snd_bi ok hf g hfn h
        · cases h
    · cases h
  · cases h
end
/-! ### targets, walks, tests -/
theorem snd_Ts (ok : XOk w X XE F k cx) : ∀ {es : List Expr} {is : List Nat}, convTs cx es = some is → PGs X es (rdGs w X.K is) ∧ PGs X es (gAll is) ∧ es.all notStar = true ∧ es.length = is.length ∧ ∀ i ∈ is, i < X.N.length
  | [], is, h => by
    simp only [convTs, Option.some.injEq] at h
    subst h
    exact ⟨gs_nil, gall_nil, rfl, rfl, fun i z => by cases z⟩
  | e :: es, is, h => by
    unfold convTs at h
    split at h
    · next hh => cases hh
    · next x p es' he =>
      cases he
      split at h
      · next i is' h1 h2 =>
        split at h
        · cases h
        · next nf =>
          split at h
          · next hfn =>
            cases h
            have v := visI_ok ok h1
            have loc : Loc X.env.scope x := by
              rcases v.v with z | z | z
              · exact .inl z
              · exact .inr z
              · rw [ok.sc] at z; exact absurd z (by simpa using nf)
            have fno : X.fn x = true ∨ X.env.scope.names.lookup x = some .local := by
              simp only [Bool.or_eq_true, decide_eq_true_eq] at hfn
              rw [ok.fn, ok.sc]; exact hfn
            obtain ⟨r1, r2, r3, r4, r5⟩ := snd_Ts ok h2
            refine ⟨gs_cons (g_one ok.nd v.n loc fno) r1 (asg_cons rfl), gall_cons (pg_name ok.nd v.n loc fno) r2 (asg_cons rfl), by rw [List.all_cons, r3]; rfl, by rw [List.length_cons, List.length_cons, r4], fun j hj => ?_⟩
            rcases List.mem_cons.mp hj with rfl | hj
            · exact (List.getElem?_eq_some_iff.mp v.n).1
            · exact r5 j hj
          · cases h
      · cases h
    · cases h
theorem snd_T1 (ok : XOk w X XE F k cx) {x : Str} {p : Pos} {i : Nat} (h : convTs cx [.Name x p] = some [i]) : VisOk X x i ∧ Loc X.env.scope x ∧ (X.fn x = true ∨ X.env.scope.names.lookup x = some .local) := by
  unfold convTs at h
  split at h
  · next i' is' h1 h2 =>
    split at h
    · cases h
    · next nf =>
      split at h
      · next hfn =>
        cases h
        have v := visI_ok ok h1
        refine ⟨v, ?_, ?_⟩
        · rcases v.v with z | z | z
          · exact .inl z
          · exact .inr z
          · rw [ok.sc] at z; exact absurd z (by simpa using nf)
        · simp only [Bool.or_eq_true, decide_eq_true_eq] at hfn
          rw [ok.fn, ok.sc]; exact hfn
      · cases h
  · cases h
theorem snd_Tg (ok : XOk w X XE F k cx) {e : Expr} {t : Tg} (h : convTg cx e = some t) : PG X e (rdG w X.K t) := by
  cases e with
  | Tuple es kk p =>
    simp only [convTg] at h
    cases hm : convTs cx es with
    | none => rw [hm] at h; cases h
    | some is =>
      rw [hm] at h
      cases h
      obtain ⟨r1, _, r3, r4, _⟩ := snd_Ts ok hm
      exact g_many (n := 0) ok.calm r1 (by rw [asg_len, r4]) (asg_none r3)
  | Name x p =>
    simp only [convTg] at h
    split at h
    · next i hm =>
      cases h
      obtain ⟨v, l, f⟩ := snd_T1 ok hm
      exact g_one ok.nd v.n l f
    · cases h
  | _ => cases h
theorem not_set {e : Expr} {env : Env} (h : isSet e = false) (x : Value) : foldedSetIterable e env x = pure x := by
  cases e <;> first | rfl | cases h
section
variable {f : Expr → Option ME} (ok : XOk w X XE F k cx) (hf : ∀ e m, f e = some m → Snd w X XE W F e m)
include ok hf
theorem snd_src {P : En → Prop} {e : Expr} {m : MV} (h : convV f cx e = some m) (hP : ∀ i, m = .pk i → ∀ en, P en → slotOk en i) : PE X e (RS w X XE W P (denV F m)) := by
  have gen : ∀ {e : Expr} {m : MV}, (f e).map MV.e = some m → PE X e (RS w X XE W P (denV F m)) := fun {e m} h => by
    cases hm : f e with
    | none => rw [hm] at h; cases h
    | some m' => rw [hm] at h; cases h; exact src_e (hf _ _ hm).pe
  unfold convV at h
  split at h
  · split at h
    · next i hi =>
      cases h
      have v := visI_ok ok hi
      exact src_pk (hP i rfl) v.n v.v v.d v.c
    · exact gen h
  · exact gen h
theorem snd_I {P : En → Prop} {tg e : Expr} {mi : MI} (h : convI f cx tg e = some mi) (hP : ∀ i, (mi = .seq (.pk i) ∨ mi = .enu (.pk i)) → ∀ en, P en → slotOk en i) : PI X tg e (rdI w X.K XE W P (denI F mi)) ∧ isSet e = false ∧ isKeys mi = false := by
  have hb : ∀ x : Str, x ∈ bnames → cx.fns.lookup x = none → X.mg x = none := ok.bl
  unfold convI at h
  split at h
  · next l hh hr =>
    cases h
    unfold convR at hr
    split at hr
    · next x p c q =>
      split at hr
      · next cc =>
        cases hm : f c with
        | none => rw [hm] at hr; cases hr
        | some m' =>
          rw [hm] at hr
          cases hr
          have g := isGl_ok ok cc.2.1
          exact ⟨i_rng1 cc.1 g.g (hb _ (by rw [cc.1]; decide) cc.2.2.1) (hf _ _ hm).pe (star_one cc.2.2.2), rfl, rfl⟩
      · cases hr
    · next x p b c q =>
      split at hr
      · next cc =>
        split at hr
        · next m m' h1 h2 =>
          cases hr
          have g := isGl_ok ok cc.2.1
          refine ⟨i_rng2 cc.1 g.g (hb _ (by rw [cc.1]; decide) cc.2.2.1) (hf _ _ h1).pe (hf _ _ h2).pe ?_ (star_one cc.2.2.2.2), rfl, rfl⟩
          rw [star_cons cc.2.2.2.1, star_one cc.2.2.2.2]
        · cases hr
      · cases hr
    · cases hr
  · split at h
    · next a ha =>
      unfold enuArg at ha
      split at ha
      · next x p a' q =>
        split at ha
        · next cc =>
          cases ha
          cases hm : convV f cx a with
          | none => rw [hm] at h; cases h
          | some mv =>
            rw [hm] at h
            cases h
            have g := isGl_ok ok cc.2.1
            obtain ⟨c1, c2, c3, c4, c5⟩ := cc
            cases tg with
            | Tuple es kk tp => exact ⟨i_enu c1 g.g (hb _ (by rw [c1]; decide) c3) (snd_src ok hf hm fun i e => hP i (.inr (by rw [e]))) (star_one c4), rfl, rfl⟩
            | _ => cases c5
        · cases ha
      · cases ha
    · split at h
      · cases h
      · next hns =>
        cases hm : convV f cx e with
        | none => rw [hm] at h; cases h
        | some mv =>
          rw [hm] at h
          cases h
          exact ⟨i_seq (snd_src ok hf hm fun i e => hP i (.inl (by rw [e]))), by simpa using hns, rfl⟩
theorem snd_C {ifs : List Expr} {c : MO} (h : convC f ifs = some c) : PTs X ifs (rd w X.K XE W ZB (denC F c)) := by
  unfold convC at h
  split at h
  · cases h
    refine ⟨fun pins s σ H Q I q => pts_nil.run pins s σ H Q I ?_⟩
    obtain ⟨C, e, ad, t, R, q⟩ := q
    rw [denC_no] at q
    exact q true H (.refl R) rfl
  · next c' =>
    split at h
    · next ht =>
      cases hm : f c' with
      | none => rw [hm] at h; cases h
      | some m =>
        rw [hm] at h
        cases h
        rw [denC_yes]
        exact pts_one ((hf _ _ hm).pt ht)
    · cases h
  · cases h
end
end
end Rf
/-! Reflection layer, part 29: the translation is right, all expressions. -/
namespace Rf
open PySem PySem.Spec PyProof.Rows L2
section
variable {w : Wld} {X : Cx} {XE : Er → Value → Option Addr → Hp → Prop} {W : WX} {F : Fs w} {k : Nat} {cx : Cc}
theorem XOk.blk (ok : XOk w X XE F k cx) {scope : Scope} {own : List (Str × Nat)} (b : BlkOk X.N X.env.scope scope own) (s : Shared) (H : Hp) (C : Addr) (cl : List (Str × Addr)) (fp : List Addr) : XOk w (X.blk s H scope (compEnvC scope cl C X.env) fp) XE F k (blkCx cx scope) where
  sc := by
    show relS scope X.env.scope = relS scope cx.sc
    rw [ok.sc]
  N := ok.N
  nd := ok.nd
  kind := b.kind
  calm := ok.calm
  gd := ok.gd
  rm := ok.rm
  fn := rfl
  bl := ok.bl
  fns := fun x i ps h => let ⟨c, hc, hk⟩ := ok.fns x i ps h; ⟨⟨c.f, c.fd, c.ps, c.mg, c.kp, c.bd, c.ok, c.ln⟩, hc, hk⟩
  tkn := ok.tkn
  glb := ok.glb
/-- a comprehension: as a value, and stored at a name -/
structure LcOk (w : Wld) (X : Cx) (XE : Er → Value → Option Addr → Hp → Prop) (W : WX) (F : Fs w) (elt : Expr) (gs : List Comprehension) (scope : Scope) (m : ME) : Prop where
  pe : ∀ pos, PE X (.ListComp elt gs scope pos) (RF w X XE W (denE F m))
  ps : ∀ pos i y py spos, X.N[i]? = some y → X.env.scope.names.lookup y = some .local → swapsWith (.ListComp elt gs scope pos) (some (.Name y py)) spos.line X.env = pure true → PS X (.Assign [.Name y py] (.ListComp elt gs scope pos) spos) (tAsg (RF w X XE W (denE F m)) (gName i))
theorem snd_lc {g : Cc → Expr → Option ME} (ok : XOk w X XE F k cx) (hf : ∀ {X' W' cx'}, XOk w X' XE F k cx' → Takes X' W' → ∀ e m, g cx' e = some m → Snd w X' XE W' F e m) (tk : Takes X W) {elt : Expr} {gs : List Comprehension} {scope : Scope} {m : ME} (h : cLc g cx elt gs scope = some m) : LcOk w X XE W F elt gs scope m := by
  unfold cLc at h
  split at h
  · next tg it ifs =>
    simp only at h
    split at h
    · next hblk =>
      rw [← ok.N, ← ok.sc] at hblk
      have b := blkOk_by hblk
      split at h
      · next t mi c m' h1 h2 h3 h4 =>
        split at h
        · next hs =>
          cases h
          obtain ⟨hi, ns, _⟩ := snd_I (P := fun _ => False) ok (hf ok tk) h2 (fun _ _ _ z => z.elim)
          have sub : ∀ j ∈ t.all, j ∈ (blkOwn cx.N scope).map (·.2) := by simpa using hs
          have bo := fun s H C cl fp => ok.blk b s H C cl fp
          rw [← ok.N] at sub ⊢
          refine ⟨fun pos => ?_, fun pos i y py spos hy hyl hsw => ?_⟩
          · exact (pe_lc ok.calm ok.nd hi b (fun s H C cl fp => snd_Tg (bo s H C cl fp) h1) (fun s H C cl fp => snd_C (bo s H C cl fp) (hf (bo s H C cl fp) takes0) h3) (fun s H C cl fp => (hf (bo s H C cl fp) takes0 _ _ h4).pe) (not_set ns)).imp fun σ H Q q => lc_read sub q
          · exact (ps_setLc ok.calm ok.nd hy hyl hsw hi b (fun s H C cl fp => snd_Tg (bo s H C cl fp) h1) (fun s H C cl fp => snd_C (bo s H C cl fp) (hf (bo s H C cl fp) takes0) h3) (fun s H C cl fp => (hf (bo s H C cl fp) takes0 _ _ h4).pe) (not_set ns)).imp fun D σ H q => lc_read sub q
        · cases h
      · cases h
    · cases h
  · next tg it ifs tg1 it1 ifs1 =>
    simp only at h
    split at h
    · next hblk =>
      rw [← ok.N, ← ok.sc] at hblk
      have b := blkOk_by hblk
      split at h
      · next t mi c t1 mi1 c1 m' h1 h2 h3 h1' h2' h3' h4 =>
        split at h
        · next hs =>
          cases h
          rw [Bool.and_eq_true] at hs
          obtain ⟨hi, ns, _⟩ := snd_I (P := fun _ => False) ok (hf ok tk) h2 (fun _ _ _ z => z.elim)
          have sub : ∀ j ∈ t.all, j ∈ (blkOwn cx.N scope).map (·.2) := by simpa using hs.1
          have sub1 : ∀ j ∈ t1.all, j ∈ (blkOwn cx.N scope).map (·.2) := by simpa using hs.2
          have bo := fun s H C cl fp => ok.blk b s H C cl fp
          rw [← ok.N] at sub sub1 ⊢
          have hi1 := fun s H C cl fp => snd_I (P := fun _ => False) (bo s H C cl fp) (hf (bo s H C cl fp) takes0) h2' (fun _ _ _ z => z.elim)
          have ns1 : isSet it1 = false := by
            unfold convI at h2'
            split at h2'
            · next l hh hr =>
              unfold convR at hr
              split at hr
              · rfl
              · rfl
              · cases hr
            · split at h2'
              · next a ha =>
                unfold enuArg at ha
                split at ha
                · rfl
                · cases ha
              · split at h2'
                · cases h2'
                · next q => simpa using q
          refine ⟨fun pos => ?_, fun pos i y py spos hy hyl hsw => ?_⟩
          · exact (pe_lc2 ok.calm ok.nd hi b sub1 (fun s H C cl fp => snd_Tg (bo s H C cl fp) h1) (fun s H C cl fp => snd_C (bo s H C cl fp) (hf (bo s H C cl fp) takes0) h3) (fun s H C cl fp => (hi1 s H C cl fp).1) (fun s H C cl fp => snd_Tg (bo s H C cl fp) h1') (fun s H C cl fp => snd_C (bo s H C cl fp) (hf (bo s H C cl fp) takes0) h3') (fun s H C cl fp => (hf (bo s H C cl fp) takes0 _ _ h4).pe) (not_set ns) (fun env x => not_set ns1 x)).imp fun σ H Q q => lc2_read sub (fun _ z => z) q
          · exact (ps_setLc2 ok.calm ok.nd hy hyl hsw hi b sub1 (fun s H C cl fp => snd_Tg (bo s H C cl fp) h1) (fun s H C cl fp => snd_C (bo s H C cl fp) (hf (bo s H C cl fp) takes0) h3) (fun s H C cl fp => (hi1 s H C cl fp).1) (fun s H C cl fp => snd_Tg (bo s H C cl fp) h1') (fun s H C cl fp => snd_C (bo s H C cl fp) (hf (bo s H C cl fp) takes0) h3') (fun s H C cl fp => (hf (bo s H C cl fp) takes0 _ _ h4).pe) (not_set ns) (fun env x => not_set ns1 x)).imp fun D σ H q => lc2_read sub (fun _ z => z) q
        · cases h
      · cases h
    · cases h
  · cases h
theorem testOk_bool {op : BoolOp} {es : List Expr} {p : Pos} (h : testOk (.BoolOp op es p) = true) : ∀ e ∈ es, testOkN 11 e = true := by
  have : es.all (testOkN 11) = true := h
  simpa using this
theorem testOkN_up : ∀ {n : Nat} {e : Expr}, testOkN n e = true → testOkN (n + 1) e = true
  | 0, _, h => by cases h
  | n + 1, e, h => by
    unfold testOkN at h ⊢
    split at h
    · exact testOkN_up h
    · next op es p =>
      simp only [List.all_eq_true] at h ⊢
      exact fun x hx => testOkN_up (h x hx)
    · cases h
    · rfl
theorem convE_ok : ∀ (n : Nat) {X : Cx} {W : WX} {cx : Cc}, XOk w X XE F k cx → Takes X W → ∀ e m, convE n cx e = some m → Snd w X XE W F e m
  | 0, _, _, _, _, _, _, _, h => by simp [convE] at h
  | n + 1, X, W, cx, ok, tk, e, m, h => by
    have ih := convE_ok n ok tk
    have np : ∀ {e : Expr}, (∀ op es p, e ≠ .BoolOp op es p) → ∀ op es q, e ≠ .BoolOp op es q := fun z => z
    cases e with
    | Name x p => exact snd_name ok h
    | Constant c j p => exact snd_cst h
    | Tuple es kk p =>
      simp only [convE] at h
      cases hm : convEs (convE n cx) es with
      | none => rw [hm] at h; cases h
      | some ms =>
        rw [hm] at h; cases h
        exact snd_plain (s_tup (snd_Es ok ih hm).1) rfl (fun _ _ _ z => by cases z) rfl
    | List es p =>
      simp only [convE] at h
      cases hm : convEs (convE n cx) es with
      | none => rw [hm] at h; cases h
      | some ms =>
        rw [hm] at h; cases h
        exact snd_fresh (s_lstF (snd_Es ok ih hm).1) rfl (fun _ _ _ z => by cases z)
    | Dict ks vs p =>
      cases ks with
      | nil =>
        cases vs with
        | nil => simp only [convE, Option.some.injEq] at h; subst h; exact snd_fresh s_dk0 rfl (fun _ _ _ z => by cases z)
        | cons => simp [convE] at h
      | cons => simp [convE] at h
    | BinOp a op b p =>
      simp only [convE] at h
      split at h
      · next o ma mb h1 h2 h3 =>
        cases h
        exact snd_plain (s_bin (bop_ok h1) (snd_V ok ih h2) (snd_V ok ih h3)) rfl (fun _ _ _ z => by cases z) rfl
      · cases h
    | UnaryOp op a p =>
      cases op with
      | Not =>
        simp only [convE] at h
        split at h
        · next ht =>
          cases hm : convE n cx a with
          | none => rw [hm] at h; cases h
          | some ma =>
            rw [hm] at h; cases h
            have s := ih _ _ hm
            exact ⟨s_not (s.pt ht) s.pe, fun _ => s_notT (s.pt ht), fun ⟨_, _, _, z⟩ => (by cases z), fun z => (by cases z)⟩
        · cases h
      | USub =>
        simp only [convE] at h
        cases hm : convE n cx a with
        | none => rw [hm] at h; cases h
        | some ma => rw [hm] at h; cases h; exact snd_plain (s_neg (ih _ _ hm).pe) rfl (fun _ _ _ z => by cases z) rfl
      | Invert => simp [convE] at h
      | UAdd => simp [convE] at h
    | BoolOp op es p =>
      match es, h with
      | [], h => cases op <;> simp [convE] at h
      | [a], h =>
        have h' : convE n cx a = some m := by cases op <;> simpa [convE] using h
        have s := ih _ _ h'
        have pw : testOk (.BoolOp op [a] p) = true → PW X (.BoolOp op [a] p) (RT w X XE W (denT F m)) := fun ht => by
          have q := s.pt (testOkN_up (testOk_bool ht a (List.mem_singleton.mpr rfl)))
          cases op with
          | And => exact pw_and1 q
          | Or => exact pw_or1 q
        exact ⟨pe_one s.pe, fun ht => (pw ht).pt, fun _ ht => pw ht, fun z => pe_one (s.pf z)⟩
      | a :: b :: rest, h =>
        cases op with
        | And =>
          simp only [convE] at h
          split at h
          · next ma mb h1 h2 =>
            cases h
            have s1 := ih _ _ h1
            have s2 := ih _ _ h2
            have pw : testOk (.BoolOp .And (a :: b :: rest) p) = true → PW X (.BoolOp .And (a :: b :: rest) p) (RT w X XE W (denT F (.and ma mb))) := fun ht => s_andT (s1.pt (testOkN_up (testOk_bool ht a (List.mem_cons_self ..)))) (s2.pw ⟨_, _, _, rfl⟩ (by
              have q := testOk_bool ht
              show (b :: rest).all (testOkN 11) = true
              rw [List.all_eq_true]
              exact fun x hx => q x (List.mem_cons_of_mem _ hx)))
            exact ⟨s_and s1.pe s2.pe, fun ht => (pw ht).pt, fun _ ht => pw ht, fun z => by cases z⟩
          · cases h
        | Or =>
          simp only [convE] at h
          split at h
          · next ma mb h1 h2 =>
            cases h
            have s1 := ih _ _ h1
            have s2 := ih _ _ h2
            have pw : testOk (.BoolOp .Or (a :: b :: rest) p) = true → PW X (.BoolOp .Or (a :: b :: rest) p) (RT w X XE W (denT F (.or ma mb))) := fun ht => s_orT (s1.pt (testOkN_up (testOk_bool ht a (List.mem_cons_self ..)))) (s2.pw ⟨_, _, _, rfl⟩ (by
              have q := testOk_bool ht
              show (b :: rest).all (testOkN 11) = true
              rw [List.all_eq_true]
              exact fun x hx => q x (List.mem_cons_of_mem _ hx)))
            exact ⟨s_or s1.pe s2.pe, fun ht => (pw ht).pt, fun _ ht => pw ht, fun z => by cases z⟩
          · cases h
    | IfExp c a b p =>
      simp only [convE] at h
      split at h
      · next ht =>
        split at h
        · next mc ma mb h1 h2 h3 =>
          cases h
          exact ⟨s_ite ((ih _ _ h1).pt ht) (ih _ _ h2).pe (ih _ _ h3).pe, fun z => (by cases z), fun ⟨_, _, _, z⟩ => (by cases z), fun z => (by cases z)⟩
        · cases h
      · cases h
    | Compare a ops bs p => exact snd_cmp ok ih h
    | Subscript a b p => exact snd_sub ok ih h
    | Call g as ks p => exact snd_call ok tk ih h
    | ListComp elt gs scope p =>
      exact snd_fresh ((snd_lc (W := W) ok (fun ok' tk' => convE_ok n ok' tk') tk h).pe p) rfl (fun _ _ _ z => by cases z)
    | _ => simp [convE] at h
end
end Rf
/-! Reflection layer, part 30: the translation is right, statements. -/
namespace Rf
open PySem PySem.Spec PyProof.Rows L2
section
variable {w : Wld} {X : Cx} {XE : Er → Value → Option Addr → Hp → Prop} {W : WX} {F : Fs w} {k : Nat} {cx : Cc}
theorem fz_ok {st : Stmt} {m : MS} {mu vs : List Nat} (h : PS X st (RS' w X XE W (denS F m))) : PS X st (RS' w X XE W (denS F (fzS mu vs m))) := by
  unfold fzS
  split
  · exact h
  · exact st_fz h
theorem re_rf {m : ME} {σ : L2.St} {H : Hp} {Q : VK} (q : RE w X XE W (denE F m) σ H Q) : RF w X XE W (denE F m) σ H Q := rd_weak (fun R _ z => ZF.toE R z) q
section
variable {n : Nat} (ok : XOk w X XE F k cx) (tk : Takes X W)
include ok tk
/-- what a name may be bound to -/
theorem snd_B {i : Nat} {e : Expr} {m : ME} (h : convB (convE n cx) cx i e = some m) : Snd w X XE W F e m := by
  unfold convB at h
  split at h
  · split at h
    · cases h; exact snd_fresh s_dt0 rfl (fun _ _ _ z => by cases z)
    · cases h; exact snd_fresh s_dk0 rfl (fun _ _ _ z => by cases z)
  · exact convE_ok n ok tk _ _ h
theorem snd_Bs {mu : List Nat} : ∀ {is : List Nat} {es : List Expr} {ms : MEs}, convBs (convE n cx) cx is es = some ms → PA X es (RN w X XE W ((freshs mu is ms).map (·.2)) (denEs F ms)) ∧ (freshs mu is ms).map (·.1) = is ∧ es.all notStar = true ∧ es.length = is.length
  | [], [], ms, h => by
    simp only [convBs, Option.some.injEq] at h
    subst h
    exact ⟨sn_nil, rfl, rfl, rfl⟩
  | [], _ :: _, _, h => by simp [convBs] at h
  | _ :: _, [], _, h => by simp [convBs] at h
  | i :: is, e :: es, ms, h => by
    unfold convBs at h
    split at h
    · next ns =>
      split at h
      · next m ms' h1 h2 =>
        cases h
        obtain ⟨r1, r2, r3, r4⟩ := snd_Bs (mu := mu) h2
        have s := snd_B ok tk (F := F) (XE := XE) (W := W) h1
        refine ⟨?_, by simp only [freshs, List.map_cons, r2], by rw [List.all_cons, ns, r3]; rfl, by rw [List.length_cons, List.length_cons, r4]⟩
        cases hb : isFresh m && mu.contains i with
        | true =>
          have hfr : isFresh m = true := by simp only [Bool.and_eq_true] at hb; exact hb.1
          simp only [freshs, List.map_cons, hb]
          exact sn_own (s.pf hfr) r1 (star_cons ns)
        | false =>
          simp only [freshs, List.map_cons, hb]
          exact sn_dat s.pe r1 (star_cons ns)
      · cases h
    · cases h
/-- name = value, as data and as a container of its own -/
theorem snd_set {i : Nat} {x : Str} {px pos : Pos} {v : Expr} {m : ME} (vi : VisOk X x i) (lo : Loc X.env.scope x) (fo : X.fn x = true ∨ X.env.scope.names.lookup x = some .local) (h : convB (convE n cx) cx i v = some m) :
    PS X (.Assign [.Name x px] v pos) (tAsg (RE w X XE W (denE F m)) (gName i)) ∧ (isFresh m = true → PS X (.Assign [.Name x px] v pos) (tAsg (RF w X XE W (denE F m)) (gName i))) := by
  have s := snd_B ok tk (F := F) (XE := XE) (W := W) h
  by_cases hc : notComp v = true
  · exact ⟨ps_set ok.nd vi.n lo s.pe (swaps_no hc) fo, fun z => ps_set ok.nd vi.n lo (s.pf z) (swaps_no hc) fo⟩
  · cases v with
    | ListComp elt gs scope p =>
      cases n with
      | zero => simp [convB, convE] at h
      | succ n =>
        have lc := snd_lc (XE := XE) (F := F) (W := W) ok (fun ok' tk' => convE_ok n ok' tk') tk h
        cases hs : swB scope x px p X.env.scope with
        | false =>
          have q := ps_set (pos := pos) ok.nd vi.n lo (lc.pe p) (swaps_b ok.kind hs (l := pos.line)) fo
          exact ⟨q.imp fun D σ H z => re_rf z, fun _ => q⟩
        | true =>
          have hl : X.env.scope.names.lookup x = some .local := by
            unfold swB at hs
            simp only [Bool.and_eq_true, decide_eq_true_eq] at hs
            exact hs.1.1
          have q := lc.ps p i x px pos vi.n hl (swaps_t ok.kind hs)
          exact ⟨q.imp fun D σ H z => re_rf z, fun _ => q⟩
    | SetComp => simp [convB] at h; cases n <;> simp [convE] at h
    | DictComp => simp [convB] at h; cases n <;> simp [convE] at h
    | _ => exact absurd rfl hc
theorem par_true {x y : Str} {i j : Nat} (h1 : X.N[i]? = some x) (h2 : X.N[j]? = some y) (ne : x ≠ y) : i ≠ j := fun z => by
  subst z; rw [h1] at h2; cases h2; exact ne rfl
end
end
end Rf
/-! Reflection layer, part 31: the translation is right, all statements. -/
namespace Rf
open PySem PySem.Spec PyProof.Rows L2
section
variable {w : Wld} {X : Cx} {XE : Er → Value → Option Addr → Hp → Prop} {W : WX} {F : Fs w} {k : Nat} {cx : Cc}
theorem sole_no {tg v : Expr} {l : Nat} {env : Env} (h : notComp v = true) : swapsWithSole [tg] v l env = pure false := (show swapsWithSole [tg] v l env = swapsWith v (some tg) l env from by cases v <;> rfl).trans (swaps_no h)
theorem convTs_names : ∀ {es : List Expr} {is : List Nat}, convTs cx es = some is → ∀ e ∈ es, ∃ x p, e = .Name x p
  | [], _, _, e, h => by cases h
  | e0 :: es, is, h, e, he => by
    unfold convTs at h
    split at h
    · next hh => cases hh
    · next x p es' hh =>
      cases hh
      rcases List.mem_cons.mp he with rfl | he
      · exact ⟨x, p, rfl⟩
      · split at h
        · next h1 h2 => exact convTs_names h2 e he
        · cases h
    · cases h
theorem convTs_one {x : Str} {p : Pos} {es : List Expr} {is : List Nat} (h : convTs cx (.Name x p :: es) = some is) : ∃ i js, is = i :: js ∧ visI cx x = some i ∧ convTs cx es = some js := by
  unfold convTs at h
  split at h
  · next i js h1 h2 =>
    split at h
    · cases h
    · split at h
      · cases h; exact ⟨i, js, rfl, h1, h2⟩
      · cases h
  · cases h
theorem convBs_one {f : Expr → Option ME} {i : Nat} {is : List Nat} {e : Expr} {es : List Expr} {ms : MEs} (h : convBs f cx (i :: is) (e :: es) = some ms) : ∃ m ms', ms = .cons m ms' ∧ convBs f cx is es = some ms' := by
  unfold convBs at h
  split at h
  · split at h
    · next m ms' h1 h2 => cases h; exact ⟨m, ms', rfl, h2⟩
    · cases h
  · cases h
theorem convBs_nil {f : Expr → Option ME} {ms : MEs} (h : convBs f cx [] [] = some ms) : ms = .nil := by
  simp only [convBs, Option.some.injEq] at h
  exact h.symm
section
variable {n : Nat} (ok : XOk w X XE F k cx) (tk : Takes X W)
include ok tk
theorem snd_par {ts vs : List Expr} {kt kv : Nat} {pt pv pos : Pos} {is mu : List Nat} {ms : MEs} {b : Bool} (h1 : convTs cx ts = some is) (h2 : convBs (convE n cx) cx is vs = some ms) (h3 : parK cx ts vs = some b) (hz : vs.length ≤ 1000) :
    PS X (.Assign [.Tuple ts kt pt] (.Tuple vs kv pv) pos) (RS' w X XE W (denS F (.par (freshs mu is ms) ms))) := by
  obtain ⟨_, ga, nt, lt, li⟩ := snd_Ts (w := w) ok h1
  obtain ⟨pa, fi, nv, lv⟩ := snd_Bs (XE := XE) (F := F) (W := W) ok tk (mu := mu) h2
  have hs : swapsWithSole [.Tuple ts kt pt] (.Tuple vs kv pv) pos.line X.env = pure false := rfl
  -- stored as a tuple
  have asTup : swappedStores [.Tuple ts kt pt] (.Tuple vs kv pv) X.env = pure none → PS X (.Assign [.Tuple ts kt pt] (.Tuple vs kv pv) pos) (RS' w X XE W (denS F (.par (freshs mu is ms) ms))) := fun hw => by
    have lf : (freshs mu is ms).length = is.length := by
      have := congrArg List.length fi
      rwa [List.length_map] at this
    refine st_parN (n := ts.length) (by rw [lt, lf]) ?_ (fun t ht => ?_) (by rw [lt, ← lv]; unfold sizeLine; omega)
    · rw [fi]
      exact ps_asg (pe_tup pa) (pg_tup ok.calm ga asg_len (asg_none nt)) hs hw (asg_cons rfl)
    · exact li t.1 (by rw [← fi]; exact List.mem_map.mpr ⟨t, ht, rfl⟩)
  unfold parK at h3
  split at h3
  · next hl =>
    split at h3
    · next hc =>
      simp only [Bool.and_eq_true, decide_eq_true_eq] at hc
      obtain ⟨⟨⟨c1, c2⟩, c3⟩, c4⟩ := hc
      rcases hl with hl | hl
      · match ts, hl with
        | [t1, t2], _ =>
          obtain ⟨x, px, rfl⟩ := convTs_names h1 t1 (by simp)
          obtain ⟨y, py, rfl⟩ := convTs_names h1 t2 (by simp)
          have lv2 : vs.length = 2 := by rw [lv, ← lt]; rfl
          match vs, lv2 with
          | [a, b'], _ =>
            obtain ⟨i, js, rfl, v1, h1'⟩ := convTs_one h1
            obtain ⟨j, js', rfl, v2, h1''⟩ := convTs_one h1'
            simp only [convTs, Option.some.injEq] at h1''
            subst h1''
            have V1 := visI_ok ok v1
            have V2 := visI_ok ok v2
            simp only [List.all_cons, List.all_nil, Bool.and_true, Bool.and_eq_true, locN, decide_eq_true_eq, lineN, List.head?_cons, Option.map_some, Option.get!_some, Expr.pos, List.map_cons, List.map_nil, nameN, apart] at c1 c2 c3 c4 nv
            rw [← ok.sc] at c1
            have sw := swp2 (k := kt) (k2 := kv) (p := pt) (p2 := pv) ok.kind nv.1 nv.2 c1.1 c1.2 c2.2 c3
            split at h3
            · next hf => exact asTup (sw.1 (by simpa using hf))
            · next hf =>
              split at h3
              · cases h3
              · next hcc =>
                have sw2 := sw.2 (by simpa using hf) (by simpa using hcc)
                obtain ⟨m1, ms1, rfl, h2'⟩ := convBs_one h2
                obtain ⟨m2, ms2, rfl, h2''⟩ := convBs_one h2'
                have e0 := convBs_nil h2''
                subst e0
                exact st_par2 (ps_par ok.calm ok.nd V1.n V2.n (par_true ok tk V1.n V2.n c4) c1.1 c1.2 pa sw2 hs) (li i (by simp)) (li j (by simp))
      · match ts, hl with
        | [t1, t2, t3], _ =>
          obtain ⟨x, px, rfl⟩ := convTs_names h1 t1 (by simp)
          obtain ⟨y, py, rfl⟩ := convTs_names h1 t2 (by simp)
          obtain ⟨z, pz, rfl⟩ := convTs_names h1 t3 (by simp)
          have lv2 : vs.length = 3 := by rw [lv, ← lt]; rfl
          match vs, lv2 with
          | [a, b', c'], _ =>
            obtain ⟨i, js, rfl, v1, h1'⟩ := convTs_one h1
            obtain ⟨j, js', rfl, v2, h1''⟩ := convTs_one h1'
            obtain ⟨l, js'', rfl, v3, h1'''⟩ := convTs_one h1''
            simp only [convTs, Option.some.injEq] at h1'''
            subst h1'''
            have V1 := visI_ok ok v1
            have V2 := visI_ok ok v2
            have V3 := visI_ok ok v3
            simp only [List.all_cons, List.all_nil, Bool.and_true, Bool.and_eq_true, locN, decide_eq_true_eq, lineN, List.head?_cons, Option.map_some, Option.get!_some, Expr.pos, List.map_cons, List.map_nil, nameN, apart] at c1 c2 c3 c4 nv
            rw [← ok.sc] at c1
            have sw := swp3 (k := kt) (k2 := kv) (p := pt) (p2 := pv) ok.kind nv.1 nv.2.1 nv.2.2 c1.1 c1.2.1 c1.2.2 c2.2.1 c2.2.2 c3
            split at h3
            · next hf => exact asTup (sw.1 (by simpa using hf))
            · next hf =>
              split at h3
              · cases h3
              · next hcc =>
                have sw2 := sw.2 (by simpa using hf) (by simpa using hcc)
                obtain ⟨m1, ms1, rfl, h2'⟩ := convBs_one h2
                obtain ⟨m2, ms2, rfl, h2''⟩ := convBs_one h2'
                obtain ⟨m3, ms3, rfl, h2'''⟩ := convBs_one h2''
                have e0 := convBs_nil h2'''
                subst e0
                exact st_par3 (ps_par3 ok.calm ok.nd V1.n V2.n V3.n (par_true ok tk V1.n V2.n c4.1.1) (par_true ok tk V1.n V3.n c4.1.2) (par_true ok tk V2.n V3.n c4.2) c1.1 c1.2.1 c1.2.2 pa sw2 hs) (li i (by simp)) (li j (by simp)) (li l (by simp))
    · cases h3
  · next hl => exact asTup (stores_long hl)
theorem snd_asg {mu : List Nat} {tg v : Expr} {pos : Pos} {m : MS} (h : cAsg (convE n cx) cx mu tg v pos = some m) : PS X (.Assign [tg] v pos) (RS' w X XE W (denS F m)) := by
  have ih := convE_ok (F := F) (XE := XE) (W := W) n ok tk
  unfold cAsg at h
  split at h
  · next x px =>
    split at h
    · next i hi =>
      obtain ⟨vi, lo, fo⟩ := snd_T1 ok hi
      have hin : i < X.N.length := (List.getElem?_eq_some_iff.mp vi.n).1
      split at h
      · next c a y yp ip =>
        split at h
        · next cc =>
          simp only [Bool.and_eq_true] at cc
          split at h
          · next mc ma j h1 h2 h3 =>
            cases h
            have vj := visI_ok ok h3
            exact fz_ok (st_ali ok.nd vi.n lo fo vj.n vj.v vj.d vj.c ((ih _ _ h1).pt cc.2) (ih _ _ h2).pe (swaps_no rfl))
          · cases h
        · cases hm : convE n cx (.IfExp c a (.Name y yp) ip) with
          | none => rw [hm] at h; cases h
          | some m' =>
            rw [hm] at h; cases h
            exact fz_ok (st_asg (snd_set ok tk (n := n) (i := i) vi lo fo (show convB (convE n cx) cx i (.IfExp c a (.Name y yp) ip) = some m' from hm)).1 hin)
      · cases hm : convB (convE n cx) cx i v with
        | none => rw [hm] at h; cases h
        | some m' =>
          rw [hm] at h
          simp only [Option.map_some, Option.some.injEq] at h
          subst h
          have s := snd_set (XE := XE) (F := F) (W := W) ok tk (px := px) (pos := pos) vi lo fo hm
          refine fz_ok ?_
          split
          · next hf =>
            simp only [Bool.and_eq_true] at hf
            exact st_new (s.2 hf.1) hin
          · exact st_asg s.1 hin
    · cases h
  · next ts kt pt =>
    split at h
    · next is h1 =>
      split at h
      · next vs kv pv =>
        split at h
        · next ms b h2 h3 =>
          split at h
          · next hz =>
            cases h
            exact fz_ok (snd_par ok tk h1 h2 h3 hz)
          · cases h
        · cases h
      · next hnt =>
        cases hm : convE n cx v with
        | none => rw [hm] at h; cases h
        | some m' =>
          rw [hm] at h; cases h
          obtain ⟨gs, _, nt, lt, _⟩ := snd_Ts (w := w) ok h1
          have hn : notTup v = true := by cases v <;> first | rfl | exact absurd rfl (hnt _ _ _)
          have hc : swapsWithSole [.Tuple ts kt pt] v pos.line X.env = pure false := by
            show swapsWith v (some (.Tuple ts kt pt)) pos.line X.env = pure false
            cases v <;> rfl
          exact fz_ok (st_unp (ps_asg (ih _ _ hm).pe (g_many (n := 0) ok.calm gs (by rw [asg_len, lt]) (asg_none nt)) hc (stores_no hn) (asg_cons rfl)))
    · cases h
  · next x xp ix pp =>
    split at h
    · next cc =>
      simp only [Bool.and_eq_true] at cc
      split at h
      · next i mk m' h1 h2 h3 =>
        cases h
        have vi := visI_ok ok h1
        exact fz_ok (st_put ok.hu vi.n vi.v vi.d vi.c (ih _ _ h2).pe (ih _ _ h3).pe (swaps_no cc.2) (sole_no cc.2) (stores_tg rfl) (asg_cons rfl) (sub_asg cc.1))
      · cases h
    · cases h
  · cases h
theorem snd_exp {mu : List Nat} {e : Expr} {pos : Pos} {m : MS} (h : cExp (convE n cx) cx mu e = some m) : PS X (.Expr e pos) (RS' w X XE W (denS F m)) := by
  have ih := convE_ok (F := F) (XE := XE) (W := W) n ok tk
  unfold cExp at h
  split at h
  · next x xp mm ap a cp =>
    split at h
    · next cc =>
      simp only [Bool.and_eq_true] at cc
      split at h
      · next i hi =>
        have vi := visI_ok ok hi
        split at h
        · next hm =>
          subst hm
          split at h
          · next y yp m2 ap2 b cp2 =>
            split at h
            · next c2 =>
              obtain ⟨e2, nb, l2⟩ := c2
              subst e2
              split at h
              · next j mb h1 h2 =>
                cases h
                have vj := visI_ok ok h1
                exact fz_ok (st_appPop vi.n vi.v vi.d vi.c vj.n vj.v vj.d vj.c (ih _ _ h2).pe (row1 nb l2) (row1 rfl cc.2) (swaps_no rfl))
              · cases h
            · cases h
          · cases hm : convE n cx a with
            | none => rw [hm] at h; cases h
            | some ma =>
              rw [hm] at h; cases h
              exact fz_ok (st_app vi.n vi.v vi.d vi.c (ih _ _ hm).pe (row1 cc.1 cc.2) (swaps_no rfl))
        · split at h
          · next hm =>
            subst hm
            cases hm : convE n cx a with
            | none => rw [hm] at h; cases h
            | some ma =>
              rw [hm] at h; cases h
              exact fz_ok (st_dpop ok.hu vi.n vi.v vi.d vi.c (ih _ _ hm).pe (row1 cc.1 cc.2) (swaps_no rfl))
          · cases h
      · cases h
    · cases h
  · split at h
    · next hc =>
      cases hm : convE n cx e with
      | none => rw [hm] at h; cases h
      | some m' =>
        rw [hm] at h; cases h
        exact fz_ok (st_ex (ih _ _ hm).pe (swaps_no hc))
    · cases h
end
theorem convS_ok (hp : PassesOwn (model X.prog X.w) X.A X.env X.xe) (ok : XOk w X XE F k cx) (tk : Takes X W) {mu : List Nat} : ∀ n, (∀ st m, convS n cx mu st = some m → PS X st (RS' w X XE W (denS F m))) ∧ (∀ sts ms, convSs n cx mu sts = some ms → PSs X sts (RS' w X XE W (denSs F ms)))
  | 0 => ⟨fun st m h => by simp [convS] at h, fun sts ms h => by simp [convSs] at h⟩
  | n + 1 => by
    obtain ⟨ih1, ih2⟩ := convS_ok hp ok tk (mu := mu) n
    have ihE := convE_ok (F := F) (XE := XE) (W := W) n ok tk
    refine ⟨fun st m h => ?_, fun sts ms h => ?_⟩
    · unfold convS at h
      split at h
      · cases h; exact st_retN
      · next e p =>
        cases hm : convE n cx e with
        | none => rw [hm] at h; cases h
        | some m' => rw [hm] at h; cases h; exact st_ret (ihE _ _ hm).pe
      · exact snd_asg ok tk h
      · next x px op e p =>
        split at h
        · next i o m' hi ho hm =>
          cases h
          obtain ⟨vi, lo, fo⟩ := snd_T1 ok hi
          have hop : (o = .add ∧ op = .Add) ∨ (o = .sub ∧ op = .Sub) := by
            cases op <;> simp [augOp] at ho <;> subst ho <;> simp
          exact st_aug hop ok.nd vi.n lo fo (ihE _ _ hm).pe
        · cases h
      · exact snd_exp ok tk h
      · next c a b p =>
        split at h
        · next ht =>
          split at h
          · next mc ma mb h1 h2 h3 =>
            cases h
            exact fz_ok (st_if ((ihE _ _ h1).pt ht) (ih2 _ _ h2) (ih2 _ _ h3))
          · cases h
        · cases h
      · next c a p =>
        split at h
        · next ht =>
          split at h
          · next mc ma h1 h2 =>
            cases h
            exact st_while hp ((ihE _ _ h1).pt ht) (ih2 _ _ h2)
          · cases h
        · cases h
      · next tg it a p =>
        have gen : ∀ {t : Tg} {ma : MSs} {mi : MI}, convTg cx tg = some t → convSs n cx mu a = some ma → convI (convE n cx) cx tg it = some mi → PS X (.For tg it a [] p) (RS' w X XE W (denS F (.loop t mi ma))) := fun {t ma mi} h1 h2 h3 => by
          obtain ⟨pi, ns, nk⟩ := snd_I (P := fun e => loopOk e mi = true) (XE := XE) (W := W) ok ihE h3 (fun i e en hl => by
            rcases e with e | e <;> subst e <;> simp only [loopOk] at hl <;> split at hl <;> first | exact .inl ⟨_, by assumption⟩ | exact .inr ⟨_, by assumption⟩ | cases hl)
          exact st_for hp ok.calm pi (snd_Tg ok h1) (ih2 _ _ h2) (not_set ns) nk
        split at h
        · next t ma h1 h2 =>
          split at h
          · next x xp =>
            split at h
            · next i hi =>
              have vi := visI_ok ok hi
              split at h
              · cases h
                exact fz_ok (st_forK hp ok.calm vi.n vi.v vi.d vi.c (snd_Tg ok h1) (ih2 _ _ h2))
              · cases h
                refine fz_ok (gen h1 h2 ?_)
                simp only [convI, convR, enuArg, isSet, convV, hi]
                rfl
            · cases hm : convI (convE n cx) cx tg (.Name x xp) with
              | none => rw [hm] at h; cases h
              | some mi => rw [hm] at h; cases h; exact fz_ok (gen h1 h2 hm)
          · cases hm : convI (convE n cx) cx tg it with
            | none => rw [hm] at h; cases h
            | some mi => rw [hm] at h; cases h; exact fz_ok (gen h1 h2 hm)
        · cases h
      · cases h; exact st_pass
      · cases h; exact st_brk
      · cases h; exact st_cnt
      · cases h
    · unfold convSs at h
      split at h
      · cases h; exact ss_nil
      · next st r =>
        split at h
        · next m ms' h1 h2 =>
          cases h
          exact ss_cons (ih1 _ _ h1) (ih2 _ _ h2)
        · cases h
end
end Rf
/-! Reflection layer, part 32: each def does what its translation means. -/
namespace Rf
open PySem PySem.Spec PyProof.Rows L2
section
variable {w : Wld} {P : Program} {wd : World} {K : PySem.W.Frag} {mg : Str → Option Value} {base : Heap} {XE : Er → Value → Option Addr → Hp → Prop}
/-- a def stands as it was read -/
structure DOk (K : PySem.W.Frag) (mg : Str → Option Value) (m : Mod') (fs : Nat → Option MFn) (fa : Nat → Addr) (fdd : Nat → FuncData) (x : Str) (i : Nat) (ps : List Str) (h : Hint) (params : Arguments) (body : List Stmt) (scope : Scope) : Prop where
  F : FunD K x x params body scope [] [] (fa i) (fdd i)
  mg : mg x = some (.ref (fa i))
  bd : Binds K (fdd i) ps []
  S : FnScope (namesOf ⟨x, ps, scope, body⟩) ps scope
  cv : ∃ mf, convFn m ⟨x, ps, scope, body⟩ h = some mf ∧ fs i = some mf
  kw : ∀ q ∈ m.kws, q.1 = x → KBd K (fdd i) ps q.2.1 (gVal q.2.2 .none) (gVal q.2.2 .non)
theorem runF_len {fs : Nat → Option MFn} {n i : Nat} {as : List Arg} {s : w.T} {l : Nat} (hl : ∀ mf, fs i = some mf → mf.np = l) (h : runF w fs n i as s ≠ .stuck) : as.length = l := by
  cases n with
  | zero => exact absurd rfl h
  | succ n =>
    unfold runF at h
    cases hf : fs i with
    | none => simp [hf] at h
    | some mf =>
      simp only [hf] at h
      split at h
      · next e => rw [e]; exact hl mf hf
      · exact absurd rfl h
theorem argSlot_own {a : Arg} {d : D} : argSlot a ≠ .own d := by cases a <;> simp [argSlot]
theorem start_rel {C : Fc} {H : Hp} {s : w.T} {as : List Arg} {vs : List V} {mf : MFn} {N : List Str} (hH : C.H0 = H) (hb : C.Hb = H) (dr : DrawAt w C s H) (ds : ∀ a, C.Dm a → C.O0 a) (od : ∀ a, C.O0 a → ∃ o, H a = some o ∧ NT o) (z : ArgsR K C.Dm C.dr (mask C.O0 H) H vs as) (hn : mf.nn = N.length) :
    Rel w K C (startE mf as) (fun _ => 0) s (start N vs) H ∧ ∀ a, Os C (startE mf as) (fun _ => 0) a → C.O0 a := by
  have lv := z.length
  have get : ∀ {i : Nat} {t : Slot}, (startE mf as)[i]? = some t → t = .non ∨ ∃ a, as[i]? = some a ∧ t = argSlot a := fun {i t} h => by
    unfold startE at h
    by_cases hi : i < as.length
    · rw [List.getElem?_append_left (by simpa using hi), List.getElem?_map] at h
      cases ha : as[i]? with
      | none => rw [ha] at h; cases h
      | some a => rw [ha] at h; cases h; exact .inr ⟨a, rfl, rfl⟩
    · rw [List.getElem?_append_right (by simpa using hi)] at h
      exact .inl (List.eq_of_mem_replicate (List.mem_of_getElem? h))
  have no : ∀ (i : Nat) (d : D), (startE mf as)[i]? ≠ some (Slot.own d) := fun i d h => by
    rcases get h with q | ⟨a, _, q⟩
    · cases q
    · exact argSlot_own q.symm
  have os : ∀ a, Os C (startE mf as) (fun _ => 0) a → C.O0 a := fun a h => by
    rcases h with h | ⟨i, d, h, _⟩
    · exact h
    · exact absurd h (no i d)
  have l : Le (mask C.O0 H) (mask (Os C (startE mf as) fun _ => 0) H) := mask_sub os
  have σat : ∀ {i : Nat} {v : V}, vs[i]? = some v → (start N vs)[i]? = some (some v) := fun {i v} h => by
    unfold L2.start
    have hi := (List.getElem?_eq_some_iff.mp h).1
    rw [List.getElem?_append_left (by simpa using hi), List.getElem?_map, h]; rfl
  refine ⟨⟨by rw [hH]; exact .refl _, dr, ds, od, fun i t h => ?_, fun i d h => absurd h (no i d), fun i j d d' h => absurd h (no i d), ?_, by rw [hb, hH]; exact mask_le⟩, os⟩
  · rcases get h with rfl | ⟨a, ha, rfl⟩
    · trivial
    · obtain ⟨v, hv, za⟩ := z.get ha
      have eσ := σat hv
      cases za with
      | dat r => exact ⟨v, eσ, r.le l⟩
      | bor r => exact ⟨_, eσ, by rw [hb]; exact r.le l (.refl _)⟩
      | drw => exact eσ
  · unfold L2.start startE
    rw [List.length_append, List.length_append, List.length_map, List.length_map, List.length_replicate, List.length_replicate, hn, lv]
theorem sound {m : Mod'} {fs : Nat → Option MFn} {fa : Nat → Addr} {fdd : Nat → FuncData} {c0 : Nat} (all : ∀ x i ps, m.fns.lookup x = some (i, ps) → ∃ h params body scope, DOk K mg m fs fa fdd x i ps h params body scope)
    (take : ∀ x, m.tkn = some x → ∃ f fd ps, FnG P wd K mg base (L2.CX P wd) c0 f fd ps (spTake w) ∧ mg x = some (.ref f) ∧ PySem.W.keepIn K (.ref f) = true ∧ Binds K fd ps [])
    (bl : ∀ x ∈ bnames, m.fns.lookup x = none → mg x = none) (glb : m.glb = []) : ∀ n x i ps, m.fns.lookup x = some (i, ps) → FnG P wd K mg base (L2.CX P wd) (n + c0) (fa i) (fdd i) ps (spF w K XE ps.length (runF w fs n i))
  | 0, x, i, ps, hx => ⟨fun vs H Q E h => h.1, fun A outer s H args us vs Q E _ _ _ _ _ h => by
      obtain ⟨_, _, _, _, _, _, _, _, _, _, h⟩ := h
      exact h.elim⟩
  | n + 1, x, i, ps, hx => by
    obtain ⟨hh, params, body, scope, D⟩ := all x i ps hx
    obtain ⟨mf, cv, hfs⟩ := D.cv
    have ih := sound all take bl glb n
    unfold convFn at cv
    simp only at cv
    cases hb : convSs 200 (cxFor m ⟨x, ps, scope, body⟩ hh) ((muSs 200 body).filterMap (idxN (cxFor m ⟨x, ps, scope, body⟩ hh).N)) (noDoc body) with
    | none => rw [hb] at cv; cases cv
    | some b =>
      rw [hb] at cv
      cases cv
      have lvl : n + 1 + c0 = (n + c0) + 1 := by omega
      rw [lvl]
      refine fnG_of D.F D.S (fun vs H Q E h => h.1) fun cdv A outer s H vs Q E g hr hsp => ?_
      obtain ⟨lv, C, as, t, eH, eb, dr, ds, od, z, hres⟩ := hsp
      -- the place
      have ok : XOk w (cxOf (L2.CX P wd) P wd K mg base (namesOf ⟨x, ps, scope, body⟩) x scope (fa i) cdv A outer s H E) XE (runF w fs n) (n + c0) (cxFor m ⟨x, ps, scope, body⟩ hh) := {
        sc := rfl
        N := rfl
        nd := D.S.nd
        kind := D.S.kind
        calm := rfl
        gd := g
        rm := hr
        fn := rfl
        bl := bl
        fns := fun y j qs hy => by
          obtain ⟨hh', params', body', scope', D'⟩ := all y j qs hy
          obtain ⟨mf', cv', hfs'⟩ := D'.cv
          refine ⟨⟨fa j, fdd j, qs, D'.mg, D'.F.kp, D'.bd, ih y j qs hy, fun as s hne => runF_len (fun mf'' hf'' => ?_) hne⟩, rfl, D'.kw⟩
          rw [hfs'] at hf''
          cases hf''
          unfold convFn at cv'
          simp only at cv'
          cases hb' : convSs 200 (cxFor m ⟨y, qs, scope', body'⟩ hh') ((muSs 200 body').filterMap (idxN (cxFor m ⟨y, qs, scope', body'⟩ hh').N)) (noDoc body') with
          | none => rw [hb'] at cv'; cases cv'
          | some b' => rw [hb'] at cv'; cases cv'; rfl
        tkn := fun y hy => let ⟨f, fd, ps', F, h1, h2, h3⟩ := take y hy; ⟨f, fd, ps', F.mono (by omega), h1, h2, h3⟩
        glb := glb }
      have tk : Takes (cxOf (L2.CX P wd) P wd K mg base (namesOf ⟨x, ps, scope, body⟩) x scope (fa i) cdv A outer s H E) (fun cls d _ H' => E cls d H') := takes_of rfl rfl rfl rfl
      have hp : PassesOwn (model (cxOf (L2.CX P wd) P wd K mg base (namesOf ⟨x, ps, scope, body⟩) x scope (fa i) cdv A outer s H E).prog (cxOf (L2.CX P wd) P wd K mg base (namesOf ⟨x, ps, scope, body⟩) x scope (fa i) cdv A outer s H E).w) (cxOf (L2.CX P wd) P wd K mg base (namesOf ⟨x, ps, scope, body⟩) x scope (fa i) cdv A outer s H E).A (cxOf (L2.CX P wd) P wd K mg base (namesOf ⟨x, ps, scope, body⟩) x scope (fa i) cdv A outer s H E).env (cxOf (L2.CX P wd) P wd K mg base (namesOf ⟨x, ps, scope, body⟩) x scope (fa i) cdv A outer s H E).xe := passes_of rfl
      have walk := (convS_ok hp ok tk (mu := (muSs 200 body).filterMap (idxN (cxFor m ⟨x, ps, scope, body⟩ hh).N)) 200).2 _ _ hb
      obtain ⟨R, os⟩ := start_rel (mf := ⟨ps.length, (cxFor m ⟨x, ps, scope, body⟩ hh).N.length, b⟩) (N := namesOf ⟨x, ps, scope, body⟩) eH eb dr ds od z rfl
      -- what the body's outcome asks
      have post : RS' w (cxOf (L2.CX P wd) P wd K mg base (namesOf ⟨x, ps, scope, body⟩) x scope (fa i) cdv A outer s H E) XE (fun cls d _ H' => E cls d H') (denSs (runF w fs n) b) { nx := fun _ H' => Q .non H', rt := Q } (start (namesOf ⟨x, ps, scope, body⟩) vs) H := by
        refine ⟨C, _, _, t, R, ?_⟩
        unfold runF at hres
        simp only [hfs] at hres
        have la : as.length = ps.length := by rw [← z.length]; exact lv
        rw [if_pos la] at hres
        revert hres
        cases hden : denSs (runF w fs n) b (startE ⟨ps.length, (cxFor m ⟨x, ps, scope, body⟩ hh).N.length, b⟩ as) t with
        | err er s1 => exact fun hres cls dx σ1 H1 kp d1 q => hres cls dx H1 (by rw [eH] at kp; exact kp) d1 q
        | stuck => exact fun hres => hres.elim
        | ok o s1 =>
          cases o with
          | nxt e1 => exact fun hres σ1 H1 ⟨ad1, R1, _⟩ => hres .non H1 (by rw [← eH]; exact R1.keep) R1.draw .non
          | brk e1 => exact fun hres => hres.elim
          | cnt e1 => exact fun hres => hres.elim
          | ret d => exact fun hres v H1 kp d1 q => hres v H1 (by rw [eH] at kp; exact kp) d1 q
      -- a docstring ahead is passed
      cases body with
      | nil => exact ⟨_, walk, post⟩
      | cons st r =>
        by_cases hd : isDoc st = true
        · have e1 : noDoc (st :: r) = r := if_pos hd
          rw [e1] at walk
          cases st with
          | Expr e p =>
            cases e with
            | Constant c j q =>
              cases c with
              | str y => exact ⟨_, pss_cons ps_doc walk, post⟩
              | _ => cases hd
            | _ => cases hd
          | _ => cases hd
        · have e1 : noDoc (st :: r) = st :: r := if_neg hd
          rw [e1] at walk
          exact ⟨_, walk, post⟩
end
end Rf
/-! Reflection layer, part 33: the law's def is called from without. -/
namespace Rf
open PySem PySem.Spec PyProof.Rows L2
section
variable {P : Program} {wd : World} {K : PySem.W.Frag} {mg mb : Str → Option Value} {k : Nat} {fa a : Addr} {fd : FuncData} {x : Str} {sp : Sp} {s1 : Shared} {vs : List Value} {ns : List Int}
/-- nothing but the script is tracked: an abstract heap that fits -/
theorem law_at (H : Hp) (KX : K.In s1.heap) (gN : s1.heap.Ns mainGlobals mg) (bN : s1.heap.Ns builtinsNs mb) (bE : ∀ y : Str, y ≠ "__name__" → mb y = bootBuiltins y) (nl : s1.heap.NoLimit) (g0 : s1.gens = #[])
    (at_ : s1.heap.get? a = some { cls := .type "list", data := .seq vs.toArray }) (rm : Room k callerA) (F : ∀ base : Heap, K.In base → base.Ns mainGlobals mg → FnG P wd K mg base (L2.CX P wd) k fa fd [x] sp)
    (bd : ∀ (s : Shared) (u : Value), BindsTo s fd ⟨[u], []⟩ [(x, u)]) (only : Only H) (hsp : sp [.ref a] H (fun v _ => v = .bl true) fun _ _ _ => False) (cx : ∀ e s', L2.CX P wd [] H s1 (fun _ _ _ => False) e s' → False)
    (ok : HOk P wd H s1.heap) (onlyA : ∀ b, H b ≠ none → b = a) (notK : H a ≠ none → K.lookup a = none) :
    codeAny (model P wd) callerA (.call (.ref fa) ⟨[.ref a], []⟩) (fun r s' => r = .ok (.ret (.bool true)) ∧ OldK s1.heap s'.heap ∧ s'.os = s1.os ∧ AllBare s'.gens) s1 := by
  -- no dict is tracked
  have free : ∀ {b : Addr} {o : Obj} {es : Array DictEntry} {ep : Nat}, s1.heap.get? b = some o → o.data = .dict es ep → H b = none := fun {b o es ep} he hd => by
    apply Classical.byContradiction
    intro hn
    have hb := onlyA b hn
    rw [hb, at_] at he
    cases he
    exact absurd hd (by intro z; cases z)
  have names : ∀ {b : Addr} {m : Str → Option Value}, s1.heap.Ns b m → (hidT s1.heap H).Ns b m := fun {b m} q => by
    obtain ⟨o, es, ep, h1, h2, h3⟩ := q
    exact ⟨o, es, ep, hidT_get h1 (free h1 h2), h2, h3⟩
  have KB : K.In (hidT s1.heap H) := fun b o hb => by
    refine hidT_get (KX b o hb) ?_
    apply Classical.byContradiction
    intro hn
    have ea := onlyA b hn
    rw [ea] at hn hb
    rw [notK hn] at hb
    cases hb
  obtain ⟨mc, lim1, lim2⟩ := nl
  have md : Mod K mg (hidT s1.heap H) := ⟨KB, names gN, ⟨mb, names bN, bE⟩, ⟨mc, names lim1, lim2⟩⟩
  have e0 : Env0 P wd K mg (hidT s1.heap H) callerA [] s1 H := ⟨rfl, md, fun b o h => of_hidT h, Nat.le_of_eq (hidT_size _ _), trivial, (fun b h => by cases h), ok, .of_eq g0⟩
  have run := (F _ KB (names gN)).run callerA [] s1 H ⟨[.ref a], []⟩ [.ref a] [.ref a] _ _ rfl rm e0 (bd s1 (.ref a)) (.cons rfl .nil) hsp
  refine codeAny_mono run fun r s' h => ?_
  match r, h with
  | .error e, h => exact (cx e s' h).elim
  | .ok .next, h => exact h.elim
  | .ok .brk, h => exact h.elim
  | .ok .cont, h => exact h.elim
  | .ok (.ret u), h =>
    obtain ⟨v, H', h1, h2, un, ok', rv, q⟩ := h
    have ev : v = .bl true := q
    subst ev
    have eu : u = Value.bool true := rv
    subst eu
    refine ⟨rfl, OldK.of_keep fun b o hb => ?_, h1, h2⟩
    rcases only b with z | ⟨ob, xs, z⟩
    · exact un.keep b o hb z (by intro y; cases y) (by simp)
    · obtain ⟨q1, _⟩ := ok b _ z
      obtain ⟨q2, _⟩ := ok' b _ (un.frzs b ob _ z)
      rw [hb] at q1
      cases q1
      exact q2
theorem law_callG (KX : K.In s1.heap) (gN : s1.heap.Ns mainGlobals mg) (bN : s1.heap.Ns builtinsNs mb) (bE : ∀ y : Str, y ≠ "__name__" → mb y = bootBuiltins y) (nl : s1.heap.NoLimit) (g0 : s1.gens = #[])
    (at_ : s1.heap.get? a = some { cls := .type "list", data := .seq vs.toArray }) (ia : IntsAre vs ns) (len : ns.length ≤ sizeLine) (rm : Room k callerA) (F : ∀ base : Heap, K.In base → base.Ns mainGlobals mg → FnG P wd K mg base (L2.CX P wd) k fa fd [x] sp)
    (bd : ∀ (s : Shared) (u : Value), BindsTo s fd ⟨[u], []⟩ [(x, u)]) (hsp : ∀ H : Hp, Only H → SqL K H a (ns.map V.int) → sp [.ref a] H (fun v _ => v = .bl true) fun _ _ _ => False) (cx : ∀ H e s', L2.CX P wd [] H s1 (fun _ _ _ => False) e s' → False) :
    codeAny (model P wd) callerA (.call (.ref fa) ⟨[.ref a], []⟩) (fun r s' => r = .ok (.ret (.bool true)) ∧ OldK s1.heap s'.heap ∧ s'.os = s1.os ∧ AllBare s'.gens) s1 := by
  have rel := vals_ints ia
  have lv := ia.length
  cases hk : K.lookup a with
  | some o =>
    have eo := KX a o hk
    rw [at_] at eo
    cases eo
    have on : Only (fun _ => none : Hp) := fun _ => .inl rfl
    have sq : SqL K (fun _ => none : Hp) a (ns.map V.int) := .inr ⟨_, vs.toArray, _, hk, rfl, rfl, rfl, by rw [List.size_toArray, lv]; exact len, by simpa using rel⟩
    exact law_at (fun _ => none) KX gN bN bE nl g0 at_ rm F bd on (hsp _ on sq) (cx _) (fun b u z => by cases (show (none : Option HO) = some u from z)) (fun b z => absurd rfl z) (fun z => absurd rfl z)
  | none =>
    have hit : ∀ {b : Addr} {u v : HO}, (if b = a then some u else none : Option HO) = some v → b = a ∧ u = v := fun {b u v} h => by
      split at h
      · next e => cases h; exact ⟨e, rfl⟩
      · cases h
    have on : Only (fun b => if b = a then some (.frz { cls := .type "list", data := .seq vs.toArray } (.lst (ns.map V.int))) else none : Hp) := fun b => by
      by_cases e : b = a
      · exact .inr ⟨_, _, if_pos e⟩
      · exact .inl (if_neg e)
    refine law_at _ KX gN bN bE nl g0 at_ rm F bd on (hsp _ on (.inl (.inr ⟨_, if_pos rfl⟩))) (cx _) (fun b u z => ?_) (fun b z => ?_) fun _ => hk
    · obtain ⟨rfl, rfl⟩ := hit z
      exact ⟨at_, by rw [List.length_map]; exact len, vs, _, rel, at_⟩
    · apply Classical.byContradiction
      intro e
      exact z (if_neg e)
end
/-- the row's goal, from the def's promise -/
theorem walkG {l : PySem.W.OpenLaw} {n k : Nat} {q : Program} {loose : List Str} {XP : (Str → Option Value) → Heap → Prop} {YP : World → Heap → Prop} {d : DefRec} {x : Str} (hn : l.most = some n) (hn2 : n ≤ sizeLine) (hdf : d.params.defaults = []) (hr : Room k callerA)
    (F : ∀ (w : World) (mg : Str → Option Value) (fa : Addr) (h : Heap), YP w h → h.Ns mainGlobals mg → mg d.name = some (.ref fa) →
      ∃ (K : PySem.W.Frag) (fd : FuncData) (sp : Sp), K.In h ∧ (∀ (s : Shared) (u : Value), BindsTo s fd ⟨[u], []⟩ [(x, u)]) ∧ (∀ (H : Hp) (a : Addr) (ns : List Int), ns.length ≤ n → Only H → SqL K H a (ns.map V.int) → sp [.ref a] H (fun v _ => v = .bl true) fun _ _ _ => False) ∧
        ∀ base : Heap, K.In base → base.Ns mainGlobals mg → FnG l.prog w K mg base (L2.CX l.prog w) k fa fd [x] sp)
    (cx : ∀ (w : World) (H : Hp) (s : Shared) (e : Value) (s' : Shared), L2.CX l.prog w [] H s (fun _ _ _ => False) e s' → False) : PySem.W.WalkO q loose XP YP l.row.toRowW d [] (fun f vs => PySem.call f vs) := by
  refine Att.attach_call hn hdf fun w s0 s1 mg mb fa o pm cd doc a vs ns G Y ho hd hcd hmg hobj hints hlen hg => ?_
  obtain ⟨K, fd, sp, KX, hb, hsp, hF⟩ := F w mg fa _ Y G.T.g hmg
  exact law_callG KX G.T.g G.T.b G.T.builtins G.T.nolimit hg hobj hints (Nat.le_trans hlen hn2) hr hF hb (fun H hO hS => hsp H a ns hlen hO hS) fun H e s' => cx w H s1 e s'
end Rf
/-! Reflection layer, part 34: the draws, plain. -/
namespace Rf
open PySem PySem.Spec PyProof.Rows L2
/-- what the draws' dict holds -/
structure DSt where
  wide : List Int
  cells : List Int
  rest : Int
  turn : Int
def blendStep (prime turn b g : Int) : Int := (b * 69621 + g + turn) % prime
def blendF (prime turn : Int) (cells : List Int) : Int := cells.foldl (blendStep prime turn) (48271 * turn + prime / 37)
def mixStep (turn : Int) (cells : List Int) (f p : Int) : Int := f * 2147483647 + blendF p turn cells ^ 5 % p
def primesL : List Int := [2147483647, 2147483629, 2147483587, 2147483579]
def mixF (turn : Int) (cells : List Int) : Int := primesL.foldl (mixStep turn cells) 0
/-- what is left, looked after -/
def restF (t : DSt) : Int × DSt := if t.rest = 0 then (match t.wide with
  | x :: ws => (x, { t with wide := ws })
  | [] => (mixF (t.turn + 1) t.cells, { t with turn := t.turn + 1 })) else (t.rest, t)
def turnMost : Int := 2 ^ 40
def takeF (t : DSt) (n : Int) : Option (Int × DSt) := if 0 < n ∧ n < 1073741824 ∧ 0 ≤ t.turn ∧ t.turn < turnMost then
    some ((restF t).1 % n, { (restF t).2 with rest := (restF t).1 / n }) else none
def kW : Key := .inr "wide"
def kC : Key := .inr "cells"
def kR : Key := .inr "rest"
def kT : Key := .inr "turn"
def drK (t : DSt) (aw ac : Addr) : List (Key × V) := [(kW, .ref aw), (kC, .ref ac), (kR, .int t.rest), (kT, .int t.turn)]
structure DrAt (dr : Addr) (t : DSt) (H : Hp) (aw ac : Addr) : Prop where
  n1 : dr ≠ aw
  n2 : dr ≠ ac
  n3 : aw ≠ ac
  d : H dr = some (.dK (drK t aw ac))
  w : H aw = some (.lst (t.wide.map .int))
  c : H ac = some (.lst (t.cells.map .int))
  lw : t.wide.length ≤ 63
  lc : t.cells.length ≤ 63
def drRel (dr : Addr) (Dm : Addr → Prop) (t : DSt) (H : Hp) : Prop := ∃ aw ac, DrAt dr t H aw ac ∧ ∀ a, Dm a ↔ (a = dr ∨ a = aw ∨ a = ac)
def drw : Drw where
  S := DSt
  take := takeF
  rel := drRel
  frame := fun {dr Dm s H H'} ⟨aw, ac, h, hd⟩ k => ⟨aw, ac, ⟨h.n1, h.n2, h.n3, (k _ ((hd _).mpr (.inl rfl))).trans h.d, (k _ ((hd _).mpr (.inr (.inl rfl)))).trans h.w, (k _ ((hd _).mpr (.inr (.inr rfl)))).trans h.c, h.lw, h.lc⟩, hd⟩
  dom := fun {dr Dm s H a} ⟨aw, ac, h, hd⟩ q => by
    rcases (hd a).mp q with rfl | rfl | rfl
    · exact ⟨_, h.d, trivial⟩
    · exact ⟨_, h.w, trivial⟩
    · exact ⟨_, h.c, trivial⟩
def wld : Wld := ⟨drw, fun _ => none⟩
/-! ### the mixed number, in the small language -/
def mMix1 : MS := .par [(1, false), (2, false)] (.cons (.op .add (.e (.sub (.pk 0) (.cst (.str "turn")))) (.e (.cst (.int 1)))) (.cons (.cst (.int 0)) .nil))
def mMixIn : MSs := .cons (.asg 4 (.op .mod (.e (.bi .int (.cons (.e (.op .add (.e (.op .add (.e (.op .mul (.pk 4) (.e (.cst (.int 69621))))) (.pk 5))) (.pk 1))) .nil))) (.pk 3))) .nil
def mMixB : MSs := .cons (.asg 4 (.op .add (.e (.op .mul (.e (.cst (.int 48271))) (.pk 1))) (.e (.op .fdiv (.pk 3) (.e (.cst (.int 37)))))))
  (.cons (.loop (.one 5) (.seq (.e (.sub (.pk 0) (.cst (.str "cells"))))) mMixIn)
  (.cons (.asg 2 (.op .add (.e (.op .mul (.pk 2) (.e (.cst (.int 2147483647))))) (.e (.op .mod (.e (.bi .int (.cons (.e (.op .pow (.pk 4) (.e (.cst (.int 5))))) .nil))) (.pk 3))))) .nil))
def mMix2 : MSs := .cons (.loop (.one 3) (.seq (.e (.lst (.cons (.cst (.int 2147483647)) (.cons (.cst (.int 2147483629)) (.cons (.cst (.int 2147483587)) (.cons (.cst (.int 2147483579)) .nil))))))) mMixB) (.cons (.ret (.var 2)) .nil)
def drD (t : DSt) : D := .dk [kW, kC, kR, kT] [.lst (t.wide.map .int), .lst (t.cells.map .int), .int t.rest, .int t.turn]
theorem keysNe : ("wide" : Str) ≠ "cells" ∧ ("wide" : Str) ≠ "rest" ∧ ("wide" : Str) ≠ "turn" ∧ ("cells" : Str) ≠ "rest" ∧ ("cells" : Str) ≠ "turn" ∧ ("rest" : Str) ≠ "turn" := by decide
theorem dr_wide (t : DSt) : subD (drD t) (.str "wide") = some (.lst (t.wide.map .int)) := by
  simp [drD, subD, getD?, keyOf, lookD, kW, kC, kR, kT]
theorem dr_cells (t : DSt) : subD (drD t) (.str "cells") = some (.lst (t.cells.map .int)) := by
  obtain ⟨a, b, c, d, e, f⟩ := keysNe
  simp [drD, subD, getD?, keyOf, lookD, kW, kC, kR, kT, a]
theorem dr_rest (t : DSt) : subD (drD t) (.str "rest") = some (.int t.rest) := by
  obtain ⟨a, b, c, d, e, f⟩ := keysNe
  simp [drD, subD, getD?, keyOf, lookD, kW, kC, kR, kT, b, d]
theorem dr_turn (t : DSt) : subD (drD t) (.str "turn") = some (.int t.turn) := by
  obtain ⟨a, b, c, d, e, f⟩ := keysNe
  simp [drD, subD, getD?, keyOf, lookD, kW, kC, kR, kT, c, e, f]
section
variable {F : Fs wld}
theorem setS_dat {e : En} {i : Nat} {d : D} (h : ∀ d', e[i]? ≠ some (.own d')) : setS e i (.dat d) = e.set i (.dat d) := by
  unfold setS
  split
  · next d' hd => exact absurd hd (h d')
  · rfl
theorem mix1_run {t : DSt} {x1 x2 x3 x4 x5 : Slot} (h1 : ∀ d, x1 ≠ .own d) (h2 : ∀ d, x2 ≠ .own d) : denS F mMix1 [.bor (drD t), x1, x2, x3, x4, x5] none = .ok (.nxt [.bor (drD t), .dat (.int (t.turn + 1)), .dat (.int 0), x3, x4, x5]) none := by
  have s1 : ∀ d, setS [.bor (drD t), x1, x2, x3, x4, x5] 1 (.dat d) = [.bor (drD t), .dat d, x2, x3, x4, x5] := fun d => setS_dat (by simpa using h1)
  have s2 : ∀ d d', setS [.bor (drD t), .dat d, x2, x3, x4, x5] 2 (.dat d') = [.bor (drD t), .dat d, .dat d', x3, x4, x5] := fun d d' => setS_dat (by simpa using h2)
  simp [mMix1, denS, denEs, denE, denV, viewS, dr_turn, opD, addD, parSet, s1, s2]
/-- the inner loop -/
theorem mixIn_run {x0 x2 : Slot} {turn prime : Int} (hp : 0 < prime) : ∀ (cs : List Int) (b : Int) (x5 : Slot), (∀ d, x5 ≠ .own d) → ∃ x5', (∀ d, x5' ≠ Slot.own d) ∧ loopFor (.one 5) (denSs F mMixIn) (cs.map .int) [x0, .dat (.int turn), x2, .dat (.int prime), .dat (.int b), x5] none = .ok (.nxt [x0, .dat (.int turn), x2, .dat (.int prime), .dat (.int (cs.foldl (blendStep prime turn) b)), x5']) none
  | [], b, x5, h => ⟨x5, h, rfl⟩
  | c :: cs, b, x5, h => by
    obtain ⟨x5', h', e⟩ := mixIn_run hp cs (blendStep prime turn b c) (.dat (.int c)) (fun d z => by cases z)
    refine ⟨x5', h', ?_⟩
    have s5 : setS [x0, .dat (.int turn), x2, .dat (.int prime), .dat (.int b), x5] 5 (.dat (.int c)) = [x0, .dat (.int turn), x2, .dat (.int prime), .dat (.int b), .dat (.int c)] := setS_dat (by simpa using h)
    have s4 : ∀ d, setS [x0, .dat (.int turn), x2, .dat (.int prime), .dat (.int b), .dat (.int c)] 4 (.dat d) = [x0, .dat (.int turn), x2, .dat (.int prime), .dat d, .dat (.int c)] := fun d => setS_dat (by simp)
    have body : denSs F mMixIn [x0, .dat (.int turn), x2, .dat (.int prime), .dat (.int b), .dat (.int c)] none = .ok (.nxt [x0, .dat (.int turn), x2, .dat (.int prime), .dat (.int (blendStep prime turn b c)), .dat (.int c)]) none := by
      simp [mMixIn, denSs, denS, denE, denV, denVs, viewS, opD, int2, mulD, addD, biD, hp, s4, blendStep]
    simp only [List.map_cons, loopFor, bindTg, s5, Rs.lift_some, Rs.bind_ok, body, List.foldl_cons]
    exact e
theorem blend_small {prime turn : Int} {cells : List Int} (h1 : 0 < prime) (h2 : prime < 2 ^ 31) (h3 : 0 ≤ turn) (h4 : turn ≤ turnMost) : (blendF prime turn cells).natAbs < 2 ^ 64 := by
  have key : ∀ (cs : List Int) (b : Int), 0 ≤ b → b < 2 ^ 60 → 0 ≤ cs.foldl (blendStep prime turn) b ∧ cs.foldl (blendStep prime turn) b < 2 ^ 60 := by
    intro cs
    induction cs with
    | nil => exact fun b h h' => ⟨h, h'⟩
    | cons c cs ih =>
      intro b _ _
      rw [List.foldl_cons]
      have q1 := Int.emod_nonneg (b * 69621 + c + turn) (show prime ≠ 0 by omega)
      have q2 := Int.emod_lt_of_pos (b * 69621 + c + turn) h1
      exact ih _ q1 (by unfold blendStep; omega)
  unfold turnMost at h4
  have q1 : 0 ≤ prime / 37 := Int.ediv_nonneg (by omega) (by omega)
  have q2 : prime / 37 ≤ prime := Int.ediv_le_self _ (by omega)
  obtain ⟨k1, k2⟩ := key cells (48271 * turn + prime / 37) (by omega) (by omega)
  unfold blendF
  omega
/-- one prime -/
theorem mixB_run {t : DSt} {turn found prime : Int} {x4 x5 : Slot} (hp : 0 < prime) (hp2 : prime < 2 ^ 31) (h3 : 0 ≤ turn) (h4 : turn ≤ turnMost) (n4 : ∀ d, x4 ≠ .own d) (n5 : ∀ d, x5 ≠ .own d) :
    ∃ x4' x5', (∀ d, x4' ≠ Slot.own d) ∧ (∀ d, x5' ≠ Slot.own d) ∧ denSs F mMixB [.bor (drD t), .dat (.int turn), .dat (.int found), .dat (.int prime), x4, x5] none = .ok (.nxt [.bor (drD t), .dat (.int turn), .dat (.int (mixStep turn t.cells found prime)), .dat (.int prime), x4', x5']) none := by
  have s4 : ∀ d, setS [.bor (drD t), .dat (.int turn), .dat (.int found), .dat (.int prime), x4, x5] 4 (.dat d) = [.bor (drD t), .dat (.int turn), .dat (.int found), .dat (.int prime), .dat d, x5] := fun d => setS_dat (by simpa using n4)
  obtain ⟨x5', h', e⟩ := mixIn_run (F := F) (x0 := .bor (drD t)) (x2 := .dat (.int found)) (turn := turn) hp t.cells (48271 * turn + prime / 37) x5 n5
  have bs := blend_small (cells := t.cells) hp hp2 h3 h4
  refine ⟨.dat (.int (blendF prime turn t.cells)), x5', (fun d z => by cases z), h', ?_⟩
  have s2 : ∀ d, setS [.bor (drD t), .dat (.int turn), .dat (.int found), .dat (.int prime), .dat (.int (blendF prime turn t.cells)), x5'] 2 (.dat d) = [.bor (drD t), .dat (.int turn), .dat d, .dat (.int prime), .dat (.int (blendF prime turn t.cells)), x5'] := fun d => setS_dat (by simp)
  have l1 : loopFor (.one 5) (denSs F mMixIn) (t.cells.map .int) [.bor (drD t), .dat (.int turn), .dat (.int found), .dat (.int prime), .dat (.int (48271 * turn + prime / 37)), x5] none = .ok (.nxt [.bor (drD t), .dat (.int turn), .dat (.int found), .dat (.int prime), .dat (.int (blendF prime turn t.cells)), x5']) none := e
  have q := hp2
  simp [mMixB, denSs, denS, denE, denV, denVs, denI, viewS, opD, int2, mulD, addD, biD, s4, loopOk, isKeys, calmIf, dr_cells, seqD, l1, hp, s2, bs, mixStep]
theorem mix2_run {t : DSt} {turn : Int} {x3 x4 x5 : Slot} (h3 : 0 ≤ turn) (h4 : turn ≤ turnMost) (n3 : ∀ d, x3 ≠ .own d) (n4 : ∀ d, x4 ≠ .own d) (n5 : ∀ d, x5 ≠ .own d) :
    denSs F mMix2 [.bor (drD t), .dat (.int turn), .dat (.int 0), x3, x4, x5] none = .ok (.ret (.int (mixF turn t.cells))) none := by
  have s3 : ∀ {f p : Int} {x3 x4 x5 : Slot}, (∀ d, x3 ≠ .own d) → setS [.bor (drD t), .dat (.int turn), .dat (.int f), x3, x4, x5] 3 (.dat (.int p)) = [.bor (drD t), .dat (.int turn), .dat (.int f), .dat (.int p), x4, x5] := fun n => setS_dat (by simpa using n)
  have dn : ∀ {d0 : D} (d : D), Slot.dat d0 ≠ Slot.own d := fun d z => by cases z
  obtain ⟨a4, a5, na4, na5, e1⟩ := mixB_run (F := F) (t := t) (turn := turn) (found := 0) (prime := 2147483647) (by omega) (by omega) h3 h4 n4 n5
  obtain ⟨b4, b5, nb4, nb5, e2⟩ := mixB_run (F := F) (t := t) (turn := turn) (found := mixStep turn t.cells 0 2147483647) (prime := 2147483629) (by omega) (by omega) h3 h4 na4 na5
  obtain ⟨c4, c5, nc4, nc5, e3⟩ := mixB_run (F := F) (t := t) (turn := turn) (found := mixStep turn t.cells (mixStep turn t.cells 0 2147483647) 2147483629) (prime := 2147483587) (by omega) (by omega) h3 h4 nb4 nb5
  obtain ⟨d4, d5, nd4, nd5, e4⟩ := mixB_run (F := F) (t := t) (turn := turn) (found := mixStep turn t.cells (mixStep turn t.cells (mixStep turn t.cells 0 2147483647) 2147483629) 2147483587) (prime := 2147483579) (by omega) (by omega) h3 h4 nc4 nc5
  have z4 : (4 : Nat) ≤ sizeLine := by decide
  have fr : freezeAll [.bor (drD t), .dat (.int turn), .dat (.int (mixF turn t.cells)), .dat (.int 2147483579), d4, d5] = [.bor (drD t), .dat (.int turn), .dat (.int (mixF turn t.cells)), .dat (.int 2147483579), freezeS d4, freezeS d5] := rfl
  have e4' : denSs F mMixB [.bor (drD t), .dat (.int turn), .dat (.int (mixStep turn t.cells (mixStep turn t.cells (mixStep turn t.cells 0 2147483647) 2147483629) 2147483587)), .dat (.int 2147483579), c4, c5] none = .ok (.nxt [.bor (drD t), .dat (.int turn), .dat (.int (mixF turn t.cells)), .dat (.int 2147483579), d4, d5]) none := e4
  simp [mMix2, denSs, denS, denE, denV, denEs, denI, loopOk, isKeys, calmIf, seqD, loopFor, bindTg, z4, s3 n3, e1, s3 (dn (d0 := .int 2147483647)), e2, s3 (dn (d0 := .int 2147483629)), e3, s3 (dn (d0 := .int 2147483587)), e4', fr, dataS]
end
end Rf
/-! Reflection layer, part 35: the draws' defs by hand. -/
namespace Rf
open PySem PySem.Spec PyProof.Rows L2
/-- a frame that sees plain data alone -/
def C0 (H : Hp) : Fc := ⟨H, H, fun _ => False, fun _ => False, 0⟩
inductive Sl1 (K : PySem.W.Frag) (H : Hp) : Slot → Option V → Prop
  | non {v : Option V} : Sl1 K H .non v
  | dat {v : V} {d : D} : Rp K H v d → Sl1 K H (.dat d) (some v)
  | bor {a : Addr} {d : D} : VRp K (fun _ => False) H H (.ref a) d → Sl1 K H (.bor d) (some (.ref a))
inductive SlL (K : PySem.W.Frag) (H : Hp) : En → L2.St → Prop
  | nil : SlL K H [] []
  | cons {t : Slot} {e : En} {v : Option V} {σ : L2.St} : Sl1 K H t v → SlL K H e σ → SlL K H (t :: e) (v :: σ)
theorem SlL.get {K : PySem.W.Frag} {H : Hp} : ∀ {e : En} {σ : L2.St}, SlL K H e σ → ∀ {i : Nat} {t : Slot}, e[i]? = some t → ∃ v, σ[i]? = some v ∧ Sl1 K H t v
  | _, _, .nil, i, t, h => by simp at h
  | _, _, .cons h r, 0, t, e => by simp at e; subst e; exact ⟨_, rfl, h⟩
  | _, _, .cons h r, i + 1, t, e => by
    obtain ⟨v, e1, z⟩ := r.get (i := i) (t := t) (by simpa using e)
    exact ⟨v, by simpa using e1, z⟩
theorem SlL.len {K : PySem.W.Frag} {H : Hp} : ∀ {e : En} {σ : L2.St}, SlL K H e σ → σ.length = e.length
  | _, _, .nil => rfl
  | _, _, .cons _ r => by simp [r.len]
theorem mask_false {H : Hp} : mask (fun _ => False) H = H := by
  funext a; unfold mask; simp
theorem rel0 {w : Wld} {K : PySem.W.Frag} {H : Hp} {e : En} {σ : L2.St} (h : SlL K H e σ) : Rel w K (C0 H) e (fun _ => 0) none σ H := by
  have no : ∀ (i : Nat) (d : D), e[i]? ≠ some (Slot.own d) := fun i d q => by
    obtain ⟨v, _, z⟩ := h.get q
    cases z
  have l : Le H (mask (Os (C0 H) e fun _ => 0) H) := fun a o q => ⟨o, mask_at (fun z => by
    rcases z with z | ⟨i, d, z, _⟩
    · exact z
    · exact no i d z) q, .refl o⟩
  refine ⟨.refl _, fun a z => z, fun a z => z, fun a z => z.elim, fun i t q => ?_, fun i d q => absurd q (no i d), fun i j d d' q => absurd q (no i d), h.len, mask_le⟩
  obtain ⟨v, e1, z⟩ := h.get q
  cases z with
  | non => trivial
  | dat r => exact ⟨_, e1, r.le l⟩
  | bor r => exact ⟨_, e1, r.le l (.refl _)⟩
section
variable {K : PySem.W.Frag} {H : Hp} {e : En} {σ : L2.St} {XE : Er → Value → Option Addr → Hp → Prop} {W : WX} {F : Fs wld}
/-- an expression of the frame gives its data -/
theorem read0 {α β : Type} {Z : Fc → En → (Nat → Addr) → Hp → Hp → β → α → Prop} {f : En → Option DSt → Rs (Option DSt) α} {d : α} {Q : β → Hp → Prop} (h : SlL K H e σ) (hd : f e none = .ok d none) (k : ∀ v H', (∀ a o, H a = some o → H' a = some o) → Z (C0 H) e (fun _ => 0) H H' v d → Q v H') : rd wld K XE W Z f σ H Q := by
  refine ⟨C0 H, e, fun _ => 0, none, rel0 h, ?_⟩
  have : f e (none : wld.T) = .ok d none := hd
  rw [this]
  exact fun v H' p z => k v H' (fun a o q => p.kp a o q (fun y => y)) z
end
theorem Sl1.le {K : PySem.W.Frag} {H H' : Hp} {t : Slot} {v : Option V} (h : Sl1 K H t v) (k : ∀ a o, H a = some o → H' a = some o) : Sl1 K H' t v := by
  have l : Le H H' := fun a o q => ⟨o, k a o q, .refl o⟩
  cases h with
  | non => exact .non
  | dat r => exact .dat (r.le l)
  | bor r => exact .bor (r.le l fun a o q _ => k a o q)
theorem SlL.le {K : PySem.W.Frag} {H H' : Hp} : ∀ {e : En} {σ : L2.St}, SlL K H e σ → (∀ a o, H a = some o → H' a = some o) → SlL K H' e σ
  | _, _, .nil, _ => .nil
  | _, _, .cons h r, k => .cons (h.le k) (r.le k)
theorem ints_rp {K : PySem.W.Frag} {H : Hp} : ∀ ns : List Int, RpA K H (ns.map .int) (ns.map .int)
  | [] => .nil
  | n :: ns => .cons (.int n) (ints_rp ns)
theorem DrAt.bor {K : PySem.W.Frag} {dr aw ac : Addr} {t : DSt} {H : Hp} (h : DrAt dr t H aw ac) : VRp K (fun _ => False) H H (.ref dr) (drD t) :=
  .dk (vs := [.ref aw, .ref ac, .int t.rest, .int t.turn]) (fun z => z) rfl (.inl h.d) (.cons (.lst h.w (ints_rp _)) (.cons (.lst h.c (ints_rp _)) (.cons (.int _) (.cons (.int _) .nil))))
/-! ### _law_mixed -/
def N6 : List Str := ["draw", "turn", "found", "prime", "blend", "grain"]
def cx0 (scope : Scope) (N : List Str) : Cc := ⟨scope, N, [], [], none, [], [], [], fun _ => true⟩
def F0 : Fs wld := fun _ _ _ => .stuck
theorem xok0 {P : Program} {wd : World} {K : PySem.W.Frag} {mg : Str → Option Value} {base : Heap} {XE : Er → Value → Option Addr → Hp → Prop} {N ps : List Str} {qual : Str} {scope : Scope} {f : Addr} {cdv : Value} {A : Around} {outer : List Env} {s : Shared} {H : Hp} {E : XK} {k : Nat} (S : FnScope N ps scope) (bl : ∀ y ∈ bnames, mg y = none)
    (g : A.guards = some []) (hr : Room k (A.deeper (envOfC qual scope s.heap.objs.size f cdv))) : XOk wld (cxOf (L2.CX P wd) P wd K mg base N qual scope f cdv A outer s H E) XE F0 k (cx0 scope N) where
  sc := rfl
  N := rfl
  nd := S.nd
  kind := S.kind
  calm := rfl
  gd := g
  rm := hr
  fn := rfl
  bl := fun y hy _ => bl y hy
  fns := fun x i ps h => by cases h
  tkn := fun x h => by cases h
  glb := rfl
def spMix : Sp := fun vs H Q _ => ∃ (dr aw ac : Addr) (t : DSt), vs = [.ref dr] ∧ DrAt dr t H aw ac ∧ 0 ≤ t.turn ∧ t.turn < turnMost ∧
  ∀ H', DrAt dr { t with turn := t.turn + 1 } H' aw ac → (∀ a o, H a = some o → a ≠ dr → H' a = some o) → Q (.int (mixF (t.turn + 1) t.cells)) H'
theorem dr_put {dr aw ac : Addr} {t : DSt} {H : Hp} (h : DrAt dr t H aw ac) (i : Int) : DPut H dr (.str "turn") (.int i) (upd H dr (.dK (drK { t with turn := i } aw ac))) ∧ DrAt dr { t with turn := i } (upd H dr (.dK (drK { t with turn := i } aw ac))) aw ac := by
  obtain ⟨a, b, c, d, e, f⟩ := keysNe
  refine ⟨.inl ⟨_, kT, h.d, rfl, by show 4 < sizeLine; decide, ?_⟩, ⟨h.n1, h.n2, h.n3, upd_same, by rw [upd_ne (Ne.symm h.n1)]; exact h.w, by rw [upd_ne (Ne.symm h.n2)]; exact h.c, h.lw, h.lc⟩⟩
  congr 2
theorem dr_putR {dr aw ac : Addr} {t : DSt} {H : Hp} (h : DrAt dr t H aw ac) (i : Int) : DPut H dr (.str "rest") (.int i) (upd H dr (.dK (drK { t with rest := i } aw ac))) ∧ DrAt dr { t with rest := i } (upd H dr (.dK (drK { t with rest := i } aw ac))) aw ac := by
  obtain ⟨a, b, c, d, e, f⟩ := keysNe
  refine ⟨.inl ⟨_, kR, h.d, rfl, by show 4 < sizeLine; decide, ?_⟩, ⟨h.n1, h.n2, h.n3, upd_same, by rw [upd_ne (Ne.symm h.n1)]; exact h.w, by rw [upd_ne (Ne.symm h.n2)]; exact h.c, h.lw, h.lc⟩⟩
  congr 2
theorem DrAt.keep {dr aw ac : Addr} {t : DSt} {H H' : Hp} (h : DrAt dr t H aw ac) (k : ∀ a o, H a = some o → H' a = some o) : DrAt dr t H' aw ac := ⟨h.n1, h.n2, h.n3, k _ _ h.d, k _ _ h.w, k _ _ h.c, h.lw, h.lc⟩
end Rf
/-! Reflection layer, part 36: _law_mixed, _law_take. -/
namespace Rf
open PySem PySem.Spec PyProof.Rows L2
section
variable {P : Program} {wd : World} {K : PySem.W.Frag} {mg : Str → Option Value} {base : Heap}
def XE0 : Er → Value → Option Addr → Hp → Prop := fun _ _ _ _ => False
def mixA : ME := .op .add (.e (.sub (.pk 0) (.cst (.str "turn")))) (.e (.cst (.int 1)))
theorem mixA_run {t : DSt} {r : En} : denE F0 mixA (.bor (drD t) :: r) (none : wld.T) = .ok (.int (t.turn + 1)) none := by
  simp [mixA, denE, denV, viewS, dr_turn, opD, addD]
theorem mix_ok {x : Str} {params : Arguments} {scope : Scope} {f : Addr} {fd : FuncData} {a1 : Expr} {s3 : List Stmt} {p1 p2 p3 p4 p5 p6 p7 p8 p9 q1 q2 : Pos} {k0 k1 k2 k3 : Nat} (bl : ∀ y ∈ bnames, mg y = none)
    (F : FunD K x x params (.Assign [.Tuple [.Name "turn" p1, .Name "found" p2] k0 p3] (.Tuple [a1, .Constant (.int 0) k1 p4] k2 p5) p6 :: .Assign [.Subscript (.Name "draw" p7) (.Constant (.str "turn") k3 p8) p9] (.Name "turn" q1) q2 :: s3) scope [] [] f fd) (S : FnScope N6 ["draw"] scope)
    (l1 : scope.names.lookup ("turn" : Str) = some .local) (l2 : scope.names.lookup ("found" : Str) = some .local) (l0 : scope.names.lookup ("draw" : Str) = some .local) (hl : (p2.line == p1.line) = true)
    (na : notStar a1 = true) (hf : foldedForSure 8 a1 = false) (hc : constantsAlone 8 a1 = false) (c1 : convE 40 (cx0 scope N6) a1 = some mixA) (c3 : convSs 60 (cx0 scope N6) [] s3 = some mMix2) : FnG P wd K mg base (L2.CX P wd) 1 f fd ["draw"] spMix := by
  refine fnG_of F S (fun vs H Q E h => by obtain ⟨dr, aw, ac, t, rfl, _⟩ := h; rfl) fun cdv A outer s H vs Q E g hr hsp => ?_
  obtain ⟨dr, aw, ac, t, rfl, ht, t0, t1, hQ⟩ := hsp
  have ok := xok0 (P := P) (wd := wd) (K := K) (mg := mg) (base := base) (XE := XE0) (qual := x) (f := f) (cdv := cdv) (outer := outer) (s := s) (H := H) (E := E) S bl g hr
  have tk : Takes (cxOf (L2.CX P wd) P wd K mg base N6 x scope f cdv A outer s H E) (fun cls d _ H' => E cls d H') := takes_of rfl rfl rfl rfl
  have e1 := (convE_ok 40 ok tk _ _ c1).pe
  have w3 := (convS_ok (passes_of rfl) ok tk (mu := []) 60).2 _ _ c3
  have sw := (swp2 (x := ("turn" : Str)) (y := ("found" : Str)) (px := p1) (py := p2) (a := a1) (b := .Constant (.int 0) k1 p4) (k := k0) (k2 := k2) (p := p3) (p2 := p5) (env := (cxOf (L2.CX P wd) P wd K mg base N6 x scope f cdv A outer s H E).env) S.kind na rfl l1 l2 hl (by decide)).2 (by rw [List.all_cons, hf]; rfl) (by rw [List.all_cons, hc]; rfl)
  have v0 : Vis (cxOf (L2.CX P wd) P wd K mg base N6 x scope f cdv A outer s H E).env.scope ("draw" : Str) := .inl l0
  have v1 : Vis (cxOf (L2.CX P wd) P wd K mg base N6 x scope f cdv A outer s H E).env.scope ("turn" : Str) := .inl l1
  refine ⟨_, pss_cons (ps_par (i := 1) (j := 2) rfl S.nd rfl rfl (by decide) l1 l2 (pa_cons e1 (pa_cons pe_int pa_nil (star_cons rfl)) (star_cons na)) sw rfl)
    (pss_cons (ps_dput (by have := ok.hu; omega) (pe_var (i := 0) rfl v0 (by decide) (by decide)) pe_str (pe_var (i := 1) rfl v1 (by decide) (by decide)) rfl) w3), ?_⟩
  -- the frame at its entry
  have sl : SlL K H [.bor (drD t), .non, .non, .non, .non, .non] (L2.start N6 [.ref dr]) := .cons (.bor ht.bor) (.cons .non (.cons .non (.cons .non (.cons .non (.cons .non .nil)))))
  refine (show rd wld K XE0 (fun cls d _ H' => E cls d H') (ZE K) (denE F0 mixA) (L2.start N6 [.ref dr]) H _ from read0 sl mixA_run fun v H1 k1 z => ?_)
  have ev : v = .int (t.turn + 1) := Rp.intv z
  subst ev
  refine ⟨_, _, rfl, _, rfl, _, rfl, dr, upd H1 dr (.dK (drK { t with turn := t.turn + 1 } aw ac)), rfl, ?_⟩
  obtain ⟨d1, d2⟩ := dr_put (ht.keep k1) (t.turn + 1)
  refine ⟨d1, ?_⟩
  -- the rest
  have sl2 : SlL K (upd H1 dr (.dK (drK { t with turn := t.turn + 1 } aw ac))) [.bor (drD { t with turn := t.turn + 1 }), .dat (.int (t.turn + 1)), .dat (.int 0), .non, .non, .non] (((L2.start N6 [.ref dr]).set 1 (some (.int (t.turn + 1)))).set 2 (some (.int 0))) := .cons (.bor d2.bor) (.cons (.dat (.int _)) (.cons (.dat (.int _)) (.cons .non (.cons .non (.cons .non .nil)))))
  refine ⟨C0 _, _, _, none, rel0 sl2, ?_⟩
  have run := mix2_run (F := F0) (t := { t with turn := t.turn + 1 }) (turn := t.turn + 1) (x3 := .non) (x4 := .non) (x5 := .non) (by omega) (by omega) (fun d z => by cases z) (fun d z => by cases z) (fun d z => by cases z)
  rw [run]
  intro v H2 kp _ zv
  have ev : v = .int (mixF (t.turn + 1) t.cells) := Rp.intv zv
  subst ev
  have kp2 : ∀ a o, upd H1 dr (.dK (drK { t with turn := t.turn + 1 } aw ac)) a = some o → H2 a = some o := fun a o q => kp a o q (fun y => y)
  exact hQ H2 (d2.keep kp2) fun a o q n => kp2 a o (by rw [upd_ne n]; exact k1 a o q)
end
end Rf
/-! Reflection layer, part 37: _law_take. -/
namespace Rf
open PySem PySem.Spec PyProof.Rows L2
theorem shaped_int (i : Int) : shaped (.int i) = true := rfl
theorem eqv_int (i j : Int) : eqvD (.int i) (.int j) = decide (i = j) := by
  unfold eqvD
  simp [toPy, PyData.eqv]
  by_cases h : i = j <;> simp [h]
theorem ints_can : ∀ ns : List Int, PyData.canLayAll0 (toPyA (ns.map .int)) = true
  | [] => rfl
  | n :: ns => by simp [toPyA, toPy, PyData.canLayAll0, PyData.canLay0, ints_can ns]
theorem ints_depth : ∀ ns : List Int, PyData.depthAll (toPyA (ns.map .int)) ≤ 1
  | [] => by simp [toPyA, PyData.depthAll]
  | n :: ns => by
    have := ints_depth ns
    simp [toPyA, toPy, PyData.depthAll, PyData.depth]
    omega
theorem shaped_ints (ns : List Int) : shaped (.lst (ns.map .int)) = true := by
  have h1 := ints_can ns
  have h2 := ints_depth ns
  simp [shaped, toPy, SeqAt.shaped, PyData.canLay0, PyData.depth, h1]
  omega
def tkT : ME := .op .eq (.e (.sub (.pk 0) (.cst (.str "rest")))) (.e (.cst (.int 0)))
def tkW : ME := .op .ne (.e (.sub (.pk 0) (.cst (.str "wide")))) (.e (.lst .nil))
def tkF : ME := .op .mod (.e (.bi .int (.cons (.e (.sub (.pk 0) (.cst (.str "rest")))) .nil))) (.pk 1)
def tkR : ME := .op .fdiv (.e (.sub (.pk 0) (.cst (.str "rest")))) (.pk 1)
theorem tkT_run {t : DSt} {r : En} : denT F0 tkT (.bor (drD t) :: r) (none : wld.T) = .ok (decide (t.rest = 0)) none := by
  simp [tkT, denT, denE, denV, viewS, dr_rest, opD, shaped_int, eqv_int, truth]
theorem tkW_run {t : DSt} {r : En} : denT F0 tkW (.bor (drD t) :: r) (none : wld.T) = .ok (!t.wide.isEmpty) none := by
  have z : (0 : Nat) ≤ sizeLine := Nat.zero_le _
  have s0 : shaped (.lst []) = true := rfl
  have e1 : eqvD (.lst (t.wide.map .int)) (.lst []) = t.wide.isEmpty := by
    cases h : t.wide with
    | nil => simp [eqvD, toPy, toPyA, PyData.eqv, PyData.eqvAll]
    | cons x xs => simp [eqvD, toPy, toPyA, PyData.eqv, PyData.eqvAll]
  simp [tkW, denT, denE, denEs, denV, viewS, dr_wide, opD, shaped_ints, s0, e1, truth]
theorem tkF_run {t : DSt} {n : Int} {r : En} (h : 0 < n) : denE F0 tkF (.bor (drD t) :: .dat (.int n) :: r) (none : wld.T) = .ok (.int (t.rest % n)) none := by
  simp [tkF, denE, denV, denVs, viewS, dr_rest, opD, int2, biD, h]
theorem tkR_run {t : DSt} {n : Int} {r : En} (h : 0 < n) (h2 : n < 1073741824) : denE F0 tkR (.bor (drD t) :: .dat (.int n) :: r) (none : wld.T) = .ok (.int (t.rest / n)) none := by
  simp [tkR, denE, denV, viewS, dr_rest, opD, int2, h, h2]
def N3 : List Str := ["draw", "many", "found"]
theorem dr_get {dr aw ac : Addr} {t : DSt} {H : Hp} (h : DrAt dr t H aw ac) : DGet H dr (.str "wide") (some (.ref aw)) := by
  refine .inl ⟨_, kW, .inl h.d, rfl, ?_⟩
  simp [drK, valV, kW]
section
variable {P : Program} {wd : World} {K : PySem.W.Frag} {mg : Str → Option Value} {base : Heap}
/-- the text of _law_take -/
def takeB (c1 cw eF eR : Expr) (xm : Str) (p1 p2 p3 p4 p5 p6 p7 p8 p9 q1 q2 q3 q4 q5 q6 r1 r2 r3 r4 r5 r6 r7 r8 : Pos) (k1 k2 k3 k4 : Nat) : List Stmt :=
  [.If c1 [.Assign [.Subscript (.Name "draw" p1) (.Constant (.str "rest") k1 p2) p3] (.IfExp cw (.Call (.Attribute (.Subscript (.Name "draw" p4) (.Constant (.str "wide") k2 p5) p6) "pop" p7) [.Constant (.int 0) k3 p8] [] p9) (.Call (.Name xm q1) [.Name "draw" q2] [] q3) q4) q5] [] q6,
    .Assign [.Name "found" r1] eF r2, .Assign [.Subscript (.Name "draw" r3) (.Constant (.str "rest") k4 r4) r5] eR r6, .Return (some (.Name "found" r7)) r8]
theorem take_ok {x xm : Str} {params : Arguments} {scope : Scope} {f fM : Addr} {fd fdM : FuncData} {c1 cw eF eR : Expr} {p1 p2 p3 p4 p5 p6 p7 p8 p9 q1 q2 q3 q4 q5 q6 r1 r2 r3 r4 r5 r6 r7 r8 : Pos} {k1 k2 k3 k4 : Nat} (bl : ∀ y ∈ bnames, mg y = none)
    (F : FunD K x x params (takeB c1 cw eF eR xm p1 p2 p3 p4 p5 p6 p7 p8 p9 q1 q2 q3 q4 q5 q6 r1 r2 r3 r4 r5 r6 r7 r8 k1 k2 k3 k4) scope [] [] f fd) (S : FnScope N3 ["draw", "many"] scope)
    (l0 : scope.names.lookup ("draw" : Str) = some .local) (l2 : scope.names.lookup ("found" : Str) = some .local) (lm : scope.names.lookup xm = some .globalImplicit) (hdb : (xm == ("__debug__" : Str)) = false) (ln : (p7.endLine == p9.line) = true)
    (M : FnG P wd K mg base (L2.CX P wd) 1 fM fdM ["draw"] spMix) (mM : mg xm = some (.ref fM)) (kM : PySem.W.keepIn K (.ref fM) = true) (bM : Binds K fdM ["draw"] [])
    (nF : notComp eF = true) (nR : notComp eR = true) (t1 : testOk c1 = true) (t2 : testOk cw = true) (c1e : convE 40 (cx0 scope N3) c1 = some tkT) (cwe : convE 40 (cx0 scope N3) cw = some tkW) (cFe : convE 40 (cx0 scope N3) eF = some tkF) (cRe : convE 40 (cx0 scope N3) eR = some tkR) :
    FnG P wd K mg base (L2.CX P wd) 2 f fd ["draw", "many"] (spTake wld) := by
  refine fnG_of F S (fun vs H Q E h => by obtain ⟨dr, Dm, t, t', n, r, rfl, _⟩ := h; rfl) fun cdv A outer s H vs Q E g hr hsp => ?_
  obtain ⟨dr, Dm, t, t', n, r, rfl, ⟨aw, ac, ht, hD⟩, htk, hQ⟩ := hsp
  have htk : takeF t n = some (r, t') := htk
  unfold takeF at htk
  split at htk
  case isFalse => cases htk
  case isTrue hn =>
  obtain ⟨n0, n1, u0, u1⟩ := hn
  have htk := Prod.mk.inj (Option.some.inj htk)
  have er : (restF t).1 % n = r := htk.1
  have et : (⟨(restF t).2.wide, (restF t).2.cells, (restF t).1 / n, (restF t).2.turn⟩ : DSt) = t' := htk.2
  have ok := xok0 (P := P) (wd := wd) (K := K) (mg := mg) (base := base) (XE := XE0) (qual := x) (f := f) (cdv := cdv) (outer := outer) (s := s) (H := H) (E := E) S bl g hr
  have tk : Takes (cxOf (L2.CX P wd) P wd K mg base N3 x scope f cdv A outer s H E) (fun cls d _ H' => E cls d H') := takes_of rfl rfl rfl rfl
  have hT := (convE_ok 40 ok tk _ _ c1e).pt t1
  have hW := (convE_ok 40 ok tk _ _ cwe).pt t2
  have hF := (convE_ok 40 ok tk _ _ cFe).pe
  have hR := (convE_ok 40 ok tk _ _ cRe).pe
  have v0 : Vis (cxOf (L2.CX P wd) P wd K mg base N3 x scope f cdv A outer s H E).env.scope ("draw" : Str) := .inl l0
  have v2 : Vis (cxOf (L2.CX P wd) P wd K mg base N3 x scope f cdv A outer s H E).env.scope ("found" : Str) := .inl l2
  have hu := ok.hu
  have gx : Gl (cxOf (L2.CX P wd) P wd K mg base N3 x scope f cdv A outer s H E) xm := lm
  have rw1 := row1 (X := cxOf (L2.CX P wd) P wd K mg base N3 x scope f cdv A outer s H E) (y := "draw") (m := "pop") (yp := p4) (apos := p7) (cpos := p9) (e := .Constant (.int 0) k3 p8) rfl ln
  refine ⟨_, pss_cons (ps_if hT (pss_one (ps_dput (by omega) (pe_var (i := 0) rfl v0 (by decide) (by decide)) pe_str
      (pe_ifExp hW (pe_bm (T := "list") (id := "list.pop") PySem.F.plainAttrs_list PySem.F.slot_list_pop PySem.F.type_list_pop mt_popAt (pe_dget (by omega) (pe_var (i := 0) rfl v0 (by decide) (by decide)) pe_str (fun _ _ => rfl)) (pa_cons pe_int pa_nil (star_cons rfl)) rfl rw1.m1.few ln rw1.st rw1.pl)
        (pe_callG (E := WE (fun cls d _ H' => E cls d H')) M g (hr.mono (Nat.le_refl _)) gx mM kM bM (fun σ => passAt tk σ) (pa_cons (pe_var (i := 0) rfl v0 (by decide) (by decide)) pa_nil (star_cons rfl)) hdb (star_cons rfl) rfl)) rfl)) pss_nil)
    (pss_cons (ps_set (i := 2) S.nd rfl (.inl l2) hF (swaps_no nF) (.inl rfl))
      (pss_cons (ps_dput (by omega) (pe_var (i := 0) rfl v0 (by decide) (by decide)) pe_str hR (swaps_no nR)) (pss_one (ps_ret (pe_var (i := 2) rfl v2 (by decide) (by decide)))))), ?_⟩
  -- behind the first statement: rest is what is left
  have tail : ∀ (u : DSt) (H2 : Hp), DrAt dr u H2 aw ac → (∀ a o, H a = some o → ¬ Dm a → H2 a = some o) → u.rest = (restF t).1 → { u with rest := (restF t).1 / n } = t' → 
      tSeq (tAsg (rd wld K XE0 (fun cls d _ H' => E cls d H') (ZE K) (denE F0 tkF)) (gName 2)) (tSeq (sDPut (tVar 0) (tC (.str "rest")) (rd wld K XE0 (fun cls d _ H' => E cls d H') (ZE K) (denE F0 tkR))) (tRet (tVar 2))) { nx := fun _ H' => Q .non H', rt := Q } (L2.start N3 [.ref dr, .int n]) H2 := by
    intro u H2 hu2 kp er1 et1
    have sl : SlL K H2 [.bor (drD u), .dat (.int n), .non] (L2.start N3 [.ref dr, .int n]) := .cons (.bor hu2.bor) (.cons (.dat (.int _)) (.cons .non .nil))
    refine (show rd wld K XE0 (fun cls d _ H' => E cls d H') (ZE K) (denE F0 tkF) (L2.start N3 [.ref dr, .int n]) H2 _ from read0 sl (tkF_run n0) fun v H3 k3' z => ?_)
    have ev : v = .int (u.rest % n) := Rp.intv z
    subst ev
    have hu3 := hu2.keep k3'
    have sl2 : SlL K H3 [.bor (drD u), .dat (.int n), .dat (.int (u.rest % n))] ((L2.start N3 [.ref dr, .int n]).set 2 (some (.int (u.rest % n)))) := .cons (.bor hu3.bor) (.cons (.dat (.int _)) (.cons (.dat (.int _)) .nil))
    refine (show rd wld K XE0 (fun cls d _ H' => E cls d H') (ZE K) (denE F0 tkR) ((L2.start N3 [.ref dr, .int n]).set 2 (some (.int (u.rest % n)))) H3 _ from read0 sl2 (tkR_run n0 n1) fun v H4 k4' z => ?_)
    have ev : v = .int (u.rest / n) := Rp.intv z
    subst ev
    obtain ⟨d1, d2⟩ := dr_putR (hu3.keep k4') (u.rest / n)
    refine ⟨_, rfl, dr, _, rfl, d1, _, rfl, ?_⟩
    show Q (.int (u.rest % n)) _
    rw [er1] at d2 ⊢
    rw [er, ← er1] 
    rw [er1]
    refine hQ _ (fun a o h nd => ?_) ⟨aw, ac, by rw [← et1]; exact d2, hD⟩
    rw [upd_ne fun z => nd (by rw [z]; exact (hD _).mpr (.inl rfl))]
    exact k4' _ _ (k3' _ _ (kp a o h nd))
  have sl : SlL K H [.bor (drD t), .dat (.int n), .non] (L2.start N3 [.ref dr, .int n]) := .cons (.bor ht.bor) (.cons (.dat (.int _)) (.cons .non .nil))
  refine (show rd wld K XE0 (fun cls d _ H' => E cls d H') ZB (denT F0 tkT) (L2.start N3 [.ref dr, .int n]) H _ from read0 sl tkT_run fun b H1 k1' z => ?_)
  have eb : b = decide (t.rest = 0) := z
  subst eb
  have ht1 := ht.keep k1'
  by_cases h0 : t.rest = 0
  · rw [if_pos (decide_eq_true h0)]
    have sl1 := sl.le k1'
    refine (show rd wld K XE0 (fun cls d _ H' => E cls d H') ZB (denT F0 tkW) (L2.start N3 [.ref dr, .int n]) H1 _ from read0 sl1 tkW_run fun b H2 k2' z => ?_)
    have eb : b = !t.wide.isEmpty := z
    subst eb
    have ht2 := ht1.keep k2'
    cases hw : t.wide with
    | cons y ws =>
      rw [if_pos (by simp)]
      -- the first of the wide ones
      have hw2 : H2 aw = some (.lst ((y :: ws).map .int)) := by rw [← hw]; exact ht2.w
      refine ⟨_, rfl, dr, _, rfl, dr_get ht2, .inl ⟨rfl, _, .inl (.inl hw2)⟩, aw, _, 0, 0, .int y, rfl, rfl, hw2, by decide, by decide, by simp [seqIndex?], rfl, ?_⟩
      have d0 : DrAt dr { t with wide := ws } (upd H2 aw (.lst (((y :: ws).map V.int).eraseIdx 0))) aw ac := ⟨ht2.n1, ht2.n2, ht2.n3, by rw [upd_ne ht2.n1]; exact ht2.d, by rw [upd_same]; rfl, by rw [upd_ne (Ne.symm ht2.n3)]; exact ht2.c, by have := ht2.lw; rw [hw] at this; simp at this ⊢; omega, ht2.lc⟩
      obtain ⟨d1, d2⟩ := dr_putR d0 y
      refine ⟨_, rfl, dr, _, rfl, d1, tail _ _ d2 (fun a o h nd => ?_) ?_ ?_⟩
      · rw [upd_ne fun z => nd (by rw [z]; exact (hD _).mpr (.inl rfl)), upd_ne fun z => nd (by rw [z]; exact (hD _).mpr (.inr (.inl rfl)))]
        exact k2' _ _ (k1' _ _ h)
      · simp [restF, h0, hw]
      · rw [← et]; simp [restF, h0, hw]; rfl
    | nil =>
      rw [if_neg (by simp)]
      refine ⟨_, rfl, dr, aw, ac, t, rfl, ht2, u0, u1, fun H3 d3 k3' => ?_⟩
      obtain ⟨d1, d2⟩ := dr_putR d3 (mixF (t.turn + 1) t.cells)
      refine ⟨_, rfl, dr, _, rfl, d1, tail _ _ d2 (fun a o h nd => ?_) ?_ ?_⟩
      · rw [upd_ne fun z => nd (by rw [z]; exact (hD _).mpr (.inl rfl))]
        exact k3' _ _ (k2' _ _ (k1' _ _ h)) fun z => nd (by rw [z]; exact (hD _).mpr (.inl rfl))
      · simp [restF, h0, hw]
      · rw [← et]; simp [restF, h0, hw]; rfl
  · rw [if_neg (by simpa using h0)]
    exact tail t H1 ht1 (fun a o h _ => k1' a o h) (by simp [restF, h0]) (by rw [← et]; simp [restF, h0]; rfl)
end
end Rf
/-! Reflection layer, part 38: _law_begun. -/
namespace Rf
open PySem PySem.Spec PyProof.Rows L2
def Nb : List Str := ["script", "wide", "grain"]
def big : Int := 10 ^ 18
def absI (g : Int) : Int := if g < 0 then -g else g
def begunF (ns : List Int) : DSt := ⟨(ns.filter fun g => decide (big ≤ absI g)).map fun g => absI g - big, ns.map fun g => absI g % 2147483629, 0, 0⟩
section
variable {K : PySem.W.Frag} {H : Hp}
theorem sq_keep {a : Addr} {vs : List V} {H' : Hp} (k : ∀ b o, H b = some o → H' b = some o) (h : SqL K H a vs) : SqL K H' a vs := by
  rcases h with (z | ⟨q, z⟩) | z
  · exact .inl (.inl (k _ _ z))
  · exact .inl (.inr ⟨q, k _ _ z⟩)
  · exact .inr z
/-- a list made of the script's numbers -/
theorem ints_lc {c : MO} {m : ME} {p : Int → Bool} {f : Int → Int} {a : Addr} {ns : List Int} {x1 x2 : Option V} {Q : VK} (hs : SqL K H a (ns.map V.int)) (hl : ns.length ≤ 63) (hc : ∀ g, denC F0 c [.non, .non, .dat (.int g)] (none : wld.T) = .ok (p g) none) (hm : ∀ g, denE F0 m [.non, .non, .dat (.int g)] (none : wld.T) = .ok (.int (f g)) none)
    (hQ : ∀ D H', H D = none → (∀ b o, H b = some o → H' b = some o) → H' D = some (.lst (((ns.filter p).map f).map V.int)) → Q (.ref D) H') :
    tLc (iList K (tVar 0)) (gName 2) (rd wld K XE0 W0 ZB (denC F0 c)) (rd wld K XE0 W0 (ZE K) (denE F0 m)) [2] [some (.ref a), x1, x2] H Q := by
  refine ⟨_, rfl, a, rfl, ⟨_, hs⟩, fun D nD => ?_⟩
  have ln := line63
  refine lc_list (xs := ns.map V.int) (fun i H' => (∀ b o, H b = some o → H' b = some o) ∧ H' D = some (.lst ((((ns.take i).filter p).map f).map V.int))) ⟨fun b o h => by rw [upd_ne (ne_of_none h nD)]; exact h, upd_same⟩ (fun i H' _ h => sq_keep h.1 hs) (fun i x H' hx h => ?_) fun H' h => ?_
  · rw [List.getElem?_map] at hx
    cases hg : ns[i]? with
    | none => rw [hg] at hx; cases hx
    | some g =>
      rw [hg] at hx
      cases hx
      have tk : ns.take (i + 1) = ns.take i ++ [g] := by rw [List.take_succ, hg]; rfl
      refine ⟨rfl, ?_⟩
      have sl : SlL K H' [.non, .non, .dat (.int g)] [some (.ref a), x1, some (.int g)] := .cons .non (.cons .non (.cons (.dat (.int _)) .nil))
      refine (show rd wld K XE0 W0 ZB (denC F0 c) [some (.ref a), x1, some (.int g)] H' _ from read0 sl (hc g) fun b H3 k3 z => ?_)
      have eb : b = p g := z
      subst eb
      cases hp : p g with
      | false =>
        rw [if_neg Bool.false_ne_true]
        refine ⟨fun b o q => k3 _ _ (h.1 b o q), ?_⟩
        rw [k3 _ _ h.2, tk, List.filter_append]
        simp [hp]
      | true =>
        rw [if_pos rfl]
        refine (show rd wld K XE0 W0 (ZE K) (denE F0 m) [some (.ref a), x1, some (.int g)] H3 _ from read0 (sl.le k3) (hm g) fun y H4 k4 z => ?_)
        have ey : y = .int (f g) := Rp.intv z
        subst ey
        refine ⟨_, k4 _ _ (k3 _ _ h.2), ?_, fun b o q => ?_, ?_⟩
        · have h1 : ((((ns.take i).filter p).map f).map V.int).length ≤ ns.length := by
            rw [List.length_map, List.length_map]
            exact Nat.le_trans (List.length_filter_le ..) (by rw [List.length_take]; exact Nat.min_le_right ..)
          have : (63 : Nat) < sizeLine := by decide
          omega
        · rw [upd_ne (ne_of_none q nD)]; exact k4 _ _ (k3 _ _ (h.1 b o q))
        · rw [upd_same, tk, List.filter_append]
          simp [hp]
  · have : (ns.map V.int).length = ns.length := List.length_map ..
    rw [this, List.take_length] at h
    exact hQ D H' nD h.1 h.2
end
def bgC : MO := .yes (.op .ge (.e (.bi .abs (.cons (.pk 2) .nil))) (.e (.op .pow (.e (.cst (.int 10))) (.e (.cst (.int 18))))))
def bgE : ME := .op .sub (.e (.bi .abs (.cons (.pk 2) .nil))) (.e (.op .pow (.e (.cst (.int 10))) (.e (.cst (.int 18)))))
def bgM : ME := .op .mod (.e (.bi .int (.cons (.e (.bi .abs (.cons (.pk 2) .nil))) .nil))) (.e (.cst (.int 2147483629)))
theorem bgC_run (g : Int) : denC F0 bgC [.non, .non, .dat (.int g)] (none : wld.T) = .ok (decide (big ≤ absI g)) none := by
  simp [bgC, denC, denE, denV, denVs, viewS, biD, opD, int2, truth, big, absI]
  congr
theorem bgE_run (g : Int) : denE F0 bgE [.non, .non, .dat (.int g)] (none : wld.T) = .ok (.int (absI g - big)) none := by
  simp [bgE, denE, denV, denVs, viewS, biD, opD, int2, big, absI]
theorem bgM_run (g : Int) : denE F0 bgM [.non, .non, .dat (.int g)] (none : wld.T) = .ok (.int (absI g % 2147483629)) none := by
  simp [bgM, denE, denV, denVs, viewS, biD, opD, int2, absI]
def spBegun (K : PySem.W.Frag) : Sp := fun vs H Q _ => ∃ (a : Addr) (ns : List Int), vs = [.ref a] ∧ SqL K H a (ns.map V.int) ∧ ns.length ≤ 63 ∧
  ∀ dr aw ac H', H dr = none → H aw = none → H ac = none → (∀ b o, H b = some o → H' b = some o) → DrAt dr (begunF ns) H' aw ac → Q (.ref dr) H'
section
variable {P : Program} {wd : World} {K : PySem.W.Frag} {mg : Str → Option Value} {base : Heap}
def begunB (e1 e2 c1 : Expr) (sc1 sc2 : Scope) (p1 p2 p3 p4 p5 p6 p7 p8 p9 q1 q2 q3 q4 q5 q6 r1 r2 : Pos) (k1 k2 k3 k4 k5 k6 : Nat) : List Stmt :=
  [.Assign [.Name "wide" p1] (.ListComp e1 [⟨.Name "grain" p2, .Name "script" p3, [c1], 0⟩] sc1 p4) p5,
   .Return (some (.Dict [some (.Constant (.str "wide") k1 p6), some (.Constant (.str "cells") k2 p7), some (.Constant (.str "rest") k3 p8), some (.Constant (.str "turn") k4 p9)]
     [.Name "wide" q1, .ListComp e2 [⟨.Name "grain" q2, .Name "script" q3, [], 0⟩] sc2 q4, .Constant (.int 0) k5 q5, .Constant (.int 0) k6 q6] r1)) r2]
theorem begun_ok {x : Str} {params : Arguments} {scope : Scope} {f : Addr} {fd : FuncData} {e1 e2 c1 : Expr} {sc1 sc2 : Scope} {p1 p2 p3 p4 p5 p6 p7 p8 p9 q1 q2 q3 q4 q5 q6 r1 r2 : Pos} {k1 k2 k3 k4 k5 k6 : Nat} (bl : ∀ y ∈ bnames, mg y = none)
    (F : FunD K x x params (begunB e1 e2 c1 sc1 sc2 p1 p2 p3 p4 p5 p6 p7 p8 p9 q1 q2 q3 q4 q5 q6 r1 r2 k1 k2 k3 k4 k5 k6) scope [] [] f fd) (S : FnScope Nb ["script"] scope)
    (l0 : vis scope "script" = true) (l1 : scope.names.lookup ("wide" : Str) = some .local) (sw : swB sc1 "wide" p1 p4 scope = true) (t1 : testOk c1 = true)
    (b1 : blkC Nb scope sc1 [("grain", 2)] = true) (b2 : blkC Nb scope sc2 [("grain", 2)] = true) (g1 : convTs (blkCx (cx0 scope Nb) sc1) [.Name "grain" p2] = some [2]) (g2 : convTs (blkCx (cx0 scope Nb) sc2) [.Name "grain" q2] = some [2])
    (ce1 : convE 40 (blkCx (cx0 scope Nb) sc1) e1 = some bgE) (cc1 : convC (convE 40 (blkCx (cx0 scope Nb) sc1)) [c1] = some bgC) (ce2 : convE 40 (blkCx (cx0 scope Nb) sc2) e2 = some bgM) :
    FnG P wd K mg base (L2.CX P wd) 1 f fd ["script"] (spBegun K) := by
  refine fnG_of F S (fun vs H Q E h => by obtain ⟨a, ns, rfl, _⟩ := h; rfl) fun cdv A outer s H vs Q E g hr hsp => ?_
  obtain ⟨a, ns, rfl, hs, hl, hQ⟩ := hsp
  have ok := xok0 (P := P) (wd := wd) (K := K) (mg := mg) (base := base) (XE := XE0) (qual := x) (f := f) (cdv := cdv) (outer := outer) (s := s) (H := H) (E := E) S bl g hr
  have B1 := blkOk_by b1
  have B2 := blkOk_by b2
  have bo1 := fun s' H' C cl fp => ok.blk (own := [("grain", 2)]) B1 s' H' C cl fp
  have bo2 := fun s' H' C cl fp => ok.blk (own := [("grain", 2)]) B2 s' H' C cl fp
  have v0 : Vis (cxOf (L2.CX P wd) P wd K mg base Nb x scope f cdv A outer s H E).env.scope ("script" : Str) := (visI_ok ok (x := "script") (i := 0) (by
    unfold visI
    rw [if_pos (by rw [show vis (cx0 scope Nb).sc "script" = true from l0]; decide)]
    show idxN Nb "script" = some 0
    decide)).v
  have v1 : Vis (cxOf (L2.CX P wd) P wd K mg base Nb x scope f cdv A outer s H E).env.scope ("wide" : Str) := .inl l1
  have pg : ∀ {sc : Scope} {p : Pos}, (∀ s' H' C cl fp, XOk wld ((cxOf (L2.CX P wd) P wd K mg base Nb x scope f cdv A outer s H E).blk s' H' sc (compEnvC sc cl C (cxOf (L2.CX P wd) P wd K mg base Nb x scope f cdv A outer s H E).env) fp) XE0 F0 0 (blkCx (cx0 scope Nb) sc)) → convTs (blkCx (cx0 scope Nb) sc) [.Name "grain" p] = some [2] →
      ∀ s' H' C cl fp, PG ((cxOf (L2.CX P wd) P wd K mg base Nb x scope f cdv A outer s H E).blk s' H' sc (compEnvC sc cl C (cxOf (L2.CX P wd) P wd K mg base Nb x scope f cdv A outer s H E).env) fp) (.Name "grain" p) (gName 2) := fun bo hg s' H' C cl fp => by
    obtain ⟨v, l, fo⟩ := snd_T1 (bo s' H' C cl fp) hg
    exact pg_name (bo s' H' C cl fp).nd v.n l fo
  refine ⟨_, pss_cons (ps_setLc (tt := rd wld K XE0 W0 ZB (denC F0 bgC)) (te := rd wld K XE0 W0 (ZE K) (denE F0 bgE)) (i := 1) (own := [("grain", 2)]) ok.calm ok.nd rfl l1 (swaps_t ok.kind sw) (pi_list (pe_var (i := 0) rfl v0 (by decide) (by decide))) B1 (pg bo1 g1)
      (fun s' H' C cl fp => snd_C (bo1 s' H' C cl fp) (convE_ok 40 (bo1 s' H' C cl fp) takes0) cc1) (fun s' H' C cl fp => (convE_ok 40 (bo1 s' H' C cl fp) takes0 _ _ ce1).pe) (fun _ => rfl))
    (pss_one (ps_ret (pe_disp (pps_cons pe_str (pe_var (i := 1) rfl v1 (by decide) (by decide)) (pps_cons pe_str
      (pe_lc (tt := rd wld K XE0 W0 ZB (denC F0 .no)) (te := rd wld K XE0 W0 (ZE K) (denE F0 bgM)) (own := [("grain", 2)]) ok.calm ok.nd (pi_list (pe_var (i := 0) rfl v0 (by decide) (by decide))) B2 (pg bo2 g2) (fun s' H' C cl fp => snd_C (f := convE 40 (blkCx (cx0 scope Nb) sc2)) (bo2 s' H' C cl fp) (convE_ok 40 (bo2 s' H' C cl fp) takes0) (c := .no) rfl) (fun s' H' C cl fp => (convE_ok 40 (bo2 s' H' C cl fp) takes0 _ _ ce2).pe) (fun _ => rfl))
      (pps_cons pe_str pe_int (pps_cons pe_str pe_int pps_nil)))) rfl rfl (by simp) (by simp)))), ?_⟩
  delta tSeq tAsg
  refine ints_lc (x1 := none) (x2 := none) hs hl bgC_run bgE_run fun aw H1 naw k1 h1 => ?_
  intro dr ndr
  refine ⟨_, rfl, ?_⟩
  have naw2 : ∀ {b : Addr}, H b = some (.lst []) → True := fun _ => trivial
  have k2 : ∀ b o, H b = some o → upd H1 dr (.dK []) b = some o := fun b o h => by
    have := k1 b o h
    rw [upd_ne (ne_of_none this ndr)]; exact this
  simp only [tPairs, tC]
  refine ints_lc (x1 := some (.ref aw)) (x2 := none) (p := fun _ => true) (sq_keep k2 hs) hl (fun g => by rw [denC_no]) bgM_run fun ac H3 nac k3 h3 => ?_
  have e3 : H3 dr = some (.dK []) := k3 _ _ upd_same
  have h1' : H3 aw = some (.lst (((ns.filter fun g => decide (big ≤ absI g)).map fun g => absI g - big).map V.int)) := k3 _ _ (by rw [upd_ne (ne_of_none h1 ndr)]; exact h1)
  have d1 : dr ≠ aw := fun z => by rw [z, h1] at ndr; cases ndr
  have d2 : dr ≠ ac := fun z => by rw [← z, upd_same] at nac; cases nac
  have d3 : aw ≠ ac := fun z => by rw [← z, upd_ne (Ne.symm d1), h1] at nac; cases nac
  have old : ∀ {b : Addr}, H1 b = none → H b = none := fun {b} h => by
    cases q : H b with
    | none => rfl
    | some o => rw [k1 b o q] at h; cases h
  have nac' : H ac = none := old (by rw [upd_ne (Ne.symm d2)] at nac; exact nac)
  refine ⟨e3, drK (begunF ns) aw ac, ?_, by simp [drK], ?_⟩
  · rfl
  · have mk : mergeK [] (drK (begunF ns) aw ac) = drK (begunF ns) aw ac := by
      obtain ⟨n1, n2, n3, n4, n5, n6⟩ := keysNe
      simp [mergeK, drK, putK, kW, kC, kR, kT, n1, n2, n3, n4, n5, n6]
    rw [mk]
    refine hQ dr aw ac _ (old ndr) naw nac' (fun b o h => ?_) ⟨d1, d2, d3, upd_same, by rw [upd_ne (Ne.symm d1)]; exact h1', by rw [upd_ne (Ne.symm d2), h3]; simp [begunF, List.filter_eq_self.mpr], ?_, ?_⟩
    · rw [upd_ne fun z => by rw [z, old ndr] at h; cases h]
      exact k3 _ _ (k2 b o h)
    · simp [begunF]; exact Nat.le_trans (List.length_filter_le ..) hl
    · simp [begunF]; exact hl
end
end Rf
/-! Reflection layer, part 39: the law's own def. -/
namespace Rf
open PySem PySem.Spec PyProof.Rows L2
section
variable {P : Program} {wd : World} {K : PySem.W.Frag} {mg : Str → Option Value} {base : Heap}
/-- the law, from its second statement on: what it must mean -/
def lawMeans (fs : Nat → Option MFn) (n : Nat) (b : MSs) (nn i : Nat) : Prop := ∀ ns : List Int, ns.length ≤ 63 → ∃ s', denSs (runF wld fs n) b ((startE ⟨1, nn, b⟩ [.bor (.scr ns.length)]).set i .drw) (some (begunF ns)) = .ok (.ret (.bl true)) s'
def spLaw (K : PySem.W.Frag) : Sp := fun vs H Q _ => ∃ (a : Addr) (ns : List Int), vs = [.ref a] ∧ SqL K H a (ns.map V.int) ∧ ns.length ≤ 63 ∧ ∀ H', Q (.bl true) H'
theorem law_ok {m : Mod'} {fs : Nat → Option MFn} {fa : Nat → Addr} {fdd : Nat → FuncData} {c0 n i : Nat} {params : Arguments} {scope : Scope} {f fB : Addr} {fd fdB : FuncData} {xb : Str} {rest : List Stmt} {p1 p2 p3 p4 p5 : Pos} {h : Hint} {b : MSs}
    (all : ∀ x i ps, m.fns.lookup x = some (i, ps) → ∃ h params body scope, DOk K mg m fs fa fdd x i ps h params body scope)
    (take : ∀ x, m.tkn = some x → ∃ f fd ps, FnG P wd K mg base (L2.CX P wd) c0 f fd ps (spTake wld) ∧ mg x = some (.ref f) ∧ PySem.W.keepIn K (.ref f) = true ∧ Binds K fd ps [])
    (bl : ∀ x ∈ bnames, m.fns.lookup x = none → mg x = none) (glb : m.glb = [])
    (F : FunD K "law" "law" params (.Assign [.Name "draw" p1] (.Call (.Name xb p2) [.Name "script" p3] [] p4) p5 :: rest) scope [] [] f fd) (S : FnScope (namesOf ⟨"law", ["script"], scope, .Assign [.Name "draw" p1] (.Call (.Name xb p2) [.Name "script" p3] [] p4) p5 :: rest⟩) ["script"] scope)
    (hi : (namesOf ⟨"law", ["script"], scope, .Assign [.Name "draw" p1] (.Call (.Name xb p2) [.Name "script" p3] [] p4) p5 :: rest⟩)[i]? = some "draw") (i0 : i ≠ 0) (ld : scope.names.lookup ("draw" : Str) = some .local) (ls : scope.names.lookup ("script" : Str) = some .local) (lb : scope.names.lookup xb = some .globalImplicit) (hdb : (xb == ("__debug__" : Str)) = false)
    (B : FnG P wd K mg base (L2.CX P wd) 1 fB fdB ["script"] (spBegun K)) (mB : mg xb = some (.ref fB)) (kB : PySem.W.keepIn K (.ref fB) = true) (bB : Binds K fdB ["script"] []) (hc0 : 1 ≤ n + c0)
    (cv : convSs 200 (cxFor m ⟨"law", ["script"], scope, .Assign [.Name "draw" p1] (.Call (.Name xb p2) [.Name "script" p3] [] p4) p5 :: rest⟩ h) ((muSs 200 (.Assign [.Name "draw" p1] (.Call (.Name xb p2) [.Name "script" p3] [] p4) p5 :: rest)).filterMap (idxN (cxFor m ⟨"law", ["script"], scope, .Assign [.Name "draw" p1] (.Call (.Name xb p2) [.Name "script" p3] [] p4) p5 :: rest⟩ h).N)) rest = some b)
    (mean : lawMeans fs n b (namesOf ⟨"law", ["script"], scope, .Assign [.Name "draw" p1] (.Call (.Name xb p2) [.Name "script" p3] [] p4) p5 :: rest⟩).length i) :
    FnG P wd K mg base (L2.CX P wd) (n + c0 + 1) f fd ["script"] (spLaw K) := by
  generalize hb : (Stmt.Assign [.Name "draw" p1] (.Call (.Name xb p2) [.Name "script" p3] [] p4) p5 :: rest) = body at F S hi cv mean
  generalize hN : namesOf ⟨"law", ["script"], scope, body⟩ = N at S hi mean
  refine fnG_of F S (fun vs H Q E h => by obtain ⟨a, ns, rfl, _⟩ := h; rfl) fun cdv A outer s H vs Q E g hr hsp => ?_
  obtain ⟨a, ns, rfl, hs, hl, hQ⟩ := hsp
  have ih := sound (P := P) (wd := wd) (base := base) (XE := XE0) all take bl glb n
  have ok : XOk wld (cxOf (L2.CX P wd) P wd K mg base N "law" scope f cdv A outer s H E) XE0 (runF wld fs n) (n + c0) (cxFor m ⟨"law", ["script"], scope, body⟩ h) := {
    sc := rfl
    N := hN.symm
    nd := S.nd
    kind := S.kind
    calm := rfl
    gd := g
    rm := hr
    fn := rfl
    bl := bl
    fns := fun y j qs hy => by
      obtain ⟨hh', params', body', scope', D'⟩ := all y j qs hy
      obtain ⟨mf', cv', hfs'⟩ := D'.cv
      refine ⟨⟨fa j, fdd j, qs, D'.mg, D'.F.kp, D'.bd, ih y j qs hy, fun as s hne => runF_len (fun mf'' hf'' => ?_) hne⟩, rfl, D'.kw⟩
      rw [hfs'] at hf''
      cases hf''
      unfold convFn at cv'
      simp only at cv'
      cases hb' : convSs 200 (cxFor m ⟨y, qs, scope', body'⟩ hh') ((muSs 200 body').filterMap (idxN (cxFor m ⟨y, qs, scope', body'⟩ hh').N)) (noDoc body') with
      | none => rw [hb'] at cv'; cases cv'
      | some b' => rw [hb'] at cv'; cases cv'; rfl
    tkn := fun y hy => let ⟨f, fd, ps', F, h1, h2, h3⟩ := take y hy; ⟨f, fd, ps', F.mono (by omega), h1, h2, h3⟩
    glb := glb }
  have tk : Takes (cxOf (L2.CX P wd) P wd K mg base N "law" scope f cdv A outer s H E) (fun cls d _ H' => E cls d H') := takes_of rfl rfl rfl rfl
  have w2 := (convS_ok (passes_of rfl) ok tk (mu := (muSs 200 body).filterMap (idxN (cxFor m ⟨"law", ["script"], scope, body⟩ h).N)) 200).2 _ _ cv
  have n0 : N[0]? = some ("script" : Str) := by
    have := S.pre
    cases N with
    | nil => cases this
    | cons y ys => simp at this; simp [this]
  have vs0 : Vis (cxOf (L2.CX P wd) P wd K mg base N "law" scope f cdv A outer s H E).env.scope ("script" : Str) := .inl ls
  have gx : Gl (cxOf (L2.CX P wd) P wd K mg base N "law" scope f cdv A outer s H E) xb := lb
  rw [← hb]
  refine ⟨_, pss_cons (ps_set (i := i) S.nd hi (.inl ld) (pe_callG (E := WE (fun cls d _ H' => E cls d H')) B g (hr.mono hc0) gx mB kB bB (fun σ => passAt tk σ) (pa_cons (pe_var (i := 0) n0 vs0 (by decide) (by decide)) pa_nil (star_cons rfl)) hdb (star_cons rfl) rfl) (swaps_no rfl) (.inl rfl)) w2, ?_⟩
  have il : i < N.length := (List.getElem?_eq_some_iff.mp hi).1
  have st0 : (L2.start N [V.ref a])[0]? = some (some (V.ref a)) := by unfold L2.start; rfl
  refine ⟨_, st0, a, ns, rfl, hs, hl, fun dr aw ac H' n1 n2 n3 kk hd => ?_⟩
  -- the draws' addresses
  have nda : (¬ (a = dr ∨ a = aw ∨ a = ac)) ∨ SqL K (fun _ => none) a (ns.map V.int) := by
    rcases hs with z | z
    · refine .inl fun q => ?_
      rcases z with z | ⟨o, z⟩ <;> rcases q with rfl | rfl | rfl <;> first | (rw [n1] at z; cases z) | (rw [n2] at z; cases z) | (rw [n3] at z; cases z)
    · exact .inr (.inr z)
  have el : (startE ⟨1, N.length, b⟩ [.bor (.scr ns.length)]).length = N.length := by
    unfold startE
    simp
    omega
  have rel : Rel wld K ⟨H, H, fun q => q = dr ∨ q = aw ∨ q = ac, fun q => q = dr ∨ q = aw ∨ q = ac, dr⟩ ((startE ⟨1, N.length, b⟩ [.bor (.scr ns.length)]).set i .drw) (fun _ => 0) (some (begunF ns)) ((L2.start N [V.ref a]).set i (some (.ref dr))) H' := by
    have get : ∀ {j : Nat} {t : Slot}, ((startE ⟨1, N.length, b⟩ [.bor (.scr ns.length)]).set i .drw)[j]? = some t → (j = i ∧ t = .drw) ∨ (j = 0 ∧ t = .bor (.scr ns.length)) ∨ t = .non := fun {j t} q => by
      by_cases ji : i = j
      · subst ji
        rw [List.getElem?_set_self (by rw [el]; exact il)] at q
        cases q
        exact .inl ⟨rfl, rfl⟩
      · rw [List.getElem?_set_ne ji] at q
        unfold startE at q
        cases j with
        | zero => simp [argSlot] at q; exact .inr (.inl ⟨rfl, q.symm⟩)
        | succ j =>
          simp [argSlot] at q
          rw [List.getElem?_replicate] at q
          split at q
          · cases q; exact .inr (.inr rfl)
          · cases q
    have no : ∀ (j : Nat) (d : D), ((startE ⟨1, N.length, b⟩ [.bor (.scr ns.length)]).set i .drw)[j]? ≠ some (Slot.own d) := fun j d q => by
      rcases get q with ⟨_, z⟩ | ⟨_, z⟩ | z <;> cases z
    refine ⟨fun q o z nd => kk q o z, ⟨aw, ac, hd, fun q => Iff.rfl⟩, fun q z => z, fun q z => ?_, fun j t q => ?_, fun j d q => absurd q (no j d), fun j j' d d' q => absurd q (no j d), ?_, mask_le⟩
    · rcases z with rfl | rfl | rfl
      · exact ⟨_, hd.d, trivial⟩
      · exact ⟨_, hd.w, trivial⟩
      · exact ⟨_, hd.c, trivial⟩
    · rcases get q with ⟨rfl, rfl⟩ | ⟨rfl, rfl⟩ | rfl
      · exact List.getElem?_set_self (by unfold L2.start; simp; omega)
      · refine ⟨a, by rw [List.getElem?_set_ne i0]; exact st0, ?_⟩
        have ln : ns.length = (ns.map V.int).length := by simp
        rw [ln]
        exact .scr nda hs
      · trivial
    · rw [List.length_set, List.length_set, el]
      unfold L2.start
      simp
      omega
  obtain ⟨s', hden⟩ := mean ns hl
  refine ⟨_, _, _, _, rel, ?_⟩
  rw [hden]
  intro v H1 _ _ z
  have ev : v = .bl true := Rp.blv z
  subst ev
  exact hQ H1
end
end Rf
/-! the defs of the law, in the small language (printed by gen/terms.py) -/
namespace Law
open PySem PySem.Spec PyProof.Rows L2 Rf
abbrev prog : Program := PySem.Challenge.pw_splitfree_k74_whole_histories_judged
def top (i : Nat) : Stmt := prog.main.body.getD i (.Pass ⟨0, 0, 0, 0⟩)
def md : Mod' := ⟨[("is_number", 0, ["thing"]), ("is_key", 1, ["thing"]), ("is_version", 2, ["thing"]), ("is_step", 3, ["thing"]), ("is_transaction", 4, ["thing"]), ("keys_written", 5, ["transaction"]), ("places_of", 6, ["history"]), ("versions_are_right", 7, ["history"]), ("is_history", 8, ["thing"]), ("_law_pick", 12, ["draw", "some"]), ("_law_shuffled", 13, ["draw", "some"]), ("_law_is_int", 14, ["thing"]), ("_law_places", 15, ["history"]), ("_law_at", 16, ["history", "place"]), ("_law_writes", 17, ["transaction"]), ("_law_is_history", 18, ["thing"]), ("_law_is_plain", 19, ["thing"]), ("_law_is_version", 20, ["thing"]), ("_law_transaction", 21, ["draw", "keys", "many"]), ("_law_plan", 22, ["draw", "sessions", "each", "steps"]), ("_law_next", 23, ["plan", "spots", "s"]), ("_law_is_let", 24, ["plan", "level", "live", "place", "step"]), ("_law_played", 25, ["draw", "plan", "level"]), ("_law_with_versions", 26, ["plan", "versions"]), ("_law_a_game", 27, ["draw", "plan", "level"]), ("_law_exchanged", 28, ["draw", "history"]), ("_law_a_history", 29, ["draw", "sessions", "each", "steps"]), ("_law_same", 30, ["told", "due"]), ("_law_bad_history", 31, ["draw", "history"]), ("_law_odd", 32, ["draw", "part"]), ("_law_bent", 33, ["draw", "thing"]), ("_law_with_step", 34, ["draw", "history"])], [("is_history", ["thing"], [0])], some "_law_take", []⟩
/- is_number: 0 thing -/
def b0 : MSs := (.cons (.ret (.and (.bi (.isi .int) (.cons (.pk 0) .nil)) (.not (.bi (.isi .bool) (.cons (.pk 0) .nil))))) .nil)
def h0 : Hint := ⟨[], []⟩
abbrev p0 : PyFn := ⟨"is_number", ["thing"], defScope (top 1), defBody (top 1)⟩
def f0 : MFn := ⟨1, 1, b0⟩
theorem cv0 : convFn md p0 h0 = some f0 := by kernel_rfl
theorem sc0 : FnScope (namesOf p0) ["thing"] p0.scope := ⟨by kernel_rfl, by kernel_rfl, by kernel_rfl, by decide +kernel, by decide +kernel, by decide +kernel, by decide +kernel⟩
/- is_key: 0 thing -/
def b1 : MSs := (.cons (.ret (.and (.call 0 (.cons (.lend 0) .nil)) (.and (.op .ge (.pk 0) (.e (.cst (.int 0)))) (.op .le (.pk 0) (.e (.cst (.int 9999))))))) .nil)
def h1 : Hint := ⟨[], []⟩
abbrev p1 : PyFn := ⟨"is_key", ["thing"], defScope (top 3), defBody (top 3)⟩
def f1 : MFn := ⟨1, 1, b1⟩
theorem cv1 : convFn md p1 h1 = some f1 := by kernel_rfl
theorem sc1 : FnScope (namesOf p1) ["thing"] p1.scope := ⟨by kernel_rfl, by kernel_rfl, by kernel_rfl, by decide +kernel, by decide +kernel, by decide +kernel, by decide +kernel⟩
/- is_version: 0 thing -/
def b2 : MSs := (.cons (.ite (.op .isN (.pk 0) (.e (.cst .non))) (.cons (.ret (.cst (.bl true))) .nil) .nil) (.cons (.ret (.and (.bi (.isi .tuple) (.cons (.pk 0) .nil)) (.and (.op .eq (.e (.bi .len (.cons (.pk 0) .nil))) (.e (.cst (.int 2)))) (.and (.call 0 (.cons (.val (.sub (.pk 0) (.cst (.int 0)))) .nil)) (.call 0 (.cons (.val (.sub (.pk 0) (.cst (.int 1)))) .nil)))))) .nil))
def h2 : Hint := ⟨[], []⟩
abbrev p2 : PyFn := ⟨"is_version", ["thing"], defScope (top 4), defBody (top 4)⟩
def f2 : MFn := ⟨1, 1, b2⟩
theorem cv2 : convFn md p2 h2 = some f2 := by kernel_rfl
theorem sc2 : FnScope (namesOf p2) ["thing"] p2.scope := ⟨by kernel_rfl, by kernel_rfl, by kernel_rfl, by decide +kernel, by decide +kernel, by decide +kernel, by decide +kernel⟩
/- is_step: 0 thing -/
def b3 : MSs := (.cons (.ite (.or (.not (.bi (.isi .tuple) (.cons (.pk 0) .nil))) (.or (.op .lt (.e (.bi .len (.cons (.pk 0) .nil))) (.e (.cst (.int 2)))) (.not (.call 1 (.cons (.val (.sub (.pk 0) (.cst (.int 1)))) .nil))))) (.cons (.ret (.cst (.bl false))) .nil) .nil) (.cons (.ite (.op .eq (.e (.sub (.pk 0) (.cst (.int 0)))) (.e (.cst (.str "write")))) (.cons (.ret (.op .eq (.e (.bi .len (.cons (.pk 0) .nil))) (.e (.cst (.int 2))))) .nil) .nil) (.cons (.ret (.and (.op .eq (.e (.sub (.pk 0) (.cst (.int 0)))) (.e (.cst (.str "read")))) (.and (.op .eq (.e (.bi .len (.cons (.pk 0) .nil))) (.e (.cst (.int 3)))) (.call 2 (.cons (.val (.sub (.pk 0) (.cst (.int 2)))) .nil))))) .nil)))
def h3 : Hint := ⟨[], []⟩
abbrev p3 : PyFn := ⟨"is_step", ["thing"], defScope (top 5), defBody (top 5)⟩
def f3 : MFn := ⟨1, 1, b3⟩
theorem cv3 : convFn md p3 h3 = some f3 := by kernel_rfl
theorem sc3 : FnScope (namesOf p3) ["thing"] p3.scope := ⟨by kernel_rfl, by kernel_rfl, by kernel_rfl, by decide +kernel, by decide +kernel, by decide +kernel, by decide +kernel⟩
/- is_transaction: 0 thing, 1 step, 2 written -/
def b4 : MSs := (.cons (.ite (.or (.not (.bi (.isi .tuple) (.cons (.pk 0) .nil))) (.or (.op .lt (.e (.bi .len (.cons (.pk 0) .nil))) (.e (.cst (.int 1)))) (.or (.op .gt (.e (.bi .len (.cons (.pk 0) .nil))) (.e (.cst (.int 12)))) (.not (.bi .all (.cons (.e (.lc (.one 1) [1] (.seq (.pk 0)) .no (.call 3 (.cons (.lend 1) .nil)))) .nil)))))) (.cons (.ret (.cst (.bl false))) .nil) .nil) (.cons (.new 2 .dk0) (.cons (.loop (.one 1) (.seq (.pk 0)) (.cons (.ite (.op .eq (.e (.sub (.pk 1) (.cst (.int 0)))) (.e (.cst (.str "write")))) (.cons (.put 2 (.sub (.pk 1) (.cst (.int 1))) (.cst (.bl true))) .nil) (.cons (.ite (.op .inn (.e (.sub (.pk 1) (.cst (.int 1)))) (.pk 2)) (.cons (.ret (.cst (.bl false))) .nil) .nil) .nil)) .nil)) (.cons (.ret (.cst (.bl true))) .nil))))
def h4 : Hint := ⟨[], []⟩
abbrev p4 : PyFn := ⟨"is_transaction", ["thing"], defScope (top 6), defBody (top 6)⟩
def f4 : MFn := ⟨1, 3, b4⟩
theorem cv4 : convFn md p4 h4 = some f4 := by kernel_rfl
theorem sc4 : FnScope (namesOf p4) ["thing"] p4.scope := ⟨by kernel_rfl, by kernel_rfl, by kernel_rfl, by decide +kernel, by decide +kernel, by decide +kernel, by decide +kernel⟩
/- keys_written: 0 transaction, 1 step -/
def b5 : MSs := (.cons (.ret (.lc (.one 1) [1] (.seq (.pk 0)) (.yes (.op .eq (.e (.sub (.pk 1) (.cst (.int 0)))) (.e (.cst (.str "write"))))) (.sub (.pk 1) (.cst (.int 1))))) .nil)
def h5 : Hint := ⟨[], []⟩
abbrev p5 : PyFn := ⟨"keys_written", ["transaction"], defScope (top 7), defBody (top 7)⟩
def f5 : MFn := ⟨1, 2, b5⟩
theorem cv5 : convFn md p5 h5 = some f5 := by kernel_rfl
theorem sc5 : FnScope (namesOf p5) ["transaction"] p5.scope := ⟨by kernel_rfl, by kernel_rfl, by kernel_rfl, by decide +kernel, by decide +kernel, by decide +kernel, by decide +kernel⟩
/- places_of: 0 history, 1 s, 2 session, 3 k -/
def b6 : MSs := (.cons (.ret (.lc2 (.many [1, 2]) [1, 2, 3] [3] (.enu (.e (.sub (.pk 0) (.cst (.int 1))))) .no (.one 3) (.rng (.cst (.int 0)) (.bi .len (.cons (.pk 2) .nil))) .no (.tup (.cons (.var 1) (.cons (.var 3) .nil))))) .nil)
def h6 : Hint := ⟨[], []⟩
abbrev p6 : PyFn := ⟨"places_of", ["history"], defScope (top 8), defBody (top 8)⟩
def f6 : MFn := ⟨1, 4, b6⟩
theorem cv6 : convFn md p6 h6 = some f6 := by kernel_rfl
theorem sc6 : FnScope (namesOf p6) ["history"] p6.scope := ⟨by kernel_rfl, by kernel_rfl, by kernel_rfl, by decide +kernel, by decide +kernel, by decide +kernel, by decide +kernel⟩
/- versions_are_right: 0 history, 1 sessions, 2 s, 3 k, 4 step, 5 t, 6 j -/
def b7 : MSs := (.cons (.asg 1 (.sub (.pk 0) (.cst (.int 1)))) (.cons (.loop (.many [2, 3]) (.seq (.e (.call 6 (.cons (.lend 0) .nil)))) (.cons (.loop (.one 4) (.seq (.e (.sub (.e (.sub (.pk 1) (.var 2))) (.var 3)))) (.cons (.ite (.and (.op .eq (.e (.sub (.pk 4) (.cst (.int 0)))) (.e (.cst (.str "read")))) (.op .notN (.e (.sub (.pk 4) (.cst (.int 2)))) (.e (.cst .non)))) (.cons (.unp [5, 6] (.sub (.pk 4) (.cst (.int 2)))) (.cons (.ite (.or (.op .eq (.e (.tup (.cons (.var 5) (.cons (.var 6) .nil)))) (.e (.tup (.cons (.var 2) (.cons (.var 3) .nil))))) (.or (.op .lt (.pk 5) (.e (.cst (.int 0)))) (.or (.op .ge (.pk 5) (.e (.bi .len (.cons (.pk 1) .nil)))) (.or (.op .lt (.pk 6) (.e (.cst (.int 0)))) (.op .ge (.pk 6) (.e (.bi .len (.cons (.e (.sub (.pk 1) (.var 5))) .nil)))))))) (.cons (.ret (.cst (.bl false))) .nil) .nil) (.cons (.ite (.op .nin (.e (.sub (.pk 4) (.cst (.int 1)))) (.e (.call 5 (.cons (.val (.sub (.e (.sub (.pk 1) (.var 5))) (.var 6))) .nil)))) (.cons (.ret (.cst (.bl false))) .nil) .nil) .nil))) .nil) .nil)) .nil)) (.cons (.ret (.cst (.bl true))) .nil)))
def h7 : Hint := ⟨[], []⟩
abbrev p7 : PyFn := ⟨"versions_are_right", ["history"], defScope (top 9), defBody (top 9)⟩
def f7 : MFn := ⟨1, 7, b7⟩
theorem cv7 : convFn md p7 h7 = some f7 := by kernel_rfl
theorem sc7 : FnScope (namesOf p7) ["history"] p7.scope := ⟨by kernel_rfl, by kernel_rfl, by kernel_rfl, by decide +kernel, by decide +kernel, by decide +kernel, by decide +kernel⟩
/- is_history: 0 thing, 1 session, 2 item -/
def b8 : MSs := (.cons (.ite (.or (.not (.bi (.isi .tuple) (.cons (.pk 0) .nil))) (.or (.op .ne (.e (.bi .len (.cons (.pk 0) .nil))) (.e (.cst (.int 2)))) (.or (.op .ne (.e (.sub (.pk 0) (.cst (.int 0)))) (.e (.cst (.str "history")))) (.not (.bi (.isi .tuple) (.cons (.e (.sub (.pk 0) (.cst (.int 1)))) .nil)))))) (.cons (.ret (.cst (.bl false))) .nil) .nil) (.cons (.ite (.or (.op .lt (.e (.bi .len (.cons (.e (.sub (.pk 0) (.cst (.int 1)))) .nil))) (.e (.cst (.int 1)))) (.op .gt (.e (.bi .len (.cons (.e (.sub (.pk 0) (.cst (.int 1)))) .nil))) (.e (.cst (.int 5))))) (.cons (.ret (.cst (.bl false))) .nil) .nil) (.cons (.loop (.one 1) (.seq (.e (.sub (.pk 0) (.cst (.int 1))))) (.cons (.ite (.or (.not (.bi (.isi .tuple) (.cons (.pk 1) .nil))) (.or (.op .gt (.e (.bi .len (.cons (.pk 1) .nil))) (.e (.cst (.int 8)))) (.not (.bi .all (.cons (.e (.lc (.one 2) [2] (.seq (.pk 1)) .no (.call 4 (.cons (.lend 2) .nil)))) .nil))))) (.cons (.ret (.cst (.bl false))) .nil) .nil) .nil)) (.cons (.ret (.call 7 (.cons (.lend 0) .nil))) .nil))))
def h8 : Hint := ⟨[], []⟩
abbrev p8 : PyFn := ⟨"is_history", ["thing"], defScope (top 10), defBody (top 10)⟩
def f8 : MFn := ⟨1, 3, b8⟩
theorem cv8 : convFn md p8 h8 = some f8 := by kernel_rfl
theorem sc8 : FnScope (namesOf p8) ["thing"] p8.scope := ⟨by kernel_rfl, by kernel_rfl, by kernel_rfl, by decide +kernel, by decide +kernel, by decide +kernel, by decide +kernel⟩
/- _law_pick: 0 draw, 1 some -/
def b12 : MSs := (.cons (.ret (.sub (.pk 1) (.take 0 (.bi .len (.cons (.pk 1) .nil))))) .nil)
def h12 : Hint := ⟨[], []⟩
abbrev p12 : PyFn := ⟨"_law_pick", ["draw", "some"], defScope (top 15), defBody (top 15)⟩
def f12 : MFn := ⟨2, 2, b12⟩
theorem cv12 : convFn md p12 h12 = some f12 := by kernel_rfl
theorem sc12 : FnScope (namesOf p12) ["draw", "some"] p12.scope := ⟨by kernel_rfl, by kernel_rfl, by kernel_rfl, by decide +kernel, by decide +kernel, by decide +kernel, by decide +kernel⟩
/- _law_shuffled: 0 draw, 1 some, 2 remain, 3 found -/
def b13 : MSs := (.cons (.par [(2, true), (3, true)] (.cons (.bi .listOf (.cons (.pk 1) .nil)) (.cons (.lst .nil) .nil))) (.cons (.whl (.op .ne (.pk 2) (.e (.lst .nil))) (.cons (.appPop 3 2 (.take 0 (.bi .len (.cons (.pk 2) .nil)))) .nil)) (.cons (.ret (.var 3)) .nil)))
def h13 : Hint := ⟨[], []⟩
abbrev p13 : PyFn := ⟨"_law_shuffled", ["draw", "some"], defScope (top 16), defBody (top 16)⟩
def f13 : MFn := ⟨2, 4, b13⟩
theorem cv13 : convFn md p13 h13 = some f13 := by kernel_rfl
theorem sc13 : FnScope (namesOf p13) ["draw", "some"] p13.scope := ⟨by kernel_rfl, by kernel_rfl, by kernel_rfl, by decide +kernel, by decide +kernel, by decide +kernel, by decide +kernel⟩
/- _law_is_int: 0 thing -/
def b14 : MSs := (.cons (.ret (.and (.bi (.isi .int) (.cons (.pk 0) .nil)) (.not (.bi (.isi .bool) (.cons (.pk 0) .nil))))) .nil)
def h14 : Hint := ⟨[], []⟩
abbrev p14 : PyFn := ⟨"_law_is_int", ["thing"], defScope (top 17), defBody (top 17)⟩
def f14 : MFn := ⟨1, 1, b14⟩
theorem cv14 : convFn md p14 h14 = some f14 := by kernel_rfl
theorem sc14 : FnScope (namesOf p14) ["thing"] p14.scope := ⟨by kernel_rfl, by kernel_rfl, by kernel_rfl, by decide +kernel, by decide +kernel, by decide +kernel, by decide +kernel⟩
/- _law_places: 0 history, 1 found, 2 s, 3 k -/
def b15 : MSs := (.cons (.asg 1 (.lst .nil)) (.cons (.loop (.one 2) (.rng (.cst (.int 0)) (.bi .len (.cons (.e (.sub (.pk 0) (.cst (.int 1)))) .nil))) (.cons (.asg 1 (.op .add (.pk 1) (.e (.lc (.one 3) [3] (.rng (.cst (.int 0)) (.bi .len (.cons (.e (.sub (.e (.sub (.pk 0) (.cst (.int 1)))) (.var 2))) .nil))) .no (.tup (.cons (.var 2) (.cons (.var 3) .nil))))))) .nil)) (.cons (.ret (.var 1)) .nil)))
def h15 : Hint := ⟨[], []⟩
abbrev p15 : PyFn := ⟨"_law_places", ["history"], defScope (top 18), defBody (top 18)⟩
def f15 : MFn := ⟨1, 4, b15⟩
theorem cv15 : convFn md p15 h15 = some f15 := by kernel_rfl
theorem sc15 : FnScope (namesOf p15) ["history"] p15.scope := ⟨by kernel_rfl, by kernel_rfl, by kernel_rfl, by decide +kernel, by decide +kernel, by decide +kernel, by decide +kernel⟩
/- _law_at: 0 history, 1 place -/
def b16 : MSs := (.cons (.ret (.sub (.e (.sub (.e (.sub (.pk 0) (.cst (.int 1)))) (.sub (.pk 1) (.cst (.int 0))))) (.sub (.pk 1) (.cst (.int 1))))) .nil)
def h16 : Hint := ⟨[], []⟩
abbrev p16 : PyFn := ⟨"_law_at", ["history", "place"], defScope (top 19), defBody (top 19)⟩
def f16 : MFn := ⟨2, 2, b16⟩
theorem cv16 : convFn md p16 h16 = some f16 := by kernel_rfl
theorem sc16 : FnScope (namesOf p16) ["history", "place"] p16.scope := ⟨by kernel_rfl, by kernel_rfl, by kernel_rfl, by decide +kernel, by decide +kernel, by decide +kernel, by decide +kernel⟩
/- _law_writes: 0 transaction, 1 step -/
def b17 : MSs := (.cons (.ret (.lc (.one 1) [1] (.seq (.pk 0)) (.yes (.op .eq (.e (.sub (.pk 1) (.cst (.int 0)))) (.e (.cst (.str "write"))))) (.sub (.pk 1) (.cst (.int 1))))) .nil)
def h17 : Hint := ⟨[], []⟩
abbrev p17 : PyFn := ⟨"_law_writes", ["transaction"], defScope (top 20), defBody (top 20)⟩
def f17 : MFn := ⟨1, 2, b17⟩
theorem cv17 : convFn md p17 h17 = some f17 := by kernel_rfl
theorem sc17 : FnScope (namesOf p17) ["transaction"] p17.scope := ⟨by kernel_rfl, by kernel_rfl, by kernel_rfl, by decide +kernel, by decide +kernel, by decide +kernel, by decide +kernel⟩
/- _law_is_history: 0 thing, 1 session, 2 places, 3 place, 4 step, 5 item -/
def b18 : MSs := (.cons (.ite (.not (.bi (.isi .tuple) (.cons (.pk 0) .nil))) (.cons (.ret (.cst (.bl false))) .nil) .nil) (.cons (.ite (.or (.op .ne (.e (.bi .len (.cons (.pk 0) .nil))) (.e (.cst (.int 2)))) (.or (.op .ne (.e (.sub (.pk 0) (.cst (.int 0)))) (.e (.cst (.str "history")))) (.not (.bi (.isi .tuple) (.cons (.e (.sub (.pk 0) (.cst (.int 1)))) .nil))))) (.cons (.ret (.cst (.bl false))) .nil) .nil) (.cons (.ite (.inR true (.bi .len (.cons (.e (.sub (.pk 0) (.cst (.int 1)))) .nil)) (.cst (.int 1)) (.cst (.int 6))) (.cons (.ret (.cst (.bl false))) .nil) .nil) (.cons (.loop (.one 1) (.seq (.e (.sub (.pk 0) (.cst (.int 1))))) (.cons (.ite (.not (.bi (.isi .tuple) (.cons (.pk 1) .nil))) (.cons (.ret (.cst (.bl false))) .nil) .nil) (.cons (.ite (.or (.op .gt (.e (.bi .len (.cons (.pk 1) .nil))) (.e (.cst (.int 8)))) (.op .ne (.e (.lc (.one 5) [5] (.seq (.pk 1)) (.yes (.not (.call 19 (.cons (.lend 5) .nil)))) (.var 5))) (.e (.lst .nil)))) (.cons (.ret (.cst (.bl false))) .nil) .nil) .nil))) (.cons (.asg 2 (.call 15 (.cons (.lend 0) .nil))) (.cons (.loop (.one 3) (.seq (.pk 2)) (.cons (.loop (.one 4) (.seq (.e (.call 16 (.cons (.lend 0) (.cons (.lend 3) .nil))))) (.cons (.ite (.and (.op .eq (.e (.sub (.pk 4) (.cst (.int 0)))) (.e (.cst (.str "read")))) (.op .notN (.e (.sub (.pk 4) (.cst (.int 2)))) (.e (.cst .non)))) (.cons (.ite (.or (.op .nin (.e (.sub (.pk 4) (.cst (.int 2)))) (.pk 2)) (.or (.op .eq (.e (.sub (.pk 4) (.cst (.int 2)))) (.pk 3)) (.op .nin (.e (.sub (.pk 4) (.cst (.int 1)))) (.e (.call 17 (.cons (.val (.call 16 (.cons (.lend 0) (.cons (.val (.sub (.pk 4) (.cst (.int 2)))) .nil)))) .nil)))))) (.cons (.ret (.cst (.bl false))) .nil) .nil) .nil) .nil) .nil)) .nil)) (.cons (.ret (.cst (.bl true))) .nil)))))))
def h18 : Hint := ⟨[], []⟩
abbrev p18 : PyFn := ⟨"_law_is_history", ["thing"], defScope (top 21), defBody (top 21)⟩
def f18 : MFn := ⟨1, 6, b18⟩
theorem cv18 : convFn md p18 h18 = some f18 := by kernel_rfl
theorem sc18 : FnScope (namesOf p18) ["thing"] p18.scope := ⟨by kernel_rfl, by kernel_rfl, by kernel_rfl, by decide +kernel, by decide +kernel, by decide +kernel, by decide +kernel⟩
/- _law_is_plain: 0 thing, 1 written, 2 step -/
def b19 : MSs := (.cons (.ite (.not (.bi (.isi .tuple) (.cons (.pk 0) .nil))) (.cons (.ret (.cst (.bl false))) .nil) .nil) (.cons (.ite (.inR true (.bi .len (.cons (.pk 0) .nil)) (.cst (.int 1)) (.cst (.int 13))) (.cons (.ret (.cst (.bl false))) .nil) .nil) (.cons (.new 1 (.lst .nil)) (.cons (.loop (.one 2) (.seq (.pk 0)) (.cons (.ite (.not (.bi (.isi .tuple) (.cons (.pk 2) .nil))) (.cons (.ret (.cst (.bl false))) .nil) .nil) (.cons (.ite (.or (.op .nin (.e (.bi .len (.cons (.pk 2) .nil))) (.e (.lst (.cons (.cst (.int 2)) (.cons (.cst (.int 3)) .nil))))) (.or (.not (.call 14 (.cons (.val (.sub (.pk 2) (.cst (.int 1)))) .nil))) (.not (.inR false (.sub (.pk 2) (.cst (.int 1))) (.cst (.int 0)) (.cst (.int 10000)))))) (.cons (.ret (.cst (.bl false))) .nil) .nil) (.cons (.ite (.op .eq (.e (.bi .len (.cons (.pk 2) .nil))) (.e (.cst (.int 2)))) (.cons (.ite (.op .ne (.e (.sub (.pk 2) (.cst (.int 0)))) (.e (.cst (.str "write")))) (.cons (.ret (.cst (.bl false))) .nil) .nil) (.cons (.app 1 (.sub (.pk 2) (.cst (.int 1)))) .nil)) (.cons (.ite (.or (.op .ne (.e (.sub (.pk 2) (.cst (.int 0)))) (.e (.cst (.str "read")))) (.or (.op .inn (.e (.sub (.pk 2) (.cst (.int 1)))) (.pk 1)) (.not (.call 20 (.cons (.val (.sub (.pk 2) (.cst (.int 2)))) .nil))))) (.cons (.ret (.cst (.bl false))) .nil) .nil) .nil)) .nil)))) (.cons (.ret (.cst (.bl true))) .nil)))))
def h19 : Hint := ⟨[], []⟩
abbrev p19 : PyFn := ⟨"_law_is_plain", ["thing"], defScope (top 22), defBody (top 22)⟩
def f19 : MFn := ⟨1, 3, b19⟩
theorem cv19 : convFn md p19 h19 = some f19 := by kernel_rfl
theorem sc19 : FnScope (namesOf p19) ["thing"] p19.scope := ⟨by kernel_rfl, by kernel_rfl, by kernel_rfl, by decide +kernel, by decide +kernel, by decide +kernel, by decide +kernel⟩
/- _law_is_version: 0 thing -/
def b20 : MSs := (.cons (.ite (.op .isN (.pk 0) (.e (.cst .non))) (.cons (.ret (.cst (.bl true))) .nil) .nil) (.cons (.ite (.not (.bi (.isi .tuple) (.cons (.pk 0) .nil))) (.cons (.ret (.cst (.bl false))) .nil) .nil) (.cons (.ret (.and (.op .eq (.e (.bi .len (.cons (.pk 0) .nil))) (.e (.cst (.int 2)))) (.and (.call 14 (.cons (.val (.sub (.pk 0) (.cst (.int 0)))) .nil)) (.call 14 (.cons (.val (.sub (.pk 0) (.cst (.int 1)))) .nil))))) .nil)))
def h20 : Hint := ⟨[], []⟩
abbrev p20 : PyFn := ⟨"_law_is_version", ["thing"], defScope (top 23), defBody (top 23)⟩
def f20 : MFn := ⟨1, 1, b20⟩
theorem cv20 : convFn md p20 h20 = some f20 := by kernel_rfl
theorem sc20 : FnScope (namesOf p20) ["thing"] p20.scope := ⟨by kernel_rfl, by kernel_rfl, by kernel_rfl, by decide +kernel, by decide +kernel, by decide +kernel, by decide +kernel⟩
/- _law_transaction: 0 draw, 1 keys, 2 many, 3 found, 4 turn, 5 key, 6 is_read -/
def b21 : MSs := (.cons (.new 3 (.lst .nil)) (.cons (.loop (.one 4) (.rng (.cst (.int 0)) (.var 2)) (.cons (.asg 5 (.call 12 (.cons (.lend 0) (.cons (.lend 1) .nil)))) (.cons (.asg 6 (.and (.op .eq (.e (.take 0 (.cst (.int 2)))) (.e (.cst (.int 0)))) (.op .nin (.e (.tup (.cons (.cst (.str "write")) (.cons (.var 5) .nil)))) (.pk 3)))) (.cons (.app 3 (.tup (.cons (.ite (.var 6) (.cst (.str "read")) (.cst (.str "write"))) (.cons (.var 5) .nil)))) .nil)))) (.cons (.ret (.var 3)) .nil)))
def h21 : Hint := ⟨[], []⟩
abbrev p21 : PyFn := ⟨"_law_transaction", ["draw", "keys", "many"], defScope (top 24), defBody (top 24)⟩
def f21 : MFn := ⟨3, 7, b21⟩
theorem cv21 : convFn md p21 h21 = some f21 := by kernel_rfl
theorem sc21 : FnScope (namesOf p21) ["draw", "keys", "many"] p21.scope := ⟨by kernel_rfl, by kernel_rfl, by kernel_rfl, by decide +kernel, by decide +kernel, by decide +kernel, by decide +kernel⟩
/- _law_plan: 0 draw, 1 sessions, 2 each, 3 steps, 4 keys, 5 found, 6 s, 7 k -/
def b22 : MSs := (.cons (.asg 4 (.call 13 (.cons (.lend 0) (.cons (.val (.call 12 (.cons (.lend 0) (.cons (.val (.lst (.cons (.lst (.cons (.cst (.int 0)) (.cons (.cst (.int 1)) .nil))) (.cons (.lst (.cons (.cst (.int 0)) (.cons (.cst (.int 1)) (.cons (.cst (.int 2)) .nil)))) (.cons (.lst (.cons (.cst (.int 9999)) (.cons (.cst (.int 5)) (.cons (.cst (.int 77)) (.cons (.cst (.int 3)) .nil))))) (.cons (.lst (.cons (.cst (.int 0)) (.cons (.cst (.int 1)) (.cons (.cst (.int 2)) (.cons (.cst (.int 3)) (.cons (.cst (.int 4)) (.cons (.cst (.int 5)) .nil))))))) .nil)))))) .nil)))) .nil)))) (.cons (.new 5 (.lst .nil)) (.cons (.loop (.one 6) (.rng (.cst (.int 0)) (.var 1)) (.cons (.app 5 (.lc (.one 7) [7] (.rng (.cst (.int 0)) (.call 12 (.cons (.lend 0) (.cons (.val (.lst (.cons (.var 2) (.cons (.cst (.int 1)) (.cons (.op .add (.e (.cst (.int 1))) (.e (.take 0 (.var 2)))) .nil))))) .nil)))) .no (.call 21 (.cons (.lend 0) (.cons (.lend 4) (.cons (.val (.op .add (.e (.cst (.int 1))) (.e (.take 0 (.var 3))))) .nil)))))) .nil)) (.cons (.ret (.var 5)) .nil))))
def h22 : Hint := ⟨[], []⟩
abbrev p22 : PyFn := ⟨"_law_plan", ["draw", "sessions", "each", "steps"], defScope (top 25), defBody (top 25)⟩
def f22 : MFn := ⟨4, 8, b22⟩
theorem cv22 : convFn md p22 h22 = some f22 := by kernel_rfl
theorem sc22 : FnScope (namesOf p22) ["draw", "sessions", "each", "steps"] p22.scope := ⟨by kernel_rfl, by kernel_rfl, by kernel_rfl, by decide +kernel, by decide +kernel, by decide +kernel, by decide +kernel⟩
/- _law_next: 0 plan, 1 spots, 2 s, 3 at -/
def b23 : MSs := (.cons (.asg 3 (.sub (.pk 1) (.var 2))) (.cons (.ret (.ite (.op .eq (.e (.sub (.pk 3) (.cst (.int 0)))) (.e (.bi .len (.cons (.e (.sub (.pk 0) (.var 2))) .nil)))) (.cst .non) (.tup (.cons (.tup (.cons (.var 2) (.cons (.sub (.pk 3) (.cst (.int 0))) .nil))) (.cons (.sub (.pk 3) (.cst (.int 1))) .nil))))) .nil))
def h23 : Hint := ⟨[], []⟩
abbrev p23 : PyFn := ⟨"_law_next", ["plan", "spots", "s"], defScope (top 26), defBody (top 26)⟩
def f23 : MFn := ⟨3, 4, b23⟩
theorem cv23 : convFn md p23 h23 = some f23 := by kernel_rfl
theorem sc23 : FnScope (namesOf p23) ["plan", "spots", "s"] p23.scope := ⟨by kernel_rfl, by kernel_rfl, by kernel_rfl, by decide +kernel, by decide +kernel, by decide +kernel, by decide +kernel⟩
/- _law_is_let: 0 plan, 1 level, 2 live, 3 place, 4 step, 5 mine, 6 keys, 7 other, 8 yours, 9 written, 10 held, 11 told, 12 key -/
def b24 : MSs := (.cons (.asg 5 (.sub (.e (.sub (.pk 0) (.sub (.pk 3) (.cst (.int 0))))) (.sub (.pk 3) (.cst (.int 1))))) (.cons (.asg 6 (.lc (.one 11) [11] (.seq (.pk 5)) (.yes (.op .eq (.e (.sub (.pk 11) (.cst (.int 0)))) (.e (.cst (.str "write"))))) (.sub (.pk 11) (.cst (.int 1))))) (.cons (.loop (.one 7) (.keys (.pk 2)) (.cons (.ite (.op .ne (.pk 7) (.pk 3)) (.cons (.asg 8 (.sub (.e (.sub (.pk 0) (.sub (.pk 7) (.cst (.int 0))))) (.sub (.pk 7) (.cst (.int 1))))) (.cons (.asg 9 (.lc (.one 11) [11] (.seq (.pk 8)) (.yes (.op .eq (.e (.sub (.pk 11) (.cst (.int 0)))) (.e (.cst (.str "write"))))) (.sub (.pk 11) (.cst (.int 1))))) (.cons (.asg 10 (.lc (.one 11) [11] (.seq (.e (.slc (.pk 8) .no (.yes (.sub (.pk 2) (.var 7)))))) (.yes (.or (.op .eq (.e (.sub (.pk 11) (.cst (.int 0)))) (.e (.cst (.str "write")))) (.op .eq (.pk 1) (.e (.cst (.str "lock")))))) (.sub (.pk 11) (.cst (.int 1))))) (.cons (.ite (.and (.op .eq (.pk 4) (.e (.op .sub (.e (.cst (.int 0))) (.e (.cst (.int 1)))))) (.or (.op .eq (.pk 1) (.e (.cst (.str "ser")))) (.and (.op .eq (.pk 1) (.e (.cst (.str "si")))) (.op .ne (.e (.lc (.one 12) [12] (.seq (.pk 6)) (.yes (.op .inn (.pk 12) (.pk 9))) (.var 12))) (.e (.lst .nil)))))) (.cons (.ret (.cst (.bl false))) .nil) .nil) (.cons (.ite (.and (.inR false (.var 4) (.cst (.int 0)) (.bi .len (.cons (.pk 5) .nil))) (.and (.op .eq (.e (.sub (.e (.sub (.pk 5) (.var 4))) (.cst (.int 0)))) (.e (.cst (.str "write")))) (.op .inn (.e (.sub (.e (.sub (.pk 5) (.var 4))) (.cst (.int 1)))) (.pk 10)))) (.cons (.ret (.cst (.bl false))) .nil) .nil) (.cons (.ite (.and (.inR false (.var 4) (.cst (.int 0)) (.bi .len (.cons (.pk 5) .nil))) (.and (.op .eq (.pk 1) (.e (.cst (.str "lock")))) (.op .inn (.e (.tup (.cons (.cst (.str "write")) (.cons (.sub (.e (.sub (.pk 5) (.var 4))) (.cst (.int 1))) .nil)))) (.e (.slc (.pk 8) .no (.yes (.sub (.pk 2) (.var 7)))))))) (.cons (.ret (.cst (.bl false))) .nil) .nil) .nil)))))) .nil) .nil)) (.cons (.ret (.cst (.bl true))) .nil))))
def h24 : Hint := ⟨[], ["live"]⟩
abbrev p24 : PyFn := ⟨"_law_is_let", ["plan", "level", "live", "place", "step"], defScope (top 27), defBody (top 27)⟩
def f24 : MFn := ⟨5, 13, b24⟩
theorem cv24 : convFn md p24 h24 = some f24 := by kernel_rfl
theorem sc24 : FnScope (namesOf p24) ["plan", "level", "live", "place", "step"] p24.scope := ⟨by kernel_rfl, by kernel_rfl, by kernel_rfl, by decide +kernel, by decide +kernel, by decide +kernel, by decide +kernel⟩
/- _law_played: 0 draw, 1 plan, 2 level, 3 spots, 4 live, 5 committed, 6 views, 7 versions, 8 run, 9 turn, 10 some, 11 s, 12 event, 13 place, 14 step, 15 mine, 16 known, 17 told, 18 session -/
def b25 : MSs := (.cons (.par [(3, true), (4, true), (5, true), (6, true), (7, true), (8, true)] (.cons (.lc (.one 18) [18] (.seq (.pk 1)) .no (.lst (.cons (.cst (.int 0)) (.cons (.op .sub (.e (.cst (.int 0))) (.e (.cst (.int 1)))) .nil)))) (.cons .dt0 (.cons .dk0 (.cons .dt0 (.cons .dt0 (.cons (.lst .nil) .nil))))))) (.cons (.loop (.one 9) (.rng (.cst (.int 0)) (.bi .sum (.cons (.e (.lc (.one 18) [18] (.seq (.pk 1)) .no (.op .mul (.e (.bi .len (.cons (.pk 18) .nil))) (.e (.cst (.int 14)))))) .nil))) (.cons (.new 10 (.lst .nil)) (.cons (.loop (.one 11) (.rng (.cst (.int 0)) (.bi .len (.cons (.pk 1) .nil))) (.cons (.asg 12 (.call 23 (.cons (.lend 1) (.cons (.lend 3) (.cons (.lend 11) .nil))))) (.cons (.ite (.and (.op .notN (.pk 12) (.e (.cst .non))) (.call 24 (.cons (.lend 1) (.cons (.lend 2) (.cons (.lend 4) (.cons (.val (.sub (.pk 12) (.cst (.int 0)))) (.cons (.val (.sub (.pk 12) (.cst (.int 1)))) .nil))))))) (.cons (.app 10 (.var 12)) .nil) .nil) .nil))) (.cons (.ite (.op .eq (.pk 10) (.e (.lst .nil))) (.cons .brk .nil) .nil) (.cons (.unp [13, 14] (.call 12 (.cons (.lend 0) (.cons (.lend 10) .nil)))) (.cons (.par [(15, false), (11, false)] (.cons (.sub (.e (.sub (.pk 1) (.sub (.pk 13) (.cst (.int 0))))) (.sub (.pk 13) (.cst (.int 1)))) (.cons (.sub (.pk 13) (.cst (.int 0))) .nil))) (.cons (.app 8 (.var 11)) (.cons (.ite (.op .eq (.pk 14) (.e (.op .sub (.e (.cst (.int 0))) (.e (.cst (.int 1)))))) (.cons (.put 4 (.var 13) (.cst (.int 0))) (.cons (.put 6 (.var 13) (.bi .dictOf (.cons (.pk 5) .nil))) .nil)) (.cons (.ite (.op .lt (.pk 14) (.e (.bi .len (.cons (.pk 15) .nil)))) (.cons (.put 4 (.var 13) (.op .add (.pk 14) (.e (.cst (.int 1))))) (.cons (.ali 16 (.op .eq (.pk 2) (.e (.cst (.str "si")))) (.sub (.pk 6) (.var 13)) 5) (.cons (.put 7 (.op .add (.pk 13) (.e (.tup (.cons (.var 14) .nil)))) (.ite (.op .inn (.e (.sub (.e (.sub (.pk 15) (.var 14))) (.cst (.int 1)))) (.pk 16)) (.sub (.pk 16) (.sub (.e (.sub (.pk 15) (.var 14))) (.cst (.int 1)))) (.cst .non))) .nil))) (.cons (.dpop 4 (.var 13)) (.cons (.loop (.one 17) (.seq (.pk 15)) (.cons (.ite (.op .eq (.e (.sub (.pk 17) (.cst (.int 0)))) (.e (.cst (.str "write")))) (.cons (.put 5 (.sub (.pk 17) (.cst (.int 1))) (.var 13)) .nil) .nil) .nil)) .nil))) .nil)) (.cons (.put 3 (.var 11) (.ite (.op .lt (.pk 14) (.e (.bi .len (.cons (.pk 15) .nil)))) (.lst (.cons (.sub (.pk 13) (.cst (.int 1))) (.cons (.op .add (.pk 14) (.e (.cst (.int 1)))) .nil))) (.lst (.cons (.op .add (.e (.sub (.pk 13) (.cst (.int 1)))) (.e (.cst (.int 1)))) (.cons (.op .sub (.e (.cst (.int 0))) (.e (.cst (.int 1)))) .nil))))) .nil))))))))) (.cons (.ite (.op .ne (.e (.lc (.one 11) [11] (.rng (.cst (.int 0)) (.bi .len (.cons (.pk 1) .nil))) (.yes (.op .lt (.e (.sub (.e (.sub (.pk 3) (.var 11))) (.cst (.int 0)))) (.e (.bi .len (.cons (.e (.sub (.pk 1) (.var 11))) .nil))))) (.var 11))) (.e (.lst .nil))) (.cons (.ret (.cst .non)) .nil) .nil) (.cons (.ret (.tup (.cons (.call 26 (.cons (.lend 1) (.cons (.lend 7) .nil))) (.cons (.bi .tupOf (.cons (.pk 8) .nil)) .nil)))) .nil))))
def h25 : Hint := ⟨["live", "views", "versions"], []⟩
abbrev p25 : PyFn := ⟨"_law_played", ["draw", "plan", "level"], defScope (top 28), defBody (top 28)⟩
def f25 : MFn := ⟨3, 19, b25⟩
theorem cv25 : convFn md p25 h25 = some f25 := by kernel_rfl
theorem sc25 : FnScope (namesOf p25) ["draw", "plan", "level"] p25.scope := ⟨by kernel_rfl, by kernel_rfl, by kernel_rfl, by decide +kernel, by decide +kernel, by decide +kernel, by decide +kernel⟩
/- _law_with_versions: 0 plan, 1 versions, 2 sessions, 3 s, 4 session, 5 k, 6 steps, 7 step, 8 told -/
def b26 : MSs := (.cons (.new 2 (.lst .nil)) (.cons (.loop (.one 3) (.rng (.cst (.int 0)) (.bi .len (.cons (.pk 0) .nil))) (.cons (.new 4 (.lst .nil)) (.cons (.loop (.one 5) (.rng (.cst (.int 0)) (.bi .len (.cons (.e (.sub (.pk 0) (.var 3))) .nil))) (.cons (.new 6 (.lst .nil)) (.cons (.loop (.one 7) (.rng (.cst (.int 0)) (.bi .len (.cons (.e (.sub (.e (.sub (.pk 0) (.var 3))) (.var 5))) .nil))) (.cons (.asg 8 (.sub (.e (.sub (.e (.sub (.pk 0) (.var 3))) (.var 5))) (.var 7))) (.cons (.app 6 (.ite (.op .eq (.e (.sub (.pk 8) (.cst (.int 0)))) (.e (.cst (.str "write")))) (.var 8) (.op .add (.pk 8) (.e (.tup (.cons (.sub (.pk 1) (.tup (.cons (.var 3) (.cons (.var 5) (.cons (.var 7) .nil))))) .nil)))))) .nil))) (.cons (.app 4 (.bi .tupOf (.cons (.pk 6) .nil))) .nil)))) (.cons (.app 2 (.bi .tupOf (.cons (.pk 4) .nil))) .nil)))) (.cons (.ret (.tup (.cons (.cst (.str "history")) (.cons (.bi .tupOf (.cons (.pk 2) .nil)) .nil)))) .nil)))
def h26 : Hint := ⟨[], []⟩
abbrev p26 : PyFn := ⟨"_law_with_versions", ["plan", "versions"], defScope (top 29), defBody (top 29)⟩
def f26 : MFn := ⟨2, 9, b26⟩
theorem cv26 : convFn md p26 h26 = some f26 := by kernel_rfl
theorem sc26 : FnScope (namesOf p26) ["plan", "versions"] p26.scope := ⟨by kernel_rfl, by kernel_rfl, by kernel_rfl, by decide +kernel, by decide +kernel, by decide +kernel, by decide +kernel⟩
/- _law_a_game: 0 draw, 1 plan, 2 level, 3 found -/
def b27 : MSs := (.cons (.asg 3 (.call 25 (.cons (.lend 0) (.cons (.lend 1) (.cons (.lend 2) .nil))))) (.cons (.ret (.ite (.op .isN (.pk 3) (.e (.cst .non))) (.call 25 (.cons (.lend 0) (.cons (.lend 1) (.cons (.val (.cst (.str "ser"))) .nil)))) (.var 3))) .nil))
def h27 : Hint := ⟨[], []⟩
abbrev p27 : PyFn := ⟨"_law_a_game", ["draw", "plan", "level"], defScope (top 30), defBody (top 30)⟩
def f27 : MFn := ⟨3, 4, b27⟩
theorem cv27 : convFn md p27 h27 = some f27 := by kernel_rfl
theorem sc27 : FnScope (namesOf p27) ["draw", "plan", "level"] p27.scope := ⟨by kernel_rfl, by kernel_rfl, by kernel_rfl, by decide +kernel, by decide +kernel, by decide +kernel, by decide +kernel⟩
/- _law_exchanged: 0 draw, 1 history, 2 spots, 3 place, 4 k, 5 s, 6 at, 7 step, 8 some, 9 fresh, 10 session -/
def b28 : MSs := (.cons (.asg 2 (.lst .nil)) (.cons (.loop (.one 3) (.seq (.e (.call 15 (.cons (.lend 1) .nil)))) (.cons (.asg 2 (.op .add (.pk 2) (.e (.lc (.one 4) [4] (.rng (.cst (.int 0)) (.bi .len (.cons (.e (.call 16 (.cons (.lend 1) (.cons (.lend 3) .nil)))) .nil))) (.yes (.op .eq (.e (.sub (.e (.sub (.e (.call 16 (.cons (.lend 1) (.cons (.lend 3) .nil)))) (.var 4))) (.cst (.int 0)))) (.e (.cst (.str "read"))))) (.op .add (.pk 3) (.e (.tup (.cons (.var 4) .nil)))))))) .nil)) (.cons (.ite (.op .eq (.pk 2) (.e (.lst .nil))) (.cons (.ret (.var 1)) .nil) .nil) (.cons (.unp [5, 4, 6] (.call 12 (.cons (.lend 0) (.cons (.lend 2) .nil)))) (.cons (.asg 7 (.sub (.e (.sub (.e (.sub (.e (.sub (.pk 1) (.cst (.int 1)))) (.var 5))) (.var 4))) (.var 6))) (.cons (.asg 8 (.lc (.one 3) [3] (.seq (.e (.call 15 (.cons (.lend 1) .nil)))) (.yes (.and (.op .ne (.pk 3) (.e (.tup (.cons (.var 5) (.cons (.var 4) .nil))))) (.op .inn (.e (.sub (.pk 7) (.cst (.int 1)))) (.e (.call 17 (.cons (.val (.call 16 (.cons (.lend 1) (.cons (.lend 3) .nil)))) .nil)))))) (.var 3))) (.cons (.asg 9 (.op .add (.e (.op .add (.e (.slc (.e (.sub (.e (.sub (.e (.sub (.pk 1) (.cst (.int 1)))) (.var 5))) (.var 4))) .no (.yes (.var 6)))) (.e (.tup (.cons (.tup (.cons (.cst (.str "read")) (.cons (.sub (.pk 7) (.cst (.int 1))) (.cons (.call 12 (.cons (.lend 0) (.cons (.val (.op .add (.e (.lst (.cons (.cst .non) .nil))) (.pk 8))) .nil))) .nil)))) .nil))))) (.e (.slc (.e (.sub (.e (.sub (.e (.sub (.pk 1) (.cst (.int 1)))) (.var 5))) (.var 4))) (.yes (.op .add (.pk 6) (.e (.cst (.int 1))))) .no)))) (.cons (.asg 10 (.op .add (.e (.op .add (.e (.slc (.e (.sub (.e (.sub (.pk 1) (.cst (.int 1)))) (.var 5))) .no (.yes (.var 4)))) (.e (.tup (.cons (.var 9) .nil))))) (.e (.slc (.e (.sub (.e (.sub (.pk 1) (.cst (.int 1)))) (.var 5))) (.yes (.op .add (.pk 4) (.e (.cst (.int 1))))) .no)))) (.cons (.ret (.tup (.cons (.cst (.str "history")) (.cons (.op .add (.e (.op .add (.e (.slc (.e (.sub (.pk 1) (.cst (.int 1)))) .no (.yes (.var 5)))) (.e (.tup (.cons (.var 10) .nil))))) (.e (.slc (.e (.sub (.pk 1) (.cst (.int 1)))) (.yes (.op .add (.pk 5) (.e (.cst (.int 1))))) .no))) .nil)))) .nil)))))))))
def h28 : Hint := ⟨[], []⟩
abbrev p28 : PyFn := ⟨"_law_exchanged", ["draw", "history"], defScope (top 31), defBody (top 31)⟩
def f28 : MFn := ⟨2, 11, b28⟩
theorem cv28 : convFn md p28 h28 = some f28 := by kernel_rfl
theorem sc28 : FnScope (namesOf p28) ["draw", "history"] p28.scope := ⟨by kernel_rfl, by kernel_rfl, by kernel_rfl, by decide +kernel, by decide +kernel, by decide +kernel, by decide +kernel⟩
/- _law_a_history: 0 draw, 1 sessions, 2 each, 3 steps, 4 found, 5 turn -/
def b29 : MSs := (.cons (.asg 4 (.sub (.e (.call 27 (.cons (.lend 0) (.cons (.val (.call 22 (.cons (.lend 0) (.cons (.lend 1) (.cons (.lend 2) (.cons (.lend 3) .nil)))))) (.cons (.val (.call 12 (.cons (.lend 0) (.cons (.val (.lst (.cons (.cst (.str "rc")) (.cons (.cst (.str "si")) (.cons (.cst (.str "lock")) (.cons (.cst (.str "ser")) .nil)))))) .nil)))) .nil))))) (.cst (.int 0)))) (.cons (.loop (.one 5) (.rng (.cst (.int 0)) (.call 12 (.cons (.lend 0) (.cons (.val (.lst (.cons (.cst (.int 0)) (.cons (.cst (.int 0)) (.cons (.cst (.int 1)) (.cons (.cst (.int 1)) (.cons (.cst (.int 2)) (.cons (.cst (.int 3)) .nil)))))))) .nil)))) (.cons (.asg 4 (.call 28 (.cons (.lend 0) (.cons (.lend 4) .nil)))) .nil)) (.cons (.ret (.var 4)) .nil)))
def h29 : Hint := ⟨[], []⟩
abbrev p29 : PyFn := ⟨"_law_a_history", ["draw", "sessions", "each", "steps"], defScope (top 32), defBody (top 32)⟩
def f29 : MFn := ⟨4, 6, b29⟩
theorem cv29 : convFn md p29 h29 = some f29 := by kernel_rfl
theorem sc29 : FnScope (namesOf p29) ["draw", "sessions", "each", "steps"] p29.scope := ⟨by kernel_rfl, by kernel_rfl, by kernel_rfl, by decide +kernel, by decide +kernel, by decide +kernel, by decide +kernel⟩
/- _law_same: 0 told, 1 due -/
def b30 : MSs := (.cons (.ret (.op .eq (.e (.bi .repr (.cons (.pk 0) .nil))) (.e (.bi .repr (.cons (.pk 1) .nil))))) .nil)
def h30 : Hint := ⟨[], []⟩
abbrev p30 : PyFn := ⟨"_law_same", ["told", "due"], defScope (top 33), defBody (top 33)⟩
def f30 : MFn := ⟨2, 2, b30⟩
theorem cv30 : convFn md p30 h30 = some f30 := by kernel_rfl
theorem sc30 : FnScope (namesOf p30) ["told", "due"] p30.scope := ⟨by kernel_rfl, by kernel_rfl, by kernel_rfl, by decide +kernel, by decide +kernel, by decide +kernel, by decide +kernel⟩
/- _law_bad_history: 0 draw, 1 history, 2 some -/
def b31 : MSs := (.cons (.asg 2 (.lst (.cons (.cst .non) (.cons (.cst (.int 5)) (.cons (.cst (.str "history")) (.cons (.tup .nil) (.cons (.bi .listOf (.cons (.pk 1) .nil)) (.cons (.slc (.pk 1) .no (.yes (.cst (.int 1)))) (.cons (.op .add (.pk 1) (.e (.tup (.cons (.tup .nil) .nil)))) (.cons (.op .add (.e (.tup (.cons (.cst (.str "house")) .nil))) (.e (.slc (.pk 1) (.yes (.cst (.int 1))) .no))) (.cons (.tup (.cons (.cst (.str "history")) (.cons (.bi .listOf (.cons (.e (.sub (.pk 1) (.cst (.int 1)))) .nil)) .nil))) .nil))))))))))) (.cons (.asg 2 (.op .add (.pk 2) (.e (.lst (.cons (.tup (.cons (.cst (.str "history")) (.cons (.tup .nil) .nil))) (.cons (.tup (.cons (.cst (.str "history")) (.cons (.op .mul (.e (.tup (.cons (.tup .nil) .nil))) (.e (.cst (.int 6)))) .nil))) (.cons (.tup (.cons (.cst (.str "history")) (.cons (.op .add (.e (.sub (.pk 1) (.cst (.int 1)))) (.e (.tup (.cons (.cst .non) .nil)))) .nil))) (.cons (.tup (.cons (.cst (.str "history")) (.cons (.tup (.cons (.tup (.cons (.tup .nil) .nil)) .nil)) .nil))) .nil)))))))) (.cons (.asg 2 (.op .add (.pk 2) (.e (.lst (.cons (.tup (.cons (.cst (.str "history")) (.cons (.tup (.cons (.tup (.cons (.tup (.cons (.cst (.str "read")) (.cons (.cst (.int 0)) (.cons (.tup (.cons (.cst (.int 0)) (.cons (.cst (.int 0)) .nil))) .nil)))) (.cons (.tup (.cons (.cst (.str "write")) (.cons (.cst (.int 0)) .nil))) .nil))) .nil)) .nil))) (.cons (.tup (.cons (.cst (.str "history")) (.cons (.tup (.cons (.tup (.cons (.tup (.cons (.tup (.cons (.cst (.str "read")) (.cons (.cst (.int 0)) (.cons (.tup (.cons (.cst (.int 0)) (.cons (.cst (.int 0)) .nil))) .nil)))) .nil)) .nil)) .nil)) .nil))) .nil)))))) (.cons (.ret (.call 12 (.cons (.lend 0) (.cons (.val (.op .add (.pk 2) (.e (.lst (.cons (.tup (.cons (.cst (.str "history")) (.cons (.tup (.cons (.op .mul (.e (.tup (.cons (.tup (.cons (.cst (.str "write")) (.cons (.cst (.int 0)) .nil))) .nil))) (.e (.cst (.int 9)))) .nil)) .nil))) .nil))))) .nil)))) .nil))))
def h31 : Hint := ⟨[], []⟩
abbrev p31 : PyFn := ⟨"_law_bad_history", ["draw", "history"], defScope (top 34), defBody (top 34)⟩
def f31 : MFn := ⟨2, 3, b31⟩
theorem cv31 : convFn md p31 h31 = some f31 := by kernel_rfl
theorem sc31 : FnScope (namesOf p31) ["draw", "history"] p31.scope := ⟨by kernel_rfl, by kernel_rfl, by kernel_rfl, by decide +kernel, by decide +kernel, by decide +kernel, by decide +kernel⟩
/- _law_odd: 0 draw, 1 part, 2 some -/
def b32 : MSs := (.cons (.asg 2 (.lst (.cons (.cst .non) (.cons (.cst (.int 0)) (.cons (.cst (.int 1)) (.cons (.cst (.int 5)) (.cons (.cst (.int 10000)) (.cons (.cst (.int 9999)) (.cons (.op .sub (.e (.cst (.int 0))) (.e (.cst (.int 1)))) (.cons (.cst (.bl true)) (.cons (.cst (.bl false)) (.cons (.cst (.str "read")) (.cons (.cst (.str "write")) (.cons (.cst (.str "rea")) (.cons (.tup .nil) (.cons (.tup (.cons (.cst (.int 0)) (.cons (.cst (.int 0)) .nil))) (.cons (.tup (.cons (.cst (.int 1)) (.cons (.cst (.int 0)) .nil))) (.cons (.tup (.cons (.cst (.int 0)) (.cons (.cst (.int 1)) .nil))) (.cons (.tup (.cons (.cst (.int 0)) .nil)) (.cons (.tup (.cons (.cst (.int 0)) (.cons (.cst (.int 0)) (.cons (.cst (.int 0)) .nil)))) (.cons (.lst (.cons (.cst (.int 0)) (.cons (.cst (.int 0)) .nil))) (.cons (.tup (.cons (.cst (.int 0)) (.cons (.cst (.bl true)) .nil))) .nil)))))))))))))))))))))) (.cons (.ite (.bi (.isi .tuple) (.cons (.pk 1) .nil)) (.cons (.asg 2 (.op .add (.pk 2) (.e (.lst (.cons (.bi .listOf (.cons (.pk 1) .nil)) (.cons (.rev (.pk 1)) (.cons (.slc (.pk 1) (.yes (.cst (.int 1))) .no) (.cons (.slc (.pk 1) .no (.yes (.neg (.cst (.int 1))))) (.cons (.op .add (.pk 1) (.e (.slc (.pk 1) (.yes (.neg (.cst (.int 1)))) .no))) (.cons (.op .add (.pk 1) (.e (.tup (.cons (.cst .non) .nil)))) (.cons (.op .add (.pk 1) (.e (.tup (.cons (.cst (.int 0)) .nil)))) .nil))))))))))) .nil) .nil) (.cons (.ret (.call 12 (.cons (.lend 0) (.cons (.lend 2) .nil)))) .nil)))
def h32 : Hint := ⟨[], []⟩
abbrev p32 : PyFn := ⟨"_law_odd", ["draw", "part"], defScope (top 35), defBody (top 35)⟩
def f32 : MFn := ⟨2, 3, b32⟩
theorem cv32 : convFn md p32 h32 = some f32 := by kernel_rfl
theorem sc32 : FnScope (namesOf p32) ["draw", "part"] p32.scope := ⟨by kernel_rfl, by kernel_rfl, by kernel_rfl, by decide +kernel, by decide +kernel, by decide +kernel, by decide +kernel⟩
/- _law_bent: 0 draw, 1 thing, 2 at -/
def b33 : MSs := (.cons (.ite (.and (.bi (.isi .tuple) (.cons (.pk 1) .nil)) (.and (.op .ne (.pk 1) (.e (.tup .nil))) (.op .gt (.e (.take 0 (.cst (.int 6)))) (.e (.cst (.int 0)))))) (.cons (.asg 2 (.take 0 (.bi .len (.cons (.pk 1) .nil)))) (.cons (.ret (.op .add (.e (.op .add (.e (.slc (.pk 1) .no (.yes (.var 2)))) (.e (.tup (.cons (.call 33 (.cons (.lend 0) (.cons (.val (.sub (.pk 1) (.var 2))) .nil))) .nil))))) (.e (.slc (.pk 1) (.yes (.op .add (.pk 2) (.e (.cst (.int 1))))) .no)))) .nil)) .nil) (.cons (.ret (.call 32 (.cons (.lend 0) (.cons (.lend 1) .nil)))) .nil))
def h33 : Hint := ⟨[], []⟩
abbrev p33 : PyFn := ⟨"_law_bent", ["draw", "thing"], defScope (top 36), defBody (top 36)⟩
def f33 : MFn := ⟨2, 3, b33⟩
theorem cv33 : convFn md p33 h33 = some f33 := by kernel_rfl
theorem sc33 : FnScope (namesOf p33) ["draw", "thing"] p33.scope := ⟨by kernel_rfl, by kernel_rfl, by kernel_rfl, by decide +kernel, by decide +kernel, by decide +kernel, by decide +kernel⟩
/- _law_with_step: 0 draw, 1 history, 2 place, 3 steps, 4 some, 5 at, 6 key, 7 fresh, 8 session -/
def b34 : MSs := (.cons (.asg 2 (.call 12 (.cons (.lend 0) (.cons (.val (.call 15 (.cons (.lend 1) .nil))) .nil)))) (.cons (.par [(3, false), (4, false)] (.cons (.call 16 (.cons (.lend 1) (.cons (.lend 2) .nil))) (.cons (.lst (.cons (.cst .non) (.cons (.tup (.cons (.cst (.int 0)) (.cons (.cst (.int 0)) .nil))) (.cons (.var 2) (.cons (.call 12 (.cons (.lend 0) (.cons (.val (.call 15 (.cons (.lend 1) .nil))) .nil))) (.cons (.tup (.cons (.cst (.int 0)) (.cons (.cst (.int 7)) .nil))) (.cons (.tup (.cons (.cst (.int 4)) (.cons (.cst (.int 0)) .nil))) .nil))))))) .nil))) (.cons (.par [(5, false), (6, false)] (.cons (.take 0 (.bi .len (.cons (.pk 3) .nil))) (.cons (.call 12 (.cons (.lend 0) (.cons (.val (.lst (.cons (.sub (.e (.call 12 (.cons (.lend 0) (.cons (.val (.call 16 (.cons (.lend 1) (.cons (.lend 2) .nil)))) .nil)))) (.cst (.int 1))) (.cons (.cst (.int 0)) (.cons (.cst (.int 1)) (.cons (.cst (.int 9999)) .nil)))))) .nil))) .nil))) (.cons (.asg 7 (.call 12 (.cons (.lend 0) (.cons (.val (.lst (.cons (.tup (.cons (.cst (.str "write")) (.cons (.var 6) .nil))) (.cons (.tup (.cons (.cst (.str "read")) (.cons (.var 6) (.cons (.call 12 (.cons (.lend 0) (.cons (.lend 4) .nil))) .nil)))) .nil)))) .nil)))) (.cons (.asg 3 (.op .add (.e (.op .add (.e (.slc (.pk 3) .no (.yes (.var 5)))) (.e (.tup (.cons (.var 7) .nil))))) (.e (.slc (.pk 3) (.yes (.op .add (.pk 5) (.e (.take 0 (.cst (.int 2)))))) .no)))) (.cons (.asg 8 (.op .add (.e (.op .add (.e (.slc (.e (.sub (.e (.sub (.pk 1) (.cst (.int 1)))) (.sub (.pk 2) (.cst (.int 0))))) .no (.yes (.sub (.pk 2) (.cst (.int 1)))))) (.e (.tup (.cons (.var 3) .nil))))) (.e (.slc (.e (.sub (.e (.sub (.pk 1) (.cst (.int 1)))) (.sub (.pk 2) (.cst (.int 0))))) (.yes (.op .add (.e (.sub (.pk 2) (.cst (.int 1)))) (.e (.cst (.int 1))))) .no)))) (.cons (.ret (.tup (.cons (.cst (.str "history")) (.cons (.op .add (.e (.op .add (.e (.slc (.e (.sub (.pk 1) (.cst (.int 1)))) .no (.yes (.sub (.pk 2) (.cst (.int 0)))))) (.e (.tup (.cons (.var 8) .nil))))) (.e (.slc (.e (.sub (.pk 1) (.cst (.int 1)))) (.yes (.op .add (.e (.sub (.pk 2) (.cst (.int 0)))) (.e (.cst (.int 1))))) .no))) .nil)))) .nil)))))))
def h34 : Hint := ⟨[], []⟩
abbrev p34 : PyFn := ⟨"_law_with_step", ["draw", "history"], defScope (top 37), defBody (top 37)⟩
def f34 : MFn := ⟨2, 9, b34⟩
theorem cv34 : convFn md p34 h34 = some f34 := by kernel_rfl
theorem sc34 : FnScope (namesOf p34) ["draw", "history"] p34.scope := ⟨by kernel_rfl, by kernel_rfl, by kernel_rfl, by decide +kernel, by decide +kernel, by decide +kernel, by decide +kernel⟩
/- law: 0 script, 1 draw, 2 turn, 3 history, 4 change, 5 thing, 6 key, 7 one, 8 long, 9 some -/
def b35 : MSs := (.cons (.loop (.one 2) (.rng (.cst (.int 0)) (.op .add (.e (.cst (.int 3))) (.e (.bi .min (.cons (.e (.bi .len (.cons (.pk 0) .nil))) (.cons (.e (.cst (.int 5))) .nil)))))) (.cons (.asg 3 (.call 29 (.cons (.lend 1) (.cons (.val (.op .add (.e (.cst (.int 1))) (.e (.take 1 (.cst (.int 4)))))) (.cons (.val (.cst (.int 2))) (.cons (.val (.cst (.int 4))) .nil)))))) (.cons (.ite (.not (.call 30 (.cons (.val (.call 8 (.cons (.lend 3) .nil))) (.cons (.val (.cst (.bl true))) .nil)))) (.cons (.ret (.cst (.bl false))) .nil) .nil) (.cons (.loop (.one 4) (.rng (.cst (.int 0)) (.cst (.int 10))) (.cons (.loop (.one 5) (.seq (.e (.lst (.cons (.call 33 (.cons (.lend 1) (.cons (.lend 3) .nil))) (.cons (.call 34 (.cons (.lend 1) (.cons (.lend 3) .nil))) (.cons (.call 31 (.cons (.lend 1) (.cons (.lend 3) .nil))) .nil)))))) (.cons (.ite (.not (.call 30 (.cons (.val (.callk 8 [0] (.cons (.lend 5) .nil))) (.cons (.val (.call 18 (.cons (.lend 5) .nil))) .nil)))) (.cons (.ret (.cst (.bl false))) .nil) .nil) .nil)) .nil)) .nil)))) (.cons (.par [(6, false), (7, false)] (.cons (.take 1 (.cst (.int 10000))) (.cons (.tup (.cons (.tup (.cons (.cst (.str "write")) (.cons (.take 1 (.cst (.int 10000))) .nil))) .nil)) .nil))) (.cons (.asg 8 (.op .add (.e (.op .mul (.e (.tup (.cons (.tup (.cons (.cst (.str "read")) (.cons (.var 6) (.cons (.cst .non) .nil)))) .nil))) (.e (.cst (.int 11))))) (.e (.tup (.cons (.tup (.cons (.cst (.str "write")) (.cons (.var 6) .nil))) .nil))))) (.cons (.asg 9 (.lst (.cons (.tup (.cons (.cst (.str "history")) (.cons (.op .mul (.e (.tup (.cons (.op .mul (.pk 7) (.e (.cst (.int 1)))) .nil))) (.e (.cst (.int 1)))) .nil))) (.cons (.tup (.cons (.cst (.str "history")) (.cons (.op .mul (.e (.tup (.cons (.op .mul (.e (.tup (.cons (.var 7) .nil))) (.e (.cst (.int 8)))) .nil))) (.e (.cst (.int 5)))) .nil))) (.cons (.tup (.cons (.cst (.str "history")) (.cons (.tup (.cons (.op .mul (.e (.tup (.cons (.var 7) .nil))) (.e (.cst (.int 9)))) .nil)) .nil))) (.cons (.tup (.cons (.cst (.str "history")) (.cons (.op .mul (.e (.tup (.cons (.tup (.cons (.var 7) .nil)) .nil))) (.e (.cst (.int 6)))) .nil))) (.cons (.tup (.cons (.cst (.str "history")) (.cons (.tup (.cons (.tup (.cons (.var 8) .nil)) .nil)) .nil))) .nil))))))) (.cons (.asg 9 (.op .add (.pk 9) (.e (.lst (.cons (.tup (.cons (.cst (.str "history")) (.cons (.tup (.cons (.tup (.cons (.op .add (.pk 8) (.e (.tup (.cons (.tup (.cons (.cst (.str "write")) (.cons (.var 6) .nil))) .nil)))) .nil)) .nil)) .nil))) (.cons (.tup (.cons (.cst (.str "history")) (.cons (.tup (.cons (.tup .nil) .nil)) .nil))) (.cons (.tup (.cons (.cst (.str "history")) (.cons (.tup (.cons (.tup .nil) (.cons (.tup (.cons (.var 8) .nil)) (.cons (.tup .nil) .nil)))) .nil))) (.cons (.tup (.cons (.cst (.str "history")) (.cons (.tup .nil) .nil))) .nil)))))))) (.cons (.ite (.op .ne (.e (.lc (.one 5) [5] (.seq (.pk 9)) .no (.call 8 (.cons (.lend 5) .nil)))) (.e (.lc (.one 5) [5] (.seq (.pk 9)) .no (.call 18 (.cons (.lend 5) .nil))))) (.cons (.ret (.cst (.bl false))) .nil) .nil) (.cons (.ret (.call 30 (.cons (.val (.lc (.one 5) [5] (.seq (.e (.slc (.pk 9) (.yes (.cst (.int 1))) .no))) .no (.call 8 (.cons (.lend 5) .nil)))) (.cons (.val (.lst (.cons (.cst (.bl true)) (.cons (.cst (.bl false)) (.cons (.cst (.bl false)) (.cons (.cst (.bl true)) (.cons (.cst (.bl false)) (.cons (.cst (.bl true)) (.cons (.cst (.bl true)) (.cons (.cst (.bl false)) .nil)))))))))) .nil)))) .nil)))))))
def h35 : Hint := ⟨[], []⟩
abbrev p35 : PyFn := ⟨"law", ["script"], defScope (top 38), defBody (top 38)⟩
theorem cv35 : convSs 200 (cxFor md p35 h35) ((muSs 200 p35.body).filterMap (idxN (cxFor md p35 h35).N)) (p35.body.drop 1) = some b35 := by kernel_rfl
theorem sc35 : FnScope (namesOf p35) ["script"] p35.scope := ⟨by kernel_rfl, by kernel_rfl, by kernel_rfl, by decide +kernel, by decide +kernel, by decide +kernel, by decide +kernel⟩
def fs : Nat → Option MFn
  | 0 => some f0
  | 1 => some f1
  | 2 => some f2
  | 3 => some f3
  | 4 => some f4
  | 5 => some f5
  | 6 => some f6
  | 7 => some f7
  | 8 => some f8
  | 12 => some f12
  | 13 => some f13
  | 14 => some f14
  | 15 => some f15
  | 16 => some f16
  | 17 => some f17
  | 18 => some f18
  | 19 => some f19
  | 20 => some f20
  | 21 => some f21
  | 22 => some f22
  | 23 => some f23
  | 24 => some f24
  | 25 => some f25
  | 26 => some f26
  | 27 => some f27
  | 28 => some f28
  | 29 => some f29
  | 30 => some f30
  | 31 => some f31
  | 32 => some f32
  | 33 => some f33
  | 34 => some f34
  | _ => none
end Law
/-! the head, the facts, the row (printed by gen/asm.py) -/
namespace Law
open PySem PySem.Spec PyProof.Rows L2 Rf
abbrev drawIx : Nat := 1
def dOf (x : Str) (st : Stmt) : He.DefD := ⟨(x, none), x, x, defArgs st, defBody st, defScope st, [], []⟩
def fn : List He.DefD := [dOf "is_number" (top 1), dOf "is_key" (top 3), dOf "is_version" (top 4), dOf "is_step" (top 5), dOf "is_transaction" (top 6), dOf "keys_written" (top 7), dOf "places_of" (top 8), dOf "versions_are_right" (top 9), dOf "is_history" (top 10), dOf "_law_begun" (top 12), dOf "_law_mixed" (top 13), dOf "_law_take" (top 14), dOf "_law_pick" (top 15), dOf "_law_shuffled" (top 16), dOf "_law_is_int" (top 17), dOf "_law_places" (top 18), dOf "_law_at" (top 19), dOf "_law_writes" (top 20), dOf "_law_is_history" (top 21), dOf "_law_is_plain" (top 22), dOf "_law_is_version" (top 23), dOf "_law_transaction" (top 24), dOf "_law_plan" (top 25), dOf "_law_next" (top 26), dOf "_law_is_let" (top 27), dOf "_law_played" (top 28), dOf "_law_with_versions" (top 29), dOf "_law_a_game" (top 30), dOf "_law_exchanged" (top 31), dOf "_law_a_history" (top 32), dOf "_law_same" (top 33), dOf "_law_bad_history" (top 34), dOf "_law_odd" (top 35), dOf "_law_bent" (top 36), dOf "_law_with_step" (top 37), dOf "law" (top 38)]
def bis : List Str := ["len", "isinstance", "int", "bool", "str", "tuple", "list", "dict", "all", "any", "sum", "min", "max", "abs", "range", "enumerate", "repr"]
def fa : List He.Fa := [.glo "is_number", .glo "is_key", .glo "is_version", .glo "is_step", .glo "is_transaction", .glo "keys_written", .glo "places_of", .glo "versions_are_right", .glo "is_history", .glo "_law_begun", .glo "_law_mixed", .glo "_law_take", .glo "_law_pick", .glo "_law_shuffled", .glo "_law_is_int", .glo "_law_places", .glo "_law_at", .glo "_law_writes", .glo "_law_is_history", .glo "_law_is_plain", .glo "_law_is_version", .glo "_law_transaction", .glo "_law_plan", .glo "_law_next", .glo "_law_is_let", .glo "_law_played", .glo "_law_with_versions", .glo "_law_a_game", .glo "_law_exchanged", .glo "_law_a_history", .glo "_law_same", .glo "_law_bad_history", .glo "_law_odd", .glo "_law_bent", .glo "_law_with_step", .glo "law", .free "len", .free "isinstance", .free "int", .free "bool", .free "str", .free "tuple", .free "list", .free "dict", .free "all", .free "any", .free "sum", .free "min", .free "max", .free "abs", .free "range", .free "enumerate", .free "repr"]
abbrev R : PySem.W.OpenRow := PySem.W.OpenLaw.row PySem.Challenge.rw_splitfree_k74_whole_histories_judged
abbrev hk : PySem.W.Hook := He.hookD 4 fa fn
def ob (s : PySem.W.SharedT) : He.AlD := He.obsDG 4 fa fn (HandSHeadRun.getT s)
theorem ob_eq (s : PySem.W.SharedT) : ob s = hk.obs s.abs := He.obsDG_eq (HandSHeadRun.getT_eq s)
def loose : List Str := (fn.map (·.name)).dropLast
theorem run (w : World) : HandSHeadRun.RunEq R (PySem.W.view R.prog [38]) hk ob 3000 loose w := by
  intro os
  kernel_rfl
section
variable {w : World} {K : PySem.W.Frag} {h : Heap} {mg : Str → Option Value}
theorem free_all (X : K.In h) (G : h.Ns mainGlobals mg) (c : He.SaysD fa fn K) : ∀ y ∈ bnames, mg y = none := by
  simp only [bnames, List.forall_mem_cons]
  exact ⟨He.free_ok X G (c.fact 36 (f := .free "len") rfl), He.free_ok X G (c.fact 37 (f := .free "isinstance") rfl), He.free_ok X G (c.fact 38 (f := .free "int") rfl), He.free_ok X G (c.fact 39 (f := .free "bool") rfl), He.free_ok X G (c.fact 40 (f := .free "str") rfl), He.free_ok X G (c.fact 41 (f := .free "tuple") rfl), He.free_ok X G (c.fact 42 (f := .free "list") rfl), He.free_ok X G (c.fact 43 (f := .free "dict") rfl), He.free_ok X G (c.fact 44 (f := .free "all") rfl), He.free_ok X G (c.fact 45 (f := .free "any") rfl), He.free_ok X G (c.fact 46 (f := .free "sum") rfl), He.free_ok X G (c.fact 47 (f := .free "min") rfl), He.free_ok X G (c.fact 48 (f := .free "max") rfl), He.free_ok X G (c.fact 49 (f := .free "abs") rfl), He.free_ok X G (c.fact 50 (f := .free "range") rfl), He.free_ok X G (c.fact 51 (f := .free "enumerate") rfl), He.free_ok X G (c.fact 52 (f := .free "repr") rfl), fun _ z => by cases z⟩
theorem bd0 {f : Addr} {fd : FuncData} (F : FunD K "is_number" "is_number" (defArgs (top 1)) (defBody (top 1)) (defScope (top 1)) [] [] f fd) : Binds K fd ["thing"] [] := F.bindsN fun _ _ _ _ _ _ us hl => match us, hl with | [_], _ => rfl
theorem bd1 {f : Addr} {fd : FuncData} (F : FunD K "is_key" "is_key" (defArgs (top 3)) (defBody (top 3)) (defScope (top 3)) [] [] f fd) : Binds K fd ["thing"] [] := F.bindsN fun _ _ _ _ _ _ us hl => match us, hl with | [_], _ => rfl
theorem bd2 {f : Addr} {fd : FuncData} (F : FunD K "is_version" "is_version" (defArgs (top 4)) (defBody (top 4)) (defScope (top 4)) [] [] f fd) : Binds K fd ["thing"] [] := F.bindsN fun _ _ _ _ _ _ us hl => match us, hl with | [_], _ => rfl
theorem bd3 {f : Addr} {fd : FuncData} (F : FunD K "is_step" "is_step" (defArgs (top 5)) (defBody (top 5)) (defScope (top 5)) [] [] f fd) : Binds K fd ["thing"] [] := F.bindsN fun _ _ _ _ _ _ us hl => match us, hl with | [_], _ => rfl
theorem bd4 {f : Addr} {fd : FuncData} (F : FunD K "is_transaction" "is_transaction" (defArgs (top 6)) (defBody (top 6)) (defScope (top 6)) [] [] f fd) : Binds K fd ["thing"] [] := F.bindsN fun _ _ _ _ _ _ us hl => match us, hl with | [_], _ => rfl
theorem bd5 {f : Addr} {fd : FuncData} (F : FunD K "keys_written" "keys_written" (defArgs (top 7)) (defBody (top 7)) (defScope (top 7)) [] [] f fd) : Binds K fd ["transaction"] [] := F.bindsN fun _ _ _ _ _ _ us hl => match us, hl with | [_], _ => rfl
theorem bd6 {f : Addr} {fd : FuncData} (F : FunD K "places_of" "places_of" (defArgs (top 8)) (defBody (top 8)) (defScope (top 8)) [] [] f fd) : Binds K fd ["history"] [] := F.bindsN fun _ _ _ _ _ _ us hl => match us, hl with | [_], _ => rfl
theorem bd7 {f : Addr} {fd : FuncData} (F : FunD K "versions_are_right" "versions_are_right" (defArgs (top 9)) (defBody (top 9)) (defScope (top 9)) [] [] f fd) : Binds K fd ["history"] [] := F.bindsN fun _ _ _ _ _ _ us hl => match us, hl with | [_], _ => rfl
theorem bd8 {f : Addr} {fd : FuncData} (F : FunD K "is_history" "is_history" (defArgs (top 10)) (defBody (top 10)) (defScope (top 10)) [] [] f fd) : Binds K fd ["thing"] [] := F.bindsN fun _ _ _ _ _ _ us hl => match us, hl with | [_], _ => rfl
theorem bd9 {f : Addr} {fd : FuncData} (F : FunD K "_law_begun" "_law_begun" (defArgs (top 12)) (defBody (top 12)) (defScope (top 12)) [] [] f fd) : Binds K fd ["script"] [] := F.bindsN fun _ _ _ _ _ _ us hl => match us, hl with | [_], _ => rfl
theorem bd10 {f : Addr} {fd : FuncData} (F : FunD K "_law_mixed" "_law_mixed" (defArgs (top 13)) (defBody (top 13)) (defScope (top 13)) [] [] f fd) : Binds K fd ["draw"] [] := F.bindsN fun _ _ _ _ _ _ us hl => match us, hl with | [_], _ => rfl
theorem bd11 {f : Addr} {fd : FuncData} (F : FunD K "_law_take" "_law_take" (defArgs (top 14)) (defBody (top 14)) (defScope (top 14)) [] [] f fd) : Binds K fd ["draw", "many"] [] := F.bindsN fun _ _ _ _ _ _ us hl => match us, hl with | [_, _], _ => rfl
theorem bd12 {f : Addr} {fd : FuncData} (F : FunD K "_law_pick" "_law_pick" (defArgs (top 15)) (defBody (top 15)) (defScope (top 15)) [] [] f fd) : Binds K fd ["draw", "some"] [] := F.bindsN fun _ _ _ _ _ _ us hl => match us, hl with | [_, _], _ => rfl
theorem bd13 {f : Addr} {fd : FuncData} (F : FunD K "_law_shuffled" "_law_shuffled" (defArgs (top 16)) (defBody (top 16)) (defScope (top 16)) [] [] f fd) : Binds K fd ["draw", "some"] [] := F.bindsN fun _ _ _ _ _ _ us hl => match us, hl with | [_, _], _ => rfl
theorem bd14 {f : Addr} {fd : FuncData} (F : FunD K "_law_is_int" "_law_is_int" (defArgs (top 17)) (defBody (top 17)) (defScope (top 17)) [] [] f fd) : Binds K fd ["thing"] [] := F.bindsN fun _ _ _ _ _ _ us hl => match us, hl with | [_], _ => rfl
theorem bd15 {f : Addr} {fd : FuncData} (F : FunD K "_law_places" "_law_places" (defArgs (top 18)) (defBody (top 18)) (defScope (top 18)) [] [] f fd) : Binds K fd ["history"] [] := F.bindsN fun _ _ _ _ _ _ us hl => match us, hl with | [_], _ => rfl
theorem bd16 {f : Addr} {fd : FuncData} (F : FunD K "_law_at" "_law_at" (defArgs (top 19)) (defBody (top 19)) (defScope (top 19)) [] [] f fd) : Binds K fd ["history", "place"] [] := F.bindsN fun _ _ _ _ _ _ us hl => match us, hl with | [_, _], _ => rfl
theorem bd17 {f : Addr} {fd : FuncData} (F : FunD K "_law_writes" "_law_writes" (defArgs (top 20)) (defBody (top 20)) (defScope (top 20)) [] [] f fd) : Binds K fd ["transaction"] [] := F.bindsN fun _ _ _ _ _ _ us hl => match us, hl with | [_], _ => rfl
theorem bd18 {f : Addr} {fd : FuncData} (F : FunD K "_law_is_history" "_law_is_history" (defArgs (top 21)) (defBody (top 21)) (defScope (top 21)) [] [] f fd) : Binds K fd ["thing"] [] := F.bindsN fun _ _ _ _ _ _ us hl => match us, hl with | [_], _ => rfl
theorem bd19 {f : Addr} {fd : FuncData} (F : FunD K "_law_is_plain" "_law_is_plain" (defArgs (top 22)) (defBody (top 22)) (defScope (top 22)) [] [] f fd) : Binds K fd ["thing"] [] := F.bindsN fun _ _ _ _ _ _ us hl => match us, hl with | [_], _ => rfl
theorem bd20 {f : Addr} {fd : FuncData} (F : FunD K "_law_is_version" "_law_is_version" (defArgs (top 23)) (defBody (top 23)) (defScope (top 23)) [] [] f fd) : Binds K fd ["thing"] [] := F.bindsN fun _ _ _ _ _ _ us hl => match us, hl with | [_], _ => rfl
theorem bd21 {f : Addr} {fd : FuncData} (F : FunD K "_law_transaction" "_law_transaction" (defArgs (top 24)) (defBody (top 24)) (defScope (top 24)) [] [] f fd) : Binds K fd ["draw", "keys", "many"] [] := F.bindsN fun _ _ _ _ _ _ us hl => match us, hl with | [_, _, _], _ => rfl
theorem bd22 {f : Addr} {fd : FuncData} (F : FunD K "_law_plan" "_law_plan" (defArgs (top 25)) (defBody (top 25)) (defScope (top 25)) [] [] f fd) : Binds K fd ["draw", "sessions", "each", "steps"] [] := F.bindsN fun _ _ _ _ _ _ us hl => match us, hl with | [_, _, _, _], _ => rfl
theorem bd23 {f : Addr} {fd : FuncData} (F : FunD K "_law_next" "_law_next" (defArgs (top 26)) (defBody (top 26)) (defScope (top 26)) [] [] f fd) : Binds K fd ["plan", "spots", "s"] [] := F.bindsN fun _ _ _ _ _ _ us hl => match us, hl with | [_, _, _], _ => rfl
theorem bd24 {f : Addr} {fd : FuncData} (F : FunD K "_law_is_let" "_law_is_let" (defArgs (top 27)) (defBody (top 27)) (defScope (top 27)) [] [] f fd) : Binds K fd ["plan", "level", "live", "place", "step"] [] := F.bindsN fun _ _ _ _ _ _ us hl => match us, hl with | [_, _, _, _, _], _ => rfl
theorem bd25 {f : Addr} {fd : FuncData} (F : FunD K "_law_played" "_law_played" (defArgs (top 28)) (defBody (top 28)) (defScope (top 28)) [] [] f fd) : Binds K fd ["draw", "plan", "level"] [] := F.bindsN fun _ _ _ _ _ _ us hl => match us, hl with | [_, _, _], _ => rfl
theorem bd26 {f : Addr} {fd : FuncData} (F : FunD K "_law_with_versions" "_law_with_versions" (defArgs (top 29)) (defBody (top 29)) (defScope (top 29)) [] [] f fd) : Binds K fd ["plan", "versions"] [] := F.bindsN fun _ _ _ _ _ _ us hl => match us, hl with | [_, _], _ => rfl
theorem bd27 {f : Addr} {fd : FuncData} (F : FunD K "_law_a_game" "_law_a_game" (defArgs (top 30)) (defBody (top 30)) (defScope (top 30)) [] [] f fd) : Binds K fd ["draw", "plan", "level"] [] := F.bindsN fun _ _ _ _ _ _ us hl => match us, hl with | [_, _, _], _ => rfl
theorem bd28 {f : Addr} {fd : FuncData} (F : FunD K "_law_exchanged" "_law_exchanged" (defArgs (top 31)) (defBody (top 31)) (defScope (top 31)) [] [] f fd) : Binds K fd ["draw", "history"] [] := F.bindsN fun _ _ _ _ _ _ us hl => match us, hl with | [_, _], _ => rfl
theorem bd29 {f : Addr} {fd : FuncData} (F : FunD K "_law_a_history" "_law_a_history" (defArgs (top 32)) (defBody (top 32)) (defScope (top 32)) [] [] f fd) : Binds K fd ["draw", "sessions", "each", "steps"] [] := F.bindsN fun _ _ _ _ _ _ us hl => match us, hl with | [_, _, _, _], _ => rfl
theorem bd30 {f : Addr} {fd : FuncData} (F : FunD K "_law_same" "_law_same" (defArgs (top 33)) (defBody (top 33)) (defScope (top 33)) [] [] f fd) : Binds K fd ["told", "due"] [] := F.bindsN fun _ _ _ _ _ _ us hl => match us, hl with | [_, _], _ => rfl
theorem bd31 {f : Addr} {fd : FuncData} (F : FunD K "_law_bad_history" "_law_bad_history" (defArgs (top 34)) (defBody (top 34)) (defScope (top 34)) [] [] f fd) : Binds K fd ["draw", "history"] [] := F.bindsN fun _ _ _ _ _ _ us hl => match us, hl with | [_, _], _ => rfl
theorem bd32 {f : Addr} {fd : FuncData} (F : FunD K "_law_odd" "_law_odd" (defArgs (top 35)) (defBody (top 35)) (defScope (top 35)) [] [] f fd) : Binds K fd ["draw", "part"] [] := F.bindsN fun _ _ _ _ _ _ us hl => match us, hl with | [_, _], _ => rfl
theorem bd33 {f : Addr} {fd : FuncData} (F : FunD K "_law_bent" "_law_bent" (defArgs (top 36)) (defBody (top 36)) (defScope (top 36)) [] [] f fd) : Binds K fd ["draw", "thing"] [] := F.bindsN fun _ _ _ _ _ _ us hl => match us, hl with | [_, _], _ => rfl
theorem bd34 {f : Addr} {fd : FuncData} (F : FunD K "_law_with_step" "_law_with_step" (defArgs (top 37)) (defBody (top 37)) (defScope (top 37)) [] [] f fd) : Binds K fd ["draw", "history"] [] := F.bindsN fun _ _ _ _ _ _ us hl => match us, hl with | [_, _], _ => rfl
theorem bd35 {f : Addr} {fd : FuncData} (F : FunD K "law" "law" (defArgs (top 38)) (defBody (top 38)) (defScope (top 38)) [] [] f fd) : Binds K fd ["script"] [] := F.bindsN fun _ _ _ _ _ _ us hl => match us, hl with | [_], _ => rfl
theorem kb8 {f : Addr} {fd : FuncData} (F : FunD K "is_history" "is_history" (defArgs (top 10)) (defBody (top 10)) (defScope (top 10)) [] [] f fd) : KBd K fd ["thing"] ["thing"] (gVal [0] .none) (gVal [0] .non) := by
  refine ⟨fun s ws _ hl => ?_, fun r => gVal_rel _ r⟩
  obtain ⟨oc, od, dV, kV, doc, pm, an, cdv, ct, osl, rfl, lk, hcd, hD, hK⟩ := F.ex
  rcases hD with ⟨_, rfl⟩ | ⟨e, _⟩
  · refine .of_eq ?_
    match ws, hl with
    | [_], _ => rfl
  · exact absurd rfl e
end
theorem facts {w : World} {K : PySem.W.Frag} {h : Heap} {mg : Str → Option Value} {f : Addr} (X : K.In h) (G : h.Ns mainGlobals mg) (hfa : mg ("law" : Str) = some (.ref f)) (c : He.SaysD fa fn K) (mean : lawMeans fs 30 b35 (namesOf p35).length drawIx) :
    ∃ fd : FuncData, (∀ (s : Shared) (v : Value), BindsTo s fd ⟨[v], []⟩ [("script", v)]) ∧ ∀ base : Heap, K.In base → base.Ns mainGlobals mg → FnG prog w K mg base (L2.CX prog w) 33 f fd ["script"] (spLaw K) := by
  obtain ⟨fd0, F0⟩ := c.def_ 0 (d := dOf "is_number" (top 1)) rfl
  obtain ⟨fd1, F1⟩ := c.def_ 1 (d := dOf "is_key" (top 3)) rfl
  obtain ⟨fd2, F2⟩ := c.def_ 2 (d := dOf "is_version" (top 4)) rfl
  obtain ⟨fd3, F3⟩ := c.def_ 3 (d := dOf "is_step" (top 5)) rfl
  obtain ⟨fd4, F4⟩ := c.def_ 4 (d := dOf "is_transaction" (top 6)) rfl
  obtain ⟨fd5, F5⟩ := c.def_ 5 (d := dOf "keys_written" (top 7)) rfl
  obtain ⟨fd6, F6⟩ := c.def_ 6 (d := dOf "places_of" (top 8)) rfl
  obtain ⟨fd7, F7⟩ := c.def_ 7 (d := dOf "versions_are_right" (top 9)) rfl
  obtain ⟨fd8, F8⟩ := c.def_ 8 (d := dOf "is_history" (top 10)) rfl
  obtain ⟨fd9, F9⟩ := c.def_ 9 (d := dOf "_law_begun" (top 12)) rfl
  obtain ⟨fd10, F10⟩ := c.def_ 10 (d := dOf "_law_mixed" (top 13)) rfl
  obtain ⟨fd11, F11⟩ := c.def_ 11 (d := dOf "_law_take" (top 14)) rfl
  obtain ⟨fd12, F12⟩ := c.def_ 12 (d := dOf "_law_pick" (top 15)) rfl
  obtain ⟨fd13, F13⟩ := c.def_ 13 (d := dOf "_law_shuffled" (top 16)) rfl
  obtain ⟨fd14, F14⟩ := c.def_ 14 (d := dOf "_law_is_int" (top 17)) rfl
  obtain ⟨fd15, F15⟩ := c.def_ 15 (d := dOf "_law_places" (top 18)) rfl
  obtain ⟨fd16, F16⟩ := c.def_ 16 (d := dOf "_law_at" (top 19)) rfl
  obtain ⟨fd17, F17⟩ := c.def_ 17 (d := dOf "_law_writes" (top 20)) rfl
  obtain ⟨fd18, F18⟩ := c.def_ 18 (d := dOf "_law_is_history" (top 21)) rfl
  obtain ⟨fd19, F19⟩ := c.def_ 19 (d := dOf "_law_is_plain" (top 22)) rfl
  obtain ⟨fd20, F20⟩ := c.def_ 20 (d := dOf "_law_is_version" (top 23)) rfl
  obtain ⟨fd21, F21⟩ := c.def_ 21 (d := dOf "_law_transaction" (top 24)) rfl
  obtain ⟨fd22, F22⟩ := c.def_ 22 (d := dOf "_law_plan" (top 25)) rfl
  obtain ⟨fd23, F23⟩ := c.def_ 23 (d := dOf "_law_next" (top 26)) rfl
  obtain ⟨fd24, F24⟩ := c.def_ 24 (d := dOf "_law_is_let" (top 27)) rfl
  obtain ⟨fd25, F25⟩ := c.def_ 25 (d := dOf "_law_played" (top 28)) rfl
  obtain ⟨fd26, F26⟩ := c.def_ 26 (d := dOf "_law_with_versions" (top 29)) rfl
  obtain ⟨fd27, F27⟩ := c.def_ 27 (d := dOf "_law_a_game" (top 30)) rfl
  obtain ⟨fd28, F28⟩ := c.def_ 28 (d := dOf "_law_exchanged" (top 31)) rfl
  obtain ⟨fd29, F29⟩ := c.def_ 29 (d := dOf "_law_a_history" (top 32)) rfl
  obtain ⟨fd30, F30⟩ := c.def_ 30 (d := dOf "_law_same" (top 33)) rfl
  obtain ⟨fd31, F31⟩ := c.def_ 31 (d := dOf "_law_bad_history" (top 34)) rfl
  obtain ⟨fd32, F32⟩ := c.def_ 32 (d := dOf "_law_odd" (top 35)) rfl
  obtain ⟨fd33, F33⟩ := c.def_ 33 (d := dOf "_law_bent" (top 36)) rfl
  obtain ⟨fd34, F34⟩ := c.def_ 34 (d := dOf "_law_with_step" (top 37)) rfl
  obtain ⟨fd35, F35⟩ := c.def_ 35 (d := dOf "law" (top 38)) rfl
  have g0 := He.glo_ok X G (c.fact 0 (f := .glo "is_number") rfl)
  have g1 := He.glo_ok X G (c.fact 1 (f := .glo "is_key") rfl)
  have g2 := He.glo_ok X G (c.fact 2 (f := .glo "is_version") rfl)
  have g3 := He.glo_ok X G (c.fact 3 (f := .glo "is_step") rfl)
  have g4 := He.glo_ok X G (c.fact 4 (f := .glo "is_transaction") rfl)
  have g5 := He.glo_ok X G (c.fact 5 (f := .glo "keys_written") rfl)
  have g6 := He.glo_ok X G (c.fact 6 (f := .glo "places_of") rfl)
  have g7 := He.glo_ok X G (c.fact 7 (f := .glo "versions_are_right") rfl)
  have g8 := He.glo_ok X G (c.fact 8 (f := .glo "is_history") rfl)
  have g9 := He.glo_ok X G (c.fact 9 (f := .glo "_law_begun") rfl)
  have g10 := He.glo_ok X G (c.fact 10 (f := .glo "_law_mixed") rfl)
  have g11 := He.glo_ok X G (c.fact 11 (f := .glo "_law_take") rfl)
  have g12 := He.glo_ok X G (c.fact 12 (f := .glo "_law_pick") rfl)
  have g13 := He.glo_ok X G (c.fact 13 (f := .glo "_law_shuffled") rfl)
  have g14 := He.glo_ok X G (c.fact 14 (f := .glo "_law_is_int") rfl)
  have g15 := He.glo_ok X G (c.fact 15 (f := .glo "_law_places") rfl)
  have g16 := He.glo_ok X G (c.fact 16 (f := .glo "_law_at") rfl)
  have g17 := He.glo_ok X G (c.fact 17 (f := .glo "_law_writes") rfl)
  have g18 := He.glo_ok X G (c.fact 18 (f := .glo "_law_is_history") rfl)
  have g19 := He.glo_ok X G (c.fact 19 (f := .glo "_law_is_plain") rfl)
  have g20 := He.glo_ok X G (c.fact 20 (f := .glo "_law_is_version") rfl)
  have g21 := He.glo_ok X G (c.fact 21 (f := .glo "_law_transaction") rfl)
  have g22 := He.glo_ok X G (c.fact 22 (f := .glo "_law_plan") rfl)
  have g23 := He.glo_ok X G (c.fact 23 (f := .glo "_law_next") rfl)
  have g24 := He.glo_ok X G (c.fact 24 (f := .glo "_law_is_let") rfl)
  have g25 := He.glo_ok X G (c.fact 25 (f := .glo "_law_played") rfl)
  have g26 := He.glo_ok X G (c.fact 26 (f := .glo "_law_with_versions") rfl)
  have g27 := He.glo_ok X G (c.fact 27 (f := .glo "_law_a_game") rfl)
  have g28 := He.glo_ok X G (c.fact 28 (f := .glo "_law_exchanged") rfl)
  have g29 := He.glo_ok X G (c.fact 29 (f := .glo "_law_a_history") rfl)
  have g30 := He.glo_ok X G (c.fact 30 (f := .glo "_law_same") rfl)
  have g31 := He.glo_ok X G (c.fact 31 (f := .glo "_law_bad_history") rfl)
  have g32 := He.glo_ok X G (c.fact 32 (f := .glo "_law_odd") rfl)
  have g33 := He.glo_ok X G (c.fact 33 (f := .glo "_law_bent") rfl)
  have g34 := He.glo_ok X G (c.fact 34 (f := .glo "_law_with_step") rfl)
  have g35 := He.glo_ok X G (c.fact 35 (f := .glo "law") rfl)
  have bl := free_all X G c
  have e := hfa.symm.trans g35
  cases e
  let fa : Nat → Addr := fun i => [He.ga K "is_number", He.ga K "is_key", He.ga K "is_version", He.ga K "is_step", He.ga K "is_transaction", He.ga K "keys_written", He.ga K "places_of", He.ga K "versions_are_right", He.ga K "is_history", He.ga K "_law_begun", He.ga K "_law_mixed", He.ga K "_law_take", He.ga K "_law_pick", He.ga K "_law_shuffled", He.ga K "_law_is_int", He.ga K "_law_places", He.ga K "_law_at", He.ga K "_law_writes", He.ga K "_law_is_history", He.ga K "_law_is_plain", He.ga K "_law_is_version", He.ga K "_law_transaction", He.ga K "_law_plan", He.ga K "_law_next", He.ga K "_law_is_let", He.ga K "_law_played", He.ga K "_law_with_versions", He.ga K "_law_a_game", He.ga K "_law_exchanged", He.ga K "_law_a_history", He.ga K "_law_same", He.ga K "_law_bad_history", He.ga K "_law_odd", He.ga K "_law_bent", He.ga K "_law_with_step", He.ga K "law"].getD i 0
  let fdd : Nat → FuncData := fun i => [fd0, fd1, fd2, fd3, fd4, fd5, fd6, fd7, fd8, fd9, fd10, fd11, fd12, fd13, fd14, fd15, fd16, fd17, fd18, fd19, fd20, fd21, fd22, fd23, fd24, fd25, fd26, fd27, fd28, fd29, fd30, fd31, fd32, fd33, fd34, fd35].getD i fd35
  have all : ∀ q ∈ md.fns, ∃ h params body scope, DOk K mg md fs fa fdd q.1 q.2.1 q.2.2 h params body scope := by
    simp only [md, List.forall_mem_cons]
    refine ⟨?_, ?_, ?_, ?_, ?_, ?_, ?_, ?_, ?_, ?_, ?_, ?_, ?_, ?_, ?_, ?_, ?_, ?_, ?_, ?_, ?_, ?_, ?_, ?_, ?_, ?_, ?_, ?_, ?_, ?_, ?_, ?_, fun _ z => by cases z⟩
    · exact ⟨h0, _, _, _, F0, g0, bd0 F0, sc0, ⟨_, cv0, rfl⟩, fun r hr e => by simp only [md, List.mem_cons, List.not_mem_nil, or_false] at hr; subst hr; exact absurd e (by decide)⟩
    · exact ⟨h1, _, _, _, F1, g1, bd1 F1, sc1, ⟨_, cv1, rfl⟩, fun r hr e => by simp only [md, List.mem_cons, List.not_mem_nil, or_false] at hr; subst hr; exact absurd e (by decide)⟩
    · exact ⟨h2, _, _, _, F2, g2, bd2 F2, sc2, ⟨_, cv2, rfl⟩, fun r hr e => by simp only [md, List.mem_cons, List.not_mem_nil, or_false] at hr; subst hr; exact absurd e (by decide)⟩
    · exact ⟨h3, _, _, _, F3, g3, bd3 F3, sc3, ⟨_, cv3, rfl⟩, fun r hr e => by simp only [md, List.mem_cons, List.not_mem_nil, or_false] at hr; subst hr; exact absurd e (by decide)⟩
    · exact ⟨h4, _, _, _, F4, g4, bd4 F4, sc4, ⟨_, cv4, rfl⟩, fun r hr e => by simp only [md, List.mem_cons, List.not_mem_nil, or_false] at hr; subst hr; exact absurd e (by decide)⟩
    · exact ⟨h5, _, _, _, F5, g5, bd5 F5, sc5, ⟨_, cv5, rfl⟩, fun r hr e => by simp only [md, List.mem_cons, List.not_mem_nil, or_false] at hr; subst hr; exact absurd e (by decide)⟩
    · exact ⟨h6, _, _, _, F6, g6, bd6 F6, sc6, ⟨_, cv6, rfl⟩, fun r hr e => by simp only [md, List.mem_cons, List.not_mem_nil, or_false] at hr; subst hr; exact absurd e (by decide)⟩
    · exact ⟨h7, _, _, _, F7, g7, bd7 F7, sc7, ⟨_, cv7, rfl⟩, fun r hr e => by simp only [md, List.mem_cons, List.not_mem_nil, or_false] at hr; subst hr; exact absurd e (by decide)⟩
    · exact ⟨h8, _, _, _, F8, g8, bd8 F8, sc8, ⟨_, cv8, rfl⟩, fun r hr e => by simp only [md, List.mem_cons, List.not_mem_nil, or_false] at hr; subst hr; exact kb8 F8⟩
    · exact ⟨h12, _, _, _, F12, g12, bd12 F12, sc12, ⟨_, cv12, rfl⟩, fun r hr e => by simp only [md, List.mem_cons, List.not_mem_nil, or_false] at hr; subst hr; exact absurd e (by decide)⟩
    · exact ⟨h13, _, _, _, F13, g13, bd13 F13, sc13, ⟨_, cv13, rfl⟩, fun r hr e => by simp only [md, List.mem_cons, List.not_mem_nil, or_false] at hr; subst hr; exact absurd e (by decide)⟩
    · exact ⟨h14, _, _, _, F14, g14, bd14 F14, sc14, ⟨_, cv14, rfl⟩, fun r hr e => by simp only [md, List.mem_cons, List.not_mem_nil, or_false] at hr; subst hr; exact absurd e (by decide)⟩
    · exact ⟨h15, _, _, _, F15, g15, bd15 F15, sc15, ⟨_, cv15, rfl⟩, fun r hr e => by simp only [md, List.mem_cons, List.not_mem_nil, or_false] at hr; subst hr; exact absurd e (by decide)⟩
    · exact ⟨h16, _, _, _, F16, g16, bd16 F16, sc16, ⟨_, cv16, rfl⟩, fun r hr e => by simp only [md, List.mem_cons, List.not_mem_nil, or_false] at hr; subst hr; exact absurd e (by decide)⟩
    · exact ⟨h17, _, _, _, F17, g17, bd17 F17, sc17, ⟨_, cv17, rfl⟩, fun r hr e => by simp only [md, List.mem_cons, List.not_mem_nil, or_false] at hr; subst hr; exact absurd e (by decide)⟩
    · exact ⟨h18, _, _, _, F18, g18, bd18 F18, sc18, ⟨_, cv18, rfl⟩, fun r hr e => by simp only [md, List.mem_cons, List.not_mem_nil, or_false] at hr; subst hr; exact absurd e (by decide)⟩
    · exact ⟨h19, _, _, _, F19, g19, bd19 F19, sc19, ⟨_, cv19, rfl⟩, fun r hr e => by simp only [md, List.mem_cons, List.not_mem_nil, or_false] at hr; subst hr; exact absurd e (by decide)⟩
    · exact ⟨h20, _, _, _, F20, g20, bd20 F20, sc20, ⟨_, cv20, rfl⟩, fun r hr e => by simp only [md, List.mem_cons, List.not_mem_nil, or_false] at hr; subst hr; exact absurd e (by decide)⟩
    · exact ⟨h21, _, _, _, F21, g21, bd21 F21, sc21, ⟨_, cv21, rfl⟩, fun r hr e => by simp only [md, List.mem_cons, List.not_mem_nil, or_false] at hr; subst hr; exact absurd e (by decide)⟩
    · exact ⟨h22, _, _, _, F22, g22, bd22 F22, sc22, ⟨_, cv22, rfl⟩, fun r hr e => by simp only [md, List.mem_cons, List.not_mem_nil, or_false] at hr; subst hr; exact absurd e (by decide)⟩
    · exact ⟨h23, _, _, _, F23, g23, bd23 F23, sc23, ⟨_, cv23, rfl⟩, fun r hr e => by simp only [md, List.mem_cons, List.not_mem_nil, or_false] at hr; subst hr; exact absurd e (by decide)⟩
    · exact ⟨h24, _, _, _, F24, g24, bd24 F24, sc24, ⟨_, cv24, rfl⟩, fun r hr e => by simp only [md, List.mem_cons, List.not_mem_nil, or_false] at hr; subst hr; exact absurd e (by decide)⟩
    · exact ⟨h25, _, _, _, F25, g25, bd25 F25, sc25, ⟨_, cv25, rfl⟩, fun r hr e => by simp only [md, List.mem_cons, List.not_mem_nil, or_false] at hr; subst hr; exact absurd e (by decide)⟩
    · exact ⟨h26, _, _, _, F26, g26, bd26 F26, sc26, ⟨_, cv26, rfl⟩, fun r hr e => by simp only [md, List.mem_cons, List.not_mem_nil, or_false] at hr; subst hr; exact absurd e (by decide)⟩
    · exact ⟨h27, _, _, _, F27, g27, bd27 F27, sc27, ⟨_, cv27, rfl⟩, fun r hr e => by simp only [md, List.mem_cons, List.not_mem_nil, or_false] at hr; subst hr; exact absurd e (by decide)⟩
    · exact ⟨h28, _, _, _, F28, g28, bd28 F28, sc28, ⟨_, cv28, rfl⟩, fun r hr e => by simp only [md, List.mem_cons, List.not_mem_nil, or_false] at hr; subst hr; exact absurd e (by decide)⟩
    · exact ⟨h29, _, _, _, F29, g29, bd29 F29, sc29, ⟨_, cv29, rfl⟩, fun r hr e => by simp only [md, List.mem_cons, List.not_mem_nil, or_false] at hr; subst hr; exact absurd e (by decide)⟩
    · exact ⟨h30, _, _, _, F30, g30, bd30 F30, sc30, ⟨_, cv30, rfl⟩, fun r hr e => by simp only [md, List.mem_cons, List.not_mem_nil, or_false] at hr; subst hr; exact absurd e (by decide)⟩
    · exact ⟨h31, _, _, _, F31, g31, bd31 F31, sc31, ⟨_, cv31, rfl⟩, fun r hr e => by simp only [md, List.mem_cons, List.not_mem_nil, or_false] at hr; subst hr; exact absurd e (by decide)⟩
    · exact ⟨h32, _, _, _, F32, g32, bd32 F32, sc32, ⟨_, cv32, rfl⟩, fun r hr e => by simp only [md, List.mem_cons, List.not_mem_nil, or_false] at hr; subst hr; exact absurd e (by decide)⟩
    · exact ⟨h33, _, _, _, F33, g33, bd33 F33, sc33, ⟨_, cv33, rfl⟩, fun r hr e => by simp only [md, List.mem_cons, List.not_mem_nil, or_false] at hr; subst hr; exact absurd e (by decide)⟩
    · exact ⟨h34, _, _, _, F34, g34, bd34 F34, sc34, ⟨_, cv34, rfl⟩, fun r hr e => by simp only [md, List.mem_cons, List.not_mem_nil, or_false] at hr; subst hr; exact absurd e (by decide)⟩
  have all2 : ∀ x i ps, md.fns.lookup x = some (i, ps) → ∃ h params body scope, DOk K mg md fs fa fdd x i ps h params body scope := fun x i ps hx => all (x, i, ps) (PySem.mem_of_lookup hx)
  refine ⟨fd35, fun s v => ?_, fun base _ _ => ?_⟩
  · exact FunD.bindsA (ps := ["script"]) F35 (fun _ _ _ _ _ _ us hl => match us, hl with | [_], _ => rfl) s [v] rfl
  · have M1 := mix_ok (P := prog) (wd := w) (base := base) bl F10 ⟨by kernel_rfl, by kernel_rfl, by kernel_rfl, by decide +kernel, by decide +kernel, by decide +kernel, by decide +kernel⟩ (by kernel_rfl) (by kernel_rfl) (by kernel_rfl) (by kernel_rfl) (by kernel_rfl) (by kernel_rfl) (by kernel_rfl) (by kernel_rfl) (by kernel_rfl)
    have T1 := take_ok (P := prog) (wd := w) (base := base) bl F11 ⟨by kernel_rfl, by kernel_rfl, by kernel_rfl, by decide +kernel, by decide +kernel, by decide +kernel, by decide +kernel⟩ (by kernel_rfl) (by kernel_rfl) (by kernel_rfl) (by decide) (by kernel_rfl) M1 g10 F10.kp (bd10 F10) (by kernel_rfl) (by kernel_rfl) (by kernel_rfl) (by kernel_rfl) (by kernel_rfl) (by kernel_rfl) (by kernel_rfl) (by kernel_rfl)
    have B1 := begun_ok (P := prog) (wd := w) (base := base) bl F9 ⟨by kernel_rfl, by kernel_rfl, by kernel_rfl, by decide +kernel, by decide +kernel, by decide +kernel, by decide +kernel⟩ (by kernel_rfl) (by kernel_rfl) (by kernel_rfl) (by kernel_rfl) (by kernel_rfl) (by kernel_rfl) (by kernel_rfl) (by kernel_rfl) (by kernel_rfl) (by kernel_rfl) (by kernel_rfl)
    exact law_ok (c0 := 2) (n := 30) (i := drawIx) (h := h35) all2 (fun x hx => by cases hx; exact ⟨_, _, _, T1, g11, F11.kp, bd11 F11⟩) (fun x hx _ => bl x hx) rfl F35 sc35 (by kernel_rfl) (by decide) (by kernel_rfl) (by kernel_rfl) (by kernel_rfl) (by decide) B1 g9 F9.kp (bd9 F9) (by omega) cv35 mean
open PySem.W PySem.Calls in
theorem holds_of (mean : lawMeans fs 30 b35 (namesOf p35).length drawIx) : PySem.Challenge.rw_splitfree_k74_whole_histories_judged.Holds := by
  w_on; o_law
  refine HandSHeadRun.head_any (r := OpenLaw.row PySem.Challenge.rw_splitfree_k74_whole_histories_judged) (q := view (OpenLaw.row PySem.Challenge.rw_splitfree_k74_whole_histories_judged).prog [38]) (H := hk) (ob := ob) (M := 3000) (loose := loose) (d := HandSHeadRun.topDef (OpenLaw.row PySem.Challenge.rw_splitfree_k74_whole_histories_judged).prog 38) (kwd := []) ob_eq
    (by kernel_rfl) (fun s => by kernel_rfl) run (by kernel_rfl) (by kernel_rfl) (by kernel_rfl) (by rfl) (by first | assumption | decide +kernel) (by decide +kernel) ⟨rfl, rfl, rfl, rfl, rfl, by decide +kernel⟩ ?hw ?hc
  case hw => w_witness2
  case hc =>
    refine walkG (l := PySem.Challenge.rw_splitfree_k74_whole_histories_judged) (n := 63) (k := 33) (x := "script") rfl (by decide) (by kernel_rfl) ⟨rfl, by decide, by decide⟩ ?F (fun _ H s e s' z => ?_)
    · intro w mg fa h Y G hmg0
      obtain ⟨K, KX, c⟩ := Y
      have hmg : mg ("law" : PySem.Str) = some (.ref fa) := by
        have e : (HandSHeadRun.topDef (OpenLaw.row PySem.Challenge.rw_splitfree_k74_whole_histories_judged).prog 38).name = ("law" : PySem.Str) := by kernel_rfl
        rw [← e]
        exact hmg0
      obtain ⟨fd, hb, hF⟩ := facts (w := w) KX G hmg c mean
      exact ⟨K, fd, spLaw K, KX, hb, fun H a ns hl _ hS => ⟨a, ns, rfl, hS, hl, fun _ => rfl⟩, hF⟩
    · obtain ⟨_, _, _, _, _, _, _, _, _, _, _, _, _, _, _, _, z⟩ := z
end Law
/-! Plain law, part 1: how to run the small language by simp; data of bounded shape; draws with a budget. -/
namespace Rf
open PySem PySem.Spec PyProof.Rows L2
@[simp] theorem Rs.bind_ite {S α β : Type} {c : Prop} [Decidable c] (x y : Rs S α) (f : α → S → Rs S β) : (if c then x else y).bind f = if c then x.bind f else y.bind f := by split <;> rfl
section
variable {w : Wld} (F : Fs w) (e : En) (s : w.T)
@[simp] theorem xV_e (m : ME) : denV F (.e m) e s = denE F m e s := by simp only [denV]
@[simp] theorem xV_pk (i : Nat) : denV F (.pk i) e s = .lift (viewS e i) s := by simp only [denV]
@[simp] theorem xE_var (i : Nat) : denE F (.var i) e s = .lift (dataS e i) s := by simp only [denE]
@[simp] theorem xE_cst (d : D) : denE F (.cst d) e s = .ok d s := by simp only [denE]
@[simp] theorem xE_tup (es : MEs) : denE F (.tup es) e s = (denEs F es e s).bind fun ds s1 => if ds.length ≤ sizeLine then .ok (.tup ds) s1 else .stuck := by simp only [denE]
@[simp] theorem xE_lst (es : MEs) : denE F (.lst es) e s = (denEs F es e s).bind fun ds s1 => if ds.length ≤ sizeLine then .ok (.lst ds) s1 else .stuck := by simp only [denE]
@[simp] theorem xE_dk0 : denE F .dk0 e s = .ok (.dk [] []) s := by simp only [denE]
@[simp] theorem xE_dt0 : denE F .dt0 e s = .ok (.dt [] []) s := by simp only [denE]
@[simp] theorem xE_op (o : Op) (a b : MV) : denE F (.op o a b) e s = (denV F a e s).bind fun x s1 => (denV F b e s1).bind fun y s2 => .lift (opD o x y) s2 := by simp only [denE]
def inRK {S : Type} (neg : Bool) (x l h : D) (s3 : S) : Rs S D := match x, l, h with
    | .int i, .int j, .int k => if -(2 ^ 62) ≤ j ∧ j < 2 ^ 62 ∧ -(2 ^ 62) ≤ k ∧ k < 2 ^ 62 then .ok (.bl (neg != decide (j ≤ i ∧ i < k))) s3 else .stuck
    | _, _, _ => .stuck
@[simp] theorem xE_inR (neg : Bool) (x lo hi : ME) : denE F (.inR neg x lo hi) e s = (denE F x e s).bind fun x s1 => (denE F lo e s1).bind fun l s2 => (denE F hi e s2).bind fun h s3 => inRK neg x l h s3 := by simp only [denE] <;> rfl
def negK {S : Type} (x : D) (s1 : S) : Rs S D := match x with
    | .int i => .ok (.int (-i)) s1
    | _ => .stuck
@[simp] theorem negK_int {S : Type} (i : Int) (s1 : S) : negK (.int i) s1 = .ok (.int (-i)) s1 := rfl
def optK {S : Type} (x : D) (s1 : S) : Rs S (Option Int) := match x with
    | .int i => .ok (some i) s1
    | _ => .stuck
@[simp] theorem optK_int {S : Type} (i : Int) (s1 : S) : optK (.int i) s1 = .ok (some i) s1 := rfl
def pickK (f : Nat) (o : Option (List Arg)) (s1 : w.T) : Rs w.T D := match o with
    | some ys => F f ys s1
    | none => .stuck
@[simp] theorem pickK_some (f : Nat) (ys : List Arg) (s1 : w.T) : pickK F f (some ys) s1 = F f ys s1 := rfl
@[simp] theorem xE_neg (a : ME) : denE F (.neg a) e s = (denE F a e s).bind negK := by simp only [denE] <;> rfl
@[simp] theorem xE_not (a : ME) : denE F (.not a) e s = (denE F a e s).bind fun x s1 => (Rs.lift (truth x) s1).bind fun b s2 => .ok (.bl (!b)) s2 := by simp only [denE]
def andK (b : ME) (e : En) (x : D) (s1 : w.T) : Rs w.T D := match x with
    | .bl true => denE F b e s1
    | .bl false => .ok (.bl false) s1
    | _ => .stuck
def orK (b : ME) (e : En) (x : D) (s1 : w.T) : Rs w.T D := match x with
    | .bl true => .ok (.bl true) s1
    | .bl false => denE F b e s1
    | _ => .stuck
@[simp] theorem andK_b (b : ME) (e : En) (x : Bool) (s1 : w.T) : andK F b e (.bl x) s1 = if x then denE F b e s1 else .ok (.bl false) s1 := by cases x <;> rfl
@[simp] theorem orK_b (b : ME) (e : En) (x : Bool) (s1 : w.T) : orK F b e (.bl x) s1 = if x then .ok (.bl true) s1 else denE F b e s1 := by cases x <;> rfl
@[simp] theorem xE_and (a b : ME) : denE F (.and a b) e s = (denE F a e s).bind (andK F b e) := by
  simp only [denE]; congr 1
@[simp] theorem xE_or (a b : ME) : denE F (.or a b) e s = (denE F a e s).bind (orK F b e) := by
  simp only [denE]; congr 1
@[simp] theorem xE_ite (c a b : ME) : denE F (.ite c a b) e s = (denE F c e s).bind fun x s1 => (Rs.lift (truth x) s1).bind fun k s2 => if k then denE F a e s2 else denE F b e s2 := by simp only [denE]
@[simp] theorem xE_sub (a : MV) (i : ME) : denE F (.sub a i) e s = (denV F a e s).bind fun x s1 => (denE F i e s1).bind fun y s2 => .lift (subD x y) s2 := by simp only [denE]
@[simp] theorem xE_slc (a : MV) (lo hi : MO) : denE F (.slc a lo hi) e s = (denV F a e s).bind fun x s1 => (denO F lo e s1).bind fun l s2 => (denO F hi e s2).bind fun h s3 => .lift (slcD x l h) s3 := by simp only [denE]
@[simp] theorem xO_no : denO F .no e s = .ok none s := by simp only [denO]
@[simp] theorem xO_yes (m : ME) : denO F (.yes m) e s = (denE F m e s).bind optK := by simp only [denO] <;> rfl
@[simp] theorem xC_no : denC F .no e s = .ok true s := by simp only [denC]
@[simp] theorem xC_yes (m : ME) : denC F (.yes m) e s = (denE F m e s).bind fun x s1 => .lift (truth x) s1 := by simp only [denC]
@[simp] theorem xE_rev (a : MV) : denE F (.rev a) e s = (denV F a e s).bind fun x s1 => .lift (revD x) s1 := by simp only [denE]
@[simp] theorem xE_call (f : Nat) (as : MAs) : denE F (.call f as) e s = (denAs F as e s).bind fun xs s1 => F f xs s1 := by simp only [denE]
@[simp] theorem xE_callk (f : Nat) (ks : List Nat) (as : MAs) : denE F (.callk f ks as) e s = (denAs F as e s).bind fun xs s1 => pickK F f (pickA ks xs) s1 := by simp only [denE] <;> rfl
@[simp] theorem xE_bi (b : Bi) (as : MVs) : denE F (.bi b as) e s = (denVs F as e s).bind fun xs s1 => .lift (biD b xs) s1 := by simp only [denE]
@[simp] theorem xEs_nil : denEs F .nil e s = .ok [] s := by simp only [denEs]
@[simp] theorem xEs_cons (m : ME) (ms : MEs) : denEs F (.cons m ms) e s = (denE F m e s).bind fun x s1 => (denEs F ms e s1).bind fun xs s2 => .ok (x :: xs) s2 := by simp only [denEs]
@[simp] theorem xVs_nil : denVs F .nil e s = .ok [] s := by simp only [denVs]
@[simp] theorem xVs_cons (m : MV) (ms : MVs) : denVs F (.cons m ms) e s = (denV F m e s).bind fun x s1 => (denVs F ms e s1).bind fun xs s2 => .ok (x :: xs) s2 := by simp only [denVs]
@[simp] theorem xAs_nil : denAs F .nil e s = .ok [] s := by simp only [denAs]
@[simp] theorem xAs_cons (m : MA) (ms : MAs) : denAs F (.cons m ms) e s = (denA F m e s).bind fun x s1 => (denAs F ms e s1).bind fun xs s2 => .ok (x :: xs) s2 := by simp only [denAs]
@[simp] theorem xA_val (m : ME) : denA F (.val m) e s = (denE F m e s).bind fun x s1 => .ok (.dat x) s1 := by simp only [denA]
@[simp] theorem xA_lend (i : Nat) : denA F (.lend i) e s = .lift (lendS e i) s := by simp only [denA]
@[simp] theorem xI_seq (a : MV) : denI F (.seq a) e s = (denV F a e s).bind fun x s1 => .lift (seqD x) s1 := by simp only [denI]
@[simp] theorem xI_keys (a : MV) : denI F (.keys a) e s = (denV F a e s).bind fun x s1 => .lift (keysD x) s1 := by simp only [denI]
@[simp] theorem xI_rng (lo hi : ME) : denI F (.rng lo hi) e s = (denE F lo e s).bind fun l s1 => (denE F hi e s1).bind fun h s2 => .lift (rngD l h) s2 := by simp only [denI]
@[simp] theorem xI_enu (a : MV) : denI F (.enu a) e s = (denV F a e s).bind fun x s1 => .lift ((seqD x).map enuD) s1 := by simp only [denI]
@[simp] theorem xS_asg (i : Nat) (m : ME) : denS F (.asg i m) e s = (denE F m e s).bind fun x s1 => .ok (.nxt (setS e i (.dat x))) s1 := by simp only [denS]
@[simp] theorem xS_new (i : Nat) (m : ME) : denS F (.new i m) e s = (denE F m e s).bind fun x s1 => .ok (.nxt (setS e i (.own x))) s1 := by simp only [denS]
@[simp] theorem xS_par (ts : List (Nat × Bool)) (ms : MEs) : denS F (.par ts ms) e s = (denEs F ms e s).bind fun xs s1 => (Rs.lift (parSet ts xs e) s1).bind fun e1 s2 => .ok (.nxt e1) s2 := by simp only [denS]
@[simp] theorem xS_unp (is : List Nat) (m : ME) : denS F (.unp is m) e s = (denE F m e s).bind fun x s1 => (Rs.lift (bindTg (.many is) x e) s1).bind fun e1 s2 => .ok (.nxt e1) s2 := by simp only [denS]
@[simp] theorem xS_ret (m : ME) : denS F (.ret m) e s = (denE F m (freezeAll e) s).bind fun x s1 => .ok (.ret x) s1 := by simp only [denS]
@[simp] theorem xS_ite (c : ME) (a b : MSs) : denS F (.ite c a b) e s = (denE F c e s).bind fun x s1 => (Rs.lift (truth x) s1).bind fun k s2 => if k then denSs F a e s2 else denSs F b e s2 := by
  simp only [denS, denT]; cases denE F c e s <;> simp [Rs.bind]
@[simp] theorem xS_loop (tg : Tg) (it : MI) (b : MSs) : denS F (.loop tg it b) e s = if loopOk e it then (denI F it e s).bind fun ds s1 => calmIf (isKeys it) (loopFor tg (denSs F b) ds e s1) else .stuck := by simp only [denS]
@[simp] theorem xS_brk : denS F .brk e s = .ok (.brk e) s := by simp only [denS]
@[simp] theorem xSs_nil : denSs F .nil e s = .ok (.nxt e) s := by simp only [denSs]
def sqK (r : MSs) (o : Out) (s1 : w.T) : Rs w.T Out := match o with
    | .nxt e1 => denSs F r e1 s1
    | o => .ok o s1
@[simp] theorem sqK_nxt (r : MSs) (e1 : En) (s1 : w.T) : sqK F r (.nxt e1) s1 = denSs F r e1 s1 := rfl
@[simp] theorem sqK_ret (r : MSs) (d : D) (s1 : w.T) : sqK F r (.ret d) s1 = .ok (.ret d) s1 := rfl
@[simp] theorem sqK_brk (r : MSs) (d : En) (s1 : w.T) : sqK F r (.brk d) s1 = .ok (.brk d) s1 := rfl
@[simp] theorem sqK_cnt (r : MSs) (d : En) (s1 : w.T) : sqK F r (.cnt d) s1 = .ok (.cnt d) s1 := rfl
@[simp] theorem xSs_cons (a : MS) (r : MSs) : denSs F (.cons a r) e s = (denS F a e s).bind (sqK F r) := by
  simp only [denSs]; congr 1
end
/-- what a def's end tells -/
def outK {S : Type} (o : Out) (s1 : S) : Rs S D := match o with
  | .ret d => .ok d s1
  | .nxt _ => .ok .non s1
  | _ => .stuck
@[simp] theorem outK_ret {S : Type} (d : D) (s1 : S) : outK (.ret d) s1 = .ok d s1 := rfl
@[simp] theorem outK_nxt {S : Type} (e : En) (s1 : S) : outK (.nxt e) s1 = .ok .non s1 := rfl
theorem runF_eq {w : Wld} {fs : Nat → Option MFn} {n f : Nat} {fd : MFn} {as : List Arg} {s : w.T} (h : fs f = some fd) (hl : as.length = fd.np) : runF w fs (n + 1) f as s = (denSs (runF w fs n) fd.body (startE fd as) s).bind outK := by
  simp only [runF, h, hl, if_true]
  congr 1
/-- an argument that is data -/
def Arg.d : Arg → D
  | .dat d => d
  | .bor d => d
  | .drw => .non
def Arg.ok : Arg → Bool
  | .drw => false
  | _ => true
@[simp] theorem Arg.d_dat (d : D) : (Arg.dat d).d = d := rfl
@[simp] theorem Arg.d_bor (d : D) : (Arg.bor d).d = d := rfl
@[simp] theorem Arg.ok_dat (d : D) : (Arg.dat d).ok = true := id rfl
@[simp] theorem Arg.ok_bor (d : D) : (Arg.bor d).ok = true := id rfl
theorem Arg.cases {a : Arg} {P : Prop} (h : a.ok = true) (k1 : a = .dat a.d → P) (k2 : a = .bor a.d → P) : P := by
  cases a with
  | dat d => exact k1 rfl
  | bor d => exact k2 rfl
  | drw => cases h

/-! ### data of bounded shape -/
mutual
/-- no dict, no sequence longer than m, no deeper than n -/
def okD (m : Nat) : Nat → D → Bool
  | _, .non => true
  | _, .bl _ => true
  | _, .int _ => true
  | _, .str x => PyData.strOk x
  | n + 1, .tup xs => decide (xs.length ≤ m) && okA m n xs
  | n + 1, .lst xs => decide (xs.length ≤ m) && okA m n xs
  | _, _ => false
def okA (m : Nat) : Nat → List D → Bool
  | _, [] => true
  | n, x :: xs => okD m n x && okA m n xs
end
theorem okA_iff {m n : Nat} : ∀ {xs : List D}, okA m n xs = true ↔ ∀ x ∈ xs, okD m n x = true
  | [] => by simp [okA]
  | x :: xs => by simp [okA, okA_iff (xs := xs)]
theorem toPyA_map : ∀ xs : List D, toPyA xs = xs.map toPy
  | [] => rfl
  | x :: xs => by simp [toPyA, toPyA_map xs]
theorem okD_shape {m : Nat} : ∀ {n : Nat} {d : D}, okD m n d = true → (toPy d).canLay0 = true ∧ (toPy d).depth ≤ n := by
  have all : ∀ (n : Nat), (∀ d, okD m n d = true → (toPy d).canLay0 = true ∧ (toPy d).depth ≤ n) → ∀ ds : List D, okA m n ds = true → PyData.canLayAll0 (toPyA ds) = true ∧ PyData.depthAll (toPyA ds) ≤ n := by
    intro n ih ds
    induction ds with
    | nil => intro _; simp [toPyA, PyData.canLayAll0, PyData.depthAll]
    | cons d ds hi =>
      intro h
      simp only [okA, Bool.and_eq_true] at h
      obtain ⟨a1, a2⟩ := ih d h.1
      obtain ⟨b1, b2⟩ := hi h.2
      simp only [toPyA, PyData.canLayAll0, PyData.depthAll, a1, b1, Bool.and_self, true_and]
      omega
  intro n
  induction n with
  | zero => intro d h; cases d <;> simp_all [okD, toPy, PyData.canLay0, PyData.depth]
  | succ n ih =>
    intro d h
    cases d with
    | tup xs =>
      simp only [okD, Bool.and_eq_true] at h
      obtain ⟨a1, a2⟩ := all n (fun d => ih (d := d)) xs h.2
      simp only [toPy, PyData.canLay0, PyData.depth, a1, true_and]
      omega
    | lst xs =>
      simp only [okD, Bool.and_eq_true] at h
      obtain ⟨a1, a2⟩ := all n (fun d => ih (d := d)) xs h.2
      simp only [toPy, PyData.canLay0, PyData.depth, a1, true_and]
      omega
    | _ => simp_all [okD, toPy, PyData.canLay0, PyData.depth]
theorem okD_shaped {m n : Nat} {d : D} (h : okD m n d = true) (hn : n ≤ 64) : shaped d = true := by
  obtain ⟨a, b⟩ := okD_shape h
  simp only [shaped, SeqAt.shaped, a, Bool.true_and, decide_eq_true_eq]
  omega
theorem okA_shapedA {m n : Nat} {xs : List D} (h : okA m n xs = true) (hn : n ≤ 63) : shapedA xs = true := by
  have key : ∀ ds : List D, okA m n ds = true → PyData.canLayAll0 (toPyA ds) = true ∧ PyData.depthAll (toPyA ds) ≤ n := by
    intro ds
    induction ds with
    | nil => intro _; simp [toPyA, PyData.canLayAll0, PyData.depthAll]
    | cons d ds hi =>
      intro h
      simp only [okA, Bool.and_eq_true] at h
      obtain ⟨a1, a2⟩ := okD_shape h.1
      obtain ⟨b1, b2⟩ := hi h.2
      simp only [toPyA, PyData.canLayAll0, PyData.depthAll, a1, b1, Bool.and_self, true_and]
      omega
  obtain ⟨a1, a2⟩ := key xs h
  have e1 : (PyData.list (toPyA xs)).canLay0 = true := by simp only [PyData.canLay0, a1]
  have e2 : (PyData.list (toPyA xs)).depth ≤ 64 := by simp only [PyData.depth]; omega
  simp [shapedA, SeqAt.shaped, e1, e2]
theorem shaped_str {x : Str} (h : PyData.strOk x = true) : shaped (.str x) = true := by simp [shaped, SeqAt.shaped, toPy, PyData.canLay0, PyData.depth, h]
@[simp] theorem o_eqi (i j : Int) : opD .eq (.int i) (.int j) = some (.bl (decide (i = j))) := by
  have e : eqvD (.int i) (.int j) = decide (i = j) := by
    simp only [eqvD, toPy, PyData.eqv]
    by_cases h : i = j <;> simp [h]
  simp [opD, shaped_int, e]
@[simp] theorem o_isN (x : D) : opD .isN x .non = some (.bl (isN x)) := rfl
@[simp] theorem o_notN (x : D) : opD .notN x .non = some (.bl (!isN x)) := rfl
@[simp] theorem o_nei (i j : Int) : opD .ne (.int i) (.int j) = some (.bl (decide (i ≠ j))) := by
  have e : eqvD (.int i) (.int j) = decide (i = j) := by
    simp only [eqvD, toPy, PyData.eqv]
    by_cases h : i = j <;> simp [h]
  simp [opD, shaped_int, e]
@[simp] theorem truth_bl (b : Bool) : truth (.bl b) = some b := rfl
@[simp] theorem truth_non : truth .non = some false := rfl
theorem o_eq {x y : D} (h : shaped x = true) (k : shaped y = true) : opD .eq x y = some (.bl (eqvD x y)) := by simp [opD, h, k]
theorem o_ne {x y : D} (h : shaped x = true) (k : shaped y = true) : opD .ne x y = some (.bl (!eqvD x y)) := by simp [opD, h, k]
@[simp] theorem at0 (x : D) (r : List D) : atI (x :: r) 0 = some x := by simp [atI, ixN]
@[simp] theorem at1 (x y : D) (r : List D) : atI (x :: y :: r) 1 = some y := by
  have : (1 : Int) < (r.length : Int) + 1 + 1 := by omega
  simp [atI, ixN, this]
@[simp] theorem at2 (x y z : D) (r : List D) : atI (x :: y :: z :: r) 2 = some z := by
  have : (2 : Int) < (r.length : Int) + 1 + 1 + 1 := by omega
  simp [atI, ixN, this]
end Rf
/-! Plain law, part: what must hold behind a run; slots read by their kind. -/
namespace Rf
open PySem PySem.Spec PyProof.Rows L2
/-- it ends well, and so -/
def Ok {S α : Type} (r : Rs S α) (Q : α → S → Prop) : Prop := ∃ a s, r = .ok a s ∧ Q a s
section
variable {S α β : Type}
@[simp] theorem Ok_ok (a : α) (s : S) (Q : α → S → Prop) : Ok (.ok a s) Q ↔ Q a s := ⟨fun ⟨_, _, e, h⟩ => by cases e; exact h, fun h => ⟨a, s, rfl, h⟩⟩
@[simp] theorem Ok_err (a : Er) (s : S) (Q : α → S → Prop) : Ok (.err a s) Q ↔ False := by simp [Ok]
@[simp] theorem Ok_stuck (Q : α → S → Prop) : Ok .stuck Q ↔ False := by simp [Ok]
@[simp] theorem Ok_bind (r : Rs S α) (f : α → S → Rs S β) (Q : β → S → Prop) : Ok (r.bind f) Q ↔ Ok r fun a s => Ok (f a s) Q := by
  cases r <;> simp [Rs.bind]
@[simp] theorem Ok_calm (r : Rs S α) (Q : α → S → Prop) : Ok r.calm Q ↔ Ok r Q := by cases r <;> simp [Rs.calm]
@[simp] theorem Ok_calmIf (k : Bool) (r : Rs S α) (Q : α → S → Prop) : Ok (calmIf k r) Q ↔ Ok r Q := by cases k <;> simp [calmIf]
theorem Ok_ite {c : Prop} [Decidable c] (x y : Rs S α) (Q : α → S → Prop) : Ok (if c then x else y) Q ↔ (c → Ok x Q) ∧ (¬ c → Ok y Q) := by split <;> simp_all
theorem Ok.mono {r : Rs S α} {Q R : α → S → Prop} (h : Ok r Q) (k : ∀ a s, Q a s → R a s) : Ok r R := let ⟨a, s, e, q⟩ := h; ⟨a, s, e, k a s q⟩
theorem Ok.eq {r : Rs S α} {a : α} {s : S} (h : Ok r fun a' s' => a' = a ∧ s' = s) : r = .ok a s := let ⟨_, _, e, q, q'⟩ := h; by rw [e, q, q']
theorem Ok_of_eq {r : Rs S α} {a : α} {s : S} {Q : α → S → Prop} (e : r = .ok a s) (h : Q a s) : Ok r Q := ⟨a, s, e, h⟩
end

/-! ### slots -/
def sl : Option D → Slot
  | none => .non
  | some d => .dat d
def aliK : Option Slot → Option D
  | some (.own d) => some d
  | _ => none
def viewK (e : En) : Option Slot → Option D
  | some (.dat d) => some d
  | some (.own d) => some d
  | some (.bor d) => some d
  | some (.ali j) => aliK e[j]?
  | _ => none
@[simp] theorem viewS_k (e : En) (i : Nat) : viewS e i = viewK e e[i]? := by
  unfold viewS viewK aliK
  all_goals (split <;> first | rfl | (simp_all <;> rfl) | (simp_all; split <;> first | rfl | simp_all))
@[simp] theorem viewK_dat (e : En) (d : D) : viewK e (some (.dat d)) = some d := rfl
@[simp] theorem viewK_own (e : En) (d : D) : viewK e (some (.own d)) = some d := rfl
@[simp] theorem viewK_bor (e : En) (d : D) : viewK e (some (.bor d)) = some d := rfl
@[simp] theorem viewK_ali (e : En) (j : Nat) : viewK e (some (.ali j)) = aliK e[j]? := rfl
@[simp] theorem aliK_own (d : D) : aliK (some (.own d)) = some d := rfl
@[simp] theorem viewK_sl (e : En) (o : Option D) : viewK e (some (sl o)) = o := by cases o <;> rfl
@[simp] theorem viewK_arg (e : En) {a : Arg} (h : a.ok = true) : viewK e (some (argSlot a)) = some a.d := by cases a <;> first | rfl | cases h
def dataK : Option Slot → Option D
  | some (.dat d) => some d
  | _ => none
@[simp] theorem dataS_k (e : En) (i : Nat) : dataS e i = dataK e[i]? := rfl
@[simp] theorem dataK_dat (d : D) : dataK (some (.dat d)) = some d := rfl
@[simp] theorem dataK_sl (o : Option D) : dataK (some (sl o)) = o := by cases o <;> rfl
def ownK : Option Slot → Option D
  | some (.own d) => some d
  | _ => none
@[simp] theorem ownS_k (e : En) (i : Nat) : ownS e i = ownK e[i]? := rfl
@[simp] theorem ownK_own (d : D) : ownK (some (.own d)) = some d := rfl
def lendK (e : En) : Option Slot → Option Arg
  | some (.dat d) => some (.dat d)
  | some (.own d) => some (.bor d)
  | some (.bor d) => some (.bor d)
  | some (.ali j) => (aliK e[j]?).map .bor
  | some .drw => some .drw
  | _ => none
@[simp] theorem lendS_k (e : En) (i : Nat) : lendS e i = lendK e e[i]? := by
  unfold lendS lendK aliK
  cases e[i]? with
  | none => rfl
  | some t =>
    cases t with
    | ali j =>
      show (match e[j]? with
        | some (.own d) => some (Arg.bor d)
        | _ => none) = Option.map Arg.bor (match e[j]? with
        | some (.own d) => some d
        | _ => none)
      cases e[j]? with
      | none => rfl
      | some u => cases u <;> rfl
    | _ => rfl
@[simp] theorem lendK_dat (e : En) (d : D) : lendK e (some (.dat d)) = some (.dat d) := rfl
@[simp] theorem lendK_own (e : En) (d : D) : lendK e (some (.own d)) = some (.bor d) := rfl
@[simp] theorem lendK_bor (e : En) (d : D) : lendK e (some (.bor d)) = some (.bor d) := rfl
@[simp] theorem lendK_drw (e : En) : lendK e (some .drw) = some .drw := rfl
@[simp] theorem lendK_ali (e : En) (j : Nat) : lendK e (some (.ali j)) = (aliK e[j]?).map .bor := rfl
@[simp] theorem lendK_sl (e : En) (o : Option D) : lendK e (some (sl o)) = o.map .dat := by cases o <;> rfl
@[simp] theorem lendK_arg (e : En) {a : Arg} (h : a.ok = true) : lendK e (some (argSlot a)) = some a := by cases a <;> first | rfl | cases h
def setK (e : En) (i : Nat) (s : Slot) : Option Slot → En
  | some (.own _) => (e.map (kill i)).set i s
  | _ => e.set i s
@[simp] theorem setS_k (e : En) (i : Nat) (s : Slot) : setS e i s = setK e i s e[i]? := by
  unfold setS setK
  all_goals (split <;> first | rfl | (simp_all <;> rfl) | (simp_all; split <;> first | rfl | simp_all))
@[simp] theorem setK_dat (e : En) (i : Nat) (s : Slot) (d : D) : setK e i s (some (.dat d)) = e.set i s := rfl
@[simp] theorem setK_own (e : En) (i : Nat) (s : Slot) (d : D) : setK e i s (some (.own d)) = (e.map (kill i)).set i s := rfl
@[simp] theorem setK_bor (e : En) (i : Nat) (s : Slot) (d : D) : setK e i s (some (.bor d)) = e.set i s := rfl
@[simp] theorem setK_ali (e : En) (i : Nat) (s : Slot) (j : Nat) : setK e i s (some (.ali j)) = e.set i s := rfl
@[simp] theorem setK_non (e : En) (i : Nat) (s : Slot) : setK e i s (some .non) = e.set i s := rfl
@[simp] theorem setK_drw (e : En) (i : Nat) (s : Slot) : setK e i s (some .drw) = e.set i s := rfl
@[simp] theorem setK_sl (e : En) (i : Nat) (s : Slot) (o : Option D) : setK e i s (some (sl o)) = e.set i s := by cases o <;> rfl
@[simp] theorem setK_arg (e : En) (i : Nat) (s : Slot) (a : Arg) : setK e i s (some (argSlot a)) = e.set i s := by cases a <;> rfl
@[simp] theorem kill_dat (i : Nat) (d : D) : kill i (.dat d) = .dat d := rfl
@[simp] theorem kill_own (i : Nat) (d : D) : kill i (.own d) = .own d := rfl
@[simp] theorem kill_bor (i : Nat) (d : D) : kill i (.bor d) = .bor d := rfl
@[simp] theorem kill_non (i : Nat) : kill i .non = .non := rfl
@[simp] theorem kill_drw (i : Nat) : kill i .drw = .drw := rfl
@[simp] theorem kill_ali (i j : Nat) : kill i (.ali j) = if j = i then .non else .ali j := rfl
@[simp] theorem kill_sl (i : Nat) (o : Option D) : kill i (sl o) = sl o := by cases o <;> rfl
@[simp] theorem kill_arg (i : Nat) (a : Arg) : kill i (argSlot a) = argSlot a := by cases a <;> rfl
def loopK : Option Slot → Bool
  | some (.dat _) => true
  | some (.bor _) => true
  | _ => false
@[simp] theorem loopOk_seq (e : En) (i : Nat) : loopOk e (.seq (.pk i)) = loopK e[i]? := by unfold loopOk loopK; rfl
@[simp] theorem loopOk_keys (e : En) (i : Nat) : loopOk e (.keys (.pk i)) = loopK e[i]? := by unfold loopOk loopK; rfl
@[simp] theorem loopOk_enu (e : En) (i : Nat) : loopOk e (.enu (.pk i)) = loopK e[i]? := by unfold loopOk loopK; rfl
@[simp] theorem loopOk_seqE (e : En) (m : ME) : loopOk e (.seq (.e m)) = true := by unfold loopOk; rfl
@[simp] theorem loopOk_keysE (e : En) (m : ME) : loopOk e (.keys (.e m)) = true := by unfold loopOk; rfl
@[simp] theorem loopOk_enuE (e : En) (m : ME) : loopOk e (.enu (.e m)) = true := by unfold loopOk; rfl
@[simp] theorem loopOk_rng (e : En) (l h : ME) : loopOk e (.rng l h) = true := by unfold loopOk; rfl
@[simp] theorem loopK_dat (d : D) : loopK (some (.dat d)) = true := rfl
@[simp] theorem loopK_bor (d : D) : loopK (some (.bor d)) = true := rfl
@[simp] theorem loopK_arg {a : Arg} (h : a.ok = true) : loopK (some (argSlot a)) = true := by cases a <;> first | rfl | cases h
@[simp] theorem freezeAll_nil : freezeAll [] = [] := rfl
@[simp] theorem freezeAll_cons (t : Slot) (e : En) : freezeAll (t :: e) = freezeS t :: freezeAll e := rfl
@[simp] theorem freezeS_dat (d : D) : freezeS (.dat d) = .dat d := rfl
@[simp] theorem freezeS_own (d : D) : freezeS (.own d) = .dat d := rfl
@[simp] theorem freezeS_bor (d : D) : freezeS (.bor d) = .bor d := rfl
@[simp] theorem freezeS_non : freezeS .non = .non := rfl
@[simp] theorem freezeS_drw : freezeS .drw = .drw := rfl
@[simp] theorem freezeS_ali (j : Nat) : freezeS (.ali j) = .non := rfl
@[simp] theorem freezeS_sl (o : Option D) : freezeS (sl o) = sl o := by cases o <;> rfl
@[simp] theorem freezeS_arg (a : Arg) : freezeS (argSlot a) = argSlot a := by cases a <;> rfl
@[simp] theorem wipe_nil (e : En) : wipeE e [] = some e := rfl
def wipeK (e : En) (i : Nat) : Option Slot → Option En
  | some (.own _) => none
  | _ => some (e.set i .non)
def wipeO (i : Nat) : Option En → Option En
  | some e => wipeK e i e[i]?
  | none => none
@[simp] theorem wipe_cons (e : En) (i : Nat) (is : List Nat) : wipeE e (i :: is) = wipeO i (wipeE e is) := by
  conv => lhs; unfold wipeE
  cases wipeE e is with
  | none => rfl
  | some e' =>
    simp only [wipeO, wipeK]
    all_goals (split <;> first | rfl | (simp_all <;> rfl) | (simp_all; split <;> first | rfl | simp_all))
@[simp] theorem wipeO_some (e : En) (i : Nat) : wipeO i (some e) = wipeK e i e[i]? := rfl
@[simp] theorem wipeK_dat (e : En) (i : Nat) (d : D) : wipeK e i (some (.dat d)) = some (e.set i .non) := rfl
@[simp] theorem wipeK_non (e : En) (i : Nat) : wipeK e i (some .non) = some (e.set i .non) := rfl
@[simp] theorem wipeK_sl (e : En) (i : Nat) (o : Option D) : wipeK e i (some (sl o)) = some (e.set i .non) := by cases o <;> rfl
@[simp] theorem bindTg_one (i : Nat) (d : D) (e : En) : bindTg (.one i) d e = some (setS e i (.dat d)) := rfl
@[simp] theorem bindTg_many (is : List Nat) (ds : List D) (e : En) : bindTg (.many is) (.tup ds) e = bindMany is ds e := rfl
@[simp] theorem bindMany_nil (e : En) : bindMany [] [] e = some e := rfl
@[simp] theorem bindMany_cons (i : Nat) (is : List Nat) (d : D) (ds : List D) (e : En) : bindMany (i :: is) (d :: ds) e = bindMany is ds (setS e i (.dat d)) := rfl
@[simp] theorem parSet_nil (e : En) : parSet [] [] e = some e := rfl
@[simp] theorem parSet_cons (i : Nat) (b : Bool) (ts : List (Nat × Bool)) (d : D) (ds : List D) (e : En) : parSet ((i, b) :: ts) (d :: ds) e = parSet ts ds (setS e i (if b then .own d else .dat d)) := rfl
@[simp] theorem startE_k (f : MFn) (as : List Arg) : startE f as = as.map argSlot ++ List.replicate (f.nn - as.length) .non := rfl
@[simp] theorem seqD_tup (xs : List D) : seqD (.tup xs) = some xs := rfl
@[simp] theorem seqD_lst (xs : List D) : seqD (.lst xs) = some xs := rfl

/-! ### statements -/
section
variable {w : Wld} (F : Fs w) (e : En) (s : w.T)
def putS (i : Nat) (k m : ME) (e : En) (s : w.T) : Option D → Rs w.T Out
  | some d => (denE F m e s).bind fun x s1 => (denE F k e s1).bind fun y s2 => (Rs.lift (putD d y x) s2).bind fun d' s3 => .ok (.nxt (e.set i (.own d'))) s3
  | none => .stuck
@[simp] theorem xS_put (i : Nat) (k m : ME) : denS F (.put i k m) e s = putS F i k m e s (ownS e i) := by
  simp only [denS]; cases ownS e i <;> rfl
@[simp] theorem putS_some (i : Nat) (k m : ME) (d : D) : putS F i k m e s (some d) = (denE F m e s).bind fun x s1 => (denE F k e s1).bind fun y s2 => (Rs.lift (putD d y x) s2).bind fun d' s3 => .ok (.nxt (e.set i (.own d'))) s3 := rfl
def appS (i : Nat) (m : ME) (e : En) (s : w.T) : Option D → Rs w.T Out
  | some (.lst xs) => (denE F m e s).bind fun x s1 => if xs.length < sizeLine then .ok (.nxt (e.set i (.own (.lst (xs ++ [x]))))) s1 else .stuck
  | _ => .stuck
@[simp] theorem xS_app (i : Nat) (m : ME) : denS F (.app i m) e s = appS F i m e s (ownS e i) := by
  simp only [denS, appS]
  all_goals (split <;> first | rfl | (simp_all <;> rfl) | (simp_all; split <;> first | rfl | simp_all))
@[simp] theorem appS_some (i : Nat) (m : ME) (xs : List D) : appS F i m e s (some (.lst xs)) = (denE F m e s).bind fun x s1 => if xs.length < sizeLine then .ok (.nxt (e.set i (.own (.lst (xs ++ [x]))))) s1 else .stuck := rfl
def appPopS (i j : Nat) (m : ME) (e : En) (s : w.T) : Option D → Option D → Rs w.T Out
  | some (.lst xs), some (.lst ys) => if i = j then .stuck else (denE F m e s).bind fun x s1 => (Rs.lift (popD ys x) s1).bind fun p s2 =>
        if xs.length < sizeLine then .ok (.nxt ((e.set j (.own (.lst p.2))).set i (.own (.lst (xs ++ [p.1]))))) s2 else .stuck
  | _, _ => .stuck
@[simp] theorem xS_appPop (i j : Nat) (m : ME) : denS F (.appPop i j m) e s = appPopS F i j m e s (ownS e i) (ownS e j) := by
  simp only [denS, appPopS]
  all_goals (split <;> first | rfl | (simp_all <;> rfl) | (simp_all; split <;> first | rfl | simp_all))
@[simp] theorem appPopS_some (i j : Nat) (m : ME) (xs ys : List D) : appPopS F i j m e s (some (.lst xs)) (some (.lst ys)) = if i = j then .stuck else (denE F m e s).bind fun x s1 => (Rs.lift (popD ys x) s1).bind fun p s2 =>
        if xs.length < sizeLine then .ok (.nxt ((e.set j (.own (.lst p.2))).set i (.own (.lst (xs ++ [p.1]))))) s2 else .stuck := rfl
def dpopS (i : Nat) (m : ME) (e : En) (s : w.T) : Option D → Rs w.T Out
  | some d => if isDict d then (denE F m e s).bind fun x s1 => (Rs.lift (dpopD d x) s1).bind fun d' s2 => .ok (.nxt (e.set i (.own d'))) s2 else .stuck
  | none => .stuck
@[simp] theorem xS_dpop (i : Nat) (m : ME) : denS F (.dpop i m) e s = dpopS F i m e s (ownS e i) := by
  simp only [denS]; cases ownS e i <;> rfl
@[simp] theorem dpopS_some (i : Nat) (m : ME) (d : D) : dpopS F i m e s (some d) = if isDict d then (denE F m e s).bind fun x s1 => (Rs.lift (dpopD d x) s1).bind fun d' s2 => .ok (.nxt (e.set i (.own d'))) s2 else .stuck := rfl
def aliS (i : Nat) (e : En) (j : Nat) (s : w.T) : Option Slot → Option Slot → Rs w.T Out
  | some (.own _), some (.own _) => .stuck
  | some (.own _), _ => .ok (.nxt (e.set i (.ali j))) s
  | _, _ => .stuck
@[simp] theorem xS_ali (i : Nat) (c m : ME) (j : Nat) : denS F (.ali i c m j) e s = (denE F c e s).bind fun x s1 => (Rs.lift (truth x) s1).bind fun k s2 => if k then (denE F m e s2).bind fun x s2 => .ok (.nxt (setS e i (.dat x))) s2 else aliS i e j s2 e[j]? e[i]? := by
  simp only [denS, denT]
  cases denE F c e s <;> simp only [Rs.bind]
  congr 1
@[simp] theorem aliS_non (i : Nat) (j : Nat) (d : D) : aliS i e j s (some (.own d)) (some .non) = .ok (.nxt (e.set i (.ali j))) s := rfl
@[simp] theorem aliS_dat (i : Nat) (j : Nat) (d d' : D) : aliS i e j s (some (.own d)) (some (.dat d')) = .ok (.nxt (e.set i (.ali j))) s := rfl
@[simp] theorem aliS_ali (i : Nat) (j k : Nat) (d : D) : aliS i e j s (some (.own d)) (some (.ali k)) = .ok (.nxt (e.set i (.ali j))) s := rfl
@[simp] theorem aliS_sl (i : Nat) (j : Nat) (d : D) (o : Option D) : aliS i e j s (some (.own d)) (some (sl o)) = .ok (.nxt (e.set i (.ali j))) s := by cases o <;> rfl
@[simp] theorem xS_whl (c : ME) (b : MSs) : denS F (.whl c b) e s = loopWhl (denT F c) (denSs F b) whlMost e s := by simp only [denS]
@[simp] theorem xT (c : ME) : denT F c e s = (denE F c e s).bind fun x s1 => .lift (truth x) s1 := by simp only [denT]
@[simp] theorem xS_ex (m : ME) : denS F (.ex m) e s = (denE F m e s).bind fun _ s1 => .ok (.nxt e) s1 := by simp only [denS]
@[simp] theorem xS_retN : denS F .retN e s = .ok (.ret .non) s := by simp only [denS]
@[simp] theorem xS_cnt : denS F .cnt e s = .ok (.cnt e) s := by simp only [denS]
@[simp] theorem xS_pass : denS F .pass e s = .ok (.nxt e) s := by simp only [denS]
def lcK (own : List Nat) (tg : Tg) (c : MO) (f : ME) (ds : List D) (s1 : w.T) : Option En → Rs w.T D
  | some e0 => (lcLoop own tg (denC F c) (denE F f) e0 ds [] s1).bind fun ys s2 => .ok (.lst ys) s2
  | none => .stuck
@[simp] theorem xE_lc (tg : Tg) (own : List Nat) (it : MI) (c : MO) (f : ME) : denE F (.lc tg own it c f) e s = (denI F it e s).bind fun ds s1 => lcK F own tg c f ds s1 (wipeE e own) := by
  simp only [denE]
  congr 1
@[simp] theorem lcK_some (own : List Nat) (tg : Tg) (c : MO) (f : ME) (ds : List D) (s1 : w.T) (e0 : En) : lcK F own tg c f ds s1 (some e0) = (lcLoop own tg (denC F c) (denE F f) e0 ds [] s1).bind fun ys s2 => .ok (.lst ys) s2 := rfl
def lc2I (own1 : List Nat) (tg1 : Tg) (c1 : MO) (f : ME) (acc ds1 : List D) (t1 : w.T) : Option En → Rs w.T (List D)
  | some e2 => lcLoop own1 tg1 (denC F c1) (denE F f) e2 ds1 acc t1
  | none => .stuck
@[simp] theorem lc2I_some (own1 : List Nat) (tg1 : Tg) (c1 : MO) (f : ME) (acc ds1 : List D) (t1 : w.T) (e2 : En) : lc2I F own1 tg1 c1 f acc ds1 t1 (some e2) = lcLoop own1 tg1 (denC F c1) (denE F f) e2 ds1 acc t1 := rfl
def lc2K (tg : Tg) (own1 : List Nat) (c : MO) (tg1 : Tg) (it1 : MI) (c1 : MO) (f : ME) (ds : List D) (s1 : w.T) : Option En → Rs w.T D
  | some e0 => (lcOuter tg (denC F c) (fun e1 acc t => (denI F it1 e1 t).bind fun ds1 t1 => lc2I F own1 tg1 c1 f acc ds1 t1 (wipeE e1 own1)) e0 ds [] s1).bind fun ys s2 => .ok (.lst ys) s2
  | none => .stuck
@[simp] theorem lc2K_some (tg : Tg) (own1 : List Nat) (c : MO) (tg1 : Tg) (it1 : MI) (c1 : MO) (f : ME) (ds : List D) (s1 : w.T) (e0 : En) : lc2K F tg own1 c tg1 it1 c1 f ds s1 (some e0) = (lcOuter tg (denC F c) (fun e1 acc t => (denI F it1 e1 t).bind fun ds1 t1 => lc2I F own1 tg1 c1 f acc ds1 t1 (wipeE e1 own1)) e0 ds [] s1).bind fun ys s2 => .ok (.lst ys) s2 := rfl
@[simp] theorem xE_lc2 (tg : Tg) (own own1 : List Nat) (it : MI) (c : MO) (tg1 : Tg) (it1 : MI) (c1 : MO) (f : ME) : denE F (.lc2 tg own own1 it c tg1 it1 c1 f) e s = (denI F it e s).bind fun ds s1 => lc2K F tg own1 c tg1 it1 c1 f ds s1 (wipeE e own) := by
  simp only [denE]
  congr 1
def takeK (a : ME) (e : En) (s : w.T) : Option Slot → Rs w.T D
  | some .drw => (denE F a e s).bind fun x s1 => (match x, s1 with
      | .int n, some t => (match w.dw.take t n with
        | some (r, t') => .ok (.int r) (some t')
        | none => .stuck)
      | _, _ => .stuck)
  | _ => .stuck
def drawK (x : D) (s1 : w.T) : Rs w.T D := match x, s1 with
      | .int n, some t => (match w.dw.take t n with
        | some (r, t') => .ok (.int r) (some t')
        | none => .stuck)
      | _, _ => .stuck
@[simp] theorem xE_take (j : Nat) (a : ME) : denE F (.take j a) e s = takeK F a e s e[j]? := by
  simp only [denE, takeK]
  all_goals (split <;> first | rfl | (simp_all <;> rfl) | (simp_all; split <;> first | rfl | simp_all))
@[simp] theorem takeK_drw (a : ME) : takeK F a e s (some .drw) = (denE F a e s).bind drawK := rfl
end

/-! ### loops -/
section
variable {S : Type}
theorem loop_inv {w : Wld} {tg : Tg} {body : En → w.T → Rs w.T Out} {ds : List D} {e : En} {s : w.T} {Q : Out → w.T → Prop} (I : Nat → En → w.T → Prop) (h0 : I 0 e s)
    (step : ∀ i d e s, ds[i]? = some d → I i e s → ∃ e1, bindTg tg d e = some e1 ∧ Ok (body e1 s) fun o s' => match o with
      | .nxt e' => I (i + 1) e' s'
      | .cnt e' => I (i + 1) e' s'
      | .brk e' => Q (.nxt e') s'
      | .ret d => Q (.ret d) s')
    (hend : ∀ e s, I ds.length e s → Q (.nxt e) s) : Ok (loopFor tg body ds e s) Q := by
  induction ds generalizing e s I with
  | nil => exact ⟨_, _, rfl, hend _ _ h0⟩
  | cons d ds ih =>
    obtain ⟨e1, b1, o, s1, ho, hq⟩ := step 0 d e s rfl h0
    unfold loopFor
    simp only [b1, Rs.lift_some, Rs.bind_ok, ho]
    cases o with
    | nxt e' => exact ih (fun i => I (i + 1)) hq (fun i d e s hd hi => step (i + 1) d e s hd hi) hend
    | cnt e' => exact ih (fun i => I (i + 1)) hq (fun i d e s hd hi => step (i + 1) d e s hd hi) hend
    | brk e' => exact ⟨_, _, rfl, hq⟩
    | ret d => exact ⟨_, _, rfl, hq⟩
theorem lc_inv {w : Wld} {own : List Nat} {tg : Tg} {c : En → w.T → Rs w.T Bool} {f : En → w.T → Rs w.T D} {e : En} {ds acc : List D} {s : w.T} {Q : List D → w.T → Prop} (I : Nat → List D → w.T → Prop) (h0 : I 0 acc s)
    (step : ∀ i d acc s, ds[i]? = some d → I i acc s → ∃ e1, bindTg tg d e = some e1 ∧ Ok (c e1 s) fun b s1 => (b = true → Ok (f e1 s1) fun x s2 => acc.length < sizeLine ∧ I (i + 1) (acc ++ [x]) s2) ∧ (b = false → I (i + 1) acc s1))
    (hend : ∀ acc s, I ds.length acc s → Q acc s) : Ok (lcLoop own tg c f e ds acc s) Q := by
  induction ds generalizing acc s I with
  | nil => exact ⟨_, _, rfl, hend _ _ h0⟩
  | cons d ds ih =>
    obtain ⟨e1, b1, b, s1, hb, ht, hf⟩ := step 0 d acc s rfl h0
    unfold lcLoop
    simp only [b1, Rs.lift_some, Rs.bind_ok, hb, Rs.calm_ok]
    cases b with
    | true =>
      obtain ⟨x, s2, hx, hl, hi⟩ := ht rfl
      simp only [if_true, hx, Rs.calm_ok, Rs.bind_ok, hl]
      exact ih (fun i => I (i + 1)) hi (fun i d acc s hd hi => step (i + 1) d acc s hd hi) hend
    | false =>
      simp only [Bool.false_eq_true, if_false]
      exact ih (fun i => I (i + 1)) (hf rfl) (fun i d acc s hd hi => step (i + 1) d acc s hd hi) hend
/-- a comprehension without draws -/
theorem lc_pure {w : Wld} {own : List Nat} {tg : Tg} {c : En → w.T → Rs w.T Bool} {f : En → w.T → Rs w.T D} {e : En} {ds acc : List D} {s : w.T} (p : D → Bool) (g : D → D)
    (h : ∀ d ∈ ds, ∃ e1, bindTg tg d e = some e1 ∧ c e1 s = .ok (p d) s ∧ (p d = true → f e1 s = .ok (g d) s)) (hl : acc.length + ds.length < sizeLine) : lcLoop own tg c f e ds acc s = .ok (acc ++ (ds.filter p).map g) s := by
  induction ds generalizing acc with
  | nil => simp [lcLoop]
  | cons d ds ih =>
    obtain ⟨e1, b1, hc, hf⟩ := h d (by simp)
    simp only [List.length_cons] at hl
    unfold lcLoop
    simp only [b1, Rs.lift_some, Rs.bind_ok, hc, Rs.calm_ok]
    cases hp : p d with
    | true =>
      have l1 : acc.length < sizeLine := by omega
      simp only [if_true, hf hp, Rs.calm_ok, Rs.bind_ok, l1]
      rw [ih (fun d hd => h d (by simp [hd])) (by simp; omega)]
      simp [hp]
    | false =>
      simp only [Bool.false_eq_true, if_false]
      rw [ih (fun d hd => h d (by simp [hd])) (by omega)]
      simp [hp]
theorem whl_inv {w : Wld} {c : En → w.T → Rs w.T Bool} {body : En → w.T → Rs w.T Out} {Q : Out → w.T → Prop} (I : Nat → En → w.T → Prop)
    (step : ∀ n e s, I n e s → Ok (c e s) fun b s1 => (b = true → ∃ m, n = m + 1 ∧ Ok (body e s1) fun o s' => match o with
      | .nxt e' => I m e' s'
      | .cnt e' => I m e' s'
      | .brk e' => Q (.nxt e') s'
      | .ret d => Q (.ret d) s') ∧ (b = false → Q (.nxt e) s1)) : ∀ (N n : Nat) (e : En) (s : w.T), n < N → I n e s → Ok (loopWhl c body N e s) Q
  | 0, _, _, _, h, _ => absurd h (Nat.not_lt_zero _)
  | N + 1, n, e, s, h, hi => by
    obtain ⟨b, s1, hb, ht, hf⟩ := step n e s hi
    unfold loopWhl
    simp only [hb, Rs.bind_ok]
    cases b with
    | false =>
      simp only [Bool.false_eq_true, if_false]
      exact ⟨_, _, rfl, hf rfl⟩
    | true =>
      obtain ⟨m, rfl, o, s2, ho, hq⟩ := ht rfl
      simp only [if_true, ho, Rs.bind_ok]
      cases o with
      | nxt e' => exact whl_inv I step N m e' s2 (by omega) hq
      | cnt e' => exact whl_inv I step N m e' s2 (by omega) hq
      | brk e' => exact ⟨_, _, rfl, hq⟩
      | ret d => exact ⟨_, _, rfl, hq⟩
end

/-! ### draws with a budget -/
/-- so many draws are left -/
def Bud (b : Nat) (s : wld.T) : Prop := ∃ t : DSt, s = some t ∧ 0 ≤ t.turn ∧ t.turn + b ≤ turnMost
theorem Bud.le {b c : Nat} {s : wld.T} (h : Bud b s) (k : c ≤ b) : Bud c s := let ⟨t, e, h1, h2⟩ := h; ⟨t, e, h1, by omega⟩
theorem draw_ok {b : Nat} {s : wld.T} {n : Int} {Q : D → wld.T → Prop} (h : Bud b s) (hb : 1 ≤ b) (h1 : 0 < n) (h2 : n < 1073741824) (k : ∀ (r : Int) s', 0 ≤ r → r < n → Bud (b - 1) s' → Q (.int r) s') : Ok (drawK (w := wld) (.int n) s) Q := by
  obtain ⟨t, rfl, t0, t1⟩ := h
  have tk : wld.dw.take t n = some ((restF t).1 % n, { (restF t).2 with rest := (restF t).1 / n }) := by
    show takeF t n = _
    unfold takeF
    rw [if_pos ⟨h1, h2, t0, by omega⟩]
    rfl
  refine ⟨.int ((restF t).1 % n), some { (restF t).2 with rest := (restF t).1 / n }, ?_, k _ _ (Int.emod_nonneg _ (by omega)) (Int.emod_lt_of_pos _ h1) ⟨_, rfl, ?_, ?_⟩⟩
  · unfold drawK
    simp only [tk]
  · unfold restF; split
    · split <;> simp <;> omega
    · exact t0
  · unfold restF; split
    · split <;> simp <;> omega
    · simp; omega
end Rf
/-! Plain law of k74: the words of a history, part 1. -/
namespace Law
open PySem PySem.Spec PyProof.Rows L2 Rf
def G (n : Nat) : Fs wld := runF wld fs n
theorem G_eq {n f : Nat} {fd : MFn} {as : List Rf.Arg} {s : wld.T} (h : fs f = some fd) (hl : as.length = fd.np) : G (n + 1) f as s = (denSs (G n) fd.body (startE fd as) s).bind outK := runF_eq h hl
def isNum : D → Bool
  | .int _ => true
  | _ => false
def isKeyB : D → Bool
  | .int i => decide (0 ≤ i) && decide (i ≤ 9999)
  | _ => false
def isVer : D → Bool
  | .non => true
  | .tup [a, b] => isNum a && isNum b
  | _ => false
def isWr (x : D) : Bool := eqvD x (.str "write")
def isRd (x : D) : Bool := eqvD x (.str "read")
def isStep : D → Bool
  | .tup [x, k] => isKeyB k && isWr x
  | .tup [x, k, v] => isKeyB k && isRd x && isVer v
  | _ => false
theorem eqvD_str (x y : Str) : eqvD (.str x) (.str y) = decide (x = y) := by
  simp only [eqvD, toPy, PyData.eqv]
  by_cases h : x = y <;> simp [h]
theorem isWr_iff {x : D} : isWr x = true ↔ x = .str "write" := by
  cases x <;> simp [isWr, eqvD, toPy, PyData.eqv]
theorem isRd_iff {x : D} : isRd x = true ↔ x = .str "read" := by
  cases x <;> simp [isRd, eqvD, toPy, PyData.eqv]
theorem isWr_read : isWr (.str "read") = false := by decide
theorem isRd_write : isRd (.str "write") = false := by decide
@[simp] theorem shStr_w : shaped (.str "write") = true := by decide +kernel
@[simp] theorem shStr_r : shaped (.str "read") = true := by decide +kernel
@[simp] theorem shStr_h : shaped (.str "history") = true := by decide +kernel
theorem okD_plain {m k : Nat} {d : D} (h : okD m k d = true) : plainD d = true := by cases d <;> cases k <;> simp_all [okD, plainD]
theorem okD_tup {m k : Nat} {xs : List D} : okD m k (.tup xs) = true → ∃ q, k = q + 1 ∧ xs.length ≤ m ∧ ∀ x ∈ xs, okD m q x = true := by
  intro h
  cases k with
  | zero => simp [okD] at h
  | succ q =>
    simp only [okD, Bool.and_eq_true, decide_eq_true_eq] at h
    exact ⟨q, rfl, h.1, okA_iff.mp h.2⟩
@[simp] theorem bi_isi (t : Ty) {x : D} (h : plainD x = true) : biD (.isi t) [x] = some (.bl (isTy t x)) := by simp [biD, h]
@[simp] theorem bi_lenT (xs : List D) : biD .len [.tup xs] = some (.int xs.length) := rfl
@[simp] theorem bi_lenL (xs : List D) : biD .len [.lst xs] = some (.int xs.length) := rfl
@[simp] theorem isTy_tt (xs : List D) : isTy .tuple (.tup xs) = true := rfl
@[simp] theorem plainD_tup (xs : List D) : plainD (.tup xs) = true := id rfl
@[simp] theorem plainD_lst (xs : List D) : plainD (.lst xs) = true := id rfl
@[simp] theorem filter_tt {α : Type} (xs : List α) : xs.filter (fun _ => true) = xs := by simp [List.filter_eq_self]
@[simp] theorem plainD_int (i : Int) : plainD (.int i) = true := id rfl
@[simp] theorem plainD_non : plainD .non = true := id rfl
@[simp] theorem plainD_str (x : Str) : plainD (.str x) = true := id rfl
@[simp] theorem plainD_bl (x : Bool) : plainD (.bl x) = true := id rfl
@[simp] theorem sub_tup (xs : List D) (i : Int) : subD (.tup xs) (.int i) = atI xs i := rfl
@[simp] theorem sub_lst (xs : List D) (i : Int) : subD (.lst xs) (.int i) = atI xs i := rfl
@[simp] theorem o_lt (i j : Int) : opD .lt (.int i) (.int j) = some (.bl (decide (i < j))) := rfl
@[simp] theorem o_le (i j : Int) : opD .le (.int i) (.int j) = some (.bl (decide (i ≤ j))) := rfl
@[simp] theorem o_gt (i j : Int) : opD .gt (.int i) (.int j) = some (.bl (decide (j < i))) := rfl
@[simp] theorem o_ge (i j : Int) : opD .ge (.int i) (.int j) = some (.bl (decide (j ≤ i))) := rfl
@[simp] theorem o_eqw {x : D} (h : shaped x = true) : opD .eq x (.str "write") = some (.bl (isWr x)) := by rw [o_eq h shStr_w]; rfl
@[simp] theorem o_new {x : D} (h : shaped x = true) : opD .ne x (.str "write") = some (.bl (!isWr x)) := by rw [o_ne h shStr_w]; rfl
@[simp] theorem o_eqr {x : D} (h : shaped x = true) : opD .eq x (.str "read") = some (.bl (isRd x)) := by rw [o_eq h shStr_r]; rfl
@[simp] theorem o_ner {x : D} (h : shaped x = true) : opD .ne x (.str "read") = some (.bl (!isRd x)) := by rw [o_ne h shStr_r]; rfl
section
variable {n m k : Nat} {a : Rf.Arg} {s : wld.T}
theorem run0 (h : a.ok = true) (hp : plainD a.d = true) : G (n + 1) 0 [a] s = .ok (.bl (isNum a.d)) s := by
  rw [G_eq (fd := f0) rfl rfl]
  simp [f0, b0, h, hp]
  cases a.d <;> simp [isTy, isNum]
theorem run14 (h : a.ok = true) (hp : plainD a.d = true) : G (n + 1) 14 [a] s = .ok (.bl (isNum a.d)) s := by
  rw [G_eq (fd := f14) rfl rfl]
  simp [f14, b14, h, hp]
  cases a.d <;> simp [isTy, isNum]
theorem run1 (h : a.ok = true) (hp : plainD a.d = true) : G (n + 2) 1 [a] s = .ok (.bl (isKeyB a.d)) s := by
  rw [G_eq (fd := f1) rfl rfl]
  simp [f1, b1, h, hp, run0]
  cases hd : a.d <;> simp [isNum, isKeyB]
  rename_i i
  by_cases hi : 0 ≤ i <;> simp [hi, h, hd]
theorem run2 (h : a.ok = true) (hp : okD m k a.d = true) : G (n + 2) 2 [a] s = .ok (.bl (isVer a.d)) s := by
  rw [G_eq (fd := f2) rfl rfl]
  have hpl := okD_plain hp
  simp [f2, b2, h, hpl]
  generalize hd : a.d = d at hp hpl
  match d with
  | .tup [] => simp [h, hd, isN, isVer]
  | .tup [x] => simp [h, hd, isN, isVer]
  | .tup [x, y] =>
    obtain ⟨q, rfl, _, hx⟩ := okD_tup hp
    have e := run0 (n := n) (a := .dat x) (s := s) rfl (okD_plain (hx x (by simp)))
    have e' := run0 (n := n) (a := .dat y) (s := s) rfl (okD_plain (hx y (by simp)))
    simp only [Arg.d_dat] at e e'
    simp [h, hd, isN, isVer, e, e']
    cases isNum x <;> simp [h, hd, e']
  | .tup (x :: y :: z :: r) => simp [h, hd, isN, isVer]; intro hh; omega
  | .non | .bl _ | .int _ | .str _ | .lst _ | .dk _ _ | .dt _ _ | .scr _ => simp [h, hd, isN, isVer, isTy]
theorem run20 (h : a.ok = true) (hp : okD m k a.d = true) : G (n + 2) 20 [a] s = .ok (.bl (isVer a.d)) s := by
  rw [G_eq (fd := f20) rfl rfl]
  have hpl := okD_plain hp
  simp [f20, b20, h, hpl]
  generalize hd : a.d = d at hp hpl
  match d with
  | .tup [] => simp [h, hd, isN, isVer]
  | .tup [x] => simp [h, hd, isN, isVer]
  | .tup [x, y] =>
    obtain ⟨q, rfl, _, hx⟩ := okD_tup hp
    have e := run14 (n := n) (a := .dat x) (s := s) rfl (okD_plain (hx x (by simp)))
    have e' := run14 (n := n) (a := .dat y) (s := s) rfl (okD_plain (hx y (by simp)))
    simp only [Arg.d_dat] at e e'
    simp [h, hd, isN, isVer, e, e']
    cases isNum x <;> simp [h, hd, e']
  | .tup (x :: y :: z :: r) => simp [h, hd, isN, isVer]; intro hh; omega
  | .non | .bl _ | .int _ | .str _ | .lst _ | .dk _ _ | .dt _ _ | .scr _ => simp [h, hd, isN, isVer, isTy]
theorem run3 (h : a.ok = true) (hp : okD m k a.d = true) (hk : k ≤ 60) : G (n + 3) 3 [a] s = .ok (.bl (isStep a.d)) s := by
  rw [G_eq (fd := f3) rfl rfl]
  have hpl := okD_plain hp
  simp [f3, b3, h, hpl]
  generalize hd : a.d = d at hp hpl
  match d with
  | .tup [] => simp [h, hd, isStep]
  | .tup [x] => simp [h, hd, isStep]
  | .tup [x, y] =>
    obtain ⟨q, rfl, _, hx⟩ := okD_tup hp
    have e := run1 (n := n) (a := .dat y) (s := s) rfl (okD_plain (hx y (by simp)))
    have sx : shaped x = true := okD_shaped (hx x (by simp)) (by omega)
    simp only [Arg.d_dat] at e
    simp [h, hd, isStep, e, sx]
    cases isKeyB y <;> cases isWr x <;> simp [h, hd, sx]
  | .tup [x, y, z] =>
    obtain ⟨q, rfl, _, hx⟩ := okD_tup hp
    have e := run1 (n := n) (a := .dat y) (s := s) rfl (okD_plain (hx y (by simp)))
    have e' := run2 (n := n) (a := .dat z) (s := s) rfl (hx z (by simp))
    have sx : shaped x = true := okD_shaped (hx x (by simp)) (by omega)
    simp only [Arg.d_dat] at e e'
    simp [h, hd, isStep, e, e', sx]
    cases isKeyB y <;> cases hw : isWr x <;> simp [h, hd, sx, e']
    · cases isRd x <;> simp [h, hd, sx, e']
    · rw [isWr_iff] at hw
      subst hw
      simp [isRd_write]
  | .tup (x :: y :: z :: u :: r) =>
    obtain ⟨q, rfl, _, hx⟩ := okD_tup hp
    have e := run1 (n := n) (a := .dat y) (s := s) rfl (okD_plain (hx y (by simp)))
    have sx : shaped x = true := okD_shaped (hx x (by simp)) (by omega)
    simp only [Arg.d_dat] at e
    have l2 : ¬ ((r.length : Int) + 1 + 1 + 1 + 1 < 2) := by omega
    have l3 : ¬ ((r.length : Int) + 1 + 1 + 1 + 1 = 2) := by omega
    have l4 : ¬ ((r.length : Int) + 1 + 1 + 1 + 1 = 3) := by omega
    simp [h, hd, isStep, e, sx, l2, l3, l4]
  | .non | .bl _ | .int _ | .str _ | .lst _ | .dk _ _ | .dt _ _ | .scr _ => simp [h, hd, isStep, isTy]
end
end Law
/-! Plain law of k74: the words of a history, part 2: transactions. -/
namespace Rf
open PySem PySem.Spec PyProof.Rows L2
@[simp] theorem sizeLine_eq : sizeLine = 16777216 := rfl
section
variable {κ : Type} [DecidableEq κ]
theorem look_some {ks : List κ} {vs : List D} {k : κ} : ks.length = vs.length → ((lookD ks vs k).isSome = true ↔ k ∈ ks) := by
  induction ks generalizing vs with
  | nil => intro _; simp [lookD]
  | cons j ks ih =>
    intro h
    cases vs with
    | nil => simp at h
    | cons v vs =>
      simp only [List.length_cons, Nat.add_right_cancel_iff] at h
      unfold lookD
      by_cases e : j = k
      · simp [e]
      · simp [e, ih h, Ne.symm e]
theorem look_set {ks : List κ} {vs : List D} {k j : κ} {v : D} : ks.length = vs.length → lookD ks (setDs ks vs k v) j = if k = j ∧ k ∈ ks then some v else lookD ks vs j := by
  induction ks generalizing vs with
  | nil => intro _; simp [lookD, setDs]
  | cons i ks ih =>
    intro h
    cases vs with
    | nil => simp at h
    | cons w vs =>
      simp only [List.length_cons, Nat.add_right_cancel_iff] at h
      simp only [setDs, lookD, ih h, List.mem_cons]
      by_cases e : i = j <;> by_cases f : k = j <;> by_cases g : i = k <;> simp_all
      simp [Ne.symm e]
theorem setDs_len {ks : List κ} {vs : List D} {k : κ} {v : D} (h : ks.length = vs.length) : ks.length = (setDs ks vs k v).length := by
  induction ks generalizing vs with
  | nil => simp [setDs]
  | cons i ks ih =>
    cases vs with
    | nil => simp at h
    | cons w vs =>
      simp only [List.length_cons, Nat.add_right_cancel_iff] at h
      simp [setDs, ih h]
theorem put_len {ks : List κ} {vs : List D} {k : κ} {v : D} (h : ks.length = vs.length) : (putKs ks k).length = (putDs ks vs k v).length := by
  unfold putKs putDs
  split
  · exact setDs_len h
  · simp [h]
theorem putKs_le {ks : List κ} {k : κ} : (putKs ks k).length ≤ ks.length + 1 := by
  unfold putKs
  split <;> simp
theorem mem_put {ks : List κ} {k j : κ} : j ∈ putKs ks k ↔ j = k ∨ j ∈ ks := by
  unfold putKs
  split
  · constructor
    · exact .inr
    · rintro (rfl | h) <;> assumption
  · simp [or_comm]
theorem look_app {ks : List κ} {vs : List D} {k j : κ} {v : D} : ks.length = vs.length → lookD (ks ++ [k]) (vs ++ [v]) j = if j ∈ ks then lookD ks vs j else if k = j then some v else none := by
  induction ks generalizing vs with
  | nil =>
    intro h
    cases vs with
    | nil => simp [lookD]
    | cons w vs => simp at h
  | cons i ks ih =>
    intro h
    cases vs with
    | nil => simp at h
    | cons w vs =>
      simp only [List.length_cons, Nat.add_right_cancel_iff] at h
      simp only [List.cons_append, lookD, ih h, List.mem_cons]
      by_cases e : i = j
      · simp [e]
      · simp [e, Ne.symm e]
theorem look_none {ks : List κ} {vs : List D} {k : κ} (n : k ∉ ks) : lookD ks vs k = none := by
  induction ks generalizing vs with
  | nil => simp [lookD]
  | cons j ks ih =>
    cases vs with
    | nil => simp [lookD]
    | cons v vs =>
      simp only [List.mem_cons, not_or] at n
      simp [lookD, Ne.symm n.1, ih n.2]
theorem look_put {ks : List κ} {vs : List D} {k j : κ} {v : D} (h : ks.length = vs.length) : lookD (putKs ks k) (putDs ks vs k v) j = if k = j then some v else lookD ks vs j := by
  unfold putKs putDs
  by_cases m : k ∈ ks
  · rw [if_pos m, if_pos m, look_set h]
    by_cases e : k = j <;> simp [e, m]
    intro h'; exact absurd (e ▸ m) h'
  · rw [if_neg m, if_neg m, look_app h]
    by_cases e : k = j
    · subst e; simp [m]
    · simp [e]
      intro n
      exact (look_none n).symm
theorem dropKs_filter {ks : List κ} {k : κ} : dropKs ks k = ks.filter (· ≠ k) := by
  induction ks with
  | nil => rfl
  | cons j ks ih =>
    unfold dropKs
    by_cases e : j = k <;> simp [e, ih]
theorem mem_drop {ks : List κ} {k j : κ} : j ∈ dropKs ks k ↔ j ∈ ks ∧ j ≠ k := by simp [dropKs_filter]
theorem drop_len {ks : List κ} {vs : List D} {k : κ} (h : ks.length = vs.length) : (dropKs ks k).length = (dropDs ks vs k).length := by
  induction ks generalizing vs with
  | nil => simp [dropKs, dropDs]
  | cons i ks ih =>
    cases vs with
    | nil => simp at h
    | cons w vs =>
      simp only [List.length_cons, Nat.add_right_cancel_iff] at h
      unfold dropKs dropDs
      split <;> simp [ih h]
theorem dropKs_le {ks : List κ} {k : κ} : (dropKs ks k).length ≤ ks.length := by
  rw [dropKs_filter]; exact List.length_filter_le ..
theorem look_drop {ks : List κ} {vs : List D} {k j : κ} (h : ks.length = vs.length) : lookD (dropKs ks k) (dropDs ks vs k) j = if k = j then none else lookD ks vs j := by
  induction ks generalizing vs with
  | nil => simp [dropKs, dropDs, lookD]
  | cons i ks ih =>
    cases vs with
    | nil => simp at h
    | cons w vs =>
      simp only [List.length_cons, Nat.add_right_cancel_iff] at h
      unfold dropKs dropDs
      by_cases e : i = k
      · rw [if_pos e, if_pos e, ih h]
        subst e
        by_cases f : i = j <;> simp [f, lookD]
      · rw [if_neg e, if_neg e]
        simp only [lookD, ih h]
        by_cases f : i = j
        · subst f; simp [Ne.symm e]
        · simp [f]
end
theorem drop_of_get {α : Type} {xs : List α} {i : Nat} {d : α} (h : xs[i]? = some d) : xs.drop i = d :: xs.drop (i + 1) := by
  obtain ⟨l, rfl⟩ := List.getElem?_eq_some_iff.mp h
  exact List.drop_eq_getElem_cons l
theorem okD_int {m n : Nat} (i : Int) : okD m n (.int i) = true := by cases n <;> rfl
theorem shapedA_ints (W : List Int) : shapedA (W.map .int) = true := okA_shapedA (m := 0) (n := 0) (okA_iff.mpr fun x hx => by
  obtain ⟨i, _, rfl⟩ := List.mem_map.mp hx
  exact okD_int i) (by omega)
theorem eqvD_int (i j : Int) : eqvD (.int i) (.int j) = decide (i = j) := by
  simp only [eqvD, toPy, PyData.eqv]
  by_cases h : i = j <;> simp [h]
theorem memD_ints {i : Int} {W : List Int} : memD (.int i) (W.map .int) = decide (i ∈ W) := by
  induction W with
  | nil => simp [memD]
  | cons j W ih =>
    unfold memD at ih ⊢
    rw [List.map_cons, List.any_cons, ih, eqvD_int]
    by_cases e : j = i
    · simp [e]
    · simp [e, Ne.symm e]
theorem in_ints {neg : Bool} {i : Int} {W : List Int} : inD neg (.int i) (.lst (W.map .int)) = some (.bl (neg != decide (i ∈ W))) := by
  simp only [inD, shaped_int, shapedA_ints, memD_ints, Bool.and_self, if_true]
/-- a key is among the keys -/
def inKs {κ : Type} [DecidableEq κ] (k : κ) (ks : List κ) : Bool := decide (k ∈ ks)
theorem inKs_iff {κ : Type} [DecidableEq κ] {k : κ} {ks : List κ} : inKs k ks = true ↔ k ∈ ks := by simp [inKs]
theorem inKs_look {κ : Type} [DecidableEq κ] {k : κ} {ks : List κ} {vs : List D} (h : ks.length = vs.length) : (lookD ks vs k).isSome = inKs k ks := by
  rw [Bool.eq_iff_iff, look_some h, inKs_iff]
theorem in_dk {neg : Bool} {i : Int} {ks : List Key} {vs : List D} (h : ks.length = vs.length) : inD neg (.int i) (.dk ks vs) = some (.bl (neg != inKs (.inl i) ks)) := by
  simp only [inD, getD?, keyOf, Option.map_some, inKs_look h]
@[simp] theorem o_inn (x y : D) : opD .inn x y = inD false x y := rfl
@[simp] theorem o_nin (x y : D) : opD .nin x y = inD true x y := rfl
@[simp] theorem bi_all {α : Type} (xs : List α) (p : α → Bool) : biD .all [.lst (xs.map fun d => .bl (p d))] = some (.bl (xs.all p)) := by
  have : bools (xs.map fun d => .bl (p d)) = some (xs.map p) := by
    induction xs with
    | nil => rfl
    | cons b bs ih => simp [bools, ih]
  simp [biD, this, List.all_map]
end Rf
namespace Law
open PySem PySem.Spec PyProof.Rows L2 Rf
def d0 : D → D
  | .tup (x :: _) => x
  | _ => .non
/-- the key of a step -/
def k1 : D → Int
  | .tup (_ :: .int i :: _) => i
  | _ => 0
def noRW : List Int → List D → Bool
  | _, [] => true
  | W, x :: xs => if isWr (d0 x) then noRW (k1 x :: W) xs else !decide (k1 x ∈ W) && noRW W xs
def transB : D → Bool
  | .tup xs => decide (1 ≤ xs.length) && (decide (xs.length ≤ 12) && (xs.all isStep && noRW [] xs))
  | _ => false
theorem step_cases {d : D} (h : isStep d = true) : (∃ i, d = .tup [.str "write", .int i] ∧ 0 ≤ i ∧ i ≤ 9999) ∨ (∃ i v, d = .tup [.str "read", .int i, v] ∧ 0 ≤ i ∧ i ≤ 9999 ∧ isVer v = true) := by
  match d, h with
  | .tup [x, k], h =>
    simp only [isStep, Bool.and_eq_true, isWr_iff] at h
    obtain ⟨hk, rfl⟩ := h
    cases k <;> simp [isKeyB] at hk
    exact .inl ⟨_, rfl, hk⟩
  | .tup [x, k, v], h =>
    simp only [isStep, Bool.and_eq_true, isRd_iff] at h
    obtain ⟨⟨hk, rfl⟩, hv⟩ := h
    cases k <;> simp [isKeyB] at hk
    exact .inr ⟨_, _, rfl, hk.1, hk.2, hv⟩
@[simp] theorem isWr_w : isWr (.str "write") = true := by decide
@[simp] theorem isWr_r : isWr (.str "read") = false := isWr_read
@[simp] theorem isRd_r : isRd (.str "read") = true := by decide
@[simp] theorem isRd_w : isRd (.str "write") = false := isRd_write
def I4 (xs : List D) (a : Rf.Arg) (s : wld.T) (i : Nat) (e : En) (s' : wld.T) : Prop := s' = s ∧ ∃ (W : List Int) (ks : List Key) (vs : List D) (o : Option D), e = [argSlot a, sl o, .own (.dk ks vs)] ∧ ks.length = vs.length ∧ ks.length ≤ i ∧ (∀ j, (Sum.inl j : Key) ∈ ks ↔ j ∈ W) ∧ noRW [] xs = noRW W (xs.drop i)
section
variable {n m k : Nat} {a : Rf.Arg} {s : wld.T}
theorem run4 (h : a.ok = true) (hp : okD m k a.d = true) (hk : k ≤ 60) (hm : m ≤ 1000) : G (n + 4) 4 [a] s = .ok (.bl (transB a.d)) s := by
  rw [G_eq (fd := f4) rfl rfl]
  have hpl := okD_plain hp
  simp only [f4, b4, startE_k]
  generalize hd : a.d = d at hp hpl
  cases d with
  | tup xs =>
    obtain ⟨q, rfl, hl, hx⟩ := okD_tup hp
    have hc : lcLoop [1] (.one 1) (denC (G (n + 3)) .no) (denE (G (n + 3)) (.call 3 (.cons (.lend 1) .nil))) [argSlot a, .non, .non] xs [] s = .ok (xs.map fun d => .bl (isStep d)) s := by
      rw [lc_pure (p := fun _ => true) (g := fun d => .bl (isStep d))]
      · simp
      · intro d hd'
        refine ⟨_, rfl, by simp, fun _ => ?_⟩
        simp [run3 (n := n) (a := .dat d) (s := s) rfl (hx d hd') (by omega)]
      · simp; omega
    by_cases h1 : xs = []
    · subst h1; simp [h, hd, transB]
    have i1 : ¬ (xs.length : Int) < 1 := by cases xs <;> simp_all; omega
    have i1' : ¬ xs.length < 1 := by omega
    by_cases h2 : 12 < xs.length
    · have i2 : ¬ xs.length ≤ 12 := by omega
      have i3 : 12 < (xs.length : Int) := by omega
      simp [h, hd, h1, h2, i1, i1', i3, transB, i2]
    have i2 : ¬ 12 < (xs.length : Int) := by omega
    cases h3 : xs.all isStep with
    | false => simp [transB, h3, h, hd, hc, h1, h2, i1, i2]
    | true =>
      have h1' : 1 ≤ xs.length := by omega
      have h2' : xs.length ≤ 12 := by omega
      simp [transB, h3, h1', h2', h, hd, hc, h1, h2, i1, i2]
      have hst : ∀ x ∈ xs, isStep x = true := by simpa using h3
      apply Ok.eq
      simp only [Ok_bind]
      refine loop_inv (I4 xs a s) ⟨rfl, [], [], [], none, rfl, rfl, by simp, by simp, rfl⟩ ?_ ?_
      · rintro i d e s' hg ⟨rfl, W, ks, vs, o, rfl, lk, li, hm, hn⟩
        refine ⟨_, rfl, ?_⟩
        have il := (List.getElem?_eq_some_iff.mp hg).1
        rw [drop_of_get hg] at hn
        have lz : ks.length < 16777216 := by omega
        rcases step_cases (hst d (List.mem_of_getElem? hg)) with ⟨j, rfl, _⟩ | ⟨j, v, rfl, _⟩
        · simp [putD, keyOf, lz]
          refine ⟨rfl, j :: W, _, _, some _, rfl, put_len lk, ?_, ?_, ?_⟩
          · have := putKs_le (ks := ks) (k := (Sum.inl j : Key)); omega
          · intro x
            rw [mem_put, hm]
            simp
          · simpa [noRW, d0, k1] using hn
        · have ik : inKs (Sum.inl j : Key) ks = decide (j ∈ W) := by rw [Bool.eq_iff_iff, inKs_iff, hm]; simp
          simp [in_dk lk, ik]
          by_cases hj : j ∈ W
          · simp [hj, noRW, d0, k1] at hn ⊢
            exact hn
          · simp [hj, noRW, d0, k1] at hn ⊢
            exact ⟨rfl, W, _, _, some _, rfl, lk, by omega, hm, hn⟩
      · rintro e s' ⟨rfl, W, ks, vs, o, rfl, lk, li, hm, hn⟩
        simp at hn ⊢
        simp [hn, noRW]
  | _ => simp [transB, h, hd, isTy, hpl]
end
end Law
/-! Plain law of k74: the words of a history, part 3: the law's own look at a transaction. -/
namespace Rf
open PySem PySem.Spec PyProof.Rows L2
theorem in23 {neg : Bool} {i : Int} : inD neg (.int i) (.lst [.int 2, .int 3]) = some (.bl (neg != (decide (i = 2) || decide (i = 3)))) := by
  have := in_ints (neg := neg) (i := i) (W := [2, 3])
  simp only [List.map_cons, List.map_nil] at this
  rw [this]
  simp
@[simp] theorem inRK_int {S : Type} (neg : Bool) (i j k : Int) (s : S) : inRK neg (.int i) (.int j) (.int k) s = if -(2 ^ 62) ≤ j ∧ j < 2 ^ 62 ∧ -(2 ^ 62) ≤ k ∧ k < 2 ^ 62 then .ok (.bl (neg != decide (j ≤ i ∧ i < k))) s else .stuck := rfl
end Rf
namespace Law
open PySem PySem.Spec PyProof.Rows L2 Rf
def goB (W : List Int) (xs : List D) : Bool := xs.all isStep && noRW W xs
def I19 (xs : List D) (a : Rf.Arg) (s : wld.T) (i : Nat) (e : En) (s' : wld.T) : Prop := s' = s ∧ ∃ (W W' : List Int) (o : Option D), e = [argSlot a, .own (.lst (W'.map .int)), sl o] ∧ W'.length ≤ i ∧ (∀ j, j ∈ W' ↔ j ∈ W) ∧ goB [] xs = goB W (xs.drop i)
theorem goB_bad {W : List Int} {d : D} {r : List D} (h : isStep d = false) : goB W (d :: r) = false := by simp [goB, h]
theorem isKeyB_iff {i : Int} : isKeyB (.int i) = decide (0 ≤ i ∧ i < 10000) := by
  unfold isKeyB
  rw [Bool.eq_iff_iff]
  simp
  omega
section
variable {n m k : Nat} {a : Rf.Arg} {s : wld.T}
theorem run19 (h : a.ok = true) (hp : okD m k a.d = true) (hk : k ≤ 60) (hm : m ≤ 1000) : G (n + 4) 19 [a] s = .ok (.bl (transB a.d)) s := by
  rw [G_eq (fd := f19) rfl rfl]
  have hpl := okD_plain hp
  simp only [f19, b19, startE_k]
  generalize hd : a.d = d at hp hpl
  cases d with
  | tup xs =>
    obtain ⟨q, rfl, hl, hx⟩ := okD_tup hp
    by_cases h1 : 1 ≤ xs.length ∧ xs.length ≤ 12
    · have i1 : (1 : Int) ≤ xs.length ∧ (xs.length : Int) < 13 := by omega
      simp [h, hd, i1, transB, h1]
      apply Ok.eq
      simp only [Ok_bind]
      refine loop_inv (I19 xs a s) ⟨rfl, [], [], none, rfl, by simp, by simp, rfl⟩ ?_ ?_
      · rintro i d e s' hg ⟨rfl, W, W', o, rfl, li, hm', hn⟩
        refine ⟨_, rfl, ?_⟩
        have il := (List.getElem?_eq_some_iff.mp hg).1
        rw [drop_of_get hg] at hn
        have od := hx d (List.mem_of_getElem? hg)
        have pd := okD_plain od
        have lz : W'.length < 16777216 := by omega
        simp only [goB] at hn
        match d, od, pd, hn, hg with
        | .tup [], od, pd, hn, hg => simp [isStep, in23] at hn ⊢; simpa using hn
        | .tup [x], od, pd, hn, hg => simp [isStep, in23] at hn ⊢; simpa using hn
        | .tup [x, y], od, pd, hn, hg =>
          obtain ⟨q, rfl, _, hx2⟩ := okD_tup od
          have oy := hx2 y (by simp)
          have sx : shaped x = true := okD_shaped (hx2 x (by simp)) (by omega)
          have e1 := run14 (n := n + 2) (a := .dat y) (s := s') rfl (okD_plain oy)
          simp only [Arg.d_dat] at e1
          cases y with
          | int j =>
            by_cases hj : 0 ≤ j ∧ j < 10000
            · simp [in23, e1, isNum, hj, sx]
              by_cases hw : isWr x = true
              · simp [hw, lz]
                rw [isWr_iff] at hw
                subst hw
                refine ⟨rfl, j :: W, W' ++ [j], some _, by simp; rfl, by simp; omega, fun x => by simp [hm', or_comm], ?_⟩
                simpa [goB, isStep, isKeyB_iff, hj, noRW, d0, k1] using hn
              · simp [hw]
                simpa [goB, isStep, hw] using hn
            · simp [in23, e1, isNum, hj]
              simpa [goB, isStep, isKeyB_iff, hj] using hn
          | _ =>
            simp [in23, e1, isNum]
            have hs : ∀ v, isKeyB v = false → isStep (.tup [x, v]) = false := fun v hv => by simp [isStep, hv]
            rw [List.all_cons, hs _ (by rfl), Bool.false_and] at hn
            simpa using hn
        | .tup [x, y, z], od, pd, hn, hg =>
          obtain ⟨q, rfl, _, hx2⟩ := okD_tup od
          have oy := hx2 y (by simp)
          have sx : shaped x = true := okD_shaped (hx2 x (by simp)) (by omega)
          have e1 := run14 (n := n + 2) (a := .dat y) (s := s') rfl (okD_plain oy)
          have e2 := run20 (n := n + 1) (a := .dat z) (s := s') rfl (hx2 z (by simp))
          simp only [Arg.d_dat] at e1 e2
          cases y with
          | int j =>
            by_cases hj : 0 ≤ j ∧ j < 10000
            · simp [in23, e1, isNum, hj, sx]
              by_cases hw : isRd x = true
              · have ew := isRd_iff.mp hw
                subst ew
                simp [in_ints, e2]
                simp only [isStep, isKeyB_iff, hj, List.all_cons, noRW, d0, k1, hw, isWr_r] at hn
                by_cases hjw : j ∈ W
                · have := (hm' j).mpr hjw
                  simp [this]
                  simpa [hjw] using hn
                · have := mt (hm' j).mp hjw
                  simp [this]
                  cases hv : isVer z with
                  | false => simp; simpa [hv] using hn
                  | true =>
                    simp
                    exact ⟨rfl, W, W', some _, rfl, by omega, hm', by simpa [hv, hjw, goB] using hn⟩
              · simp [hw]
                simpa [goB, isStep, hw] using hn
            · simp [in23, e1, isNum, hj]
              simpa [goB, isStep, isKeyB_iff, hj] using hn
          | _ =>
            simp [in23, e1, isNum]
            have hs : ∀ v, isKeyB v = false → isStep (.tup [x, v, z]) = false := fun v hv => by simp [isStep, hv]
            rw [List.all_cons, hs _ (by rfl), Bool.false_and] at hn
            simpa using hn
        | .tup (x :: y :: z :: u :: r), od, pd, hn, hg =>
          have l2 : ¬ ((r.length : Int) + 1 + 1 + 1 + 1 = 2) := by omega
          have l3 : ¬ ((r.length : Int) + 1 + 1 + 1 + 1 = 3) := by omega
          simp [isStep, in23, l2, l3] at hn ⊢; simpa using hn
        | .dt _ _, od, pd, hn, hg | .scr _, od, pd, hn, hg => cases pd
        | .non, od, pd, hn, hg | .bl _, od, pd, hn, hg | .int _, od, pd, hn, hg | .str _, od, pd, hn, hg | .lst _, od, pd, hn, hg | .dk _ _, od, pd, hn, hg =>
          have hs : ∀ v, (∀ xs, v ≠ .tup xs) → isStep v = false := fun v hv => by
            cases v <;> first | rfl | exact absurd rfl (hv _)
          rw [List.all_cons, hs _ (by intro xs; simp), Bool.false_and] at hn
          simp [isTy, pd]; simpa using hn
      · rintro e s' ⟨rfl, W, W', o, rfl, li, hm', hn⟩
        simp [goB, noRW] at hn ⊢
        exact hn
    · have i1 : ¬ ((1 : Int) ≤ xs.length ∧ (xs.length : Int) < 13) := by omega
      have i2 : (decide (1 ≤ xs.length) && decide (xs.length ≤ 12)) = false := by simp; omega
      simp [h, hd, i1, transB, ← Bool.and_assoc, i2]
  | _ => simp [transB, h, hd, isTy, hpl]
end
end Law
/-! Plain law of k74: the words of a history, part 4: writes, places. -/
namespace Rf
open PySem PySem.Spec PyProof.Rows L2
theorem atN {xs : List D} {k : Nat} {x : D} (h : xs[k]? = some x) : atI xs (k : Int) = some x := by
  have l := (List.getElem?_eq_some_iff.mp h).1
  have h1 : (k : Int) < xs.length := by omega
  simp [atI, ixN, h1, h]
theorem rng0 {n : Nat} (h : n ≤ 1000000) : rngD (.int 0) (.int n) = some ((List.range n).map fun (k : Nat) => .int k) := by
  have h2 : (n : Int) < 2 ^ 62 := by
    omega
  simp only [rngD]
  rw [if_pos ⟨by decide, by decide, by omega, h2⟩]
  simp
theorem rng_get {n i : Nat} {d : D} (h : ((List.range n).map fun (k : Nat) => D.int k)[i]? = some d) : i < n ∧ d = .int i := by
  rw [List.getElem?_map] at h
  cases hr : (List.range n)[i]? with
  | none => rw [hr] at h; cases h
  | some j =>
    rw [hr] at h
    cases h
    obtain ⟨l, e⟩ := List.getElem?_eq_some_iff.mp hr
    simp at l e
    exact ⟨l, by rw [e]⟩
/-- a comprehension of two walks, without draws -/
theorem lc2_pure {w : Wld} {tg : Tg} {c : En → w.T → Rs w.T Bool} {inner : En → List D → w.T → Rs w.T (List D)} {e : En} {ds acc : List D} {s : w.T} (N : Nat) (g : D → List D)
    (h : ∀ d ∈ ds, ∃ e1, bindTg tg d e = some e1 ∧ c e1 s = .ok true s ∧ ∀ acc, acc.length ≤ N → inner e1 acc s = .ok (acc ++ g d) s) (hN : (acc ++ ds.flatMap g).length ≤ N) : lcOuter tg c inner e ds acc s = .ok (acc ++ ds.flatMap g) s := by
  induction ds generalizing acc with
  | nil => simp [lcOuter]
  | cons d ds ih =>
    obtain ⟨e1, b1, hc, hf⟩ := h d (by simp)
    rw [List.flatMap_cons, ← List.append_assoc] at hN ⊢
    unfold lcOuter
    simp only [b1, Rs.lift_some, Rs.bind_ok, hc, Rs.calm_ok, if_true]
    rw [hf acc (by simp at hN ⊢; omega)]
    simp only [Rs.calm_ok, Rs.bind_ok]
    exact ih (fun d hd => h d (by simp [hd])) hN
end Rf
namespace Law
open PySem PySem.Spec PyProof.Rows L2 Rf
def wrK (xs : List D) : List Int := (xs.filter fun d => isWr (d0 d)).map k1
def sessLen : D → Nat
  | .tup xs => xs.length
  | _ => 0
def placesF (i : Nat) : List D → List (Nat × Nat)
  | [] => []
  | x :: xs => ((List.range (sessLen x)).map fun k => (i, k)) ++ placesF (i + 1) xs
def plD (p : Nat × Nat) : D := .tup [.int p.1, .int p.2]
theorem placesF_le {m : Nat} : ∀ {xs : List D} {i : Nat}, (∀ x ∈ xs, sessLen x ≤ m) → (placesF i xs).length ≤ xs.length * m
  | [], i, _ => by simp [placesF]
  | x :: xs, i, h => by
    have := placesF_le (i := i + 1) (xs := xs) fun y hy => h y (by simp [hy])
    have h1 := h x (by simp)
    simp only [placesF, List.length_append, List.length_map, List.length_range, List.length_cons, Nat.add_mul]
    omega
theorem mem_placesF : ∀ {xs : List D} {i : Nat} {p : Nat × Nat}, p ∈ placesF i xs ↔ i ≤ p.1 ∧ ∃ x, xs[p.1 - i]? = some x ∧ p.2 < sessLen x
  | [], i, p => by simp [placesF]
  | x :: xs, i, p => by
    rw [placesF, List.mem_append, mem_placesF (xs := xs) (i := i + 1)]
    constructor
    · rintro (h | ⟨h, y, hy, hl⟩)
      · simp at h
        obtain ⟨a, ha, rfl⟩ := h
        exact ⟨Nat.le_refl _, x, by simp, ha⟩
      · refine ⟨by omega, y, ?_, hl⟩
        have : p.1 - i = (p.1 - (i + 1)) + 1 := by omega
        rw [this]
        simpa using hy
    · rintro ⟨h, y, hy, hl⟩
      by_cases e : p.1 = i
      · refine .inl ?_
        simp [e] at hy
        subst hy
        simp
        exact ⟨p.2, hl, by rw [← e]⟩
      · refine .inr ⟨by omega, y, ?_, hl⟩
        have : p.1 - i = (p.1 - (i + 1)) + 1 := by omega
        rw [this] at hy
        simpa using hy
theorem step_shape {d : D} (h : isStep d = true) : ∃ x i r, d = .tup (x :: .int i :: r) ∧ (x = .str "write" ∨ x = .str "read") := by
  rcases step_cases h with ⟨i, rfl, _⟩ | ⟨i, v, rfl, _⟩
  · exact ⟨_, _, _, rfl, .inl rfl⟩
  · exact ⟨_, _, _, rfl, .inr rfl⟩
section
variable {n m k : Nat} {a : Rf.Arg} {s : wld.T}
theorem run5 (h : a.ok = true) {xs : List D} (hd : a.d = .tup xs) (hx : ∀ x ∈ xs, isStep x = true) (hl : xs.length ≤ 1000) : G (n + 1) 5 [a] s = .ok (.lst ((wrK xs).map .int)) s := by
  rw [G_eq (fd := f5) rfl rfl]
  have hc : lcLoop [1] (.one 1) (denC (G n) (.yes (.op .eq (.e (.sub (.pk 1) (.cst (.int 0)))) (.e (.cst (.str "write")))))) (denE (G n) (.sub (.pk 1) (.cst (.int 1)))) [argSlot a, .non] xs [] s = .ok ((wrK xs).map .int) s := by
    rw [lc_pure (p := fun d => isWr (d0 d)) (g := fun d => .int (k1 d))]
    · simp [wrK, Function.comp_def]
    · intro d hd'
      refine ⟨_, rfl, ?_⟩
      obtain ⟨x, i, r, rfl, rfl | rfl⟩ := step_shape (hx d hd')
      · simp [d0, k1]
      · simp [d0, k1]
    · simp; omega
  simp [f5, b5, h, hd, hc]
theorem run17 (h : a.ok = true) {xs : List D} (hd : a.d = .tup xs) (hx : ∀ x ∈ xs, isStep x = true) (hl : xs.length ≤ 1000) : G (n + 1) 17 [a] s = .ok (.lst ((wrK xs).map .int)) s := by
  rw [G_eq (fd := f17) rfl rfl]
  have hc : lcLoop [1] (.one 1) (denC (G n) (.yes (.op .eq (.e (.sub (.pk 1) (.cst (.int 0)))) (.e (.cst (.str "write")))))) (denE (G n) (.sub (.pk 1) (.cst (.int 1)))) [argSlot a, .non] xs [] s = .ok ((wrK xs).map .int) s := by
    rw [lc_pure (p := fun d => isWr (d0 d)) (g := fun d => .int (k1 d))]
    · simp [wrK, Function.comp_def]
    · intro d hd'
      refine ⟨_, rfl, ?_⟩
      obtain ⟨x, i, r, rfl, rfl | rfl⟩ := step_shape (hx d hd')
      · simp [d0, k1]
      · simp [d0, k1]
    · simp; omega
  simp [f17, b17, h, hd, hc]
theorem enu_flat {xs : List D} (hx : ∀ x ∈ xs, ∃ ts, x = .tup ts) (g : D → List D) (hg : ∀ i ts, g (.tup [.int i, .tup ts]) = (List.range ts.length).map fun k => .tup [.int i, .int k]) : (enuD xs).flatMap g = (placesF 0 xs).map plD := by
  unfold enuD
  have key : ∀ i, ((xs.zipIdx i).map fun p => D.tup [.int p.2, p.1]).flatMap g = (placesF i xs).map plD := by
    induction xs with
    | nil => simp [placesF]
    | cons x xs ih =>
      intro i
      obtain ⟨ts, rfl⟩ := hx x (by simp)
      rw [List.zipIdx_cons, List.map_cons, List.flatMap_cons, ih (fun y hy => hx y (by simp [hy])) (i + 1), hg]
      simp [placesF, sessLen, plD, Function.comp_def]
  exact key 0
theorem run6 (h : a.ok = true) {x : D} {xs : List D} (hd : a.d = .tup [x, .tup xs]) (hx : ∀ x ∈ xs, ∃ ts : List D, x = .tup ts ∧ ts.length ≤ 1000) (hl : xs.length ≤ 1000) : G (n + 1) 6 [a] s = .ok (.lst ((placesF 0 xs).map plD)) s := by
  rw [G_eq (fd := f6) rfl rfl]
  have pl : (placesF 0 xs).length ≤ 1000000 := by
    have := placesF_le (i := 0) (m := 1000) (xs := xs) fun y hy => by
      obtain ⟨ts, rfl, ht⟩ := hx y hy
      exact ht
    omega
  have hc : lcOuter (.many [1, 2]) (denC (G n) .no) (fun e1 acc t => (denI (G n) (.rng (.cst (.int 0)) (.bi .len (.cons (.pk 2) .nil))) e1 t).bind fun ds1 t1 => lc2I (G n) [3] (.one 3) .no (.tup (.cons (.var 1) (.cons (.var 3) .nil))) acc ds1 t1 (wipeE e1 [3])) [argSlot a, .non, .non, .non] (enuD xs) [] s = .ok ((placesF 0 xs).map plD) s := by
    rw [lc2_pure (N := (placesF 0 xs).length) (g := fun d => match d with
      | .tup [i, .tup ts] => (List.range ts.length).map fun (k : Nat) => .tup [i, .int k]
      | _ => [])]
    · rw [enu_flat fun x hx' => ⟨_, (hx x hx').choose_spec.1⟩]
      · rfl
      · intro i ts; rfl
    · intro d hd'
      unfold enuD at hd'
      obtain ⟨⟨y, i⟩, hy, rfl⟩ := List.mem_map.mp hd'
      obtain ⟨ts, rfl, ht⟩ := hx y (List.fst_mem_of_mem_zipIdx hy)
      refine ⟨[argSlot a, .dat (.int i), .dat (.tup ts), .non], by simp, by simp, fun acc ha => ?_⟩
      have e0 : denI (G n) (.rng (.cst (.int 0)) (.bi .len (.cons (.pk 2) .nil))) [argSlot a, .dat (.int i), .dat (.tup ts), .non] s = .ok ((List.range ts.length).map fun (k : Nat) => .int k) s := by simp -implicitDefEqProofs [rng0 (n := ts.length) (by omega)]
      rw [e0, Rs.bind_ok]
      have e2 : wipeE [argSlot a, .dat (.int i), .dat (.tup ts), .non] [3] = some [argSlot a, .dat (.int i), .dat (.tup ts), .non] := by simp
      rw [e2, lc2I_some, lc_pure (p := fun _ => true) (g := fun d => .tup [.int i, d])]
      · simp [Function.comp_def]
      · intro d hd2
        refine ⟨_, rfl, by simp, fun _ => ?_⟩
        simp
      · simp; omega
    · rw [enu_flat fun x hx' => ⟨_, (hx x hx').choose_spec.1⟩]
      · simp
      · intro i ts; rfl
  simp at hc
  simp [f6, b6, h, hd, hc]
end
end Law
/-! Plain law of k74: the words of a history, part 5: a history. -/
namespace Rf
open PySem PySem.Spec PyProof.Rows L2
theorem eqv_pair (a b c d : Int) : eqvD (.tup [.int a, .int b]) (.tup [.int c, .int d]) = decide (a = c ∧ b = d) := by
  simp only [eqvD, toPy, toPyA, PyData.eqv]
  by_cases h : a = c <;> by_cases k : b = d <;> simp [h, k, PyData.eqv, PyData.eqvAll]
theorem ok_pair (a b : Int) : okD 2 1 (.tup [.int a, .int b]) = true := by simp [okD, okA, okD_int]
@[simp] theorem o_eq_pair (a b c d : Int) : opD .eq (.tup [.int a, .int b]) (.tup [.int c, .int d]) = some (.bl (decide (a = c ∧ b = d))) := by
  rw [o_eq (okD_shaped (ok_pair a b) (by omega)) (okD_shaped (ok_pair c d) (by omega)), eqv_pair]
@[simp] theorem o_ne_pair (a b c d : Int) : opD .ne (.tup [.int a, .int b]) (.tup [.int c, .int d]) = some (.bl (!decide (a = c ∧ b = d))) := by
  rw [o_ne (okD_shaped (ok_pair a b) (by omega)) (okD_shaped (ok_pair c d) (by omega)), eqv_pair]
@[simp] theorem o_addL {xs ys : List D} (h : xs.length + ys.length ≤ 16777216) : opD .add (.lst xs) (.lst ys) = some (.lst (xs ++ ys)) := by
  simp [opD, addD, h]
@[simp] theorem o_addT {xs ys : List D} (h : xs.length + ys.length ≤ 16777216) : opD .add (.tup xs) (.tup ys) = some (.tup (xs ++ ys)) := by
  simp [opD, addD, h]
@[simp] theorem o_addI (i j : Int) : opD .add (.int i) (.int j) = some (.int (i + j)) := rfl
@[simp] theorem o_subI (i j : Int) : opD .sub (.int i) (.int j) = some (.int (i - j)) := rfl
end Rf
namespace Law
open PySem PySem.Spec PyProof.Rows L2 Rf
def I15 (xs : List D) (a : Rf.Arg) (s : wld.T) (i : Nat) (e : En) (s' : wld.T) : Prop := s' = s ∧ ∃ (acc : List (Nat × Nat)) (o : Option D), e = [argSlot a, .dat (.lst (acc.map plD)), sl o, .non] ∧ acc ++ placesF i (xs.drop i) = placesF 0 xs
def trN (xs : List D) (t j : Nat) : List D := match xs[t]? with
  | some (.tup ts) => (match ts[j]? with
    | some (.tup ss) => ss
    | _ => [])
  | _ => []
def verB (xs : List D) (p : Nat × Nat) : D → Bool
  | .tup [_, .int i, .tup [.int t, .int j]] => decide (¬ (t = p.1 ∧ j = p.2) ∧ 0 ≤ t ∧ t < xs.length ∧ 0 ≤ j ∧ j < sessLen (xs.getD t.toNat .non)) && decide (i ∈ wrK (trN xs t.toNat j.toNat))
  | _ => true
def sessB : D → Bool
  | .tup ts => decide (ts.length ≤ 8) && ts.all transB
  | _ => false
def versB (xs : List D) : Bool := (placesF 0 xs).all fun p => (trN xs p.1 p.2).all (verB xs p)
theorem sess_of {x : D} (h : sessB x = true) : ∃ ts, x = .tup ts ∧ ts.length ≤ 8 ∧ ∀ t ∈ ts, transB t = true := by
  cases x <;> simp [sessB] at h
  exact ⟨_, rfl, h⟩
theorem trans_of {x : D} (h : transB x = true) : ∃ ss, x = .tup ss ∧ 1 ≤ ss.length ∧ ss.length ≤ 12 ∧ (∀ t ∈ ss, isStep t = true) ∧ noRW [] ss = true := by
  cases x <;> simp [transB] at h
  exact ⟨_, rfl, h.1, h.2.1, h.2.2.1, h.2.2.2⟩
/-- a place of a right history -/
theorem at_place {xs : List D} (hx : ∀ x ∈ xs, sessB x = true) {t j : Nat} (ht : t < xs.length) (hj : j < sessLen (xs.getD t .non)) : ∃ ts ss, xs[t]? = some (.tup ts) ∧ ts[j]? = some (.tup ss) ∧ trN xs t j = ss ∧ transB (.tup ss) = true := by
  obtain ⟨ts, e, l, h⟩ := sess_of (hx xs[t] (List.getElem_mem ht))
  have g : xs[t]? = some (.tup ts) := by rw [List.getElem?_eq_getElem ht, e]
  have gd : xs.getD t .non = .tup ts := by simp [List.getD, g]
  rw [gd] at hj
  simp only [sessLen] at hj
  have hm := h ts[j] (List.getElem_mem hj)
  obtain ⟨ss, e2, _⟩ := trans_of hm
  have g2 : ts[j]? = some (.tup ss) := by rw [List.getElem?_eq_getElem hj, e2]
  refine ⟨ts, ss, g, g2, ?_, by rw [← e2]; exact hm⟩
  unfold trN
  rw [g]
  simp only [g2]
theorem place_in {xs : List D} {p : Nat × Nat} (h : p ∈ placesF 0 xs) : p.1 < xs.length ∧ p.2 < sessLen (xs.getD p.1 .non) := by
  obtain ⟨_, x, hx, hl⟩ := mem_placesF.mp h
  simp only [Nat.sub_zero] at hx
  refine ⟨(List.getElem?_eq_some_iff.mp hx).1, ?_⟩
  simp [List.getD, hx, hl]
theorem in_place {xs : List D} {p : Nat × Nat} (h : p.1 < xs.length ∧ p.2 < sessLen (xs.getD p.1 .non)) : p ∈ placesF 0 xs := by
  refine mem_placesF.mpr ⟨Nat.zero_le _, xs[p.1], by simp [List.getElem?_eq_getElem h.1], ?_⟩
  have := h.2
  simpa [List.getD, List.getElem?_eq_getElem h.1] using this
section
variable {n m k : Nat} {a : Rf.Arg} {s : wld.T}
theorem run15 (h : a.ok = true) {x : D} {xs : List D} (hd : a.d = .tup [x, .tup xs]) (hx : ∀ x ∈ xs, ∃ ts : List D, x = .tup ts ∧ ts.length ≤ 1000) (hl : xs.length ≤ 1000) : G (n + 1) 15 [a] s = .ok (.lst ((placesF 0 xs).map plD)) s := by
  rw [G_eq (fd := f15) rfl rfl]
  have pl : (placesF 0 xs).length ≤ 1000000 := by
    have := placesF_le (i := 0) (m := 1000) (xs := xs) fun y hy => by
      obtain ⟨ts, rfl, ht⟩ := hx y hy
      exact ht
    omega
  apply Ok.eq
  simp -implicitDefEqProofs [f15, b15, h, hd, rng0 (n := xs.length) (by omega)]
  refine loop_inv (I15 xs a s) ⟨rfl, [], none, rfl, rfl⟩ ?_ ?_
  · rintro i d e s' hg ⟨rfl, acc, o, rfl, hn⟩
    obtain ⟨il, rfl⟩ := rng_get hg
    refine ⟨_, rfl, ?_⟩
    obtain ⟨ts, e, ht⟩ := hx xs[i] (List.getElem_mem il)
    have gi : xs[i]? = some (.tup ts) := by rw [List.getElem?_eq_getElem il, e]
    rw [drop_of_get gi] at hn
    simp only [placesF, sessLen] at hn
    simp -implicitDefEqProofs [h, hd, atN gi, rng0 (n := ts.length) (by omega)]
    refine Ok_of_eq (lc_pure (p := fun _ => true) (g := fun d => .tup [.int i, d]) ?_ ?_) ?_
    · intro d hd2
      refine ⟨_, rfl, by simp, fun _ => ?_⟩
      simp
    · simp; omega
    · have le : acc.length + ts.length ≤ 1000000 := by
        rw [← hn] at pl
        simp at pl
        omega
      have le2 : acc.length + ts.length ≤ 16777216 := by omega
      simp -implicitDefEqProofs [le2]
      refine ⟨rfl, acc ++ (List.range ts.length).map fun k => (i, k), some (.int i), ?_, by rw [← hn]; simp⟩
      simp [Function.comp_def, plD]
      rfl
  · rintro e s' ⟨rfl, acc, o, rfl, hn⟩
    simp [placesF] at hn ⊢
    rw [hn]
theorem run16 {a2 : Rf.Arg} (h : a.ok = true) (h2 : a2.ok = true) {x d : D} {xs ts r : List D} {t j : Nat} (hd : a.d = .tup [x, .tup xs]) (hd2 : a2.d = .tup (.int t :: .int j :: r)) (g : xs[t]? = some (.tup ts)) (g2 : ts[j]? = some d) : G (n + 1) 16 [a, a2] s = .ok d s := by
  rw [G_eq (fd := f16) rfl rfl]
  simp -implicitDefEqProofs [f16, b16, h, hd, h2, hd2, atN g, atN g2]
end
end Law
/-! Plain law of k74: the words of a history, part 6: versions, and is_history. -/
namespace Law
open PySem PySem.Spec PyProof.Rows L2 Rf
def e7 (a : Rf.Arg) (xs : List D) (o2 o3 o4 o5 o6 : Option D) : En := [argSlot a, .dat (.tup xs), sl o2, sl o3, sl o4, sl o5, sl o6]
def I7 (a : Rf.Arg) (xs : List D) (s : wld.T) (i : Nat) (e : En) (s' : wld.T) : Prop := s' = s ∧ (∃ o2 o3 o4 o5 o6, e = e7 a xs o2 o3 o4 o5 o6) ∧ ((placesF 0 xs).take i).all (fun p => (trN xs p.1 p.2).all (verB xs p)) = true
def I7b (a : Rf.Arg) (xs : List D) (p : Nat × Nat) (s : wld.T) (i : Nat) (e : En) (s' : wld.T) : Prop := s' = s ∧ (∃ o4 o5 o6, e = e7 a xs (some (.int p.1)) (some (.int p.2)) o4 o5 o6) ∧ ((trN xs p.1 p.2).take i).all (verB xs p) = true
theorem all_take_succ {α : Type} {f : α → Bool} {xs : List α} {i : Nat} {x : α} (h : xs[i]? = some x) : (xs.take (i + 1)).all f = ((xs.take i).all f && f x) := by
  rw [List.take_succ, h]
  simp
theorem all_false {α : Type} {f : α → Bool} {xs : List α} {x : α} (h : x ∈ xs) (k : f x = false) : xs.all f = false := by
  rw [List.all_eq_false]
  exact ⟨x, h, by simp [k]⟩
theorem isVer_cases {v : D} (h : isVer v = true) : v = .non ∨ ∃ t j, v = .tup [.int t, .int j] := by
  match v, h with
  | .non, _ => exact .inl rfl
  | .tup [a, b], h =>
    simp [isVer] at h
    cases a <;> simp [isNum] at h
    cases b <;> simp [isNum] at h
    exact .inr ⟨_, _, rfl⟩
@[simp] theorem isN_tup (xs : List D) : isN (.tup xs) = false := rfl
@[simp] theorem isN_non : isN .non = true := rfl
section
variable {n m k : Nat} {a : Rf.Arg} {s : wld.T}
theorem run7 (h : a.ok = true) {x : D} {xs : List D} (hd : a.d = .tup [x, .tup xs]) (hx : ∀ x ∈ xs, sessB x = true) (hl : xs.length ≤ 1000) : G (n + 2) 7 [a] s = .ok (.bl (versB xs)) s := by
  rw [G_eq (fd := f7) rfl rfl]
  have hx1 : ∀ x ∈ xs, ∃ ts : List D, x = .tup ts ∧ ts.length ≤ 1000 := fun x hm => by
    obtain ⟨ts, e, l, _⟩ := sess_of (hx x hm)
    exact ⟨ts, e, by omega⟩
  apply Ok.eq
  simp -implicitDefEqProofs [f7, b7, h, hd, run6 (n := n) h hd hx1 hl]
  refine loop_inv (I7 a xs s) ⟨rfl, ⟨none, none, none, none, none, rfl⟩, rfl⟩ ?_ ?_
  · rintro i d e s' hg ⟨rfl, ⟨o2, o3, o4, o5, o6, rfl⟩, hn⟩
    rw [List.getElem?_map] at hg
    cases hp : (placesF 0 xs)[i]? with
    | none => rw [hp] at hg; cases hg
    | some p =>
      rw [hp] at hg
      cases hg
      have pm := List.mem_of_getElem? hp
      obtain ⟨ht, hj⟩ := place_in pm
      obtain ⟨ts, ss, g1, g2, g3, g4⟩ := at_place hx ht hj
      obtain ⟨_, e, l1, l12, hst, _⟩ := trans_of g4
      cases e
      refine ⟨e7 a xs (some (.int p.1)) (some (.int p.2)) o4 o5 o6, by simp [plD, e7]; exact ⟨rfl, rfl⟩, ?_⟩
      simp -implicitDefEqProofs [e7, atN g1, atN g2]
      refine loop_inv (I7b a xs p s') ⟨rfl, ⟨o4, o5, o6, rfl⟩, rfl⟩ ?_ ?_
      · rintro q d e s'' hg ⟨rfl, ⟨o4, o5, o6, rfl⟩, hm⟩
        have dm := List.mem_of_getElem? hg
        refine ⟨_, rfl, ?_⟩
        have good : verB xs p d = true → ((trN xs p.1 p.2).take (q + 1)).all (verB xs p) = true := fun hv => by
          rw [g3] at hm ⊢
          rw [all_take_succ hg, hm, hv]
          rfl
        have bad : verB xs p d = false → versB xs = false := fun hv => all_false pm (all_false (by rw [g3]; exact dm) hv)
        rcases step_cases (hst d dm) with ⟨j, rfl, _⟩ | ⟨j, v, rfl, _, _, hv⟩
        · simp -implicitDefEqProofs [e7]
          exact ⟨rfl, ⟨some _, o5, o6, rfl⟩, good rfl⟩
        · rcases isVer_cases hv with rfl | ⟨t, u, rfl⟩
          · simp -implicitDefEqProofs [e7]
            exact ⟨rfl, ⟨some _, o5, o6, rfl⟩, good rfl⟩
          · have vb : verB xs p (.tup [.str "read", .int j, .tup [.int t, .int u]]) = (decide (¬ (t = p.1 ∧ u = p.2) ∧ 0 ≤ t ∧ t < xs.length ∧ 0 ≤ u ∧ u < sessLen (xs.getD t.toNat .non)) && decide (j ∈ wrK (trN xs t.toNat u.toNat))) := rfl
            simp -implicitDefEqProofs [e7]
            by_cases c1 : t = p.1 ∧ u = p.2
            · simp -implicitDefEqProofs [c1]
              exact bad (by rw [vb]; simp [c1])
            by_cases c2 : t < 0
            · simp -implicitDefEqProofs [c1, c2]
              exact bad (by rw [vb]; simp; omega)
            by_cases c3 : (xs.length : Int) ≤ t
            · simp -implicitDefEqProofs [c1, c2, c3]
              exact bad (by rw [vb]; simp; omega)
            by_cases c4 : u < 0
            · simp -implicitDefEqProofs [c1, c2, c3, c4]
              exact bad (by rw [vb]; simp; omega)
            obtain ⟨t', rfl⟩ := Int.eq_ofNat_of_zero_le (Int.not_lt.mp c2)
            obtain ⟨u', rfl⟩ := Int.eq_ofNat_of_zero_le (Int.not_lt.mp c4)
            have ht' : t' < xs.length := by omega
            obtain ⟨ts', e', _, _⟩ := sess_of (hx xs[t'] (List.getElem_mem ht'))
            have g1' : xs[t']? = some (.tup ts') := by rw [List.getElem?_eq_getElem ht', e']
            have gd' : xs.getD t' .non = .tup ts' := by simp [List.getD, g1']
            simp only [Int.toNat_natCast, gd', sessLen] at vb
            by_cases c5 : (ts'.length : Int) ≤ u'
            · simp -implicitDefEqProofs [c1, c2, c3, c4, atN g1', c5]
              exact bad (by rw [vb]; simp; omega)
            have hu' : u' < sessLen (xs.getD t' .non) := by rw [gd']; simp only [sessLen]; omega
            obtain ⟨ts2, ss', g1'', g2', g3', g4'⟩ := at_place hx ht' hu'
            rw [g1'] at g1''
            cases g1''
            obtain ⟨_, e2, l1', l12', hst', _⟩ := trans_of g4'
            cases e2
            have r5 := run5 (n := n) (a := .dat (.tup ss')) (s := s'') rfl rfl hst' (by omega)
            simp -implicitDefEqProofs [c1, c2, c3, c4, atN g1', c5, atN g2', r5, in_ints]
            simp only [g3'] at vb
            by_cases c6 : j ∈ wrK ss'
            · simp -implicitDefEqProofs [c6]
              exact ⟨rfl, ⟨some _, some _, some _, rfl⟩, good (by rw [vb]; simp [c6]; omega)⟩
            · simp -implicitDefEqProofs [c6]
              exact bad (by rw [vb]; simp [c6])
      · rintro e s'' ⟨rfl, ⟨o4, o5, o6, rfl⟩, hm⟩
        simp -implicitDefEqProofs
        refine ⟨rfl, ⟨_, _, _, _, _, rfl⟩, ?_⟩
        rw [all_take_succ hp, hn]
        rw [List.take_of_length_le (by rw [g3]; exact Nat.le_refl _)] at hm
        simp [hm]
  · rintro e s' ⟨rfl, ⟨o2, o3, o4, o5, o6, rfl⟩, hn⟩
    rw [List.take_of_length_le (by simp)] at hn
    simp -implicitDefEqProofs [e7]
    exact hn
end
end Law
/-! Plain law of k74: the words of a history, part 7: both looks at a history. -/
namespace Law
open PySem PySem.Spec PyProof.Rows L2 Rf
def isHi (x : D) : Bool := eqvD x (.str "history")
def histB : D → Bool
  | .tup [h, .tup xs] => isHi h && (decide (1 ≤ xs.length) && (decide (xs.length ≤ 5) && (xs.all sessB && versB xs)))
  | _ => false
@[simp] theorem o_neh {x : D} (h : shaped x = true) : opD .ne x (.str "history") = some (.bl (!isHi x)) := by rw [o_ne h shStr_h]; rfl
def I8 (a : Rf.Arg) (xs : List D) (s : wld.T) (i : Nat) (e : En) (s' : wld.T) : Prop := s' = s ∧ (∃ o1, e = [argSlot a, sl o1, .non]) ∧ (xs.take i).all sessB = true
def e18 (a : Rf.Arg) (o1 o2 o3 o4 : Option D) : En := [argSlot a, sl o1, sl o2, sl o3, sl o4, .non]
def I18 (a : Rf.Arg) (xs : List D) (s : wld.T) (i : Nat) (e : En) (s' : wld.T) : Prop := s' = s ∧ (∃ o1, e = e18 a o1 none none none) ∧ (xs.take i).all sessB = true
def I18b (a : Rf.Arg) (xs : List D) (s : wld.T) (i : Nat) (e : En) (s' : wld.T) : Prop := s' = s ∧ (∃ o1 o3 o4, e = e18 a o1 (some (.lst ((placesF 0 xs).map plD))) o3 o4) ∧ ((placesF 0 xs).take i).all (fun p => (trN xs p.1 p.2).all (verB xs p)) = true
def I18c (a : Rf.Arg) (xs : List D) (p : Nat × Nat) (s : wld.T) (i : Nat) (e : En) (s' : wld.T) : Prop := s' = s ∧ (∃ o1 o4, e = e18 a o1 (some (.lst ((placesF 0 xs).map plD))) (some (plD p)) o4) ∧ ((trN xs p.1 p.2).take i).all (verB xs p) = true
theorem memD_pl {t u : Int} {ps : List (Nat × Nat)} : memD (.tup [.int t, .int u]) (ps.map plD) = decide (∃ p ∈ ps, (p.1 : Int) = t ∧ (p.2 : Int) = u) := by
  induction ps with
  | nil => simp [memD]
  | cons p ps ih =>
    unfold memD at ih ⊢
    rw [List.map_cons, List.any_cons, ih, plD, eqv_pair]
    rw [Bool.eq_iff_iff]
    simp
theorem shapedA_pl (ps : List (Nat × Nat)) : shapedA (ps.map plD) = true := okA_shapedA (m := 2) (n := 1) (okA_iff.mpr fun x hx => by
  obtain ⟨i, _, rfl⟩ := List.mem_map.mp hx
  exact ok_pair _ _) (by omega)
theorem in_pl {neg : Bool} {t u : Int} {ps : List (Nat × Nat)} : inD neg (.tup [.int t, .int u]) (.lst (ps.map plD)) = some (.bl (neg != decide (∃ p ∈ ps, (p.1 : Int) = t ∧ (p.2 : Int) = u))) := by
  simp only [inD, okD_shaped (ok_pair t u) (by omega), shapedA_pl, memD_pl, Bool.and_self, if_true]
theorem not_tup_sess {x : D} (h : ∀ ts, x ≠ .tup ts) : sessB x = false := by
  cases x <;> first | rfl | exact absurd rfl (h _)
theorem isTy_not {x : D} (h : ∀ ts, x ≠ .tup ts) : isTy .tuple x = false := by
  cases x <;> first | rfl | exact absurd rfl (h _)
theorem histB_not {x : D} (h : ∀ y xs, x ≠ .tup [y, .tup xs]) : histB x = false := by
  unfold histB
  split
  · exact absurd rfl (h _ _)
  · rfl
theorem tup_or (x : D) : (∃ ts, x = .tup ts) ∨ ∀ ts, x ≠ .tup ts := by
  cases x <;> first | exact .inl ⟨_, rfl⟩ | (right; intro ts h; cases h)
section
variable {n m k : Nat} {a : Rf.Arg} {s : wld.T}
theorem run8 (h : a.ok = true) (hp : okD m k a.d = true) (hk : k ≤ 60) (hm : m ≤ 1000) : G (n + 5) 8 [a] s = .ok (.bl (histB a.d)) s := by
  rw [G_eq (fd := f8) rfl rfl]
  have hpl := okD_plain hp
  simp only [f8, b8, startE_k]
  generalize hd : a.d = d at hp hpl
  rcases tup_or d with ⟨ts, rfl⟩ | hnt
  · obtain ⟨q, rfl, hl, hx⟩ := okD_tup hp
    match ts, hl, hx with
    | [], _, _ => simp -implicitDefEqProofs [h, hd, histB]
    | [y], _, _ => simp -implicitDefEqProofs [h, hd, histB]
    | y :: z :: u :: r, _, _ =>
      have l2 : ¬ ((r.length : Int) + 1 + 1 + 1 = 2) := by omega
      simp -implicitDefEqProofs [h, hd, histB, l2]
    | [y, z], _, hx =>
      have sy : shaped y = true := okD_shaped (hx y (by simp)) (by omega)
      have oz := hx z (by simp)
      rcases tup_or z with ⟨xs, rfl⟩ | hnz
      · obtain ⟨q, rfl, hlx, hxs⟩ := okD_tup oz
        cases hh : isHi y with
        | false => simp -implicitDefEqProofs [h, hd, histB, sy, hh]
        | true =>
          by_cases h1 : xs.length = 0
          · have : xs = [] := List.length_eq_zero_iff.mp h1
            subst this
            simp -implicitDefEqProofs [h, hd, histB, sy, hh]
          have i1 : ¬ (xs.length : Int) < 1 := by omega
          have i1' : 1 ≤ xs.length := by omega
          by_cases h2 : 5 < xs.length
          · have i2 : 5 < (xs.length : Int) := by omega
            have i3 : ¬ xs.length ≤ 5 := by omega
            simp -implicitDefEqProofs [h, hd, histB, sy, hh, i1, i1', i2, i3]
          have i2 : ¬ 5 < (xs.length : Int) := by omega
          have i3 : xs.length ≤ 5 := by omega
          apply Ok.eq
          simp -implicitDefEqProofs [h, hd, histB, sy, hh, i1, i1', i2, i3]
          refine loop_inv (I8 a xs s) ⟨rfl, ⟨none, rfl⟩, rfl⟩ ?_ ?_
          · rintro i d e s' hg ⟨rfl, ⟨o1, rfl⟩, hn⟩
            refine ⟨_, rfl, ?_⟩
            have dm := List.mem_of_getElem? hg
            have od := hxs d dm
            have bad : sessB d = false → (∀ x, x ∈ xs → sessB x = true) → versB xs = false := fun hv z => by rw [z d dm] at hv; cases hv
            rcases tup_or d with ⟨ts, rfl⟩ | hnd
            · obtain ⟨q, rfl, hlt, hts⟩ := okD_tup od
              by_cases h8 : 8 < ts.length
              · have j8 : 8 < (ts.length : Int) := by omega
                have k8 : ¬ ts.length ≤ 8 := by omega
                simp -implicitDefEqProofs [j8]
                exact bad (by simp [sessB, k8])
              have j8 : ¬ 8 < (ts.length : Int) := by omega
              have k8 : ts.length ≤ 8 := by omega
              have hc : ∀ s : wld.T, lcLoop [2] (.one 2) (denC (G (n + 4)) .no) (denE (G (n + 4)) (.call 4 (.cons (.lend 2) .nil))) [argSlot a, .dat (.tup ts), .non] ts [] s = .ok (ts.map fun d => .bl (transB d)) s := by
                intro s
                rw [lc_pure (p := fun _ => true) (g := fun d => .bl (transB d))]
                · simp
                · intro d hd'
                  refine ⟨_, rfl, by simp, fun _ => ?_⟩
                  simp [run4 (n := n) (a := .dat d) (s := s) rfl (hts d hd') (by omega) hm]
                · simp; omega
              have sb : sessB (.tup ts) = ts.all transB := by simp [sessB, k8]
              cases ht : ts.all transB with
              | false =>
                simp -implicitDefEqProofs [j8, hc, ht]
                exact bad (by rw [sb, ht])
              | true =>
                simp -implicitDefEqProofs [j8, hc, ht]
                exact ⟨rfl, ⟨some _, rfl⟩, by rw [all_take_succ hg, hn, sb, ht]; rfl⟩
            · simp -implicitDefEqProofs [isTy_not hnd, okD_plain od]
              exact bad (not_tup_sess hnd)
          · rintro e s' ⟨rfl, ⟨o1, rfl⟩, hn⟩
            rw [List.take_of_length_le (Nat.le_refl _)] at hn
            have hs : ∀ x ∈ xs, sessB x = true := by simpa using hn
            simp -implicitDefEqProofs [h, run7 (n := n + 2) h hd hs (by omega)]
            exact fun _ => hs
      · simp -implicitDefEqProofs [h, hd, sy, isTy_not hnz, okD_plain oz]
        rw [histB_not (by intro y xs e; cases e; exact hnz _ rfl)]
  · simp -implicitDefEqProofs [h, hd, isTy_not hnt, hpl]
    rw [histB_not (by intro y xs e; exact hnt _ e)]
end
end Law
/-! Plain law of k74: the words of a history, part 8: the law's own look at a history. -/
namespace Law
open PySem PySem.Spec PyProof.Rows L2 Rf
theorem shaped_lst_bl : shaped (.lst []) = true := by decide
theorem o_ne_nil {xs : List D} (h : shaped (.lst xs) = true) : opD .ne (.lst xs) (.lst []) = some (.bl (!xs.isEmpty)) := by
  rw [o_ne h shaped_lst_bl]
  cases xs <;> simp [eqvD, toPy, toPyA, PyData.eqv, PyData.eqvAll]
section
variable {n m k : Nat} {a : Rf.Arg} {s : wld.T}
theorem run18 (h : a.ok = true) (hp : okD m k a.d = true) (hk : k ≤ 60) (hm : m ≤ 1000) : G (n + 6) 18 [a] s = .ok (.bl (histB a.d)) s := by
  rw [G_eq (fd := f18) rfl rfl]
  have hpl := okD_plain hp
  simp only [f18, b18, startE_k]
  generalize hd : a.d = d at hp hpl
  rcases tup_or d with ⟨ts, rfl⟩ | hnt
  · obtain ⟨q, rfl, hl, hx⟩ := okD_tup hp
    match ts, hl, hx with
    | [], _, _ => simp -implicitDefEqProofs [h, hd, histB]
    | [y], _, _ => simp -implicitDefEqProofs [h, hd, histB]
    | y :: z :: u :: r, _, _ =>
      have l2 : ¬ ((r.length : Int) + 1 + 1 + 1 = 2) := by omega
      simp -implicitDefEqProofs [h, hd, histB, l2]
    | [y, z], _, hx =>
      have sy : shaped y = true := okD_shaped (hx y (by simp)) (by omega)
      have oz := hx z (by simp)
      rcases tup_or z with ⟨xs, rfl⟩ | hnz
      · obtain ⟨q, rfl, hlx, hxs⟩ := okD_tup oz
        cases hh : isHi y with
        | false => simp -implicitDefEqProofs [h, hd, histB, sy, hh]
        | true =>
          by_cases h1 : ¬ (1 ≤ xs.length ∧ xs.length ≤ 5)
          · have i1 : ¬ ((1 : Int) ≤ xs.length ∧ (xs.length : Int) < 6) := by omega
            have i2 : (decide (1 ≤ xs.length) && decide (xs.length ≤ 5)) = false := by simp; omega
            simp -implicitDefEqProofs [h, hd, histB, sy, hh, i1, ← Bool.and_assoc, i2]
          have h1 := Decidable.not_not.mp h1
          have i1 : (1 : Int) ≤ xs.length ∧ (xs.length : Int) < 6 := by omega
          apply Ok.eq
          simp -implicitDefEqProofs [h, hd, histB, sy, hh, i1, h1]
          refine loop_inv (I18 a xs s) ⟨rfl, ⟨none, rfl⟩, rfl⟩ ?_ ?_
          · rintro i d e s' hg ⟨rfl, ⟨o1, rfl⟩, hn⟩
            refine ⟨_, rfl, ?_⟩
            have dm := List.mem_of_getElem? hg
            have od := hxs d dm
            have bad : sessB d = false → (∀ x, x ∈ xs → sessB x = true) → versB xs = false := fun hv z => by rw [z d dm] at hv; cases hv
            rcases tup_or d with ⟨ts, rfl⟩ | hnd
            · obtain ⟨q, rfl, hlt, hts⟩ := okD_tup od
              by_cases h8 : 8 < ts.length
              · have j8 : 8 < (ts.length : Int) := by omega
                have k8 : ¬ ts.length ≤ 8 := by omega
                simp -implicitDefEqProofs [e18, j8]
                exact bad (by simp [sessB, k8])
              have j8 : ¬ 8 < (ts.length : Int) := by omega
              have k8 : ts.length ≤ 8 := by omega
              have hc : ∀ (s : wld.T) (e1 e2 e3 e4 : Slot), lcLoop [5] (.one 5) (denC (G (n + 5)) (.yes (.not (.call 19 (.cons (.lend 5) .nil))))) (denE (G (n + 5)) (.var 5)) [e1, .dat (.tup ts), e2, e3, e4, .non] ts [] s = .ok (ts.filter fun d => !transB d) s := by
                intro s e1 e2 e3 e4
                rw [lc_pure (p := fun d => !transB d) (g := fun d => d)]
                · simp
                · intro d hd'
                  refine ⟨_, rfl, ?_, fun _ => ?_⟩
                  · simp -implicitDefEqProofs [run19 (n := n + 1) (a := .dat d) (s := s) rfl (hts d hd') (by omega) hm]
                  · simp
                · simp; omega
              have sf : shaped (.lst (ts.filter fun d => !transB d)) = true := okD_shaped (m := m) (n := q + 1) (by
                simp only [okD, Bool.and_eq_true, decide_eq_true_eq]
                refine ⟨Nat.le_trans (List.length_filter_le ..) hlt, okA_iff.mpr fun x hx' => hts x (List.mem_filter.mp hx').1⟩) (by omega)
              have sb : sessB (.tup ts) = ts.all transB := by simp [sessB, k8]
              have em : (ts.filter fun d => !transB d).isEmpty = ts.all transB := by
                rw [Bool.eq_iff_iff]
                simp
              cases ht : ts.all transB with
              | false =>
                rw [ht] at em
                simp -implicitDefEqProofs [e18, j8, hc, o_ne_nil sf, em]
                exact bad (by rw [sb, ht])
              | true =>
                rw [ht] at em
                simp -implicitDefEqProofs [e18, j8, hc, o_ne_nil sf, em]
                exact ⟨rfl, ⟨some _, rfl⟩, by rw [all_take_succ hg, hn, sb, ht]; rfl⟩
            · simp -implicitDefEqProofs [e18, isTy_not hnd, okD_plain od]
              exact bad (not_tup_sess hnd)
          · rintro e s' ⟨rfl, ⟨o1, rfl⟩, hn⟩
            rw [List.take_of_length_le (Nat.le_refl _)] at hn
            have hs : ∀ x ∈ xs, sessB x = true := by simpa using hn
            have hx1 : ∀ x ∈ xs, ∃ ts : List D, x = .tup ts ∧ ts.length ≤ 1000 := fun x hm => by
              obtain ⟨ts, e, l, _⟩ := sess_of (hs x hm)
              exact ⟨ts, e, by omega⟩
            simp -implicitDefEqProofs [e18, h, run15 (n := n + 4) h hd hx1 (by omega)]
            refine loop_inv (I18b a xs s') ⟨rfl, ⟨o1, none, none, rfl⟩, rfl⟩ ?_ ?_
            · rintro i d e s' hg ⟨rfl, ⟨o1, o3, o4, rfl⟩, hn⟩
              rw [List.getElem?_map] at hg
              cases hp : (placesF 0 xs)[i]? with
              | none => rw [hp] at hg; cases hg
              | some p =>
                rw [hp] at hg
                cases hg
                have pm := List.mem_of_getElem? hp
                obtain ⟨ht, hj⟩ := place_in pm
                obtain ⟨ts, ss, g1, g2, g3, g4⟩ := at_place hs ht hj
                obtain ⟨_, e, l1, l12, hst, _⟩ := trans_of g4
                cases e
                refine ⟨_, rfl, ?_⟩
                have ra := run16 (n := n + 4) (a := a) (a2 := .dat (plD p)) (s := s') h rfl hd rfl g1 g2
                simp -implicitDefEqProofs [e18, h, ra]
                refine loop_inv (I18c a xs p s') ⟨rfl, ⟨o1, o4, rfl⟩, rfl⟩ ?_ ?_
                · rintro q d e s'' hg ⟨rfl, ⟨o1, o4, rfl⟩, hm⟩
                  have dm := List.mem_of_getElem? hg
                  refine ⟨_, rfl, ?_⟩
                  have good : verB xs p d = true → ((trN xs p.1 p.2).take (q + 1)).all (verB xs p) = true := fun hv => by
                    rw [g3] at hm ⊢
                    rw [all_take_succ hg, hm, hv]
                    rfl
                  have bad : verB xs p d = false → (∀ x, x ∈ xs → sessB x = true) → versB xs = false := fun hv _ => all_false pm (all_false (by rw [g3]; exact dm) hv)
                  rcases step_cases (hst d dm) with ⟨j, rfl, _⟩ | ⟨j, v, rfl, _, _, hv⟩
                  · simp -implicitDefEqProofs [e18]
                    exact ⟨rfl, ⟨o1, some _, rfl⟩, good rfl⟩
                  · rcases isVer_cases hv with rfl | ⟨t, u, rfl⟩
                    · simp -implicitDefEqProofs [e18]
                      exact ⟨rfl, ⟨o1, some _, rfl⟩, good rfl⟩
                    · have vb : verB xs p (.tup [.str "read", .int j, .tup [.int t, .int u]]) = (decide (¬ (t = p.1 ∧ u = p.2) ∧ 0 ≤ t ∧ t < xs.length ∧ 0 ≤ u ∧ u < sessLen (xs.getD t.toNat .non)) && decide (j ∈ wrK (trN xs t.toNat u.toNat))) := rfl
                      simp -implicitDefEqProofs [e18, in_pl]
                      by_cases c1 : ∃ p ∈ placesF 0 xs, (p.1 : Int) = t ∧ (p.2 : Int) = u
                      · obtain ⟨⟨t', u'⟩, pm', rfl, rfl⟩ := c1
                        obtain ⟨ht', hu'⟩ := place_in pm'
                        replace ht' : t' < xs.length := ht'
                        replace hu' : u' < sessLen (xs.getD t' .non) := hu'
                        have c1 : ∃ p ∈ placesF 0 xs, (p.1 : Int) = t' ∧ (p.2 : Int) = u' := ⟨_, pm', rfl, rfl⟩
                        simp only [Int.toNat_natCast] at vb
                        obtain ⟨ts2, ss', g1', g2', g3', g4'⟩ := at_place hs ht' hu'
                        obtain ⟨_, e2, l1', l12', hst', _⟩ := trans_of g4'
                        cases e2
                        have r5 := run17 (n := n + 4) (a := .dat (.tup ss')) (s := s'') rfl rfl hst' (by omega)
                        have ra' := run16 (n := n + 4) (a := a) (a2 := .dat (.tup [.int t', .int u'])) (s := s'') h rfl hd rfl g1' g2'
                        have c1' : ∃ x y, (x, y) ∈ placesF 0 xs ∧ (x : Int) = t' ∧ (y : Int) = u' := ⟨_, _, pm', rfl, rfl⟩
                        simp only [g3'] at vb
                        by_cases c2 : (t' : Int) = p.1 ∧ (u' : Int) = p.2
                        · simp -implicitDefEqProofs [c1, c1', plD, c2]
                          exact bad (by rw [vb]; simp [c2])
                        · have vb2 : verB xs p (.tup [.str "read", .int j, .tup [.int t', .int u']]) = decide (j ∈ wrK ss') := by
                            rw [vb]
                            have : (¬ ((t' : Int) = p.1 ∧ (u' : Int) = p.2) ∧ (0 : Int) ≤ t' ∧ (t' : Int) < xs.length ∧ (0 : Int) ≤ u' ∧ (u' : Int) < sessLen (xs.getD t' .non)) := ⟨c2, by omega, by omega, by omega, by omega⟩
                            rw [decide_eq_true this, Bool.true_and]
                          simp -implicitDefEqProofs [c1, c1', plD, c2, h, ra', r5, in_ints]
                          by_cases c6 : j ∈ wrK ss'
                          · simp -implicitDefEqProofs [c6]
                            exact ⟨rfl, ⟨o1, some _, rfl⟩, good (by rw [vb2]; simp [c6])⟩
                          · simp -implicitDefEqProofs [c6]
                            exact bad (by rw [vb2]; simp [c6])
                      · have c1' : ¬ ∃ x y, (x, y) ∈ placesF 0 xs ∧ (x : Int) = t ∧ (y : Int) = u := fun ⟨x, y, a, b⟩ => c1 ⟨_, a, b⟩
                        simp -implicitDefEqProofs [c1, c1']
                        refine bad ?_
                        rw [vb, Bool.and_eq_false_iff]
                        left
                        rw [decide_eq_false_iff_not]
                        rintro ⟨_, b1, b2, b3, b4⟩
                        exact c1 ⟨(t.toNat, u.toNat), in_place ⟨by simp only; omega, by simp only; omega⟩, by simp only; omega, by simp only; omega⟩
                · rintro e s'' ⟨rfl, ⟨o1, o4, rfl⟩, hm⟩
                  simp -implicitDefEqProofs
                  refine ⟨rfl, ⟨_, _, _, rfl⟩, ?_⟩
                  rw [all_take_succ hp, hn]
                  rw [List.take_of_length_le (by rw [g3]; exact Nat.le_refl _)] at hm
                  simp [hm]
            · rintro e s' ⟨rfl, ⟨o1, o3, o4, rfl⟩, hn⟩
              rw [List.take_of_length_le (by simp)] at hn
              simp -implicitDefEqProofs [e18]
              exact ⟨hs, hn⟩
      · simp -implicitDefEqProofs [h, hd, sy, isTy_not hnz, okD_plain oz]
        rw [histB_not (by intro y xs e; cases e; exact hnz _ rfl)]
  · simp -implicitDefEqProofs [h, hd, isTy_not hnt, hpl]
    rw [histB_not (by intro y xs e; exact hnt _ e)]
end
end Law
/-! Plain law of k74, part 9: picks, plans. -/
namespace Rf
open PySem PySem.Spec PyProof.Rows L2
@[simp] theorem argSlot_drw : argSlot .drw = .drw := rfl
@[simp] theorem argSlot_dat (d : D) : argSlot (.dat d) = .dat d := rfl
@[simp] theorem argSlot_bor (d : D) : argSlot (.bor d) = .bor d := rfl
end Rf
namespace Law
open PySem PySem.Spec PyProof.Rows L2 Rf
def typD (r : Bool) : D := .str (if r then "read" else "write")
def stD (p : Bool × Int) : D := .tup [typD p.1, .int p.2]
def trD (t : List (Bool × Int)) : D := .lst (t.map stD)
def seD (s : List (List (Bool × Int))) : D := .lst (s.map trD)
abbrev Plan := List (List (List (Bool × Int)))
def plaD (p : Plan) : D := .lst (p.map seD)
def noRWp : List Int → List (Bool × Int) → Bool
  | _, [] => true
  | W, (r, k) :: xs => if r then !decide (k ∈ W) && noRWp W xs else noRWp (k :: W) xs
theorem noRWp_app : ∀ {t : List (Bool × Int)} {W : List Int} {r : Bool} {k : Int}, noRWp W (t ++ [(r, k)]) = (noRWp W t && (!r || (!decide (k ∈ W) && !decide ((false, k) ∈ t))))
  | [], W, r, k => by cases r <;> simp [noRWp]
  | (true, j) :: t, W, r, k => by
    simp only [List.cons_append, noRWp, noRWp_app (t := t), if_true]
    simp [Bool.and_assoc]
  | (false, j) :: t, W, r, k => by
    simp only [List.cons_append, noRWp, noRWp_app (t := t), Bool.false_eq_true, if_false]
    congr 2
    rw [Bool.eq_iff_iff]
    simp
    grind
def TrOk (most : Nat) (t : List (Bool × Int)) : Prop := 1 ≤ t.length ∧ t.length ≤ most ∧ (∀ p ∈ t, 0 ≤ p.2 ∧ p.2 ≤ 9999) ∧ noRWp [] t = true
def PlanOk (pl : Plan) : Prop := 1 ≤ pl.length ∧ pl.length ≤ 5 ∧ ∀ s ∈ pl, 1 ≤ s.length ∧ s.length ≤ 8 ∧ ∀ t ∈ s, TrOk 12 t
def IShu (xs : List D) (b : Nat) (a : Rf.Arg) (n : Nat) (e : En) (s : wld.T) : Prop := ∃ ys zs : List D, e = [.drw, argSlot a, .own (.lst ys), .own (.lst zs)] ∧ n = ys.length ∧ ys.length + zs.length = xs.length ∧ (∀ y ∈ ys, y ∈ xs) ∧ (∀ y ∈ zs, y ∈ xs) ∧ Bud (b - zs.length) s
section
variable {n m k b : Nat} {a : Rf.Arg} {s : wld.T}
theorem run12 {xs : List D} {Q : D → wld.T → Prop} (h : a.ok = true) (hd : seqD a.d = some xs) (hB : Bud b s) (hb : 1 ≤ b) (h1 : xs ≠ []) (h2 : xs.length ≤ 16777216) (k : ∀ x ∈ xs, ∀ s', Bud (b - 1) s' → Q x s') : Ok (G (n + 1) 12 [.drw, a] s) Q := by
  rw [G_eq (fd := f12) rfl rfl]
  have l1 : 0 < xs.length := List.length_pos_iff.mpr h1
  have key : ∀ (r : Int) s', 0 ≤ r → r < xs.length → Bud (b - 1) s' → ∃ x, atI xs r = some x ∧ Q x s' := fun r s' h0 hr hs => by
    obtain ⟨r', rfl⟩ := Int.eq_ofNat_of_zero_le h0
    have hr' : r' < xs.length := by omega
    exact ⟨xs[r'], atN (List.getElem?_eq_getElem hr'), k _ (List.getElem_mem hr') _ hs⟩
  cases hd' : a.d <;> rw [hd'] at hd <;> cases hd
  all_goals
    simp -implicitDefEqProofs [f12, b12, h, hd']
    refine draw_ok hB hb (by omega) (by omega) fun r s' h0 hr hs => ?_
    obtain ⟨x, hx, q⟩ := key r s' h0 hr hs
    simp -implicitDefEqProofs [hx]
    exact q
theorem run13 {xs : List D} {Q : D → wld.T → Prop} (h : a.ok = true) (hd : a.d = .lst xs) (hx : ∀ x ∈ xs, ∃ i, x = .int i) (hB : Bud b s) (hb : xs.length ≤ b) (h2 : xs.length ≤ 1000) (k : ∀ ys : List D, ys.length = xs.length → (∀ y ∈ ys, y ∈ xs) → ∀ s', Bud (b - xs.length) s' → Q (.lst ys) s') : Ok (G (n + 1) 13 [.drw, a] s) Q := by
  rw [G_eq (fd := f13) rfl rfl]
  have lo : biD .listOf [.lst xs] = some (.lst xs) := rfl
  simp -implicitDefEqProofs [f13, b13, h, hd, lo]
  refine whl_inv (IShu xs b a) ?_ whlMost xs.length _ s (by have : whlMost = 1000000 := rfl; omega) ⟨xs, [], rfl, rfl, by simp, fun y h => h, by simp, by simpa using hB⟩
  rintro q e s1 ⟨ys, zs, rfl, rfl, hl, hy, hz, hs⟩
  have sh : shaped (.lst ys) = true := okD_shaped (m := 1000) (n := 1) (by
    simp only [okD, Bool.and_eq_true, decide_eq_true_eq]
    refine ⟨by omega, okA_iff.mpr fun x hx' => ?_⟩
    obtain ⟨i, rfl⟩ := hx x (hy x hx')
    exact okD_int i) (by omega)
  simp -implicitDefEqProofs [o_ne_nil sh]
  refine ⟨fun hne => ?_, fun he => ?_⟩
  · have l1 : 0 < ys.length := List.length_pos_iff.mpr hne
    refine ⟨ys.length - 1, by omega, ?_⟩
    refine draw_ok hs (by omega) (by omega) (by omega) fun r s' h0 hr hs => ?_
    obtain ⟨r', rfl⟩ := Int.eq_ofNat_of_zero_le h0
    have hr' : r' < ys.length := by omega
    have hp : popD ys (.int (r' : Int)) = some (ys[r'], ys.eraseIdx r') := by
      have b1 : -(2 ^ 63) ≤ (r' : Int) ∧ (r' : Int) < 2 ^ 63 := by omega
      have b2 : (r' : Int) < ys.length := hr
      simp only [popD]
      rw [if_pos b1]
      simp [ixN, b2, hr']
    have lz : zs.length < 16777216 := by omega
    simp -implicitDefEqProofs [hp, lz]
    refine ⟨ys.eraseIdx r', zs ++ [ys[r']], rfl, by rw [List.length_eraseIdx_of_lt hr'], by rw [List.length_eraseIdx_of_lt hr']; simp; omega, fun y h => hy y (List.mem_of_mem_eraseIdx h), fun y h => ?_, hs.le (by simp; omega)⟩
    rcases List.mem_append.mp h with h | h
    · exact hz y h
    · simp at h; subst h; exact hy _ (List.getElem_mem hr')
  · subst he
    refine k zs (by simpa using hl) hz _ (hs.le (by simp at hl; omega))
end
end Law
/-! Plain law of k74, part 10: a drawn transaction, a drawn plan. -/
namespace Law
open PySem PySem.Spec PyProof.Rows L2 Rf
theorem ok_stD (p : Bool × Int) : okD 2 1 (stD p) = true := by
  obtain ⟨r, k⟩ := p
  cases r <;> simp [stD, typD, okD, okA, okD_int] <;> decide +kernel
theorem eqv_stD (p q : Bool × Int) : eqvD (stD p) (stD q) = decide (p = q) := by
  obtain ⟨r, k⟩ := p
  obtain ⟨r', k'⟩ := q
  have e1 : ("read" : Str) ≠ "write" := by decide
  simp only [eqvD, stD, typD, toPy, toPyA, PyData.eqv, PyData.eqvAll]
  by_cases h : k = k' <;> cases r <;> cases r' <;> simp [h, PyData.eqv, PyData.eqvAll, e1, e1.symm]
theorem memD_st {p : Bool × Int} {t : List (Bool × Int)} : memD (stD p) (t.map stD) = decide (p ∈ t) := by
  induction t with
  | nil => simp [memD]
  | cons q t ih =>
    unfold memD at ih ⊢
    rw [List.map_cons, List.any_cons, ih, eqv_stD, Bool.eq_iff_iff]
    by_cases e : q = p
    · simp [e]
    · simp [e, Ne.symm e]
theorem shapedA_st (t : List (Bool × Int)) : shapedA (t.map stD) = true := okA_shapedA (m := 2) (n := 1) (okA_iff.mpr fun x hx => by
  obtain ⟨i, _, rfl⟩ := List.mem_map.mp hx
  exact ok_stD _) (by omega)
theorem in_st {neg : Bool} {k : Int} {t : List (Bool × Int)} : inD neg (.tup [.str "write", .int k]) (.lst (t.map stD)) = some (.bl (neg != decide ((false, k) ∈ t))) := by
  have e : D.tup [.str "write", .int k] = stD (false, k) := rfl
  rw [e]
  simp only [inD, okD_shaped (ok_stD _) (by omega : 1 ≤ 64), shapedA_st, memD_st, Bool.and_self, if_true]
def I21 (a : Rf.Arg) (many : Nat) (b : Nat) (i : Nat) (e : En) (s : wld.T) : Prop := ∃ (t : List (Bool × Int)) (o4 o5 o6 : Option D), e = [.drw, argSlot a, .dat (.int many), .own (.lst (t.map stD)), sl o4, sl o5, sl o6] ∧ t.length = i ∧ (∀ p ∈ t, 0 ≤ p.2 ∧ p.2 ≤ 9999) ∧ noRWp [] t = true ∧ Bud (b - 2 * i) s
section
variable {n m k b : Nat} {a : Rf.Arg} {s : wld.T}
theorem run21 {many : Nat} {xs : List D} {Q : D → wld.T → Prop} (h : a.ok = true) (hd : a.d = .lst xs) (hx : ∀ x ∈ xs, ∃ i, x = .int i ∧ 0 ≤ i ∧ i ≤ 9999) (h1 : xs ≠ []) (h2 : xs.length ≤ 1000) (hm : 1 ≤ many) (hm2 : many ≤ 1000) (hB : Bud b s) (hb : 2 * many ≤ b) (k : ∀ t s', TrOk many t → Bud (b - 2 * many) s' → Q (trD t) s') : Ok (G (n + 2) 21 [.drw, a, .dat (.int many)] s) Q := by
  rw [G_eq (fd := f21) rfl rfl]
  simp -implicitDefEqProofs [f21, b21, h, hd, rng0 (n := many) (by omega)]
  refine loop_inv (I21 a many b) ⟨[], none, none, none, rfl, rfl, by simp, rfl, by simpa using hB⟩ ?_ ?_
  · rintro i d e s1 hg ⟨t, o4, o5, o6, rfl, hl, hr, hn, hs⟩
    obtain ⟨il, rfl⟩ := rng_get hg
    refine ⟨_, rfl, ?_⟩
    simp -implicitDefEqProofs [h]
    refine run12 (b := b - 2 * i) (xs := xs) h (by rw [hd]; rfl) hs (by omega) h1 (by omega) fun x hxm s2 hs2 => ?_
    obtain ⟨key, rfl, hk⟩ := hx x hxm
    refine draw_ok hs2 (by omega) (by omega) (by omega) fun r s3 h0 hr3 hs3 => ?_
    have lt : t.length < 16777216 := by omega
    simp -implicitDefEqProofs [in_st]
    have fin : ∀ rd : Bool, (rd = true → (false, key) ∉ t) → I21 a many b (i + 1) [.drw, argSlot a, .dat (.int many), .own (.lst (t.map stD ++ [stD (rd, key)])), .dat (.int i), .dat (.int key), .dat (.bl rd)] s3 := fun rd hrd => by
      refine ⟨t ++ [(rd, key)], some _, some _, some _, by simp; exact ⟨rfl, rfl, rfl⟩, by simp [hl], fun p hp => ?_, ?_, hs3.le (by omega)⟩
      · rcases List.mem_append.mp hp with hp | hp
        · exact hr p hp
        · simp at hp; subst hp; exact hk
      · rw [noRWp_app, hn]
        cases rd with
        | false => rfl
        | true => simpa using hrd rfl
    by_cases r0 : r = 0
    · by_cases hin : (false, key) ∈ t
      · simp -implicitDefEqProofs [r0, hin, lt]
        exact fin false (by simp)
      · simp -implicitDefEqProofs [r0, hin, lt]
        exact fin true fun _ => hin
    · simp -implicitDefEqProofs [r0, lt]
      exact fin false (by simp)
  · rintro e s1 ⟨t, o4, o5, o6, rfl, hl, hr, hn, hs⟩
    simp at hl hs
    simp -implicitDefEqProofs
    exact k t _ ⟨by omega, by omega, hr, hn⟩ hs
end
end Law
/-! Plain law of k74, part 11: a drawn plan. -/
namespace Law
open PySem PySem.Spec PyProof.Rows L2 Rf
theorem TrOk.mono {m m' : Nat} {t : List (Bool × Int)} (h : TrOk m t) (k : m ≤ m') : TrOk m' t := ⟨h.1, Nat.le_trans h.2.1 k, h.2.2⟩
def J22 (b : Nat) (j : Nat) (acc : List D) (s : wld.T) : Prop := ∃ S : List (List (Bool × Int)), acc = S.map trD ∧ S.length = j ∧ (∀ t ∈ S, TrOk 12 t) ∧ Bud (b - 25 * j) s
def I22 (ns each steps : Nat) (ks : List D) (b : Nat) (i : Nat) (e : En) (s : wld.T) : Prop := ∃ (pl : Plan) (o6 : Option D), e = [.drw, .dat (.int ns), .dat (.int each), .dat (.int steps), .dat (.lst ks), .own (.lst (pl.map seD)), sl o6, .non] ∧ pl.length = i ∧ (∀ s ∈ pl, 1 ≤ s.length ∧ s.length ≤ 8 ∧ ∀ t ∈ s, TrOk 12 t) ∧ Bud (b - 202 * i) s
def kk4 : List (List D) := [[.int 0, .int 1], [.int 0, .int 1, .int 2], [.int 9999, .int 5, .int 77, .int 3], [.int 0, .int 1, .int 2, .int 3, .int 4, .int 5]]
section
variable {n m k b : Nat} {a : Rf.Arg} {s : wld.T}
theorem run22 {ns each steps : Nat} {Q : D → wld.T → Prop} (hn : 1 ≤ ns ∧ ns ≤ 5) (he : 1 ≤ each ∧ each ≤ 8) (hst : 1 ≤ steps ∧ steps ≤ 12) (hB : Bud b s) (hb : 2000 ≤ b) (k : ∀ (pl : Plan) s', pl.length = ns → PlanOk pl → Bud (b - 2000) s' → Q (plaD pl) s') : Ok (G (n + 3) 22 [.drw, .dat (.int ns), .dat (.int each), .dat (.int steps)] s) Q := by
  rw [G_eq (fd := f22) rfl rfl]
  simp -implicitDefEqProofs [f22, b22]
  refine run12 (b := b) (xs := kk4.map D.lst) rfl (by rfl) hB (by omega) (by simp [kk4]) (by simp [kk4]) fun x hx s1 hs1 => ?_
  obtain ⟨ks, hks, rfl⟩ := List.mem_map.mp hx
  have hk : ∀ x ∈ ks, ∃ i, x = .int i ∧ 0 ≤ i ∧ i ≤ 9999 := by
    intro x hx
    simp [kk4] at hks
    rcases hks with rfl | rfl | rfl | rfl <;> simp at hx <;> rcases hx with hx <;> (try rcases hx with rfl | rfl | rfl | rfl | rfl | rfl) <;> (try rcases hx with rfl | rfl | rfl | rfl) <;> (try rcases hx with rfl | rfl | rfl) <;> (try rcases hx with rfl | rfl) <;> exact ⟨_, rfl, by omega, by omega⟩
  have hl : 1 ≤ ks.length ∧ ks.length ≤ 6 := by
    simp [kk4] at hks
    rcases hks with rfl | rfl | rfl | rfl <;> simp
  refine run13 (b := b - 1) (xs := ks) rfl rfl (fun x hx => let ⟨i, e, _⟩ := hk x hx; ⟨i, e⟩) hs1 (by omega) (by omega) fun ys hyl hy s2 hs2 => ?_
  simp -implicitDefEqProofs [rng0 (n := ns) (by omega)]
  refine loop_inv (I22 ns each steps ys (b - 7)) ⟨[], none, rfl, rfl, by simp, hs2.le (by omega)⟩ ?_ ?_
  · rintro i d e s3 hg ⟨pl, o6, rfl, hpl, hp, hs3⟩
    obtain ⟨il, rfl⟩ := rng_get hg
    refine ⟨_, rfl, ?_⟩
    simp -implicitDefEqProofs
    refine draw_ok hs3 (by omega) (by omega) (by omega) fun r s4 h0 hr4 hs4 => ?_
    simp -implicitDefEqProofs
    refine run12 (b := b - 7 - 202 * i - 1) (xs := [.int each, .int 1, .int (1 + r)]) rfl rfl hs4 (by omega) (by simp) (by simp) fun x hx s5 hs5 => ?_
    have hx' : ∃ q : Nat, x = .int q ∧ 1 ≤ q ∧ q ≤ 8 := by
      simp at hx
      rcases hx with rfl | rfl | rfl
      · exact ⟨each, rfl, he⟩
      · exact ⟨1, rfl, by omega⟩
      · exact ⟨(1 + r).toNat, by rw [Int.toNat_of_nonneg (by omega)], by omega⟩
    obtain ⟨q, rfl, hq⟩ := hx'
    simp -implicitDefEqProofs [rng0 (n := q) (by omega)]
    refine lc_inv (J22 (b - 7 - 202 * i - 2)) ⟨[], rfl, rfl, by simp, hs5.le (by omega)⟩ ?_ ?_
    · rintro j d acc s6 hg2 ⟨S, rfl, hS, ht, hs6⟩
      have jl := (rng_get hg2).1
      refine ⟨_, rfl, ?_⟩
      simp -implicitDefEqProofs
      refine draw_ok hs6 (by omega) (by omega) (by omega) fun r s7 h0 hr7 hs7 => ?_
      obtain ⟨r', rfl⟩ := Int.eq_ofNat_of_zero_le h0
      have e1 : (1 : Int) + (r' : Int) = ((1 + r' : Nat) : Int) := by omega
      simp -implicitDefEqProofs
      rw [e1]
      refine run21 (n := n) (b := b - 7 - 202 * i - 2 - 25 * j - 1) (xs := ys) rfl rfl (fun x hx => hk x (hy x hx)) (by intro z; subst z; simp at hyl; omega) (by omega) (by omega) (by omega) hs7 (by omega) fun t s8 ht8 hs8 => ?_
      refine ⟨by omega, S ++ [t], by simp, by simp [hS], fun t' h' => ?_, hs8.le (by omega)⟩
      rcases List.mem_append.mp h' with h' | h'
      · exact ht t' h'
      · simp at h'; subst h'; exact ht8.mono (by omega)
    · rintro acc s6 ⟨S, rfl, hS, ht, hs6⟩
      simp at hS
      have lp : pl.length < 16777216 := by omega
      simp -implicitDefEqProofs [lp]
      refine ⟨pl ++ [S], some _, by simp; exact ⟨rfl, rfl⟩, by simp [hpl], fun z hz => ?_, hs6.le (by simp; omega)⟩
      rcases List.mem_append.mp hz with hz | hz
      · exact hp z hz
      · simp at hz; subst hz; exact ⟨by omega, by omega, ht⟩
  · rintro e s3 ⟨pl, o6, rfl, hpl, hp, hs3⟩
    simp at hpl hs3
    simp -implicitDefEqProofs
    exact k pl _ hpl ⟨by omega, by omega, hp⟩ (hs3.le (by omega))
end
end Law
/-! Plain law of k74, part 12: the next event, and whether it is let. -/
namespace Law
open PySem PySem.Spec PyProof.Rows L2 Rf
theorem mapGet {α β : Type} {f : α → β} {xs : List α} {i : Nat} {x : α} (h : xs[i]? = some x) : (xs.map f)[i]? = some (f x) := by rw [List.getElem?_map, h]; rfl
theorem subP {pl : Plan} {s : Nat} {se : List (List (Bool × Int))} (h : pl[s]? = some se) : subD (plaD pl) (.int s) = some (seD se) := atN (mapGet h)
theorem subS {se : List (List (Bool × Int))} {k : Nat} {t : List (Bool × Int)} (h : se[k]? = some t) : subD (seD se) (.int k) = some (trD t) := atN (mapGet h)
theorem subT {t : List (Bool × Int)} {j : Nat} {p : Bool × Int} (h : t[j]? = some p) : subD (trD t) (.int j) = some (stD p) := atN (mapGet h)
@[simp] theorem len_pla (pl : Plan) : biD .len [plaD pl] = some (.int pl.length) := by simp [plaD]
@[simp] theorem len_se (se : List (List (Bool × Int))) : biD .len [seD se] = some (.int se.length) := by simp [seD]
@[simp] theorem len_tr (t : List (Bool × Int)) : biD .len [trD t] = some (.int t.length) := by simp [trD]
@[simp] theorem seq_pla (pl : Plan) : seqD (plaD pl) = some (pl.map seD) := rfl
@[simp] theorem seq_tr (t : List (Bool × Int)) : seqD (trD t) = some (t.map stD) := rfl
@[simp] theorem st_0 (p : Bool × Int) : subD (stD p) (.int 0) = some (typD p.1) := by simp [stD]
@[simp] theorem st_1 (p : Bool × Int) : subD (stD p) (.int 1) = some (.int p.2) := by simp [stD]
theorem sh_typ (r : Bool) : shaped (typD r) = true := by cases r <;> simp [typD]
@[simp] theorem typ_w (r : Bool) : opD .eq (typD r) (.str "write") = some (.bl (!r)) := by
  rw [o_eqw (sh_typ r)]
  cases r <;> simp [typD]
@[simp] theorem typ_r (r : Bool) : opD .eq (typD r) (.str "read") = some (.bl r) := by
  rw [o_eqr (sh_typ r)]
  cases r <;> simp [typD]
/-- the key of a place in a dict -/
def plK (p : Nat × Nat) : List Key := [.inl p.1, .inl p.2]
theorem plK_inj {p q : Nat × Nat} (h : plK p = plK q) : p = q := by
  unfold plK at h
  simp at h
  exact Prod.ext (by omega) (by omega)
theorem plK_d (p : Nat × Nat) : D.tup ((plK p).map keyD) = plD p := rfl
theorem keysOf_pl (a b : Int) : keysOf [.int a, .int b] = some [.inl a, .inl b] := rfl
def spD (p : Nat × Int) : D := .lst [.int p.1, .int p.2]
def spotsD (sp : List (Nat × Int)) : D := .lst (sp.map spD)
def evD (e : Nat × Nat × Int) : D := .tup [plD (e.1, e.2.1), .int e.2.2]
theorem sub_spots {sp : List (Nat × Int)} {s : Nat} {q : Nat × Int} (h : sp[s]? = some q) : subD (spotsD sp) (.int s) = some (spD q) := atN (mapGet h)
@[simp] theorem sp_0 (p : Nat × Int) : subD (spD p) (.int 0) = some (.int p.1) := by simp [spD]
@[simp] theorem sp_1 (p : Nat × Int) : subD (spD p) (.int 1) = some (.int p.2) := by simp [spD]
@[simp] theorem pl_0 (p : Nat × Nat) : subD (plD p) (.int 0) = some (.int p.1) := by simp [plD]
@[simp] theorem pl_1 (p : Nat × Nat) : subD (plD p) (.int 1) = some (.int p.2) := by simp [plD]
@[simp] theorem pl_ne (p q : Nat × Nat) : opD .ne (plD p) (plD q) = some (.bl (!decide (p = q))) := by
  simp only [plD, o_ne_pair]
  congr 3
  rw [decide_eq_decide]
  constructor
  · rintro ⟨a, b⟩; exact Prod.ext (by omega) (by omega)
  · rintro rfl; exact ⟨rfl, rfl⟩
@[simp] theorem pl_eq (p q : Nat × Nat) : opD .eq (plD p) (plD q) = some (.bl (decide (p = q))) := by
  simp only [plD, o_eq_pair]
  congr 2
  rw [decide_eq_decide]
  constructor
  · rintro ⟨a, b⟩; exact Prod.ext (by omega) (by omega)
  · rintro rfl; exact ⟨rfl, rfl⟩
/-- the keys that a transaction writes -/
def wrP (t : List (Bool × Int)) : List Int := (t.filter fun p => !p.1).map (·.2)
theorem wr_st (p : Bool × Int) : isWr (d0 (stD p)) = !p.1 := by
  obtain ⟨r, k⟩ := p
  cases r <;> simp [stD, typD, d0]
theorem k1_st (p : Bool × Int) : k1 (stD p) = p.2 := rfl
theorem filter_map_st {t : List (Bool × Int)} : ((t.map stD).filter fun d => isWr (d0 d)).map (fun d => D.int (k1 d)) = (wrP t).map .int := by
  simp only [wrP, List.filter_map, List.map_map]
  have e : ((fun d => isWr (d0 d)) ∘ stD) = fun p => !p.1 := by funext p; exact wr_st p
  rw [e]
  rfl
theorem cut_st (t : List (Bool × Int)) (lo hi : Option Int) : ∃ t', slcD (trD t) lo hi = some (trD t') := by
  refine ⟨((t.drop (HT.sIx (t.map stD).length 0 lo)).take (HT.sIx (t.map stD).length (t.map stD).length hi - HT.sIx (t.map stD).length 0 lo)), ?_⟩
  simp only [slcD, Rf.cutD, trD, List.map_take, List.map_drop]
section
variable {n m k b : Nat} {a : Rf.Arg} {s : wld.T}
theorem lc_wr {F : Fs wld} {t : List (Bool × Int)} {e : En} {i : Nat} {own : List Nat} (hb : ∀ d, ∃ e1, bindTg (.one i) d e = some e1 ∧ e1[i]? = some (.dat d)) (hl : t.length < 16777216) : lcLoop own (.one i) (denC F (.yes (.op .eq (.e (.sub (.pk i) (.cst (.int 0)))) (.e (.cst (.str "write")))))) (denE F (.sub (.pk i) (.cst (.int 1)))) e (t.map stD) [] s = .ok ((wrP t).map .int) s := by
  rw [lc_pure (p := fun d => isWr (d0 d)) (g := fun d => .int (k1 d)), List.nil_append, filter_map_st]
  · intro d hd
    obtain ⟨⟨r, k⟩, _, rfl⟩ := List.mem_map.mp hd
    obtain ⟨e1, h1, h2⟩ := hb (stD (r, k))
    refine ⟨e1, h1, ?_, fun _ => ?_⟩
    · simp -implicitDefEqProofs [h2]
      cases r <;> simp [d0, stD, typD]
    · simp -implicitDefEqProofs [h2]
      simp [k1, stD]
  · simp; omega
theorem run23 {a2 : Rf.Arg} {pl : Plan} {sp : List (Nat × Int)} {i : Nat} {se : List (List (Bool × Int))} {q : Nat × Int} (h : a.ok = true) (h2 : a2.ok = true) (hd : a.d = plaD pl) (hd2 : a2.d = spotsD sp) (g : pl[i]? = some se) (g2 : sp[i]? = some q) : G (n + 1) 23 [a, a2, .dat (.int i)] s = .ok (if q.1 = se.length then .non else evD (i, q.1, q.2)) s := by
  rw [G_eq (fd := f23) rfl rfl]
  simp -implicitDefEqProofs [f23, b23, h, h2, hd, hd2, subP g, sub_spots g2]
  by_cases e : q.1 = se.length
  · have e' : (q.1 : Int) = se.length := by omega
    simp -implicitDefEqProofs [e, e']
  · have e' : ¬ (q.1 : Int) = se.length := by omega
    simp -implicitDefEqProofs [e, e', h, h2, hd, hd2, subP g, sub_spots g2]
    rfl
end
end Law
/-! Plain law of k74, part 13: whether an event is let. -/
namespace Law
open PySem PySem.Spec PyProof.Rows L2 Rf
@[simp] theorem shStr_lock : shaped (.str "lock") = true := by decide +kernel
@[simp] theorem shStr_ser : shaped (.str "ser") = true := by decide +kernel
@[simp] theorem shStr_si : shaped (.str "si") = true := by decide +kernel
theorem o_eqS {L M : Str} (h : shaped (.str L) = true) (k : shaped (.str M) = true) : opD .eq (.str L) (.str M) = some (.bl (decide (L = M))) := by
  rw [o_eq h k, eqvD_str]
def ValidP (pl : Plan) (q : Nat × Nat) : Prop := ∃ se t, pl[q.1]? = some se ∧ se[q.2]? = some t ∧ t.length ≤ 12
/-- the live transactions' dict -/
structure LiveOk (pl : Plan) (ks : List (List Key)) (vs : List D) : Prop where
  len : ks.length = vs.length
  key : ∀ k ∈ ks, ∃ q, k = plK q ∧ ValidP pl q
  val : ∀ k v, lookD ks vs k = some v → ∃ n : Int, v = .int n
theorem sub_dt {ks : List (List Key)} {vs : List D} {q : Nat × Nat} {v : D} (h : lookD ks vs (plK q) = some v) : subD (.dt ks vs) (plD q) = some v := by
  unfold plD
  unfold subD getD?
  simp only [keysOf_pl, Option.map_some]
  unfold plK at h
  simp [h]
theorem shaped_ints (W : List Int) : shaped (.lst (W.map .int)) = true := okD_shaped (m := W.length) (n := 1) (by
  simp only [okD, Bool.and_eq_true, decide_eq_true_eq, List.length_map, Nat.le_refl, true_and]
  refine okA_iff.mpr fun x hx => ?_
  obtain ⟨i, _, rfl⟩ := List.mem_map.mp hx
  exact okD_int i) (by omega)
def e24 (a lv c : Rf.Arg) (p : Nat × Nat) (st : Int) (t : List (Bool × Int)) (o7 o8 o9 o10 : Option D) : En := [argSlot a, argSlot lv, argSlot c, .dat (plD p), .dat (.int st), .dat (trD t), .dat (.lst ((wrP t).map .int)), sl o7, sl o8, sl o9, sl o10, .non, .non]
def I24 (a lv c : Rf.Arg) (p : Nat × Nat) (st : Int) (t : List (Bool × Int)) (L : Str) (ks : List (List Key)) (s : wld.T) (i : Nat) (e : En) (s' : wld.T) : Prop := s' = s ∧ (∃ o7 o8 o9 o10, e = e24 a lv c p st t o7 o8 o9 o10) ∧ (L = "ser" → st = -1 → ∀ k ∈ ks.take i, k = plK p)
def P24 (ks : List (List Key)) (p : Nat × Nat) (L : Str) (st : Int) (s : wld.T) (d : D) (s' : wld.T) : Prop := s' = s ∧ ∃ b, d = .bl b ∧ ((∀ k ∈ ks, k = plK p) → b = true) ∧ (b = true → L = "ser" → st = -1 → ∀ k ∈ ks, k = plK p)
theorem in_stT {neg : Bool} {k : Int} {t : List (Bool × Int)} : inD neg (.tup [.str "write", .int k]) (trD t) = some (.bl (neg != decide ((false, k) ∈ t))) := in_st
section
variable {n : Nat} {a lv c : Rf.Arg} {s : wld.T}
theorem run24 {pl : Plan} {L : Str} {ks : List (List Key)} {vs : List D} {p : Nat × Nat} {st : Int} (h : a.ok = true) (h2 : lv.ok = true) (h3 : c.ok = true) (hd : a.d = plaD pl) (hd2 : lv.d = .str L) (hL : shaped (.str L) = true) (hd3 : c.d = .dt ks vs) (ok : LiveOk pl ks vs) (hp : ValidP pl p) : Ok (G (n + 1) 24 [a, lv, c, .dat (plD p), .dat (.int st)] s) (P24 ks p L st s) := by
  rw [G_eq (fd := f24) rfl rfl]
  obtain ⟨se, t, g1, g2, hl⟩ := hp
  have hk : keysD (.dt ks vs) = some (ks.map fun k => .tup (k.map keyD)) := rfl
  have hw := lc_wr (s := s) (F := G n) (t := t) (i := 11) (own := [11]) (e := [argSlot a, argSlot lv, argSlot c, .dat (plD p), .dat (.int st), .dat (trD t), .non, .non, .non, .non, .non, .non, .non]) (fun d => ⟨_, rfl, by simp⟩) (by omega)
  simp -implicitDefEqProofs [f24, b24, h, h2, h3, hd, hd3, subP g1, subS g2, hw, hk]
  refine loop_inv (I24 a lv c p st t L ks s) ⟨rfl, ⟨none, none, none, none, rfl⟩, by simp⟩ ?_ ?_
  · rintro i d e s' hg ⟨rfl, ⟨o7, o8, o9, o10, rfl⟩, hn⟩
    rw [List.getElem?_map] at hg
    cases hki : ks[i]? with
    | none => rw [hki] at hg; cases hg
    | some key =>
      rw [hki] at hg
      cases hg
      have km := List.mem_of_getElem? hki
      obtain ⟨q, rfl, se', t', g1', g2', hl'⟩ := ok.key _ km
      simp only [plK_d]
      refine ⟨_, rfl, ?_⟩
      have good : ∀ o7 o8 o9 o10, (L = "ser" → st = -1 → q = p) → I24 a lv c p st t L ks s' (i + 1) (e24 a lv c p st t o7 o8 o9 o10) s' := fun o7 o8 o9 o10 hh => ⟨rfl, ⟨_, _, _, _, rfl⟩, fun x y k hk' => by
        rw [List.take_succ, hki] at hk'
        rcases List.mem_append.mp hk' with hk' | hk'
        · exact hn x y k hk'
        · simp at hk'; subst hk'; rw [hh x y]⟩
      by_cases e : q = p
      · subst e
        simp -implicitDefEqProofs [e24]
        exact good (some _) _ _ _ fun _ _ => rfl
      · have nall : ¬ ∀ k ∈ ks, k = plK p := fun z => e (plK_inj (z _ km))
        obtain ⟨v, hv⟩ : ∃ v, lookD ks vs (plK q) = some v := Option.isSome_iff_exists.mp ((look_some ok.len).mpr km)
        obtain ⟨nn, rfl⟩ := ok.val _ _ hv
        obtain ⟨tc, hc⟩ := cut_st t' none (some nn)
        have hw' := lc_wr (s := s') (F := G n) (t := t') (i := 11) (own := [11]) (e := [argSlot a, argSlot lv, argSlot c, .dat (plD p), .dat (.int st), .dat (trD t), .dat (.lst ((wrP t).map .int)), .dat (plD q), .dat (trD t'), sl o9, sl o10, .non, .non]) (fun d => ⟨_, rfl, by simp⟩) (by omega)
        have tcl : tc.length ≤ 12 := by
          have : (tc.map stD).length ≤ (t'.map stD).length := by
            have hc' : D.lst (Rf.cutD (t'.map stD) none (some nn)) = .lst (tc.map stD) := by
              simp only [slcD, trD, Option.some.injEq] at hc
              exact hc
            injection hc' with hc'
            rw [← hc']
            unfold Rf.cutD
            rw [List.length_take, List.length_drop]
            omega
          simp at this
          omega
        obtain ⟨H, hH⟩ : ∃ H : List Int, lcLoop [11] (.one 11) (denC (G n) (.yes (.or (.op .eq (.e (.sub (.pk 11) (.cst (.int 0)))) (.e (.cst (.str "write")))) (.op .eq (.pk 1) (.e (.cst (.str "lock"))))))) (denE (G n) (.sub (.pk 11) (.cst (.int 1)))) [argSlot a, argSlot lv, argSlot c, .dat (plD p), .dat (.int st), .dat (trD t), .dat (.lst ((wrP t).map .int)), .dat (plD q), .dat (trD t'), .dat (.lst ((wrP t').map .int)), sl o10, .non, .non] (tc.map stD) [] s' = .ok (H.map .int) s' := by
          refine ⟨((tc.map stD).filter fun d => isWr (d0 d) || decide (L = "lock")).map k1, ?_⟩
          rw [lc_pure (p := fun d => isWr (d0 d) || decide (L = "lock")) (g := fun d => .int (k1 d))]
          · simp [Function.comp_def]
          · intro d hd'
            obtain ⟨x, _, rfl⟩ := List.mem_map.mp hd'
            refine ⟨_, rfl, ?_, fun _ => ?_⟩
            · simp -implicitDefEqProofs [h2, hd2, o_eqS hL, wr_st]
              cases x.1 <;> simp
            · simp -implicitDefEqProofs
              rfl
          · simp; omega
        have hI : ∀ (x9 x10 : Slot), lcLoop [12] (.one 12) (denC (G n) (.yes (.op .inn (.pk 12) (.pk 9)))) (denE (G n) (.var 12)) [argSlot a, argSlot lv, argSlot c, .dat (plD p), .dat (.int st), .dat (trD t), .dat (.lst ((wrP t).map .int)), .dat (plD q), .dat (trD t'), .dat (.lst ((wrP t').map .int)), .dat (.lst (H.map .int)), .non, .non] ((wrP t).map .int) [] s' = .ok (((wrP t).filter fun i => decide (i ∈ wrP t')).map .int) s' := by
          intro _ _
          rw [lc_pure (p := fun d => match d with
            | .int i => decide (i ∈ wrP t')
            | _ => false) (g := fun d => d)]
          · simp [List.filter_map, Function.comp_def]
          · intro d hd'
            obtain ⟨x, _, rfl⟩ := List.mem_map.mp hd'
            refine ⟨_, rfl, ?_, fun _ => ?_⟩
            · simp -implicitDefEqProofs [in_ints]
            · simp -implicitDefEqProofs
          · have : (wrP t).length ≤ t.length := by unfold wrP; rw [List.length_map]; exact List.length_filter_le ..
            simp; omega
        have hI' := hI .non .non
        have no : P24 ks p L st s' (.bl false) s' := ⟨rfl, false, rfl, fun z => absurd z nall, fun z => by cases z⟩
        have shI := shaped_ints ((wrP t).filter fun i => decide (i ∈ wrP t'))
        have q1 := o_eqS hL shStr_ser
        have q2 := o_eqS hL shStr_si
        have q3 := o_eqS hL shStr_lock
        have i1 : decide (L = "ser") = true → L = "ser" := of_decide_eq_true
        generalize decide (L = "ser") = bs at q1 i1
        generalize decide (L = "si") = bi at q2
        generalize decide (L = "lock") = bl at q3
        have hlt : (t.length : Int) < 4611686018427387904 := by omega
        by_cases hst : st = -1
        · subst hst
          cases bs with
          | true =>
            simp -implicitDefEqProofs [e24, e, h, hd, h2, hd2, h3, hd3, subP g1', subS g2', hw', sub_dt hv, hc, hH, hI', hlt, q1]
            exact no
          | false =>
            have gd := fun o7 o8 o9 o10 => good o7 o8 o9 o10 fun x => absurd x (by
              intro z
              rw [z] at q1
              rw [o_eqS shStr_ser shStr_ser] at q1
              simp at q1)
            cases bi with
            | false =>
              simp -implicitDefEqProofs [e24, e, h, hd, h2, hd2, h3, hd3, subP g1', subS g2', hw', sub_dt hv, hc, hH, hI', hlt, q1, q2]
              exact gd (some _) (some _) (some _) (some _)
            | true =>
              have em := o_ne_nil shI
              generalize (((wrP t).filter fun i => decide (i ∈ wrP t')).map D.int).isEmpty = be at em
              cases be with
              | true =>
                simp -implicitDefEqProofs [e24, e, h, hd, h2, hd2, h3, hd3, subP g1', subS g2', hw', sub_dt hv, hc, hH, hI', hlt, q1, q2, em]
                exact gd (some _) (some _) (some _) (some _)
              | false =>
                simp -implicitDefEqProofs [e24, e, h, hd, h2, hd2, h3, hd3, subP g1', subS g2', hw', sub_dt hv, hc, hH, hI', hlt, q1, q2, em]
                exact no
        · have gd := fun o7 o8 o9 o10 => good o7 o8 o9 o10 fun _ x => absurd x hst
          by_cases hr : 0 ≤ st ∧ st < t.length
          · obtain ⟨j, rfl⟩ := Int.eq_ofNat_of_zero_le hr.1
            have jl : j < t.length := by omega
            have g3 : t[j]? = some t[j] := List.getElem?_eq_getElem jl
            have j1 : ¬ (j : Int) = -1 := hst
            cases hty : t[j].1 with
            | true =>
              cases bl with
              | false =>
                simp -implicitDefEqProofs [e24, e, h, hd, h2, hd2, h3, hd3, subP g1', subS g2', hw', sub_dt hv, hc, hH, hI', hlt, q1, q2, q3, j1, hr, subT g3, hty]
                exact gd (some _) (some _) (some _) (some _)
              | true =>
                by_cases hm : (false, t[j].2) ∈ tc
                · simp -implicitDefEqProofs [e24, e, h, hd, h2, hd2, h3, hd3, subP g1', subS g2', hw', sub_dt hv, hc, hH, hI', hlt, q1, q2, q3, j1, hr, subT g3, hty, in_stT, hm]
                  exact no
                · simp -implicitDefEqProofs [e24, e, h, hd, h2, hd2, h3, hd3, subP g1', subS g2', hw', sub_dt hv, hc, hH, hI', hlt, q1, q2, q3, j1, hr, subT g3, hty, in_stT, hm]
                  exact gd (some _) (some _) (some _) (some _)
            | false =>
              by_cases hh : t[j].2 ∈ H
              · simp -implicitDefEqProofs [e24, e, h, hd, h2, hd2, h3, hd3, subP g1', subS g2', hw', sub_dt hv, hc, hH, hI', hlt, q1, q2, q3, j1, hr, subT g3, hty, in_ints, hh]
                exact no
              cases bl with
              | false =>
                simp -implicitDefEqProofs [e24, e, h, hd, h2, hd2, h3, hd3, subP g1', subS g2', hw', sub_dt hv, hc, hH, hI', hlt, q1, q2, q3, j1, hr, subT g3, hty, in_ints, hh]
                exact gd (some _) (some _) (some _) (some _)
              | true =>
                by_cases hm : (false, t[j].2) ∈ tc
                · simp -implicitDefEqProofs [e24, e, h, hd, h2, hd2, h3, hd3, subP g1', subS g2', hw', sub_dt hv, hc, hH, hI', hlt, q1, q2, q3, j1, hr, subT g3, hty, in_ints, hh, in_stT, hm]
                  exact no
                · simp -implicitDefEqProofs [e24, e, h, hd, h2, hd2, h3, hd3, subP g1', subS g2', hw', sub_dt hv, hc, hH, hI', hlt, q1, q2, q3, j1, hr, subT g3, hty, in_ints, hh, in_stT, hm]
                  exact gd (some _) (some _) (some _) (some _)
          · have hr' : decide (0 ≤ st ∧ st < t.length) = false := decide_eq_false hr
            simp -implicitDefEqProofs [e24, e, h, hd, h2, hd2, h3, hd3, subP g1', subS g2', hw', sub_dt hv, hc, hH, hI', hlt, q1, q2, q3, hst, hr]
            exact gd (some _) (some _) (some _) (some _)
  · rintro e s' ⟨rfl, ⟨o7, o8, o9, o10, rfl⟩, hn⟩
    simp -implicitDefEqProofs
    rw [List.take_of_length_le (by simp)] at hn
    exact ⟨rfl, true, rfl, fun _ => rfl, fun _ => hn⟩
end
end Law
/-! Plain law of k74, part 14: a plan with versions. -/
namespace Law
open PySem PySem.Spec PyProof.Rows L2 Rf
def rdK (s k j : Nat) : List Key := [.inl s, .inl k, .inl j]
def hstep (v : D) (p : Bool × Int) : D := if p.1 then .tup [.str "read", .int p.2, v] else .tup [.str "write", .int p.2]
section
variable (ver : Nat → Nat → Nat → D)
def hTr (s k : Nat) (t : List (Bool × Int)) (i : Nat) : List D := (List.range i).map fun j => hstep (ver s k j) (t.getD j (false, 0))
def hSe (s : Nat) (se : List (List (Bool × Int))) (i : Nat) : List D := (List.range i).map fun k => .tup (hTr ver s k (se.getD k []) (se.getD k []).length)
def hPl (pl : Plan) (i : Nat) : List D := (List.range i).map fun s => .tup (hSe ver s (pl.getD s []) (pl.getD s []).length)
end
def histD (ver : Nat → Nat → Nat → D) (pl : Plan) : D := .tup [.str "history", .tup (hPl ver pl pl.length)]
def WritesP (pl : Plan) (q : Nat × Nat) (key : Int) : Prop := ∃ se t, pl[q.1]? = some se ∧ se[q.2]? = some t ∧ (false, key) ∈ t
def GoodV (pl : Plan) (p : Nat × Nat) (key : Int) (v : D) : Prop := v = .non ∨ ∃ q, v = plD q ∧ q ≠ p ∧ WritesP pl q key
def VersOk (pl : Plan) (ver : Nat → Nat → Nat → D) : Prop := ∀ s k j se t p, pl[s]? = some se → se[k]? = some t → t[j]? = some p → GoodV pl (s, k) p.2 (ver s k j)
def toP (d : D) : Bool × Int := (!isWr (d0 d), k1 d)
theorem noRW_p : ∀ {xs : List D} {W : List Int}, noRW W xs = noRWp W (xs.map toP)
  | [], W => rfl
  | x :: xs, W => by
    simp only [noRW, List.map_cons, toP, noRWp, noRW_p (xs := xs)]
    cases isWr (d0 x) <;> rfl
theorem wrK_p {xs : List D} : wrK xs = wrP (xs.map toP) := by
  induction xs with
  | nil => rfl
  | cons x xs ih =>
    unfold wrK wrP at ih ⊢
    simp only [List.map_cons, List.filter_cons]
    cases h : isWr (d0 x)
    · simp only [toP, h]
      simpa using ih
    · simp only [toP, h]
      simp only [List.map_cons, if_true, Bool.not_true, Bool.not_false]
      rw [ih]
theorem mem_wrP {t : List (Bool × Int)} {k : Int} : k ∈ wrP t ↔ (false, k) ∈ t := by
  unfold wrP
  constructor
  · intro h
    obtain ⟨p, hp, rfl⟩ := List.mem_map.mp h
    obtain ⟨h1, h2⟩ := List.mem_filter.mp hp
    obtain ⟨r, k⟩ := p
    cases r
    · exact h1
    · simp at h2
  · intro h
    exact List.mem_map.mpr ⟨_, List.mem_filter.mpr ⟨h, rfl⟩, rfl⟩
theorem getD_of {α : Type} {xs : List α} {i : Nat} {x d : α} (h : xs[i]? = some x) : xs.getD i d = x := by simp [List.getD, h]
theorem toP_hstep (v : D) (p : Bool × Int) : toP (hstep v p) = p := by
  obtain ⟨r, k⟩ := p
  cases r <;> simp [hstep, toP, d0, k1]
theorem hTr_toP {ver : Nat → Nat → Nat → D} {s k : Nat} {t : List (Bool × Int)} : (hTr ver s k t t.length).map toP = t := by
  unfold hTr
  rw [List.map_map]
  apply List.ext_getElem
  · simp
  · intro i h1 h2
    simp [toP_hstep, List.getD, List.getElem?_eq_getElem h2]
theorem mem_hTr {ver : Nat → Nat → Nat → D} {s k : Nat} {t : List (Bool × Int)} {d : D} (h : d ∈ hTr ver s k t t.length) : ∃ j p, t[j]? = some p ∧ d = hstep (ver s k j) p := by
  unfold hTr at h
  obtain ⟨j, hj, rfl⟩ := List.mem_map.mp h
  simp at hj
  exact ⟨j, t[j], List.getElem?_eq_getElem hj, by rw [getD_of (List.getElem?_eq_getElem hj)]⟩
section
variable {ver : Nat → Nat → Nat → D} {pl : Plan}
theorem hPl_get {s : Nat} {se : List (List (Bool × Int))} (h : pl[s]? = some se) : (hPl ver pl pl.length)[s]? = some (.tup (hSe ver s se se.length)) := by
  have l := (List.getElem?_eq_some_iff.mp h).1
  unfold hPl
  rw [List.getElem?_map, List.getElem?_range l]
  simp [h]
theorem hSe_get {s k : Nat} {se : List (List (Bool × Int))} {t : List (Bool × Int)} (h : se[k]? = some t) : (hSe ver s se se.length)[k]? = some (.tup (hTr ver s k t t.length)) := by
  have l := (List.getElem?_eq_some_iff.mp h).1
  unfold hSe
  rw [List.getElem?_map, List.getElem?_range l]
  simp [h]
theorem mem_hPl {x : D} (h : x ∈ hPl ver pl pl.length) : ∃ s se, pl[s]? = some se ∧ x = .tup (hSe ver s se se.length) := by
  unfold hPl at h
  obtain ⟨j, hj, rfl⟩ := List.mem_map.mp h
  simp at hj
  exact ⟨j, pl[j], List.getElem?_eq_getElem hj, by rw [getD_of (List.getElem?_eq_getElem hj)]⟩
theorem mem_hSe {s : Nat} {se : List (List (Bool × Int))} {x : D} (h : x ∈ hSe ver s se se.length) : ∃ k t, se[k]? = some t ∧ x = .tup (hTr ver s k t t.length) := by
  unfold hSe at h
  obtain ⟨j, hj, rfl⟩ := List.mem_map.mp h
  simp at hj
  exact ⟨j, se[j], List.getElem?_eq_getElem hj, by rw [getD_of (List.getElem?_eq_getElem hj)]⟩
theorem isVer_good {p : Nat × Nat} {key : Int} {v : D} (h : GoodV pl p key v) : isVer v = true := by
  rcases h with rfl | ⟨q, rfl, _⟩ <;> rfl
theorem sess_hist (hp : PlanOk pl) (hv : VersOk pl ver) {x : D} (h : x ∈ hPl ver pl pl.length) : sessB x = true := by
  obtain ⟨s, se, g, rfl⟩ := mem_hPl h
  obtain ⟨h1, h8, ht⟩ := hp.2.2 se (List.mem_of_getElem? g)
  have l : (hSe ver s se se.length).length = se.length := by simp [hSe]
  simp only [sessB, l, h8, decide_true, Bool.true_and, List.all_eq_true]
  intro y hy
  obtain ⟨k, t, g2, rfl⟩ := mem_hSe hy
  obtain ⟨t1, t12, tk, tn⟩ := ht t (List.mem_of_getElem? g2)
  have l2 : (hTr ver s k t t.length).length = t.length := by simp [hTr]
  simp only [transB, l2, t1, t12, decide_true, Bool.true_and, noRW_p, hTr_toP, tn, Bool.and_true, List.all_eq_true]
  intro d hd
  obtain ⟨j, ⟨r, key⟩, g3, rfl⟩ := mem_hTr hd
  have hk := tk _ (List.mem_of_getElem? g3)
  have gv := isVer_good (hv s k j se t _ g g2 g3)
  cases r <;> simp [hstep, isStep, isKeyB, gv]
  · exact hk
  · exact hk
theorem hist_good (hp : PlanOk pl) (hv : VersOk pl ver) : histB (histD ver pl) = true := by
  have ll : (hPl ver pl pl.length).length = pl.length := by simp [hPl]
  have hh : isHi (.str "history") = true := by unfold isHi; rw [eqvD_str]; simp
  have hs : ∀ x ∈ hPl ver pl pl.length, sessB x = true := fun x hx => sess_hist hp hv hx
  simp only [histB, histD, hh, ll, hp.1, hp.2.1, decide_true, Bool.true_and, Bool.and_eq_true, List.all_eq_true]
  refine ⟨hs, ?_⟩
  simp only [versB, List.all_eq_true]
  rintro ⟨s, k⟩ hp2 d hd
  obtain ⟨l1, l2⟩ := place_in hp2
  rw [ll] at l1
  have g : pl[s]? = some pl[s] := List.getElem?_eq_getElem l1
  have gd : (hPl ver pl pl.length).getD s .non = .tup (hSe ver s pl[s] pl[s].length) := getD_of (hPl_get g)
  have l2' : k < pl[s].length := by
    have := l2
    simp only [gd, sessLen] at this
    simpa [hSe] using this
  have g2 : pl[s][k]? = some pl[s][k] := List.getElem?_eq_getElem l2'
  have tr : trN (hPl ver pl pl.length) s k = hTr ver s k pl[s][k] pl[s][k].length := by
    unfold trN
    rw [hPl_get g]
    simp only [hSe_get g2]
  simp only [tr] at hd
  obtain ⟨j, ⟨r, key⟩, g3, rfl⟩ := mem_hTr hd
  cases r with
  | false => simp [hstep, verB]
  | true =>
    rcases hv s k j _ _ _ g g2 g3 with e | ⟨q, e, ne, se', t', w1, w2, w3⟩
    · simp only [hstep, e, if_true, verB]
    · have q1 := (List.getElem?_eq_some_iff.mp w1).1
      have gq : (hPl ver pl pl.length).getD q.1 .non = .tup (hSe ver q.1 se' se'.length) := getD_of (hPl_get w1)
      have q2 := (List.getElem?_eq_some_iff.mp w2).1
      have trq : trN (hPl ver pl pl.length) q.1 q.2 = hTr ver q.1 q.2 t' t'.length := by
        unfold trN
        rw [hPl_get w1]
        simp only [hSe_get w2]
      simp only [hstep, e, if_true, plD, verB, Int.toNat_natCast, gq, trq, sessLen, ll, wrK_p, hTr_toP, mem_wrP, w3, decide_true, Bool.and_true, decide_eq_true_eq]
      have lq : (hSe ver q.1 se' se'.length).length = se'.length := by simp [hSe]
      refine ⟨fun ⟨a, b⟩ => ne (Prod.ext (by simp only; omega) (by simp only; omega)), by omega, by omega, by omega, by omega⟩
end
end Law
/-! Plain law of k74, part 15: _law_with_versions. -/
namespace Rf
open PySem PySem.Spec PyProof.Rows L2
def ow : Option D → Slot
  | none => .non
  | some d => .own d
@[simp] theorem setK_ow (e : En) (i : Nat) (s : Slot) (o : Option D) (h : e.map (kill i) = e) : setK e i s (some (ow o)) = e.set i s := by
  cases o with
  | none => rfl
  | some d => show (e.map (kill i)).set i s = _; rw [h]
@[simp] theorem kill_ow (i : Nat) (o : Option D) : kill i (ow o) = ow o := by cases o <;> rfl
@[simp] theorem freezeS_ow (o : Option D) : freezeS (ow o) = sl o := by cases o <;> rfl
theorem ow_some (d : D) : Slot.own d = ow (some d) := rfl
@[simp] theorem ownK_ow (o : Option D) : ownK (some (ow o)) = o := by cases o <;> rfl
@[simp] theorem viewK_ow (e : En) (o : Option D) : viewK e (some (ow o)) = o := by cases o <;> rfl
@[simp] theorem lendK_ow (e : En) (o : Option D) : lendK e (some (ow o)) = o.map .bor := by cases o <;> rfl
@[simp] theorem bi_tupL (xs : List D) : biD .tupOf [.lst xs] = some (.tup xs) := rfl
end Rf
namespace Law
open PySem PySem.Spec PyProof.Rows L2 Rf
def verOf (ks : List (List Key)) (vs : List D) (s k j : Nat) : D := (lookD ks vs (rdK s k j)).getD .non
def VersIn (pl : Plan) (ks : List (List Key)) (vs : List D) : Prop := ∀ s k j se t p, pl[s]? = some se → se[k]? = some t → t[j]? = some p → ∃ v, lookD ks vs (rdK s k j) = some v
theorem sub_dt3 {ks : List (List Key)} {vs : List D} {s k j : Nat} {v : D} (h : lookD ks vs (rdK s k j) = some v) : subD (.dt ks vs) (.tup [.int s, .int k, .int j]) = some v := by
  unfold rdK at h
  simp [subD, getD?, keysOf, keyOf, h]
section
variable (ver : Nat → Nat → Nat → D)
theorem hTr_succ {s k : Nat} {t : List (Bool × Int)} {j : Nat} {p : Bool × Int} (h : t[j]? = some p) : hTr ver s k t (j + 1) = hTr ver s k t j ++ [hstep (ver s k j) p] := by
  unfold hTr
  rw [List.range_succ, List.map_append]
  simp [h]
theorem hSe_succ {s : Nat} {se : List (List (Bool × Int))} {k : Nat} {t : List (Bool × Int)} (h : se[k]? = some t) : hSe ver s se (k + 1) = hSe ver s se k ++ [.tup (hTr ver s k t t.length)] := by
  unfold hSe
  rw [List.range_succ, List.map_append]
  simp [h]
theorem hPl_succ {pl : Plan} {s : Nat} {se : List (List (Bool × Int))} (h : pl[s]? = some se) : hPl ver pl (s + 1) = hPl ver pl s ++ [.tup (hSe ver s se se.length)] := by
  unfold hPl
  rw [List.range_succ, List.map_append]
  simp [h]
end
def e26 (a c : Rf.Arg) (A : List D) (o3 : Option D) (o4 : Option D) (o5 o6 o7 o8 : Option D) : En := [argSlot a, argSlot c, .own (.lst A), sl o3, ow o4, sl o5, ow o6, sl o7, sl o8]
def I26 (a c : Rf.Arg) (ver : Nat → Nat → Nat → D) (pl : Plan) (s : wld.T) (i : Nat) (e : En) (s' : wld.T) : Prop := s' = s ∧ ∃ o3 o4 o5 o6 o7 o8, e = e26 a c (hPl ver pl i) o3 o4 o5 o6 o7 o8
def J26 (a c : Rf.Arg) (ver : Nat → Nat → Nat → D) (A : List D) (i : Nat) (se : List (List (Bool × Int))) (s : wld.T) (k : Nat) (e : En) (s' : wld.T) : Prop := s' = s ∧ ∃ o5 o6 o7 o8, e = e26 a c A (some (.int i)) (some (.lst (hSe ver i se k))) o5 o6 o7 o8
def K26 (a c : Rf.Arg) (ver : Nat → Nat → Nat → D) (A : List D) (i : Nat) (B : List D) (k : Nat) (t : List (Bool × Int)) (s : wld.T) (j : Nat) (e : En) (s' : wld.T) : Prop := s' = s ∧ ∃ o7 o8, e = e26 a c A (some (.int i)) (some (.lst B)) (some (.int k)) (some (.lst (hTr ver i k t j))) o7 o8
theorem hTr_len {ver : Nat → Nat → Nat → D} {s k i : Nat} {t : List (Bool × Int)} : (hTr ver s k t i).length = i := by simp [hTr]
theorem hSe_len {ver : Nat → Nat → Nat → D} {s i : Nat} {se : List (List (Bool × Int))} : (hSe ver s se i).length = i := by simp [hSe]
theorem hPl_len {ver : Nat → Nat → Nat → D} {i : Nat} {pl : Plan} : (hPl ver pl i).length = i := by simp [hPl]
section
variable {n : Nat} {a c : Rf.Arg} {s : wld.T}
theorem run26 {pl : Plan} {ks : List (List Key)} {vs : List D} (h : a.ok = true) (h2 : c.ok = true) (hd : a.d = plaD pl) (hd2 : c.d = .dt ks vs) (hp : PlanOk pl) (hv : VersIn pl ks vs) : G (n + 1) 26 [a, c] s = .ok (histD (verOf ks vs) pl) s := by
  rw [G_eq (fd := f26) rfl rfl]
  apply Ok.eq
  have lp := hp.2.1
  simp -implicitDefEqProofs [f26, b26, h, hd, rng0 (n := pl.length) (by omega)]
  refine loop_inv (I26 a c (verOf ks vs) pl s) ⟨rfl, none, none, none, none, none, none, rfl⟩ ?_ ?_
  · rintro i d e s' hg ⟨rfl, o3, o4, o5, o6, o7, o8, rfl⟩
    obtain ⟨il, rfl⟩ := rng_get hg
    refine ⟨_, rfl, ?_⟩
    have g : pl[i]? = some pl[i] := List.getElem?_eq_getElem il
    obtain ⟨_, h8, ht⟩ := hp.2.2 pl[i] (List.getElem_mem il)
    generalize pl[i] = se at g h8 ht
    simp -implicitDefEqProofs [e26, h, hd, subP g, rng0 (n := se.length) (by omega)]
    refine loop_inv (J26 a c (verOf ks vs) (hPl (verOf ks vs) pl i) i se s') ⟨rfl, o5, o6, o7, o8, rfl⟩ ?_ ?_
    · rintro k d e s'' hg ⟨rfl, o5, o6, o7, o8, rfl⟩
      obtain ⟨kl, rfl⟩ := rng_get hg
      refine ⟨_, rfl, ?_⟩
      have g2 : se[k]? = some se[k] := List.getElem?_eq_getElem kl
      obtain ⟨t1, t12, _⟩ := ht se[k] (List.getElem_mem kl)
      generalize se[k] = t at g2 t1 t12
      simp -implicitDefEqProofs [e26, h, hd, subP g, subS g2, rng0 (n := t.length) (by omega)]
      refine loop_inv (K26 a c (verOf ks vs) (hPl (verOf ks vs) pl i) i (hSe (verOf ks vs) i se k) k t s'') ⟨rfl, o7, o8, rfl⟩ ?_ ?_
      · rintro j d e s3 hg ⟨rfl, o7, o8, rfl⟩
        obtain ⟨jl, rfl⟩ := rng_get hg
        refine ⟨_, rfl, ?_⟩
        have g3 : t[j]? = some t[j] := List.getElem?_eq_getElem jl
        obtain ⟨v, hvv⟩ := hv i k j se t t[j] g g2 g3
        have ev : verOf ks vs i k j = v := by simp [verOf, hvv]
        generalize t[j] = p at g3
        have hs := hTr_succ (verOf ks vs) (s := i) (k := k) g3
        have lz : (hTr (verOf ks vs) i k t j).length < 16777216 := by rw [hTr_len]; omega
        obtain ⟨r, key⟩ := p
        cases r with
        | false =>
          simp -implicitDefEqProofs [e26, h, hd, h2, hd2, subP g, subS g2, subT g3, lz]
          exact ⟨rfl, some _, some _, by rw [hs]; rfl⟩
        | true =>
          have ad : opD .add (stD (true, key)) (.tup [v]) = some (hstep v (true, key)) := by
            simp [stD, typD, hstep]
          simp -implicitDefEqProofs [e26, h, hd, h2, hd2, subP g, subS g2, subT g3, lz, sub_dt3 hvv, ad]
          exact ⟨rfl, some _, some _, by rw [hs, ev]; rfl⟩
      · rintro e s3 ⟨rfl, o7, o8, rfl⟩
        have hs := hSe_succ (verOf ks vs) (s := i) g2
        have lz : (hSe (verOf ks vs) i se k).length < 16777216 := by rw [hSe_len]; omega
        simp -implicitDefEqProofs [e26, lz]
        exact ⟨rfl, some _, some _, o7, o8, by rw [hs]; rfl⟩
    · rintro e s'' ⟨rfl, o5, o6, o7, o8, rfl⟩
      have hs := hPl_succ (verOf ks vs) g
      have lz : (hPl (verOf ks vs) pl i).length < 16777216 := by rw [hPl_len]; omega
      simp -implicitDefEqProofs [e26, lz]
      exact ⟨rfl, some _, some _, o5, o6, o7, o8, by rw [hs]; rfl⟩
  · rintro e s' ⟨rfl, o3, o4, o5, o6, o7, o8, rfl⟩
    simp -implicitDefEqProofs [e26]
    rfl
end
end Law
/-! Plain law of k74, part 16: what holds while a plan is played. -/
namespace Law
open PySem PySem.Spec PyProof.Rows L2 Rf
structure PSt where
  sp : List (Nat × Int)
  lk : List (List Key)
  lv : List D
  ck : List Key
  cv : List D
  vk : List (List Key)
  vv : List D
  rk : List (List Key)
  rv : List D
  run : List D
def sumT (se : List (List (Bool × Int))) : Nat := (se.map fun t => t.length + 2).sum
def remS (se : List (List (Bool × Int))) (q : Nat × Int) : Nat := sumT (se.drop q.1) - (q.2 + 1).toNat
def remP : Plan → List (Nat × Int) → Nat
  | se :: pl, q :: sp => remS se q + remP pl sp
  | _, _ => 0
theorem remP_set : ∀ {pl : Plan} {sp : List (Nat × Int)} {s : Nat} {se : List (List (Bool × Int))} {q q' : Nat × Int}, pl[s]? = some se → sp[s]? = some q → remP pl (sp.set s q') + remS se q = remP pl sp + remS se q'
  | [], _, _, _, _, _, h, _ => by simp at h
  | _ :: _, [], _, _, _, _, _, h => by simp at h
  | se :: pl, q :: sp, 0, _, _, _, h, k => by
    simp at h k
    subst h k
    simp only [List.set_cons_zero, remP]
    omega
  | se :: pl, q :: sp, s + 1, se', q1, q', h, k => by
    have := remP_set (q' := q') (s := s) (by simpa using h) (by simpa using k)
    simp only [List.set_cons_succ, remP]
    omega
theorem remP_ge : ∀ {pl : Plan} {sp : List (Nat × Int)} {s : Nat} {se : List (List (Bool × Int))} {q : Nat × Int}, pl[s]? = some se → sp[s]? = some q → remS se q ≤ remP pl sp
  | [], _, _, _, _, h, _ => by simp at h
  | _ :: _, [], _, _, _, _, h => by simp at h
  | se :: pl, q :: sp, 0, _, _, h, k => by
    simp at h k
    subst h k
    simp only [remP]
    omega
  | se :: pl, q :: sp, s + 1, se', q1, h, k => by
    have := remP_ge (s := s) (by simpa using h) (by simpa using k)
    simp only [remP]
    omega
theorem sumT_drop {se : List (List (Bool × Int))} {k : Nat} {t : List (Bool × Int)} (h : se[k]? = some t) : sumT (se.drop k) = t.length + 2 + sumT (se.drop (k + 1)) := by
  rw [drop_of_get h]
  simp [sumT]
def totalP (pl : Plan) : Nat := (pl.map fun se => se.length * 14).sum
structure PInv (pl : Plan) (L : Str) (i : Nat) (st : PSt) : Prop where
  ll : st.lk.length = st.lv.length
  cl : st.ck.length = st.cv.length
  vl : st.vk.length = st.vv.length
  rl : st.rk.length = st.rv.length
  sz : st.lk.length ≤ i ∧ st.ck.length ≤ 12 * i ∧ st.vk.length ≤ i ∧ st.rk.length ≤ i ∧ st.run.length ≤ i
  sl : st.sp.length = pl.length
  spot : ∀ (s k : Nat) (x : Int), st.sp[s]? = some (k, x) → ∃ se : List (List (Bool × Int)), pl[s]? = some se ∧ ((k = se.length ∧ x = -1) ∨ ∃ t : List (Bool × Int), se[k]? = some t ∧ -1 ≤ x ∧ x ≤ t.length)
  lkey : ∀ key ∈ st.lk, ∃ s k x, key = plK (s, k) ∧ st.sp[s]? = some (k, x) ∧ 0 ≤ x
  lin : ∀ (s k : Nat) (x : Int), st.sp[s]? = some (k, x) → 0 ≤ x → plK (s, k) ∈ st.lk
  lval : ∀ key v, lookD st.lk st.lv key = some v → ∃ n : Int, v = .int n
  view : ∀ (s k : Nat) (x : Int), st.sp[s]? = some (k, x) → 0 ≤ x → ∃ ks vs, lookD st.vk st.vv (plK (s, k)) = some (.dk ks vs) ∧ ks.length = vs.length ∧ ∀ key v, lookD ks vs (.inl key) = some v → ∃ q, v = plD q ∧ q ≠ (s, k) ∧ WritesP pl q key
  comm : ∀ key v, lookD st.ck st.cv (.inl key) = some v → ∃ q k x, v = plD q ∧ WritesP pl q key ∧ st.sp[q.1]? = some (k, x) ∧ q.2 < k
  vers : ∀ (s k : Nat) (x : Int) (k' : Nat) (se : List (List (Bool × Int))) (t : List (Bool × Int)) (j : Nat) (p : Bool × Int), st.sp[s]? = some (k, x) → pl[s]? = some se → se[k']? = some t → t[j]? = some p → (k' < k ∨ (k' = k ∧ (j : Int) < x)) → ∃ v, lookD st.rk st.rv (rdK s k' j) = some v ∧ GoodV pl (s, k') p.2 v
  ser : L = "ser" → ∀ k1 ∈ st.lk, ∀ k2 ∈ st.lk, k1 = k2
  rem : L = "ser" → remP pl st.sp + i ≤ totalP pl
theorem set_look {sp : List (Nat × Int)} {s s' : Nat} {q q0 r : Nat × Int} (h0 : sp[s]? = some q0) (h : (sp.set s q)[s']? = some r) : (s' = s ∧ r = q) ∨ (s' ≠ s ∧ sp[s']? = some r) := by
  have l := (List.getElem?_eq_some_iff.mp h0).1
  by_cases e : s = s'
  · subst e
    rw [List.getElem?_set_self l] at h
    cases h
    exact .inl ⟨rfl, rfl⟩
  · rw [List.getElem?_set_ne e] at h
    exact .inr ⟨Ne.symm e, h⟩
theorem set_at {sp : List (Nat × Int)} {s : Nat} {q q0 : Nat × Int} (h0 : sp[s]? = some q0) : (sp.set s q)[s]? = some q := List.getElem?_set_self (List.getElem?_eq_some_iff.mp h0).1
theorem rdK_inj {s k j s' k' j' : Nat} (h : rdK s k j = rdK s' k' j') : s = s' ∧ k = k' ∧ j = j' := by
  unfold rdK at h
  simp at h
  omega
section
variable {pl : Plan} {L : Str} {i : Nat} {st : PSt} {s k : Nat} {se : List (List (Bool × Int))} {t : List (Bool × Int)}
theorem PInv.begin (I : PInv pl L i st) (hs : st.sp[s]? = some (k, -1)) (g : pl[s]? = some se) (g2 : se[k]? = some t) (hl : L = "ser" → ∀ key ∈ st.lk, key = plK (s, k)) :
    PInv pl L (i + 1) { st with sp := st.sp.set s (k, 0), lk := putKs st.lk (plK (s, k)), lv := putDs st.lk st.lv (plK (s, k)) (.int 0), vk := putKs st.vk (plK (s, k)), vv := putDs st.vk st.vv (plK (s, k)) (.dk st.ck st.cv), run := st.run ++ [.int s] } where
  ll := put_len I.ll
  cl := I.cl
  vl := put_len I.vl
  rl := I.rl
  sz := by
    have h1 := putKs_le (ks := st.lk) (k := plK (s, k))
    have h2 := putKs_le (ks := st.vk) (k := plK (s, k))
    obtain ⟨a, b, c, d, e⟩ := I.sz
    simp only [List.length_append, List.length_cons, List.length_nil]
    omega
  sl := by simp [I.sl]
  spot := fun s' k' x' h => by
    rcases set_look hs h with ⟨rfl, e⟩ | ⟨_, h⟩
    · cases e
      exact ⟨se, g, .inr ⟨t, g2, by omega, by omega⟩⟩
    · exact I.spot _ _ _ h
  lkey := fun key hk => by
    rcases mem_put.mp hk with rfl | hk
    · exact ⟨s, k, 0, rfl, set_at hs, by omega⟩
    · obtain ⟨s', k', x', e, h, hx⟩ := I.lkey key hk
      have ne : s' ≠ s := fun z => by subst z; rw [hs] at h; cases h; omega
      exact ⟨s', k', x', e, by rw [List.getElem?_set_ne (Ne.symm ne)]; exact h, hx⟩
  lin := fun s' k' x' h hx => by
    rcases set_look hs h with ⟨rfl, e⟩ | ⟨_, h⟩
    · cases e; exact mem_put.mpr (.inl rfl)
    · exact mem_put.mpr (.inr (I.lin _ _ _ h hx))
  lval := fun key v h => by
    rw [look_put I.ll] at h
    split at h
    · cases h; exact ⟨_, rfl⟩
    · exact I.lval _ _ h
  view := fun s' k' x' h hx => by
    rcases set_look hs h with ⟨rfl, e⟩ | ⟨ne, h⟩
    · cases e
      refine ⟨st.ck, st.cv, by rw [look_put I.vl, if_pos rfl], I.cl, fun key v hv => ?_⟩
      obtain ⟨q, k1, x1, e, w, hq, lq⟩ := I.comm _ _ hv
      refine ⟨q, e, fun z => ?_, w⟩
      subst z
      rw [hs] at hq
      cases hq
      exact Nat.lt_irrefl _ lq
    · obtain ⟨ks, vs, hv, r⟩ := I.view _ _ _ h hx
      refine ⟨ks, vs, ?_, r⟩
      rw [look_put I.vl, if_neg fun z => ne (by have := plK_inj z; cases this; rfl)]
      exact hv
  comm := fun key v h => by
    obtain ⟨q, k1, x1, e, w, hq, lq⟩ := I.comm _ _ h
    by_cases z : q.1 = s
    · rw [z, hs] at hq
      cases hq
      exact ⟨q, k, 0, e, w, by rw [z]; exact set_at hs, lq⟩
    · exact ⟨q, k1, x1, e, w, by rw [List.getElem?_set_ne (Ne.symm z)]; exact hq, lq⟩
  vers := fun s' k1 x1 k' se' t' j p h a b c d => by
    rcases set_look hs h with ⟨rfl, e⟩ | ⟨ne, h⟩
    · cases e
      exact I.vers s' k (-1) k' se' t' j p hs a b c (d.imp id fun ⟨x, y⟩ => ⟨x, by omega⟩)
    · exact I.vers _ _ _ _ _ _ _ _ h a b c d
  ser := fun l k1 h1 k2 h2 => by
    have al : ∀ key ∈ putKs st.lk (plK (s, k)), key = plK (s, k) := fun key hk => by
      rcases mem_put.mp hk with rfl | hk
      · rfl
      · exact hl l _ hk
    rw [al _ h1, al _ h2]
  rem := fun l => by
    have h1 := I.rem l
    have h2 := remP_set (q' := (k, 0)) g hs
    have h3 := sumT_drop g2
    simp only [remS] at h2
    simp only
    omega
theorem PInv.step (I : PInv pl L i st) {j : Nat} {p : Bool × Int} {v : D} (hs : st.sp[s]? = some (k, (j : Int))) (g : pl[s]? = some se) (g2 : se[k]? = some t) (g3 : t[j]? = some p) (hv : GoodV pl (s, k) p.2 v) :
    PInv pl L (i + 1) { st with sp := st.sp.set s (k, (j : Int) + 1), lk := putKs st.lk (plK (s, k)), lv := putDs st.lk st.lv (plK (s, k)) (.int ((j : Int) + 1)), rk := putKs st.rk (rdK s k j), rv := putDs st.rk st.rv (rdK s k j) v, run := st.run ++ [.int s] } where
  ll := put_len I.ll
  cl := I.cl
  vl := I.vl
  rl := put_len I.rl
  sz := by
    have h1 := putKs_le (ks := st.lk) (k := plK (s, k))
    have h2 := putKs_le (ks := st.rk) (k := rdK s k j)
    obtain ⟨a, b, c, d, e⟩ := I.sz
    simp only [List.length_append, List.length_cons, List.length_nil]
    omega
  sl := by simp [I.sl]
  spot := fun s' k' x' h => by
    have jl := (List.getElem?_eq_some_iff.mp g3).1
    rcases set_look hs h with ⟨rfl, e⟩ | ⟨_, h⟩
    · cases e
      exact ⟨se, g, .inr ⟨t, g2, by omega, by omega⟩⟩
    · exact I.spot _ _ _ h
  lkey := fun key hk => by
    rcases mem_put.mp hk with rfl | hk
    · exact ⟨s, k, _, rfl, set_at hs, by omega⟩
    · obtain ⟨s', k', x', e, h, hx⟩ := I.lkey key hk
      by_cases ne : s' = s
      · subst ne; rw [hs] at h; cases h
        exact ⟨s', k, _, e, set_at hs, by omega⟩
      · exact ⟨s', k', x', e, by rw [List.getElem?_set_ne (Ne.symm ne)]; exact h, hx⟩
  lin := fun s' k' x' h hx => by
    rcases set_look hs h with ⟨rfl, e⟩ | ⟨_, h⟩
    · cases e; exact mem_put.mpr (.inl rfl)
    · exact mem_put.mpr (.inr (I.lin _ _ _ h hx))
  lval := fun key v h => by
    rw [look_put I.ll] at h
    split at h
    · cases h; exact ⟨_, rfl⟩
    · exact I.lval _ _ h
  view := fun s' k' x' h hx => by
    rcases set_look hs h with ⟨rfl, e⟩ | ⟨ne, h⟩
    · cases e
      exact I.view _ _ _ hs (by omega)
    · exact I.view _ _ _ h hx
  comm := fun key v h => by
    obtain ⟨q, k1, x1, e, w, hq, lq⟩ := I.comm _ _ h
    by_cases z : q.1 = s
    · rw [z, hs] at hq
      cases hq
      exact ⟨q, k, _, e, w, by rw [z]; exact set_at hs, lq⟩
    · exact ⟨q, k1, x1, e, w, by rw [List.getElem?_set_ne (Ne.symm z)]; exact hq, lq⟩
  vers := fun s' k1 x1 k' se' t' j' p' h a b c d => by
    rw [look_put I.rl]
    by_cases z : rdK s k j = rdK s' k' j'
    · rw [if_pos z]
      obtain ⟨rfl, rfl, rfl⟩ := rdK_inj z
      rw [g] at a; cases a
      rw [g2] at b; cases b
      rw [g3] at c; cases c
      exact ⟨v, rfl, hv⟩
    · rw [if_neg z]
      rcases set_look hs h with ⟨rfl, e⟩ | ⟨ne, h⟩
      · cases e
        refine I.vers s' k _ k' se' t' j' p' hs a b c (d.imp id fun ⟨x, y⟩ => ⟨x, ?_⟩)
        have : j ≠ j' := fun q => z (by rw [x, q])
        omega
      · exact I.vers _ _ _ _ _ _ _ _ h a b c d
  ser := fun l k1 h1 k2 h2 => by
    have me := I.lin s k _ hs (by omega)
    have al : ∀ key ∈ putKs st.lk (plK (s, k)), key = plK (s, k) := fun key hk => by
      rcases mem_put.mp hk with rfl | hk
      · rfl
      · exact I.ser l _ hk _ me
    rw [al _ h1, al _ h2]
  rem := fun l => by
    have h1 := I.rem l
    have h2 := remP_set (q' := (k, (j : Int) + 1)) g hs
    have h3 := sumT_drop g2
    have jl := (List.getElem?_eq_some_iff.mp g3).1
    simp only [remS] at h2
    simp only
    omega
theorem PInv.commit (I : PInv pl L i st) {ck' : List Key} {cv' : List D} (hs : st.sp[s]? = some (k, (t.length : Int))) (g : pl[s]? = some se) (g2 : se[k]? = some t)
    (hl : ck'.length = cv'.length) (hl2 : ck'.length ≤ st.ck.length + 12) (hc : ∀ key v, lookD ck' cv' (.inl key) = some v → (v = plD (s, k) ∧ (false, key) ∈ t) ∨ lookD st.ck st.cv (.inl key) = some v) :
    PInv pl L (i + 1) { st with sp := st.sp.set s (k + 1, -1), lk := dropKs st.lk (plK (s, k)), lv := dropDs st.lk st.lv (plK (s, k)), ck := ck', cv := cv', run := st.run ++ [.int s] } where
  ll := drop_len I.ll
  cl := hl
  vl := I.vl
  rl := I.rl
  sz := by
    have h1 := dropKs_le (ks := st.lk) (k := plK (s, k))
    obtain ⟨a, b, c, d, e⟩ := I.sz
    simp only [List.length_append, List.length_cons, List.length_nil]
    omega
  sl := by simp [I.sl]
  spot := fun s' k' x' h => by
    rcases set_look hs h with ⟨rfl, e⟩ | ⟨_, h⟩
    · cases e
      have kl := (List.getElem?_eq_some_iff.mp g2).1
      refine ⟨se, g, ?_⟩
      by_cases z : k + 1 = se.length
      · exact .inl ⟨z, rfl⟩
      · have z' : k + 1 < se.length := by omega
        exact .inr ⟨se[k + 1], List.getElem?_eq_getElem z', by omega, by omega⟩
    · exact I.spot _ _ _ h
  lkey := fun key hk => by
    obtain ⟨hk, ne⟩ := mem_drop.mp hk
    obtain ⟨s', k', x', e, h, hx⟩ := I.lkey key hk
    have : s' ≠ s := fun z => by subst z; rw [hs] at h; cases h; exact ne e
    exact ⟨s', k', x', e, by rw [List.getElem?_set_ne (Ne.symm this)]; exact h, hx⟩
  lin := fun s' k' x' h hx => by
    rcases set_look hs h with ⟨rfl, e⟩ | ⟨ne, h⟩
    · cases e; omega
    · exact mem_drop.mpr ⟨I.lin _ _ _ h hx, fun z => ne (by have := plK_inj z; cases this; rfl)⟩
  lval := fun key v h => by
    rw [look_drop I.ll] at h
    split at h
    · cases h
    · exact I.lval _ _ h
  view := fun s' k' x' h hx => by
    rcases set_look hs h with ⟨rfl, e⟩ | ⟨ne, h⟩
    · cases e; omega
    · exact I.view _ _ _ h hx
  comm := fun key v h => by
    rcases hc key v h with ⟨e, m⟩ | h
    · exact ⟨(s, k), k + 1, -1, e, ⟨se, t, g, g2, m⟩, set_at hs, Nat.lt_succ_self k⟩
    · obtain ⟨q, k1, x1, e, w, hq, lq⟩ := I.comm _ _ h
      by_cases z : q.1 = s
      · rw [z, hs] at hq
        cases hq
        exact ⟨q, k + 1, _, e, w, by rw [z]; exact set_at hs, by omega⟩
      · exact ⟨q, k1, x1, e, w, by rw [List.getElem?_set_ne (Ne.symm z)]; exact hq, lq⟩
  vers := fun s' k1 x1 k' se' t' j' p' h a b c d => by
    rcases set_look hs h with ⟨rfl, e⟩ | ⟨ne, h⟩
    · cases e
      refine I.vers s' k _ k' se' t' j' p' hs a b c ?_
      have jl := (List.getElem?_eq_some_iff.mp c).1
      by_cases z : k' = k
      · subst z
        rw [g] at a; cases a
        rw [g2] at b; cases b
        exact .inr ⟨rfl, by omega⟩
      · exact .inl (by omega)
    · exact I.vers _ _ _ _ _ _ _ _ h a b c d
  ser := fun l k1 h1 k2 h2 => I.ser l _ (mem_drop.mp h1).1 _ (mem_drop.mp h2).1
  rem := fun l => by
    have h1 := I.rem l
    have h2 := remP_set (q' := (k + 1, -1)) g hs
    have h3 := sumT_drop g2
    simp only [remS] at h2
    simp only
    omega
end
end Law
/-! Plain law of k74, part 17: the events that are let. -/
namespace Rf
open PySem PySem.Spec PyProof.Rows L2
/-- a name that is data, or goes by what stands at name 5 -/
def al : Option (Option D) → Slot
  | none => .ali 5
  | some o => sl o
@[simp] theorem kill_al (i : Nat) (o : Option (Option D)) (h : i ≠ 5) : kill i (al o) = al o := by
  cases o with
  | none => simp [al, Ne.symm h]
  | some o => exact kill_sl i o
@[simp] theorem aliS_al {w : Wld} (e : En) (s : w.T) (i j : Nat) (d : D) (o : Option (Option D)) : aliS i e j s (some (.own d)) (some (al o)) = .ok (.nxt (e.set i (.ali j))) s := by
  cases o with
  | none => rfl
  | some o => exact aliS_sl e s i j d o
@[simp] theorem setK_al (e : En) (i : Nat) (s : Slot) (o : Option (Option D)) : setK e i s (some (al o)) = e.set i s := by
  cases o with
  | none => rfl
  | some o => exact setK_sl e i s o
@[simp] theorem freezeAll_al (o : Option (Option D)) : ∃ o', freezeS (al o) = sl o' := by
  cases o with
  | none => exact ⟨none, rfl⟩
  | some o => exact ⟨o, freezeS_sl o⟩
end Rf
namespace Law
open PySem PySem.Spec PyProof.Rows L2 Rf
def e25 (a lv : Rf.Arg) (st : PSt) (o9 o10 o11 o12 o13 o14 o15 : Option D) (o16 : Option (Option D)) (o17 : Option D) : En := [.drw, argSlot a, argSlot lv, .own (spotsD st.sp), .own (.dt st.lk st.lv), .own (.dk st.ck st.cv), .own (.dt st.vk st.vv), .own (.dt st.rk st.rv), .own (.lst st.run), sl o9, ow o10, sl o11, sl o12, sl o13, sl o14, sl o15, al o16, sl o17, .non]
def EvGood (pl : Plan) (L : Str) (st : PSt) (e : Nat × Nat × Int) : Prop := st.sp[e.1]? = some e.2 ∧ (∃ se t, pl[e.1]? = some se ∧ se[e.2.1]? = some t ∧ -1 ≤ e.2.2 ∧ e.2.2 ≤ (t.length : Int)) ∧ (L = "ser" → e.2.2 = -1 → ∀ key ∈ st.lk, key = plK (e.1, e.2.1))
def J25 (a lv : Rf.Arg) (pl : Plan) (L : Str) (st : PSt) (o9 o13 o14 o15 : Option D) (o16 : Option (Option D)) (o17 : Option D) (s : wld.T) (i : Nat) (e : En) (s' : wld.T) : Prop := s' = s ∧ ∃ (evs : List (Nat × Nat × Int)) (o11 o12 : Option D), e = e25 a lv st o9 (some (.lst (evs.map evD))) o11 o12 o13 o14 o15 o16 o17 ∧ evs.length ≤ i ∧ (∀ ev ∈ evs, EvGood pl L st ev) ∧ (∀ s0 k x se, s0 < i → st.sp[s0]? = some (k, x) → pl[s0]? = some se → k ≠ se.length → (∀ key ∈ st.lk, key = plK (s0, k)) → evs ≠ [])
theorem ev_0 (e : Nat × Nat × Int) : subD (evD e) (.int 0) = some (plD (e.1, e.2.1)) := by simp [evD]
theorem ev_1 (e : Nat × Nat × Int) : subD (evD e) (.int 1) = some (.int e.2.2) := by simp [evD]
@[simp] theorem isN_ev (e : Nat × Nat × Int) : isN (evD e) = false := rfl
section
variable {n : Nat} {a lv : Rf.Arg} {s : wld.T}
theorem some_run {pl : Plan} {L : Str} {i : Nat} {st : PSt} {o9 o11 o12 o13 o14 o15 : Option D} {o16 : Option (Option D)} {o17 : Option D} {Q : Out → wld.T → Prop} (h : a.ok = true) (h2 : lv.ok = true) (hd : a.d = plaD pl) (hd2 : lv.d = .str L) (hL : shaped (.str L) = true) (hp : PlanOk pl) (I : PInv pl L i st)
    (k : ∀ e, J25 a lv pl L st o9 o13 o14 o15 o16 o17 s pl.length e s → Q (.nxt e) s) :
    Ok (loopFor (.one 11) (denSs (G (n + 1)) (.cons (.asg 12 (.call 23 (.cons (.lend 1) (.cons (.lend 3) (.cons (.lend 11) .nil))))) (.cons (.ite (.and (.op .notN (.pk 12) (.e (.cst .non))) (.call 24 (.cons (.lend 1) (.cons (.lend 2) (.cons (.lend 4) (.cons (.val (.sub (.pk 12) (.cst (.int 0)))) (.cons (.val (.sub (.pk 12) (.cst (.int 1)))) .nil))))))) (.cons (.app 10 (.var 12)) .nil) .nil) .nil)))
      ((List.range pl.length).map fun (k : Nat) => .int k) (e25 a lv st o9 (some (.lst [])) o11 o12 o13 o14 o15 o16 o17) s) Q := by
  have lok : LiveOk pl st.lk st.lv := ⟨I.ll, fun key hk => by
    obtain ⟨s1, k1, x1, e, hs1, hx⟩ := I.lkey key hk
    obtain ⟨se, g, ⟨_, z⟩ | ⟨t, g2, _⟩⟩ := I.spot _ _ _ hs1
    · omega
    · exact ⟨_, e, se, t, g, g2, ((hp.2.2 se (List.mem_of_getElem? g)).2.2 t (List.mem_of_getElem? g2)).2.1⟩, I.lval⟩
  refine loop_inv (J25 a lv pl L st o9 o13 o14 o15 o16 o17 s) ⟨rfl, [], o11, o12, rfl, by simp, by simp, fun s0 _ _ _ z => absurd z (Nat.not_lt_zero _)⟩ ?_ ?_
  · rintro s0 d e s' hg ⟨rfl, evs, o11, o12, rfl, hl, hev, hpr⟩
    obtain ⟨il, rfl⟩ := rng_get hg
    refine ⟨_, rfl, ?_⟩
    have g : pl[s0]? = some pl[s0] := List.getElem?_eq_getElem il
    generalize pl[s0] = se at g
    have sl' : s0 < st.sp.length := by rw [I.sl]; exact il
    have gs : st.sp[s0]? = some st.sp[s0] := List.getElem?_eq_getElem sl'
    generalize hq : st.sp[s0] = q at gs
    obtain ⟨k0, x0⟩ := q
    have r23 := run23 (n := n) (a := a) (a2 := .bor (spotsD st.sp)) (s := s') h rfl hd rfl g gs
    by_cases hk : k0 = se.length
    · simp only [hk, if_true] at r23
      simp -implicitDefEqProofs [e25, h, r23]
      refine ⟨rfl, evs, some _, some _, rfl, by omega, hev, fun s1 k1 x1 se1 l1 w1 w2 ne1 al1 => ?_⟩
      by_cases z : s1 = s0
      · subst z
        rw [gs] at w1; cases w1
        rw [g] at w2; cases w2
        exact absurd hk ne1
      · exact hpr s1 k1 x1 se1 (by omega) w1 w2 ne1 al1
    · simp only [hk, if_false] at r23
      obtain ⟨se', g', ⟨z, _⟩ | ⟨t, g2, x1, x2⟩⟩ := I.spot _ _ _ gs
      · rw [g] at g'; cases g'; exact absurd z hk
      rw [g] at g'; cases g'
      have tl := ((hp.2.2 se (List.mem_of_getElem? g)).2.2 t (List.mem_of_getElem? g2)).2.1
      simp -implicitDefEqProofs [e25, h, h2, r23, ev_0, ev_1]
      obtain ⟨d, s'', e24', rfl, b, rfl, b1, b2⟩ := run24 (n := n) (a := a) (lv := lv) (c := .bor (.dt st.lk st.lv)) (s := s') (p := (s0, k0)) (st := x0) h h2 rfl hd hd2 hL rfl lok ⟨se, t, g, g2, tl⟩
      rw [e24']
      have lz : evs.length < 16777216 := by have := hp.2.1; omega
      cases b with
      | true =>
        simp -implicitDefEqProofs [lz]
        refine ⟨rfl, evs ++ [(s0, k0, x0)], some _, some _, by simp; rfl, by simp; omega, fun ev hev' => ?_, fun _ _ _ _ _ _ _ _ _ => by simp⟩
        rcases List.mem_append.mp hev' with hev' | hev'
        · exact hev ev hev'
        · simp at hev'; subst hev'
          exact ⟨gs, ⟨se, t, g, g2, x1, x2⟩, b2 rfl⟩
      | false =>
        simp -implicitDefEqProofs
        refine ⟨rfl, evs, some _, some _, rfl, by omega, hev, fun s1 k1 x1 se1 l1 w1 w2 ne1 al1 => ?_⟩
        by_cases z : s1 = s0
        · subst z
          rw [gs] at w1; cases w1
          exact absurd (b1 al1) (by simp)
        · exact hpr s1 k1 x1 se1 (by omega) w1 w2 ne1 al1
  · rintro e s' ⟨rfl, evs, o11, o12, rfl, hl, hev, hpr⟩
    simp only [List.length_map, List.length_range] at hl hpr
    exact k _ ⟨rfl, evs, o11, o12, rfl, hl, hev, hpr⟩
end
end Law
/-! Plain law of k74, part 18: a plan is played. -/
namespace Law
open PySem PySem.Spec PyProof.Rows L2 Rf
@[simp] theorem isDict_dt (ks : List (List Key)) (vs : List D) : isDict (.dt ks vs) = true := rfl
theorem put_dt {ks : List (List Key)} {vs : List D} {q : Nat × Nat} {v : D} (h : ks.length < 16777216) : putD (.dt ks vs) (plD q) v = some (.dt (putKs ks (plK q)) (putDs ks vs (plK q) v)) := by
  simp [putD, plD, keysOf, keyOf, plK, h]
theorem put_dt3 {ks : List (List Key)} {vs : List D} {s k j : Nat} {v : D} (h : ks.length < 16777216) : putD (.dt ks vs) (.tup [.int s, .int k, .int j]) v = some (.dt (putKs ks (rdK s k j)) (putDs ks vs (rdK s k j) v)) := by
  simp [putD, keysOf, keyOf, rdK, h]
theorem put_dk {ks : List Key} {vs : List D} {i : Int} {v : D} (h : ks.length < 16777216) : putD (.dk ks vs) (.int i) v = some (.dk (putKs ks (.inl i)) (putDs ks vs (.inl i) v)) := by
  simp [putD, keyOf, h]
theorem put_spots {sp : List (Nat × Int)} {s k : Nat} {x : Int} (h : s < sp.length) : putD (spotsD sp) (.int s) (.lst [.int k, .int x]) = some (spotsD (sp.set s (k, x))) := by
  have h1 : (s : Int) < sp.length := by omega
  simp [putD, spotsD, ixN, h1, List.map_set, spD]
theorem dpop_dt {ks : List (List Key)} {vs : List D} {q : Nat × Nat} (h : ks.length = vs.length) (m : plK q ∈ ks) : dpopD (.dt ks vs) (plD q) = some (.dt (dropKs ks (plK q)) (dropDs ks vs (plK q))) := by
  have : (lookD ks vs (plK q)).isSome = true := (look_some h).mpr m
  unfold plK at this ⊢
  simp [dpopD, plD, keysOf, keyOf, this]
@[simp] theorem bi_dict (ks : List Key) (vs : List D) : biD .dictOf [.dk ks vs] = some (.dk ks vs) := rfl
@[simp] theorem add_pl1 (q : Nat × Nat) (j : Int) : opD .add (plD q) (.tup [.int j]) = some (.tup [.int q.1, .int q.2, .int j]) := by simp [plD]
theorem sub_dk {ks : List Key} {vs : List D} {i : Int} {v : D} (h : lookD ks vs (.inl i) = some v) : subD (.dk ks vs) (.int i) = some v := by simp [subD, getD?, keyOf, h]
def eC (a lv : Rf.Arg) (st : PSt) (ck : List Key) (cv : List D) (lk : List (List Key)) (lw : List D) (run : List D) (o9 o10 o11 o12 : Option D) (q : Nat × Nat) (x : Int) (t : List (Bool × Int)) (o16 : Option (Option D)) (o17 : Option D) : En := [.drw, argSlot a, argSlot lv, .own (spotsD st.sp), .own (.dt lk lw), .own (.dk ck cv), .own (.dt st.vk st.vv), .own (.dt st.rk st.rv), .own (.lst run), sl o9, ow o10, sl o11, sl o12, .dat (plD q), .dat (.int x), .dat (trD t), al o16, sl o17, .non]
def IC (a lv : Rf.Arg) (st : PSt) (lk : List (List Key)) (lw : List D) (run : List D) (o9 o10 o11 o12 : Option D) (q : Nat × Nat) (x : Int) (t : List (Bool × Int)) (o16 : Option (Option D)) (s : wld.T) (i : Nat) (e : En) (s' : wld.T) : Prop := s' = s ∧ ∃ ck cv o17, e = eC a lv st ck cv lk lw run o9 o10 o11 o12 q x t o16 o17 ∧ ck.length = cv.length ∧ ck.length ≤ st.ck.length + i ∧ ∀ key v, lookD ck cv (.inl key) = some v → (v = plD q ∧ (false, key) ∈ t) ∨ lookD st.ck st.cv (.inl key) = some v
section
variable {n : Nat} {a lv : Rf.Arg} {s : wld.T}
theorem commit_run {st : PSt} {lk : List (List Key)} {lw run : List D} {o9 o10 o11 o12 : Option D} {q : Nat × Nat} {x : Int} {t : List (Bool × Int)} {o16 : Option (Option D)} {o17 : Option D} {Q : Out → wld.T → Prop} (hc : st.ck.length = st.cv.length) (hl : st.ck.length + t.length < 16777216)
    (k : ∀ e, IC a lv st lk lw run o9 o10 o11 o12 q x t o16 s t.length e s → Q (.nxt e) s) :
    Ok (loopFor (.one 17) (denSs (G n) (.cons (.ite (.op .eq (.e (.sub (.pk 17) (.cst (.int 0)))) (.e (.cst (.str "write")))) (.cons (.put 5 (.sub (.pk 17) (.cst (.int 1))) (.var 13)) .nil) .nil) .nil)) (t.map stD) (eC a lv st st.ck st.cv lk lw run o9 o10 o11 o12 q x t o16 o17) s) Q := by
  refine loop_inv (IC a lv st lk lw run o9 o10 o11 o12 q x t o16 s) ⟨rfl, st.ck, st.cv, o17, rfl, hc, by simp, fun key v h => .inr h⟩ ?_ ?_
  · rintro i d e s' hg ⟨rfl, ck, cv, o17, rfl, h1, h2, h3⟩
    rw [List.getElem?_map] at hg
    cases hp : t[i]? with
    | none => rw [hp] at hg; cases hg
    | some p =>
      rw [hp] at hg
      cases hg
      have il := (List.getElem?_eq_some_iff.mp hp).1
      refine ⟨_, rfl, ?_⟩
      have lz : ck.length < 16777216 := by omega
      obtain ⟨r, key⟩ := p
      cases r with
      | true =>
        simp -implicitDefEqProofs [eC]
        exact ⟨rfl, ck, cv, some _, rfl, h1, by omega, h3⟩
      | false =>
        simp -implicitDefEqProofs [eC, put_dk lz]
        refine ⟨rfl, _, _, some _, rfl, put_len h1, ?_, fun key' v h => ?_⟩
        · have := putKs_le (ks := ck) (k := (Sum.inl key : Key)); omega
        · rw [look_put h1] at h
          split at h
          · next e =>
            cases h
            cases e
            exact .inl ⟨rfl, List.mem_of_getElem? hp⟩
          · exact h3 _ _ h
  · rintro e s' ⟨rfl, h⟩
    simp only [List.length_map] at h
    exact k _ ⟨rfl, h⟩
end
end Law
/-! Plain law of k74, part 19: one turn of a play. -/
namespace Law
open PySem PySem.Spec PyProof.Rows L2 Rf
def turnB : MSs := (.cons (.unp [13, 14] (.call 12 (.cons (.lend 0) (.cons (.lend 10) .nil)))) (.cons (.par [(15, false), (11, false)] (.cons (.sub (.e (.sub (.pk 1) (.sub (.pk 13) (.cst (.int 0))))) (.sub (.pk 13) (.cst (.int 1)))) (.cons (.sub (.pk 13) (.cst (.int 0))) .nil))) (.cons (.app 8 (.var 11)) (.cons (.ite (.op .eq (.pk 14) (.e (.op .sub (.e (.cst (.int 0))) (.e (.cst (.int 1)))))) (.cons (.put 4 (.var 13) (.cst (.int 0))) (.cons (.put 6 (.var 13) (.bi .dictOf (.cons (.pk 5) .nil))) .nil)) (.cons (.ite (.op .lt (.pk 14) (.e (.bi .len (.cons (.pk 15) .nil)))) (.cons (.put 4 (.var 13) (.op .add (.pk 14) (.e (.cst (.int 1))))) (.cons (.ali 16 (.op .eq (.pk 2) (.e (.cst (.str "si")))) (.sub (.pk 6) (.var 13)) 5) (.cons (.put 7 (.op .add (.pk 13) (.e (.tup (.cons (.var 14) .nil)))) (.ite (.op .inn (.e (.sub (.e (.sub (.pk 15) (.var 14))) (.cst (.int 1)))) (.pk 16)) (.sub (.pk 16) (.sub (.e (.sub (.pk 15) (.var 14))) (.cst (.int 1)))) (.cst .non))) .nil))) (.cons (.dpop 4 (.var 13)) (.cons (.loop (.one 17) (.seq (.pk 15)) (.cons (.ite (.op .eq (.e (.sub (.pk 17) (.cst (.int 0)))) (.e (.cst (.str "write")))) (.cons (.put 5 (.sub (.pk 17) (.cst (.int 1))) (.var 13)) .nil) .nil) .nil)) .nil))) .nil)) (.cons (.put 3 (.var 11) (.ite (.op .lt (.pk 14) (.e (.bi .len (.cons (.pk 15) .nil)))) (.lst (.cons (.sub (.pk 13) (.cst (.int 1))) (.cons (.op .add (.pk 14) (.e (.cst (.int 1)))) .nil))) (.lst (.cons (.op .add (.e (.sub (.pk 13) (.cst (.int 1)))) (.e (.cst (.int 1)))) (.cons (.op .sub (.e (.cst (.int 0))) (.e (.cst (.int 1)))) .nil))))) .nil)))))
def T25 (a lv : Rf.Arg) (pl : Plan) (L : Str) (b : Nat) (i : Nat) (e : En) (s : wld.T) : Prop := ∃ (st : PSt) (o9 o10 o11 o12 o13 o14 o15 : Option D) (o16 : Option (Option D)) (o17 : Option D), e = e25 a lv st o9 o10 o11 o12 o13 o14 o15 o16 o17 ∧ PInv pl L i st ∧ Bud (b - i) s
section
variable {n b : Nat} {a lv : Rf.Arg} {s : wld.T}
theorem turn_run {pl : Plan} {L : Str} {i : Nat} {st : PSt} {o9 o11 o12 o13 o14 o15 : Option D} {o16 : Option (Option D)} {o17 : Option D} {evs : List (Nat × Nat × Int)} {Q : Out → wld.T → Prop} (h : a.ok = true) (h2 : lv.ok = true) (hd : a.d = plaD pl) (hd2 : lv.d = .str L) (hL : shaped (.str L) = true) (hp : PlanOk pl) (I : PInv pl L i st) (hi : i ≤ 1000)
    (hev : ∀ ev ∈ evs, EvGood pl L st ev) (hne : evs ≠ []) (hle : evs.length ≤ 5) (hB : Bud (b - i) s) (hb : i + 1 ≤ b)
    (k : ∀ e s', T25 a lv pl L b (i + 1) e s' → Q (.nxt e) s') :
    Ok (denSs (G (n + 1)) turnB (e25 a lv st o9 (some (.lst (evs.map evD))) o11 o12 o13 o14 o15 o16 o17) s) Q := by
  simp -implicitDefEqProofs [turnB, e25]
  refine run12 (b := b - i) (xs := evs.map evD) rfl rfl hB (by omega) (by simpa using hne) (by simp; omega) fun x hx s1 hs1 => ?_
  obtain ⟨⟨s0, k0, x0⟩, hm, rfl⟩ := List.mem_map.mp hx
  obtain ⟨gs, ⟨se, t, g, g2, x1, x2⟩, hser⟩ := hev _ hm
  simp only at gs g g2 x1 x2 hser
  have tl := ((hp.2.2 se (List.mem_of_getElem? g)).2.2 t (List.mem_of_getElem? g2)).2.1
  obtain ⟨z1, z2, z3, z4, z5⟩ := I.sz
  have lrun : st.run.length < 16777216 := by omega
  have llk : st.lk.length < 16777216 := by omega
  have lvk : st.vk.length < 16777216 := by omega
  have lrk : st.rk.length < 16777216 := by omega
  have lsp := (List.getElem?_eq_some_iff.mp gs).1
  have hs2 : Bud (b - (i + 1)) s1 := hs1.le (by omega)
  have bt : ∀ e : En, bindTg (.many [13, 14]) (evD (s0, k0, x0)) e = some (setS (setS e 13 (.dat (plD (s0, k0)))) 14 (.dat (.int x0))) := fun e => rfl
  by_cases c1 : x0 = -1
  · subst c1
    have tn : -1 < (t.length : Int) := by omega
    simp -implicitDefEqProofs [bt, h, hd, subP g, subS g2, lrun, put_dt llk, put_dt lvk, put_spots lsp, tn]
    exact k _ _ ⟨_, o9, some _, some _, o12, some _, some _, some _, o16, o17, rfl, I.begin gs g g2 fun l => hser l rfl, hs2⟩
  · obtain ⟨j, rfl⟩ := Int.eq_ofNat_of_zero_le (by omega : 0 ≤ x0)
    have c1' : ¬ (j : Int) = -1 := c1
    by_cases c2 : j < t.length
    · have c2' : (j : Int) < t.length := by omega
      have g3 : t[j]? = some t[j] := List.getElem?_eq_getElem c2
      generalize t[j] = p at g3
      by_cases cs : L = "si"
      · have q2 : opD .eq (.str L) (.str "si") = some (.bl true) := by rw [o_eqS hL shStr_si, cs]; simp
        obtain ⟨ks, vs, hv1, hv2, hv3⟩ := I.view _ _ _ gs (by omega)
        have hin : inD false (.int p.2) (.dk ks vs) = some (.bl (inKs (.inl p.2) ks)) := by rw [in_dk hv2]; simp
        cases hk : inKs (Sum.inl p.2 : Key) ks with
        | false =>
          rw [hk] at hin
          simp -implicitDefEqProofs [bt, h, hd, h2, hd2, subP g, subS g2, subT g3, lrun, put_dt llk, put_dt3 lrk, put_spots lsp, c1', c2', q2, sub_dt hv1, hin]
          exact k _ _ ⟨_, o9, some _, some _, o12, some _, some _, some _, some (some _), o17, rfl, I.step gs g g2 g3 (.inl rfl), hs2⟩
        | true =>
          rw [hk] at hin
          obtain ⟨v, hv⟩ : ∃ v, lookD ks vs (.inl p.2) = some v := Option.isSome_iff_exists.mp ((look_some hv2).mpr (inKs_iff.mp hk))
          simp -implicitDefEqProofs [bt, h, hd, h2, hd2, subP g, subS g2, subT g3, lrun, put_dt llk, put_dt3 lrk, put_spots lsp, c1', c2', q2, sub_dt hv1, hin, sub_dk hv]
          obtain ⟨q, e, ne, w⟩ := hv3 _ _ hv
          exact k _ _ ⟨_, o9, some _, some _, o12, some _, some _, some _, some (some _), o17, rfl, I.step gs g g2 g3 (.inr ⟨q, e, ne, w⟩), hs2⟩
      · have q2 : opD .eq (.str L) (.str "si") = some (.bl false) := by rw [o_eqS hL shStr_si, decide_eq_false cs]
        have hin : inD false (.int p.2) (.dk st.ck st.cv) = some (.bl (inKs (.inl p.2) st.ck)) := by rw [in_dk I.cl]; simp
        cases hk : inKs (Sum.inl p.2 : Key) st.ck with
        | false =>
          rw [hk] at hin
          simp -implicitDefEqProofs [bt, h, hd, h2, hd2, subP g, subS g2, subT g3, lrun, put_dt llk, put_dt3 lrk, put_spots lsp, c1', c2', q2, hin]
          exact k _ _ ⟨_, o9, some _, some _, o12, some _, some _, some _, none, o17, rfl, I.step gs g g2 g3 (.inl rfl), hs2⟩
        | true =>
          rw [hk] at hin
          obtain ⟨v, hv⟩ : ∃ v, lookD st.ck st.cv (.inl p.2) = some v := Option.isSome_iff_exists.mp ((look_some I.cl).mpr (inKs_iff.mp hk))
          simp -implicitDefEqProofs [bt, h, hd, h2, hd2, subP g, subS g2, subT g3, lrun, put_dt llk, put_dt3 lrk, put_spots lsp, c1', c2', q2, hin, sub_dk hv]
          obtain ⟨q, k1, x1, e, w, hq, lq⟩ := I.comm _ _ hv
          exact k _ _ ⟨_, o9, some _, some _, o12, some _, some _, some _, none, o17, rfl, I.step gs g g2 g3 (.inr ⟨q, e, fun z => by
            subst z
            rw [gs] at hq
            cases hq
            exact Nat.lt_irrefl _ lq, w⟩), hs2⟩
    · have c3 : j = t.length := by omega
      subst c3
      simp -implicitDefEqProofs [bt, h, hd, h2, hd2, subP g, subS g2, lrun, c1', dpop_dt I.ll (I.lin _ _ _ gs (by omega))]
      refine commit_run (t := t) (o11 := some (.int s0)) I.cl (by omega) fun e he => ?_
      obtain ⟨_, ck, cv, o17, rfl, h1, h2, h3⟩ := he
      simp -implicitDefEqProofs [eC, put_spots lsp]
      have := put_spots (sp := st.sp) (s := s0) (k := k0 + 1) (x := -1) lsp
      simp only [Int.natCast_add, Int.natCast_one] at this
      simp -implicitDefEqProofs [this]
      exact k _ _ ⟨_, o9, some _, some _, o12, some _, some _, some _, o16, o17, rfl, I.commit gs g g2 h1 (by omega) h3, hs2⟩
end
end Law
/-! Plain law of k74, part 20: _law_played. -/
namespace Law
open PySem PySem.Spec PyProof.Rows L2 Rf
@[simp] theorem o_mulI {i j : Int} (h : -(2 ^ 64) < j ∧ j < 2 ^ 64) : opD .mul (.int i) (.int j) = some (.int (i * j)) := by
  simp only [opD, mulD]
  rw [if_pos (.inr h)]
theorem bi_sumI (xs : List Int) : biD .sum [.lst (xs.map .int)] = some (.int xs.sum) := by
  have : intsOf (xs.map .int) = some xs := by
    induction xs with
    | nil => rfl
    | cons x xs ih => simp [intsOf, ih]
  simp [biD, this]
def sp0 (pl : Plan) : List (Nat × Int) := pl.map fun _ => (0, -1)
def st0 (pl : Plan) : PSt := ⟨sp0 pl, [], [], [], [], [], [], [], [], []⟩
theorem sumT_le : ∀ {se : List (List (Bool × Int))}, (∀ t ∈ se, t.length ≤ 12) → sumT se ≤ se.length * 14
  | [], _ => by simp [sumT]
  | t :: se, h => by
    have := sumT_le (se := se) fun t ht => h t (by simp [ht])
    have h1 := h t (by simp)
    simp only [sumT, List.map_cons, List.sum_cons, List.length_cons] at this ⊢
    omega
theorem rem0 : ∀ {pl : Plan}, (∀ s ∈ pl, ∀ t ∈ s, t.length ≤ 12) → remP pl (sp0 pl) ≤ totalP pl
  | [], _ => by simp [remP]
  | se :: pl, h => by
    have := rem0 (pl := pl) fun s hs => h s (by simp [hs])
    have h1 := sumT_le (h se (by simp))
    simp only [sp0, totalP, List.map_cons, List.sum_cons, remP, remS, List.drop_zero] at this ⊢
    simp
    omega
theorem total_le {pl : Plan} (hp : PlanOk pl) : totalP pl ≤ 560 := by
  have : ∀ {ql : Plan}, (∀ s ∈ ql, s.length ≤ 8) → totalP ql ≤ ql.length * 112 := fun {ql} => by
    induction ql with
    | nil => intro _; simp [totalP]
    | cons s ql ih =>
      intro h
      have h1 := h s (by simp)
      have h2 := ih fun s hs => h s (by simp [hs])
      simp only [totalP, List.map_cons, List.sum_cons, List.length_cons] at h2 ⊢
      omega
  have h1 := this fun s hs => (hp.2.2 s hs).2.1
  have := hp.2.1
  omega
theorem sp0_get {pl : Plan} {s k : Nat} {x : Int} (h : (sp0 pl)[s]? = some (k, x)) : k = 0 ∧ x = -1 ∧ ∃ se, pl[s]? = some se := by
  unfold sp0 at h
  rw [List.getElem?_map] at h
  cases hs : pl[s]? with
  | none => rw [hs] at h; cases h
  | some se => rw [hs] at h; cases h; exact ⟨rfl, rfl, se, rfl⟩
theorem inv0 {pl : Plan} {L : Str} (hp : PlanOk pl) : PInv pl L 0 (st0 pl) where
  ll := rfl
  cl := rfl
  vl := rfl
  rl := rfl
  sz := by simp [st0]
  sl := by simp [st0, sp0]
  spot := fun s k x h => by
    obtain ⟨rfl, rfl, se, g⟩ := sp0_get h
    have := (hp.2.2 se (List.mem_of_getElem? g)).1
    exact ⟨se, g, .inr ⟨se[0], List.getElem?_eq_getElem (by omega), by omega, by omega⟩⟩
  lkey := fun key h => by cases h
  lin := fun s k x h hx => by obtain ⟨rfl, rfl, _⟩ := sp0_get h; omega
  lval := fun key v h => by simp [st0, lookD] at h
  view := fun s k x h hx => by obtain ⟨rfl, rfl, _⟩ := sp0_get h; omega
  comm := fun key v h => by simp [st0, lookD] at h
  vers := fun s k x k' se t j p h _ _ _ z => by obtain ⟨rfl, rfl, _⟩ := sp0_get h; omega
  ser := fun _ k1 h => by cases h
  rem := fun _ => rem0 fun s hs t ht => ((hp.2.2 s hs).2.2 t ht).2.1
def DoneP (pl : Plan) (sp : List (Nat × Int)) : Prop := ∀ (s k : Nat) (x : Int) (se : List (List (Bool × Int))), sp[s]? = some (k, x) → pl[s]? = some se → k = se.length
section
variable {pl : Plan} {L : Str} {i : Nat} {st : PSt}
theorem done_of_rem (I : PInv pl L i st) (h : remP pl st.sp = 0) : DoneP pl st.sp := fun s k x se h1 h2 => by
  have h3 := remP_ge h2 h1
  obtain ⟨se', g, ⟨z, _⟩ | ⟨t, g2, x1, x2⟩⟩ := I.spot _ _ _ h1
  · rw [h2] at g; cases g; exact z
  · rw [h2] at g; cases g
    have := sumT_drop g2
    simp only [remS] at h3
    omega
theorem done_of_none (I : PInv pl L i st) (l : L = "ser") (h : ∀ s0 k x se, s0 < pl.length → st.sp[s0]? = some (k, x) → pl[s0]? = some se → k ≠ se.length → (∀ key ∈ st.lk, key = plK (s0, k)) → False) : DoneP pl st.sp := fun s k x se h1 h2 => by
  apply Classical.byContradiction
  intro ne
  have sl := (List.getElem?_eq_some_iff.mp h2).1
  cases hk : st.lk with
  | nil => exact h s k x se sl h1 h2 ne (by rw [hk]; simp)
  | cons key r =>
    have km : key ∈ st.lk := by rw [hk]; simp
    obtain ⟨s1, k1, x1, e, w, w2⟩ := I.lkey key km
    obtain ⟨se', g, ⟨_, z⟩ | ⟨t, g2, _, _⟩⟩ := I.spot _ _ _ w
    · omega
    · have kl := (List.getElem?_eq_some_iff.mp g2).1
      exact h s1 k1 x1 se' (List.getElem?_eq_some_iff.mp g).1 w g (by omega) fun key' h' => by rw [← e]; exact I.ser l _ h' _ km
theorem vers_of_done (I : PInv pl L i st) (d : DoneP pl st.sp) : VersIn pl st.rk st.rv ∧ VersOk pl (verOf st.rk st.rv) := by
  have key : ∀ s k j se t p, pl[s]? = some se → se[k]? = some t → t[j]? = some p → ∃ v, lookD st.rk st.rv (rdK s k j) = some v ∧ GoodV pl (s, k) p.2 v := fun s k j se t p g g2 g3 => by
    have sl := (List.getElem?_eq_some_iff.mp g).1
    have sl' : s < st.sp.length := by rw [I.sl]; exact sl
    have gs : st.sp[s]? = some st.sp[s] := List.getElem?_eq_getElem sl'
    generalize st.sp[s] = q at gs
    obtain ⟨k', x⟩ := q
    have e := d _ _ _ _ gs g
    have kl := (List.getElem?_eq_some_iff.mp g2).1
    exact I.vers s k' x k se t j p gs g g2 g3 (.inl (by omega))
  refine ⟨fun s k j se t p g g2 g3 => let ⟨v, h, _⟩ := key s k j se t p g g2 g3; ⟨v, h⟩, fun s k j se t p g g2 g3 => ?_⟩
  obtain ⟨v, h, gv⟩ := key s k j se t p g g2 g3
  simpa [verOf, h] using gv
end
def Post25 (pl : Plan) (L : Str) (d : D) : Prop := (d = .non ∧ L ≠ "ser") ∨ ∃ ver run, VersOk pl ver ∧ d = .tup [histD ver pl, .tup run]
def F25 (a lv : Rf.Arg) (pl : Plan) (L : Str) (b : Nat) (e : En) (s : wld.T) : Prop := ∃ (st : PSt) (i : Nat) (o9 o10 o11 o12 o13 o14 o15 : Option D) (o16 : Option (Option D)) (o17 : Option D), e = e25 a lv st o9 o10 o11 o12 o13 o14 o15 o16 o17 ∧ PInv pl L i st ∧ Bud (b - 600) s ∧ (L = "ser" → DoneP pl st.sp)
section
variable {n b : Nat} {a lv : Rf.Arg} {s : wld.T}
theorem played_loop {pl : Plan} {L : Str} {Q : Out → wld.T → Prop} (h : a.ok = true) (h2 : lv.ok = true) (hd : a.d = plaD pl) (hd2 : lv.d = .str L) (hL : shaped (.str L) = true) (hp : PlanOk pl) (hB : Bud b s) (hb : 600 ≤ b)
    (k : ∀ e s', F25 a lv pl L b e s' → Q (.nxt e) s') :
    Ok (loopFor (.one 9) (denSs (G (n + 1)) (.cons (.new 10 (.lst .nil)) (.cons (.loop (.one 11) (.rng (.cst (.int 0)) (.bi .len (.cons (.pk 1) .nil))) (.cons (.asg 12 (.call 23 (.cons (.lend 1) (.cons (.lend 3) (.cons (.lend 11) .nil))))) (.cons (.ite (.and (.op .notN (.pk 12) (.e (.cst .non))) (.call 24 (.cons (.lend 1) (.cons (.lend 2) (.cons (.lend 4) (.cons (.val (.sub (.pk 12) (.cst (.int 0)))) (.cons (.val (.sub (.pk 12) (.cst (.int 1)))) .nil))))))) (.cons (.app 10 (.var 12)) .nil) .nil) .nil))) (.cons (.ite (.op .eq (.pk 10) (.e (.lst .nil))) (.cons .brk .nil) .nil) turnB))))
      ((List.range (totalP pl)).map fun (k : Nat) => .int k) (e25 a lv (st0 pl) none none none none none none none (some none) none) s) Q := by
  have tot := total_le hp
  refine loop_inv (T25 a lv pl L b) ⟨_, _, _, _, _, _, _, _, _, _, rfl, inv0 hp, hB⟩ ?_ ?_
  · rintro i d e s1 hg ⟨st, o9, o10, o11, o12, o13, o14, o15, o16, o17, rfl, I, hs1⟩
    obtain ⟨il, rfl⟩ := rng_get hg
    refine ⟨_, rfl, ?_⟩
    have e1 : setS (e25 a lv st o9 o10 o11 o12 o13 o14 o15 o16 o17) 9 (.dat (.int i)) = e25 a lv st (some (.int i)) o10 o11 o12 o13 o14 o15 o16 o17 := by simp [e25]; rfl
    rw [e1]
    have e2 : setS (e25 a lv st (some (.int i)) o10 o11 o12 o13 o14 o15 o16 o17) 10 (.own (.lst [])) = e25 a lv st (some (.int i)) (some (.lst [])) o11 o12 o13 o14 o15 o16 o17 := by simp [e25]; rfl
    have l5 := hp.2.1
    rw [xSs_cons, xS_new, xE_lst, xEs_nil, Rs.bind_ok]
    rw [if_pos (by decide), Rs.bind_ok, e2, Rs.bind_ok, sqK_nxt, xSs_cons, xS_loop]
    have e3 : denI (G (n + 1)) (.rng (.cst (.int 0)) (.bi .len (.cons (.pk 1) .nil))) (e25 a lv st (some (.int i)) (some (.lst [])) o11 o12 o13 o14 o15 o16 o17) s1 = .ok ((List.range pl.length).map fun (k : Nat) => .int k) s1 := by simp -implicitDefEqProofs [e25, h, hd, rng0 (n := pl.length) (by omega)]
    rw [loopOk_rng, if_pos rfl, e3, Rs.bind_ok, Ok_bind, Ok_calmIf]
    refine some_run h h2 hd hd2 hL hp I fun e he => ?_
    obtain ⟨_, evs, o11, o12, rfl, hl, hev, hpr⟩ := he
    rw [sqK_nxt, xSs_cons]
    have sh : shaped (.lst (evs.map evD)) = true := okD_shaped (m := 5) (n := 3) (by
      simp only [okD, Bool.and_eq_true, decide_eq_true_eq, List.length_map]
      refine ⟨by omega, okA_iff.mpr fun x hx' => ?_⟩
      obtain ⟨ev, _, rfl⟩ := List.mem_map.mp hx'
      simp [evD, plD, okD, okA, okD_int]) (by omega)
    have oe : opD .eq (.lst (evs.map evD)) (.lst []) = some (.bl (evs.map evD).isEmpty) := by
      rw [o_eq sh shaped_lst_bl]
      cases evs.map evD <;> simp [eqvD, toPy, toPyA, PyData.eqv, PyData.eqvAll]
    by_cases hne : evs = []
    · subst hne
      simp -implicitDefEqProofs [e25, oe]
      have := oe
      simp only [List.map_nil, List.isEmpty_nil] at this
      simp -implicitDefEqProofs [this]
      exact k _ _ ⟨st, i, some _, some _, o11, o12, o13, o14, o15, o16, o17, rfl, I, hs1.le (by omega), fun l => done_of_none I l fun s0 k0 x se a1 a2 a3 a4 a5 => hpr s0 k0 x se a1 a2 a3 a4 a5 rfl⟩
    · have ie : (evs.map evD).isEmpty = false := by simpa using hne
      rw [ie] at oe
      have e4 : denS (G (n + 1)) (.ite (.op .eq (.pk 10) (.e (.lst .nil))) (.cons .brk .nil) .nil) (e25 a lv st (some (.int i)) (some (.lst (evs.map evD))) o11 o12 o13 o14 o15 o16 o17) s1 = .ok (.nxt (e25 a lv st (some (.int i)) (some (.lst (evs.map evD))) o11 o12 o13 o14 o15 o16 o17)) s1 := by
        simp -implicitDefEqProofs [e25, oe]
      rw [e4, Rs.bind_ok, sqK_nxt]
      refine turn_run h h2 hd hd2 hL hp I (by omega) hev hne (by omega) hs1 (by omega) fun e s' ht => ht
  · rintro e s1 ⟨st, o9, o10, o11, o12, o13, o14, o15, o16, o17, rfl, I, hs1⟩
    simp only [List.length_map, List.length_range] at I hs1
    exact k _ _ ⟨st, _, o9, o10, o11, o12, o13, o14, o15, o16, o17, rfl, I, hs1.le (by omega), fun l => done_of_rem I (by have := I.rem l; omega)⟩
end
end Law
/-! Plain law of k74, part 21: _law_played and _law_a_game. -/
namespace Law
open PySem PySem.Spec PyProof.Rows L2 Rf
def sessM (d : D) : D := match d with
  | .lst xs => .int (xs.length * 14)
  | _ => .non
theorem total_int (pl : Plan) : ((pl.map fun se => (se.length : Int) * 14).sum) = (totalP pl : Int) := by
  induction pl with
  | nil => rfl
  | cons se pl ih => simp only [List.map_cons, List.sum_cons, ih, totalP]; omega
section
variable {n b : Nat} {a lv : Rf.Arg} {s : wld.T}
theorem run25 {pl : Plan} {L : Str} {Q : D → wld.T → Prop} (h : a.ok = true) (h2 : lv.ok = true) (hd : a.d = plaD pl) (hd2 : lv.d = .str L) (hL : shaped (.str L) = true) (hp : PlanOk pl) (hB : Bud b s) (hb : 600 ≤ b)
    (k : ∀ d s', Post25 pl L d → Bud (b - 600) s' → Q d s') : Ok (G (n + 2) 25 [.drw, a, lv] s) Q := by
  rw [G_eq (fd := f25) rfl rfl]
  have l5 := hp.2.1
  have e0 : denS (G (n + 1)) (.par [(3, true), (4, true), (5, true), (6, true), (7, true), (8, true)] (.cons (.lc (.one 18) [18] (.seq (.pk 1)) .no (.lst (.cons (.cst (.int 0)) (.cons (.op .sub (.e (.cst (.int 0))) (.e (.cst (.int 1)))) .nil)))) (.cons .dt0 (.cons .dk0 (.cons .dt0 (.cons .dt0 (.cons (.lst .nil) .nil))))))) (startE f25 [.drw, a, lv]) s = .ok (.nxt (e25 a lv (st0 pl) none none none none none none none (some none) none)) s := by
    have hc : lcLoop [18] (.one 18) (denC (G (n + 1)) .no) (denE (G (n + 1)) (.lst (.cons (.cst (.int 0)) (.cons (.op .sub (.e (.cst (.int 0))) (.e (.cst (.int 1)))) .nil)))) [.drw, argSlot a, argSlot lv, .non, .non, .non, .non, .non, .non, .non, .non, .non, .non, .non, .non, .non, .non, .non, .non] (pl.map seD) [] s = .ok ((sp0 pl).map spD) s := by
      rw [lc_pure (p := fun _ => true) (g := fun _ => spD (0, -1))]
      · simp [sp0, Function.comp_def]
      · intro d hd'
        refine ⟨_, rfl, by simp, fun _ => ?_⟩
        simp -implicitDefEqProofs
        rfl
      · simp; omega
    simp -implicitDefEqProofs [f25, h, hd, hc]
    rfl
  have e1 : denI (G (n + 1)) (.rng (.cst (.int 0)) (.bi .sum (.cons (.e (.lc (.one 18) [18] (.seq (.pk 1)) .no (.op .mul (.e (.bi .len (.cons (.pk 18) .nil))) (.e (.cst (.int 14)))))) .nil))) (e25 a lv (st0 pl) none none none none none none none (some none) none) s = .ok ((List.range (totalP pl)).map fun (k : Nat) => .int k) s := by
    have hc : lcLoop [18] (.one 18) (denC (G (n + 1)) .no) (denE (G (n + 1)) (.op .mul (.e (.bi .len (.cons (.pk 18) .nil))) (.e (.cst (.int 14))))) (e25 a lv (st0 pl) none none none none none none none (some none) none) (pl.map seD) [] s = .ok ((pl.map fun se => (se.length : Int) * 14).map .int) s := by
      rw [lc_pure (p := fun _ => true) (g := sessM)]
      · simp [Function.comp_def, sessM, seD]
      · intro d hd'
        obtain ⟨se, _, rfl⟩ := List.mem_map.mp hd'
        refine ⟨_, rfl, by simp, fun _ => ?_⟩
        simp -implicitDefEqProofs [e25]
        simp [sessM, seD]
      · simp; omega
    have tot := total_le hp
    have w : wipeE (e25 a lv (st0 pl) none none none none none none none (some none) none) [18] = some (e25 a lv (st0 pl) none none none none none none none (some none) none) := by simp [e25]
    have v : denV (G (n + 1)) (.pk 1) (e25 a lv (st0 pl) none none none none none none none (some none) none) s = .ok (plaD pl) s := by simp -implicitDefEqProofs [e25, h, hd]
    simp -implicitDefEqProofs only [xI_rng, xE_bi, xVs_cons, xVs_nil, xV_e, xE_lc, xI_seq, v, Rs.bind_ok, Rs.lift_some, seq_pla, w, lcK_some, hc, xE_cst]
    rw [bi_sumI, total_int]
    simp -implicitDefEqProofs only [Rs.bind_ok, Rs.lift_some, rng0 (n := totalP pl) (by omega)]
  show Ok ((denSs (G (n + 1)) b25 (startE f25 [.drw, a, lv]) s).bind outK) Q
  unfold b25
  rw [xSs_cons, e0, Rs.bind_ok, sqK_nxt, xSs_cons, xS_loop, loopOk_rng, if_pos rfl, e1, Rs.bind_ok]
  simp only [Ok_bind, Ok_calmIf]
  refine played_loop h h2 hd hd2 hL hp hB hb fun e s1 he => ?_
  obtain ⟨st, i, o9, o10, o11, o12, o13, o14, o15, o16, o17, rfl, I, hs1, hdone⟩ := he
  have sp : ∀ s0, s0 < pl.length → ∃ k x se, st.sp[s0]? = some (k, x) ∧ pl[s0]? = some se := fun s0 l => by
    have l' : s0 < st.sp.length := by rw [I.sl]; exact l
    exact ⟨st.sp[s0].1, st.sp[s0].2, pl[s0], List.getElem?_eq_getElem l', List.getElem?_eq_getElem l⟩
  have hc : lcLoop [11] (.one 11) (denC (G (n + 1)) (.yes (.op .lt (.e (.sub (.e (.sub (.pk 3) (.var 11))) (.cst (.int 0)))) (.e (.bi .len (.cons (.e (.sub (.pk 1) (.var 11))) .nil)))))) (denE (G (n + 1)) (.var 11)) ((e25 a lv st o9 o10 none o12 o13 o14 o15 o16 o17)) ((List.range pl.length).map fun (k : Nat) => .int k) [] s1 = .ok (((List.range pl.length).filter fun s0 => decide ((st.sp.getD s0 (0, 0)).1 < (pl.getD s0 []).length)).map fun (k : Nat) => .int k) s1 := by
    rw [lc_pure (p := fun d => match d with
      | .int i => decide ((st.sp.getD i.toNat (0, 0)).1 < (pl.getD i.toNat []).length)
      | _ => false) (g := fun d => d)]
    · simp [List.filter_map, Function.comp_def]
    · intro d hd'
      obtain ⟨j, hj, rfl⟩ := List.mem_map.mp hd'
      simp at hj
      obtain ⟨k1, x1, se, w1, w2⟩ := sp j hj
      refine ⟨_, rfl, ?_, fun _ => ?_⟩
      · simp -implicitDefEqProofs [e25, h, hd, sub_spots w1, subP w2]
        simp [w1, w2]
      · simp -implicitDefEqProofs [e25]
    · simp; omega
  have w : wipeE (e25 a lv st o9 o10 o11 o12 o13 o14 o15 o16 o17) [11] = some (e25 a lv st o9 o10 none o12 o13 o14 o15 o16 o17) := by simp [e25]; rfl
  have v : denI (G (n + 1)) (.rng (.cst (.int 0)) (.bi .len (.cons (.pk 1) .nil))) (e25 a lv st o9 o10 o11 o12 o13 o14 o15 o16 o17) s1 = .ok ((List.range pl.length).map fun (k : Nat) => .int k) s1 := by simp -implicitDefEqProofs [e25, h, hd, rng0 (n := pl.length) (by omega)]
  rw [sqK_nxt, xSs_cons, xS_ite, xE_op, xV_e, xE_lc, v, Rs.bind_ok, w, lcK_some, hc]
  generalize hl : ((List.range pl.length).filter fun s0 => decide ((st.sp.getD s0 (0, 0)).1 < (pl.getD s0 []).length)) = left
  have ml : ∀ s0, s0 ∈ left ↔ s0 < pl.length ∧ (st.sp.getD s0 (0, 0)).1 < (pl.getD s0 []).length := fun s0 => by
    rw [← hl]; simp
  have sh : shaped (.lst (left.map fun (k : Nat) => D.int k)) = true := by
    have := shaped_ints (left.map fun (k : Nat) => (k : Int))
    simpa [Function.comp_def] using this
  have on := o_ne_nil sh
  by_cases hle : left = []
  · have dn : DoneP pl st.sp := fun s0 k x se h1 h2 => by
      have l1 := (List.getElem?_eq_some_iff.mp h2).1
      have nm : s0 ∉ left := by rw [hle]; simp
      rw [ml] at nm
      rw [getD_of h1, getD_of h2] at nm
      obtain ⟨se', g, ⟨z, _⟩ | ⟨t, g2, _, _⟩⟩ := I.spot _ _ _ h1
      · rw [h2] at g; cases g; exact z
      · rw [h2] at g; cases g
        have kl := (List.getElem?_eq_some_iff.mp g2).1
        exact absurd ⟨l1, kl⟩ nm
    obtain ⟨vi, vo⟩ := vers_of_done I dn
    have ie : (left.map fun (k : Nat) => D.int k).isEmpty = true := by rw [hle]; rfl
    rw [ie] at on
    have r26 := run26 (n := n) (a := a) (c := .dat (.dt st.rk st.rv)) (s := s1) h rfl hd rfl hp vi
    simp -implicitDefEqProofs [on, e25, h, r26]
    exact k _ _ (.inr ⟨_, _, vo, rfl⟩) hs1
  · have ie : (left.map fun (k : Nat) => D.int k).isEmpty = false := by simpa using hle
    rw [ie] at on
    simp -implicitDefEqProofs [on, e25]
    refine k _ _ (.inl ⟨rfl, fun l => hle ?_⟩) hs1
    apply List.eq_nil_iff_forall_not_mem.mpr
    intro s0 hm
    rw [ml] at hm
    obtain ⟨k1, x1, se, w1, w2⟩ := sp s0 hm.1
    have := hdone l _ _ _ _ w1 w2
    rw [getD_of w1, getD_of w2] at hm
    omega
theorem run27 {pl : Plan} {L : Str} {Q : D → wld.T → Prop} (h : a.ok = true) (h2 : lv.ok = true) (hd : a.d = plaD pl) (hd2 : lv.d = .str L) (hL : shaped (.str L) = true) (hp : PlanOk pl) (hB : Bud b s) (hb : 1200 ≤ b)
    (k : ∀ ver run s', VersOk pl ver → Bud (b - 1200) s' → Q (.tup [histD ver pl, .tup run]) s') : Ok (G (n + 3) 27 [.drw, a, lv] s) Q := by
  rw [G_eq (fd := f27) rfl rfl]
  simp -implicitDefEqProofs [f27, b27, h, h2]
  refine run25 h h2 hd hd2 hL hp hB (by omega) fun d s1 hd1 hs1 => ?_
  rcases hd1 with ⟨rfl, _⟩ | ⟨ver, run, vo, rfl⟩
  · simp -implicitDefEqProofs [h]
    refine run25 (L := "ser") h rfl hd rfl shStr_ser hp hs1 (by omega) fun d s2 hd2 hs2 => ?_
    rcases hd2 with ⟨_, z⟩ | ⟨ver, run, vo, rfl⟩
    · exact absurd rfl z
    · exact k _ _ _ vo (hs2.le (by omega))
  · simp -implicitDefEqProofs
    exact k _ _ _ vo (hs1.le (by omega))
end
end Law
/-! Plain law of k74, part 22: right histories, and one with another version. -/
namespace Law
open PySem PySem.Spec PyProof.Rows L2 Rf
structure HOk (xs : List D) : Prop where
  l1 : 1 ≤ xs.length
  l5 : xs.length ≤ 5
  se : ∀ x ∈ xs, sessB x = true
  ve : ∀ p ∈ placesF 0 xs, ∀ d ∈ trN xs p.1 p.2, verB xs p d = true
theorem isHi_iff {x : D} : isHi x = true ↔ x = .str "history" := by
  cases x <;> simp [isHi, eqvD, toPy, PyData.eqv]
theorem hist_iff {d : D} : histB d = true ↔ ∃ xs, d = .tup [.str "history", .tup xs] ∧ HOk xs := by
  constructor
  · intro h
    unfold histB at h
    split at h
    · next y xs =>
      simp only [Bool.and_eq_true, decide_eq_true_eq, isHi_iff, List.all_eq_true, versB] at h
      obtain ⟨rfl, a, b, c, d⟩ := h
      exact ⟨xs, rfl, a, b, c, d⟩
    · cases h
  · rintro ⟨xs, rfl, a, b, c, d⟩
    simp only [histB, Bool.and_eq_true, decide_eq_true_eq, isHi_iff, List.all_eq_true, versB]
    exact ⟨trivial, a, b, c, d⟩
theorem ok_mono {m : Nat} : ∀ {n n' : Nat} {d : D}, okD m n d = true → n ≤ n' → okD m n' d = true := by
  intro n
  induction n with
  | zero => intro n' d h _; cases d <;> cases n' <;> simp_all [okD]
  | succ n ih =>
    intro n' d h k
    obtain ⟨q, rfl⟩ : ∃ q, n' = q + 1 := ⟨n' - 1, by omega⟩
    cases d with
    | tup xs =>
      simp only [okD, Bool.and_eq_true] at h ⊢
      exact ⟨h.1, okA_iff.mpr fun x hx => ih (okA_iff.mp h.2 x hx) (by omega)⟩
    | lst xs =>
      simp only [okD, Bool.and_eq_true] at h ⊢
      exact ⟨h.1, okA_iff.mpr fun x hx => ih (okA_iff.mp h.2 x hx) (by omega)⟩
    | _ => simp_all [okD]
theorem okT {m n : Nat} {xs : List D} (h : xs.length ≤ m) (k : ∀ x ∈ xs, okD m n x = true) : okD m (n + 1) (.tup xs) = true := by
  simp only [okD, Bool.and_eq_true, decide_eq_true_eq]
  exact ⟨h, okA_iff.mpr k⟩
theorem okL {m n : Nat} {xs : List D} (h : xs.length ≤ m) (k : ∀ x ∈ xs, okD m n x = true) : okD m (n + 1) (.lst xs) = true := by
  simp only [okD, Bool.and_eq_true, decide_eq_true_eq]
  exact ⟨h, okA_iff.mpr k⟩
@[simp] theorem strOk_w : PyData.strOk "write" = true := by decide +kernel
@[simp] theorem strOk_r : PyData.strOk "read" = true := by decide +kernel
@[simp] theorem strOk_h : PyData.strOk "history" = true := by decide +kernel
@[simp] theorem ok_str {m n : Nat} {x : Str} (h : PyData.strOk x = true) : okD m n (.str x) = true := by cases n <;> simpa [okD] using h
@[simp] theorem ok_non {m n : Nat} : okD m n .non = true := by cases n <;> rfl
@[simp] theorem ok_bl {m n : Nat} (b : Bool) : okD m n (.bl b) = true := by cases n <;> rfl
@[simp] theorem ok_int {m n : Nat} (i : Int) : okD m n (.int i) = true := okD_int i
theorem ok_step {d : D} {m : Nat} (hm : 3 ≤ m) (h : isStep d = true) : okD m 2 d = true := by
  rcases step_cases h with ⟨j, rfl, _⟩ | ⟨j, v, rfl, _, _, hv⟩
  · exact okT (by simp; omega) (by simp)
  · refine okT (by simp; omega) ?_
    rcases isVer_cases hv with rfl | ⟨t, u, rfl⟩
    · simp
    · simp
      exact okT (by simp; omega) (by simp)
theorem ok_trans {d : D} {m : Nat} (hm : 12 ≤ m) (h : transB d = true) : okD m 3 d = true := by
  obtain ⟨ss, rfl, _, h12, hs, _⟩ := trans_of h
  exact okT (by omega) fun x hx => ok_step (by omega) (hs x hx)
theorem ok_sess {d : D} {m : Nat} (hm : 12 ≤ m) (h : sessB d = true) : okD m 4 d = true := by
  obtain ⟨ss, rfl, h8, hs⟩ := sess_of h
  exact okT (by omega) fun x hx => ok_trans hm (hs x hx)
theorem ok_hist {d : D} {m : Nat} (hm : 12 ≤ m) (h : histB d = true) : okD m 6 d = true := by
  obtain ⟨xs, rfl, H⟩ := hist_iff.mp h
  refine okT (by simp; omega) ?_
  simp
  exact okT (by have := H.l5; omega) fun x hx => ok_sess hm (H.se x hx)
theorem set_eq {α : Type} {xs : List α} {i : Nat} {x : α} (h : i < xs.length) : xs.take i ++ x :: xs.drop (i + 1) = xs.set i x := by
  rw [List.set_eq_take_append_cons_drop, if_pos h]
theorem slc_to {xs : List D} {k : Nat} : slcD (.tup xs) none (some (k : Int)) = some (.tup (xs.take k)) := by
  simp only [slcD, Rf.cutD, HT.sIx_none, HT.sIx_nat, List.drop_zero, Nat.sub_zero]
  congr 2
  by_cases h : k ≤ xs.length
  · rw [Nat.min_eq_left h]
  · rw [Nat.min_eq_right (by omega), List.take_of_length_le (Nat.le_refl _), List.take_of_length_le (by omega)]
theorem slc_from {xs : List D} {k : Nat} : slcD (.tup xs) (some (k : Int)) none = some (.tup (xs.drop k)) := by
  simp only [slcD, Rf.cutD, HT.sIx_none, HT.sIx_nat]
  congr 2
  by_cases h : k ≤ xs.length
  · rw [Nat.min_eq_left h, List.take_of_length_le (by simp)]
  · rw [Nat.min_eq_right (by omega)]
    rw [List.drop_of_length_le (Nat.le_refl _), List.drop_of_length_le (by omega)]
    simp
theorem slc_from1 {xs : List D} {k : Nat} : slcD (.tup xs) (some ((k : Int) + 1)) none = some (.tup (xs.drop (k + 1))) := by
  have : ((k : Int) + 1) = ((k + 1 : Nat) : Int) := by omega
  rw [this, slc_from]
section
variable {xs ts ss : List D} {s k j : Nat} {key : Int} {v0 v : D}
theorem trN_of (g : xs[s]? = some (.tup ts)) (g2 : ts[k]? = some (.tup ss)) : trN xs s k = ss := by
  unfold trN
  rw [g]
  simp only [g2]
theorem sessLen_set {s' : Nat} (g : xs[s]? = some (.tup ts)) {y : D} : sessLen ((xs.set s (.tup (ts.set k y))).getD s' .non) = sessLen (xs.getD s' .non) := by
  have l := (List.getElem?_eq_some_iff.mp g).1
  by_cases e : s = s'
  · subst e
    have h1 : (xs.set s (.tup (ts.set k y)))[s]? = some (.tup (ts.set k y)) := List.getElem?_set_self l
    rw [getD_of h1, getD_of g]
    simp [sessLen]
  · have h1 : (xs.set s (.tup (ts.set k y)))[s']? = xs[s']? := List.getElem?_set_ne e
    simp only [List.getD, h1]
theorem places_set (g : xs[s]? = some (.tup ts)) {y : D} {p : Nat × Nat} : p ∈ placesF 0 (xs.set s (.tup (ts.set k y))) ↔ p ∈ placesF 0 xs := by
  constructor
  · intro h
    have := place_in h
    rw [List.length_set, sessLen_set g] at this
    exact in_place this
  · intro h
    have := place_in h
    exact in_place (by rw [List.length_set, sessLen_set g]; exact this)
theorem trN_set (g : xs[s]? = some (.tup ts)) (g2 : ts[k]? = some (.tup ss)) {ss' : List D} {p : Nat × Nat} : trN (xs.set s (.tup (ts.set k (.tup ss')))) p.1 p.2 = if p = (s, k) then ss' else trN xs p.1 p.2 := by
  have l := (List.getElem?_eq_some_iff.mp g).1
  have l2 := (List.getElem?_eq_some_iff.mp g2).1
  obtain ⟨s', k'⟩ := p
  by_cases e : s = s'
  · subst e
    have h1 : (xs.set s (.tup (ts.set k (.tup ss'))))[s]? = some (.tup (ts.set k (.tup ss'))) := List.getElem?_set_self l
    by_cases e2 : k = k'
    · subst e2
      rw [if_pos rfl]
      exact trN_of h1 (List.getElem?_set_self l2)
    · rw [if_neg (by simp; exact Ne.symm e2)]
      unfold trN
      simp only [h1, g, List.getElem?_set_ne e2]
  · rw [if_neg (by simp; exact fun z => absurd z.symm e)]
    unfold trN
    simp only [List.getElem?_set_ne e]
theorem toP_set (g3 : ss[j]? = some (.tup [.str "read", .int key, v0])) : (ss.set j (.tup [.str "read", .int key, v])).map toP = ss.map toP := by
  rw [List.map_set]
  apply List.ext_getElem?
  intro i
  have l := (List.getElem?_eq_some_iff.mp g3).1
  by_cases e : j = i
  · subst e
    rw [List.getElem?_set_self (by simpa using l), List.getElem?_map, g3]
    rfl
  · rw [List.getElem?_set_ne e]
theorem exch_good (H : HOk xs) (g : xs[s]? = some (.tup ts)) (g2 : ts[k]? = some (.tup ss)) (g3 : ss[j]? = some (.tup [.str "read", .int key, v0]))
    (hv : v = .non ∨ ∃ p, v = plD p ∧ p ≠ (s, k) ∧ p ∈ placesF 0 xs ∧ key ∈ wrK (trN xs p.1 p.2)) : HOk (xs.set s (.tup (ts.set k (.tup (ss.set j (.tup [.str "read", .int key, v])))))) := by
  have st := H.se _ (List.mem_of_getElem? g)
  obtain ⟨_, e, t8, ht⟩ := sess_of st
  cases e
  have tr := ht _ (List.mem_of_getElem? g2)
  obtain ⟨_, e, s1, s12, hs, hn⟩ := trans_of tr
  cases e
  have h3 := hs _ (List.mem_of_getElem? g3)
  have tp := toP_set (v := v) g3
  have wr' : ∀ p : Nat × Nat, wrK (trN (xs.set s (.tup (ts.set k (.tup (ss.set j (.tup [.str "read", .int key, v])))))) p.1 p.2) = wrK (trN xs p.1 p.2) := fun p => by
    rw [trN_set g g2]
    split
    · next e =>
      subst e
      rw [trN_of g g2, wrK_p, tp, ← wrK_p]
    · rfl
  have vb : ∀ (p : Nat × Nat) (d : D), verB (xs.set s (.tup (ts.set k (.tup (ss.set j (.tup [.str "read", .int key, v])))))) p d = verB xs p d := fun p d => by
    unfold verB
    split
    · next x i t u =>
      have w := wr' (t.toNat, u.toNat)
      simp only at w
      simp only [w, List.length_set, sessLen_set g]
    · rfl
  have ver : isVer v = true := by
    rcases hv with rfl | ⟨p, rfl, _⟩ <;> rfl
  have step' : isStep (.tup [.str "read", .int key, v]) = true := by
    simp only [isStep, ver, isRd_r, Bool.and_true] at h3 ⊢
    simp only [Bool.and_eq_true] at h3
    exact h3.1
  refine ⟨by rw [List.length_set]; exact H.l1, by rw [List.length_set]; exact H.l5, fun x hx => ?_, fun p hp d hd => ?_⟩
  · rcases List.mem_or_eq_of_mem_set hx with hx | rfl
    · exact H.se x hx
    · simp only [sessB, List.length_set, t8, decide_true, Bool.true_and, List.all_eq_true]
      intro y hy
      rcases List.mem_or_eq_of_mem_set hy with hy | rfl
      · exact ht y hy
      · simp only [transB, List.length_set, s1, s12, decide_true, Bool.true_and, Bool.and_eq_true, List.all_eq_true]
        refine ⟨fun z hz => ?_, by rw [noRW_p, tp, ← noRW_p]; exact hn⟩
        rcases List.mem_or_eq_of_mem_set hz with hz | rfl
        · exact hs z hz
        · exact step'
  · rw [vb]
    rw [places_set g] at hp
    rw [trN_set g g2] at hd
    split at hd
    · next e =>
      subst e
      rcases List.mem_or_eq_of_mem_set hd with hd | rfl
      · exact H.ve _ hp _ (by rw [trN_of g g2]; exact hd)
      · rcases hv with rfl | ⟨p, rfl, ne, pm, wm⟩
        · rfl
        · obtain ⟨b1, b2⟩ := place_in pm
          simp only [plD, verB, Int.toNat_natCast, wm, decide_true, Bool.and_true, decide_eq_true_eq]
          exact ⟨fun ⟨a, b⟩ => ne (Prod.ext (by simp only; omega) (by simp only; omega)), by omega, by omega, by omega, by omega⟩
    · exact H.ve _ hp _ hd
end
end Law
/-! Plain law of k74, part 23: _law_exchanged. -/
namespace Rf
open PySem PySem.Spec PyProof.Rows L2
/-- a comprehension without draws, over data made of other things -/
theorem lc_map {α : Type} {w : Wld} {own : List Nat} {tg : Tg} {c : En → w.T → Rs w.T Bool} {f : En → w.T → Rs w.T D} {e : En} {ps : List α} {acc : List D} {s : w.T} (F : α → D) (p : α → Bool) (g : α → D)
    (h : ∀ x ∈ ps, ∃ e1, bindTg tg (F x) e = some e1 ∧ c e1 s = .ok (p x) s ∧ (p x = true → f e1 s = .ok (g x) s)) (hl : acc.length + ps.length < 16777216) : lcLoop own tg c f e (ps.map F) acc s = .ok (acc ++ (ps.filter p).map g) s := by
  induction ps generalizing acc with
  | nil => simp [lcLoop]
  | cons d ds ih =>
    obtain ⟨e1, b1, hc, hf⟩ := h d (by simp)
    simp only [List.length_cons] at hl
    rw [List.map_cons]
    unfold lcLoop
    simp only [b1, Rs.lift_some, Rs.bind_ok, hc, Rs.calm_ok]
    cases hp : p d with
    | true =>
      have l1 : acc.length < sizeLine := by rw [sizeLine_eq]; omega
      simp only [if_true, hf hp, Rs.calm_ok, Rs.bind_ok, l1]
      rw [ih (fun d hd => h d (by simp [hd])) (by simp; omega)]
      simp [hp]
    | false =>
      simp only [Bool.false_eq_true, if_false]
      rw [ih (fun d hd => h d (by simp [hd])) (by omega)]
      simp [hp]
end Rf
namespace Law
open PySem PySem.Spec PyProof.Rows L2 Rf
def triD (q : Nat × Nat × Nat) : D := .tup [.int q.1, .int q.2.1, .int q.2.2]
def GoodR (xs : List D) (q : Nat × Nat × Nat) : Prop := ∃ ts ss key v, xs[q.1]? = some (.tup ts) ∧ ts[q.2.1]? = some (.tup ss) ∧ ss[q.2.2]? = some (.tup [.str "read", .int key, v])
def e28 (d : D) (acc : List (Nat × Nat × Nat)) (o3 : Option D) : En := [.drw, .dat d, .dat (.lst (acc.map triD)), sl o3, .non, .non, .non, .non, .non, .non, .non]
def I28 (d : D) (xs : List D) (s : wld.T) (i : Nat) (e : En) (s' : wld.T) : Prop := s' = s ∧ ∃ acc o3, e = e28 d acc o3 ∧ acc.length ≤ 12 * i ∧ ∀ q ∈ acc, GoodR xs q
theorem places40 {xs : List D} (H : HOk xs) : (placesF 0 xs).length ≤ 40 := by
  have := placesF_le (i := 0) (m := 8) (xs := xs) fun y hy => by
    obtain ⟨ts, rfl, ht, _⟩ := sess_of (H.se y hy)
    exact ht
  have := H.l5
  omega
theorem hx1 {xs : List D} (H : HOk xs) : ∀ x ∈ xs, ∃ ts : List D, x = .tup ts ∧ ts.length ≤ 1000 := fun x hm => by
  obtain ⟨ts, e, l, _⟩ := sess_of (H.se x hm)
  exact ⟨ts, e, by omega⟩
theorem isRd_d0 {d : D} (h : isStep d = true) (k : isRd (d0 d) = true) : ∃ key v, d = .tup [.str "read", .int key, v] := by
  rcases step_cases h with ⟨j, rfl, _⟩ | ⟨j, v, rfl, _⟩
  · simp [d0] at k
  · exact ⟨_, _, rfl⟩
theorem sub_0 {d : D} (h : isStep d = true) : subD d (.int 0) = some (d0 d) := by
  rcases step_cases h with ⟨j, rfl, _⟩ | ⟨j, v, rfl, _⟩ <;> simp [d0]
theorem sh_d0 {d : D} (h : isStep d = true) : shaped (d0 d) = true := by
  rcases step_cases h with ⟨j, rfl, _⟩ | ⟨j, v, rfl, _⟩ <;> simp [d0]
section
variable {n b : Nat} {s : wld.T}
theorem run28 {xs : List D} {Q : D → wld.T → Prop} (H : HOk xs) (hB : Bud b s) (hb : 2 ≤ b)
    (k : ∀ xs' s', HOk xs' → (placesF 0 xs ≠ [] → placesF 0 xs' ≠ []) → Bud (b - 2) s' → Q (.tup [.str "history", .tup xs']) s') : Ok (G (n + 3) 28 [.drw, .dat (.tup [.str "history", .tup xs])] s) Q := by
  rw [G_eq (fd := f28) rfl rfl]
  generalize hd : D.tup [.str "history", .tup xs] = d
  have hd' : (Rf.Arg.dat d).d = .tup [.str "history", .tup xs] := hd.symm
  have p40 := places40 H
  have l5 := H.l5
  have r15 := fun s => run15 (n := n + 1) (a := .dat d) (s := s) rfl hd' (hx1 H) (by omega)
  simp -implicitDefEqProofs [f28, b28, r15]
  refine loop_inv (I28 d xs s) ⟨rfl, [], none, rfl, by simp, by simp⟩ ?_ ?_
  · rintro i dd e s' hg ⟨rfl, acc, o3, rfl, hl, hgood⟩
    rw [List.getElem?_map] at hg
    cases hp : (placesF 0 xs)[i]? with
    | none => rw [hp] at hg; cases hg
    | some p =>
      rw [hp] at hg
      cases hg
      refine ⟨_, rfl, ?_⟩
      have il := (List.getElem?_eq_some_iff.mp hp).1
      have pm := List.mem_of_getElem? hp
      obtain ⟨ht, hj⟩ := place_in pm
      obtain ⟨ts, ss, g1, g2, g3, g4⟩ := at_place H.se ht hj
      obtain ⟨_, e, l1, l12, hst, _⟩ := trans_of g4
      cases e
      have r16 := run16 (n := n + 1) (a := .dat d) (a2 := .dat (plD p)) (s := s') rfl rfl hd' rfl g1 g2
      have hc : lcLoop [4] (.one 4) (denC (G (n + 2)) (.yes (.op .eq (.e (.sub (.e (.sub (.e (.call 16 (.cons (.lend 1) (.cons (.lend 3) .nil)))) (.var 4))) (.cst (.int 0)))) (.e (.cst (.str "read")))))) (denE (G (n + 2)) (.op .add (.pk 3) (.e (.tup (.cons (.var 4) .nil))))) [.drw, .dat d, .dat (.lst (acc.map triD)), .dat (plD p), .non, .non, .non, .non, .non, .non, .non] ((List.range ss.length).map fun (k : Nat) => .int k) [] s' = .ok (((List.range ss.length).filter fun j => isRd (d0 (ss.getD j .non))).map fun j => triD (p.1, p.2, j)) s' := by
        rw [lc_map (fun (k : Nat) => D.int k) (fun j => isRd (d0 (ss.getD j .non))) (fun j => triD (p.1, p.2, j))]
        · simp
        · intro j hj'
          simp at hj'
          have gj : ss[j]? = some ss[j] := List.getElem?_eq_getElem hj'
          have sj := hst ss[j] (List.getElem_mem hj')
          refine ⟨_, rfl, ?_, fun _ => ?_⟩
          · simp -implicitDefEqProofs [r16, atN gj, sub_0 sj, sh_d0 sj]
            simp [gj]
          · simp -implicitDefEqProofs
            rfl
        · simp; omega
      have fl1 : ∀ j ∈ (List.range ss.length).filter fun j => isRd (d0 (ss.getD j .non)), GoodR xs (p.1, p.2, j) := fun j hj' => by
        obtain ⟨hj1, hj2⟩ := List.mem_filter.mp hj'
        have hj1 : j < ss.length := List.mem_range.mp hj1
        have gj : ss[j]? = some ss[j] := List.getElem?_eq_getElem hj1
        rw [getD_of gj] at hj2
        obtain ⟨key, v, e⟩ := isRd_d0 (hst ss[j] (List.getElem_mem hj1)) hj2
        exact ⟨ts, ss, key, v, g1, g2, by rw [gj, e]⟩
      have fl2 : ((List.range ss.length).filter fun j => isRd (d0 (ss.getD j .non))).length ≤ 12 := by
        have : ((List.range ss.length).filter fun j => isRd (d0 (ss.getD j .non))).length ≤ (List.range ss.length).length := List.length_filter_le ..
        rw [List.length_range] at this
        omega
      generalize ((List.range ss.length).filter fun j => isRd (d0 (ss.getD j .non))) = fl at hc fl1 fl2
      have ad : opD .add (.lst (acc.map triD)) (.lst (fl.map fun j => triD (p.1, p.2, j))) = some (.lst ((acc ++ (fl.map fun j => (p.1, p.2, j))).map triD)) := by
        rw [o_addL (by simp; omega)]
        simp [Function.comp_def]
      simp -implicitDefEqProofs [e28, r16, rng0 (n := ss.length) (by omega), hc]
      rw [ad]
      simp only [Rs.lift_some, Rs.bind_ok, Ok_ok]
      refine ⟨rfl, _, some _, rfl, ?_, fun q hq => ?_⟩
      · rw [List.length_append, List.length_map]
        omega
      · rcases List.mem_append.mp hq with hq | hq
        · exact hgood q hq
        · obtain ⟨j, hj', rfl⟩ := List.mem_map.mp hq
          exact fl1 j hj'
  · rintro e s' ⟨rfl, acc, o3, rfl, hl, hgood⟩
    simp only [List.length_map] at hl
    have sh : shaped (.lst (acc.map triD)) = true := okD_shaped (m := 480) (n := 3) (okL (by simp; omega) fun x hx => by
      obtain ⟨q, _, rfl⟩ := List.mem_map.mp hx
      exact okT (by simp) (by simp)) (by omega)
    have oe : opD .eq (.lst (acc.map triD)) (.lst []) = some (.bl (acc.map triD).isEmpty) := by
      rw [o_eq sh shaped_lst_bl]
      cases acc.map triD <;> simp [eqvD, toPy, toPyA, PyData.eqv, PyData.eqvAll]
    by_cases hne : acc = []
    · subst hne
      simp only [List.map_nil, List.isEmpty_nil] at oe
      simp -implicitDefEqProofs [e28, oe]
      rw [← hd]
      exact k xs _ H id (hB.le (by omega))
    · have ie : (acc.map triD).isEmpty = false := by simpa using hne
      rw [ie] at oe
      simp -implicitDefEqProofs [e28, oe]
      refine run12 (b := b) (xs := acc.map triD) rfl rfl hB (by omega) (by simpa using hne) (by simp; omega) fun x hx s1 hs1 => ?_
      obtain ⟨⟨s0, k0, j0⟩, hm, rfl⟩ := List.mem_map.mp hx
      obtain ⟨ts, ss, key, v, g1, g2, g3⟩ := hgood _ hm
      simp only at g1 g2 g3
      have bt : ∀ e : En, bindTg (.many [5, 4, 6]) (triD (s0, k0, j0)) e = some (setS (setS (setS e 5 (.dat (.int s0))) 4 (.dat (.int k0))) 6 (.dat (.int j0))) := fun e => rfl
      have tr : transB (.tup ss) = true := by
        obtain ⟨_, e, _, ht⟩ := sess_of (H.se _ (List.mem_of_getElem? g1))
        cases e
        exact ht _ (List.mem_of_getElem? g2)
      obtain ⟨_, e, l1, l12, hst, _⟩ := trans_of tr
      cases e
      have t8 : ts.length ≤ 8 := by
        obtain ⟨_, e, l, _⟩ := sess_of (H.se _ (List.mem_of_getElem? g1))
        cases e
        exact l
      have hc : lcLoop [3] (.one 3) (denC (G (n + 2)) (.yes (.and (.op .ne (.pk 3) (.e (.tup (.cons (.var 5) (.cons (.var 4) .nil))))) (.op .inn (.e (.sub (.pk 7) (.cst (.int 1)))) (.e (.call 17 (.cons (.val (.call 16 (.cons (.lend 1) (.cons (.lend 3) .nil)))) .nil))))))) (denE (G (n + 2)) (.var 3)) [.drw, .dat d, .dat (.lst (acc.map triD)), .non, .dat (.int k0), .dat (.int s0), .dat (.int j0), .dat (.tup [.str "read", .int key, v]), .non, .non, .non] ((placesF 0 xs).map plD) [] s1 = .ok (((placesF 0 xs).filter fun p => !decide (p = (s0, k0)) && decide (key ∈ wrK (trN xs p.1 p.2))).map plD) s1 := by
        rw [lc_map plD (fun p => !decide (p = (s0, k0)) && decide (key ∈ wrK (trN xs p.1 p.2))) plD]
        · simp
        · intro p pm
          obtain ⟨ht, hj⟩ := place_in pm
          obtain ⟨ts, ss, g1, g2, g3, g4⟩ := at_place H.se ht hj
          obtain ⟨_, e, l1, l12, hst, _⟩ := trans_of g4
          cases e
          have r16 := run16 (n := n + 1) (a := .dat d) (a2 := .dat (plD p)) (s := s1) rfl rfl hd' rfl g1 g2
          have r17 := run17 (n := n + 1) (a := .dat (.tup ss)) (s := s1) rfl rfl hst (by omega)
          have ep : D.tup [.int s0, .int k0] = plD (s0, k0) := rfl
          refine ⟨_, rfl, ?_, fun _ => ?_⟩
          · rw [g3]
            simp -implicitDefEqProofs [ep, r16, r17, in_ints]
            by_cases e : p = (s0, k0)
            · simp -implicitDefEqProofs [e]
            · simp -implicitDefEqProofs [e, r16, r17, in_ints]
          · simp -implicitDefEqProofs
        · simp; omega
      have gl : ∀ p ∈ ((placesF 0 xs).filter fun p => !decide (p = (s0, k0)) && decide (key ∈ wrK (trN xs p.1 p.2))), p ≠ (s0, k0) ∧ p ∈ placesF 0 xs ∧ key ∈ wrK (trN xs p.1 p.2) := fun p hp => by
        obtain ⟨h1, h2⟩ := List.mem_filter.mp hp
        simp at h2
        exact ⟨h2.1, h1, h2.2⟩
      have gl2 : ((placesF 0 xs).filter fun p => !decide (p = (s0, k0)) && decide (key ∈ wrK (trN xs p.1 p.2))).length ≤ 40 := Nat.le_trans (List.length_filter_le ..) p40
      generalize ((placesF 0 xs).filter fun p => !decide (p = (s0, k0)) && decide (key ∈ wrK (trN xs p.1 p.2))) = some' at hc gl gl2
      have sb : subD d (.int 1) = some (.tup xs) := by rw [← hd]; simp
      have q1 := (List.getElem?_eq_some_iff.mp g1).1
      have q2 := (List.getElem?_eq_some_iff.mp g2).1
      have q3 := (List.getElem?_eq_some_iff.mp g3).1
      have z1 : 1 + some'.length ≤ 16777216 := by omega
      have z2 : min j0 ss.length + 1 ≤ 16777216 := by omega
      have z3 : min j0 ss.length + 1 + (ss.length - (j0 + 1)) ≤ 16777216 := by omega
      have z4 : min k0 ts.length + 1 ≤ 16777216 := by omega
      have z5 : min k0 ts.length + 1 + (ts.length - (k0 + 1)) ≤ 16777216 := by omega
      have z6 : min s0 xs.length + 1 ≤ 16777216 := by omega
      have z7 : min s0 xs.length + 1 + (xs.length - (s0 + 1)) ≤ 16777216 := by omega
      simp -implicitDefEqProofs [bt, sb, atN g1, atN g2, atN g3, r15, hc, z1, slc_to]
      refine run12 (b := b - 1) (xs := .non :: some'.map plD) rfl rfl hs1 (by omega) (by simp) (by simp; omega) fun w hw s2 hs2 => ?_
      have hv : w = .non ∨ ∃ p, w = plD p ∧ p ≠ (s0, k0) ∧ p ∈ placesF 0 xs ∧ key ∈ wrK (trN xs p.1 p.2) := by
        rcases List.mem_cons.mp hw with rfl | hw
        · exact .inl rfl
        · obtain ⟨p, hp, rfl⟩ := List.mem_map.mp hw
          exact .inr ⟨p, rfl, gl p hp⟩
      have G1 := exch_good H g1 g2 g3 hv
      have s1' := set_eq (x := D.tup [.str "read", .int key, w]) q3
      have s2' := set_eq (x := D.tup (ss.set j0 (.tup [.str "read", .int key, w]))) q2
      have s3' := set_eq (x := D.tup (ts.set k0 (.tup (ss.set j0 (.tup [.str "read", .int key, w]))))) q1
      simp -implicitDefEqProofs [sb, atN g1, atN g2, z2, z3, z4, z5, z6, z7, slc_to, slc_from1, s1', s2', s3']
      exact k _ _ G1 (fun h z => by
        obtain ⟨p, hp⟩ := List.exists_mem_of_ne_nil _ h
        rw [← places_set g1] at hp
        rw [z] at hp
        cases hp) (hs2.le (by omega))
end
end Law
/-! Plain law of k74, part 24: _law_a_history, _law_same. -/
namespace Law
open PySem PySem.Spec PyProof.Rows L2 Rf
@[simp] theorem shStr_rc : shaped (.str "rc") = true := by decide +kernel
def lvL : List Str := ["rc", "si", "lock", "ser"]
def I29 (ns each steps b : Nat) (i : Nat) (e : En) (s : wld.T) : Prop := ∃ xs o5, HOk xs ∧ placesF 0 xs ≠ [] ∧ e = [.drw, .dat (.int ns), .dat (.int each), .dat (.int steps), .dat (.tup [.str "history", .tup xs]), sl o5] ∧ Bud (b - 2 * i) s
theorem hok_of {ver : Nat → Nat → Nat → D} {pl : Plan} (hp : PlanOk pl) (hv : VersOk pl ver) : ∃ xs, histD ver pl = .tup [.str "history", .tup xs] ∧ HOk xs ∧ placesF 0 xs ≠ [] := by
  obtain ⟨xs, e, H⟩ := hist_iff.mp (hist_good hp hv)
  refine ⟨xs, e, H, fun z => ?_⟩
  have e2 : xs = hPl ver pl pl.length := by unfold histD at e; simp at e; exact e.symm
  have l := hp.1
  have g : pl[0]? = some pl[0] := List.getElem?_eq_getElem l
  have g' := hPl_get (ver := ver) g
  have s1 := (hp.2.2 pl[0] (List.getElem_mem l)).1
  have : ((0, 0) : Nat × Nat) ∈ placesF 0 xs := mem_placesF.mpr ⟨Nat.le_refl _, _, by rw [e2]; exact g', by simp only [sessLen, hSe_len]; omega⟩
  rw [z] at this
  cases this
section
variable {n b : Nat} {s : wld.T}
theorem run29 {ns each steps : Nat} {Q : D → wld.T → Prop} (hn : 1 ≤ ns ∧ ns ≤ 5) (he : 1 ≤ each ∧ each ≤ 8) (hst : 1 ≤ steps ∧ steps ≤ 12) (hB : Bud b s) (hb : 4000 ≤ b)
    (k : ∀ xs s', HOk xs → placesF 0 xs ≠ [] → Bud (b - 4000) s' → Q (.tup [.str "history", .tup xs]) s') : Ok (G (n + 4) 29 [.drw, .dat (.int ns), .dat (.int each), .dat (.int steps)] s) Q := by
  rw [G_eq (fd := f29) rfl rfl]
  simp -implicitDefEqProofs [f29, b29]
  refine run22 (n := n) hn he hst hB (by omega) fun pl s1 hpl hp hs1 => ?_
  refine run12 (b := b - 2000) (xs := lvL.map D.str) rfl rfl hs1 (by omega) (by simp [lvL]) (by simp [lvL]) fun x hx s2 hs2 => ?_
  obtain ⟨L, hL, rfl⟩ := List.mem_map.mp hx
  have sL : shaped (.str L) = true := by
    simp [lvL] at hL
    rcases hL with rfl | rfl | rfl | rfl <;> simp
  refine run27 (n := n) (L := L) rfl rfl rfl rfl sL hp hs2 (by omega) fun ver run s3 hv hs3 => ?_
  obtain ⟨xs, exs, H, hne⟩ := hok_of hp hv
  rw [exs]
  simp -implicitDefEqProofs
  refine run12 (b := b - 2000 - 1 - 1200) (xs := [.int 0, .int 0, .int 1, .int 1, .int 2, .int 3]) rfl rfl hs3 (by omega) (by simp) (by simp) fun x hx s4 hs4 => ?_
  have hx' : ∃ q : Nat, x = .int q ∧ q ≤ 3 := by
    simp at hx
    rcases hx with rfl | rfl | rfl | rfl
    · exact ⟨0, rfl, by omega⟩
    · exact ⟨1, rfl, by omega⟩
    · exact ⟨2, rfl, by omega⟩
    · exact ⟨3, rfl, by omega⟩
  obtain ⟨q, rfl, hq⟩ := hx'
  simp -implicitDefEqProofs [rng0 (n := q) (by omega)]
  refine loop_inv (I29 ns each steps (b - 3202)) ⟨xs, none, H, hne, rfl, hs4.le (by omega)⟩ ?_ ?_
  · rintro i d e s5 hg ⟨xs, o5, H, hne, rfl, hs5⟩
    obtain ⟨il, rfl⟩ := rng_get hg
    refine ⟨_, rfl, ?_⟩
    simp -implicitDefEqProofs
    refine run28 (n := n) H hs5 (by omega) fun xs' s6 H' hne' hs6 => ?_
    exact ⟨xs', some _, H', hne' hne, rfl, hs6.le (by omega)⟩
  · rintro e s5 ⟨xs, o5, H, hne, rfl, hs5⟩
    simp only [List.length_map, List.length_range] at hs5
    simp -implicitDefEqProofs
    exact k _ _ H hne (hs5.le (by omega))
theorem repr_bl (b : Bool) : reprD (.bl b) = some (.str (if b then "True" else "False")) := by
  cases b <;> (unfold reprD; rw [if_pos (by decide +kernel)]; congr 2)
theorem run30 {x y : Bool} : G (n + 1) 30 [.dat (.bl x), .dat (.bl y)] s = .ok (.bl (x == y)) s := by
  rw [G_eq (fd := f30) rfl rfl]
  have s1 : ∀ b : Bool, shaped (.str (if b then "True" else "False")) = true := by intro b; cases b <;> decide +kernel
  have hr : ∀ b : Bool, biD .repr [.bl b] = some (.str (if b then "True" else "False")) := fun b => repr_bl b
  have ne : ("True" : Str) ≠ "False" := by decide
  simp -implicitDefEqProofs [f30, b30, hr]
  rw [o_eqS (s1 x) (s1 y)]
  cases x <;> cases y <;> simp [ne, ne.symm]
end
end Law
/-! Plain law of k74, part 25: values that are no history, parts that are otherwise. -/
namespace Law
open PySem PySem.Spec PyProof.Rows L2 Rf
theorem ok_wide {m m' : Nat} : ∀ {n : Nat} {d : D}, okD m n d = true → m ≤ m' → okD m' n d = true := by
  intro n
  induction n with
  | zero => intro d h _; cases d <;> simp_all [okD]
  | succ n ih =>
    intro d h k
    cases d with
    | tup xs =>
      simp only [okD, Bool.and_eq_true, decide_eq_true_eq] at h ⊢
      exact ⟨by omega, okA_iff.mpr fun x hx => ih (okA_iff.mp h.2 x hx) k⟩
    | lst xs =>
      simp only [okD, Bool.and_eq_true, decide_eq_true_eq] at h ⊢
      exact ⟨by omega, okA_iff.mpr fun x hx => ih (okA_iff.mp h.2 x hx) k⟩
    | _ => simp_all [okD]
theorem ok_up {m m' n n' : Nat} {d : D} (h : okD m n d = true) (k : m ≤ m') (k2 : n ≤ n') : okD m' n' d = true := ok_mono (ok_wide h k) k2
theorem slc_0_1 (x : D) (r : List D) : slcD (.tup (x :: r)) none (some 1) = some (.tup [x]) := by
  have := slc_to (xs := x :: r) (k := 1)
  simpa using this
theorem slc_1_ (x : D) (r : List D) : slcD (.tup (x :: r)) (some 1) none = some (.tup r) := by
  have := slc_from (xs := x :: r) (k := 1)
  simpa using this
@[simp] theorem bi_lstT (xs : List D) : biD .listOf [.tup xs] = some (.lst xs) := rfl
theorem mul_t (x : D) {k : Int} (h : 1 ≤ k ∧ k ≤ 1000) : opD .mul (.tup [x]) (.int k) = some (.tup (List.replicate k.toNat x)) := by
  simp only [opD, mulD, List.length_cons, List.length_nil]
  rw [if_pos ⟨by omega, h.1, h.2, by omega⟩]
  congr 2
  induction k.toNat with
  | zero => rfl
  | succ n ih => rw [List.replicate_succ, List.replicate_succ, List.flatten_cons, ih]; rfl
@[simp] theorem strOk_ho : PyData.strOk "house" = true := by decide +kernel
@[simp] theorem strOk_rea : PyData.strOk "rea" = true := by decide +kernel
section
variable {n b : Nat} {s : wld.T}
theorem run31 {xs : List D} {Q : D → wld.T → Prop} (H : HOk xs) (hB : Bud b s) (hb : 1 ≤ b)
    (k : ∀ x s', okD 20 8 x = true → Bud (b - 1) s' → Q x s') : Ok (G (n + 2) 31 [.drw, .dat (.tup [.str "history", .tup xs])] s) Q := by
  rw [G_eq (fd := f31) rfl rfl]
  have l5 := H.l5
  have m9 := mul_t (.tup [.str "write", .int 0]) (k := 9) (by omega)
  have m6 := mul_t (.tup []) (k := 6) (by omega)
  have z1 : xs.length + 1 ≤ 16777216 := by omega
  have oxs : ∀ x ∈ xs, okD 20 4 x = true := fun x hx => ok_sess (by omega) (H.se x hx)
  simp -implicitDefEqProofs [f31, b31, slc_0_1, slc_1_, m9, m6, z1]
  refine run12 (b := b) rfl rfl hB (by omega) (by simp) (by simp) fun x hx s1 hs1 => k _ _ ?_ hs1
  have o1 : okD 20 5 (.tup xs) = true := okT (by omega) oxs
  have o2 : okD 20 5 (.lst xs) = true := okL (by omega) oxs
  have o3 : okD 20 5 (.tup (xs ++ [.non])) = true := okT (by simp; omega) (by simp; exact fun x hx => hx.elim (oxs x) (by rintro rfl; simp))
  simp at hx
  rcases hx with rfl | rfl | rfl | rfl | rfl | rfl | rfl | rfl | rfl | rfl | rfl | rfl | rfl | rfl | rfl | rfl
  all_goals (try simp [okD, okA])
  all_goals (try exact ⟨ok_up o1 (by omega) (by omega), by simp⟩)
  all_goals (try exact ok_up o1 (by omega) (by omega))
  all_goals (try exact ok_up o2 (by omega) (by omega))
  all_goals (try exact ok_up o3 (by omega) (by omega))
  all_goals (try exact ⟨by omega, okA_iff.mpr fun x hx => ok_up (oxs x hx) (by omega) (by omega)⟩)
  exact ⟨by omega, okA_iff.mpr fun x hx => by
    rcases List.mem_append.mp hx with hx | hx
    · exact ok_up (oxs x hx) (by omega) (by omega)
    · simp at hx; subst hx; simp⟩
def oddL : List D := [.non, .int 0, .int 1, .int 5, .int 10000, .int 9999, .int (0 - 1), .bl true, .bl false, .str "read", .str "write", .str "rea", .tup [], .tup [.int 0, .int 0], .tup [.int 1, .int 0], .tup [.int 0, .int 1], .tup [.int 0], .tup [.int 0, .int 0, .int 0], .lst [.int 0, .int 0], .tup [.int 0, .bl true]]
theorem odd_ok {m q : Nat} {x : D} (hm : 3 ≤ m) (h : x ∈ oddL) : okD m (q + 1) x = true := by
  simp only [oddL, List.mem_cons, List.not_mem_nil, or_false] at h
  have : 1 ≤ m := by omega
  have : 2 ≤ m := by omega
  rcases h with rfl | rfl | rfl | rfl | rfl | rfl | rfl | rfl | rfl | rfl | rfl | rfl | rfl | rfl | rfl | rfl | rfl | rfl | rfl | rfl <;> simp [okD, okA, *]
theorem slc_neg1 (xs : List D) : slcD (.tup xs) none (some (-1)) = some (.tup xs.dropLast) := by
  simp only [slcD, Rf.cutD, HT.sIx_none, List.drop_zero, Nat.sub_zero]
  congr 2
  rw [List.dropLast_eq_take]
  congr 1
  simp [HT.sIx]
  omega
theorem slc_last (xs : List D) : ∃ ys, slcD (.tup xs) (some (-1)) none = some (.tup ys) ∧ ys.length ≤ 1 ∧ ∀ y ∈ ys, y ∈ xs := by
  refine ⟨_, rfl, ?_, fun y hy => ?_⟩
  · unfold Rf.cutD
    simp [HT.sIx]
    omega
  · unfold Rf.cutD at hy
    exact List.mem_of_mem_drop (List.mem_of_mem_take hy)
theorem run32 {m q : Nat} {d : D} {Q : D → wld.T → Prop} (hm : 3 ≤ m) (hm2 : m ≤ 1000) (hd : okD m (q + 1) d = true) (hB : Bud b s) (hb : 1 ≤ b)
    (k : ∀ x s', okD (m + 1) (q + 1) x = true → Bud (b - 1) s' → Q x s') : Ok (G (n + 2) 32 [.drw, .dat d] s) Q := by
  rw [G_eq (fd := f32) rfl rfl]
  have hpl := okD_plain hd
  rcases tup_or d with ⟨xs, rfl⟩ | hnt
  · obtain ⟨q', e, hl, ho⟩ := okD_tup hd
    cases e
    obtain ⟨ys, hys, ly, my⟩ := slc_last xs
    have z1 : xs.length + ys.length ≤ 16777216 := by omega
    have z2 : xs.length + 1 ≤ 16777216 := by omega
    have s1 : slcD (.tup xs) (some 1) none = some (.tup (xs.drop 1)) := by
      have := slc_from (xs := xs) (k := 1)
      simpa using this
    have rv : revD (.tup xs) = some (.tup xs.reverse) := rfl
    simp -implicitDefEqProofs [f32, b32, slc_neg1, hys, z1, z2, s1, rv]
    refine run12 (b := b) (xs := oddL ++ [.lst xs, .tup xs.reverse, .tup (xs.drop 1), .tup xs.dropLast, .tup (xs ++ ys), .tup (xs ++ [.non]), .tup (xs ++ [.int 0])]) rfl ?_ hB (by omega) (by simp) (by simp [oddL]) fun x hx s1 hs1 => k _ _ ?_ hs1
    · simp [oddL]
    · rcases List.mem_append.mp hx with hx | hx
      · exact odd_ok (by omega) hx
      · have hx' : ∀ x ∈ xs, okD (m + 1) q x = true := fun x h => ok_wide (ho x h) (by omega)
        simp only [List.mem_cons, List.not_mem_nil, or_false] at hx
        rcases hx with rfl | rfl | rfl | rfl | rfl | rfl | rfl
        · exact okL (by omega) hx'
        · exact okT (by simp; omega) fun x h => hx' x (List.mem_reverse.mp h)
        · exact okT (by simp; omega) fun x h => hx' x (List.mem_of_mem_drop h)
        · exact okT (by simp; omega) fun x h => hx' x (List.dropLast_subset _ h)
        · exact okT (by simp; omega) fun x h => (List.mem_append.mp h).elim (hx' x) fun h => hx' x (my x h)
        · exact okT (by simp; omega) fun x h => (List.mem_append.mp h).elim (hx' x) fun h => by simp at h; subst h; simp
        · exact okT (by simp; omega) fun x h => (List.mem_append.mp h).elim (hx' x) fun h => by simp at h; subst h; simp
  · simp -implicitDefEqProofs [f32, b32, isTy_not hnt, hpl]
    refine run12 (b := b) (xs := oddL) rfl ?_ hB (by omega) (by simp [oddL]) (by simp [oddL]) fun x hx s1 hs1 => k _ _ (odd_ok (by omega) hx) hs1
    simp [oddL]
end
end Law
/-! Plain law of k74, part 26: values with one part changed, with a step put in. -/
namespace Law
open PySem PySem.Spec PyProof.Rows L2 Rf
section
variable {n b : Nat} {s : wld.T}
theorem run33 {m : Nat} (hm : 3 ≤ m) (hm2 : m ≤ 1000) : ∀ (q : Nat) {b : Nat} {s : wld.T} {d : D} {Q : D → wld.T → Prop}, q ≤ 60 → okD m q d = true → Bud b s → 2 * q + 1 ≤ b →
    (∀ x s', okD (m + 1) (q + 1) x = true → Bud (b - (2 * q + 1)) s' → Q x s') → Ok (G (n + 3 + q) 33 [.drw, .dat d] s) Q := by
  have odd : ∀ (q N : Nat) {b : Nat} {s : wld.T} {d : D} {Q : D → wld.T → Prop}, okD m q d = true → Bud b s → 1 ≤ b → (∀ x s', okD (m + 1) (q + 1) x = true → Bud (b - 1) s' → Q x s') → Ok (G (N + 2) 32 [.drw, .dat d] s) Q := fun q N {b s d Q} hd hB hb k => run32 (q := q) hm hm2 (ok_mono hd (by omega)) hB hb k
  intro q
  induction q with
  | zero =>
    intro b s d Q _ hd hB hb k
    have hpl := okD_plain hd
    have nt : ∀ ts, d ≠ .tup ts := fun ts e => by subst e; simp [okD] at hd
    rw [G_eq (fd := f33) rfl rfl]
    simp -implicitDefEqProofs [f33, b33, isTy_not nt, hpl]
    exact odd 0 n hd hB hb k
  | succ q ih =>
    intro b s d Q hq hd hB hb k
    have hpl := okD_plain hd
    have en : n + 3 + (q + 1) = (n + 3 + q) + 1 := by omega
    have en2 : n + 3 + q = (n + 1 + q) + 2 := by omega
    rw [en, G_eq (fd := f33) rfl rfl]
    rcases tup_or d with ⟨xs, rfl⟩ | nt
    · obtain ⟨q', e, hl, ho⟩ := okD_tup hd
      cases e
      have sh : shaped (.tup xs) = true := okD_shaped hd (by omega)
      have sh0 : shaped (.tup []) = true := by decide
      have on : opD .ne (.tup xs) (.tup []) = some (.bl (!xs.isEmpty)) := by
        rw [o_ne sh sh0]
        cases xs <;> simp [eqvD, toPy, toPyA, PyData.eqv, PyData.eqvAll]
      cases he : xs.isEmpty with
      | true =>
        rw [he] at on
        simp -implicitDefEqProofs [f33, b33, on]
        rw [en2]
        exact odd _ _ hd hB (by omega) fun x s' h1 h2 => k _ _ h1 (h2.le (by omega))
      | false =>
        rw [he] at on
        have l1 : 1 ≤ xs.length := by cases xs <;> simp_all
        simp -implicitDefEqProofs [f33, b33, on]
        refine draw_ok hB (by omega) (by omega) (by omega) fun r s1 h0 hr1 hs1 => ?_
        by_cases hr : 0 < r
        · simp -implicitDefEqProofs [hr]
          refine draw_ok hs1 (by omega) (by omega) (by omega) fun r2 s2 h2 hr2 hs2 => ?_
          obtain ⟨at', rfl⟩ := Int.eq_ofNat_of_zero_le h2
          have al : at' < xs.length := by omega
          have ga : xs[at']? = some xs[at'] := List.getElem?_eq_getElem al
          simp -implicitDefEqProofs [slc_to, atN ga]
          refine ih (by omega) (ho _ (List.getElem_mem al)) hs2 (by omega) fun x s3 hx hs3 => ?_
          have z1 : min at' xs.length + 1 ≤ 16777216 := by omega
          have z2 : min at' xs.length + 1 + (xs.length - (at' + 1)) ≤ 16777216 := by omega
          simp -implicitDefEqProofs [z1, z2, slc_from1, set_eq al]
          refine k _ _ (okT (by rw [List.length_set]; omega) fun y hy => ?_) (hs3.le (by omega))
          rcases List.mem_or_eq_of_mem_set hy with hy | rfl
          · exact ok_up (ho y hy) (by omega) (by omega)
          · exact hx
        · simp -implicitDefEqProofs [hr]
          rw [en2]
          exact odd _ _ hd hs1 (by omega) fun x s' h1 h2 => k _ _ h1 (h2.le (by omega))
    · simp -implicitDefEqProofs [f33, b33, isTy_not nt, hpl]
      rw [en2]
      exact odd _ _ hd hB (by omega) fun x s' h1 h2 => k _ _ h1 (h2.le (by omega))
theorem sub_1 {d : D} (h : isStep d = true) : ∃ i : Int, subD d (.int 1) = some (.int i) := by
  rcases step_cases h with ⟨j, rfl, _⟩ | ⟨j, v, rfl, _⟩ <;> exact ⟨j, by simp⟩
theorem run34 {xs : List D} {Q : D → wld.T → Prop} (H : HOk xs) (hne : placesF 0 xs ≠ []) (hB : Bud b s) (hb : 10 ≤ b)
    (k : ∀ x s', okD 20 8 x = true → Bud (b - 10) s' → Q x s') : Ok (G (n + 2) 34 [.drw, .dat (.tup [.str "history", .tup xs])] s) Q := by
  rw [G_eq (fd := f34) rfl rfl]
  generalize hd : D.tup [.str "history", .tup xs] = d
  have hd' : (Rf.Arg.dat d).d = .tup [.str "history", .tup xs] := hd.symm
  have sb : subD d (.int 1) = some (.tup xs) := by rw [← hd]; simp
  have p40 := places40 H
  have l5 := H.l5
  have r15 := fun s => run15 (n := n) (a := .dat d) (s := s) rfl hd' (hx1 H) (by omega)
  simp -implicitDefEqProofs [f34, b34, r15]
  refine run12 (b := b) (xs := (placesF 0 xs).map plD) rfl rfl hB (by omega) (by simpa using hne) (by simp; omega) fun x hx s1 hs1 => ?_
  obtain ⟨p, pm, rfl⟩ := List.mem_map.mp hx
  obtain ⟨ht, hj⟩ := place_in pm
  obtain ⟨ts, ss, g1, g2, g3, g4⟩ := at_place H.se ht hj
  have t8 : ts.length ≤ 8 ∧ ∀ t ∈ ts, transB t = true := by
    obtain ⟨_, e, l, ht⟩ := sess_of (H.se _ (List.mem_of_getElem? g1))
    cases e
    exact ⟨l, ht⟩
  obtain ⟨_, e, l1, l12, hst, _⟩ := trans_of g4
  cases e
  have r16 := fun s => run16 (n := n) (a := .dat d) (a2 := .dat (plD p)) (s := s) rfl rfl hd' rfl g1 g2
  have sne : ss ≠ [] := by intro z; subst z; simp at l1
  simp -implicitDefEqProofs [r16]
  refine run12 (b := b - 1) (xs := (placesF 0 xs).map plD) rfl rfl hs1 (by omega) (by simpa using hne) (by simp; omega) fun x hx s2 hs2 => ?_
  obtain ⟨p2, pm2, rfl⟩ := List.mem_map.mp hx
  refine draw_ok hs2 (by omega) (by omega) (by omega) fun r s3 h0 hr3 hs3 => ?_
  obtain ⟨j, rfl⟩ := Int.eq_ofNat_of_zero_le h0
  have jl : j < ss.length := by omega
  simp -implicitDefEqProofs [r16]
  refine run12 (b := b - 1 - 1 - 1) (xs := ss) rfl rfl hs3 (by omega) sne (by omega) fun x hx s4 hs4 => ?_
  obtain ⟨i1, hi1⟩ := sub_1 (hst x hx)
  simp -implicitDefEqProofs [hi1]
  refine run12 (b := b - 1 - 1 - 1 - 1) (xs := [.int i1, .int 0, .int 1, .int 9999]) rfl rfl hs4 (by omega) (by simp) (by simp) fun y hy s5 hs5 => ?_
  obtain ⟨key, rfl⟩ : ∃ key : Int, y = .int key := by
    simp at hy
    rcases hy with rfl | rfl | rfl | rfl <;> exact ⟨_, rfl⟩
  try simp -implicitDefEqProofs
  refine run12 (b := b - 1 - 1 - 1 - 1 - 1) (xs := [.non, .tup [.int 0, .int 0], plD p, plD p2, .tup [.int 0, .int 7], .tup [.int 4, .int 0]]) rfl rfl hs5 (by omega) (by simp) (by simp) fun v hv s6 hs6 => ?_
  have ov : okD 3 1 v = true := by
    simp at hv
    rcases hv with rfl | rfl | rfl | rfl | rfl | rfl <;> simp [plD, okD, okA]
  try simp -implicitDefEqProofs
  refine run12 (b := b - 1 - 1 - 1 - 1 - 1 - 1) (xs := [.tup [.str "write", .int key], .tup [.str "read", .int key, v]]) rfl rfl hs6 (by omega) (by simp) (by simp) fun fr hf s7 hs7 => ?_
  have of' : okD 20 2 fr = true := by
    simp at hf
    rcases hf with rfl | rfl
    · exact okT (by simp) (by simp)
    · exact okT (by simp) (by simp; exact ok_up ov (by omega) (by omega))
  simp -implicitDefEqProofs [slc_to]
  have z1 : min j ss.length + 1 ≤ 16777216 := by omega
  simp -implicitDefEqProofs [z1]
  refine draw_ok hs7 (by omega) (by omega) (by omega) fun r s8 h0 hr8 hs8 => ?_
  obtain ⟨r', rfl⟩ := Int.eq_ofNat_of_zero_le h0
  have ec : (j : Int) + (r' : Int) = ((j + r' : Nat) : Int) := by omega
  have q1 := (List.getElem?_eq_some_iff.mp g1).1
  have q2 := (List.getElem?_eq_some_iff.mp g2).1
  have z2 : min j ss.length + 1 + (ss.length - (j + r')) ≤ 16777216 := by omega
  have z4 : min p.2 ts.length + 1 ≤ 16777216 := by omega
  have z5 : min p.2 ts.length + 1 + (ts.length - (p.2 + 1)) ≤ 16777216 := by omega
  have z6 : min p.1 xs.length + 1 ≤ 16777216 := by omega
  have z7 : min p.1 xs.length + 1 + (xs.length - (p.1 + 1)) ≤ 16777216 := by omega
  try simp -implicitDefEqProofs
  have sl2 : slcD (.tup ss) (some ((j : Int) + (r' : Int))) none = some (.tup (ss.drop (j + r'))) := by rw [ec, slc_from]
  simp -implicitDefEqProofs [sl2, z2, sb, atN g1, slc_to, z4, z5, z6, z7, slc_from1, set_eq q1, set_eq q2]
  refine k _ _ ?_ (hs8.le (by omega))
  refine okT (m := 20) (n := 7) (by simp) ?_
  have oxs : ∀ x ∈ xs, okD 20 6 x = true := fun x hx => ok_up (ok_sess (m := 20) (by omega) (H.se x hx)) (by omega) (by omega)
  have ots : ∀ x ∈ ts, okD 20 5 x = true := fun x hx => ok_up (ok_trans (m := 20) (by omega) (t8.2 x hx)) (by omega) (by omega)
  have oss : ∀ x ∈ ss, okD 20 4 x = true := fun x hx => ok_up (ok_step (m := 20) (by omega) (hst x hx)) (by omega) (by omega)
  simp only [List.mem_cons, List.not_mem_nil, or_false, forall_eq_or_imp, forall_eq]
  refine ⟨by simp, okT (by rw [List.length_set]; omega) fun x hx => ?_⟩
  rcases List.mem_or_eq_of_mem_set hx with hx | rfl
  · exact oxs x hx
  · refine okT (by rw [List.length_set]; omega) fun y hy => ?_
    rcases List.mem_or_eq_of_mem_set hy with hy | rfl
    · exact ots y hy
    · refine okT (by simp; omega) fun w hw => ?_
      rcases List.mem_append.mp hw with hw | hw
      · exact oss w (List.mem_of_mem_take hw)
      · rcases List.mem_cons.mp hw with rfl | hw
        · exact ok_up of' (by omega) (by omega)
        · exact oss w (List.mem_of_mem_drop hw)
end
end Law
/-! Plain law of k74, part 27: the law. -/
namespace Rf
open PySem PySem.Spec PyProof.Rows L2
@[simp] theorem bi_min (i j : Int) : biD .min [.int i, .int j] = some (.int (if j < i then j else i)) := rfl
@[simp] theorem bi_lenS (n : Nat) : biD .len [.scr n] = some (.int n) := rfl
@[simp] theorem pickA_one (a : Arg) : pickA [0] [a] = some [a] := rfl
end Rf
namespace Law
open PySem PySem.Spec PyProof.Rows L2 Rf
def eL (k : Nat) (o2 o3 o4 o5 : Option D) : En := [.bor (.scr k), .drw, sl o2, sl o3, sl o4, sl o5, .non, .non, .non, .non]
def I35 (k b : Nat) (i : Nat) (e : En) (s : wld.T) : Prop := ∃ o2 o3 o4 o5, e = eL k o2 o3 o4 o5 ∧ Bud (b - 5000 * i) s
def J35 (k b : Nat) (o2 o3 : Option D) (i : Nat) (e : En) (s : wld.T) : Prop := ∃ o4 o5, e = eL k o2 o3 o4 o5 ∧ Bud (b - 50 * i) s
def K35 (k b : Nat) (o2 o3 o4 : Option D) (i : Nat) (e : En) (s : wld.T) : Prop := ∃ o5, e = eL k o2 o3 o4 o5 ∧ Bud b s
theorem G8 {m k : Nat} {d : D} {s : wld.T} (hp : okD m k d = true) (hk : k ≤ 60) (hm : m ≤ 1000) : G 30 8 [.dat d] s = .ok (.bl (histB d)) s := run8 (n := 25) (a := .dat d) rfl hp hk hm
theorem G18 {m k : Nat} {d : D} {s : wld.T} (hp : okD m k d = true) (hk : k ≤ 60) (hm : m ≤ 1000) : G 30 18 [.dat d] s = .ok (.bl (histB d)) s := run18 (n := 24) (a := .dat d) rfl hp hk hm
theorem G30 {x y : Bool} {s : wld.T} : G 30 30 [.dat (.bl x), .dat (.bl y)] s = .ok (.bl (x == y)) s := run30 (n := 29)
section
variable {b : Nat} {s : wld.T}
def partA : MS := (.loop (.one 2) (.rng (.cst (.int 0)) (.op .add (.e (.cst (.int 3))) (.e (.bi .min (.cons (.e (.bi .len (.cons (.pk 0) .nil))) (.cons (.e (.cst (.int 5))) .nil)))))) (.cons (.asg 3 (.call 29 (.cons (.lend 1) (.cons (.val (.op .add (.e (.cst (.int 1))) (.e (.take 1 (.cst (.int 4)))))) (.cons (.val (.cst (.int 2))) (.cons (.val (.cst (.int 4))) .nil)))))) (.cons (.ite (.not (.call 30 (.cons (.val (.call 8 (.cons (.lend 3) .nil))) (.cons (.val (.cst (.bl true))) .nil)))) (.cons (.ret (.cst (.bl false))) .nil) .nil) (.cons (.loop (.one 4) (.rng (.cst (.int 0)) (.cst (.int 10))) (.cons (.loop (.one 5) (.seq (.e (.lst (.cons (.call 33 (.cons (.lend 1) (.cons (.lend 3) .nil))) (.cons (.call 34 (.cons (.lend 1) (.cons (.lend 3) .nil))) (.cons (.call 31 (.cons (.lend 1) (.cons (.lend 3) .nil))) .nil)))))) (.cons (.ite (.not (.call 30 (.cons (.val (.callk 8 [0] (.cons (.lend 5) .nil))) (.cons (.val (.call 18 (.cons (.lend 5) .nil))) .nil)))) (.cons (.ret (.cst (.bl false))) .nil) .nil) .nil)) .nil)) .nil))))
theorem partA_run {k : Nat} {Q : Out → wld.T → Prop} (hk : k ≤ 63) (hB : Bud b s) (hb : 60000 ≤ b) (K : ∀ o2 o3 o4 o5 s', Bud (b - 50000) s' → Q (.nxt (eL k o2 o3 o4 o5)) s') : Ok (denS (G 30) partA (eL k none none none none) s) Q := by
  obtain ⟨q, hq, hq8⟩ : ∃ q : Nat, (3 + (if (5 : Int) < k then (5 : Int) else k)) = (q : Int) ∧ q ≤ 8 := by
    split
    · exact ⟨8, by omega, by omega⟩
    · exact ⟨3 + k, by omega, by omega⟩
  unfold partA
  rw [xS_loop, loopOk_rng, if_pos rfl]
  have e3 : denI (G 30) (.rng (.cst (.int 0)) (.op .add (.e (.cst (.int 3))) (.e (.bi .min (.cons (.e (.bi .len (.cons (.pk 0) .nil))) (.cons (.e (.cst (.int 5))) .nil)))))) (eL k none none none none) s = .ok ((List.range q).map fun (k : Nat) => .int k) s := by
    simp -implicitDefEqProofs [eL, hq, rng0 (n := q) (by omega)]
  rw [e3, Rs.bind_ok, Ok_calmIf]
  refine loop_inv (I35 k b) ⟨none, none, none, none, rfl, by simpa using hB⟩ ?_ ?_
  · rintro i d e s1 hg ⟨o2, o3, o4, o5, rfl, hs1⟩
    obtain ⟨il, rfl⟩ := rng_get hg
    refine ⟨_, rfl, ?_⟩
    simp -implicitDefEqProofs [eL]
    refine draw_ok hs1 (by omega) (by omega) (by omega) fun r s2 h0 hr2 hs2 => ?_
    obtain ⟨r', rfl⟩ := Int.eq_ofNat_of_zero_le h0
    have e1 : (1 : Int) + (r' : Int) = ((1 + r' : Nat) : Int) := by omega
    try simp -implicitDefEqProofs
    rw [e1]
    refine run29 (n := 26) (ns := 1 + r') (each := 2) (steps := 4) (by omega) (by omega) (by omega) hs2 (by omega) fun xs s3 H hne hs3 => ?_
    have hh : histB (.tup [.str "history", .tup xs]) = true := hist_iff.mpr ⟨xs, rfl, H⟩
    have ho := ok_hist (m := 12) (by omega) hh
    have r10 : rngD (.int 0) (.int 10) = some ((List.range 10).map fun (k : Nat) => .int k) := rng0 (n := 10) (by omega)
    simp -implicitDefEqProofs [G8 ho (by omega) (by omega), hh, G30, r10]
    refine loop_inv (J35 k (b - 5000 * i - 1 - 4000) (some (.int i)) (some (.tup [.str "history", .tup xs]))) ⟨o4, o5, rfl, hs3.le (by omega)⟩ ?_ ?_
    · rintro j d e s4 hg ⟨o4, o5, rfl, hs4⟩
      have jl := (rng_get hg).1
      refine ⟨_, rfl, ?_⟩
      simp -implicitDefEqProofs [eL]
      refine run33 (n := 21) (m := 12) (by omega) (by omega) 6 (by omega) ho hs4 (by omega) fun x1 s5 h1 hs5 => ?_
      try simp -implicitDefEqProofs
      refine run34 (n := 28) H hne hs5 (by omega) fun x2 s6 h2 hs6 => ?_
      try simp -implicitDefEqProofs
      refine run31 (n := 28) H hs6 (by omega) fun x3 s7 h3 hs7 => ?_
      try simp -implicitDefEqProofs
      refine loop_inv (K35 k (b - 5000 * i - 1 - 4000 - 50 * (j + 1)) (some (.int i)) (some (.tup [.str "history", .tup xs])) (some d)) ⟨o5, rfl, hs7.le (by omega)⟩ ?_ ?_
      · rintro u x e s8 hg ⟨o5, rfl, hs8⟩
        have ox : okD 20 8 x = true := by
          have hx := List.mem_of_getElem? hg
          simp at hx
          rcases hx with rfl | rfl | rfl
          · exact ok_up h1 (by omega) (by omega)
          · exact h2
          · exact h3
        refine ⟨_, rfl, ?_⟩
        simp -implicitDefEqProofs [eL, G8 ox (by omega) (by omega), G18 ox (by omega) (by omega), G30]
        exact ⟨some _, rfl, hs8⟩
      · rintro e s8 ⟨o5, rfl, hs8⟩
        try simp -implicitDefEqProofs
        exact ⟨some _, o5, rfl, hs8⟩
    · rintro e s4 ⟨o4, o5, rfl, hs4⟩
      simp only [List.length_map, List.length_range] at hs4
      try simp -implicitDefEqProofs
      exact ⟨some _, some _, o4, o5, rfl, hs4.le (by omega)⟩
  · rintro e s1 ⟨o2, o3, o4, o5, rfl, hs1⟩
    simp only [List.length_map, List.length_range] at hs1
    exact K _ _ _ _ _ (hs1.le (by omega))
end
end Law
/-! Plain law of k74, part 28: the law's end. -/
namespace Law
open PySem PySem.Spec PyProof.Rows L2 Rf
def wst (k : Int) : D := .tup [.str "write", .int k]
def rst (k : Int) : D := .tup [.str "read", .int k, .non]
def NoVer (d : D) : Prop := ∀ xs p, verB xs p d = true
theorem noVer_w (k : Int) : NoVer (wst k) := fun _ _ => rfl
theorem noVer_r (k : Int) : NoVer (rst k) := fun _ _ => rfl
theorem vers_none {xs : List D} (h : ∀ ts, D.tup ts ∈ xs → ∀ ss, D.tup ss ∈ ts → ∀ d ∈ ss, NoVer d) : versB xs = true := by
  simp only [versB, List.all_eq_true]
  rintro ⟨s, k⟩ hp d hd
  simp only at hd
  unfold trN at hd
  split at hd
  · next ts h1 =>
    split at hd
    · next ss h2 => exact h ts (List.mem_of_getElem? h1) ss (List.mem_of_getElem? h2) d hd _ _
    · cases hd
  · cases hd
def oneD (k : Int) : D := .tup [wst k]
def longD (k : Int) : D := .tup (List.replicate 11 (rst k) ++ [wst k])
def long2D (k : Int) : D := .tup (List.replicate 11 (rst k) ++ [wst k, wst k])
def hD (xs : List D) : D := .tup [.str "history", .tup xs]
def things (key k : Int) : List D := [hD [.tup [wst k]], hD (List.replicate 5 (.tup (List.replicate 8 (oneD k)))), hD [.tup (List.replicate 9 (oneD k))], hD (List.replicate 6 (.tup [oneD k])), hD [.tup [longD key]],
  hD [.tup [long2D key]], hD [.tup []], hD [.tup [], .tup [longD key], .tup []], hD []]
theorem hi_h : isHi (.str "history") = true := isHi_iff.mpr rfl
theorem hist_eq (xs : List D) : histB (hD xs) = (decide (1 ≤ xs.length) && (decide (xs.length ≤ 5) && (xs.all sessB && versB xs))) := by
  simp only [hD, histB, hi_h, Bool.true_and]
theorem d0_w (k : Int) : d0 (wst k) = .str "write" := rfl
theorem d0_r (k : Int) : d0 (rst k) = .str "read" := rfl
theorem k1_r (k : Int) : k1 (rst k) = k := rfl
theorem okRep {c m n : Nat} {x : D} (h : c ≤ m) (hx : okD m n x = true) : okD m (n + 1) (.tup (List.replicate c x)) = true := okT (by simpa using h) fun y hy => by rw [List.eq_of_mem_replicate hy]; exact hx
theorem ok1 {m n : Nat} {x : D} (h : 1 ≤ m) (hx : okD m n x = true) : okD m (n + 1) (.tup [x]) = true := okT (by simpa using h) (by simpa using hx)
section
variable {key k : Int} (hk : 0 ≤ k ∧ k ≤ 9999) (hy : 0 ≤ key ∧ key ≤ 9999)
include hk in
theorem step_w : isStep (wst k) = true := by simp [wst, isStep, isKeyB, hk]
include hy in
theorem step_r : isStep (rst key) = true := by simp [rst, isStep, isKeyB, hy, isVer]
include hk in
theorem trans_one : transB (oneD k) = true := by
  simp [oneD, transB, step_w hk, noRW, d0_w]
include hy in
theorem trans_long : transB (longD key) = true := by
  have h1 := step_w hy
  have h2 := step_r hy
  simp only [longD, transB, List.replicate]
  simp [h1, h2, noRW, d0_w, d0_r, k1_r]
theorem trans_long2 : transB (long2D key) = false := by
  simp only [long2D, transB, List.replicate]
  simp
include hk hy in
theorem bools_ok : (things key k).tail.map histB = [true, false, false, true, false, true, true, false] := by
  have t1 := trans_one hk
  have t2 := trans_long hy
  have t3 := trans_long2 (key := key)
  have v1 : versB (List.replicate 5 (.tup (List.replicate 8 (oneD k)))) = true := vers_none fun ts h ss h2 d hd => by
    have e := List.eq_of_mem_replicate h
    cases e
    have e := List.eq_of_mem_replicate h2
    cases e
    simp at hd
    subst hd
    exact noVer_w k
  have nl : ∀ ss, D.tup ss = longD key → ∀ d ∈ ss, NoVer d := fun ss e d hd => by
    unfold longD at e
    cases e
    rcases List.mem_append.mp hd with hd | hd
    · rw [List.eq_of_mem_replicate hd]; exact noVer_r key
    · simp at hd; subst hd; exact noVer_w key
  have v2 : versB [.tup [longD key]] = true := vers_none fun ts h ss h2 d hd => by
    simp at h
    subst h
    simp at h2
    exact nl ss h2 d hd
  have v3 : versB [.tup []] = true := vers_none fun ts h ss h2 d hd => by
    simp at h
    subst h
    cases h2
  have v4 : versB [.tup [], .tup [longD key], .tup []] = true := vers_none fun ts h ss h2 d hd => by
    simp at h
    rcases h with rfl | rfl | rfl
    · cases h2
    · simp at h2
      exact nl ss h2 d hd
    · cases h2
  have s1 : sessB (.tup (List.replicate 8 (oneD k))) = true := by simp [sessB, t1]
  have s2 : sessB (.tup (List.replicate 9 (oneD k))) = false := by simp [sessB]
  have s3 : sessB (.tup [longD key]) = true := by simp [sessB, t2]
  have s4 : sessB (.tup [long2D key]) = false := by simp [sessB, t3]
  have s5 : sessB (.tup []) = true := by simp [sessB]
  simp only [things, List.tail_cons, List.map_cons, List.map_nil, hist_eq, v1, v2, v3, v4]
  simp [-List.reduceReplicate, s1, s2, s3, s4, s5]
theorem ok_things : ∀ x ∈ things key k, okD 20 8 x = true := by
  have o1 : ∀ {m n : Nat} (i : Int), okD (m + 2) (n + 1) (wst i) = true := fun i => okT (by simp) (by simp)
  have o2 : ∀ {m n : Nat} (i : Int), okD (m + 3) (n + 1) (rst i) = true := fun i => okT (by simp) (by simp)
  have o3 : ∀ {n : Nat} (i : Int), okD 20 (n + 2) (oneD i) = true := fun i => okT (by simp) (by simpa using o1 i)
  have o4 : ∀ {n : Nat} (i : Int), okD 20 (n + 2) (longD i) = true := fun {n} i => okT (by simp) fun x hx => by
    rcases List.mem_append.mp hx with hx | hx
    · rw [List.eq_of_mem_replicate hx]; exact o2 i
    · simp at hx; subst hx; exact o1 i
  have o5 : ∀ {n : Nat} (i : Int), okD 20 (n + 2) (long2D i) = true := fun {n} i => okT (by simp) fun x hx => by
    rcases List.mem_append.mp hx with hx | hx
    · rw [List.eq_of_mem_replicate hx]; exact o2 i
    · simp at hx; subst hx; exact o1 i
  have oh : ∀ xs : List D, xs.length ≤ 20 → (∀ x ∈ xs, okD 20 6 x = true) → okD 20 8 (hD xs) = true := fun xs l h => okT (n := 7) (by simp) (by simp; exact okT l h)
  intro x hx
  simp only [things, List.mem_cons, List.not_mem_nil, or_false] at hx
  rcases hx with rfl | rfl | rfl | rfl | rfl | rfl | rfl | rfl | rfl
  · exact oh _ (by simp) (by simpa using ok1 (by omega) (o1 k))
  · exact oh _ (by simp) fun y hy => by rw [List.eq_of_mem_replicate hy]; exact okRep (by omega) (o3 k)
  · exact oh _ (by simp) (by simp only [List.mem_cons, List.not_mem_nil, or_false, forall_eq]; exact okRep (by omega) (o3 k))
  · exact oh _ (by simp) fun y hy => by rw [List.eq_of_mem_replicate hy]; exact ok1 (by omega) (o3 k)
  · exact oh _ (by simp) (by simpa using ok1 (by omega) (o4 key))
  · exact oh _ (by simp) (by simpa using ok1 (by omega) (o5 key))
  · exact oh _ (by simp) (by simp [okD, okA])
  · exact oh _ (by simp) (by simp only [List.mem_cons, List.not_mem_nil, or_false, forall_eq_or_imp, forall_eq]; exact ⟨by simp [okD, okA], ok1 (by omega) (o4 key), by simp [okD, okA]⟩)
  · exact oh _ (by simp) (by simp)
end
end Law
/-! Plain law of k74, part 29: the law means True. -/
namespace Law
open PySem PySem.Spec PyProof.Rows L2 Rf
theorem names_len : (namesOf p35).length = 10 := by kernel_rfl
theorem begun_bud (ns : List Int) : Bud 60100 (some (begunF ns)) := ⟨begunF ns, rfl, by simp [begunF], by simp [begunF, turnMost]⟩
theorem eqv_bools (xs : List Bool) : eqvD (.lst (xs.map .bl)) (.lst (xs.map .bl)) = true := by
  simp only [eqvD, toPy]
  unfold PyData.eqv
  induction xs with
  | nil => simp [toPyA, PyData.eqvAll]
  | cons x xs ih => simp [toPyA, toPy, PyData.eqvAll, PyData.eqv, ih]
theorem final_same {s : wld.T} : G 30 30 [.dat (.lst [.bl true, .bl false, .bl false, .bl true, .bl false, .bl true, .bl true, .bl false]), .dat (.lst [.bl true, .bl false, .bl false, .bl true, .bl false, .bl true, .bl true, .bl false])] s = .ok (.bl true) s := by
  have hr : biD .repr [.lst [.bl true, .bl false, .bl false, .bl true, .bl false, .bl true, .bl true, .bl false]] = some (.str "[True, False, False, True, False, True, True, False]") := by
    show reprD _ = _
    unfold reprD
    rw [if_pos (by decide +kernel)]
    congr 2
  have s1 : shaped (.str "[True, False, False, True, False, True, True, False]") = true := by decide +kernel
  show G (29 + 1) 30 _ s = _
  rw [G_eq (fd := f30) rfl rfl]
  simp -implicitDefEqProofs [f30, b30, hr]
  rw [o_eqS s1 s1]
  simp
section
variable {s : wld.T}
theorem partB_run {k : Nat} {o2 o3 o4 o5 : Option D} {b : Nat} (hB : Bud b s) (hb : 2 ≤ b) : ∃ s', denSs (G 30) (match b35 with
    | .cons _ r => r
    | .nil => .nil) (eL k o2 o3 o4 o5) s = .ok (.ret (.bl true)) s' := by
  have key : Ok (denSs (G 30) (match b35 with
    | .cons _ r => r
    | .nil => .nil) (eL k o2 o3 o4 o5) s) fun o _ => o = .ret (.bl true) := by
    simp -implicitDefEqProofs [b35, eL]
    refine draw_ok hB (by omega) (by omega) (by omega) fun key s1 y0 y1 hs1 => ?_
    try simp -implicitDefEqProofs
    refine draw_ok hs1 (by omega) (by omega) (by omega) fun kk s2 k0 k1 hs2 => ?_
    have m1 : ∀ x : D, opD .mul (.tup [x]) (.int 1) = some (.tup (List.replicate 1 x)) := fun x => mul_t x (by omega)
    have m5 : ∀ x : D, opD .mul (.tup [x]) (.int 5) = some (.tup (List.replicate 5 x)) := fun x => mul_t x (by omega)
    have m6 : ∀ x : D, opD .mul (.tup [x]) (.int 6) = some (.tup (List.replicate 6 x)) := fun x => mul_t x (by omega)
    have m8 : ∀ x : D, opD .mul (.tup [x]) (.int 8) = some (.tup (List.replicate 8 x)) := fun x => mul_t x (by omega)
    have m9 : ∀ x : D, opD .mul (.tup [x]) (.int 9) = some (.tup (List.replicate 9 x)) := fun x => mul_t x (by omega)
    have m11 : ∀ x : D, opD .mul (.tup [x]) (.int 11) = some (.tup (List.replicate 11 x)) := fun x => mul_t x (by omega)
    have oi : ∀ x : D, opD .mul (.tup [x]) (.int 1) = some (.tup [x]) := fun x => m1 x
    simp -implicitDefEqProofs [-List.reduceReplicate, oi, m5, m6, m8, m9, m11]
    have hc8 : ∀ (x0 x1 x2 x3 x4 x6 x7 x8 x9 : Slot) (ys : List D) (s : wld.T), (∀ x ∈ ys, x ∈ things key kk) → ys.length ≤ 9 → lcLoop [5] (.one 5) (denC (G 30) .no) (denE (G 30) (.call 8 (.cons (.lend 5) .nil))) [x0, x1, x2, x3, x4, .non, x6, x7, x8, x9] ys [] s = .ok (ys.map fun d => .bl (histB d)) s := fun x0 x1 x2 x3 x4 x6 x7 x8 x9 ys s hys hl => by
      rw [lc_pure (p := fun _ => true) (g := fun d => .bl (histB d))]
      · simp
      · intro d hd
        refine ⟨_, rfl, by simp, fun _ => ?_⟩
        simp -implicitDefEqProofs [G8 (ok_things d (hys d hd)) (by omega) (by omega)]
      · simp; omega
    have hc18 : ∀ (x0 x1 x2 x3 x4 x6 x7 x8 x9 : Slot) (ys : List D) (s : wld.T), (∀ x ∈ ys, x ∈ things key kk) → ys.length ≤ 9 → lcLoop [5] (.one 5) (denC (G 30) .no) (denE (G 30) (.call 18 (.cons (.lend 5) .nil))) [x0, x1, x2, x3, x4, .non, x6, x7, x8, x9] ys [] s = .ok (ys.map fun d => .bl (histB d)) s := fun x0 x1 x2 x3 x4 x6 x7 x8 x9 ys s hys hl => by
      rw [lc_pure (p := fun _ => true) (g := fun d => .bl (histB d))]
      · simp
      · intro d hd
        refine ⟨_, rfl, by simp, fun _ => ?_⟩
        simp -implicitDefEqProofs [G18 (ok_things d (hys d hd)) (by omega) (by omega)]
      · simp; omega
    have sh : shaped (.lst ((things key kk).map fun d => .bl (histB d))) = true := okD_shaped (m := 9) (n := 1) (okL (by simp [things]) fun x hx => by
      obtain ⟨y, _, rfl⟩ := List.mem_map.mp hx
      simp) (by omega)
    have on : opD .ne (.lst ((things key kk).map fun d => .bl (histB d))) (.lst ((things key kk).map fun d => .bl (histB d))) = some (.bl false) := by
      have e := eqv_bools ((things key kk).map histB)
      rw [List.map_map] at e
      have e2 : (things key kk).map (D.bl ∘ histB) = (things key kk).map fun d => .bl (histB d) := rfl
      rw [e2] at e
      rw [o_ne sh sh, e]
      rfl
    refine Ok_of_eq (hc8 _ _ _ _ _ _ _ _ _ (things key kk) _ (fun x h => h) (by simp [things])) ?_
    refine Ok_of_eq (hc18 _ _ _ _ _ _ _ _ _ (things key kk) _ (fun x h => h) (by simp [things])) ?_
    rw [on]
    have sl1 : ∀ (x : D) (r : List D), slcD (.lst (x :: r)) (some 1) none = some (.lst r) := fun x r => by
      simp [slcD, Rf.cutD, HT.sIx]
    simp -implicitDefEqProofs [-List.reduceReplicate, sl1]
    refine Ok_of_eq (hc8 _ _ _ _ _ _ _ _ _ (things key kk).tail _ (fun x h => List.mem_of_mem_tail h) (by simp [things])) ?_
    have e3 : ((things key kk).tail.map fun d => D.bl (histB d)) = [.bl true, .bl false, .bl false, .bl true, .bl false, .bl true, .bl true, .bl false] := by
      have e := congrArg (List.map D.bl) (bools_ok (key := key) (k := kk) ⟨k0, by omega⟩ ⟨y0, by omega⟩)
      rw [List.map_map] at e
      exact e
    rw [e3, final_same]
    simp
  obtain ⟨o, s', e, rfl⟩ := key
  exact ⟨s', e⟩
end
theorem law_mean : lawMeans fs 30 b35 (namesOf p35).length drawIx := by
  intro ns hl
  rw [names_len]
  have e0 : (startE ⟨1, 10, b35⟩ [.bor (.scr ns.length)]).set drawIx .drw = eL ns.length none none none none := rfl
  rw [e0]
  have h1 : Ok (denSs (G 30) b35 (eL ns.length none none none none) (some (begunF ns))) fun o _ => o = .ret (.bl true) := by
    have eb : b35 = .cons partA (match b35 with
      | .cons _ r => r
      | .nil => .nil) := rfl
    rw [eb, xSs_cons, Ok_bind]
    refine partA_run hl (begun_bud ns) (by omega) fun o2 o3 o4 o5 s' hs => ?_
    rw [sqK_nxt]
    obtain ⟨s2, e⟩ := partB_run (k := ns.length) (o2 := o2) (o3 := o3) (o4 := o4) (o5 := o5) hs (by omega)
    exact ⟨_, _, e, rfl⟩
  obtain ⟨o, s', e, rfl⟩ := h1
  exact ⟨s', e⟩
end Law
set_option maxHeartbeats 0 in
theorem PySem.Challenge.cw_splitfree_k74_whole_histories_judged_holds : PySem.Challenge.rw_splitfree_k74_whole_histories_judged.Holds := by
  exact Law.holds_of Law.law_mean
