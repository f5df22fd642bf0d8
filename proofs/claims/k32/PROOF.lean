import PyProof.Rows.All
import Wide.All
import OpenK.AllK
import Wide.FinOn
import HandS.ForMost
import HandS.ForExc
import HandS.Lambda
import KE.KDictKeyed
import KE.KDictCopyH
import KE.KExcIs
import HandS.IsInst
import HandS.TupAny
import HandS.Property
import HandS.ExcField
import HandS.Style
import HandS.Deep
import HandS.Rev
import KE.KExcSuper
import HandS.ExcInit
import HandS.HeadHook4
import HandS.HeadWalk
import HandS.Head2
import HandS.Comp
import HandS.Iter
import HandS.Zip
import KE.GoesMore
import KE.GoesEnum
import PyProof.CallFns
import HandS.IterVal
import HandS.Defaults
import PySem.Challenge.RW_watchplay_k32_whole_errors_first_due
set_option Elab.async false
set_option linter.all false
set_option maxRecDepth 100000
set_option maxHeartbeats 4000000
/-! D1: deep data, and how it stands in the abstract heap. -/
namespace Dl
open PySem PySem.Spec PyProof.Rows L2

/-- a Python value as data. ins: an instance (class number, fields); exc: an error (class number, fields); fn: a def of the text; tape: the law's tape -/
inductive D where
  | non | bl (b : Bool) | int (i : Int) | str (s : Str)
  | lst (xs : List D) | tup (xs : List D) | dct (kvs : List (D × D))
  | ins (c : Nat) (fs : List (Str × D)) | exc (c : Nat) (fs : List (Str × D)) | fn (i : Nat) | tape | scr (ns : List Int)

/-- where the tape stands: its dict, its list of large numbers, its list of cells -/
structure TLoc where
  ta : Addr
  la : Addr
  ca : Addr
def TN : Option TLoc → Addr → Prop
  | none, _ => False
  | some t, a => a = t.ta ∨ a = t.la ∨ a = t.ca

/-- what is fixed through the run of a law's def -/
structure Gl0 where
  K : PySem.W.Frag
  T : Option TLoc
  TB : List (Addr × Str)
  cls : Nat → Addr
  fad : Nat → Addr

/-- a leaf as a value -/
def leafV : D → Option V
  | .non => some .non
  | .bl b => some (.bl b)
  | .int i => some (.int i)
  | .str s => some (.str s)
  | _ => none

mutual
/-- the key that a value is, up to == -/
def keyD : D → Option NestedKey
  | .non => some .none
  | .bl b => some (.num (if b then 1 else 0))
  | .int i => some (.num i)
  | .str s => some (.text s)
  | .tup xs => (keyL xs).map .tup
  | .lst _ => none
  | .dct _ => none
  | .ins _ _ => none
  | .exc _ _ => none
  | .fn _ => none
  | .tape => none
  | .scr _ => none
def keyL : List D → Option (List NestedKey)
  | [] => some []
  | x :: xs => match keyD x, keyL xs with
    | some k, some ks => some (k :: ks)
    | _, _ => none
end

/-- the object at a is o -/
def RawO (a : Addr) (o : Obj) : HO := .ext fun h => h.get? a = some o
/-- an error object at a: its class, its own dict -/
def ExcO (a : Addr) (cls : Value) (d : Option Addr) : HO := .ext fun h => ∃ (oe : Obj) (vs : Array Value), h.get? a = some oe ∧ Zc cls d oe ∧ oe.data = .fields vs

/-- no key twice -/
def NDk (kvs : List (D × D)) : Prop := (kvs.map fun p => keyD p.1).Nodup
/-- an entry of a dict: its hash belongs to its key -/
def hashOk (w : World) (k : NestedKey) (h : Int) : Prop := h = k.hash w

/-- a dict of the module, as the top wrote it -/
def KD (K : PySem.W.Frag) (a : Addr) (es : Array DictEntry) : Prop := ∃ (o : Obj) (ep : Nat), K.lookup a = some o ∧ PySem.W.keepIn K (.ref a) = true ∧ o.ExactDict ∧ o.data = .dict es ep ∧ (a == sysModules) = false
/-- a list, a tuple of the module, as the top wrote it -/
def KT (K : PySem.W.Frag) (a : Addr) (xs : List V) : Prop := ∃ (o : Obj) (its : Array Value) (n : Nat), K.lookup a = some o ∧ o.cls = .type "tuple" ∧ o.data = .seq its n ∧ its.size ≤ sizeLine ∧ Vals xs its.toList

mutual
inductive Rep (w : World) (G : Gl0) (S : Addr → Prop) (H : Hp) : V → D → Prop
  | non : Rep w G S H .non .non
  | bl (b : Bool) : Rep w G S H (.bl b) (.bl b)
  | int (i : Int) : Rep w G S H (.int i) (.int i)
  | str (s : Str) : Rep w G S H (.str s) (.str s)
  | lst {a : Addr} {xs : List V} {ds : List D} : ¬ S a → H a = some (.lst xs) → RepL w G S H xs ds → Rep w G S H (.ref a) (.lst ds)
  | tup {a : Addr} {xs : List V} {ds : List D} : ¬ S a → H a = some (.tup xs) → RepL w G S H xs ds → Rep w G S H (.ref a) (.tup ds)
  | tupK {a : Addr} {xs : List V} {ds : List D} : KT G.K a xs → RepL w G S H xs ds → Rep w G S H (.ref a) (.tup ds)
  | dct {a : Addr} {o : Obj} {es : Array DictEntry} {ep : Nat} {kvs : List (D × D)} : ¬ S a → H a = some (RawO a o) → o.ExactDict → o.data = .dict es ep → (a == sysModules) = false → RepE w G S H es.toList kvs → NDk kvs → Rep w G S H (.ref a) (.dct kvs)
  | dctK {a : Addr} {es : Array DictEntry} {kvs : List (D × D)} : KD G.K a es → RepE w G S H es.toList kvs → NDk kvs → Rep w G S H (.ref a) (.dct kvs)
  | ins {a dx : Addr} {c : Nat} {fs : List (Str × V)} {ds : List (Str × D)} : ¬ S a → H a = some (.ins (G.cls c) dx fs) → RepF w G S H fs ds → Rep w G S H (.ref a) (.ins c ds)
  | exc {a : Addr} {od : Option Addr} {c : Nat} {fs : List (Str × V)} {ds : List (Str × D)} : ¬ S a → H a = some (ExcO a (.ref (G.cls c)) od) → (od = none → fs = []) → (∀ d, od = some d → ¬ S d ∧ H d = some (.xd fs)) → RepF w G S H fs ds → Rep w G S H (.ref a) (.exc c ds)
  | fn (i : Nat) : Rep w G S H (.ref (G.fad i)) (.fn i)
  | tape {t : TLoc} : G.T = some t → Rep w G S H (.ref t.ta) .tape
inductive RepL (w : World) (G : Gl0) (S : Addr → Prop) (H : Hp) : List V → List D → Prop
  | nil : RepL w G S H [] []
  | cons {x : V} {d : D} {xs : List V} {ds : List D} : Rep w G S H x d → RepL w G S H xs ds → RepL w G S H (x :: xs) (d :: ds)
inductive RepF (w : World) (G : Gl0) (S : Addr → Prop) (H : Hp) : List (Str × V) → List (Str × D) → Prop
  | nil : RepF w G S H [] []
  | cons {n : Str} {x : V} {d : D} {xs : List (Str × V)} {ds : List (Str × D)} : Rep w G S H x d → RepF w G S H xs ds → RepF w G S H ((n, x) :: xs) ((n, d) :: ds)
/-- the entries of a dict: key, value and hash of each -/
inductive RepE (w : World) (G : Gl0) (S : Addr → Prop) (H : Hp) : List DictEntry → List (D × D) → Prop
  | nil : RepE w G S H [] []
  | cons {e : DictEntry} {k v : D} {x y : V} {nk : NestedKey} {es : List DictEntry} {kvs : List (D × D)} : RelV x e.key → Rep w G S H x k → keyD k = some nk → e.hash = nk.hash w → RelV y e.val → Rep w G S H y v → RepE w G S H es kvs → RepE w G S H (e :: es) ((k, v) :: kvs)
end

/-- what is tracked stays, but for what stands in S and the tables of code objects -/
def isTbl : HO → Prop
  | .tbl _ => True
  | _ => False
def Pst (S : Addr → Prop) (H : Hp) (S' : Addr → Prop) (H' : Hp) : Prop := ∀ a o, H a = some o → ¬ S a → ¬ isTbl o → H' a = some o ∧ ¬ S' a
theorem Pst.refl {S : Addr → Prop} {H : Hp} : Pst S H S H := fun _ _ h hs _ => ⟨h, hs⟩
theorem Pst.trans {S S1 S2 : Addr → Prop} {H H1 H2 : Hp} (p : Pst S H S1 H1) (q : Pst S1 H1 S2 H2) : Pst S H S2 H2 := fun a o h hs ht =>
  let ⟨h1, s1⟩ := p a o h hs ht
  q a o h1 s1 ht

section
variable {w : World} {G : Gl0} {S S' : Addr → Prop} {H H' : Hp}
theorem rd_pst (p : Pst S H S' H') {a : Addr} {u : HO} (h : Rd H a u) (hu : ¬ isTbl u) (hs : ¬ S a) : Rd H' a u ∧ ¬ S' a := by
  rcases h with h | ⟨o, h⟩
  · obtain ⟨h1, h2⟩ := p a _ h hs hu
    exact ⟨.inl h1, h2⟩
  · obtain ⟨h1, h2⟩ := p a _ h hs (by intro z; exact z)
    exact ⟨.inr ⟨o, h1⟩, h2⟩
mutual
theorem rep_pst (p : Pst S H S' H') : ∀ {v : V} {d : D}, Rep w G S H v d → Rep w G S' H' v d
  | _, _, .non => .non
  | _, _, .bl b => .bl b
  | _, _, .int i => .int i
  | _, _, .str s => .str s
  | _, _, .lst h1 h2 h3 => let ⟨a, b⟩ := p _ _ h2 h1 (fun z => z); .lst b a (repL_pst p h3)
  | _, _, .tup h1 h2 h3 => let ⟨a, b⟩ := p _ _ h2 h1 (fun z => z); .tup b a (repL_pst p h3)
  | _, _, .tupK h2 h3 => .tupK h2 (repL_pst p h3)
  | _, _, .dct h1 h2 h3 h4 h5 h6 h7 => let ⟨a, b⟩ := p _ _ h2 h1 (fun z => z); .dct b a h3 h4 h5 (repE_pst p h6) h7
  | _, _, .dctK h2 h3 h4 => .dctK h2 (repE_pst p h3) h4
  | _, _, .ins h1 h2 h3 => let ⟨a, b⟩ := p _ _ h2 h1 (fun z => z); .ins b a (repF_pst p h3)
  | _, _, .exc h1 h2 h3 h4 h5 => let ⟨a, b⟩ := p _ _ h2 h1 (fun z => z); .exc b a h3 (fun d e => let ⟨x, y⟩ := h4 d e; let ⟨x', y'⟩ := p _ _ y x (fun z => z); ⟨y', x'⟩) (repF_pst p h5)
  | _, _, .fn i => .fn i
  | _, _, .tape h => .tape h
theorem repL_pst (p : Pst S H S' H') : ∀ {v : List V} {d : List D}, RepL w G S H v d → RepL w G S' H' v d
  | _, _, .nil => .nil
  | _, _, .cons h t => .cons (rep_pst p h) (repL_pst p t)
theorem repF_pst (p : Pst S H S' H') : ∀ {v : List (Str × V)} {d : List (Str × D)}, RepF w G S H v d → RepF w G S' H' v d
  | _, _, .nil => .nil
  | _, _, .cons h t => .cons (rep_pst p h) (repF_pst p t)
theorem repE_pst (p : Pst S H S' H') : ∀ {v : List DictEntry} {d : List (D × D)}, RepE w G S H v d → RepE w G S' H' v d
  | _, _, .nil => .nil
  | _, _, .cons h1 h2 h3 h4 h5 h6 h7 => .cons h1 (rep_pst p h2) h3 h4 h5 (rep_pst p h6) (repE_pst p h7)
end
theorem RepL.len : ∀ {v : List V} {d : List D}, RepL w G S H v d → v.length = d.length
  | _, _, .nil => rfl
  | _, _, .cons _ t => by rw [List.length_cons, List.length_cons, RepL.len t]
theorem RepL.get : ∀ {v : List V} {d : List D}, RepL w G S H v d → ∀ {i : Nat} {x : D}, d[i]? = some x → ∃ y, v[i]? = some y ∧ Rep w G S H y x
  | _, _, .nil, i, x, h => by simp at h
  | _, _, .cons h t, 0, x, e => by simp at e; subst e; exact ⟨_, rfl, h⟩
  | _, _, .cons h t, i + 1, x, e => by
    obtain ⟨y, h1, h2⟩ := RepL.get t (i := i) (x := x) (by simpa using e)
    exact ⟨y, by simpa using h1, h2⟩
theorem RepL.append : ∀ {v v' : List V} {d d' : List D}, RepL w G S H v d → RepL w G S H v' d' → RepL w G S H (v ++ v') (d ++ d')
  | _, _, _, _, .nil, s => s
  | _, _, _, _, .cons h t, s => .cons h (RepL.append t s)
end

/-! ### as PyData -/
mutual
def toPy : D → Option PyData
  | .non => some .none
  | .bl b => some (.bool b)
  | .int i => some (.int i)
  | .str s => some (.str s)
  | .lst xs => (toPyL xs).map .list
  | .tup xs => (toPyL xs).map .tuple
  | .dct _ => none
  | .ins _ _ => none
  | .exc _ _ => none
  | .fn _ => none
  | .tape => none
  | .scr _ => none
def toPyL : List D → Option (List PyData)
  | [] => some []
  | x :: xs => match toPy x, toPyL xs with
    | some k, some ks => some (k :: ks)
    | _, _ => none
end
section
variable {w : World} {G : Gl0} {S : Addr → Prop} {H : Hp}
mutual
theorem Rep.dp : ∀ (d : D) (p : PyData) (v : V), toPy d = some p → Rep w G S H v d → Dp G.K H v p
  | .non, p, v, e, h => by cases e; cases h; exact .non
  | .bl b, p, v, e, h => by cases e; cases h; exact .bl b
  | .int b, p, v, e, h => by cases e; cases h; exact .int b
  | .str b, p, v, e, h => by cases e; cases h; exact .str b
  | .lst xs, p, v, e, h => by
    unfold toPy at e
    cases q : toPyL xs with
    | none => rw [q] at e; cases e
    | some ps =>
      rw [q] at e; cases e
      cases h with
      | lst h1 h2 h3 => exact .lst (.of h2) (RepL.dp xs ps _ q h3)
  | .tup xs, p, v, e, h => by
    unfold toPy at e
    cases q : toPyL xs with
    | none => rw [q] at e; cases e
    | some ps =>
      rw [q] at e; cases e
      cases h with
      | tup h1 h2 h3 => exact .tup (.of h2) (RepL.dp xs ps _ q h3)
      | tupK h2 h3 => exact .tup (.inr h2) (RepL.dp xs ps _ q h3)
  | .dct _, p, v, e, h => by cases e
  | .ins _ _, p, v, e, h => by cases e
  | .exc _ _, p, v, e, h => by cases e
  | .fn _, p, v, e, h => by cases e
  | .tape, p, v, e, h => by cases e
  | .scr _, p, v, e, h => by cases e
theorem RepL.dp : ∀ (d : List D) (p : List PyData) (v : List V), toPyL d = some p → RepL w G S H v d → DpAll G.K H v p
  | [], p, v, e, h => by cases e; cases h; exact .nil
  | x :: xs, p, v, e, h => by
    unfold toPyL at e
    cases q : toPy x with
    | none => rw [q] at e; cases e
    | some y =>
      cases q2 : toPyL xs with
      | none => rw [q, q2] at e; cases e
      | some ys =>
        rw [q, q2] at e; cases e
        cases h with
        | cons h1 h2 => exact .cons (Rep.dp x y _ q h1) (RepL.dp xs ys _ q2 h2)
end
end
end Dl

set_option maxRecDepth 100000
set_option maxHeartbeats 4000000
/-! D2: the compact syntax, and what it does on data. -/
namespace Dl
open PySem PySem.Spec PyProof.Rows L2

/-- a value's standing: frozen, a new object of its own, the object of an own slot -/
inductive Fl where | fr | own | ali
inductive Sl where | val (d : D) | own (d : D)
abbrev Lcl := List (Option Sl)
structure Tape where
  large : List Int
  rest : Int
  cells : List Int
  turn : Int
structure Wd where
  tp : Tape
abbrev Ex := Nat × List (Str × D)
inductive Rs (α : Type) where
  | ok (a : α) (W : Wd) | err (x : Ex) (W : Wd) | stk
def Rs.bind {α β : Type} (r : Rs α) (f : α → Wd → Rs β) : Rs β := match r with
  | .ok a W => f a W
  | .err x W => .err x W
  | .stk => .stk
@[simp] theorem Rs.bind_ok {α β : Type} (a : α) (W : Wd) (f : α → Wd → Rs β) : (Rs.ok a W).bind f = f a W := rfl
@[simp] theorem Rs.bind_err {α β : Type} (x : Ex) (W : Wd) (f : α → Wd → Rs β) : (Rs.err x W : Rs α).bind f = .err x W := rfl
@[simp] theorem Rs.bind_stk {α β : Type} (f : α → Wd → Rs β) : (Rs.stk : Rs α).bind f = .stk := rfl
/-- no error may leave -/
def Rs.noerr {α : Type} (r : Rs α) : Rs α := match r with
  | .ok a W => .ok a W
  | _ => .stk
def Rs.of {α : Type} (o : Option α) (W : Wd) : Rs α := match o with
  | some a => .ok a W
  | none => .stk
@[simp] theorem Rs.of_some {α : Type} (a : α) (W : Wd) : Rs.of (some a) W = .ok a W := rfl
@[simp] theorem Rs.of_none {α : Type} (W : Wd) : (Rs.of none W : Rs α) = .stk := rfl
abbrev RV := D × Fl

/-- what isinstance is asked for -/
inductive Ty where | int | bool | str | tuple | list | dict | cls (c : Nat)

/-- built-in functions -/
inductive Bl where | len | int | abs | max2 | min2 | list | tuple | sum | all | any | repr

mutual
inductive EX where
  | stk
  | var (i : Nat)
  | con (d : D)
  | glo (x : Str) (d : D)
  | bin (op : Operator) (a b : EX)
  | neg (a : EX)
  | cmp (op : CmpOp) (a b : EX)
  | chn (op op' : CmpOp) (a b c : EX)
  | nd (a b : EX) | or (a b : EX) | nt (a : EX)
  | ite (t a b : EX)
  | tup (es : EXs) | lst (es : EXs)
  | ix (a b : EX)
  | slc (a lo hi : EX)
  | dic (kvs : EXs)
  | fld (a : EX) (x : Str)
  | cal (f : Nat) (es : EXs) (dd : List D)
  | calk (f : Nat) (es : EXs) (perm : List Nat)
  | calv (i : Nat) (es : EXs)
  | fw (a : EX) (j : Nat) (b : EX)
  | cau (b : EX)
  | mak (c : Nat) (es : EXs)
  | rev (a : EX)
  | isi (a : EX) (ts : List Ty)
  | bl (f : Bl) (es : EXs)
  | lc (tp : TP) (it : IX) (vs : List Nat) (cond elt : EX)
inductive EXs where
  | nil | cons (e : EX) (es : EXs)
/-- what a loop walks -/
inductive IX where
  | seq (e : EX) | rng1 (e : EX) | rng2 (a b : EX) | rngd (a b : EX) | enum (e : EX) | zip (a b : EX) | items (e : EX)
/-- a target -/
inductive TP where
  | nm (i : Nat) | sub (i : Nat) (k : EX) | tu (ts : TPs)
inductive TPs where
  | nil | cons (t : TP) (ts : TPs)
end

mutual
inductive SX where
  | stk
  | asg (t : TP) (e : EX)
  | set (ts : TPs) (es : EXs)
  | aug (i : Nat) (op : Operator) (e : EX)
  | augs (i : Nat) (k : EX) (op : Operator) (e : EX)
  | app (i : Nat) (e : EX)
  | frz (i : Nat) (s : SX)
  | ret (e : EX)
  | expr (e : EX)
  | ite (t : EX) (a b : SXs)
  | loop (t : TP) (it : IX) (b : SXs)
  | whl (n : Nat) (t : EX) (b : SXs)
  | brk | cnt
  | rai (c : Nat) (e : EX)
  | rais (c : Nat) (m : Str)
  | pass
inductive SXs where
  | nil | cons (s : SX) (ss : SXs)
end

/-! ### operations on data -/
def isScal : D → Bool
  | .non => true
  | .bl _ => true
  | .int _ => true
  | .str _ => true
  | .fn _ => true
  | _ => false
def fitsMul (i j : Int) : Bool := (decide (-(2 ^ 64) < i) && decide (i < 2 ^ 64)) || (decide (-(2 ^ 64) < j) && decide (j < 2 ^ 64))
def onInts {α : Type} (f : Int → Int → Option α) : D → D → Option α
  | .int i, .int j => f i j
  | _, _ => none
def addD : D → D → Option RV
  | .int i, .int j => some (.int (i + j), .fr)
  | .str x, .str y => if x.length + y.length ≤ sizeLine then some (.str (x ++ y), .fr) else none
  | .lst xs, .lst ys => if xs.length + ys.length ≤ sizeLine then some (.lst (xs ++ ys), .own) else none
  | .tup (x :: xs), .tup ys => if (x :: xs).length + ys.length ≤ sizeLine then some (.tup (x :: xs ++ ys), .fr) else none
  | _, _ => none
def mulD : D → D → Option RV
  | .int i, .int j => if fitsMul i j then some (.int (i * j), .fr) else none
  | .lst xs, .int k => if decide (-(2 ^ 63) ≤ k) && decide (k < 2 ^ 63) && decide (xs.length * k.toNat ≤ sizeLine) then some (.lst (List.replicate k.toNat xs).flatten, .own) else none
  | _, _ => none
def binD (op : Operator) (x y : D) : Option RV := match op with
  | .Add => addD x y
  | .Sub => onInts (fun i j => some (.int (i - j), .fr)) x y
  | .Mult => mulD x y
  | .FloorDiv => onInts (fun i j => if 0 < j ∧ j < 1073741824 then some (.int (i / j), .fr) else none) x y
  | .Mod => onInts (fun i j => if 0 < j then some (.int (i % j), .fr) else none) x y
  | .Pow => onInts (fun i j => if 0 ≤ j ∧ j ≤ 1000 ∧ i.natAbs < 2 ^ 64 then some (.int (i ^ j.toNat), .fr) else none) x y
  | _ => none
def eqD (x y : D) : Option Bool := match toPy x, toPy y with
  | some p, some q => if SeqAt.shaped p && SeqAt.shaped q then some (PyData.eqv p q) else none
  | _, _ => none
def isNon : D → Bool
  | .non => true
  | _ => false
/-- keys that are ints and texts -/
def isLeafD : D → Bool
  | .int _ => true
  | .str _ => true
  | _ => false
def eqK : D → D → Bool
  | .int i, .int j => decide (i = j)
  | .str i, .str j => decide (i = j)
  | _, _ => false
def findK (k : D) : List (D × D) → Option D
  | [] => none
  | (x, v) :: r => if eqK k x then some v else findK k r
def putK (k v : D) (kvs : List (D × D)) : List (D × D) := if kvs.any fun p => eqK k p.1 then kvs.map fun p => if eqK k p.1 then (p.1, v) else p else kvs ++ [(k, v)]
def keysOk (k : D) (kvs : List (D × D)) : Bool := isLeafD k && kvs.all fun p => isLeafD p.1
def dctGet (kvs : List (D × D)) (k : D) : Option (Option D) := if keysOk k kvs then some (findK k kvs) else none
def dctPut (kvs : List (D × D)) (k v : D) : Option (List (D × D)) := if keysOk k kvs && decide (kvs.length ≤ sizeLine) then some (putK k v kvs) else none
def inS (x : D) (xs : List D) : Option Bool := match toPy x, toPyL xs with
  | some p, some qs => if SeqAt.shaped p && SeqAt.shaped (.list qs) then some (qs.any fun z => PyData.eqv z p) else none
  | _, _ => none
/-- x in y -/
def inD (x y : D) : Option Bool := match y with
  | .dct kvs => (dctGet kvs x).map Option.isSome
  | .lst xs => inS x xs
  | .tup xs => inS x xs
  | _ => none
def isD (x y : D) : Option Bool := if isNon y then some (isNon x) else match x, y with
  | .bl a, .bl b => some (decide (a = b))
  | _, _ => none
def cmpD (op : CmpOp) (x y : D) : Option Bool := match op with
  | .Lt => onInts (fun i j => some (decide (i < j))) x y
  | .LtE => onInts (fun i j => some (decide (i ≤ j))) x y
  | .Gt => onInts (fun i j => some (decide (j < i))) x y
  | .GtE => onInts (fun i j => some (decide (j ≤ i))) x y
  | .Eq => eqD x y
  | .NotEq => (eqD x y).map (!·)
  | .Is => isD x y
  | .IsNot => (isD x y).map (!·)
  | .In => inD x y
  | .NotIn => (inD x y).map (!·)
def truD : D → Option Bool
  | .bl b => some b
  | _ => none
def Rs.tru (r : Rs RV) : Rs Bool := r.bind fun x W => Rs.of (truD x.1) W
def lenD : D → Option D
  | .lst xs => some (.int xs.length)
  | .tup xs => some (.int xs.length)
  | .str s => if s.length ≤ 1000 then some (.int s.length) else none
  | _ => none
def intsD : List D → Option (List Int)
  | [] => some []
  | .int i :: r => (intsD r).map (i :: ·)
  | _ :: _ => none
def blsD : List D → Option (List Bool)
  | [] => some []
  | .bl i :: r => (blsD r).map (i :: ·)
  | _ :: _ => none
/-- a display's pairs -/
def pairsD : List D → Option (List (D × D))
  | [] => some []
  | k :: v :: r => (pairsD r).map ((k, v) :: ·)
  | _ => none
def mergD : List (D × D) → List (D × D) → List (D × D)
  | acc, [] => acc
  | acc, (k, v) :: r => mergD (putK k v acc) r
def dicD (ds : List D) : Option (List (D × D)) := (pairsD ds).bind fun ps => if (ps.all fun p => isLeafD p.1) && decide (ps.length ≤ 15) then some (mergD [] ps) else none
/-- d with v put at k -/
def storeD (d k v : D) : Option D := match d, k with
  | .lst xs, .int i => (ixN xs.length i).map fun j => .lst (xs.set j v)
  | .dct kvs, k => (dctPut kvs k v).map .dct
  | _, _ => none
def ixD (x i : D) : Option D := match x, i with
  | .lst xs, .int i => atI xs i
  | .tup xs, .int i => atI xs i
  | .dct kvs, k => (dctGet kvs k).bind id
  | _, _ => none
def noPart : EX → Bool
  | .con .non => true
  | _ => false
def partD (e : EX) (d : D) : Option (Option Int) := if noPart e then some none else match d with
  | .int i => some (some i)
  | _ => none
def cutD (xs : List D) (lo hi : Option Int) : List D := (xs.drop (HT.sIx xs.length 0 lo)).take (HT.sIx xs.length xs.length hi - HT.sIx xs.length 0 lo)
def slcD (x : D) (lo hi : Option Int) : Option RV := match x with
  | .lst xs => some (.lst (cutD xs lo hi), .own)
  | .tup xs => if HT.sIx xs.length 0 lo = 0 ∧ HT.sIx xs.length xs.length hi = xs.length then none else some (.tup (cutD xs lo hi), .fr)
  | _ => none
def rngL (lo : Int) (n : Nat) : List D := (List.range n).map fun (k : Nat) => .int (lo + (k : Int))
def rng1D : D → Option (List D)
  | .int j => if -(2 ^ 62) ≤ j ∧ j < 2 ^ 62 then some (rngL 0 j.toNat) else none
  | _ => none
def rng2D : D → D → Option (List D)
  | .int i, .int j => if -(2 ^ 62) ≤ i ∧ i < 2 ^ 62 ∧ -(2 ^ 62) ≤ j ∧ j < 2 ^ 62 then some (rngL i (j - i).toNat) else none
  | _, _ => none
/-- downwards -/
def rngdL (lo : Int) (n : Nat) : List D := (List.range n).map fun (k : Nat) => .int (lo + (k : Int) * (-1))
def rngdD : D → D → Option (List D)
  | .int i, .int j => if -(2 ^ 62) ≤ i ∧ i < 2 ^ 62 ∧ -(2 ^ 62) ≤ j ∧ j < 2 ^ 62 then some (rngdL i (i - j).toNat) else none
  | _, _ => none
def enumD : List D → Nat → List D
  | [], _ => []
  | x :: xs, n => .tup [.int (n : Int), x] :: enumD xs (n + 1)
def zipD : List D → List D → List D
  | x :: xs, y :: ys => .tup [x, y] :: zipD xs ys
  | _, _ => []
def zipOf : D → D → Option (List D)
  | .lst as, .lst bs => some (zipD as bs)
  | .tup as, .tup bs => some (zipD as bs)
  | _, _ => none
def itemsD : D → Option (List D)
  | .lst xs => some xs
  | .tup xs => some xs
  | _ => none
def blD (f : Bl) (xs : List D) : Option RV := match f, xs with
  | .len, [x] => (lenD x).map fun d => (d, .fr)
  | .int, [.int i] => some (.int i, .fr)
  | .int, [.bl b] => some (.int (if b then 1 else 0), .fr)
  | .abs, [.int i] => some (.int (if i < 0 then -i else i), .fr)
  | .max2, [.int i, .int j] => some (.int (if j > i then j else i), .fr)
  | .min2, [.int i, .int j] => some (.int (if j < i then j else i), .fr)
  | .list, [x] => (itemsD x).map fun ds => (.lst ds, .own)
  | .tuple, [x] => (itemsD x).map fun ds => (.tup ds, .fr)
  | .sum, [.lst xs] => (intsD xs).map fun ns => (.int ns.sum, .fr)
  | .all, [.lst xs] => (blsD xs).map fun bs => (.bl (bs.all id), .fr)
  | .any, [.lst xs] => (blsD xs).map fun bs => (.bl (bs.any id), .fr)
  | .repr, [.bl b] => some (.str (if b then "True" else "False"), .fr)
  | _, _ => none
/-- the table of a text: its classes by number (which are of instances, which of errors), subclasses -/
structure Tbl where
  isIns : Nat → Bool
  isExc : Nat → Bool
  sub : Nat → Nat → Bool
  fld : Nat → Str → Bool
  prop : Nat → Str → Option Nat
  mkx : Nat → Option (List Str)
  fv : Nat → Bool
  cau : Nat → Bool
  mak : Nat → Option Nat
def tyD (Γ : Tbl) (x : D) (t : Ty) : Option Bool := match x with
  | .non => some false
  | .bl _ => some (match t with | .int => true | .bool => true | _ => false)
  | .int _ => some (match t with | .int => true | _ => false)
  | .str _ => some (match t with | .str => true | _ => false)
  | .tup _ => some (match t with | .tuple => true | _ => false)
  | .lst _ => some (match t with | .list => true | _ => false)
  | .dct _ => some (match t with | .dict => true | _ => false)
  | .ins c _ => if Γ.isIns c then some (match t with | .cls d => Γ.sub c d | _ => false) else none
  | .exc c _ => if Γ.isExc c then some (match t with | .cls d => Γ.sub c d | _ => false) else none
  | _ => none
def tyOk (Γ : Tbl) : Ty → Bool
  | .cls d => Γ.isIns d || Γ.isExc d
  | _ => true
def isiD (Γ : Tbl) (x : D) : List Ty → Option Bool
  | [] => some false
  | t :: ts => if tyOk Γ t then match tyD Γ x t with
    | some true => some true
    | some false => isiD Γ x ts
    | none => none
    else none
/-- a def called with data -/
abbrev CF := Nat → List D → Wd → Rs D

def vals : List RV → Bool → Option (List D)
  | [], _ => some []
  | (d, .ali) :: r, b => if b then (vals r b).map (d :: ·) else none
  | (d, _) :: r, b => (vals r b).map (d :: ·)
def notAli : Fl → Bool
  | .ali => false
  | _ => true
def anyAli : List RV → Bool
  | [] => false
  | (_, .ali) :: _ => true
  | _ :: r => anyAli r

def wipeL (L : Lcl) : List Nat → Lcl
  | [] => L
  | v :: vs => (wipeL L vs).set v none
/-- the items that a comprehension takes -/
def lcD (step : D → Wd → Rs (Option D)) : List D → Wd → Rs (List D)
  | [], W => .ok [] W
  | d :: ds, W => (step d W).bind fun o W1 => (lcD step ds W1).bind fun r W2 => .ok (match o with
    | some x => x :: r
    | none => r) W2
inductive Fw where
  | nx (L : Lcl) | rt (r : RV) | bk (L : Lcl) | ct (L : Lcl)
def slOf : RV → Option Sl
  | (d, .fr) => some (.val d)
  | (d, .own) => some (.own d)
  | (_, .ali) => none
def frzL (i : Nat) (L : Lcl) : Lcl := match L[i]? with
  | some (some (.own d)) => L.set i (some (.val d))
  | _ => L
def loopD (step : D → Lcl → Wd → Rs Fw) : List D → Lcl → Wd → Rs Fw
  | [], L, W => .ok (.nx L) W
  | d :: ds, L, W => (step d L W).bind fun f W1 => match f with
    | .nx L1 => loopD step ds L1 W1
    | .ct L1 => loopD step ds L1 W1
    | .bk L1 => .ok (.nx L1) W1
    | .rt r => .ok (.rt r) W1
def whlD (test : Lcl → Wd → Rs Bool) (body : Lcl → Wd → Rs Fw) : Nat → Lcl → Wd → Rs Fw
  | 0, _, _ => .stk
  | n + 1, L, W => (test L W).bind fun k W1 => if k then (body L W1).bind fun f W2 => match f with
      | .nx L1 => whlD test body n L1 W2
      | .ct L1 => whlD test body n L1 W2
      | .bk L1 => .ok (.nx L1) W2
      | .rt r => .ok (.rt r) W2
    else .ok (.nx L) W1
def setSl (i : Nat) (r : RV) (L : Lcl) (W : Wd) : Rs Lcl := (Rs.of (slOf r) W).bind fun s W1 => if i < L.length then .ok (L.set i (some s)) W1 else .stk
def storeSl (i : Nat) (k : D) (r : RV) (L : Lcl) (W : Wd) : Rs Lcl := match L[i]? with
  | some (some (.own d)) => if notAli r.2 then (Rs.of (storeD d k r.1) W).bind fun d' W1 => .ok (L.set i (some (.own d'))) W1 else .stk
  | _ => .stk
def TPs.len : TPs → Nat
  | .nil => 0
  | .cons _ ts => ts.len + 1
def intAt (d k : D) : Option Int := match ixD d k with
  | some (.int n) => some n
  | _ => none
def augI (op : Operator) (n : Int) : D → Option Int
  | .int b => match op with
    | .Add => some (n + b)
    | .Sub => some (n - b)
    | _ => none
  | _ => none
/-- the index of the first item that fails the test -/
def fwD (step : D → Wd → Rs Bool) : List D → Nat → Wd → Rs D
  | [], _, W => .ok .non W
  | d :: ds, i, W => (step d W).bind fun k W1 => if k then fwD step ds (i + 1) W1 else .ok (.int (i : Int)) W1
def isOwnSl : Option (Option Sl) → Bool
  | some (some (.own _)) => true
  | _ => false
def noOwn (L : Lcl) (vs : List Nat) : Bool := vs.all fun i => !isOwnSl L[i]?
def permD (perm : List Nat) (ds : List D) : List D := perm.map fun i => ds.getD i .non
def fnAt (L : Lcl) (i : Nat) : Option Nat := match L[i]? with
  | some (some (.val (.fn j))) => some j
  | _ => none
def isOwn (L : Lcl) (i : Nat) : Bool := match L[i]? with
  | some (some (.own _)) => true
  | _ => false
def isLstOwn (L : Lcl) (i : Nat) : Bool := match L[i]? with
  | some (some (.own (.lst _))) => true
  | _ => false
section
variable (Γ : Tbl) (cf : CF)
mutual
def semE : EX → Lcl → Wd → Rs RV
  | .stk, _, _ => .stk
  | .var i, L, W => match L[i]? with
    | some (some (.val d)) => .ok (d, .fr) W
    | some (some (.own d)) => .ok (d, .ali) W
    | _ => .stk
  | .con d, _, W => .ok (d, .fr) W
  | .glo _ d, _, W => .ok (d, .fr) W
  | .bin op a b, L, W => (semE a L W).bind fun x W1 => (semE b L W1).bind fun y W2 => Rs.of (binD op x.1 y.1) W2
  | .neg a, L, W => (semE a L W).bind fun x W1 => match x.1 with
    | .int i => .ok (.int (-i), .fr) W1
    | _ => .stk
  | .cmp op a b, L, W => (semE a L W).bind fun x W1 => (semE b L W1).bind fun y W2 => (Rs.of (cmpD op x.1 y.1) W2).bind fun k W3 => .ok (.bl k, .fr) W3
  | .chn op op' a b c, L, W => (semE a L W).bind fun x W1 => (semE b L W1).bind fun y W2 => (Rs.of (cmpD op x.1 y.1) W2).bind fun k W3 => if k then (semE c L W3).bind fun z W4 => (Rs.of (cmpD op' y.1 z.1) W4).bind fun k W5 => .ok (.bl k, .fr) W5 else .ok (.bl false, .fr) W3
  | .nd a b, L, W => (semE a L W).tru.bind fun k W1 => if k then semE b L W1 else .ok (.bl false, .fr) W1
  | .or a b, L, W => (semE a L W).tru.bind fun k W1 => if k then .ok (.bl true, .fr) W1 else semE b L W1
  | .nt a, L, W => (semE a L W).tru.bind fun k W1 => .ok (.bl (!k), .fr) W1
  | .ite t a b, L, W => (semE t L W).tru.bind fun k W1 => if k then semE a L W1 else semE b L W1
  | .tup es, L, W => (semEs es L W).bind fun xs W1 => (Rs.of (vals xs false) W1).bind fun ds W2 => if ds.length ≤ sizeLine then .ok (.tup ds, .fr) W2 else .stk
  | .lst es, L, W => (semEs es L W).bind fun xs W1 => (Rs.of (vals xs false) W1).bind fun ds W2 => if ds.length ≤ sizeLine then .ok (.lst ds, .own) W2 else .stk
  | .ix a b, L, W => (semE a L W).bind fun x W1 => (semE b L W1).bind fun y W2 => (Rs.of (ixD x.1 y.1) W2).bind fun d W3 => .ok (d, .fr) W3
  | .slc a lo hi, L, W => (semE a L W).bind fun x W1 => ((semE lo L W1).bind fun l W2 => Rs.of (partD lo l.1) W2).bind fun l W2 => ((semE hi L W2).bind fun h W3 => Rs.of (partD hi h.1) W3).bind fun h W3 => Rs.of (slcD x.1 l h) W3
  | .dic kvs, L, W => (semEs kvs L W).bind fun xs W1 => (Rs.of (vals xs false) W1).bind fun ds W2 => (Rs.of (dicD ds) W2).bind fun r W3 => .ok (.dct r, .own) W3
  | .fld a x, L, W => (semE a L W).bind fun r W1 => match r.1 with
    | .ins c fs => if Γ.isIns c && Γ.fld c x then (Rs.of (fs.lookup x) W1).bind fun d W2 => .ok (d, .fr) W2 else match Γ.prop c x with
      | some g => (cf g [.ins c fs] W1).noerr.bind fun d W2 => if isScal d || notAli r.2 then .ok (d, .fr) W2 else .stk
      | none => .stk
    | .exc c fs => if Γ.isExc c && Γ.fld c x then (Rs.of (fs.lookup x) W1).bind fun d W2 => .ok (d, .fr) W2 else .stk
    | _ => .stk
  | .cal f es dd, L, W => (semEs es L W).bind fun xs W1 => (Rs.of (vals xs true) W1).bind fun ds W2 => (cf f (ds ++ dd) W2).bind fun d W3 => if !anyAli xs || isScal d then .ok (d, .fr) W3 else .stk
  | .calk f es perm, L, W => (semEs es L W).bind fun xs W1 => (Rs.of (vals xs true) W1).bind fun ds W2 => (cf f (permD perm ds) W2).bind fun d W3 => if !anyAli xs || isScal d then .ok (d, .fr) W3 else .stk
  | .calv i es, L, W => match fnAt L i with
    | some j => if !Γ.fv j then .stk else (semEs es L W).bind fun xs W1 => (Rs.of (vals xs true) W1).bind fun ds W2 => (cf j ds W2).bind fun d W3 => if !anyAli xs || isScal d then .ok (d, .fr) W3 else .stk
    | none => .stk
  | .fw a j b, L, W => (semE a L W).bind fun x W1 => if notAli x.2 && decide (j < L.length) && !isOwnSl L[j]? then (Rs.of (itemsD x.1) W1).bind fun ds W2 => (fwD (fun d W => (semE b (L.set j (some (.val d))) W).tru) ds 0 W2).noerr.bind fun r W3 => .ok (r, .fr) W3 else .stk
  | .cau b, L, W => match semE b L W with
    | .ok _ W1 => .ok (.non, .fr) W1
    | .err x W1 => if Γ.cau x.1 then .ok (.exc x.1 x.2, .fr) W1 else .stk
    | .stk => .stk
  | .mak c es, L, W => match Γ.mak c with
    | some g => (semEs es L W).bind fun xs W1 => (Rs.of (vals xs false) W1).bind fun ds W2 => (cf g ds W2).bind fun d W3 => .ok (d, .fr) W3
    | none => .stk
  | .rev a, L, W => (semE a L W).bind fun x W1 => match x.1 with
    | .lst ds => .ok (.lst ds.reverse, .own) W1
    | _ => .stk
  | .isi a ts, L, W => (semE a L W).bind fun x W1 => (Rs.of (isiD Γ x.1 ts) W1).bind fun k W2 => .ok (.bl k, .fr) W2
  | .bl f es, L, W => (semEs es L W).bind fun xs W1 => Rs.of (blD f (xs.map (·.1))) W1
  | .lc tp it vs cond elt, L, W => if !noOwn L vs then .stk else (semI it L W).bind fun ds W1 =>
      (lcD (fun d W => (asgT tp (d, .fr) (wipeL L vs) W).bind fun L1 W1 => (semE cond L1 W1).tru.bind fun k W2 => if k then (semE elt L1 W2).bind fun x W3 => if notAli x.2 then .ok (some x.1) W3 else .stk else .ok none W2) ds W1).noerr.bind fun r W2 =>
      if r.length ≤ sizeLine then .ok (.lst r, .own) W2 else .stk
def semEs : EXs → Lcl → Wd → Rs (List RV)
  | .nil, _, W => .ok [] W
  | .cons e es, L, W => (semE e L W).bind fun x W1 => (semEs es L W1).bind fun xs W2 => .ok (x :: xs) W2
def semI : IX → Lcl → Wd → Rs (List D)
  | .seq e, L, W => (semE e L W).bind fun x W1 => if notAli x.2 then Rs.of (itemsD x.1) W1 else .stk
  | .rng1 e, L, W => (semE e L W).bind fun x W1 => Rs.of (rng1D x.1) W1
  | .rng2 a b, L, W => (semE a L W).bind fun x W1 => (semE b L W1).bind fun y W2 => Rs.of (rng2D x.1 y.1) W2
  | .rngd a b, L, W => (semE a L W).bind fun x W1 => (semE b L W1).bind fun y W2 => Rs.of (rngdD x.1 y.1) W2
  | .enum e, L, W => (semE e L W).bind fun x W1 => if notAli x.2 then (Rs.of (itemsD x.1) W1).bind fun ds W2 => .ok (enumD ds 0) W2 else .stk
  | .zip a b, L, W => (semE a L W).bind fun x W1 => (semE b L W1).bind fun y W2 => if notAli x.2 && notAli y.2 then Rs.of (zipOf x.1 y.1) W2 else .stk
  | .items _, _, _ => .stk
def asgT : TP → RV → Lcl → Wd → Rs Lcl
  | .nm i, r, L, W => setSl i r L W
  | .sub i k, r, L, W => if isOwn L i && notAli r.2 then (semE k L W).bind fun x W1 => storeSl i x.1 r L W1 else .stk
  | .tu ts, r, L, W => match r with
    | (.tup ds, .fr) => if ds.length = ts.len then asgD ts ds L W else .stk
    | _ => .stk
def asgD : TPs → List D → Lcl → Wd → Rs Lcl
  | .nil, [], L, W => .ok L W
  | .cons t ts, d :: ds, L, W => (asgT t (d, .fr) L W).bind fun L1 W1 => asgD ts ds L1 W1
  | _, _, _, _ => .stk
end
def isStrC : EX → Bool
  | .con (.str _) => true
  | _ => false
def isNm : TP → Bool
  | .nm _ => true
  | _ => false
def isFr : Fl → Bool
  | .fr => true
  | _ => false
def asgTs : TPs → List RV → Lcl → Wd → Rs Lcl
  | .nil, [], L, W => .ok L W
  | .cons t ts, d :: ds, L, W => if isNm t || isFr d.2 then (asgT Γ cf t d L W).bind fun L1 W1 => asgTs ts ds L1 W1 else .stk
  | _, _, _, _ => .stk

mutual
def semS : SX → Lcl → Wd → Rs Fw
  | .stk, _, _ => .stk
  | .asg t e, L, W => (semE Γ cf e L W).bind fun x W1 => (asgT Γ cf t x L W1).bind fun L1 W2 => .ok (.nx L1) W2
  | .set ts es, L, W => (semEs Γ cf es L W).bind fun xs W1 => if xs.length = ts.len then (asgTs Γ cf ts xs L W1).bind fun L1 W2 => .ok (.nx L1) W2 else .stk
  | .aug i op e, L, W => match L[i]? with
    | some (some (.val (.int a))) => (semE Γ cf e L W).bind fun y W1 => match op, y.1 with
      | .Add, .int b => .ok (.nx (L.set i (some (.val (.int (a + b)))))) W1
      | .Sub, .int b => .ok (.nx (L.set i (some (.val (.int (a - b)))))) W1
      | _, _ => .stk
    | _ => .stk
  | .augs i k op e, L, W => if isOwn L i then (semE Γ cf k L W).bind fun x W1 => match L[i]? with
      | some (some (.own d)) => (Rs.of (intAt d x.1) W1).bind fun n W2 => (semE Γ cf e L W2).bind fun y W3 => (Rs.of (augI op n y.1) W3).bind fun z W4 => (storeSl i x.1 (.int z, .fr) L W4).bind fun L1 W5 => .ok (.nx L1) W5
      | _ => .stk
    else .stk
  | .app i e, L, W => if isLstOwn L i then (semE Γ cf e L W).bind fun x W1 => match L[i]? with
      | some (some (.own (.lst xs))) => if notAli x.2 && decide (xs.length < sizeLine) then .ok (.nx (L.set i (some (.own (.lst (xs ++ [x.1])))))) W1 else .stk
      | _ => .stk
    else .stk
  | .frz i s, L, W => semS s (frzL i L) W
  | .ret e, L, W => (semE Γ cf e L W).bind fun x W1 => .ok (.rt x) W1
  | .expr e, L, W => (semE Γ cf e L W).bind fun x W1 => .ok (.nx L) W1
  | .ite t a b, L, W => (semE Γ cf t L W).tru.bind fun k W1 => if k then semSs a L W1 else semSs b L W1
  | .loop t it b, L, W => (semI Γ cf it L W).bind fun ds W1 => loopD (fun d L W => (asgT Γ cf t (d, .fr) L W).bind fun L1 W1 => semSs b L1 W1) ds L W1
  | .whl n t b, L, W => whlD (fun L W => (semE Γ cf t L W).tru) (fun L W => semSs b L W) n L W
  | .brk, L, W => .ok (.bk L) W
  | .cnt, L, W => .ok (.ct L) W
  | .rai c e, L, W => match Γ.mkx c with
    | some (f :: fs) => (semE Γ cf e L W).bind fun x W1 => if isScal x.1 then .err (c, (f :: fs).map fun f => (f, x.1)) W1 else .stk
    | _ => .stk
  | .rais c m, L, W => match Γ.mkx c with
    | some fs => .err (c, fs.map fun f => (f, .str m)) W
    | none => .stk
  | .pass, L, W => .ok (.nx L) W
def semSs : SXs → Lcl → Wd → Rs Fw
  | .nil, L, W => .ok (.nx L) W
  | .cons s ss, L, W => (semS s L W).bind fun f W1 => match f with
    | .nx L1 => semSs ss L1 W1
    | f => .ok f W1
end
end

/-- a making: expressions, and fields of the instance -/
inductive IS where
  | ex (e : EX) | st (x : Str) (e : EX)
def putFd (x : Str) (d : D) : List (Str × D) → List (Str × D)
  | [] => [(x, d)]
  | (y, u) :: r => if y = x then (y, d) :: r else (y, u) :: putFd x d r
section
variable (Γ : Tbl) (cf : CF)
def iniD : List IS → Lcl → List (Str × D) → Wd → Rs (List (Str × D))
  | [], _, fs, W => .ok fs W
  | .ex e :: r, L, fs, W => (semE Γ cf e L W).bind fun _ W1 => iniD r L fs W1
  | .st x e :: r, L, fs, W => (semE Γ cf e L W).bind fun v W1 => if notAli v.2 && decide (fs.length < 1000) then iniD r L (putFd x v.1 fs) W1 else .stk
end
/-- a def: its names by slot, how many of them are parameters, its body; or told by data -/
inductive Fn where
  | code (nm np : Nat) (body : SXs)
  | ini (c nm np : Nat) (body : List IS)
  | prim (p : CF → List D → Wd → Rs D)
def startL (n : Nat) (ds : List D) : Lcl := (ds.map fun d => some (Sl.val d)) ++ List.replicate (n - ds.length) none
def endF : Rs Fw → Rs D
  | .ok (.nx _) W => .ok .non W
  | .ok (.rt (d, _)) W => .ok d W
  | .ok _ _ => .stk
  | .err x W => .err x W
  | .stk => .stk
def insR (c : Nat) : Rs (List (Str × D)) → Rs D
  | .ok fs W => .ok (.ins c fs) W
  | .err x W => .err x W
  | .stk => .stk
def callF (Γ : Tbl) (fs : List Fn) : Nat → CF
  | 0 => fun _ _ _ => .stk
  | n + 1 => fun f ds W => match fs[f]? with
    | some (.code nm np body) => if ds.length = np then endF (semSs Γ (callF Γ fs n) body (startL nm ds) W) else .stk
    | some (.ini c nm np body) => if ds.length = np then insR c (iniD Γ (callF Γ fs n) body (none :: startL nm ds) [] W) else .stk
    | some (.prim p) => p (callF Γ fs n) ds W
    | none => .stk
end Dl

set_option maxRecDepth 100000
set_option maxHeartbeats 4000000
/-! D2b: what the head's run looks at. -/
namespace Dl
open PySem PySem.Spec PyProof.Rows L2
open PySem.W (ksFn ks_superIn excInitIn)
/-- the names of a text: constants, defs (number, how many parameters, the defaults of the last ones), classes -/
structure Nms where
  con : List (Str × D)
  fns : List (Str × (Nat × Nat × List D))
  cls : List (Str × Nat)
  kws : List (Str × List Str × List Nat)
  fuel : Nat
  fw : Option Str
  cau : Option Str
def bltNames : List Str := ["len", "isinstance", "int", "bool", "str", "tuple", "list", "dict", "abs", "sum", "all", "any", "repr", "max", "min", "range", "enumerate", "zip"]
abbrev veB : List Value := [.type "ValueError", .type "Exception", .type "BaseException", .type "object"]
def greats : List Int := [2147483629, 2147483587, 2147483579]
def blendIn (cells : List Int) (g : Int) (b : Int) : Int := cells.foldl (fun b c => (b * 48271 + c) % g) b
def blendStep (cells : List Int) (turn found g : Int) : Int := found * 2147483647 + (blendIn cells g ((turn * 69621 + g / 7) % g)) ^ 5 % g
def blendN (cells : List Int) (turn : Int) : Int := greats.foldl (blendStep cells turn) 0
def fill (tp : Tape) : Tape := if tp.rest = 0 then match tp.large with
    | x :: r => { tp with large := r, rest := x }
    | [] => { tp with turn := tp.turn + 1, rest := blendN tp.cells (tp.turn + 1) }
  else tp
def drawT (n : Int) (tp : Tape) : Int × Tape := ((fill tp).rest % n, { fill tp with rest := (fill tp).rest / n })
def drawP : List D → Wd → Rs D := fun ds W => match ds with
  | [.tape, .int n] => if 0 < n ∧ n < 1073741824 then .ok (.int (drawT n W.tp).1) ⟨(drawT n W.tp).2⟩ else .stk
  | _ => .stk
/-- the name that a lambda of the def bears -/
def lamQ (qual : Str) (sc : Scope) : Str := (envOfC qual sc 0 0 .none).qual ++ "<lambda>"
abbrev Fg := PySem.W.Frag
/-- where a function stands -/
inductive At where | glo (x : Str) | mth (c m : Str) | prp (c p : Str)
deriving DecidableEq
def At.ad (K : Fg) : At → Addr
  | .glo x => He.ga K x
  | .mth c m => He.ma K (He.ga K c) m
  | .prp c p => match PySem.W.recIn K (He.ma K (He.ga K c) p) "property" with
    | some (.ref g :: _) => g
    | _ => 0
inductive Kd where | code | ini (c : Nat) | prim (p : CF → List D → Wd → Rs D) | non
/-- a function of the text -/
structure FR where
  at_ : At
  name : Str
  qual : Str
  st : Stmt
  clo : List Str := []
  dfl : List D := []
  ps : List Str
  N : List Str
  l : Bool := false
  k : Kd
abbrev FnY : Type := Option (Str × Str × Arguments × FuncBody × Scope × Addr × List Str × Addr)
def fnY (K : Fg) (a : Addr) : FnY := match K.lookup a with
  | some ⟨_, _, .func fd, _⟩ => some (fd.name, fd.qualname, fd.params, fd.body, fd.scope, fd.globals, fd.closure.map (·.1), fd.builtins)
  | _ => none
def FR.val (d : FR) : FnY := some (d.name, d.qual, defArgs d.st, .stmts (defBody d.st), defScope d.st, mainGlobals, d.clo, builtinsNs)
def vD (d : D) : V := (leafV d).getD .non
def FR.ok (K : Fg) (d : FR) : Bool := PySem.W.keepIn K (.ref (d.at_.ad K)) && (match K.lookup (d.at_.ad K) with
  | some ⟨_, _, .func fd, _⟩ => PySem.W.codeIn K fd.code d.qual && (He.dflB K fd.defaults (d.dfl.map vD) && He.kwdB K fd.kwdefaults [])
  | _ => false)
/-- what is known of a function -/
structure FRK (K : Fg) (d : FR) : Prop where
  ex : ∃ (oc : Value) (od : Option Addr) (fd : FuncData) (osl : Array (Option Value)), K.lookup (d.at_.ad K) = some ⟨oc, od, .func fd, osl⟩ ∧ PySem.W.codeIn K fd.code d.qual = true ∧ DflV K fd.defaults (d.dfl.map vD) ∧ KwdV K fd.kwdefaults [] ∧
    fd.name = d.name ∧ fd.qualname = d.qual ∧ fd.params = defArgs d.st ∧ fd.body = .stmts (defBody d.st) ∧ fd.scope = defScope d.st ∧ fd.globals = mainGlobals ∧ fd.closure.map (·.1) = d.clo ∧ fd.builtins = builtinsNs
  kp : PySem.W.keepIn K (.ref (d.at_.ad K)) = true
theorem frk_of {K : Fg} {d : FR} (e : fnY K (d.at_.ad K) = d.val) (c : d.ok K = true) : FRK K d := by
  obtain ⟨kp, c2⟩ := He.ba c
  refine ⟨?_, kp⟩
  unfold fnY at e
  cases q : K.lookup (d.at_.ad K) with
  | none => rw [q] at c2; cases c2
  | some o =>
    obtain ⟨oc, od, dt, osl⟩ := o
    rw [q] at c2 e
    cases dt with
    | func fd =>
      have e2 : (some (fd.name, fd.qualname, fd.params, fd.body, fd.scope, fd.globals, fd.closure.map (·.1), fd.builtins) : FnY) = some (d.name, d.qual, defArgs d.st, .stmts (defBody d.st), defScope d.st, mainGlobals, d.clo, builtinsNs) := e
      simp only [Option.some.injEq, Prod.mk.injEq] at e2
      obtain ⟨h1, h2, h3, h4, h5, h6, h7, h8⟩ := e2
      have c3 : (PySem.W.codeIn K fd.code d.qual && (He.dflB K fd.defaults (d.dfl.map vD) && He.kwdB K fd.kwdefaults [])) = true := c2
      obtain ⟨k1, k2⟩ := He.ba c3
      obtain ⟨k3, k4⟩ := He.ba k2
      exact ⟨oc, od, fd, osl, rfl, k1, He.dflB_ok k3, He.kwdB_ok k4, h1, h2, h3, h4, h5, h6, h7, h8⟩
    | _ => cases c2
theorem FRK.funD {K : Fg} {d : FR} (F : FRK K d) (hc : d.clo = []) : ∃ fd oc od osl, K.lookup (d.at_.ad K) = some ⟨oc, od, .func fd, osl⟩ ∧ FunD K d.name d.qual (defArgs d.st) (defBody d.st) (defScope d.st) (d.dfl.map vD) [] (d.at_.ad K) fd := by
  obtain ⟨oc, od, fd, osl, lk, k1, k3, k4, h1, h2, h3, h4, h5, h6, h7, h8⟩ := F.ex
  obtain ⟨n1, n2, n3, n4, n5, n6, n7, n8, n9, n10, n11, n12, n13, n14, n15⟩ := fd
  simp only at h1 h2 h3 h4 h5 h6 h7 h8 k1 k3 k4
  have h9 : n7 = [] := by rw [hc] at h7; exact List.map_eq_nil_iff.mp h7
  subst h1 h2 h3 h4 h5 h6 h8 h9
  exact ⟨_, oc, od, osl, lk, ⟨oc, od, n8, n9, n10, n11, n12, n13, n14, osl, rfl, lk, k1, k3, k4⟩, F.kp⟩
def codY (K : Fg) (a : Addr) : Addr := match K.lookup a with
  | some ⟨_, _, .func fd, _⟩ => (match fd.code with
    | .ref c => c
    | _ => 0)
  | _ => 0
/-- the code object and its table -/
def cTY (K : Fg) (a : At) : Addr × Addr := (codY K (a.ad K), He.tabOf K (codY K (a.ad K)))
def tabsY (g : Addr → Option Obj) (tf : List At) (K : Fg) : Bool := tf.all fun p => PySem.W.codeHdIn K (cTY K p).1 (cTY K p).2 && (match g (cTY K p).2 with
  | some o => He.emptyTab o
  | none => false)
abbrev AlY : Type := Bool × List FnY
def obK (fr : List FR) (tf : List At) (ex : Fg → Bool) (g : Addr → Option Obj) (K : Fg) : AlY := (ex K && ((fr.all fun d => d.ok K) && tabsY g tf K), fr.map fun d => fnY K (d.at_.ad K))
def obsY (as : List Addr) (fr : List FR) (tf : List At) (ex : Fg → Bool) (g : Addr → Option Obj) : AlY := obK fr tf ex g (He.frT g as)
def valY (fr : List FR) : AlY := (true, fr.map FR.val)
structure SaysY (fr : List FR) (tf : List At) (ex : Fg → Bool) (h : Heap) (K : Fg) : Prop where
  d : ∀ d ∈ fr, FRK K d
  ex : ex K = true
  hd : ∀ p ∈ tf, PySem.W.codeHdIn K (cTY K p).1 (cTY K p).2 = true
  out : ∀ p ∈ tf, K.lookup (cTY K p).2 = none
  emp : ∀ p ∈ tf, h.get? (cTY K p).2 = some { cls := .none, data := .fields #[] }
theorem map_at {α β : Type} {f g : α → β} : ∀ {l : List α}, l.map f = l.map g → ∀ x ∈ l, f x = g x
  | [], _, x, h => by cases h
  | y :: ys, e, x, h => by
    injection e with e1 e2
    cases h with
    | head => exact e1
    | tail _ h => exact map_at e2 x h
theorem saysY_of {as : List Addr} {fr : List FR} {tf : List At} {ex : Fg → Bool} {h : Heap} (e : obsY as fr tf ex h.get? = valY fr) : SaysY fr tf ex h (He.frT h.get? as) := by
  have e1 := congrArg (fun z : AlY => z.1) e
  have e2 := congrArg (fun z : AlY => z.2) e
  obtain ⟨h1, h2⟩ := He.ba (show (ex (He.frT h.get? as) && ((fr.all fun d => d.ok (He.frT h.get? as)) && tabsY h.get? tf (He.frT h.get? as))) = true from e1)
  obtain ⟨h3, h4⟩ := He.ba h2
  have key : ∀ p ∈ tf, PySem.W.codeHdIn (He.frT h.get? as) (cTY (He.frT h.get? as) p).1 (cTY (He.frT h.get? as) p).2 = true ∧ ∃ o, h.get? (cTY (He.frT h.get? as) p).2 = some o ∧ He.emptyTab o = true := fun p hp => by
    obtain ⟨h5, h6⟩ := He.ba (List.all_eq_true.mp h4 p hp)
    refine ⟨h5, ?_⟩
    cases q : h.get? (cTY (He.frT h.get? as) p).2 with
    | none => rw [q] at h6; cases h6
    | some o => rw [q] at h6; exact ⟨o, rfl, h6⟩
  refine ⟨fun d hd => frk_of (map_at e2 d hd) (List.all_eq_true.mp h3 d hd), h1, fun p hp => (key p hp).1, fun p hp => ?_, fun p hp => ?_⟩
  · obtain ⟨_, o, q, z⟩ := key p hp
    exact He.frT_none q z
  · obtain ⟨_, o, q, z⟩ := key p hp
    rw [q, He.emptyTab_eq z]
def hookY (as : List Addr) (fr : List FR) (tf : List At) (ex : Fg → Bool) : PySem.W.Hook where
  α := AlY
  obs := fun s => obsY as fr tf ex s.heap.get?
  val := fun _ => valY fr
  says := fun _ h => ∃ K : Fg, K.In h ∧ SaysY fr tf ex h K
  of := fun _ _ e => ⟨_, He.frT_in, saysY_of e⟩
  keeps := fun _ _ _ ⟨K, hK, c⟩ k => ⟨K, PySem.W.Frag.In.keeps hK k, ⟨c.d, c.ex, c.hd, c.out, fun p hp => k _ _ (c.emp p hp)⟩⟩
theorem obsY_eq {as : List Addr} {fr : List FR} {tf : List At} {ex : Fg → Bool} {g : Addr → Option Obj} {s : Shared} (h : ∀ a, g a = s.heap.get? a) : obsY as fr tf ex g = (hookY as fr tf ex).obs s := by
  have e : g = s.heap.get? := funext h
  rw [e] <;> rfl
def clsA (K : Fg) (cn : List Str) (c : Nat) : Addr := He.ga K (cn.getD c "")
def oexB (K : Fg) (C : Addr) : Bool := (match K.lookup C with
  | some ⟨.type "type", _, .cls cd, sl⟩ => (match cd.mro, sl.toList with
    | .ref C' :: bm, [_, _, _, _, some (.builtin n), _] => C' == C && (n == "ValueError.__new__" && (!cd.hasDel && (cd.hasDict && PySem.HandSPX.refsVE bm)))
    | _, _ => false)
  | _ => false) && (He.eqO (PySem.W.findIn K (.ref C) "__setattr__") (some (some (.builtin "object.__setattr__"))) && (decide (PySem.W.subIn K (.ref C) (.type "BaseException") = some true) && (decide (PySem.W.typeIn K (.ref C) = some (.type "type")) && PySem.W.keepIn K (.ref C))))
theorem oexB_ok {K : Fg} {C : Addr} (h : oexB K C = true) : OexC K C := by
  obtain ⟨h1, h2⟩ := He.ba h
  obtain ⟨h3, h2⟩ := He.ba h2
  obtain ⟨h4, h2⟩ := He.ba h2
  obtain ⟨h5, h6⟩ := He.ba h2
  refine ⟨?_, He.eqO_ok h3, of_decide_eq_true h4, of_decide_eq_true h5, h6⟩
  split at h1
  · rename_i dd cd sl ho
    split at h1
    · rename_i C' bm k0 k1 k2 k3 n k5 hm hs
      obtain ⟨a1, h1⟩ := He.ba h1
      obtain ⟨a2, h1⟩ := He.ba h1
      obtain ⟨a3, h1⟩ := He.ba h1
      obtain ⟨a4, a5⟩ := He.ba h1
      have a1 := eq_of_beq a1
      have a2 := eq_of_beq a2
      subst a1 a2
      obtain ⟨nm, bs, mro, ns, qn, hd, sn, sub, ab, col, del⟩ := cd
      dsimp only at hm a3 a4
      subst hm a4
      have a3 : del = false := by cases del with
        | false => rfl
        | true => cases a3
      subst a3
      have hsl : sl = #[k0, k1, k2, k3, some (.builtin "ValueError.__new__"), k5] := by
        obtain ⟨l⟩ := sl
        simp only at hs
        rw [hs]
      subst hsl
      exact ⟨nm, qn, ns, bs, bm, sn, sub, ab, col, dd, k0, k1, k2, k3, k5, ho, a5⟩
    · cases h1
  · cases h1
def tyL1 : List String := ["NoneType", "bool", "int", "str", "list", "tuple", "dict"]
def tyL2 : List String := ["bool", "int", "str", "list", "tuple", "dict"]
/-- the classes' facts: cs all class numbers -/
def kfB (K : Fg) (cls : Nat → Addr) (Γ : Tbl) (cs : List Nat) : List Bool :=
  [cs.all fun c => !Γ.isIns c || (PySem.W.plainGet K (cls c) "__class__" && PySem.W.hasDictIn K (cls c)),
  cs.all fun c => !(Γ.isIns c || Γ.isExc c) || (He.eqO (PySem.W.findIn K (.ref (cls c)) "__class__") (some (some (.builtin "object.__class__"))) && decide (PySem.W.mroIn K (cls c) (.type "object") = some true)),
  He.eqO (PySem.W.specialIn K (.builtin "object.__class__") "__get__") (some (some (.builtin "getset_descriptor.__get__"))),
  decide (PySem.W.takesIn K (.builtin "object.__class__") = some true),
  cs.all fun c => !Γ.isExc c || ((PySem.W.clsIn K (cls c)).isSome && (He.eqO (PySem.W.findIn K (.ref (cls c)) "__getattribute__") (some (some (.builtin "BaseException.__getattribute__"))) && (He.eqO (PySem.W.findIn K (.ref (cls c)) "__getattr__") (some none) && decide (PySem.W.subIn K (.ref (cls c)) (.type "BaseException") = some true)))),
  cs.all fun c => cs.all fun d => !((Γ.isIns c || Γ.isExc c) && (Γ.isIns d || Γ.isExc d)) || decide (PySem.W.kitOne K (.ref (cls c)) (.ref (cls d)) = some (Γ.sub c d)),
  tyL1.all fun n => cs.all fun d => !(Γ.isIns d || Γ.isExc d) || decide (PySem.W.kitOne K (.type n) (.ref (cls d)) = some false),
  tyL2.all fun n => cs.all fun c => !(Γ.isIns c || Γ.isExc c) || decide (PySem.W.kitOne K (.ref (cls c)) (.type n) = some false)]
theorem or_not {a b : Bool} (h : (!a || b) = true) (ha : a = true) : b = true := by
  subst ha
  simpa using h
/-- constants -/
def tupY (K : Fg) (a : Addr) (vs : List V) : Bool := match K.lookup a with
  | some ⟨.type c, _, .seq its _, _⟩ => decide (c = "tuple") && (decide (its.size ≤ sizeLine) && He.relAll vs its.toList)
  | _ => false
theorem tupY_ok {K : Fg} {a : Addr} {vs : List V} (h : tupY K a vs = true) : KT K a vs := by
  unfold tupY at h
  split at h
  · rename_i c od its n sl ho
    obtain ⟨h1, h2⟩ := He.ba h
    obtain ⟨h3, h4⟩ := He.ba h2
    exact ⟨_, its, n, ho, congrArg Value.type (of_decide_eq_true h1), rfl, of_decide_eq_true h3, He.relAll_ok h4⟩
  · cases h
def conB (K : Fg) (fad : Nat → Addr) (p : Str × D) : Bool := match p.2 with
  | .int i => (He.Fa.int p.1 i).ok K
  | .str s => (He.Fa.str p.1 s).ok K
  | .fn j => He.eqO (PySem.W.nsIn K mainGlobals p.1) (some (some (.ref (fad j))))
  | .tup ds => (He.Fa.glo p.1).ok K && (tupY K (He.ga K p.1) (ds.map vD) && ds.all fun d => (leafV d).isSome)
  | _ => false
theorem rep_leaf {w : World} {G : Gl0} {S : Addr → Prop} {H : Hp} {d : D} (h : (leafV d).isSome = true) : Rep w G S H (vD d) d := by
  cases d with
  | non => exact .non
  | bl b => exact .bl b
  | int i => exact .int i
  | str s => exact .str s
  | _ => cases h
theorem rep_leaves {w : World} {G : Gl0} {S : Addr → Prop} {H : Hp} : ∀ {ds : List D}, (ds.all fun d => (leafV d).isSome) = true → RepL w G S H (ds.map vD) ds
  | [], _ => .nil
  | d :: ds, h => by
    obtain ⟨h1, h2⟩ := He.ba (show ((leafV d).isSome && ds.all fun d => (leafV d).isSome) = true from h)
    exact .cons (rep_leaf h1) (rep_leaves h2)
theorem lookup_in {β : Type} {x : Str} {b : β} : ∀ {l : List (Str × β)}, l.lookup x = some b → (x, b) ∈ l
  | [], h => by cases h
  | (y, u) :: r, h => by
    rw [List.lookup_cons] at h
    split at h
    · rename_i e
      cases h
      rw [eq_of_beq e]
      exact .head _
    · exact .tail _ (lookup_in h)
theorem con_ok {K : Fg} {w : World} {h : Heap} {mg : Str → Option Value} {G0 : Gl0} {con : List (Str × D)} (X : K.In h) (G : h.Ns mainGlobals mg) (gk : G0.K = K) (c : con.all (conB K G0.fad) = true) {x : Str} {d : D} (e : con.lookup x = some d) :
    ∃ v u, mg x = some u ∧ RelV v u ∧ ∀ (T : Option TLoc) S H, Rep w { G0 with T := T } S H v d := by
  have c1 := List.all_eq_true.mp c _ (lookup_in e)
  unfold conB at c1
  cases d with
  | int i =>
    obtain ⟨t, q⟩ := He.int_ok X G c1
    exact ⟨.int i, _, q, ⟨t, rfl⟩, fun _ _ _ => .int i⟩
  | str s =>
    obtain ⟨t, q⟩ := He.str_ok X G c1
    exact ⟨.str s, _, q, ⟨t, rfl⟩, fun _ _ _ => .str s⟩
  | fn j => exact ⟨.ref (G0.fad j), _, PySem.W.mg_of X G (He.eqO_ok c1), rfl, fun _ _ _ => .fn j⟩
  | tup ds =>
    obtain ⟨a, b⟩ := He.ba c1
    obtain ⟨b, e⟩ := He.ba b
    refine ⟨.ref (He.ga K x), _, He.glo_ok X G a, rfl, fun T S H => .tupK ?_ (rep_leaves e)⟩
    show KT G0.K _ _
    rw [gk]
    exact tupY_ok b
  | _ => cases c1
def scB (N ps : List Str) (sc : Scope) : Bool := decide (sc.kind = .function) && (!sc.isCoroutine && (!sc.isGenerator && (decide N.Nodup && (decide (N.take ps.length = ps) && ((ps.all fun x => decide (sc.names.lookup x = some .local) || decide (sc.names.lookup x = some .cell)) && sc.names.all fun y => !decide (y.2 = .free))))))
theorem scB_ok {N ps : List Str} {sc : Scope} (h : scB N ps sc = true) : FnScope N ps sc := by
  obtain ⟨h1, h⟩ := He.ba h
  obtain ⟨h2, h⟩ := He.ba h
  obtain ⟨h3, h⟩ := He.ba h
  obtain ⟨h4, h⟩ := He.ba h
  obtain ⟨h5, h⟩ := He.ba h
  obtain ⟨h6, h7⟩ := He.ba h
  refine ⟨of_decide_eq_true h1, by simpa using h2, by simpa using h3, of_decide_eq_true h4, of_decide_eq_true h5, fun x hx => ?_, fun y hy => ?_⟩
  · have := List.all_eq_true.mp h6 x hx
    rw [Bool.or_eq_true] at this
    exact this.imp of_decide_eq_true of_decide_eq_true
  · have := List.all_eq_true.mp h7 y hy
    simpa using this
/-- all parameters given, whatever the defaults are -/
def Bnd (d : FR) : Prop := if d.dfl = [] then ∀ (kV doc pm : Value) (an : Option Addr) (cdv ct : Value) (us : List Value), us.length = d.ps.length → bindArgs (PySem.W.fnOf d.name d.qual (defArgs d.st) (defBody d.st) (defScope d.st) .none kV doc pm an cdv ct) ⟨us, []⟩ = pure (d.ps.zip us)
  else ∀ m, m ≤ d.dfl.length → ∀ (T : Addr) (kV doc pm : Value) (an : Option Addr) (cdv ct : Value) (us its : List Value), us.length + m = d.ps.length → its.length = d.dfl.length →
    ∃ k, bindArgs (PySem.W.fnOf d.name d.qual (defArgs d.st) (defBody d.st) (defScope d.st) (.ref T) kV doc pm an cdv ct) ⟨us, []⟩ = seqItems? (.ref T) >>= k ∧ k (some its.toArray) = pure (d.ps.zip (us ++ its.drop (d.dfl.length - m)))
/-- a text's classes as data -/
structure TD where
  cn : List Str
  ins : List Nat
  exc : List Nat
  subs : List (List Nat)
  flds : List (List Str)
  props : List (List (Str × Nat))
  mkx : List (Option (List Str))
  fv : List Nat
  maks : List (Option Nat)
  sups : List (Nat × Str × FR)
def TD.tbl (t : TD) : Tbl where
  isIns := fun c => t.ins.contains c
  isExc := fun c => t.exc.contains c
  sub := fun c d => (t.subs.getD c []).contains d
  fld := fun c x => (t.flds.getD c []).contains x
  prop := fun c x => (t.props.getD c []).lookup x
  mkx := fun c => t.mkx.getD c none
  fv := fun j => t.fv.contains j
  cau := fun c => t.exc.contains c
  mak := fun c => t.maks.getD c none
/-- the records that make lambdas -/
def lamR (fr : List FR) : List FR := fr.filter (·.l)
def tfOf (fr : List FR) : List At := (lamR fr).map (·.at_)
def TBof (K : Fg) (fr : List FR) : List (Addr × Str) := (lamR fr).map fun d => ((cTY K d.at_).2, lamQ d.qual (defScope d.st))
def g0Of (K : Fg) (t : TD) (recs fr : List FR) : Gl0 := ⟨K, none, TBof K fr, clsA K t.cn, fun j => match recs[j]? with
  | some d => d.at_.ad K
  | none => 0⟩
def lamsB (K : Fg) (fr : List FR) : Bool := (lamR fr).all fun a => (lamR fr).all fun b => !(decide ((cTY K a.at_).2 = (cTY K b.at_).2)) || decide (lamQ a.qual (defScope a.st) = lamQ b.qual (defScope b.st))
def propB (K : Fg) (C : Addr) (f : Str) (g : Addr) : Bool := He.eqO (PySem.W.findIn K (.ref C) f) (some (some (.ref (He.ma K C f)))) && (He.eqO (PySem.W.specialIn K (.ref (He.ma K C f)) "__get__") (some (some (.builtin "property.__get__"))) && (decide (PySem.W.takesIn K (.ref (He.ma K C f)) = some true) &&
  (match PySem.W.recIn K (He.ma K C f) "property" with
    | some (.ref g' :: _) => decide (g' = g)
    | _ => false)))
def supB (P : Program) (K : Fg) (C : Addr) (d : FR) (f : Str) : Bool := He.eqO (PySem.W.findIn K (.ref C) "__init__") (some (some (.ref (d.at_.ad K)))) && (decide (PySem.W.typeIn K (.ref (d.at_.ad K)) = some (.type "function")) && (oexB K C && ((match K.lookup (d.at_.ad K) with
  | some ⟨_, _, .func fd, _⟩ => (match fd.code, fd.closure with
    | .ref cda, [(_, cc)] => (match K.lookup cda, K.lookup cc with
      | some ⟨_, _, .fields vs, _⟩, some ⟨_, _, .cell (some (.ref D)), _⟩ => (match (vs[2]? : Option Value) with
        | some (.str fl _) => ((P.main.file : Str) == fl) && ((PySem.W.clsIn K D).isSome && (decide (PySem.W.mroIn K C (.ref D) = some true) && He.eqO (ks_superIn K C D "__init__") (some (some (.builtin "ValueError.__init__")))))
        | _ => false)
      | _, _ => false)
    | _, _ => false)
  | _ => false) && (decide (PySem.W.subIn K (.ref C) (.type "ValueError") = some true) && (excInitIn K C veB "ValueError.__new__" && He.eqO (PySem.W.findIn K (.ref C) f) (some none))))))
def opB {α : Type} (o : Option α) (f : α → Bool) : Bool := match o with
  | some a => f a
  | none => false
def opT {α : Type} (o : Option α) (f : α → Bool) : Bool := match o with
  | some a => f a
  | none => true
def chK (P : Program) (Z : Nms) (t : TD) (recs fr : List FR) (W : Str) (K : Fg) : List Bool :=
  kfB K (clsA K t.cn) t.tbl (List.range t.cn.length) ++
  [Z.con.all (conB K (g0Of K t recs fr).fad),
  fr.all fun d => match d.at_ with
    | .glo x => (He.Fa.glo x).ok K
    | _ => true,
  Z.cls.all fun p => He.eqO (PySem.W.nsIn K mainGlobals p.1) (some (some (.ref (clsA K t.cn p.2)))),
  bltNames.all fun x => He.eqO (PySem.W.nsIn K mainGlobals x) (some none),
  t.ins.all fun c => (He.Fa.cls (t.cn.getD c "")).ok K,
  t.ins.all fun c => (t.flds.getD c []).all fun x => He.eqO (PySem.W.findIn K (.ref (clsA K t.cn c)) x) (some none),
  t.exc.all fun c => PySem.W.hasDictIn K (clsA K t.cn c),
  t.exc.all fun c => (t.flds.getD c []).all fun x => He.eqO (PySem.W.findIn K (.ref (clsA K t.cn c)) x) (some none),
  (List.range t.cn.length).all fun c => (t.props.getD c []).all fun p => opB recs[p.2]? fun d => propB K (clsA K t.cn c) p.1 (d.at_.ad K),
  t.exc.all fun c => match t.mkx.getD c none with
    | some [] => PySem.W.excIn K (clsA K t.cn c) veB "ValueError.__new__" && (PySem.W.keepIn K (.ref (clsA K t.cn c)) && (decide (PySem.W.subIn K (.ref (clsA K t.cn c)) (.type "BaseException") = some true) && decide (PySem.W.typeIn K (.ref (clsA K t.cn c)) = some (.type "type"))))
    | _ => true,
  t.sups.all fun e => supB P K (clsA K t.cn e.1) e.2.2 e.2.1,
  He.eqO (PySem.W.nsIn K mainGlobals "super") (some none),
  He.eqO (PySem.W.nsIn K cStatics "thirdparty.any") (some none),
  (List.range t.cn.length).all fun c => opT (t.maks.getD c none) fun _ => (He.Fa.mkr (t.cn.getD c "")).ok K,
  lamsB K fr,
  t.exc.all fun c => decide (PySem.W.exmOne K (.ref (clsA K t.cn c)) (.ref (He.ga K W)) = some true),
  (He.Fa.glo W).ok K,
  (He.Fa.free "abs").ok K && (He.Fa.free "int").ok K]
end Dl

set_option maxRecDepth 100000
set_option maxHeartbeats 0
namespace Lw
open PySem PySem.Spec PyProof.Rows L2 Dl
abbrev R : PySem.W.OpenRow := PySem.W.OpenLaw.row PySem.Challenge.rw_watchplay_k32_whole_errors_first_due
abbrev bod : List Stmt := PySem.Challenge.pw_watchplay_k32_whole_errors_first_due.main.body
def clb : Stmt → List Stmt
  | .ClassDef _ _ _ b _ _ _ _ _ _ _ => b
  | _ => []
abbrev top (i : Nat) : Stmt := bod.getD i (.Pass ⟨0, 0, 0, 0⟩)
abbrev inn (i j : Nat) : Stmt := (clb (top i)).getD j (.Pass ⟨0, 0, 0, 0⟩)
def zz : Nms where
  con := [(("MOST_WORD_modes" : Str), .int 3), (("MOST_TURNS" : Str), .int 8), (("PLAYERS" : Str), .tup [.str ("a" : Str), .str ("b" : Str)]), (("MOST_EVENTS" : Str), .int 300), (("MOST_KINDS" : Str), .int 4), (("MOST_WORD_rows" : Str), .int 3), (("MOST_PLACES" : Str), .int 6), (("MOST_LENGTH" : Str), .int 300), (("MOST_MENDED" : Str), .int 60), (("MOST_COST" : Str), .int 1000), (("MOST_ROWS" : Str), .int 4096), (("MOST_FIRM" : Str), .int 12), (("MOST_BOUND" : Str), .int 1000000), (("MOST_NEAR" : Str), .int 3), (("LETTERS_texts" : Str), .str ("abcdefghijklmnopqrstuvwxyz" : Str)), (("MOST_LETTERS" : Str), .int 12), (("MOST_SPREAD" : Str), .int 60), (("again_paper" : Str), .fn 27), (("distance_paper" : Str), .fn 40), (("forced" : Str), .fn 19), (("forced_paper" : Str), .fn 20), (("is_again_paper" : Str), .fn 28), (("is_reach_paper" : Str), .fn 25), (("is_word" : Str), .fn 12), (("mend_cost" : Str), .fn 32), (("mend_script" : Str), .fn 33), (("next_row" : Str), .fn 60), (("rank_of" : Str), .fn 57), (("reach_paper" : Str), .fn 23), (("reach_time" : Str), .fn 24), (("thickened_watch" : Str), .fn 51), (("thinned_watch" : Str), .fn 50), (("verdict_distance" : Str), .fn 39), (("visits" : Str), .fn 26)]
  fns := [(("is_number" : Str), 0, 1, []), (("is_between" : Str), 1, 3, []), (("is_list" : Str), 2, 1, []), (("need_verdict" : Str), 3, 1, []), (("is_player" : Str), 4, 1, []), (("need_turns" : Str), 5, 1, []), (("turn_at" : Str), 6, 2, []), (("first_wrong" : Str), 7, 2, []), (("is_short_list" : Str), 8, 1, []), (("is_row" : Str), 9, 2, []), (("need_row" : Str), 10, 2, []), (("need_row_of" : Str), 11, 2, []), (("is_word" : Str), 12, 1, []), (("is_line" : Str), 13, 3, []), (("need_moves" : Str), 14, 1, []), (("need_words" : Str), 15, 2, []), (("need_watch" : Str), 16, 2, [.non]), (("need_forced" : Str), 17, 4, []), (("winners_by" : Str), 18, 4, []), (("forced" : Str), 19, 4, []), (("forced_paper" : Str), 20, 4, []), (("is_forced_paper" : Str), 21, 5, []), (("need_game" : Str), 22, 3, []), (("reach_paper" : Str), 23, 3, []), (("reach_time" : Str), 24, 3, []), (("is_reach_paper" : Str), 25, 4, []), (("visits" : Str), 26, 3, []), (("again_paper" : Str), 27, 3, []), (("is_again_paper" : Str), 28, 4, []), (("need_mend_row" : Str), 29, 2, []), (("need_costs" : Str), 30, 1, []), (("need_mended" : Str), 31, 4, []), (("mend_cost" : Str), 32, 4, []), (("mend_script" : Str), 33, 4, []), (("is_deed" : Str), 34, 2, []), (("made_by" : Str), 35, 3, []), (("mended" : Str), 36, 3, []), (("is_mend" : Str), 37, 5, []), (("need_distance" : Str), 38, 4, []), (("verdict_distance" : Str), 39, 4, []), (("distance_paper" : Str), 40, 4, []), (("is_distance" : Str), 41, 5, []), (("tolerance" : Str), 42, 3, []), (("firmest" : Str), 43, 4, []), (("need_bound" : Str), 44, 1, []), (("floor_paper" : Str), 45, 5, []), (("is_floor" : Str), 46, 6, []), (("need_parts" : Str), 47, 4, []), (("splits" : Str), 48, 5, []), (("joined_watch" : Str), 49, 4, []), (("thinned_watch" : Str), 50, 2, []), (("thickened_watch" : Str), 51, 2, []), (("near_watch" : Str), 52, 3, []), (("is_name" : Str), 53, 1, []), (("are_names" : Str), 54, 1, []), (("match_text" : Str), 55, 2, []), (("counts_to" : Str), 56, 3, []), (("rank_of" : Str), 57, 2, []), (("need_length" : Str), 58, 1, []), (("row_at" : Str), 59, 4, []), (("next_row" : Str), 60, 2, []), (("spread" : Str), 61, 4, []), (("kind_sums" : Str), 62, 3, []), (("_law_draw" : Str), 63, 2, []), (("_law_pick" : Str), 64, 2, []), (("_law_word" : Str), 65, 1, []), (("_law_of_games" : Str), 66, 2, []), (("_law_of_mends" : Str), 67, 2, []), (("_law_of_rows" : Str), 68, 2, [])]
  cls := [(("BadNumber" : Str), 0), (("NoWatch" : Str), 1), (("BadVerdict" : Str), 2), (("BadRow" : Str), 3), (("BadPrices" : Str), 4), (("BadNames" : Str), 5), (("BadTurns" : Str), 6), (("BadScript" : Str), 7), (("NoMatch" : Str), 8), (("Watch" : Str), 9), (("Match" : Str), 10)]
  kws := []
  fuel := 1000
  fw := some "first_wrong"
  cau := some "_law_caught"
def r_is_number : FR := { at_ := .glo ("is_number" : Str), name := ("is_number" : Str), qual := ("is_number" : Str), st := top 20, dfl := [], ps := [("thing" : Str)], N := [("thing" : Str)], l := false, k := .code }
def r_is_between : FR := { at_ := .glo ("is_between" : Str), name := ("is_between" : Str), qual := ("is_between" : Str), st := top 21, dfl := [], ps := [("thing" : Str), ("low" : Str), ("high" : Str)], N := [("thing" : Str), ("low" : Str), ("high" : Str)], l := false, k := .code }
def r_is_list : FR := { at_ := .glo ("is_list" : Str), name := ("is_list" : Str), qual := ("is_list" : Str), st := top 22, dfl := [], ps := [("thing" : Str)], N := [("thing" : Str)], l := false, k := .code }
def r_need_verdict : FR := { at_ := .glo ("need_verdict" : Str), name := ("need_verdict" : Str), qual := ("need_verdict" : Str), st := top 25, dfl := [], ps := [("verdict" : Str)], N := [("verdict" : Str)], l := false, k := .code }
def r_is_player : FR := { at_ := .glo ("is_player" : Str), name := ("is_player" : Str), qual := ("is_player" : Str), st := top 29, dfl := [], ps := [("thing" : Str)], N := [("thing" : Str)], l := false, k := .code }
def r_need_turns : FR := { at_ := .glo ("need_turns" : Str), name := ("need_turns" : Str), qual := ("need_turns" : Str), st := top 30, dfl := [], ps := [("turns" : Str)], N := [("turns" : Str), ("index" : Str), ("player" : Str)], l := false, k := .code }
def r_turn_at : FR := { at_ := .glo ("turn_at" : Str), name := ("turn_at" : Str), qual := ("turn_at" : Str), st := top 31, dfl := [], ps := [("turns" : Str), ("tick" : Str)], N := [("turns" : Str), ("tick" : Str)], l := false, k := .code }
def r_first_wrong : FR := { at_ := .glo ("first_wrong" : Str), name := ("first_wrong" : Str), qual := ("first_wrong" : Str), st := top 39, dfl := [], ps := [("several" : Str), ("fits" : Str)], N := [("several" : Str), ("fits" : Str), ("index" : Str), ("item" : Str)], l := false, k := .code }
def r_is_short_list : FR := { at_ := .glo ("is_short_list" : Str), name := ("is_short_list" : Str), qual := ("is_short_list" : Str), st := top 40, dfl := [], ps := [("thing" : Str)], N := [("thing" : Str)], l := false, k := .code }
def r_is_row : FR := { at_ := .glo ("is_row" : Str), name := ("is_row" : Str), qual := ("is_row" : Str), st := top 41, dfl := [], ps := [("kinds" : Str), ("thing" : Str)], N := [("kinds" : Str), ("thing" : Str), ("item" : Str)], l := true, k := .code }
def r_need_row : FR := { at_ := .glo ("need_row" : Str), name := ("need_row" : Str), qual := ("need_row" : Str), st := top 42, dfl := [], ps := [("watch" : Str), ("row" : Str)], N := [("watch" : Str), ("row" : Str)], l := false, k := .code }
def r_need_row_of : FR := { at_ := .glo ("need_row_of" : Str), name := ("need_row_of" : Str), qual := ("need_row_of" : Str), st := top 43, dfl := [], ps := [("kinds" : Str), ("row" : Str)], N := [("kinds" : Str), ("row" : Str), ("index" : Str), ("item" : Str)], l := true, k := .code }
def r_is_word : FR := { at_ := .glo ("is_word" : Str), name := ("is_word" : Str), qual := ("is_word" : Str), st := top 44, dfl := [], ps := [("thing" : Str)], N := [("thing" : Str)], l := false, k := .code }
def r_is_line : FR := { at_ := .glo ("is_line" : Str), name := ("is_line" : Str), qual := ("is_line" : Str), st := top 47, dfl := [], ps := [("thing" : Str), ("kinds" : Str), ("places" : Str)], N := [("thing" : Str), ("kinds" : Str), ("places" : Str), ("item" : Str)], l := false, k := .code }
def r_need_moves : FR := { at_ := .glo ("need_moves" : Str), name := ("need_moves" : Str), qual := ("need_moves" : Str), st := top 48, dfl := [], ps := [("moves" : Str)], N := [("moves" : Str), ("first" : Str), ("index" : Str), ("line" : Str)], l := true, k := .code }
def r_need_words : FR := { at_ := .glo ("need_words" : Str), name := ("need_words" : Str), qual := ("need_words" : Str), st := top 49, dfl := [], ps := [("words" : Str), ("many" : Str)], N := [("words" : Str), ("many" : Str), ("index" : Str)], l := false, k := .code }
def r_need_watch : FR := { at_ := .glo ("need_watch" : Str), name := ("need_watch" : Str), qual := ("need_watch" : Str), st := top 51, dfl := [.non], ps := [("watch" : Str), ("part" : Str)], N := [("watch" : Str), ("part" : Str)], l := false, k := .code }
def r_need_forced : FR := { at_ := .glo ("need_forced" : Str), name := ("need_forced" : Str), qual := ("need_forced" : Str), st := top 55, dfl := [], ps := [("watch" : Str), ("verdict" : Str), ("turns" : Str), ("length" : Str)], N := [("watch" : Str), ("verdict" : Str), ("turns" : Str), ("length" : Str)], l := false, k := .code }
def r_winners_by : FR := { at_ := .glo ("winners_by" : Str), name := ("winners_by" : Str), qual := ("winners_by" : Str), st := top 56, dfl := [], ps := [("watch" : Str), ("verdict" : Str), ("turns" : Str), ("length" : Str)], N := [("watch" : Str), ("verdict" : Str), ("turns" : Str), ("length" : Str), ("found" : Str), ("word" : Str), ("tick" : Str), ("player" : Str), ("last" : Str), ("other" : Str), ("goal" : Str), ("goals" : Str)], l := false, k := .code }
def r_forced : FR := { at_ := .glo ("forced" : Str), name := ("forced" : Str), qual := ("forced" : Str), st := top 57, dfl := [], ps := [("watch" : Str), ("verdict" : Str), ("turns" : Str), ("length" : Str)], N := [("watch" : Str), ("verdict" : Str), ("turns" : Str), ("length" : Str)], l := false, k := .code }
def r_forced_paper : FR := { at_ := .glo ("forced_paper" : Str), name := ("forced_paper" : Str), qual := ("forced_paper" : Str), st := top 59, dfl := [], ps := [("watch" : Str), ("verdict" : Str), ("turns" : Str), ("length" : Str)], N := [("watch" : Str), ("verdict" : Str), ("turns" : Str), ("length" : Str), ("table" : Str), ("winner" : Str), ("plan" : Str), ("places" : Str), ("tick" : Str), ("behind" : Str), ("place" : Str), ("goal" : Str)], l := false, k := .code }
def r_is_forced_paper : FR := { at_ := .glo ("is_forced_paper" : Str), name := ("is_forced_paper" : Str), qual := ("is_forced_paper" : Str), st := top 62, dfl := [], ps := [("watch" : Str), ("verdict" : Str), ("turns" : Str), ("length" : Str), ("thing" : Str)], N := [("watch" : Str), ("verdict" : Str), ("turns" : Str), ("length" : Str), ("thing" : Str), ("places" : Str), ("place" : Str)], l := false, k := .code }
def r_need_game : FR := { at_ := .glo ("need_game" : Str), name := ("need_game" : Str), qual := ("need_game" : Str), st := top 64, dfl := [], ps := [("watch" : Str), ("verdict" : Str), ("turns" : Str)], N := [("watch" : Str), ("verdict" : Str), ("turns" : Str)], l := false, k := .code }
def r_reach_paper : FR := { at_ := .glo ("reach_paper" : Str), name := ("reach_paper" : Str), qual := ("reach_paper" : Str), st := top 67, dfl := [], ps := [("watch" : Str), ("verdict" : Str), ("turns" : Str)], N := [("watch" : Str), ("verdict" : Str), ("turns" : Str), ("states" : Str), ("ranks" : Str), ("state" : Str)], l := false, k := .code }
def r_reach_time : FR := { at_ := .glo ("reach_time" : Str), name := ("reach_time" : Str), qual := ("reach_time" : Str), st := top 68, dfl := [], ps := [("watch" : Str), ("verdict" : Str), ("turns" : Str)], N := [("watch" : Str), ("verdict" : Str), ("turns" : Str)], l := false, k := .code }
def r_is_reach_paper : FR := { at_ := .glo ("is_reach_paper" : Str), name := ("is_reach_paper" : Str), qual := ("is_reach_paper" : Str), st := top 74, dfl := [], ps := [("watch" : Str), ("verdict" : Str), ("turns" : Str), ("thing" : Str)], N := [("watch" : Str), ("verdict" : Str), ("turns" : Str), ("thing" : Str), ("ranks" : Str), ("state" : Str)], l := false, k := .code }
def r_visits : FR := { at_ := .glo ("visits" : Str), name := ("visits" : Str), qual := ("visits" : Str), st := top 78, dfl := [], ps := [("watch" : Str), ("verdict" : Str), ("turns" : Str)], N := [("watch" : Str), ("verdict" : Str), ("turns" : Str)], l := false, k := .code }
def r_again_paper : FR := { at_ := .glo ("again_paper" : Str), name := ("again_paper" : Str), qual := ("again_paper" : Str), st := top 80, dfl := [], ps := [("watch" : Str), ("verdict" : Str), ("turns" : Str)], N := [("watch" : Str), ("verdict" : Str), ("turns" : Str), ("states" : Str), ("counts" : Str), ("state" : Str), ("count" : Str)], l := false, k := .code }
def r_is_again_paper : FR := { at_ := .glo ("is_again_paper" : Str), name := ("is_again_paper" : Str), qual := ("is_again_paper" : Str), st := top 83, dfl := [], ps := [("watch" : Str), ("verdict" : Str), ("turns" : Str), ("thing" : Str)], N := [("watch" : Str), ("verdict" : Str), ("turns" : Str), ("thing" : Str), ("found" : Str), ("state" : Str)], l := false, k := .code }
def r_need_mend_row : FR := { at_ := .glo ("need_mend_row" : Str), name := ("need_mend_row" : Str), qual := ("need_mend_row" : Str), st := top 88, dfl := [], ps := [("watch" : Str), ("row" : Str)], N := [("watch" : Str), ("row" : Str)], l := false, k := .code }
def r_need_costs : FR := { at_ := .glo ("need_costs" : Str), name := ("need_costs" : Str), qual := ("need_costs" : Str), st := top 89, dfl := [], ps := [("prices" : Str)], N := [("prices" : Str), ("index" : Str), ("price" : Str)], l := false, k := .code }
def r_need_mended : FR := { at_ := .glo ("need_mended" : Str), name := ("need_mended" : Str), qual := ("need_mended" : Str), st := top 90, dfl := [], ps := [("watch" : Str), ("row" : Str), ("verdict" : Str), ("prices" : Str)], N := [("watch" : Str), ("row" : Str), ("verdict" : Str), ("prices" : Str)], l := false, k := .code }
def r_mend_cost : FR := { at_ := .glo ("mend_cost" : Str), name := ("mend_cost" : Str), qual := ("mend_cost" : Str), st := top 96, dfl := [], ps := [("watch" : Str), ("row" : Str), ("verdict" : Str), ("prices" : Str)], N := [("watch" : Str), ("row" : Str), ("verdict" : Str), ("prices" : Str), ("found" : Str)], l := false, k := .code }
def r_mend_script : FR := { at_ := .glo ("mend_script" : Str), name := ("mend_script" : Str), qual := ("mend_script" : Str), st := top 97, dfl := [], ps := [("watch" : Str), ("row" : Str), ("verdict" : Str), ("prices" : Str)], N := [("watch" : Str), ("row" : Str), ("verdict" : Str), ("prices" : Str)], l := false, k := .code }
def r_is_deed : FR := { at_ := .glo ("is_deed" : Str), name := ("is_deed" : Str), qual := ("is_deed" : Str), st := top 98, dfl := [], ps := [("watch" : Str), ("thing" : Str)], N := [("watch" : Str), ("thing" : Str)], l := false, k := .code }
def r_made_by : FR := { at_ := .glo ("made_by" : Str), name := ("made_by" : Str), qual := ("made_by" : Str), st := top 99, dfl := [], ps := [("watch" : Str), ("row" : Str), ("script" : Str)], N := [("watch" : Str), ("row" : Str), ("script" : Str), ("deed" : Str), ("found" : Str), ("spot" : Str), ("counts" : Str)], l := false, k := .code }
def r_mended : FR := { at_ := .glo ("mended" : Str), name := ("mended" : Str), qual := ("mended" : Str), st := top 100, dfl := [], ps := [("watch" : Str), ("row" : Str), ("script" : Str)], N := [("watch" : Str), ("row" : Str), ("script" : Str), ("made" : Str)], l := false, k := .code }
def r_is_mend : FR := { at_ := .glo ("is_mend" : Str), name := ("is_mend" : Str), qual := ("is_mend" : Str), st := top 102, dfl := [], ps := [("watch" : Str), ("row" : Str), ("verdict" : Str), ("prices" : Str), ("thing" : Str)], N := [("watch" : Str), ("row" : Str), ("verdict" : Str), ("prices" : Str), ("thing" : Str), ("made" : Str)], l := false, k := .code }
def r_need_distance : FR := { at_ := .glo ("need_distance" : Str), name := ("need_distance" : Str), qual := ("need_distance" : Str), st := top 109, dfl := [], ps := [("watch" : Str), ("verdict" : Str), ("other" : Str), ("prices" : Str)], N := [("watch" : Str), ("verdict" : Str), ("other" : Str), ("prices" : Str)], l := false, k := .code }
def r_verdict_distance : FR := { at_ := .glo ("verdict_distance" : Str), name := ("verdict_distance" : Str), qual := ("verdict_distance" : Str), st := top 111, dfl := [], ps := [("watch" : Str), ("verdict" : Str), ("other" : Str), ("prices" : Str)], N := [("watch" : Str), ("verdict" : Str), ("other" : Str), ("prices" : Str), ("found" : Str)], l := false, k := .code }
def r_distance_paper : FR := { at_ := .glo ("distance_paper" : Str), name := ("distance_paper" : Str), qual := ("distance_paper" : Str), st := top 112, dfl := [], ps := [("watch" : Str), ("verdict" : Str), ("other" : Str), ("prices" : Str)], N := [("watch" : Str), ("verdict" : Str), ("other" : Str), ("prices" : Str)], l := false, k := .code }
def r_is_distance : FR := { at_ := .glo ("is_distance" : Str), name := ("is_distance" : Str), qual := ("is_distance" : Str), st := top 113, dfl := [], ps := [("watch" : Str), ("verdict" : Str), ("other" : Str), ("prices" : Str), ("thing" : Str)], N := [("watch" : Str), ("verdict" : Str), ("other" : Str), ("prices" : Str), ("thing" : Str), ("made" : Str)], l := false, k := .code }
def r_tolerance : FR := { at_ := .glo ("tolerance" : Str), name := ("tolerance" : Str), qual := ("tolerance" : Str), st := top 115, dfl := [], ps := [("watch" : Str), ("row" : Str), ("prices" : Str)], N := [("watch" : Str), ("row" : Str), ("prices" : Str)], l := false, k := .code }
def r_firmest : FR := { at_ := .glo ("firmest" : Str), name := ("firmest" : Str), qual := ("firmest" : Str), st := top 117, dfl := [], ps := [("watch" : Str), ("verdict" : Str), ("length" : Str), ("prices" : Str)], N := [("watch" : Str), ("verdict" : Str), ("length" : Str), ("prices" : Str), ("rows" : Str), ("best" : Str), ("row" : Str), ("cost" : Str)], l := false, k := .code }
def r_need_bound : FR := { at_ := .glo ("need_bound" : Str), name := ("need_bound" : Str), qual := ("need_bound" : Str), st := top 126, dfl := [], ps := [("bound" : Str)], N := [("bound" : Str)], l := false, k := .code }
def r_floor_paper : FR := { at_ := .glo ("floor_paper" : Str), name := ("floor_paper" : Str), qual := ("floor_paper" : Str), st := top 128, dfl := [], ps := [("watch" : Str), ("row" : Str), ("verdict" : Str), ("prices" : Str), ("bound" : Str)], N := [("watch" : Str), ("row" : Str), ("verdict" : Str), ("prices" : Str), ("bound" : Str), ("heights" : Str)], l := false, k := .code }
def r_is_floor : FR := { at_ := .glo ("is_floor" : Str), name := ("is_floor" : Str), qual := ("is_floor" : Str), st := top 132, dfl := [], ps := [("watch" : Str), ("row" : Str), ("verdict" : Str), ("prices" : Str), ("bound" : Str), ("thing" : Str)], N := [("watch" : Str), ("row" : Str), ("verdict" : Str), ("prices" : Str), ("bound" : Str), ("thing" : Str), ("keys" : Str), ("spot" : Str), ("place" : Str)], l := false, k := .code }
def r_need_parts : FR := { at_ := .glo ("need_parts" : Str), name := ("need_parts" : Str), qual := ("need_parts" : Str), st := top 136, dfl := [], ps := [("one" : Str), ("verdict" : Str), ("other" : Str), ("word" : Str)], N := [("one" : Str), ("verdict" : Str), ("other" : Str), ("word" : Str)], l := false, k := .code }
def r_splits : FR := { at_ := .glo ("splits" : Str), name := ("splits" : Str), qual := ("splits" : Str), st := top 138, dfl := [], ps := [("one" : Str), ("verdict" : Str), ("other" : Str), ("word" : Str), ("row" : Str)], N := [("one" : Str), ("verdict" : Str), ("other" : Str), ("word" : Str), ("row" : Str)], l := false, k := .code }
def r_joined_watch : FR := { at_ := .glo ("joined_watch" : Str), name := ("joined_watch" : Str), qual := ("joined_watch" : Str), st := top 141, dfl := [], ps := [("one" : Str), ("verdict" : Str), ("other" : Str), ("word" : Str)], N := [("one" : Str), ("verdict" : Str), ("other" : Str), ("word" : Str), ("goals" : Str), ("place" : Str)], l := false, k := .code }
def r_thinned_watch : FR := { at_ := .glo ("thinned_watch" : Str), name := ("thinned_watch" : Str), qual := ("thinned_watch" : Str), st := top 143, dfl := [], ps := [("watch" : Str), ("verdict" : Str)], N := [("watch" : Str), ("verdict" : Str), ("place" : Str)], l := false, k := .code }
def r_thickened_watch : FR := { at_ := .glo ("thickened_watch" : Str), name := ("thickened_watch" : Str), qual := ("thickened_watch" : Str), st := top 144, dfl := [], ps := [("watch" : Str), ("verdict" : Str)], N := [("watch" : Str), ("verdict" : Str), ("place" : Str)], l := false, k := .code }
def r_near_watch : FR := { at_ := .glo ("near_watch" : Str), name := ("near_watch" : Str), qual := ("near_watch" : Str), st := top 146, dfl := [], ps := [("watch" : Str), ("verdict" : Str), ("most" : Str)], N := [("watch" : Str), ("verdict" : Str), ("most" : Str), ("costs" : Str), ("place" : Str), ("cost" : Str), ("item" : Str), ("goal" : Str), ("more" : Str)], l := false, k := .code }
def r_is_name : FR := { at_ := .glo ("is_name" : Str), name := ("is_name" : Str), qual := ("is_name" : Str), st := top 150, dfl := [], ps := [("thing" : Str)], N := [("thing" : Str), ("letter" : Str)], l := false, k := .code }
def r_are_names : FR := { at_ := .glo ("are_names" : Str), name := ("are_names" : Str), qual := ("are_names" : Str), st := top 151, dfl := [], ps := [("thing" : Str)], N := [("thing" : Str), ("name" : Str)], l := false, k := .code }
def r_match_text : FR := { at_ := .glo ("match_text" : Str), name := ("match_text" : Str), qual := ("match_text" : Str), st := top 167, dfl := [], ps := [("match" : Str), ("names" : Str)], N := [("match" : Str), ("names" : Str), ("head" : Str), ("rows" : Str), ("kind" : Str)], l := false, k := .code }
def r_counts_to : FR := { at_ := .glo ("counts_to" : Str), name := ("counts_to" : Str), qual := ("counts_to" : Str), st := top 170, dfl := [], ps := [("watch" : Str), ("verdict" : Str), ("length" : Str)], N := [("watch" : Str), ("verdict" : Str), ("length" : Str), ("found" : Str), ("word" : Str), ("tick" : Str), ("last" : Str), ("goal" : Str), ("goals" : Str)], l := false, k := .code }
def r_rank_of : FR := { at_ := .glo ("rank_of" : Str), name := ("rank_of" : Str), qual := ("rank_of" : Str), st := top 171, dfl := [], ps := [("watch" : Str), ("row" : Str)], N := [("watch" : Str), ("row" : Str), ("counts" : Str), ("found" : Str), ("place" : Str), ("tick" : Str), ("kind" : Str), ("goal" : Str)], l := false, k := .code }
def r_need_length : FR := { at_ := .glo ("need_length" : Str), name := ("need_length" : Str), qual := ("need_length" : Str), st := top 172, dfl := [], ps := [("length" : Str)], N := [("length" : Str)], l := false, k := .code }
def r_row_at : FR := { at_ := .glo ("row_at" : Str), name := ("row_at" : Str), qual := ("row_at" : Str), st := top 174, dfl := [], ps := [("watch" : Str), ("verdict" : Str), ("length" : Str), ("number" : Str)], N := [("watch" : Str), ("verdict" : Str), ("length" : Str), ("number" : Str), ("counts" : Str)], l := false, k := .code }
def r_next_row : FR := { at_ := .glo ("next_row" : Str), name := ("next_row" : Str), qual := ("next_row" : Str), st := top 175, dfl := [], ps := [("watch" : Str), ("row" : Str)], N := [("watch" : Str), ("row" : Str), ("number" : Str), ("verdict" : Str), ("counts" : Str)], l := false, k := .code }
def r_spread : FR := { at_ := .glo ("spread" : Str), name := ("spread" : Str), qual := ("spread" : Str), st := top 176, dfl := [], ps := [("watch" : Str), ("verdict" : Str), ("length" : Str), ("kind" : Str)], N := [("watch" : Str), ("verdict" : Str), ("length" : Str), ("kind" : Str), ("line" : Str), ("tick" : Str), ("later" : Str), ("place" : Str), ("many" : Str), ("ways" : Str), ("item" : Str), ("goal" : Str), ("key" : Str), ("found" : Str)], l := false, k := .code }
def r_kind_sums : FR := { at_ := .glo ("kind_sums" : Str), name := ("kind_sums" : Str), qual := ("kind_sums" : Str), st := top 177, dfl := [], ps := [("watch" : Str), ("verdict" : Str), ("length" : Str)], N := [("watch" : Str), ("verdict" : Str), ("length" : Str), ("counts" : Str), ("line" : Str), ("found" : Str), ("tick" : Str), ("later" : Str), ("place" : Str), ("ways" : Str), ("kind" : Str), ("goal" : Str)], l := false, k := .code }
def r__law_draw : FR := { at_ := .glo ("_law_draw" : Str), name := ("_law_draw" : Str), qual := ("_law_draw" : Str), st := top 181, dfl := [], ps := [("tape" : Str), ("size" : Str)], N := [("tape" : Str), ("size" : Str), ("found" : Str)], l := false, k := .prim fun _ => drawP }
def r__law_pick : FR := { at_ := .glo ("_law_pick" : Str), name := ("_law_pick" : Str), qual := ("_law_pick" : Str), st := top 182, dfl := [], ps := [("tape" : Str), ("several" : Str)], N := [("tape" : Str), ("several" : Str)], l := false, k := .code }
def r__law_word : FR := { at_ := .glo ("_law_word" : Str), name := ("_law_word" : Str), qual := ("_law_word" : Str), st := top 184, dfl := [], ps := [("caught" : Str)], N := [("caught" : Str)], l := false, k := .code }
def r__law_of_games : FR := { at_ := .glo ("_law_of_games" : Str), name := ("_law_of_games" : Str), qual := ("_law_of_games" : Str), st := top 185, dfl := [], ps := [("one" : Str), ("odd" : Str)], N := [("one" : Str), ("odd" : Str), ("found" : Str), ("watch" : Str), ("verdict" : Str), ("turns" : Str), ("length" : Str), ("work" : Str)], l := true, k := .code }
def r__law_of_mends : FR := { at_ := .glo ("_law_of_mends" : Str), name := ("_law_of_mends" : Str), qual := ("_law_of_mends" : Str), st := top 186, dfl := [], ps := [("one" : Str), ("odd" : Str)], N := [("one" : Str), ("odd" : Str), ("found" : Str), ("watch" : Str), ("row" : Str), ("verdict" : Str), ("prices" : Str), ("bound" : Str), ("work" : Str), ("script" : Str), ("other" : Str), ("length" : Str)], l := true, k := .code }
def r__law_of_rows : FR := { at_ := .glo ("_law_of_rows" : Str), name := ("_law_of_rows" : Str), qual := ("_law_of_rows" : Str), st := top 187, dfl := [], ps := [("one" : Str), ("odd" : Str)], N := [("one" : Str), ("odd" : Str), ("found" : Str), ("watch" : Str), ("row" : Str), ("work" : Str), ("verdict" : Str), ("length" : Str), ("number" : Str), ("first" : Str), ("second" : Str), ("word" : Str), ("match" : Str)], l := true, k := .code }
def r_Watch_kinds : FR := { at_ := .prp ("Watch" : Str) ("kinds" : Str), name := ("kinds" : Str), qual := ("Watch.kinds" : Str), st := inn 50 3, ps := ["self"], N := [("self" : Str)], l := false, k := .code }
def r_Watch_moves : FR := { at_ := .prp ("Watch" : Str) ("moves" : Str), name := ("moves" : Str), qual := ("Watch.moves" : Str), st := inn 50 1, ps := ["self"], N := [("self" : Str)], l := false, k := .code }
def r_Watch_words : FR := { at_ := .prp ("Watch" : Str) ("words" : Str), name := ("words" : Str), qual := ("Watch.words" : Str), st := inn 50 2, ps := ["self"], N := [("self" : Str)], l := false, k := .code }
def r_Watch_init : FR := { at_ := .mth ("Watch" : Str) "__init__", name := "__init__", qual := ("Watch.__init__" : Str), st := inn 50 0, ps := [("self" : Str), ("moves" : Str), ("words" : Str)], N := [("self" : Str), ("moves" : Str), ("words" : Str), ("line" : Str)], l := false, k := .ini 9 }
def r_Match_init : FR := { at_ := .mth ("Match" : Str) "__init__", name := "__init__", qual := ("Match.__init__" : Str), st := inn 166 0, ps := [("self" : Str), ("watch" : Str), ("verdict" : Str), ("turns" : Str), ("length" : Str)], N := [("self" : Str), ("watch" : Str), ("verdict" : Str), ("turns" : Str), ("length" : Str)], l := false, k := .ini 10 }
def ri_PartError : FR := { at_ := .mth ("PartError" : Str) "__init__", name := "__init__", qual := ("PartError.__init__" : Str), st := inn 3 0, clo := ["__class__"], ps := ["self", ("part" : Str)], N := ["self", ("part" : Str)], k := .non }
def ri_ItemError : FR := { at_ := .mth ("ItemError" : Str) "__init__", name := "__init__", qual := ("ItemError.__init__" : Str), st := inn 4 0, clo := ["__class__"], ps := ["self", ("index" : Str)], N := ["self", ("index" : Str)], k := .non }
def rx_law : FR := { at_ := .glo ("law" : Str), name := ("law" : Str), qual := ("law" : Str), st := top 188, ps := [("script" : Str)], N := [("script" : Str), ("tape" : Str), ("odd" : Str), ("one" : Str), ("told" : Str), ("due" : Str), ("item" : Str)], l := false, k := .non }
def rx__law_begun : FR := { at_ := .glo ("_law_begun" : Str), name := ("_law_begun" : Str), qual := ("_law_begun" : Str), st := top 179, ps := [("script" : Str)], N := [("script" : Str), ("large" : Str), ("grain" : Str)], l := false, k := .non }
def rx__law_blend : FR := { at_ := .glo ("_law_blend" : Str), name := ("_law_blend" : Str), qual := ("_law_blend" : Str), st := top 180, ps := [("tape" : Str)], N := [("tape" : Str), ("turn" : Str), ("found" : Str), ("great" : Str), ("blended" : Str), ("grain" : Str)], l := false, k := .non }
def rx__law_caught : FR := { at_ := .glo ("_law_caught" : Str), name := ("_law_caught" : Str), qual := ("_law_caught" : Str), st := top 183, ps := [("work" : Str)], N := [("work" : Str), ("found" : Str), ("error" : Str)], l := false, k := .non }
def rs : List FR := [r_is_number, r_is_between, r_is_list, r_need_verdict, r_is_player, r_need_turns, r_turn_at, r_first_wrong, r_is_short_list, r_is_row, r_need_row, r_need_row_of, r_is_word, r_is_line, r_need_moves, r_need_words, r_need_watch, r_need_forced, r_winners_by, r_forced, r_forced_paper, r_is_forced_paper, r_need_game, r_reach_paper, r_reach_time, r_is_reach_paper, r_visits, r_again_paper, r_is_again_paper, r_need_mend_row, r_need_costs, r_need_mended, r_mend_cost, r_mend_script, r_is_deed, r_made_by, r_mended, r_is_mend, r_need_distance, r_verdict_distance, r_distance_paper, r_is_distance, r_tolerance, r_firmest, r_need_bound, r_floor_paper, r_is_floor, r_need_parts, r_splits, r_joined_watch, r_thinned_watch, r_thickened_watch, r_near_watch, r_is_name, r_are_names, r_match_text, r_counts_to, r_rank_of, r_need_length, r_row_at, r_next_row, r_spread, r_kind_sums, r__law_draw, r__law_pick, r__law_word, r__law_of_games, r__law_of_mends, r__law_of_rows, r_Watch_kinds, r_Watch_moves, r_Watch_words, r_Watch_init, r_Match_init]
def xt : List FR := [rx_law, rx__law_begun, rx__law_blend, rx__law_caught, ri_PartError, ri_ItemError]
def td : TD where
  cn := [("BadNumber" : Str), ("NoWatch" : Str), ("BadVerdict" : Str), ("BadRow" : Str), ("BadPrices" : Str), ("BadNames" : Str), ("BadTurns" : Str), ("BadScript" : Str), ("NoMatch" : Str), ("Watch" : Str), ("Match" : Str)]
  ins := [9, 10]
  exc := [0, 1, 2, 3, 4, 5, 6, 7, 8]
  subs := [[0], [1], [2], [3], [4], [5], [6], [7], [8], [9], [10]]
  flds := [[("part" : Str)], [("part" : Str)], [], [("index" : Str)], [("index" : Str)], [], [("index" : Str)], [], [], [("own_moves" : Str), ("own_words" : Str)], [("own_watch" : Str), ("own_verdict" : Str), ("own_turns" : Str), ("own_length" : Str), ("own_row" : Str), ("own_later" : Str), ("own_table" : Str)]]
  props := [[], [], [], [], [], [], [], [], [], [(("kinds" : Str), 69), (("moves" : Str), 70), (("words" : Str), 71)], []]
  mkx := [some [("part" : Str)], some [("part" : Str)], some [], some [("index" : Str)], some [("index" : Str)], some [], some [("index" : Str)], some [], some [], none, none]
  fv := [27, 40, 19, 20, 28, 25, 12, 32, 33, 60, 57, 23, 24, 51, 50, 39, 26]
  maks := [none, none, none, none, none, none, none, none, none, some 72, some 73]
  sups := [(0, ("part" : Str), ri_PartError), (1, ("part" : Str), ri_PartError), (3, ("index" : Str), ri_ItemError), (4, ("index" : Str), ri_ItemError), (6, ("index" : Str), ri_ItemError)]
end Lw

set_option maxRecDepth 100000
set_option maxHeartbeats 0
namespace Lw
open PySem PySem.Spec PyProof.Rows L2 Dl
def lo0 : List Str := ["_wall", "WatchError", "PartError", "ItemError", "TooMany", "BadNumber", "NoRoom", "NoWatch", "BadVerdict", "BadMoves", "BadWords", "BadRow", "BadPrices", "BadNames", "BadTurns", "BadScript", "NoMatch", "NotTurn", "is_number", "is_between", "is_list", "MOST_WORD_modes", "need_verdict", "MOST_TURNS", "PLAYERS", "is_player", "need_turns", "turn_at", "states_by", "goals_of"]
def lo1 : List Str := ["says", "MOST_EVENTS", "MOST_KINDS", "MOST_WORD_rows", "first_wrong", "is_short_list", "is_row", "need_row", "need_row_of", "is_word", "MOST_PLACES", "is_line", "need_moves", "need_words", "Watch", "need_watch", "led_from", "MOST_LENGTH", "need_forced", "winners_by", "forced", "kind_to", "forced_paper", "is_kind_plan", "ends_by", "is_forced_paper", "need_game", "is_drawn", "ranks_by", "reach_paper"]
def lo2 : List Str := ["reach_time", "is_state", "is_ranked", "falls", "stays_in", "is_trap", "is_reach_paper", "lifted", "counts_by", "visits", "come_ranks", "again_paper", "comes_on", "holds_down", "is_again_paper", "MOST_MENDED", "MOST_COST", "DEEDS", "need_mend_row", "need_costs", "need_mended", "offer", "inserted", "step_on", "mended_by", "mend_by", "mend_cost", "mend_script", "is_deed", "made_by"]
def lo3 : List Str := ["mended", "cost_of", "is_mend", "MOST_ROWS", "MOST_FIRM", "pair_goals", "is_less", "pairs_by", "need_distance", "distance_by", "verdict_distance", "distance_paper", "is_distance", "tolerance_by", "tolerance", "rows_of", "firmest", "found_places", "numbered", "marks_of", "least_tables", "places_reached", "MOST_BOUND", "need_bound", "heights_by", "floor_paper", "holds_up", "are_heights", "is_gentle", "is_floor"]
def lo4 : List Str := ["MOST_NEAR", "MOST_MADE", "need_parts", "splits_by", "splits", "made_watch", "with_begin", "joined_watch", "all_reached", "thinned_watch", "thickened_watch", "spread_out", "near_watch", "LETTERS_texts", "MOST_LETTERS", "is_name", "are_names", "names_line", "place_line", "place_lines", "CLOSERS", "LETTERS_values", "MOST_DEPTH", "MOST_NUMBER", "is_plain_word", "plain_word", "items_in", "value_words", "value_row", "Match"]
def lo5 : List Str := ["match_text", "MOST_SPREAD", "counts_to", "rank_of", "need_length", "row_by", "row_at", "next_row", "spread", "kind_sums", "_law_begun", "_law_blend", "_law_draw", "_law_pick", "_law_caught", "_law_word", "_law_of_games", "_law_of_mends", "_law_of_rows"]
def loose : List Str := lo0 ++ lo1 ++ lo2 ++ lo3 ++ lo4 ++ lo5
def as_ : List Addr := [31, 53, 74, 95, 107, 119, 131, 143, 155, 167, 179, 191, 203, 215, 227, 239, 251, 429, 1101, 3, 2, 30, 52, 73, 94, 106, 118, 130, 142, 154, 166, 178, 190, 202, 214, 226, 238, 250, 428, 1100, 260, 267, 274, 281, 289, 296, 303, 329, 336, 343, 350, 357, 364, 369, 376, 383, 441, 455, 460, 467, 479, 496, 503, 518, 525, 557, 574, 584, 599, 607, 614, 621, 661, 668, 675, 680, 687, 701, 727, 741, 748, 755, 767, 777, 815, 827, 849, 856, 870, 889, 901, 908, 922, 927, 932, 1110, 1115, 1120, 1127, 1141, 1148, 1153, 1160, 1179, 1186, 1200, 1205, 1210, 1215, 1220, 1165, 1172, 1193, 32, 50, 71, 92, 395, 403, 411, 419, 426, 430, 431, 997, 1005, 1013, 1021, 1029, 1037, 1044, 1051, 1056, 1063, 1070, 1077, 1084, 1091, 1098, 1102, 1103, 38, 59, 80, 402, 410, 418, 1004, 1012, 1020, 1028, 1036, 259, 266, 273, 280, 288, 295, 302, 328, 335, 342, 349, 356, 363, 368, 375, 382, 440, 434, 454, 459, 466, 478, 495, 502, 517, 524, 556, 573, 583, 598, 606, 613, 620, 660, 667, 674, 679, 686, 700, 726, 740, 747, 754, 766, 776, 814, 826, 848, 855, 869, 888, 900, 907, 921, 926, 931, 1109, 1114, 1119, 1126, 1140, 1147, 1152, 1159, 1178, 1185, 1199, 1204, 1209, 1214, 1219, 1164, 1171, 1192, 49, 70, 91, 394, 425, 996, 1043, 1050, 1055, 1062, 1069, 1076, 1083, 1090, 1097, 401, 409, 417, 1003, 1011, 1019, 1027, 1035, 282]
def ex (K : Fg) : Bool := (chK R.prog zz td rs (rs ++ xt) "WatchError" K).all id
abbrev hk : PySem.W.Hook := hookY as_ (rs ++ xt) (tfOf (rs ++ xt)) ex
def ob (s : PySem.W.SharedT) : AlY := obsY as_ (rs ++ xt) (tfOf (rs ++ xt)) ex (HandSHeadRun.getT s)
theorem ob_eq (s : PySem.W.SharedT) : ob s = hk.obs s.abs := obsY_eq (HandSHeadRun.getT_eq s)
def exA (K : Fg) : Bool := ((chK R.prog zz td rs (rs ++ xt) "WatchError" K).take 8).all id
def exB (K : Fg) : Bool := ((chK R.prog zz td rs (rs ++ xt) "WatchError" K).drop 8).all id
def exA1 (K : Fg) : Bool := (((chK R.prog zz td rs (rs ++ xt) "WatchError" K).take 8).take 5).all id
def exA2 (K : Fg) : Bool := (((chK R.prog zz td rs (rs ++ xt) "WatchError" K).take 8).drop 5).all id
theorem exA_of {K : Fg} (h1 : exA1 K = true) (h2 : exA2 K = true) : exA K = true := by
  have h : exA K = (exA1 K && exA2 K) := by
    unfold exA exA1 exA2
    rw [← List.all_append, List.take_append_drop]
  rw [h, h1, h2]
  rfl
theorem p1_join {o : Option PySem.W.SharedT} {f : PySem.W.SharedT → Bool} (h1 : o.map f = some true) (h2 : o.map (fun s => exA1 (He.frT (HandSHeadRun.getT s) as_)) = some true) (h3 : o.map (fun s => exA2 (He.frT (HandSHeadRun.getT s) as_)) = some true) : o.map (fun s => f s && exA (He.frT (HandSHeadRun.getT s) as_)) = some true := by
  cases o with
  | none => cases h1
  | some s =>
    have e1 : f s = true := Option.some.inj h1
    have e2 := exA_of (Option.some.inj h2) (Option.some.inj h3)
    show some (f s && exA (He.frT (HandSHeadRun.getT s) as_)) = some true
    rw [e1, e2]
    rfl
def okA (g : Addr → Option Obj) (K : Fg) : Bool := ((rs ++ xt).all fun d => d.ok K) && tabsY g (tfOf (rs ++ xt)) K
theorem ob1 (g : Addr → Option Obj) : (obsY as_ (rs ++ xt) (tfOf (rs ++ xt)) ex g).1 = (exA (He.frT g as_) && exB (He.frT g as_) && okA g (He.frT g as_)) := by
  unfold obsY obK okA
  generalize He.frT g as_ = K
  have h : ex K = (exA K && exB K) := by
    unfold ex exA exB
    rw [← List.all_append, List.take_append_drop]
  rw [← h]
theorem run_p1a_false (w : World) (os : OsState) : (HandSHeadRun.endF (HandSHeadRun.stepQ (HandSHeadRun.denQ HandSHeadRun.tabQ) R.prog (w.withFollow "special-get-raises" false)) 40000 R.prog (w.withFollow "special-get-raises" false) os).map (fun s => HandSHeadRun.looksF R.prog (PySem.W.boot_heap (w.withFollow "special-get-raises" false).params) s.abs) = some true := by kernel_rfl
theorem run_p1b_false (w : World) (os : OsState) : (HandSHeadRun.endF (HandSHeadRun.stepQ (HandSHeadRun.denQ HandSHeadRun.tabQ) R.prog (w.withFollow "special-get-raises" false)) 40000 R.prog (w.withFollow "special-get-raises" false) os).map (fun s => exA1 (He.frT (HandSHeadRun.getT s) as_)) = some true := by kernel_rfl
theorem run_p1c_false (w : World) (os : OsState) : (HandSHeadRun.endF (HandSHeadRun.stepQ (HandSHeadRun.denQ HandSHeadRun.tabQ) R.prog (w.withFollow "special-get-raises" false)) 40000 R.prog (w.withFollow "special-get-raises" false) os).map (fun s => exA2 (He.frT (HandSHeadRun.getT s) as_)) = some true := by kernel_rfl
theorem run_p1_false (w : World) (os : OsState) : (HandSHeadRun.endF (HandSHeadRun.stepQ (HandSHeadRun.denQ HandSHeadRun.tabQ) R.prog (w.withFollow "special-get-raises" false)) 40000 R.prog (w.withFollow "special-get-raises" false) os).map (fun s => HandSHeadRun.looksF R.prog (PySem.W.boot_heap (w.withFollow "special-get-raises" false).params) s.abs && exA (He.frT (HandSHeadRun.getT s) as_)) = some true := p1_join (f := fun s => HandSHeadRun.looksF R.prog (PySem.W.boot_heap (w.withFollow "special-get-raises" false).params) s.abs) (run_p1a_false w os) (run_p1b_false w os) (run_p1c_false w os)
theorem run_p2_false (w : World) (os : OsState) : (HandSHeadRun.endF (HandSHeadRun.stepQ (HandSHeadRun.denQ HandSHeadRun.tabQ) R.prog (w.withFollow "special-get-raises" false)) 40000 R.prog (w.withFollow "special-get-raises" false) os).map (fun s => HandSHeadRun.seenQ (PySem.W.view R.prog [188]) loose (importedModules R.prog.main.body) (fun s => PySem.W.xlAt (PySem.W.view R.prog [188]) [] s && PySem.W.recOk R.toRowW.records s) s.abs) = some (PySem.W.openGood (PySem.W.view R.prog [188]) loose) := by kernel_rfl
theorem run_p3_false (w : World) (os : OsState) : (HandSHeadRun.endF (HandSHeadRun.stepQ (HandSHeadRun.denQ HandSHeadRun.tabQ) R.prog (w.withFollow "special-get-raises" false)) 40000 R.prog (w.withFollow "special-get-raises" false) os).map (fun s => exB (He.frT (HandSHeadRun.getT s) as_)) = some true := by kernel_rfl
theorem run_p4_false (w : World) (os : OsState) : (HandSHeadRun.endF (HandSHeadRun.stepQ (HandSHeadRun.denQ HandSHeadRun.tabQ) R.prog (w.withFollow "special-get-raises" false)) 40000 R.prog (w.withFollow "special-get-raises" false) os).map (fun s => (ob s).2) = some ((rs ++ xt).map FR.val) := by kernel_rfl
theorem run_p5_false (w : World) (os : OsState) : (HandSHeadRun.endF (HandSHeadRun.stepQ (HandSHeadRun.denQ HandSHeadRun.tabQ) R.prog (w.withFollow "special-get-raises" false)) 40000 R.prog (w.withFollow "special-get-raises" false) os).map (fun s => okA (HandSHeadRun.getT s) (He.frT (HandSHeadRun.getT s) as_)) = some true := by kernel_rfl
theorem run_p1a_true (w : World) (os : OsState) : (HandSHeadRun.endF (HandSHeadRun.stepQ (HandSHeadRun.denQ HandSHeadRun.tabQ) R.prog (w.withFollow "special-get-raises" true)) 40000 R.prog (w.withFollow "special-get-raises" true) os).map (fun s => HandSHeadRun.looksF R.prog (PySem.W.boot_heap (w.withFollow "special-get-raises" true).params) s.abs) = some true := by kernel_rfl
theorem run_p1b_true (w : World) (os : OsState) : (HandSHeadRun.endF (HandSHeadRun.stepQ (HandSHeadRun.denQ HandSHeadRun.tabQ) R.prog (w.withFollow "special-get-raises" true)) 40000 R.prog (w.withFollow "special-get-raises" true) os).map (fun s => exA1 (He.frT (HandSHeadRun.getT s) as_)) = some true := by kernel_rfl
theorem run_p1c_true (w : World) (os : OsState) : (HandSHeadRun.endF (HandSHeadRun.stepQ (HandSHeadRun.denQ HandSHeadRun.tabQ) R.prog (w.withFollow "special-get-raises" true)) 40000 R.prog (w.withFollow "special-get-raises" true) os).map (fun s => exA2 (He.frT (HandSHeadRun.getT s) as_)) = some true := by kernel_rfl
theorem run_p1_true (w : World) (os : OsState) : (HandSHeadRun.endF (HandSHeadRun.stepQ (HandSHeadRun.denQ HandSHeadRun.tabQ) R.prog (w.withFollow "special-get-raises" true)) 40000 R.prog (w.withFollow "special-get-raises" true) os).map (fun s => HandSHeadRun.looksF R.prog (PySem.W.boot_heap (w.withFollow "special-get-raises" true).params) s.abs && exA (He.frT (HandSHeadRun.getT s) as_)) = some true := p1_join (f := fun s => HandSHeadRun.looksF R.prog (PySem.W.boot_heap (w.withFollow "special-get-raises" true).params) s.abs) (run_p1a_true w os) (run_p1b_true w os) (run_p1c_true w os)
theorem run_p2_true (w : World) (os : OsState) : (HandSHeadRun.endF (HandSHeadRun.stepQ (HandSHeadRun.denQ HandSHeadRun.tabQ) R.prog (w.withFollow "special-get-raises" true)) 40000 R.prog (w.withFollow "special-get-raises" true) os).map (fun s => HandSHeadRun.seenQ (PySem.W.view R.prog [188]) loose (importedModules R.prog.main.body) (fun s => PySem.W.xlAt (PySem.W.view R.prog [188]) [] s && PySem.W.recOk R.toRowW.records s) s.abs) = some (PySem.W.openGood (PySem.W.view R.prog [188]) loose) := by kernel_rfl
theorem run_p3_true (w : World) (os : OsState) : (HandSHeadRun.endF (HandSHeadRun.stepQ (HandSHeadRun.denQ HandSHeadRun.tabQ) R.prog (w.withFollow "special-get-raises" true)) 40000 R.prog (w.withFollow "special-get-raises" true) os).map (fun s => exB (He.frT (HandSHeadRun.getT s) as_)) = some true := by kernel_rfl
theorem run_p4_true (w : World) (os : OsState) : (HandSHeadRun.endF (HandSHeadRun.stepQ (HandSHeadRun.denQ HandSHeadRun.tabQ) R.prog (w.withFollow "special-get-raises" true)) 40000 R.prog (w.withFollow "special-get-raises" true) os).map (fun s => (ob s).2) = some ((rs ++ xt).map FR.val) := by kernel_rfl
theorem run_p5_true (w : World) (os : OsState) : (HandSHeadRun.endF (HandSHeadRun.stepQ (HandSHeadRun.denQ HandSHeadRun.tabQ) R.prog (w.withFollow "special-get-raises" true)) 40000 R.prog (w.withFollow "special-get-raises" true) os).map (fun s => okA (HandSHeadRun.getT s) (He.frT (HandSHeadRun.getT s) as_)) = some true := by kernel_rfl
theorem join {w : World} {os : OsState} (h1 : (HandSHeadRun.endF (HandSHeadRun.stepQ (HandSHeadRun.denQ HandSHeadRun.tabQ) R.prog w) 40000 R.prog w os).map (fun s => HandSHeadRun.looksF R.prog (PySem.W.boot_heap w.params) s.abs && exA (He.frT (HandSHeadRun.getT s) as_)) = some true)
    (h2 : (HandSHeadRun.endF (HandSHeadRun.stepQ (HandSHeadRun.denQ HandSHeadRun.tabQ) R.prog w) 40000 R.prog w os).map (fun s => HandSHeadRun.seenQ (PySem.W.view R.prog [188]) loose (importedModules R.prog.main.body) (fun s => PySem.W.xlAt (PySem.W.view R.prog [188]) [] s && PySem.W.recOk R.toRowW.records s) s.abs) = some (PySem.W.openGood (PySem.W.view R.prog [188]) loose))
    (h3 : (HandSHeadRun.endF (HandSHeadRun.stepQ (HandSHeadRun.denQ HandSHeadRun.tabQ) R.prog w) 40000 R.prog w os).map (fun s => exB (He.frT (HandSHeadRun.getT s) as_)) = some true)
    (h4 : (HandSHeadRun.endF (HandSHeadRun.stepQ (HandSHeadRun.denQ HandSHeadRun.tabQ) R.prog w) 40000 R.prog w os).map (fun s => (ob s).2) = some ((rs ++ xt).map FR.val))
    (h5 : (HandSHeadRun.endF (HandSHeadRun.stepQ (HandSHeadRun.denQ HandSHeadRun.tabQ) R.prog w) 40000 R.prog w os).map (fun s => okA (HandSHeadRun.getT s) (He.frT (HandSHeadRun.getT s) as_)) = some true) :
    (HandSHeadRun.endF (HandSHeadRun.stepQ (HandSHeadRun.denQ HandSHeadRun.tabQ) R.prog w) 40000 R.prog w os).map (fun s => (HandSHeadRun.looksF R.prog (PySem.W.boot_heap w.params) s.abs, HandSHeadRun.seenQ (PySem.W.view R.prog [188]) loose (importedModules R.prog.main.body) (fun s => PySem.W.xlAt (PySem.W.view R.prog [188]) [] s && PySem.W.recOk R.toRowW.records s) s.abs, ob s)) = some (true, PySem.W.openGood (PySem.W.view R.prog [188]) loose, hk.val w) := by
  generalize HandSHeadRun.endF (HandSHeadRun.stepQ (HandSHeadRun.denQ HandSHeadRun.tabQ) R.prog w) 40000 R.prog w os = o at h1 h2 h3 h4 h5 ⊢
  cases o with
  | none => cases h1
  | some s =>
    obtain ⟨e1, e2⟩ := He.ba (show (HandSHeadRun.looksF R.prog (PySem.W.boot_heap w.params) s.abs && exA (He.frT (HandSHeadRun.getT s) as_)) = true from Option.some.inj h1)
    have e3 : exB (He.frT (HandSHeadRun.getT s) as_) = true := Option.some.inj h3
    have e4 : okA (HandSHeadRun.getT s) (He.frT (HandSHeadRun.getT s) as_) = true := Option.some.inj h5
    have e5 : HandSHeadRun.seenQ (PySem.W.view R.prog [188]) loose (importedModules R.prog.main.body) (fun s => PySem.W.xlAt (PySem.W.view R.prog [188]) [] s && PySem.W.recOk R.toRowW.records s) s.abs = PySem.W.openGood (PySem.W.view R.prog [188]) loose := Option.some.inj h2
    have e6 : (ob s).2 = (rs ++ xt).map FR.val := Option.some.inj h4
    have e0 : (ob s).1 = (exA (He.frT (HandSHeadRun.getT s) as_) && exB (He.frT (HandSHeadRun.getT s) as_) && okA (HandSHeadRun.getT s) (He.frT (HandSHeadRun.getT s) as_)) := ob1 (HandSHeadRun.getT s)
    rw [e2, e3, e4] at e0
    have e7 : ob s = hk.val w := Prod.ext e0 e6
    exact congrArg some (Prod.ext e1 (Prod.ext e5 e7))
theorem run_false (w : World) : HandSHeadRun.RunEq R (PySem.W.view R.prog [188]) hk ob 40000 loose (w.withFollow "special-get-raises" false) := by
  unfold HandSHeadRun.RunEq
  exact fun os => join (run_p1_false w os) (run_p2_false w os) (run_p3_false w os) (run_p4_false w os) (run_p5_false w os)
theorem run_true (w : World) : HandSHeadRun.RunEq R (PySem.W.view R.prog [188]) hk ob 40000 loose (w.withFollow "special-get-raises" true) := by
  unfold HandSHeadRun.RunEq
  exact fun os => join (run_p1_true w os) (run_p2_true w os) (run_p3_true w os) (run_p4_true w os) (run_p5_true w os)
theorem run (w : World) : HandSHeadRun.RunEq R (PySem.W.view R.prog [188]) hk ob 40000 loose w := PySem.W.byRow2 "special-get-raises" (P := fun w => HandSHeadRun.RunEq R (PySem.W.view R.prog [188]) hk ob 40000 loose w) run_false run_true w
end Lw

set_option maxRecDepth 100000
set_option maxHeartbeats 4000000
/-! D3: the states that belong together, and the readings of data. -/
namespace Dl
open PySem PySem.Spec PyProof.Rows L2

/-- what is fixed through a def's body: the forbidden set of the caller, the heap at the entry, the wish for exceptions -/
structure Cd where
  w : World
  G : Gl0
  B : Addr → Prop
  H0 : Hp
  E : XK
def OA (σ : L2.St) (L : Lcl) (a : Addr) : Prop := ∃ (i : Nat) (d : D), L[i]? = some (some (Sl.own d)) ∧ σ[i]? = some (some (V.ref a))
def SO (C : Cd) (σ : L2.St) (L : Lcl) : Addr → Prop := fun a => C.B a ∨ OA σ L a
def Plus (S : Addr → Prop) (a : Addr) : Addr → Prop := fun b => S b ∨ b = a
/-- the object at a is one's own, with the contents of d -/
def OwnAt (w : World) (G : Gl0) (S : Addr → Prop) (H : Hp) (a : Addr) : D → Prop
  | .lst ds => ∃ xs, H a = some (.lst xs) ∧ RepL w G (Plus S a) H xs ds
  | .dct kvs => ∃ o es ep, H a = some (RawO a o) ∧ o.ExactDict ∧ o.data = .dict es ep ∧ (a == sysModules) = false ∧ RepE w G (Plus S a) H es.toList kvs ∧ NDk kvs
  | .ins c ds => ∃ dx fs, H a = some (.ins (G.cls c) dx fs) ∧ RepF w G (Plus S a) H fs ds
  | _ => False
structure Good (C : Cd) (σ : L2.St) (H : Hp) (L : Lcl) : Prop where
  len : σ.length = L.length
  val : ∀ (i : Nat) (d : D), L[i]? = some (some (Sl.val d)) → ∃ v, σ[i]? = some (some v) ∧ Rep C.w C.G (SO C σ L) H v d
  own : ∀ (i : Nat) (d : D), L[i]? = some (some (Sl.own d)) → ∃ a, σ[i]? = some (some (V.ref a)) ∧ ¬ C.B a ∧ OwnAt C.w C.G (SO C σ L) H a d
  inj : ∀ (i j : Nat) (d e : D) (a : Addr), L[i]? = some (some (Sl.own d)) → L[j]? = some (some (Sl.own e)) → σ[i]? = some (some (V.ref a)) → σ[j]? = some (some (V.ref a)) → i = j
  dom : ∀ a, SO C σ L a → H a ≠ none
  tn : ∀ a, TN C.G.T a → C.B a
  ent : Pst (TN C.G.T) C.H0 (fun a => TN C.G.T a ∨ OA σ L a) H
  edom : ∀ a, C.H0 a ≠ none → H a ≠ none

/-- the world: the tape, the tables -/
def WR (G : Gl0) (H : Hp) (W : Wd) : Prop :=
  (match G.T with
    | none => True
    | some t => t.ta ≠ t.la ∧ t.ta ≠ t.ca ∧ t.la ≠ t.ca ∧ H t.ta = some (.dK [(.inr "large", .ref t.la), (.inr "rest", .int W.tp.rest), (.inr "cells", .ref t.ca), (.inr "turn", .int W.tp.turn)]) ∧
      H t.la = some (.lst (W.tp.large.map V.int)) ∧ H t.ca = some (.lst (W.tp.cells.map V.int))) ∧ LamX.Tabs G.TB H
def PstE (G : Gl0) (H H' : Hp) : Prop := Pst (TN G.T) H (TN G.T) H' ∧ ∀ a, H a ≠ none → H' a ≠ none
theorem PstE.refl {G : Gl0} {H : Hp} : PstE G H H := ⟨Pst.refl, fun _ h => h⟩
theorem PstE.trans {G : Gl0} {H H1 H2 : Hp} (p : PstE G H H1) (q : PstE G H1 H2) : PstE G H H2 := ⟨p.1.trans q.1, fun a h => q.2 a (p.2 a h)⟩
theorem WR.same {G : Gl0} {H H' : Hp} {W : Wd} (h : WR G H W) (s : Same H H') : WR G H' W := by
  obtain ⟨h1, h2⟩ := h
  refine ⟨?_, h2.ext s⟩
  cases e : G.T with
  | none => trivial
  | some t =>
    rw [e] at h1
    obtain ⟨a, b, c, d, f, g⟩ := h1
    exact ⟨a, b, c, s _ _ d, s _ _ f, s _ _ g⟩
theorem same_pst {G : Gl0} {H H' : Hp} (s : Same H H') : PstE G H H' := ⟨fun a o h hs _ => ⟨s a o h, hs⟩, fun a h z => h (s.free z)⟩
theorem same_new {H : Hp} {p : Addr} {o : HO} (h : H p = none) : Same H (upd H p o) := fun b x e => by
  rw [upd_ne (ne_of_none e h)]
  exact e

section
variable {C : Cd} {w : World} {G : Gl0} {B S S' : Addr → Prop} {H H' H1 H2 : Hp} {σ : L2.St} {L : Lcl} {v : V} {d : D} {r : RV}
theorem rep_mono (h : ∀ a, S' a → S a) (r : Rep w G S H v d) : Rep w G S' H v d := rep_pst (fun a o e hs _ => ⟨e, fun z => hs (h a z)⟩) r
theorem repL_mono {xs : List V} {ds : List D} (h : ∀ a, S' a → S a) (r : RepL w G S H xs ds) : RepL w G S' H xs ds := repL_pst (fun a o e hs _ => ⟨e, fun z => hs (h a z)⟩) r
theorem repE_mono {xs : List DictEntry} {ds : List (D × D)} (h : ∀ a, S' a → S a) (r : RepE w G S H xs ds) : RepE w G S' H xs ds := repE_pst (fun a o e hs _ => ⟨e, fun z => hs (h a z)⟩) r
theorem repF_mono {xs : List (Str × V)} {ds : List (Str × D)} (h : ∀ a, S' a → S a) (r : RepF w G S H xs ds) : RepF w G S' H xs ds := repF_pst (fun a o e hs _ => ⟨e, fun z => hs (h a z)⟩) r
theorem rep_same (s : Same H H') (r : Rep w G S H v d) : Rep w G S H' v d := rep_pst (fun a o e hs _ => ⟨s a o e, hs⟩) r
theorem repL_same {xs : List V} {ds : List D} (s : Same H H') (r : RepL w G S H xs ds) : RepL w G S H' xs ds := repL_pst (fun a o e hs _ => ⟨s a o e, hs⟩) r
theorem pstE_to (t : ∀ a, TN G.T a → S a) (p : PstE G H H') : Pst S H S H' := fun a o e hs ht => ⟨(p.1 a o e (fun z => hs (t a z)) ht).1, hs⟩
theorem notTbl_lst {xs : List V} : ¬ isTbl (.lst xs) := fun z => z
/-- an own object stays -/
theorem ownAt_pst (p : PstE G H H') (t : ∀ b, TN G.T b → S b) {a : Addr} (ha : ¬ TN G.T a) (h : OwnAt w G S H a d) : OwnAt w G S H' a d := by
  have q : Pst (Plus S a) H (Plus S a) H' := pstE_to (fun b z => .inl (t b z)) p
  cases d with
  | lst ds =>
    obtain ⟨xs, h1, h2⟩ := h
    exact ⟨xs, (p.1 a _ h1 ha (fun z => z)).1, repL_pst q h2⟩
  | dct ds =>
    obtain ⟨o, es, ep, h1, h2, h3, h4, h5, h6⟩ := h
    exact ⟨o, es, ep, (p.1 a _ h1 ha (fun z => z)).1, h2, h3, h4, repE_pst q h5, h6⟩
  | ins c ds =>
    obtain ⟨dx, fs, h1, h2⟩ := h
    exact ⟨dx, fs, (p.1 a _ h1 ha (fun z => z)).1, repF_pst q h2⟩
  | _ => exact h.elim
/-- an own object, frozen -/
theorem OwnAt.rep {a : Addr} (h : OwnAt w G S H a d) (hs : ¬ S' a) (hm : ∀ b, S' b → S b) : Rep w G S' H (.ref a) d := by
  have hm' : ∀ b, S' b → Plus S a b := fun b z => .inl (hm b z)
  cases d with
  | lst ds =>
    obtain ⟨xs, h1, h2⟩ := h
    exact .lst hs h1 (repL_mono hm' h2)
  | dct ds =>
    obtain ⟨o, es, ep, h1, h2, h3, h4, h5, h6⟩ := h
    exact .dct hs h1 h2 h3 h4 (repE_mono hm' h5) h6
  | ins c ds =>
    obtain ⟨dx, fs, h1, h2⟩ := h
    exact .ins hs h1 (repF_mono hm' h2)
  | _ => exact h.elim

/-- a value with its standing: H the heap ahead, H' the heap behind -/
def RVr (w : World) (G : Gl0) (B S : Addr → Prop) (H H' : Hp) (v : V) : RV → Prop
  | (d, .fr) => Rep w G S H' v d
  | (d, .own) => ∃ a, v = .ref a ∧ H a = none ∧ OwnAt w G S H' a d
  | (d, .ali) => ∃ a, v = .ref a ∧ S a ∧ ¬ B a ∧ OwnAt w G S H' a d
theorem RVr.any (h : RVr w G B S H H' v r) : Rep w G (fun _ => False) H' v r.1 := by
  obtain ⟨d, f⟩ := r
  cases f with
  | fr => exact rep_mono (fun _ z => z.elim) h
  | own =>
    obtain ⟨a, rfl, _, h⟩ := h
    exact h.rep (fun z => z) fun _ z => z.elim
  | ali =>
    obtain ⟨a, rfl, _, _, h⟩ := h
    exact h.rep (fun z => z) fun _ z => z.elim
theorem RVr.pst (p : PstE G H1 H2) (tb : ∀ b, TN G.T b → B b) (t : ∀ b, TN G.T b → S b) (dom : ∀ b, S b → H b ≠ none) (h : RVr w G B S H H1 v r) : RVr w G B S H H2 v r := by
  obtain ⟨d, f⟩ := r
  cases f with
  | fr => exact rep_pst (pstE_to t p) h
  | own =>
    obtain ⟨a, rfl, n, h⟩ := h
    exact ⟨a, rfl, n, ownAt_pst p t (fun z => dom a (t a z) n) h⟩
  | ali =>
    obtain ⟨a, rfl, n, ht, h⟩ := h
    exact ⟨a, rfl, n, ht, ownAt_pst p t (fun z => ht (tb a z)) h⟩
/-- frozen for good: not the object of an own slot -/
theorem RVr.rep (h : RVr w G B S H H' v r) (dom : ∀ b, S b → H b ≠ none) (hf : match r.2 with | .ali => False | _ => True) : Rep w G S H' v r.1 := by
  obtain ⟨d, f⟩ := r
  cases f with
  | fr => exact h
  | own =>
    obtain ⟨a, rfl, n, h⟩ := h
    exact h.rep (fun z => dom a z n) fun _ z => z
  | ali => exact hf.elim
/-- a scalar is one for any set -/
theorem Rep.scal (h : Rep w G S H v d) (hs : isScal d = true) : Rep w G S' H' v d := by
  cases h with
  | non => exact .non
  | bl b => exact .bl b
  | int b => exact .int b
  | str b => exact .str b
  | fn b => exact .fn b
  | lst _ _ _ => cases hs
  | tup _ _ _ => cases hs
  | tupK _ _ => cases hs
  | dct _ _ _ _ _ _ _ => cases hs
  | dctK _ _ _ => cases hs
  | ins _ _ _ => cases hs
  | exc _ _ _ _ _ => cases hs
  | tape _ => cases hs

theorem ownAt_mono {a : Addr} (h : ∀ b, S' b → S b) (r : OwnAt w G S H a d) : OwnAt w G S' H a d := by
  have hm : ∀ b, Plus S' a b → Plus S a b := fun b z => z.elim (fun q => .inl (h b q)) .inr
  cases d with
  | lst ds => obtain ⟨xs, q1, q2⟩ := r; exact ⟨xs, q1, repL_mono hm q2⟩
  | dct ds => obtain ⟨o, es, ep, q1, q2, q3, q4, q5, q6⟩ := r; exact ⟨o, es, ep, q1, q2, q3, q4, repE_mono hm q5, q6⟩
  | ins c ds => obtain ⟨dx, fs, q1, q2⟩ := r; exact ⟨dx, fs, q1, repF_mono hm q2⟩
  | _ => exact r.elim
theorem ownAt_there {q : Addr} (h2 : OwnAt w G S H q d) : H q ≠ none := by
  intro zz
  cases d with
  | lst ds => obtain ⟨xs, q1, q2⟩ := h2; rw [zz] at q1; cases q1
  | dct ds => obtain ⟨o, es, ep, q1, q2, q3, q4, q5⟩ := h2; rw [zz] at q1; cases q1
  | ins c ds => obtain ⟨dx, fs, q1, q2⟩ := h2; rw [zz] at q1; cases q1
  | _ => exact h2.elim
/-- an own object, by a Pst of any kind -/
theorem ownAt_by {a : Addr} (q : Pst (Plus S a) H (Plus S' a) H') (ha : ∀ o, H a = some o → ¬ isTbl o → H' a = some o) (r : OwnAt w G S H a d) : OwnAt w G S' H' a d := by
  cases d with
  | lst ds => obtain ⟨xs, q1, q2⟩ := r; exact ⟨xs, ha _ q1 (fun z => z), repL_pst q q2⟩
  | dct ds => obtain ⟨o, es, ep, q1, q2, q3, q4, q5, q6⟩ := r; exact ⟨o, es, ep, ha _ q1 (fun z => z), q2, q3, q4, repE_pst q q5, q6⟩
  | ins c ds => obtain ⟨dx, fs, q1, q2⟩ := r; exact ⟨dx, fs, ha _ q1 (fun z => z), repF_pst q q2⟩
  | _ => exact r.elim
theorem RVr.less {a : Addr} (h : RVr w G (Plus B a) (Plus S a) H H' v r) : RVr w G B S H H' v r := by
  obtain ⟨d, f⟩ := r
  cases f with
  | fr => exact rep_mono (fun _ z => .inl z) h
  | own =>
    obtain ⟨q, rfl, n, h⟩ := h
    exact ⟨q, rfl, n, ownAt_mono (fun _ z => .inl z) h⟩
  | ali =>
    obtain ⟨q, rfl, n, hb, h⟩ := h
    refine ⟨q, rfl, n.elim id fun z => absurd (.inr z) hb, fun z => hb (.inl z), ownAt_mono (fun _ z => .inl z) h⟩
theorem Good.tnS (g : Good C σ H L) : ∀ b, TN C.G.T b → SO C σ L b := fun b z => .inl (g.tn b z)
/-- a state stays good while an expression is reckoned -/
theorem Good.pst (g : Good C σ H L) (p : PstE C.G H H') : Good C σ H' L where
  len := g.len
  val := fun i d h => let ⟨v, a, b⟩ := g.val i d h; ⟨v, a, rep_pst (pstE_to g.tnS p) b⟩
  own := fun i d h => let ⟨a, x, y, z⟩ := g.own i d h; ⟨a, x, y, ownAt_pst p g.tnS (fun q => y (g.tn a q)) z⟩
  inj := g.inj
  dom := fun a h => p.2 a (g.dom a h)
  tn := g.tn
  ent := fun a o h hs ht => by
    obtain ⟨h1, h2⟩ := g.ent a o h hs ht
    exact ⟨(p.1 a o h1 hs ht).1, h2⟩
  edom := fun a h => p.2 a (g.edom a h)
/-- addresses more that are barred: new ones -/
def BarP (C : Cd) (N : Addr → Prop) : Cd := { C with B := fun b => C.B b ∨ N b }
theorem so_bar {N : Addr → Prop} {b : Addr} : SO (BarP C N) σ L b ↔ SO C σ L b ∨ N b := by
  refine ⟨fun z => ?_, fun z => ?_⟩
  · rcases z with (z | z) | z
    · exact .inl (.inl z)
    · exact .inr z
    · exact .inl (.inr z)
  · rcases z with (z | z) | z
    · exact .inl (.inl z)
    · exact .inr z
    · exact .inl (.inr z)
theorem Good.bar {N : Addr → Prop} (g : Good C σ H L) (p : PstE C.G H H') (n : ∀ a, N a → H a = none) (n' : ∀ a, N a → H' a ≠ none) : Good (BarP C N) σ H' L ∧ Pst (SO C σ L) H (SO (BarP C N) σ L) H' := by
  have na : ∀ b o, H b = some o → ¬ N b := fun b o e z => by rw [n b z] at e; cases e
  have pst : Pst (SO C σ L) H (SO (BarP C N) σ L) H' := fun b o e hs ht => by
    refine ⟨(p.1 b o e (fun z => hs (g.tnS b z)) ht).1, fun z => ?_⟩
    rcases so_bar.mp z with z | z
    · exact hs z
    · exact na b o e z
  have gp := g.pst p
  exact ⟨{
    len := g.len
    val := fun i d h => let ⟨v, x, y⟩ := g.val i d h; ⟨v, x, rep_pst pst y⟩
    own := fun i d h => by
      obtain ⟨q, x, y, z⟩ := g.own i d h
      obtain ⟨o, ho⟩ := Option.ne_none_iff_exists'.mp (ownAt_there z)
      refine ⟨q, x, fun zz => zz.elim y (na q o ho), ownAt_by (fun b u e hs ht => ?_) (fun u e ht => (p.1 q u e (fun zz => y (g.tn q zz)) ht).1) z⟩
      obtain ⟨h1, h2⟩ := pst b u e (fun zz => hs (.inl zz)) ht
      exact ⟨h1, fun zz => zz.elim h2 fun zz => hs (.inr zz)⟩
    inj := g.inj
    dom := fun b z => by
      rcases so_bar.mp z with z | z
      · exact gp.dom b z
      · exact n' b z
    tn := fun b z => .inl (g.tn b z)
    ent := gp.ent
    edom := gp.edom }, pst⟩
theorem Good.more {a : Addr} (g : Good C σ H L) (p : PstE C.G H H') (n : H a = none) (n' : H' a ≠ none) : Good { C with B := Plus C.B a } σ H' L :=
  (g.bar (N := fun b => b = a) p (fun b z => by rw [z]; exact n) (fun b z => by rw [z]; exact n')).1
theorem so_more {a : Addr} : SO { C with B := Plus C.B a } σ L = Plus (SO C σ L) a := by
  funext b
  exact propext (so_bar (N := fun b => b = a))
theorem rawO_ne_code {a : Addr} {o : Obj} {q : Str} (e : RawO a o = LamX.CodeO a q) (hd : ∃ es ep, o.data = .dict es ep) : False := by
  obtain ⟨es, ep, hd⟩ := hd
  have hz : o.isFreed = false := Obj.isFreed_of_dict hd
  unfold RawO LamX.CodeO at e
  have e := HO.ext.inj e
  have hg : ((⟨Array.replicate a default, {}⟩ : Heap).push o).get? a = some o := by
    have := Heap.get?_push_size (⟨Array.replicate a default, {}⟩ : Heap) hz
    simpa using this
  have e2 := (congrFun e _).mp hg
  obtain ⟨oc, vs, t, h1, h2, _⟩ := e2
  rw [hg] at h1
  cases h1
  rw [hd] at h2
  cases h2
/-- an own object's kind -/
theorem ownAt_kind {a : Addr} (h : OwnAt w G S H a d) : ∃ o, H a = some o ∧ ¬ isTbl o ∧ ∀ q, o ≠ LamX.CodeO a q := by
  cases d with
  | lst ds => obtain ⟨xs, q1, q2⟩ := h; exact ⟨_, q1, fun z => z, fun q z => (by unfold LamX.CodeO at z; cases z)⟩
  | dct ds => obtain ⟨o, es, ep, q1, q2, q3, q4, q5⟩ := h; exact ⟨_, q1, fun z => z, fun q z => rawO_ne_code z ⟨_, _, q3⟩⟩
  | ins c ds => obtain ⟨dx, fs, q1, q2⟩ := h; exact ⟨_, q1, fun z => z, fun q z => (by unfold LamX.CodeO at z; cases z)⟩
  | _ => exact h.elim
/-- the world behind a change of an own object -/
theorem WR.upd {a : Addr} {o : HO} {W : Wd} (h : WR G H W) (hn : ¬ TN G.T a) (hk : ∃ o, H a = some o ∧ ¬ isTbl o ∧ ∀ q, o ≠ LamX.CodeO a q) : WR G (L2.upd H a o) W := by
  obtain ⟨h1, h2⟩ := h
  obtain ⟨o0, k1, k2, k3⟩ := hk
  refine ⟨?_, fun p hp => ?_⟩
  · cases e : G.T with
    | none => trivial
    | some t =>
      rw [e] at h1 hn
      obtain ⟨x1, x2, x3, x4, x5, x6⟩ := h1
      exact ⟨x1, x2, x3, (upd_ne fun z => hn (.inl z.symm)).trans x4, (upd_ne fun z => hn (.inr (.inl z.symm))).trans x5, (upd_ne fun z => hn (.inr (.inr z.symm))).trans x6⟩
  · obtain ⟨ps, t1, t2, t3⟩ := h2 p hp
    refine ⟨ps, (upd_ne fun z => ?_).trans t1, t2, fun pos cv hc => ?_⟩
    · rw [z, k1] at t1
      cases t1
      exact k2 trivial
    · obtain ⟨c, e1, e2⟩ := t3 pos cv hc
      refine ⟨c, e1, (upd_ne fun z => ?_).trans e2⟩
      subst z
      rw [k1] at e2
      exact k3 _ (Option.some.inj e2)
end
end Dl

set_option maxRecDepth 100000
set_option maxHeartbeats 4000000
/-! D4: readings of data for expressions. -/
namespace Dl
open PySem PySem.Spec PyProof.Rows L2

/-- an error in the air -/
def ExR (w : World) (G : Gl0) (H H' : Hp) (cls : Value) (d : Option Addr) (x : Ex) : Prop :=
  cls = .ref (G.cls x.1) ∧ ∃ fs, RepF w G (fun _ => True) H' fs x.2 ∧ match d with
    | none => fs = []
    | some a => H a = none ∧ H' a = some (.xd fs)
/-- behind a piece of code that gave r: what is wanted -/
def post {α β : Type} (C : Cd) (S : Addr → Prop) (H : Hp) (rel : Hp → β → α → Prop) (r : Rs α) (Q : β → Hp → Prop) : Prop := match r with
  | .ok x W' => ∀ v H', PstE C.G H H' → WR C.G H' W' → rel H' v x → Q v H'
  | .err x W' => ∀ cls d H', PstE C.G H H' → WR C.G H' W' → ExR C.w C.G H H' cls d x → C.E cls d H'
  | .stk => False
/-- all values of a list -/
inductive RVs (w : World) (G : Gl0) (B S : Addr → Prop) (H H' : Hp) : List V → List RV → Prop
  | nil : RVs w G B S H H' [] []
  | cons {v : V} {r : RV} {vs : List V} {rs : List RV} : RVr w G B S H H' v r → RVs w G B S H H' vs rs → RVs w G B S H H' (v :: vs) (r :: rs)
/-- the same, step by step: what is new is barred to what comes later -/
inductive RVc (w : World) (G : Gl0) : (Addr → Prop) → (Addr → Prop) → Hp → List V → List RV → Hp → Prop
  | nil {B S : Addr → Prop} {H : Hp} : RVc w G B S H [] [] H
  | own {B S : Addr → Prop} {H H1 H' : Hp} {a : Addr} {d : D} {vs : List V} {rs : List RV} : RVr w G B S H H1 (.ref a) (d, .own) → PstE G H H1 → RVc w G (Plus B a) (Plus S a) H1 vs rs H' → RVc w G B S H (.ref a :: vs) ((d, .own) :: rs) H'
  | oth {B S : Addr → Prop} {H H1 H' : Hp} {v : V} {r : RV} {vs : List V} {rs : List RV} : RVr w G B S H H1 v r → (match r.2 with | .own => False | _ => True) → PstE G H H1 → RVc w G B S H1 vs rs H' → RVc w G B S H (v :: vs) (r :: rs) H'
abbrev relV (C : Cd) (S : Addr → Prop) (H : Hp) : Hp → V → RV → Prop := fun H' v x => RVr C.w C.G C.B S H H' v x
abbrev relVs (C : Cd) (S : Addr → Prop) (H : Hp) : Hp → List V → List RV → Prop := fun H' v x => RVs C.w C.G C.B S H H' v x ∧ ∃ Ha, PstE C.G H Ha ∧ RVc C.w C.G C.B S Ha v x H'
abbrev relB : Hp → Bool → Bool → Prop := fun _ b x => b = x

def tD (C : Cd) (m : Lcl → Wd → Rs RV) : TE := fun σ H Q => ∃ L W, Good C σ H L ∧ WR C.G H W ∧ post C (SO C σ L) H (relV C (SO C σ L) H) (m L W) Q
def tDs (C : Cd) (m : Lcl → Wd → Rs (List RV)) : TA := fun σ H Q => ∃ L W, Good C σ H L ∧ WR C.G H W ∧ post C (SO C σ L) H (relVs C (SO C σ L) H) (m L W) Q
def semT (Γ : Tbl) (cf : CF) (e : EX) : Lcl → Wd → Rs Bool := fun L W => (semE Γ cf e L W).tru
def tDt (C : Cd) (m : Lcl → Wd → Rs Bool) : TT := fun σ H Q => ∃ L W, Good C σ H L ∧ WR C.G H W ∧ post C (SO C σ L) H relB (m L W) Q

section
variable {C : Cd} {w : World} {G : Gl0} {B S : Addr → Prop} {H H' H1 H2 : Hp} {σ : L2.St} {L : Lcl} {v : V} {d : D} {r : RV}
theorem RVr.back (p : PstE G H H1) (h : RVr w G B S H1 H' v r) : RVr w G B S H H' v r := by
  obtain ⟨d, f⟩ := r
  cases f with
  | fr => exact h
  | own =>
    obtain ⟨a, e, n, h⟩ := h
    refine ⟨a, e, ?_, h⟩
    cases q : H a with
    | none => rfl
    | some o => exact absurd n (p.2 a (by rw [q]; simp))
  | ali => exact h
theorem RVs.back (p : PstE G H H1) : ∀ {vs : List V} {rs : List RV}, RVs w G B S H1 H' vs rs → RVs w G B S H H' vs rs
  | _, _, .nil => .nil
  | _, _, .cons h t => .cons (h.back p) (RVs.back p t)
theorem RVs.pst (p : PstE G H1 H2) (tb : ∀ b, TN G.T b → B b) (t : ∀ b, TN G.T b → S b) (dom : ∀ b, S b → H b ≠ none) : ∀ {vs : List V} {rs : List RV}, RVs w G B S H H1 vs rs → RVs w G B S H H2 vs rs
  | _, _, .nil => .nil
  | _, _, .cons h u => .cons (h.pst p tb t dom) (RVs.pst p tb t dom u)
theorem RVs.len : ∀ {vs : List V} {rs : List RV}, RVs w G B S H H' vs rs → vs.length = rs.length
  | _, _, .nil => rfl
  | _, _, .cons h t => by rw [List.length_cons, List.length_cons, RVs.len t]
theorem RVs.less {a : Addr} : ∀ {vs : List V} {rs : List RV}, RVs w G (Plus B a) (Plus S a) H H' vs rs → RVs w G B S H H' vs rs
  | _, _, .nil => .nil
  | _, _, .cons h t => .cons h.less (RVs.less t)
theorem ExR.back {cls : Value} {dx : Option Addr} {x : Ex} (p : PstE G H H1) (h : ExR w G H1 H' cls dx x) : ExR w G H H' cls dx x := by
  obtain ⟨e, fs, h1, h2⟩ := h
  refine ⟨e, fs, h1, ?_⟩
  cases dx with
  | none => exact h2
  | some a =>
    refine ⟨?_, h2.2⟩
    cases q : H a with
    | none => rfl
    | some o => exact absurd h2.1 (p.2 a (by rw [q]; simp))

/-- going on: m, then f -/
theorem post_bind {α α' β β' : Type} {rel : Hp → β → α → Prop} {rel' : Hp → β' → α' → Prop} {m : Rs α} {f : α → Wd → Rs α'} {Q : β' → Hp → Prop} {R : β → Hp → Prop} (h : post C S H rel' (m.bind f) Q)
    (k : ∀ x W1 v H1, m = .ok x W1 → PstE C.G H H1 → WR C.G H1 W1 → rel H1 v x → post C S H rel' (f x W1) Q → R v H1) : post C S H rel m R := by
  cases m with
  | ok x W1 => exact fun v H' p wr rv => k x W1 v H' rfl p wr rv h
  | err x W1 => exact h
  | stk => exact h
/-- the same from a later heap -/
theorem post_later (p : PstE C.G H H1) {m : Rs RV} {Q : VK} (h : post C S H (relV C S H) m Q) : post C S H1 (relV C S H1) m Q := by
  cases m with
  | ok x W1 => exact fun v H' p' wr rv => h v H' (p.trans p') wr (rv.back p)
  | err x W1 => exact fun cls d H' p' wr rv => h cls d H' (p.trans p') wr (rv.back p)
  | stk => exact h
theorem post_laterB (p : PstE C.G H H1) {m : Rs Bool} {Q : Bool → Hp → Prop} (h : post C S H relB m Q) : post C S H1 relB m Q := by
  cases m with
  | ok x W1 => exact fun v H' p' wr rv => h v H' (p.trans p') wr rv
  | err x W1 => exact fun cls d H' p' wr rv => h cls d H' (p.trans p') wr (rv.back p)
  | stk => exact h
theorem post_laters (p : PstE C.G H H1) {m : Rs (List RV)} {Q : List V → Hp → Prop} (h : post C S H (relVs C S H) m Q) : post C S H1 (relVs C S H1) m Q := by
  cases m with
  | ok x W1 => exact fun v H' p' wr ⟨rv, Ha, pa, rc⟩ => h v H' (p.trans p') wr ⟨rv.back p, Ha, p.trans pa, rc⟩
  | err x W1 => exact fun cls d H' p' wr rv => h cls d H' (p.trans p') wr (rv.back p)
  | stk => exact h
/-- a result without a further step -/
theorem post_here {W : Wd} {Q : VK} {x : RV} (wr : WR C.G H W) (h : post C S H (relV C S H) (.ok x W) Q) (rv : RVr C.w C.G C.B S H H v x) : Q v H := h v H PstE.refl wr rv
end

theorem pe_imp {X : Cx} {e : Expr} {t t' : TE} (h : PE X e t) (hi : ∀ σ H Q, t' σ H Q → t σ H Q) : PE X e t' := ⟨fun pins s σ H Q I q => h.run pins s σ H Q I (hi σ H Q q)⟩
theorem pt_imp {X : Cx} {e : Expr} {t t' : TT} (h : PT X e t) (hi : ∀ σ H Q, t' σ H Q → t σ H Q) : PT X e t' := ⟨fun pins s σ H Q I q => h.run pins s σ H Q I (hi σ H Q q)⟩
theorem pa_imp {X : Cx} {e : List Expr} {t t' : TA} (h : PA X e t) (hi : ∀ σ H Q, t' σ H Q → t σ H Q) : PA X e t' := ⟨fun pos pins s σ H Q I q => h.run pos pins s σ H Q I (hi σ H Q q)⟩
theorem ps_imp {X : Cx} {e : Stmt} {t t' : TS} (h : PS X e t) (hi : ∀ D σ H, t' D σ H → t D σ H) : PS X e t' := ⟨fun pins s σ H D I q => h.run pins s σ H D I (hi D σ H q)⟩
theorem pss_imp {X : Cx} {e : List Stmt} {t t' : TS} (h : PSs X e t) (hi : ∀ D σ H, t' D σ H → t D σ H) : PSs X e t' := ⟨fun pins s σ H D I q => h.run pins s σ H D I (hi D σ H q)⟩

section
variable {X : Cx} {C : Cd} {Γ : Tbl} {cf : CF}
variable {a b c : Expr} {ea eb ec : EX} {pos : Pos}

theorem d_var {i : Nat} {x : Str} (hN : X.N[i]? = some x) (hv : Vis X.env.scope x) (hd : (x == ("__debug__" : Str)) = false) (hcd : (x == ("__classdict__" : Str)) = false) : PE X (.Name x pos) (tD C (semE Γ cf (.var i))) := by
  refine pe_imp (pe_var hN hv hd hcd) fun σ H Q ⟨L, W, g, wr, h⟩ => ?_
  unfold semE at h
  cases e : L[i]? with
  | none => rw [e] at h; exact h.elim
  | some o =>
    cases o with
    | none => rw [e] at h; exact h.elim
    | some sl =>
      cases sl with
      | val d =>
        rw [e] at h
        obtain ⟨v, h1, h2⟩ := g.val i d e
        exact ⟨v, h1, post_here wr h h2⟩
      | own d =>
        rw [e] at h
        obtain ⟨a, h1, h2, h3⟩ := g.own i d e
        exact ⟨.ref a, h1, post_here wr h ⟨a, rfl, .inr ⟨i, d, e, h1⟩, h2, h3⟩⟩
theorem d_con {d : D} {v : V} (he : PE X a (tC v)) (hv : ∀ S H, Rep C.w C.G S H v d) : PE X a (tD C (semE Γ cf (.con d))) := by
  refine pe_imp he fun σ H Q ⟨L, W, g, wr, h⟩ => ?_
  unfold semE at h
  exact post_here wr h (hv _ _)
theorem d_glo {x : Str} {d : D} {v : V} (he : PE X a (tC v)) (hv : ∀ S H, Rep C.w C.G S H v d) : PE X a (tD C (semE Γ cf (.glo x d))) := by
  refine pe_imp he fun σ H Q ⟨L, W, g, wr, h⟩ => ?_
  unfold semE at h
  exact post_here wr h (hv _ _)

/-- a two-place operation by values serves f -/
def Serves (C : Cd) (r : R2) (f : D → D → Option RV) : Prop := ∀ (S : Addr → Prop) (dx dy : D) (rv : RV) (x y : V) (H : Hp) (Q : VK), f dx dy = some rv → Rep C.w C.G (fun _ => False) H x dx → Rep C.w C.G (fun _ => False) H y dy →
  (∀ v H', Same H H' → RVr C.w C.G C.B S H H' v rv → Q v H') → r x y H Q
theorem two_ok {r : R2} {f : D → D → Option RV} {σ : L2.St} {H : Hp} {Q : VK} {L : Lcl} {W : Wd} (hr : Serves C r f) (g : Good C σ H L) (wr : WR C.G H W)
    (h : post C (SO C σ L) H (relV C (SO C σ L) H) ((semE Γ cf ea L W).bind fun x W1 => (semE Γ cf eb L W1).bind fun y W2 => Rs.of (f x.1 y.1) W2) Q) : tOp r (tD C (semE Γ cf ea)) (tD C (semE Γ cf eb)) σ H Q := by
  refine ⟨L, W, g, wr, post_bind h fun x W1 v H1 _ p1 wr1 rx h => ?_⟩
  refine ⟨L, W1, g.pst p1, wr1, post_bind (post_later p1 h) fun y W2 u H2 _ p2 wr2 ry h => ?_⟩
  have rx2 := rx.pst p2 g.tn g.tnS g.dom
  cases e : f x.1 y.1 with
  | none => rw [e] at h; exact h.elim
  | some rv =>
    rw [e] at h
    exact hr (SO C σ L) x.1 y.1 rv v u H2 Q e rx2.any ry.any fun z H' s rz => h z H' (p2.trans (same_pst s)) (wr2.same s) (rz.back p2)
theorem d_bin {op : Operator} {r : R2} (ho : OpR X (binaryOp op) r) (hr : Serves C r (binD op)) (ha : PE X a (tD C (semE Γ cf ea))) (hb : PE X b (tD C (semE Γ cf eb))) : PE X (.BinOp a op b pos) (tD C (semE Γ cf (.bin op ea eb))) := by
  refine pe_imp (pe_op ho ha hb) fun σ H Q ⟨L, W, g, wr, h⟩ => ?_
  unfold semE at h
  exact two_ok hr g wr h

/-! ### tests -/
theorem dt_val (ha : PE X a (tD C (semE Γ cf ea))) (he : ∀ whole, isTrue a X.env whole = (do let v ← whole; standAt a.pos; holding [v] (truthy v))) : PT X a (tDt C (semT Γ cf ea)) := by
  refine pt_imp (pt_val ha he) fun σ H Q ⟨L, W, g, wr, h⟩ => ?_
  unfold semT at h
  refine ⟨L, W, g, wr, post_bind h fun x W1 v H1 _ p1 wr1 rx h => ?_⟩
  cases e : truD x.1 with
  | none => rw [e] at h; exact h.elim
  | some k =>
    rw [e] at h
    have ex : x.1 = .bl k := by
      unfold truD at e
      split at e
      · rename_i q
        rw [q]
        cases e
        rfl
      · cases e
    have rx' := rx.any
    rw [ex] at rx'
    cases rx'
    exact ⟨k, rfl, h k H1 p1 wr1 rfl⟩
theorem tru_ok {σ : L2.St} {H : Hp} {L : Lcl} {W : Wd} {R : Bool → Hp → Prop} {m : Rs RV} (h : post C (SO C σ L) H relB m.tru R) : post C (SO C σ L) H (relV C (SO C σ L) H) m fun x H1 => ∃ c, x = .bl c ∧ R c H1 := by
  refine post_bind h fun x W1 v H1 _ p1 wr1 rx h => ?_
  cases e : truD x.1 with
  | none => rw [e] at h; exact h.elim
  | some k =>
    rw [e] at h
    have ex : x.1 = .bl k := by
      unfold truD at e
      split at e
      · rename_i q
        rw [q]
        cases e
        rfl
      · cases e
    have rx' := rx.any
    rw [ex] at rx'
    cases rx'
    exact ⟨k, rfl, h k H1 p1 wr1 rfl⟩
end
end Dl

set_option maxRecDepth 100000
set_option maxHeartbeats 4000000
/-! D5: more expressions. -/
namespace Dl
open PySem PySem.Spec PyProof.Rows L2
section
variable {X : Cx} {C : Cd} {Γ : Tbl} {cf : CF} {w : World} {G : Gl0} {B S : Addr → Prop} {H H' H1 H2 : Hp} {σ : L2.St} {L : Lcl} {v : V}
variable {a b c : Expr} {ea eb ec : EX} {pos : Pos}

/-- going on from a later heap, the end told of the first -/
theorem post_bind1 {α α' β β' : Type} {rel : Hp → β → α → Prop} {rel' : Hp → β' → α' → Prop} {m : Rs α} {f : α → Wd → Rs α'} {Q : β' → Hp → Prop} {R : β → Hp → Prop} (p : PstE C.G H H1) (h : post C S H rel' (m.bind f) Q)
    (k : ∀ x W1 v H2, m = .ok x W1 → PstE C.G H1 H2 → WR C.G H2 W1 → rel H2 v x → post C S H rel' (f x W1) Q → R v H2) : post C S H1 rel m R := by
  cases m with
  | ok x W1 => exact fun v H' p' wr rv => k x W1 v H' rfl p' wr rv h
  | err x W1 => exact fun cls d H' p' wr rv => h cls d H' (p.trans p') wr (rv.back p)
  | stk => exact h
theorem truD_bl {x : D} {k : Bool} (e : truD x = some k) : x = .bl k := by
  unfold truD at e
  split at e
  · cases e; rfl
  · cases e
/-- a value asked for its truth, then f -/
theorem tru_bind {α' β' : Type} {rel' : Hp → β' → α' → Prop} {m : Rs RV} {f : Bool → Wd → Rs α'} {Q : β' → Hp → Prop} {R : Bool → Hp → Prop} (h : post C S H rel' (m.tru.bind f) Q)
    (k : ∀ b W1 H1, PstE C.G H H1 → WR C.G H1 W1 → post C S H rel' (f b W1) Q → R b H1) : post C S H (relV C S H) m fun x H1 => ∃ c, x = .bl c ∧ R c H1 := by
  cases m with
  | ok x W1 =>
    intro v H1 p1 wr1 rx
    have h : post C S H rel' ((Rs.of (truD x.1) W1).bind f) Q := h
    cases e : truD x.1 with
    | none => rw [e] at h; exact h.elim
    | some b =>
      rw [e] at h
      have rx' := rx.any
      rw [truD_bl e] at rx'
      cases rx'
      exact ⟨b, rfl, k b W1 H1 p1 wr1 h⟩
  | err x W1 => exact h
  | stk => exact h
/-- a test, then f -/
theorem dt_bind {α' β' : Type} {rel' : Hp → β' → α' → Prop} {m : Lcl → Wd → Rs Bool} {f : Bool → Wd → Rs α'} {Q : β' → Hp → Prop} {R : Bool → Hp → Prop} {W : Wd} (g : Good C σ H L) (wr : WR C.G H W) (h : post C (SO C σ L) H rel' ((m L W).bind f) Q)
    (k : ∀ b W1 H1, PstE C.G H H1 → WR C.G H1 W1 → post C (SO C σ L) H rel' (f b W1) Q → R b H1) : tDt C m σ H R :=
  ⟨L, W, g, wr, post_bind h fun x W1 v H1 _ p1 wr1 e h => by cases e; exact k _ W1 H1 p1 wr1 h⟩
theorem d_not (ha : PE X a (tD C (semE Γ cf ea))) : PE X (.UnaryOp .Not a pos) (tD C (semE Γ cf (.nt ea))) := by
  refine pe_imp (pe_not ha) fun σ H Q ⟨L, W, g, wr, h⟩ => ?_
  unfold semE at h
  exact ⟨L, W, g, wr, tru_bind h fun b W1 H1 p1 wr1 h => h _ H1 p1 wr1 (.bl _)⟩
theorem d_nd {rest : List Expr} (ha : PE X a (tD C (semE Γ cf ea))) (hb : PE X (.BoolOp .And (b :: rest) pos) (tD C (semE Γ cf eb))) : PE X (.BoolOp .And (a :: b :: rest) pos) (tD C (semE Γ cf (.nd ea eb))) := by
  refine pe_imp (pe_and ha hb) fun σ H Q ⟨L, W, g, wr, h⟩ => ?_
  unfold semE at h
  refine ⟨L, W, g, wr, tru_bind h fun b W1 H1 p1 wr1 h => ?_⟩
  cases b with
  | true => exact ⟨L, W1, g.pst p1, wr1, post_later p1 h⟩
  | false => exact h _ H1 p1 wr1 (.bl _)
theorem d_or {rest : List Expr} (ha : PE X a (tD C (semE Γ cf ea))) (hb : PE X (.BoolOp .Or (b :: rest) pos) (tD C (semE Γ cf eb))) : PE X (.BoolOp .Or (a :: b :: rest) pos) (tD C (semE Γ cf (.or ea eb))) := by
  refine pe_imp (pe_or ha hb) fun σ H Q ⟨L, W, g, wr, h⟩ => ?_
  unfold semE at h
  refine ⟨L, W, g, wr, tru_bind h fun b W1 H1 p1 wr1 h => ?_⟩
  cases b with
  | false => exact ⟨L, W1, g.pst p1, wr1, post_later p1 h⟩
  | true => exact h _ H1 p1 wr1 (.bl _)
theorem d_ite (ht : PT X c (tDt C (semT Γ cf ec))) (ha : PE X a (tD C (semE Γ cf ea))) (hb : PE X b (tD C (semE Γ cf eb))) : PE X (.IfExp c a b pos) (tD C (semE Γ cf (.ite ec ea eb))) := by
  refine pe_imp (pe_ifExp ht ha hb) fun σ H Q ⟨L, W, g, wr, h⟩ => ?_
  unfold semE at h
  refine dt_bind g wr h fun b W1 H1 p1 wr1 h => ?_
  cases b with
  | true => exact ⟨L, W1, g.pst p1, wr1, post_later p1 h⟩
  | false => exact ⟨L, W1, g.pst p1, wr1, post_later p1 h⟩
/-! ### comparisons -/
def cmpR (op : CmpOp) (x y : D) : Option RV := (cmpD op x y).map fun k => (.bl k, .fr)
theorem cmpR_of {op : CmpOp} {x y : D} {W : Wd} : ((Rs.of (cmpD op x y) W).bind fun k W3 => Rs.ok ((.bl k, .fr) : RV) W3) = Rs.of (cmpR op x y) W := by
  unfold cmpR
  cases cmpD op x y <;> rfl
theorem d_cmp {op : CmpOp} {r : R2} (ho : OpR X (compareOp op) r) (hr : Serves C r (cmpR op)) (ha : PE X a (tD C (semE Γ cf ea))) (hb : PE X b (tD C (semE Γ cf eb))) (hm : behindInMarks op b = false) : PE X (.Compare a [op] [b] pos) (tD C (semE Γ cf (.cmp op ea eb))) := by
  refine pe_imp (pe_cmpR ho ha hb hm) fun σ H Q ⟨L, W, g, wr, h⟩ => ?_
  unfold semE at h
  simp only [cmpR_of] at h
  exact two_ok hr g wr h
/-- a comparison asked for its truth -/
theorem dt_cmp {op : CmpOp} {r : R2} (ho : OpR X (compareOp op) r) (hr : Serves C r (cmpR op)) (ha : PE X a (tD C (semE Γ cf ea))) (hb : PE X b (tD C (semE Γ cf eb))) (hm : behindInMarks op b = false) : PT X (.Compare a [op] [b] pos) (tDt C (semT Γ cf (.cmp op ea eb))) := by
  refine pt_imp (pt_cmpR ho ha hb hm) fun σ H Q ⟨L, W, g, wr, h⟩ => ?_
  unfold semT at h
  have h2 := tru_bind (f := fun b W => Rs.ok b W) (rel' := relB) (Q := Q) (R := Q) (by
    show post C (SO C σ L) H relB (((semE Γ cf (.cmp op ea eb) L W).tru).bind fun b W => Rs.ok b W) Q
    cases e : (semE Γ cf (.cmp op ea eb) L W).tru <;> (rw [e] at h; exact h)) fun b W1 H1 p1 wr1 h => h b H1 p1 wr1 rfl
  unfold semE at h2
  simp only [cmpR_of] at h2
  exact two_ok hr g wr h2
/-! ### not, and, or as tests -/
theorem tru_tru {m : Rs Bool} : (m.bind fun k W1 => Rs.ok ((.bl k, .fr) : RV) W1).tru = m := by
  cases m <;> rfl
theorem dt_not (ha : PT X a (tDt C (semT Γ cf ea))) : PT X (.UnaryOp .Not a pos) (tDt C (semT Γ cf (.nt ea))) := by
  refine pt_imp (pt_not ha) fun σ H Q ⟨L, W, g, wr, h⟩ => ?_
  unfold semT semE at h
  refine ⟨L, W, g, wr, ?_⟩
  unfold semT
  cases e : (semE Γ cf ea L W).tru with
  | ok b W1 =>
    rw [e] at h
    intro b' H1 p1 wr1 eb
    cases eb
    exact h _ H1 p1 wr1 rfl
  | err x W1 => rw [e] at h; exact h
  | stk => rw [e] at h; exact h
theorem dt_nd {rest : List Expr} (ha : PT X a (tDt C (semT Γ cf ea))) (hb : PW X (.BoolOp .And (b :: rest) pos) (tDt C (semT Γ cf eb))) : PW X (.BoolOp .And (a :: b :: rest) pos) (tDt C (semT Γ cf (.nd ea eb))) := by
  have q := pw_and (pos := pos) ha hb
  refine ⟨fun wh pins s σ H Q I h => q.run wh pins s σ H Q I ?_⟩
  obtain ⟨L, W, g, wr, h⟩ := h
  unfold semT semE at h
  refine ⟨L, W, g, wr, ?_⟩
  unfold semT
  cases e : (semE Γ cf ea L W).tru with
  | ok b W1 =>
    rw [e] at h
    intro b' H1 p1 wr1 eb
    cases eb
    cases b with
    | true => exact ⟨L, W1, g.pst p1, wr1, post_laterB p1 h⟩
    | false => exact h _ H1 p1 wr1 rfl
  | err x W1 => rw [e] at h; exact h
  | stk => rw [e] at h; exact h
theorem dt_or {rest : List Expr} (ha : PT X a (tDt C (semT Γ cf ea))) (hb : PW X (.BoolOp .Or (b :: rest) pos) (tDt C (semT Γ cf eb))) : PW X (.BoolOp .Or (a :: b :: rest) pos) (tDt C (semT Γ cf (.or ea eb))) := by
  have q := pw_or (pos := pos) ha hb
  refine ⟨fun wh pins s σ H Q I h => q.run wh pins s σ H Q I ?_⟩
  obtain ⟨L, W, g, wr, h⟩ := h
  unfold semT semE at h
  refine ⟨L, W, g, wr, ?_⟩
  unfold semT
  cases e : (semE Γ cf ea L W).tru with
  | ok b W1 =>
    rw [e] at h
    intro b' H1 p1 wr1 eb
    cases eb
    cases b with
    | false => exact ⟨L, W1, g.pst p1, wr1, post_laterB p1 h⟩
    | true => exact h _ H1 p1 wr1 rfl
  | err x W1 => rw [e] at h; exact h
  | stk => rw [e] at h; exact h
/-! ### argument lists, displays -/
theorem ds_nil : PA X [] (tDs C (semEs Γ cf .nil)) := by
  refine pa_imp pa_nil fun σ H Q ⟨L, W, g, wr, h⟩ => ?_
  unfold semEs at h
  exact h [] H PstE.refl wr ⟨.nil, H, PstE.refl, .nil⟩
theorem pa_exB {es : List Expr} {m : Lcl → Wd → Rs (List RV)} (h : ∀ B, PA X es (tDs { C with B := B } m)) : PA X es (fun σ H Q => ∃ B, tDs { C with B := B } m σ H Q) :=
  ⟨fun pos pins s σ H Q I ⟨B, q⟩ => (h B).run pos pins s σ H Q I q⟩
theorem ds_core {ees : EXs} {σ : L2.St} {H : Hp} {Q : List V → Hp → Prop} (h : tDs C (semEs Γ cf (.cons ea ees)) σ H Q) : tCons (tD C (semE Γ cf ea)) (fun σ H Q => ∃ B, tDs { C with B := B } (semEs Γ cf ees) σ H Q) σ H Q := by
  obtain ⟨L, W, g, wr, h⟩ := h
  unfold semEs at h
  refine ⟨L, W, g, wr, post_bind h fun x W1 v H1 _ p1 wr1 rx h => ?_⟩
  have go : (∃ a d, v = .ref a ∧ x = (d, .own)) ∨ (match x.2 with | .own => False | _ => True) := by
    obtain ⟨d, f⟩ := x
    cases f with
    | own => obtain ⟨a, e, _⟩ := rx; exact .inl ⟨a, d, e, rfl⟩
    | fr => exact .inr trivial
    | ali => exact .inr trivial
  rcases go with ⟨q, d, rfl, rfl⟩ | hn
  · obtain ⟨q', e, n, hw⟩ := rx
    cases e
    have n1 : H1 q ≠ none := ownAt_there hw
    refine ⟨Plus C.B q, L, W1, g.more p1 n n1, wr1, ?_⟩
    cases e : semEs Γ cf ees L W1 with
    | stk => rw [e] at h; exact h
    | err y W2 => rw [e] at h; exact fun cls dd H' p' wr' rv => h cls dd H' (p1.trans p') wr' (rv.back p1)
    | ok xs W2 =>
      rw [e] at h
      intro vs H2 p2 wr2 rxs
      rw [so_more] at rxs
      obtain ⟨rs, Ha, pa, rc⟩ := rxs
      have rs : RVs C.w C.G (Plus C.B q) (Plus (SO C σ L) q) H1 H2 vs xs := rs
      have rx2 : RVr C.w C.G C.B (SO C σ L) H H2 (.ref q) (d, .own) := RVr.pst (r := (d, .own)) p2 g.tn g.tnS g.dom ⟨q, rfl, n, hw⟩
      have rxa : RVr C.w C.G C.B (SO C σ L) H Ha (.ref q) (d, .own) := RVr.pst (r := (d, .own)) pa g.tn g.tnS g.dom ⟨q, rfl, n, hw⟩
      exact h _ H2 (p1.trans p2) wr2 ⟨.cons rx2 (rs.less.back p1), H, PstE.refl, .own rxa (p1.trans pa) rc⟩
  · refine ⟨C.B, L, W1, g.pst p1, wr1, ?_⟩
    cases e : semEs Γ cf ees L W1 with
    | stk => rw [e] at h; exact h
    | err y W2 => rw [e] at h; exact fun cls dd H' p' wr' rv => h cls dd H' (p1.trans p') wr' (rv.back p1)
    | ok xs W2 =>
      rw [e] at h
      intro vs H2 p2 wr2 ⟨rs, Ha, pa, rc⟩
      have rxa : RVr C.w C.G C.B (SO C σ L) H Ha v x := rx.pst pa g.tn g.tnS g.dom
      exact h _ H2 (p1.trans p2) wr2 ⟨.cons (rx.pst p2 g.tn g.tnS g.dom) (rs.back p1), H, PstE.refl, .oth rxa hn (p1.trans pa) rc⟩
theorem ds_cons {es : List Expr} {ees : EXs} (ha : PE X a (tD C (semE Γ cf ea))) (hr : ∀ B, PA X es (tDs { C with B := B } (semEs Γ cf ees))) (hs : starEach (a :: es) X.env = (false, eval a X.env) :: starEach es X.env) : PA X (a :: es) (tDs C (semEs Γ cf (.cons ea ees))) :=
  pa_imp (pa_cons ha (pa_exB hr) hs) fun σ H Q h => ds_core h
theorem pk_imp {kws : List Keyword} {t t' : TA} (h : PK X kws t) (hi : ∀ σ H Q, t' σ H Q → t σ H Q) : PK X kws t' := ⟨fun pos pins s σ H Q I q => h.run pos pins s σ H Q I (hi _ _ _ q)⟩
theorem dk_nil : PK X [] (tDs C (semEs Γ cf .nil)) := by
  refine pk_imp pk_nil fun σ H Q ⟨L, W, g, wr, h⟩ => ?_
  unfold semEs at h
  exact h [] H PstE.refl wr ⟨.nil, H, PstE.refl, .nil⟩
theorem dk_cons {kws : List Keyword} {ees : EXs} {nm : Option Str} {kp : Pos} (ha : PE X a (tD C (semE Γ cf ea))) (hr : ∀ B, PK X kws (tDs { C with B := B } (semEs Γ cf ees))) : PK X (⟨nm, a, kp⟩ :: kws) (tDs C (semEs Γ cf (.cons ea ees))) :=
  pk_imp (pk_cons ha ⟨fun pos pins s σ H Q I ⟨B, q⟩ => (hr B).run pos pins s σ H Q I q⟩) fun σ H Q h => ds_core h
end
end Dl

set_option maxRecDepth 100000
set_option maxHeartbeats 4000000
/-! D6: displays, subscripts, calls. -/
namespace Dl
open PySem PySem.Spec PyProof.Rows L2
/-- what a def promises: f on data -/
def spF (w : World) (G0 : Gl0) (f : List D → Wd → Rs D) : Sp := fun vs H Q E => ∃ (T : Option TLoc) (B : Addr → Prop) (ds : List D) (W : Wd), (∀ a, TN T a → B a) ∧ (∀ a, B a → H a ≠ none) ∧ RepL w { G0 with T := T } B H vs ds ∧ WR { G0 with T := T } H W ∧
  post ⟨w, { G0 with T := T }, B, H, E⟩ B H (fun H' v d => Rep w { G0 with T := T } B H' v d) (f ds W) Q
section
variable {X : Cx} {C : Cd} {Γ : Tbl} {cf : CF} {w : World} {G : Gl0} {B S : Addr → Prop} {H H' H1 H2 : Hp} {σ : L2.St} {L : Lcl} {v : V}
variable {a b c : Expr} {ea eb ec : EX} {pos : Pos}
theorem pst_new {p : Addr} {o : HO} (h : H p = none) : Pst S H (Plus S p) (upd H p o) := fun a u e hs _ => by
  have n := ne_of_none e h
  exact ⟨by rw [upd_ne n]; exact e, fun z => z.elim hs n⟩
theorem vals_rep (dom : ∀ b, S b → H b ≠ none) : ∀ {xs : List RV} {ds : List D} {vs : List V}, vals xs false = some ds → RVs w G B S H H1 vs xs → RepL w G S H1 vs ds
  | [], ds, vs, e, h => by cases h; cases e; exact .nil
  | (d, .fr) :: r, ds, vs, e, h => by
    cases h with
    | cons h1 h2 =>
      have e : (vals r false).map (d :: ·) = some ds := e
      cases q : vals r false with
      | none => rw [q] at e; cases e
      | some ds' => rw [q] at e; cases e; exact .cons h1 (vals_rep dom q h2)
  | (d, .own) :: r, ds, vs, e, h => by
    cases h with
    | cons h1 h2 =>
      have e : (vals r false).map (d :: ·) = some ds := e
      cases q : vals r false with
      | none => rw [q] at e; cases e
      | some ds' => rw [q] at e; cases e; exact .cons (h1.rep dom trivial) (vals_rep dom q h2)
  | (d, .ali) :: r, ds, vs, e, h => by cases e
theorem RVr.tn {r : RV} (tb : ∀ b, TN G.T b → B b) (tn : ∀ b, TN G.T b → S b) (dom : ∀ b, S b → H b ≠ none) (h : RVr w G B S H H' v r) : Rep w G (TN G.T) H' v r.1 := by
  obtain ⟨d, f⟩ := r
  cases f with
  | fr => exact rep_mono tn h
  | own =>
    obtain ⟨a, rfl, n, h⟩ := h
    exact h.rep (fun z => dom a (tn a z) n) tn
  | ali =>
    obtain ⟨a, rfl, _, n, h⟩ := h
    exact h.rep (fun z => n (tb a z)) tn
theorem vals_tn (tb : ∀ b, TN G.T b → B b) (tn : ∀ b, TN G.T b → S b) (dom : ∀ b, S b → H b ≠ none) : ∀ {xs : List RV} {ds : List D} {vs : List V}, vals xs true = some ds → RVs w G B S H H1 vs xs → RepL w G (TN G.T) H1 vs ds
  | [], ds, vs, e, h => by cases h; cases e; exact .nil
  | (d, f) :: r, ds, vs, e, h => by
    cases h with
    | cons h1 h2 =>
      have e : (vals r true).map (d :: ·) = some ds := by cases f <;> exact e
      cases q : vals r true with
      | none => rw [q] at e; cases e
      | some ds' => rw [q] at e; cases e; exact .cons (h1.tn tb tn dom) (vals_tn tb tn dom q h2)
theorem vals_noali : ∀ {xs : List RV} {ds : List D}, vals xs true = some ds → anyAli xs = false → vals xs false = some ds
  | [], ds, e, _ => e
  | (d, .fr) :: r, ds, e, n => by
    have e : (vals r true).map (d :: ·) = some ds := e
    cases q : vals r true with
    | none => rw [q] at e; cases e
    | some ds' =>
      rw [q] at e
      show (vals r false).map (d :: ·) = some ds
      rw [vals_noali q n]
      exact e
  | (d, .own) :: r, ds, e, n => by
    have e : (vals r true).map (d :: ·) = some ds := e
    cases q : vals r true with
    | none => rw [q] at e; cases e
    | some ds' =>
      rw [q] at e
      show (vals r false).map (d :: ·) = some ds
      rw [vals_noali q n]
      exact e
  | (d, .ali) :: r, ds, e, n => by cases n
theorem none_back (p : PstE G H H1) {q : Addr} (h : H1 q = none) : H q = none := by
  cases e : H q with
  | none => rfl
  | some o => exact absurd h (p.2 q (by rw [e]; simp))
theorem dom_pst (p : PstE G H H1) (dom : ∀ b, S b → H b ≠ none) : ∀ b, S b → H1 b ≠ none := fun b z => p.2 b (dom b z)
theorem d_tup {es : List Expr} {ees : EXs} {k : Nat} (h : PA X es (tDs C (semEs Γ cf ees))) : PE X (.Tuple es k pos) (tD C (semE Γ cf (.tup ees))) := by
  refine pe_imp (pe_tup h) fun σ H Q ⟨L, W, g, wr, h⟩ => ?_
  unfold semE at h
  refine ⟨L, W, g, wr, post_bind h fun xs W1 vs H1 _ p1 wr1 rxs h => ?_⟩
  cases e : vals xs false with
  | none => rw [e] at h; exact h.elim
  | some ds =>
    rw [e] at h
    simp only [Rs.of_some, Rs.bind_ok] at h
    have rl := vals_rep g.dom e rxs.1
    split at h
    · rename_i hz
      refine ⟨by rw [rl.len]; exact hz, fun p hp => ?_⟩
      have s : Same H1 (upd H1 p (.tup vs)) := same_new hp
      refine h _ _ (p1.trans (same_pst s)) (wr1.same s) (.tup (fun z => dom_pst p1 g.dom p z hp) upd_same (repL_pst (pstE_to g.tnS (same_pst s)) rl))
    · exact h.elim
theorem d_lst {es : List Expr} {ees : EXs} (h : PA X es (tDs C (semEs Γ cf ees))) : PE X (.List es pos) (tD C (semE Γ cf (.lst ees))) := by
  refine pe_imp (pe_lst h) fun σ H Q ⟨L, W, g, wr, h⟩ => ?_
  unfold semE at h
  refine ⟨L, W, g, wr, post_bind h fun xs W1 vs H1 _ p1 wr1 rxs h => ?_⟩
  cases e : vals xs false with
  | none => rw [e] at h; exact h.elim
  | some ds =>
    rw [e] at h
    simp only [Rs.of_some, Rs.bind_ok] at h
    have rl := vals_rep g.dom e rxs.1
    split at h
    · rename_i hz
      refine ⟨by rw [rl.len]; exact hz, fun p hp => ?_⟩
      have s : Same H1 (upd H1 p (.lst vs)) := same_new hp
      exact h _ _ (p1.trans (same_pst s)) (wr1.same s) ⟨p, rfl, none_back p1 hp, vs, upd_same, repL_pst (pst_new hp) rl⟩
    · exact h.elim
/-- the items of a list, of a tuple -/
theorem RVr.lst {ds : List D} {f : Fl} (h : RVr w G B S H H' v (.lst ds, f)) : ∃ a xs, v = .ref a ∧ H' a = some (.lst xs) ∧ RepL w G S H' xs ds := by
  cases f with
  | fr =>
    cases h with
    | lst h1 h2 h3 => exact ⟨_, _, rfl, h2, h3⟩
  | own =>
    obtain ⟨a, rfl, _, xs, h1, h2⟩ := h
    exact ⟨a, xs, rfl, h1, repL_mono (fun b z => .inl z) h2⟩
  | ali =>
    obtain ⟨a, rfl, _, _, xs, h1, h2⟩ := h
    exact ⟨a, xs, rfl, h1, repL_mono (fun b z => .inl z) h2⟩
theorem RVr.tup {ds : List D} {f : Fl} (h : RVr w G B S H H' v (.tup ds, f)) : ∃ a xs, v = .ref a ∧ SqT G.K H' a xs ∧ RepL w G S H' xs ds := by
  cases f with
  | fr =>
    cases h with
    | tup h1 h2 h3 => exact ⟨_, _, rfl, .of h2, h3⟩
    | tupK h2 h3 => exact ⟨_, _, rfl, .inr h2, h3⟩
  | own => obtain ⟨a, rfl, _, h⟩ := h; exact h.elim
  | ali => obtain ⟨a, rfl, _, _, h⟩ := h; exact h.elim
theorem RepL.atI {xs : List V} {ds : List D} {i : Int} {d : D} (h : RepL w G S H xs ds) (e : L2.atI ds i = some d) : ∃ y, L2.atI xs i = some y ∧ Rep w G S H y d := by
  unfold L2.atI at e ⊢
  rw [h.len]
  cases q : ixN ds.length i with
  | none => rw [q] at e; cases e
  | some j =>
    rw [q] at e
    exact h.get (i := j) e
/-! ### dicts with keys that are ints and texts -/
def keyM : D → Option Key
  | .int i => some (.inl i)
  | .str s => some (.inr s)
  | _ => none
def keyN : Key → NestedKey
  | .inl i => .num i
  | .inr s => .text s
theorem keyN_inj : ∀ {a b : Key}, keyN a = keyN b → a = b
  | .inl _, .inl _, e => by cases e; rfl
  | .inr _, .inr _, e => by cases e; rfl
  | .inl _, .inr _, e => by cases e
  | .inr _, .inl _, e => by cases e
theorem keyM_ok : ∀ {d : D}, isLeafD d = true → ∃ k, keyM d = some k
  | .int i, _ => ⟨.inl i, rfl⟩
  | .str s, _ => ⟨.inr s, rfl⟩
theorem keyM_key : ∀ {d : D} {k : Key}, keyM d = some k → keyD d = some (keyN k)
  | .int i, _, e => by cases e; rfl
  | .str s, _, e => by cases e; rfl
theorem keyM_leaf : ∀ {d : D} {k : Key}, keyM d = some k → isLeafD d = true
  | .int i, _, e => rfl
  | .str s, _, e => rfl
theorem keyN_hash (k : Key) : (keyN k).hash w = keyH w k := by
  cases k <;> rfl
theorem eqK_dec : ∀ {d x : D} {k q : Key}, keyM d = some k → keyM x = some q → eqK d x = decide (q = k)
  | .int i, .int j, _, _, e, e' => by
    cases e; cases e'
    by_cases h : i = j
    · subst h; simp [eqK]
    · simp only [eqK, decide_eq_false h]
      exact (decide_eq_false fun z => h (by cases z; rfl)).symm
  | .str i, .str j, _, _, e, e' => by
    cases e; cases e'
    by_cases h : i = j
    · subst h; simp [eqK]
    · simp only [eqK, decide_eq_false h]
      exact (decide_eq_false fun z => h (by cases z; rfl)).symm
  | .int i, .str j, _, _, e, e' => by cases e; cases e'; exact (decide_eq_false fun z => by cases z).symm
  | .str i, .int j, _, _, e, e' => by cases e; cases e'; exact (decide_eq_false fun z => by cases z).symm
theorem mix_is {d : D} {k : Key} {v : V} {u : Value} (e : keyM d = some k) (h : Rep w G S H v d) (r : RelV v u) : keyIs k u = true := by
  cases h with
  | int i =>
    cases e
    obtain ⟨t, q⟩ := (show ∃ t, u = Value.int i t from r)
    cases q
    exact keyIs_int i t
  | str s =>
    cases e
    obtain ⟨t, q⟩ := (show ∃ t, u = Value.str s t from r)
    cases q
    exact keyIs_str s t
  | non => cases e
  | bl _ => cases e
  | lst _ _ _ => cases e
  | tup _ _ _ => cases e
  | tupK _ _ => cases e
  | dct _ _ _ _ _ _ _ => cases e
  | dctK _ _ _ => cases e
  | ins _ _ _ => cases e
  | exc _ _ _ _ _ => cases e
  | fn _ => cases e
  | tape _ => cases e
theorem mix_rep {d : D} {k : Key} {u : Value} (e : keyM d = some k) (h : keyIs k u = true) : ∃ v, RelV v u ∧ Rep w G S H v d := by
  cases d <;> first | (cases e; done) | skip
  · cases e
    rcases keyIs_shape h with ⟨i, t, e1, e2⟩ | ⟨i, t, e1, e2⟩
    · cases e1; exact ⟨.int _, ⟨t, e2⟩, .int _⟩
    · cases e1
  · cases e
    rcases keyIs_shape h with ⟨i, t, e1, e2⟩ | ⟨i, t, e1, e2⟩
    · cases e1
    · cases e1; exact ⟨.str _, ⟨t, e2⟩, .str _⟩
/-- keys and values told twice -/
def MX (w : World) (G : Gl0) (S : Addr → Prop) (H : Hp) : List (Key × Value) → List (D × D) → Prop := Paired fun (q : Key × Value) (p : D × D) => keyM p.1 = some q.1 ∧ ∃ y, RelV y q.2 ∧ Rep w G S H y p.2
theorem mx_of {P : Program} : ∀ {es : List DictEntry} {kvs : List (D × D)}, RepE w G S H es kvs → (kvs.all fun p => isLeafD p.1) = true → ∃ xs, Pairs (mixKind P w) es xs ∧ MX w G S H xs kvs
  | _, _, .nil, _ => ⟨[], .nil, .nil⟩
  | _, _, .cons (k := k) (e := e) (y := y) h1 h2 h3 h4 h5 h6 h7, ha => by
    rw [List.all_cons, Bool.and_eq_true] at ha
    obtain ⟨q, e1⟩ := keyM_ok ha.1
    obtain ⟨xs, z1, z2⟩ := mx_of (P := P) h7 ha.2
    exact ⟨(q, e.val) :: xs, .cons (mix_is e1 h2 h1) rfl z1, .cons ⟨e1, y, h5, h6⟩ z2⟩
theorem mx_keys {P : Program} : ∀ {es : List DictEntry} {kvs : List (D × D)}, RepE w G S H es kvs → (kvs.all fun p => isLeafD p.1) = true → ∀ e ∈ es, ∃ k, (mixKind P w).is k e.key = true ∧ e.hash = (mixKind P w).hash k
  | _, _, .nil, _ => fun e he => by cases he
  | _, _, .cons (k := k) h1 h2 h3 h4 h5 h6 h7, ha => fun e he => by
    rw [List.all_cons, Bool.and_eq_true] at ha
    rcases List.mem_cons.mp he with z | z
    · subst z
      obtain ⟨q, e1⟩ := keyM_ok ha.1
      rw [keyM_key e1] at h3
      cases h3
      exact ⟨q, mix_is e1 h2 h1, by rw [h4, keyN_hash]; rfl⟩
    · exact mx_keys h7 ha.2 e z
theorem mx_back {P : Program} : ∀ {es : List DictEntry} {xs : List (Key × Value)} {kvs : List (D × D)}, Pairs (mixKind P w) es xs → MX w G S H xs kvs → (∀ e ∈ es, ∃ k, (mixKind P w).is k e.key = true ∧ e.hash = (mixKind P w).hash k) → RepE w G S H es kvs
  | _, _, _, .nil, .nil, _ => .nil
  | _, _, _, .cons (e := e) (kv := q) i1 i2 i3, .cons ⟨m1, y, m2, m3⟩ m4, hk => by
    obtain ⟨v, r1, r2⟩ := mix_rep (w := w) (G := G) (S := S) (H := H) m1 i1
    obtain ⟨k', k1, k2⟩ := hk e List.mem_cons_self
    have ek : k' = q.1 := (mixKind P w).inj _ _ _ k1 i1
    refine .cons r1 r2 (keyM_key m1) (by rw [k2, ek, keyN_hash]; rfl) (by rw [i2]; exact m2) m3 (mx_back i3 m4 fun e he => hk e (List.mem_cons_of_mem _ he))
theorem mx_nodup : ∀ {xs : List (Key × Value)} {kvs : List (D × D)}, MX w G S H xs kvs → (xs.map (·.1)).map (fun k => some (keyN k)) = kvs.map fun p => keyD p.1
  | _, _, .nil => rfl
  | _, _, .cons ⟨m1, _⟩ m4 => by
    rw [List.map_cons, List.map_cons, List.map_cons, mx_nodup m4, keyM_key m1]
theorem some_keyN_inj {a b : Key} (e : some (keyN a) = some (keyN b)) : a = b := keyN_inj (Option.some.inj e)
theorem nodup_map {α β : Type} {f : α → β} (hf : ∀ a b, f a = f b → a = b) : ∀ {l : List α}, (l.map f).Nodup ↔ l.Nodup
  | [] => by simp
  | a :: l => by
    rw [List.map_cons, List.nodup_cons, List.nodup_cons, nodup_map hf]
    refine and_congr ⟨fun h z => h (List.mem_map_of_mem z), fun h z => ?_⟩ Iff.rfl
    obtain ⟨b, hb, e⟩ := List.mem_map.mp z
    rw [hf _ _ e] at hb
    exact h hb
theorem mx_nd {xs : List (Key × Value)} {kvs : List (D × D)} (m : MX w G S H xs kvs) : (xs.map (·.1)).Nodup ↔ NDk kvs := by
  unfold NDk
  rw [← mx_nodup m]
  exact (nodup_map fun a b e => some_keyN_inj e).symm
theorem mx_find {k : Key} {d : D} (ek : keyM d = some k) : ∀ {xs : List (Key × Value)} {kvs : List (D × D)}, MX w G S H xs kvs → (findK d kvs = none ∧ valueAt xs k = none) ∨ ∃ c u y, findK d kvs = some c ∧ valueAt xs k = some u ∧ RelV y u ∧ Rep w G S H y c
  | _, _, .nil => .inl ⟨rfl, rfl⟩
  | _, _, .cons (a := q) (b := p) ⟨m1, y, m2, m3⟩ m4 => by
    obtain ⟨x, v⟩ := p
    have e := eqK_dec ek m1
    unfold findK valueAt
    rw [List.find?_cons]
    by_cases z : q.1 = k
    · rw [decide_eq_true z] at e
      refine .inr ⟨v, q.2, y, ?_, ?_, m2, m3⟩
      · rw [if_pos e]
      · simp only [decide_eq_true z]; rfl
    · rw [decide_eq_false z] at e
      rcases mx_find ek m4 with ⟨a1, a2⟩ | ⟨c, u, y', a1, a2, a3, a4⟩
      · refine .inl ⟨?_, ?_⟩
        · rw [if_neg (by rw [e]; exact Bool.false_ne_true)]; exact a1
        · simp only [decide_eq_false z]; exact a2
      · refine .inr ⟨c, u, y', ?_, ?_, a3, a4⟩
        · rw [if_neg (by rw [e]; exact Bool.false_ne_true)]; exact a1
        · simp only [decide_eq_false z]; exact a2
theorem mx_any {k : Key} {d : D} (ek : keyM d = some k) : ∀ {xs : List (Key × Value)} {kvs : List (D × D)}, MX w G S H xs kvs → (xs.any fun kv => decide (kv.1 = k)) = kvs.any fun p => eqK d p.1
  | _, _, .nil => rfl
  | _, _, .cons (a := q) (b := p) ⟨m1, _⟩ m4 => by
    rw [List.any_cons, List.any_cons, mx_any ek m4, eqK_dec ek m1]
theorem mx_map {k : Key} {d v : D} {u : Value} {y : V} (ek : keyM d = some k) (r : RelV y u) (h : Rep w G S H y v) : ∀ {xs : List (Key × Value)} {kvs : List (D × D)}, MX w G S H xs kvs → MX w G S H (xs.map fun kv => if kv.1 = k then (kv.1, u) else kv) (kvs.map fun p => if eqK d p.1 then (p.1, v) else p)
  | _, _, .nil => .nil
  | _, _, .cons (a := q) (b := p) ⟨m1, y', m2, m3⟩ m4 => by
    rw [List.map_cons, List.map_cons]
    refine .cons ?_ (mx_map ek r h m4)
    have e := eqK_dec ek m1
    by_cases z : q.1 = k
    · rw [decide_eq_true z] at e
      rw [if_pos z, if_pos e]
      exact ⟨m1, y, r, h⟩
    · rw [decide_eq_false z] at e
      rw [if_neg z, if_neg (by rw [e]; exact Bool.false_ne_true)]
      exact ⟨m1, y', m2, m3⟩
theorem mx_app : ∀ {xs xs' : List (Key × Value)} {kvs kvs' : List (D × D)}, MX w G S H xs kvs → MX w G S H xs' kvs' → MX w G S H (xs ++ xs') (kvs ++ kvs')
  | _, _, _, _, .nil, m => m
  | _, _, _, _, .cons a b, m => .cons a (mx_app b m)
theorem mx_put {k : Key} {d v : D} {u : Value} {y : V} (ek : keyM d = some k) (r : RelV y u) (h : Rep w G S H y v) {xs : List (Key × Value)} {kvs : List (D × D)} (m : MX w G S H xs kvs) : MX w G S H (stored xs k u) (putK d v kvs) := by
  unfold stored putK
  rw [mx_any ek m]
  split
  · exact mx_map ek r h m
  · exact mx_app m (.cons ⟨ek, y, r, h⟩ .nil)
/-- the dict at a, with keys that are ints and texts -/
theorem mix_dict {P : Program} {a : Addr} {o : Obj} {es : Array DictEntry} {ep : Nat} {kvs : List (D × D)} {h : Heap} (ho : h.get? a = some o) (hx : o.ExactDict) (hd : o.data = .dict es ep) (hr : RepE w G S H es.toList kvs) (hn : NDk kvs) (ha : (kvs.all fun p => isLeafD p.1) = true) :
    ∃ xs, MX w G S H xs kvs ∧ h.DictOf (mixKind P w) a xs := by
  obtain ⟨xs, p, m⟩ := mx_of (P := P) hr ha
  exact ⟨xs, m, o, es, ep, ho, hx, hd, fun e he => mx_keys hr ha e (by simpa using he), p, (mx_nd m).mpr hn⟩
theorem mix_undict {P : Program} {a : Addr} {xs : List (Key × Value)} {kvs : List (D × D)} {h : Heap} (m : MX w G S H xs kvs) (d : h.DictOf (mixKind P w) a xs) : ∃ o es ep, h.get? a = some o ∧ o.ExactDict ∧ o.data = .dict es ep ∧ RepE w G S H es.toList kvs ∧ NDk kvs := by
  obtain ⟨o, es, ep, h1, h2, h3, h4, h5, h6⟩ := d
  exact ⟨o, es, ep, h1, h2, h3, mx_back h5 m fun e he => h4 e (by simpa using he), (mx_nd m).mp h6⟩
/-- where a dict stands -/
def DAt (C : Cd) (S : Addr → Prop) (H : Hp) (a : Addr) (kvs : List (D × D)) : Prop := ∃ (o : Obj) (es : Array DictEntry) (ep : Nat), (H a = some (RawO a o) ∨ C.G.K.lookup a = some o) ∧ o.ExactDict ∧ o.data = .dict es ep ∧ (a == sysModules) = false ∧ RepE C.w C.G S H es.toList kvs ∧ NDk kvs
theorem RVr.dct {C : Cd} {kvs : List (D × D)} {f : Fl} (h : RVr C.w C.G B S H H' v (.dct kvs, f)) : ∃ a, v = .ref a ∧ DAt C S H' a kvs := by
  cases f with
  | fr =>
    cases h with
    | dct h1 h2 h3 h4 h5 h6 h7 => exact ⟨_, rfl, _, _, _, .inl h2, h3, h4, h5, h6, h7⟩
    | dctK h2 h3 h4 =>
      obtain ⟨o, ep, e1, _, e2, e3, e4⟩ := h2
      exact ⟨_, rfl, _, _, _, .inr e1, e2, e3, e4, h3, h4⟩
  | own =>
    obtain ⟨a, rfl, _, o, es, ep, h1, h2, h3, h4, h5, h6⟩ := h
    exact ⟨a, rfl, _, _, _, .inl h1, h2, h3, h4, repE_mono (fun b z => .inl z) h5, h6⟩
  | ali =>
    obtain ⟨a, rfl, _, _, o, es, ep, h1, h2, h3, h4, h5, h6⟩ := h
    exact ⟨a, rfl, _, _, _, .inl h1, h2, h3, h4, repE_mono (fun b z => .inl z) h5, h6⟩
theorem DAt.mix {pins : List (Addr × Obj)} {s : Shared} {q : Addr} {kvs : List (D × D)} (hK : X.K = C.G.K) (hw : C.w = X.w) (I : L2.Inv X pins σ H s) (h : DAt C S H q kvs) (ha : (kvs.all fun p => isLeafD p.1) = true) :
    ∃ xs, MX C.w C.G S H xs kvs ∧ s.heap.DictOf (mixKind X.prog X.w) q xs ∧ (q == sysModules) = false := by
  obtain ⟨o, es, ep, h1, h2, h3, h4, h5, h6⟩ := h
  have ho : s.heap.get? q = some o := by
    rcases h1 with h1 | h1
    · exact (show ObjOk X.prog X.w H s.heap q (RawO q o) from I.hok q _ h1).1
    · exact I.kIn q o (by rw [hK]; exact h1)
  obtain ⟨xs, m, d⟩ := mix_dict (P := X.prog) ho h2 h3 h5 h6 ha
  rw [hw] at d
  exact ⟨xs, m, d, h4⟩
theorem keysOk_ok {k : D} {kvs : List (D × D)} (h : keysOk k kvs = true) : (∃ q, keyM k = some q) ∧ (kvs.all fun p => isLeafD p.1) = true := by
  unfold keysOk at h
  rw [Bool.and_eq_true] at h
  exact ⟨keyM_ok h.1, h.2⟩
def rIxF (C : Cd) : R2 := fun x y H Q => ∃ a S kvs k d, x = .ref a ∧ DAt C S H a kvs ∧ dctGet kvs k = some (some d) ∧ Rep C.w C.G (fun _ => False) H y k ∧ ∀ v, Rep C.w C.G S H v d → Q v H
theorem ix_leaf (hK : X.K = C.G.K) (hw : C.w = X.w) : IxR X (rIxF C) := by
  intro value slice pins s σ H x y v u Q I rx ry h hs
  obtain ⟨a, S, kvs, k, d, rfl, hd, hg, rk, q⟩ := h
  cases (show v = Value.ref a from rx)
  unfold dctGet at hg
  split at hg
  · rename_i hh
    obtain ⟨⟨lk, e1⟩, h2⟩ := keysOk_ok hh
    have hg : findK k kvs = some d := Option.some.inj hg
    obtain ⟨xs, m, dd, _⟩ := hd.mix hK hw I h2
    rcases mx_find e1 m with ⟨z, _⟩ | ⟨d', e, y', z1, z2, z3, z4⟩
    · rw [z] at hg; cases hg
    · rw [z1] at hg
      cases hg
      exact tail_any dd.typeIs slot_dict_getitem.lookup (wpAny_getItem_of (mix_is e1 rk ry) dd.mapOf z2 ⟨y', H, I.tok _, z3, q y' z4⟩) hs
  · cases hg
/-- a value is what it stands for behind two expressions -/
theorem d_ix (hs : PlainIx b) (hK : X.K = C.G.K) (hw : C.w = X.w) (ha : PE X a (tD C (semE Γ cf ea))) (hb : PE X b (tD C (semE Γ cf eb))) : PE X (.Subscript a b pos) (tD C (semE Γ cf (.ix ea eb))) := by
  refine pe_imp (pe_ix (ix_list.or (ix_tup.or (ix_leaf hK hw))) ha hb hs) fun σ H Q ⟨L, W, g, wr, h⟩ => ?_
  unfold semE at h
  refine ⟨L, W, g, wr, post_bind h fun x W1 v H1 q1 p1 wr1 rx h => ?_⟩
  refine ⟨L, W1, g.pst p1, wr1, post_bind (post_later p1 h) fun y W2 u H2 q2 p2 wr2 ry h => ?_⟩
  have rx2 := rx.pst p2 g.tn g.tnS g.dom
  obtain ⟨x, f⟩ := x
  obtain ⟨y, f'⟩ := y
  simp only at h
  cases e : ixD x y with
  | none => rw [e] at h; exact h.elim
  | some d =>
    rw [e] at h
    have hq : post C (SO C σ L) H1 (relV C (SO C σ L) H1) (.ok (d, .fr) W2) Q := h
    unfold ixD at e
    split at e
    · rename_i xs i
      obtain ⟨q, ys, rfl, h1, h2⟩ := rx2.lst
      obtain ⟨z, h3, h4⟩ := h2.atI e
      cases ry.any
      exact .inl ⟨q, ys, i, z, rfl, rfl, .of h1, h3, hq _ H2 p2 wr2 h4⟩
    · rename_i xs i
      obtain ⟨q, ys, rfl, h1, h2⟩ := rx2.tup
      obtain ⟨z, h3, h4⟩ := h2.atI e
      cases ry.any
      exact .inr (.inl ⟨q, ys, i, z, rfl, rfl, by rw [hK]; exact h1, h3, hq _ H2 p2 wr2 h4⟩)
    · rename_i kvs
      obtain ⟨q, rfl, hd⟩ := rx2.dct
      cases eg : dctGet kvs y with
      | none => rw [eg] at e; cases e
      | some o =>
        rw [eg] at e
        have e : o = some d := e
        subst e
        exact .inr (.inr ⟨q, _, kvs, y, d, rfl, hd, eg, ry.any, fun v hv => hq v H2 p2 wr2 hv⟩)
    · cases e
/-- the end of a call -/
theorem cal_end {G0 : Gl0} {f : Nat} {gd : List D → List D} {gv : List V → List V} {xs : List RV} {vs : List V} {W1 : Wd} {Q : VK} (hG : C.G = { G0 with T := C.G.T }) (hg : ∀ S H vs ds, RepL C.w C.G S H vs ds → RepL C.w C.G S H (gv vs) (gd ds)) (g : Good C σ H L) (p1 : PstE C.G H H1) (wr1 : WR C.G H1 W1) (rxs : relVs C (SO C σ L) H H1 vs xs)
    (h : post C (SO C σ L) H (relV C (SO C σ L) H) ((Rs.of (vals xs true) W1).bind fun ds W2 => (cf f (gd ds) W2).bind fun d W3 => if !anyAli xs || isScal d then .ok (d, .fr) W3 else .stk) Q) : spF C.w G0 (cf f) (gv vs) H1 Q C.E := by
  cases e : vals xs true with
  | none => rw [e] at h; exact h.elim
  | some ds =>
    rw [e] at h
    simp only [Rs.of_some, Rs.bind_ok] at h
    cases n : anyAli xs with
    | false =>
      have rl := vals_rep g.dom (vals_noali e n) rxs.1
      refine ⟨C.G.T, SO C σ L, gd ds, W1, g.tnS, dom_pst p1 g.dom, by rw [← hG]; exact hg _ _ _ _ rl, by rw [← hG]; exact wr1, ?_⟩
      rw [← hG]
      cases q : cf f (gd ds) W1 with
      | ok d W2 =>
        rw [q, n] at h
        intro v H2 p2 wr2 rv
        exact h v H2 (p1.trans p2) wr2 rv
      | err y W2 =>
        rw [q] at h
        intro cls dx H2 p2 wr2 ry
        exact h cls dx H2 (p1.trans p2) wr2 (ry.back p1)
      | stk => rw [q] at h; exact h.elim
    | true =>
      have rl := vals_tn g.tn g.tnS g.dom e rxs.1
      refine ⟨C.G.T, TN C.G.T, gd ds, W1, fun _ z => z, fun b z => dom_pst p1 g.dom b (g.tnS b z), by rw [← hG]; exact hg _ _ _ _ rl, by rw [← hG]; exact wr1, ?_⟩
      rw [← hG]
      cases q : cf f (gd ds) W1 with
      | ok d W2 =>
        rw [q, n] at h
        intro v H2 p2 wr2 rv
        have h : post C (SO C σ L) H (relV C (SO C σ L) H) (if isScal d = true then Rs.ok (d, Fl.fr) W2 else Rs.stk) Q := h
        cases sc : isScal d with
        | false => rw [sc] at h; exact h.elim
        | true =>
          rw [sc] at h
          exact h v H2 (p1.trans p2) wr2 (Rep.scal rv sc)
      | err y W2 =>
        rw [q] at h
        intro cls dx H2 p2 wr2 ry
        exact h cls dx H2 (p1.trans p2) wr2 (ry.back p1)
      | stk => rw [q] at h; exact h.elim
/-- a call of a def of the text -/
theorem d_cal {CX : CXT} {G0 : Gl0} {k f : Nat} {fa : Addr} {fd : FuncData} {ps : List Str} {dd : List D} {dV : List V} {dU : List Value} {x : Str} {p : Pos} {e : Expr} {es : List Expr} {ees : EXs} (F : FnOk X.prog X.w X.K X.mg X.base CX k fa fd ps (spF C.w G0 (cf f))) (hG : C.G = { G0 with T := C.G.T }) (hr : Room k X.A) (hg : Gl X x) (hm : X.mg x = some (.ref fa))
    (hk : PySem.W.keepIn X.K (.ref fa) = true) (hb : Binds X.K fd ps dU) (hdv : Vals dV dU) (hdr : ∀ S H, RepL C.w C.G S H dV dd) (hx : Passes CX X C.E) (ha : PA X (e :: es) (tDs C (semEs Γ cf ees))) (hdb : (x == ("__debug__" : Str)) = false) (he : starEach (e :: es) X.env = (false, eval e X.env) :: starEach es X.env)
    (hpl : (backTo pos (starEach es X.env)).any (·.1) = false) : PE X (.Call (.Name x p) (e :: es) [] pos) (tD C (semE Γ cf (.cal f ees dd))) := by
  refine pe_imp (pe_call F hr hg hm hk hb hdv hx ha hdb he hpl) fun σ H Q ⟨L, W, g, wr, h⟩ => ?_
  unfold semE at h
  exact ⟨L, W, g, wr, post_bind h fun xs W1 vs H1 _ p1 wr1 rxs h => cal_end (gv := fun vs => vs ++ dV) hG (fun S H vs ds r => r.append (hdr _ _)) g p1 wr1 rxs h⟩
end
end Dl

set_option maxRecDepth 100000
set_option maxHeartbeats 4000000
/-! D7: operators, comparisons, built-in functions. -/
namespace Dl
open PySem PySem.Spec PyProof.Rows L2
section
variable {X : Cx} {C : Cd} {Γ : Tbl} {cf : CF} {w : World} {G : Gl0} {B S : Addr → Prop} {H H' H1 H2 : Hp} {σ : L2.St} {L : Lcl} {v : V}
variable {a b c : Expr} {ea eb ec : EX} {pos : Pos}
theorem rep_int {i : Int} (h : Rep w G S H v (.int i)) : v = .int i := by cases h; rfl
theorem rep_bl {i : Bool} (h : Rep w G S H v (.bl i)) : v = .bl i := by cases h; rfl
theorem rep_str {i : Str} (h : Rep w G S H v (.str i)) : v = .str i := by cases h; rfl
theorem rep_non (h : Rep w G S H v .non) : v = .non := by cases h; rfl
theorem rep_lst {ds : List D} (h : Rep w G S H v (.lst ds)) : ∃ a xs, v = .ref a ∧ H a = some (.lst xs) ∧ RepL w G S H xs ds := by
  cases h with
  | lst h1 h2 h3 => exact ⟨_, _, rfl, h2, h3⟩
theorem rep_tup {ds : List D} (h : Rep w G S H v (.tup ds)) : ∃ a xs, v = .ref a ∧ SqT G.K H a xs ∧ RepL w G S H xs ds := by
  cases h with
  | tup h1 h2 h3 => exact ⟨_, _, rfl, .of h2, h3⟩
  | tupK h2 h3 => exact ⟨_, _, rfl, .inr h2, h3⟩
theorem onInts_some {α : Type} {f : Int → Int → Option α} {x y : D} {r : α} (e : onInts f x y = some r) : ∃ i j, x = .int i ∧ y = .int j ∧ f i j = some r := by
  unfold onInts at e
  split at e
  · exact ⟨_, _, rfl, rfl, e⟩
  · cases e
/-- an operation on two ints -/
theorem sv_int (Cn : Int → Int → Prop) (g : Int → Int → D) (g' : Int → Int → V) (hg : ∀ i j S H, Rep C.w C.G S H (g' i j) (g i j)) {f : D → D → Option RV} {h : Int → Int → Option RV} (hf : ∀ x y, f x y = onInts h x y) (hh : ∀ i j r, h i j = some r → Cn i j ∧ r = (g i j, .fr)) : Serves C (rI Cn g') f := by
  intro S dx dy rv x y H Q e rx ry q
  rw [hf] at e
  obtain ⟨i, j, rfl, rfl, e⟩ := onInts_some e
  obtain ⟨hc, rfl⟩ := hh i j rv e
  exact ⟨i, j, rep_int rx, rep_int ry, hc, q _ H (Same.refl H) (hg i j _ _)⟩
theorem sv_int0 (g : Int → Int → D) (g' : Int → Int → V) (hg : ∀ i j S H, Rep C.w C.G S H (g' i j) (g i j)) {f : D → D → Option RV} {h : Int → Int → Option RV} (hf : ∀ x y, f x y = onInts h x y) (hh : ∀ i j r, h i j = some r → r = (g i j, .fr)) : Serves C (rI0 g') f := by
  intro S dx dy rv x y H Q e rx ry q
  rw [hf] at e
  obtain ⟨i, j, rfl, rfl, e⟩ := onInts_some e
  obtain rfl := hh i j rv e
  exact ⟨i, j, rep_int rx, rep_int ry, q _ H (Same.refl H) (hg i j _ _)⟩
theorem ite_some {c : Prop} [Decidable c] {α : Type} {a r : α} (h : (if c then some a else none) = some r) : c ∧ r = a := by
  by_cases q : c
  · rw [if_pos q] at h; cases h; exact ⟨q, rfl⟩
  · rw [if_neg q] at h; cases h
theorem sv_sub : Serves C (rI0 fun i j => .int (i - j)) (binD .Sub) := sv_int0 (fun i j => .int (i - j)) _ (fun _ _ _ _ => .int _) (fun _ _ => rfl) fun i j r e => by cases e; rfl
theorem sv_fdiv : Serves C (rI CDiv fun i j => .int (i / j)) (binD .FloorDiv) := sv_int CDiv (fun i j => .int (i / j)) _ (fun _ _ _ _ => .int _) (fun _ _ => rfl) fun i j r e => by
  obtain ⟨h, e⟩ := ite_some e
  exact ⟨h, e⟩
theorem sv_mod : Serves C (rI (fun _ j => 0 < j) fun i j => .int (i % j)) (binD .Mod) := sv_int (fun _ j => 0 < j) (fun i j => .int (i % j)) _ (fun _ _ _ _ => .int _) (fun _ _ => rfl) fun i j r e => ite_some e
theorem sv_pow : Serves C (rI CPow fun i j => .int (i ^ j.toNat)) (binD .Pow) := sv_int CPow (fun i j => .int (i ^ j.toNat)) _ (fun _ _ _ _ => .int _) (fun _ _ => rfl) fun i j r e => by
  obtain ⟨⟨h1, h2, h3⟩, e⟩ := ite_some e
  exact ⟨⟨h1, by omega, h3⟩, e⟩
def bx (f : D → D → Option Bool) (x y : D) : Option RV := (f x y).map fun k => (.bl k, .fr)
theorem sc_int {op : CmpOp} (f : Int → Int → Bool) (hf : ∀ x y, cmpD op x y = onInts (fun i j => some (f i j)) x y) : Serves C (rI0 fun i j => .bl (f i j)) (cmpR op) := by
  intro S dx dy rv x y H Q e rx ry q
  unfold cmpR at e
  rw [hf] at e
  cases e1 : onInts (fun i j => some (f i j)) dx dy with
  | none => rw [e1] at e; cases e
  | some k =>
    rw [e1] at e
    cases e
    obtain ⟨i, j, rfl, rfl, e⟩ := onInts_some e1
    cases e
    exact ⟨i, j, rep_int rx, rep_int ry, q _ H (Same.refl H) (.bl _)⟩
theorem sc_lt : Serves C (rI0 fun i j => .bl (decide (i < j))) (cmpR .Lt) := sc_int _ fun _ _ => rfl
theorem sc_le : Serves C (rI0 fun i j => .bl (decide (i ≤ j))) (cmpR .LtE) := sc_int _ fun _ _ => rfl
theorem sc_gt : Serves C (rI0 fun i j => .bl (decide (j < i))) (cmpR .Gt) := sc_int (fun i j => decide (j < i)) fun _ _ => rfl
theorem sc_ge : Serves C (rI0 fun i j => .bl (decide (j ≤ i))) (cmpR .GtE) := sc_int (fun i j => decide (j ≤ i)) fun _ _ => rfl
theorem eqD_some {x y : D} {k : Bool} (e : eqD x y = some k) : ∃ p q, toPy x = some p ∧ toPy y = some q ∧ SeqAt.shaped p = true ∧ SeqAt.shaped q = true ∧ k = PyData.eqv p q := by
  unfold eqD at e
  split at e
  · rename_i p q h1 h2
    obtain ⟨h, rfl⟩ := ite_some e
    have h := Bool.and_eq_true_iff.mp h
    exact ⟨p, q, h1, h2, h.1, h.2, rfl⟩
  · cases e
theorem sc_eq : Serves C (rEqD C.G.K) (cmpR .Eq) := by
  intro S dx dy rv x y H Q e rx ry q
  have e : (eqD dx dy).map (fun k => ((.bl k, .fr) : RV)) = some rv := e
  cases e1 : eqD dx dy with
  | none => rw [e1] at e; cases e
  | some k =>
    rw [e1] at e
    cases e
    obtain ⟨p, r, h1, h2, h3, h4, rfl⟩ := eqD_some e1
    exact ⟨p, r, Rep.dp dx p x h1 rx, Rep.dp dy r y h2 ry, h3, h4, q _ H (Same.refl H) (.bl _)⟩
theorem sc_ne : Serves C (rNeD C.G.K) (cmpR .NotEq) := by
  intro S dx dy rv x y H Q e rx ry q
  have e : ((eqD dx dy).map (!·)).map (fun k => ((.bl k, .fr) : RV)) = some rv := e
  cases e1 : eqD dx dy with
  | none => rw [e1] at e; cases e
  | some k =>
    rw [e1] at e
    cases e
    obtain ⟨p, r, h1, h2, h3, h4, rfl⟩ := eqD_some e1
    exact ⟨p, r, Rep.dp dx p x h1 rx, Rep.dp dy r y h2 ry, h3, h4, q _ H (Same.refl H) (.bl _)⟩
theorem isNon_eq {d : D} (h : isNon d = true) : d = .non := by
  cases d <;> first | rfl | cases h
theorem isNon_V {d : D} (r : Rep w G S H v d) : decide (v = .non) = isNon d := by
  cases r <;> first | rfl | exact decide_eq_false fun z => by cases z
theorem isD_ok {x y : D} {k : Bool} (e : isD x y = some k) : (y = .non ∧ k = isNon x) ∨ ∃ a b, x = .bl a ∧ y = .bl b ∧ k = decide (a = b) := by
  unfold isD at e
  cases n : isNon y with
  | true => rw [n] at e; cases e; exact .inl ⟨isNon_eq n, rfl⟩
  | false =>
    rw [n, if_neg Bool.false_ne_true] at e
    split at e
    · cases e; exact .inr ⟨_, _, rfl, rfl, rfl⟩
    · cases e
theorem sc_is : Serves C (fun x y H Q => (y = .non ∧ Q (.bl (decide (x = .non))) H) ∨ rIsB x y H Q) (cmpR .Is) := by
  intro S dx dy rv x y H Q e rx ry q
  have e : (isD dx dy).map (fun k => ((.bl k, .fr) : RV)) = some rv := e
  cases n : isD dx dy with
  | none => rw [n] at e; cases e
  | some k =>
    rw [n] at e
    cases e
    rcases isD_ok n with ⟨rfl, rfl⟩ | ⟨a, b, rfl, rfl, rfl⟩
    · cases ry
      exact .inl ⟨rfl, q _ H (Same.refl H) (by rw [isNon_V rx]; exact .bl _)⟩
    · cases rx; cases ry
      exact .inr ⟨a, b, rfl, rfl, q _ H (Same.refl H) (.bl _)⟩
theorem sc_isnot : Serves C (fun x y H Q => (y = .non ∧ Q (.bl (!decide (x = .non))) H) ∨ rNotB x y H Q) (cmpR .IsNot) := by
  intro S dx dy rv x y H Q e rx ry q
  have e : ((isD dx dy).map (!·)).map (fun k => ((.bl k, .fr) : RV)) = some rv := e
  cases n : isD dx dy with
  | none => rw [n] at e; cases e
  | some k =>
    rw [n] at e
    cases e
    rcases isD_ok n with ⟨rfl, rfl⟩ | ⟨a, b, rfl, rfl, rfl⟩
    · cases ry
      exact .inl ⟨rfl, q _ H (Same.refl H) (by rw [isNon_V rx]; exact .bl _)⟩
    · cases rx; cases ry
      exact .inr ⟨a, b, rfl, rfl, q _ H (Same.refl H) (.bl _)⟩

/-! ### sums and products -/
theorem fits_mul {i j : Int} (h : fitsMul i j = true) : CMul i j := by
  unfold fitsMul at h
  simp only [Bool.or_eq_true, Bool.and_eq_true, decide_eq_true_eq] at h
  exact h
/-- several rules, by the data's cases -/
theorem sv_or {r r' : R2} {f : D → D → Option RV} (h : ∀ (S : Addr → Prop) (dx dy : D) (rv : RV) (x y : V) (H : Hp) (Q : VK), f dx dy = some rv → Rep C.w C.G (fun _ => False) H x dx → Rep C.w C.G (fun _ => False) H y dy →
  (∀ v H', Same H H' → RVr C.w C.G C.B S H H' v rv → Q v H') → r x y H Q ∨ r' x y H Q) : Serves C (fun x y H Q => r x y H Q ∨ r' x y H Q) f := h
end
/-- a two-place operation with the items' standing known -/
def Serves2 (C : Cd) (r : R2) (f : D → D → Option RV) : Prop := ∀ (S : Addr → Prop) (H0 : Hp) (rx ry rv : RV) (x y : V) (H : Hp) (Q : VK), f rx.1 ry.1 = some rv → (∀ b, TN C.G.T b → S b) → (∀ b, S b → H b ≠ none) → RVr C.w C.G C.B S H0 H x rx → RVr C.w C.G C.B S H0 H y ry →
  (∀ v H', Same H H' → RVr C.w C.G C.B S H H' v rv → Q v H') → r x y H Q
section
variable {X : Cx} {C : Cd} {Γ : Tbl} {cf : CF} {w : World} {G : Gl0} {B S : Addr → Prop} {H H' H1 H2 : Hp} {σ : L2.St} {L : Lcl} {v : V}
variable {a b c : Expr} {ea eb ec : EX} {pos : Pos}
theorem Serves.to2 {r : R2} {f : D → D → Option RV} (h : Serves C r f) : Serves2 C r f := fun S H0 rx ry rv x y H Q e _ _ hx hy q => h S rx.1 ry.1 rv x y H Q e hx.any hy.any q
theorem two_ok2 {r : R2} {f : D → D → Option RV} {Q : VK} {W : Wd} (hr : Serves2 C r f) (g : Good C σ H L) (wr : WR C.G H W)
    (h : post C (SO C σ L) H (relV C (SO C σ L) H) ((semE Γ cf ea L W).bind fun x W1 => (semE Γ cf eb L W1).bind fun y W2 => Rs.of (f x.1 y.1) W2) Q) : tOp r (tD C (semE Γ cf ea)) (tD C (semE Γ cf eb)) σ H Q := by
  refine ⟨L, W, g, wr, post_bind h fun x W1 v H1 _ p1 wr1 rx h => ?_⟩
  refine ⟨L, W1, g.pst p1, wr1, post_bind1 p1 h fun y W2 u H2 _ p2 wr2 ry h => ?_⟩
  have rx2 := rx.pst p2 g.tn g.tnS g.dom
  cases e : f x.1 y.1 with
  | none => rw [e] at h; exact h.elim
  | some rv =>
    rw [e] at h
    exact hr (SO C σ L) H x y rv v u H2 Q e g.tnS (dom_pst (p1.trans p2) g.dom) rx2 (ry.back p1) fun z H' s rz => h z H' ((p1.trans p2).trans (same_pst s)) (wr2.same s) (rz.back (p1.trans p2))
theorem d_bin2 {op : Operator} {r : R2} (ho : OpR X (binaryOp op) r) (hr : Serves2 C r (binD op)) (ha : PE X a (tD C (semE Γ cf ea))) (hb : PE X b (tD C (semE Γ cf eb))) : PE X (.BinOp a op b pos) (tD C (semE Γ cf (.bin op ea eb))) := by
  refine pe_imp (pe_op ho ha hb) fun σ H Q ⟨L, W, g, wr, h⟩ => ?_
  unfold semE at h
  exact two_ok2 hr g wr h
theorem own_new {p : Addr} {xs : List V} {ds : List D} (hp : H p = none) (h : RepL w G S H xs ds) : RVr w G B S H (upd H p (.lst xs)) (.ref p) (.lst ds, .own) := ⟨p, rfl, hp, xs, upd_same, repL_pst (pst_new hp) h⟩
theorem tup_new {p : Addr} {xs : List V} {ds : List D} (dom : ∀ b, S b → H b ≠ none) (hp : H p = none) (h : RepL w G S H xs ds) : RVr w G B S H (upd H p (.tup xs)) (.ref p) (.tup ds, .fr) :=
  Rep.tup (fun z => dom p z hp) upd_same (repL_mono (fun b z => .inl z) (repL_pst (pst_new (S := S) hp) h))
theorem repL_rep {xs : List V} {ds : List D} (h : RepL w G S H xs ds) : ∀ k : Nat, RepL w G S H (List.replicate k xs).flatten (List.replicate k ds).flatten
  | 0 => .nil
  | k + 1 => by
    rw [List.replicate_succ, List.replicate_succ, List.flatten_cons, List.flatten_cons]
    exact h.append (repL_rep h k)
theorem RVr.tupRep {ds : List D} {f : Fl} (h : RVr w G B S H H' v (.tup ds, f)) : Rep w G S H' v (.tup ds) := by
  cases f with
  | fr => exact h
  | own => obtain ⟨a, rfl, _, h⟩ := h; exact h.elim
  | ali => obtain ⟨a, rfl, _, _, h⟩ := h; exact h.elim
theorem sv_mul : Serves2 C (fun x y H Q => rI CMul (fun i j => .int (i * j)) x y H Q ∨ rRep x y H Q) (binD .Mult) := by
  intro S H0 rx ry rv x y H Q e tn dom hx hy q
  have e : mulD rx.1 ry.1 = some rv := e
  obtain ⟨dx, fx⟩ := rx
  obtain ⟨dy, fy⟩ := ry
  simp only at e
  unfold mulD at e
  split at e
  · obtain ⟨hz, rfl⟩ := ite_some e
    cases hx.any
    cases hy.any
    exact .inl ⟨_, _, rfl, rfl, fits_mul hz, q _ H (Same.refl H) (.int _)⟩
  · obtain ⟨hz, rfl⟩ := ite_some e
    simp only [Bool.and_eq_true, decide_eq_true_eq] at hz
    obtain ⟨a, xs, rfl, ha, ra⟩ := hx.lst
    cases hy.any
    exact .inr ⟨a, _, xs, rfl, rfl, ha, hz.1.1, hz.1.2, by rw [ra.len]; exact hz.2, fun p hp => q _ _ (same_new hp) (own_new hp (repL_rep ra _))⟩
  · cases e
def rAddD (K : PySem.W.Frag) : R2 := fun x y H Q => (rI0 (fun i j => .int (i + j)) x y H Q ∨ (∃ i j, x = .str i ∧ y = .str j ∧ i.length + j.length ≤ sizeLine ∧ Q (.str (i ++ j)) H)) ∨ (rCat x y H Q ∨ rCatA K x y H Q)
theorem op_addD : OpR X (binaryOp .Add) (rAddD X.K) := (op_add.or op_add_str).or (op_cat.or op_catA)
theorem sv_add : Serves2 C (rAddD C.G.K) (binD .Add) := by
  intro S H0 rx ry rv x y H Q e tn dom hx hy q
  have e : addD rx.1 ry.1 = some rv := e
  obtain ⟨dx, fx⟩ := rx
  obtain ⟨dy, fy⟩ := ry
  simp only at e
  unfold addD at e
  split at e
  · cases e
    cases hx.any
    cases hy.any
    exact .inl (.inl ⟨_, _, rfl, rfl, q _ H (Same.refl H) (.int _)⟩)
  · obtain ⟨hz, rfl⟩ := ite_some e
    cases hx.any
    cases hy.any
    exact .inl (.inr ⟨_, _, rfl, rfl, hz, q _ H (Same.refl H) (.str _)⟩)
  · obtain ⟨hz, rfl⟩ := ite_some e
    obtain ⟨a, xs, rfl, ha, ra⟩ := hx.lst
    obtain ⟨b, ys, rfl, hb, rb⟩ := hy.lst
    exact .inr (.inl ⟨a, b, xs, ys, rfl, rfl, ha, hb, by rw [ra.len, rb.len]; exact hz, fun p hp => q _ _ (same_new hp) (own_new hp (ra.append rb))⟩)
  · rename_i x0 xs0 ys0
    obtain ⟨hz, rfl⟩ := ite_some e
    obtain ⟨a, xs, rfl, ha, ra⟩ := hx.tup
    obtain ⟨b, ys, rfl, hb, rb⟩ := hy.tup
    have nx : xs ≠ [] := fun z => by
      subst z
      cases ra
    refine .inr (.inr ⟨a, b, xs, ys, rfl, rfl, ha, hb, by rw [ra.len, rb.len]; exact hz, fun z => absurd z nx, fun _ hy0 => ?_, fun _ _ p hp => q _ _ (same_new hp) (tup_new dom hp (ra.append rb))⟩)
    subst hy0
    cases rb
    refine q _ H (Same.refl H) ?_
    rw [List.append_nil]
    exact hx.tupRep
  · cases e
end
end Dl

set_option maxRecDepth 100000
set_option maxHeartbeats 4000000
/-! D8: isinstance and other built-in functions. -/
namespace Dl
open PySem PySem.Spec PyProof.Rows L2
def tyVal (G : Gl0) : Ty → Value
  | .int => .type "int"
  | .bool => .type "bool"
  | .str => .type "str"
  | .tuple => .type "tuple"
  | .list => .type "list"
  | .dict => .type "dict"
  | .cls c => .ref (G.cls c)
def tyV' (G : Gl0) : Ty → V
  | .int => .ty "int"
  | .bool => .ty "bool"
  | .str => .ty "str"
  | .tuple => .ty "tuple"
  | .list => .ty "list"
  | .dict => .ty "dict"
  | .cls c => .ref (G.cls c)
theorem tyClsV (G : Gl0) (t : Ty) : ClsV (tyV' G t) (tyVal G t) := by
  cases t <;> first | exact .ty _ | exact .own _
theorem tyClsVs (G : Gl0) : ∀ ts : List Ty, Paired ClsV (ts.map (tyV' G)) (ts.map (tyVal G))
  | [] => .nil
  | t :: ts => .cons (tyClsV G t) (tyClsVs G ts)
/-- what the written part says of the classes -/
structure KF (K : PySem.W.Frag) (cls : Nat → Addr) (Γ : Tbl) : Prop where
  insP : ∀ c, Γ.isIns c = true → PySem.W.plainGet K (cls c) "__class__" = true ∧ PySem.W.hasDictIn K (cls c) = true
  insC : ∀ c, (Γ.isIns c || Γ.isExc c) = true → PySem.W.findIn K (.ref (cls c)) "__class__" = some (some (.builtin "object.__class__")) ∧ PySem.W.mroIn K (cls c) (.type "object") = some true
  ocg : PySem.W.specialIn K (.builtin "object.__class__") "__get__" = some (some (.builtin "getset_descriptor.__get__"))
  oct : PySem.W.takesIn K (.builtin "object.__class__") = some true
  exc : ∀ c, Γ.isExc c = true → (PySem.W.clsIn K (cls c)).isSome = true ∧ PySem.W.findIn K (.ref (cls c)) "__getattribute__" = some (some (.builtin "BaseException.__getattribute__")) ∧ PySem.W.findIn K (.ref (cls c)) "__getattr__" = some none ∧ PySem.W.subIn K (.ref (cls c)) (.type "BaseException") = some true
  kk : ∀ c d, (Γ.isIns c || Γ.isExc c) = true → (Γ.isIns d || Γ.isExc d) = true → PySem.W.kitOne K (.ref (cls c)) (.ref (cls d)) = some (Γ.sub c d)
  kb : ∀ n, n ∈ ["NoneType", "bool", "int", "str", "list", "tuple", "dict"] → ∀ d, (Γ.isIns d || Γ.isExc d) = true → PySem.W.kitOne K (.type n) (.ref (cls d)) = some false
  kc : ∀ c, (Γ.isIns c || Γ.isExc c) = true → ∀ n, n ∈ ["bool", "int", "str", "list", "tuple", "dict"] → PySem.W.kitOne K (.ref (cls c)) (.type n) = some false
section
variable {X : Cx} {C : Cd} {Γ : Tbl} {cf : CF} {w : World} {G : Gl0} {B S : Addr → Prop} {H H' H1 H2 : Hp} {σ : L2.St} {L : Lcl} {v : V}
variable {a b c : Expr} {ea eb ec : EX} {pos : Pos} {pins : List (Addr × Obj)} {s : Shared}
def tyOfD (G : Gl0) : D → Value
  | .non => .type "NoneType"
  | .bl _ => .type "bool"
  | .int _ => .type "int"
  | .str _ => .type "str"
  | .lst _ => .type "list"
  | .tup _ => .type "tuple"
  | .dct _ => .type "dict"
  | .ins c _ => .ref (G.cls c)
  | .exc c _ => .ref (G.cls c)
  | _ => .none
theorem kit_rep {u : Value} {d : D} {k : Bool} {t : Ty} (F : KF X.K G.cls Γ) (hK : X.K = G.K) (I : L2.Inv X pins σ H s) (rx : RelV v u) (r : Rep w G S H v d) (e : tyD Γ d t = some k) :
    ∃ P : Heap → Prop, PySem.W.KitX X.K u (tyOfD G d) P ∧ P s.heap ∧ u ≠ .builtin "__main__.__loader__#opaque" := by
  cases r with
  | non => cases (show u = Value.none from rx); exact ⟨_, PySem.W.kitx_none, True.intro, fun z => nomatch z⟩
  | bl y => cases (show u = Value.bool y from rx); exact ⟨_, PySem.W.kitx_bool, True.intro, fun z => nomatch z⟩
  | int i => obtain ⟨t, q⟩ := (show ∃ t, u = Value.int i t from rx); cases q; exact ⟨_, PySem.W.kitx_int, True.intro, fun z => nomatch z⟩
  | str y => obtain ⟨t, q⟩ := (show ∃ t, u = Value.str y t from rx); cases q; exact ⟨_, PySem.W.kitx_str, True.intro, fun z => nomatch z⟩
  | @lst a xs ds h1 h2 h3 =>
    cases (show u = Value.ref a from rx)
    obtain ⟨_, _, n, _, h1⟩ := (show ObjOk X.prog X.w H s.heap a (.lst xs) from I.hok a _ h2)
    exact ⟨_, PySem.W.kitx_list, ⟨_, h1, rfl⟩, fun z => nomatch z⟩
  | @tup a xs ds h1 h2 h3 =>
    cases (show u = Value.ref a from rx)
    obtain ⟨_, _, _, o, h1, h2, _⟩ := (show ObjOk X.prog X.w H s.heap a (.tup xs) from I.hok a _ h2)
    exact ⟨_, PySem.W.kitx_tuple, ⟨o, h1, h2⟩, fun z => nomatch z⟩
  | @tupK a xs ds h2 h3 =>
    cases (show u = Value.ref a from rx)
    obtain ⟨o, its, n, h1, h2, _⟩ := h2
    rw [← hK] at h1
    exact ⟨_, PySem.W.kitx_tuple, ⟨o, I.kIn a o h1, h2⟩, fun z => nomatch z⟩
  | @dct a o es ep kvs h1 h2 h3 h4 h5 h6 h7 =>
    cases (show u = Value.ref a from rx)
    obtain ⟨h7, _⟩ := (show ObjOk X.prog X.w H s.heap a (RawO a o) from I.hok a _ h2)
    exact ⟨_, PySem.W.kitx_dict, ⟨o, h7, h3.1⟩, fun z => nomatch z⟩
  | @dctK a es kvs h2 h3 h4 =>
    cases (show u = Value.ref a from rx)
    obtain ⟨o, ep, h1, _, h2, _⟩ := h2
    rw [← hK] at h1
    exact ⟨_, PySem.W.kitx_dict, ⟨o, I.kIn a o h1, h2.1⟩, fun z => nomatch z⟩
  | @ins a dx c fs ds h1 h2 h3 =>
    cases (show u = Value.ref a from rx)
    obtain ⟨hc, _⟩ := ite_some e
    obtain ⟨p1, p2⟩ := F.insP c hc
    obtain ⟨p3, p4⟩ := F.insC c (by rw [hc]; rfl)
    obtain ⟨mA, O, _⟩ := ins_get I.hok h2
    obtain ⟨od, J, _⟩ := O.look
    exact ⟨_, PySem.W.kitx_own p1 p2 p3 F.ocg F.oct p4, J, fun z => nomatch z⟩
  | @exc a od c fs ds h1 h2 h3 h4 h5 =>
    cases (show u = Value.ref a from rx)
    obtain ⟨hc, _⟩ := ite_some e
    obtain ⟨p1, p2, p3, p4⟩ := F.exc c hc
    obtain ⟨p5, p6⟩ := F.insC c (by rw [hc]; cases Γ.isIns c <;> rfl)
    obtain ⟨⟨oe, vs, q1, q2, q3⟩, _⟩ := (show ObjOk X.prog X.w H s.heap a (ExcO a (.ref (G.cls c)) od) from I.hok a _ h2)
    obtain ⟨oc, odi, oda, osl⟩ := oe
    obtain ⟨e1, e2⟩ := q2
    simp only at e1 e2 q3
    subst e1 e2 q3
    cases odi with
    | none => exact ⟨_, PySem.W.kitx_exc (od := none) p1 p2 p3 p4 p5 F.ocg F.oct p6, ⟨q1, rfl, rfl, True.intro⟩, fun z => nomatch z⟩
    | some dx =>
      obtain ⟨_, h6⟩ := h4 dx rfl
      obtain ⟨mA, ⟨o2, es2, ep2, hg2, _⟩, _⟩ := (show ObjOk X.prog X.w H s.heap dx (.xd fs) from I.hok dx _ h6)
      exact ⟨_, PySem.W.kitx_exc (od := some o2) p1 p2 p3 p4 p5 F.ocg F.oct p6, ⟨q1, rfl, rfl, hg2⟩, fun z => nomatch z⟩
  | fn i => cases e
  | tape h => cases e
theorem kit_ty_ok {d : D} {t : Ty} {k : Bool} {K : PySem.W.Frag} (F : KF K G.cls Γ) (ho : tyOk Γ t = true) (e : tyD Γ d t = some k) : PySem.W.kitOne K (tyOfD G d) (tyVal G t) = some k := by
  cases d with
  | non =>
    cases e
    cases t <;> first | exact kit_ty (by decide +kernel) | exact F.kb _ (by simp) _ ho
  | bl y =>
    cases e
    cases t <;> first | exact kit_ty (by decide +kernel) | exact F.kb _ (by simp) _ ho
  | int y =>
    cases e
    cases t <;> first | exact kit_ty (by decide +kernel) | exact F.kb _ (by simp) _ ho
  | str y =>
    cases e
    cases t <;> first | exact kit_ty (by decide +kernel) | exact F.kb _ (by simp) _ ho
  | tup y =>
    cases e
    cases t <;> first | exact kit_ty (by decide +kernel) | exact F.kb _ (by simp) _ ho
  | lst y =>
    cases e
    cases t <;> first | exact kit_ty (by decide +kernel) | exact F.kb _ (by simp) _ ho
  | dct y =>
    cases e
    cases t <;> first | exact kit_ty (by decide +kernel) | exact F.kb _ (by simp) _ ho
  | ins c fs =>
    obtain ⟨hc, rfl⟩ := ite_some e
    have hc' : (Γ.isIns c || Γ.isExc c) = true := by rw [hc]; rfl
    cases t <;> first | exact F.kc c hc' _ (by simp) | exact F.kk c _ hc' ho
  | exc c fs =>
    obtain ⟨hc, rfl⟩ := ite_some e
    have hc' : (Γ.isIns c || Γ.isExc c) = true := by rw [hc]; cases Γ.isIns c <;> rfl
    cases t <;> first | exact F.kc c hc' _ (by simp) | exact F.kk c _ hc' ho
  | _ => cases e
theorem isiD_cons {x : D} {t : Ty} {ts : List Ty} {k : Bool} (e : isiD Γ x (t :: ts) = some k) : tyOk Γ t = true ∧ ((tyD Γ x t = some true ∧ k = true) ∨ (tyD Γ x t = some false ∧ isiD Γ x ts = some k)) := by
  unfold isiD at e
  by_cases h : tyOk Γ t = true
  · rw [if_pos h] at e
    refine ⟨h, ?_⟩
    cases q : tyD Γ x t with
    | none => rw [q] at e; cases e
    | some b =>
      rw [q] at e
      cases b with
      | true => cases e; exact .inl ⟨rfl, rfl⟩
      | false => exact .inr ⟨rfl, e⟩
  · rw [if_neg h] at e; cases e
theorem kit_any {d : D} {K : PySem.W.Frag} (F : KF K G.cls Γ) : ∀ {ts : List Ty} {k : Bool}, isiD Γ d ts = some k → PySem.W.kitAny K (tyOfD G d) (ts.map (tyVal G)) = some k
  | [], k, e => by cases e; exact kitAny_nil
  | t :: ts, k, e => by
    obtain ⟨h, q⟩ := isiD_cons e
    rcases q with ⟨q, rfl⟩ | ⟨q, e⟩
    · exact kitAny_cons (b := true) (kit_ty_ok F h q) (fun z => by cases z) fun _ => rfl
    · exact kitAny_cons (b := false) (kit_ty_ok F h q) (fun _ => kit_any F e) fun z => by cases z
/-- isinstance(x, t), isinstance(x, (t, ..)) by data -/
def rIsiD (C : Cd) (Γ : Tbl) (ts : List Ty) (one : Bool) : List V → Hp → VK → Prop := fun xs H Q => ∃ (x : V) (d : D) (y : V) (k : Bool), xs = [x, y] ∧ Rep C.w C.G (fun _ => False) H x d ∧ isiD Γ d ts = some k ∧
  (if one then ∃ t, ts = [t] ∧ y = tyV' C.G t else ∃ tp, y = .ref tp ∧ H tp = some (.tup (ts.map (tyV' C.G))) ∧ ts ≠ []) ∧ Q (.bl k) H
theorem call_isiD {ts : List Ty} {one : Bool} (F : KF X.K C.G.cls Γ) (hK : X.K = C.G.K) : CallR X (.builtin "isinstance") (rIsiD C Γ ts one) := by
  intro pins s σ H xs us Q I r h
  obtain ⟨x, d, y, k, rfl, rd, e, hy, q⟩ := h
  obtain ⟨u1, u2, rfl, r1, r2⟩ := vals2 r
  have first : ∃ t k', tyD Γ d t = some k' := by
    cases ts with
    | nil =>
      exfalso
      cases one with
      | true => obtain ⟨t, z, _⟩ := hy; cases z
      | false => obtain ⟨tp, _, _, z⟩ := hy; exact z rfl
    | cons t ts =>
      obtain ⟨_, z⟩ := isiD_cons e
      rcases z with ⟨z, _⟩ | ⟨z, _⟩
      · exact ⟨_, _, z⟩
      · exact ⟨_, _, z⟩
  obtain ⟨t0, k0, e0⟩ := first
  obtain ⟨P, Z, p, hx⟩ := kit_rep F hK I r1 rd e0
  cases one with
  | true =>
    obtain ⟨t, rfl, rfl⟩ := hy
    have e2 := (tyClsV C.G t).eq r2
    subst e2
    obtain ⟨ho, z⟩ := isiD_cons e
    have e1 : PySem.W.kitOne X.K (tyOfD C.G d) (tyVal C.G t) = some k := by
      rcases z with ⟨z, rfl⟩ | ⟨z, z2⟩
      · exact kit_ty_ok F ho z
      · cases z2
        exact kit_ty_ok F ho z
    exact PySem.W.kia_one Z I.kIn p e1 hx fun tk => ⟨.bl k, H, I.tok tk, rfl, q⟩
  | false =>
    obtain ⟨tp, rfl, hT, _⟩ := hy
    cases (show u2 = Value.ref tp from r2)
    obtain ⟨_, its, rv, o, h1, h2, n, h3⟩ := (show ObjOk X.prog X.w H s.heap tp (.tup (ts.map (tyV' C.G))) from I.hok tp _ hT)
    have e3 := ClsV.all (tyClsVs C.G ts) rv
    subst e3
    obtain ⟨oc, od, dt, sl⟩ := o
    simp only at h2 h3
    subst h2 h3
    exact PySem.W.kia_tup Z I.kIn p h1 (kit_any F e) hx fun tk => ⟨.bl k, H, I.tok tk, rfl, q⟩
theorem d_isi1 {t : Ty} {cl : Expr} {x : Str} {p : Pos} (F : KF X.K C.G.cls Γ) (hK : X.K = C.G.K) (hg : Gl X "isinstance") (hm : X.mg "isinstance" = none) (ha : PE X a (tD C (semE Γ cf ea))) (hc : PE X cl (tC (tyV' C.G t))) (h1 : starEach [a, cl] X.env = (false, eval a X.env) :: starEach [cl] X.env)
    (h2 : starEach [cl] X.env = (false, eval cl X.env) :: starEach [] X.env) (hpl : (backTo pos (starEach [cl] X.env)).any (·.1) = false) : PE X (.Call (.Name "isinstance" p) [a, cl] [] pos) (tD C (semE Γ cf (.isi ea [t]))) := by
  refine pe_imp (pe_callB (call_isiD (ts := [t]) (one := true) F hK) hg hm (by decide +kernel) (pa_cons ha (pa_cons hc pa_nil h2) h1) (by decide) (by decide) h1 hpl) fun σ H Q ⟨L, W, g, wr, h⟩ => ?_
  unfold semE at h
  refine ⟨L, W, g, wr, post_bind h fun x W1 v H1 _ p1 wr1 rx h => ?_⟩
  cases e : isiD Γ x.1 [t] with
  | none => rw [e] at h; exact h.elim
  | some k =>
    rw [e] at h
    exact ⟨v, x.1, _, k, rfl, rx.any, e, ⟨t, rfl, rfl⟩, h _ H1 p1 wr1 (.bl _)⟩
theorem d_isiT {ts : List Ty} {es : List Expr} {tk : Nat} {tpos : Pos} {p : Pos} (F : KF X.K C.G.cls Γ) (hK : X.K = C.G.K) (hg : Gl X "isinstance") (hm : X.mg "isinstance" = none) (hn : ts ≠ []) (hz : ts.length ≤ sizeLine) (ha : PE X a (tD C (semE Γ cf ea))) (hc : PA X es (fun _ H Q => Q (ts.map (tyV' C.G)) H)) (h1 : starEach [a, .Tuple es tk tpos] X.env = (false, eval a X.env) :: starEach [.Tuple es tk tpos] X.env)
    (h2 : starEach [.Tuple es tk tpos] X.env = (false, eval (.Tuple es tk tpos) X.env) :: starEach [] X.env) (hpl : (backTo pos (starEach [.Tuple es tk tpos] X.env)).any (·.1) = false) : PE X (.Call (.Name "isinstance" p) [a, .Tuple es tk tpos] [] pos) (tD C (semE Γ cf (.isi ea ts))) := by
  refine pe_imp (pe_callB (call_isiD (ts := ts) (one := false) F hK) hg hm (by decide +kernel) (pa_cons ha (pa_cons (pe_tup hc) pa_nil h2) h1) (by decide) (by decide) h1 hpl) fun σ H Q ⟨L, W, g, wr, h⟩ => ?_
  unfold semE at h
  refine ⟨L, W, g, wr, post_bind h fun x W1 v H1 _ p1 wr1 rx h => ?_⟩
  cases e : isiD Γ x.1 ts with
  | none => rw [e] at h; exact h.elim
  | some k =>
    rw [e] at h
    refine ⟨by rw [List.length_map]; exact hz, fun tp htp => ?_⟩
    have s : Same H1 (upd H1 tp (.tup (ts.map (tyV' C.G)))) := same_new htp
    exact ⟨v, x.1, _, k, rfl, rep_same s rx.any, e, ⟨tp, rfl, upd_same, hn⟩, h _ _ (p1.trans (same_pst s)) (wr1.same s) (.bl _)⟩
/-! ### built-in functions on values -/
def ServesL (C : Cd) (r : List V → Hp → VK → Prop) (f : List D → Option RV) : Prop := ∀ (S : Addr → Prop) (H0 : Hp) (rs : List RV) (rv : RV) (vs : List V) (H : Hp) (Q : VK), f (rs.map (·.1)) = some rv → (∀ b, TN C.G.T b → S b) → (∀ b, S b → H b ≠ none) → RVs C.w C.G C.B S H0 H vs rs →
  (∀ v H', Same H H' → RVr C.w C.G C.B S H H' v rv → Q v H') → r vs H Q
theorem bl_ok {r : List V → Hp → VK → Prop} {f : List D → Option RV} {ees : EXs} {Q : VK} {W : Wd} (hr : ServesL C r f) (g : Good C σ H L) (wr : WR C.G H W)
    (h : post C (SO C σ L) H (relV C (SO C σ L) H) ((semEs Γ cf ees L W).bind fun xs W1 => Rs.of (f (xs.map (·.1))) W1) Q) : tCB r (tDs C (semEs Γ cf ees)) σ H Q := by
  refine ⟨L, W, g, wr, post_bind h fun xs W1 vs H1 _ p1 wr1 rxs h => ?_⟩
  cases e : f (xs.map (·.1)) with
  | none => rw [e] at h; exact h.elim
  | some rv =>
    rw [e] at h
    exact hr (SO C σ L) H xs rv vs H1 Q e g.tnS (dom_pst p1 g.dom) rxs.1 fun z H' s rz => h z H' (p1.trans (same_pst s)) (wr1.same s) (rz.back p1)
theorem d_blB {r : List V → Hp → VK → Prop} {f : Bl} {x : Str} {id : String} {p : Pos} {e : Expr} {es : List Expr} {ees : EXs} (hc : CallR X (.builtin id) r) (hr : ServesL C r (blD f)) (hg : Gl X x) (hm : X.mg x = none) (hv : bootBuiltins x = some (.builtin id)) (hn : x ≠ "__name__") (hdb : (x == ("__debug__" : Str)) = false) (ha : PA X (e :: es) (tDs C (semEs Γ cf ees)))
    (he : starEach (e :: es) X.env = (false, eval e X.env) :: starEach es X.env) (hpl : (backTo pos (starEach es X.env)).any (·.1) = false) : PE X (.Call (.Name x p) (e :: es) [] pos) (tD C (semE Γ cf (.bl f ees))) := by
  refine pe_imp (pe_callB hc hg hm hv ha hn hdb he hpl) fun σ H Q ⟨L, W, g, wr, h⟩ => ?_
  unfold semE at h
  exact bl_ok hr g wr h
theorem d_blT {r : List V → Hp → VK → Prop} {f : Bl} {x : Str} {id : String} {p : Pos} {e : Expr} {es : List Expr} {ees : EXs} (hc : CallR X (.type id) r) (hr : ServesL C r (blD f)) (hg : Gl X x) (hm : X.mg x = none) (hv : bootBuiltins x = some (.type id)) (hn : x ≠ "__name__") (hdb : (x == ("__debug__" : Str)) = false) (ha : PA X (e :: es) (tDs C (semEs Γ cf ees)))
    (he : starEach (e :: es) X.env = (false, eval e X.env) :: starEach es X.env) (hpl : (backTo pos (starEach es X.env)).any (·.1) = false) : PE X (.Call (.Name x p) (e :: es) [] pos) (tD C (semE Γ cf (.bl f ees))) := by
  refine pe_imp (pe_callTy hc hg hm hv ha hn hdb he hpl) fun σ H Q ⟨L, W, g, wr, h⟩ => ?_
  unfold semE at h
  exact bl_ok hr g wr h
end
end Dl

set_option maxRecDepth 100000
set_option maxHeartbeats 4000000
/-! D9: statements. -/
namespace Dl
open PySem PySem.Spec PyProof.Rows L2
/-- behind a statement -/
def postS (C : Cd) (D0 : Ends) (σ : L2.St) (L : Lcl) (H : Hp) (r : Rs Fw) : Prop := match r with
  | .ok (.nx L') W' => ∀ σ' H', Pst (SO C σ L) H (SO C σ' L') H' → Good C σ' H' L' → WR C.G H' W' → D0.nx σ' H'
  | .ok (.bk L') W' => ∀ σ' H', Pst (SO C σ L) H (SO C σ' L') H' → Good C σ' H' L' → WR C.G H' W' → D0.bk σ' H'
  | .ok (.ct L') W' => ∀ σ' H', Pst (SO C σ L) H (SO C σ' L') H' → Good C σ' H' L' → WR C.G H' W' → D0.ct σ' H'
  | .ok (.rt r) W' => ∀ v H', PstE C.G C.H0 H' → WR C.G H' W' → Rep C.w C.G C.B H' v r.1 → D0.rt v H'
  | .err x W' => ∀ cls d H', PstE C.G C.H0 H' → WR C.G H' W' → ExR C.w C.G C.H0 H' cls d x → C.E cls d H'
  | .stk => False
def tS (C : Cd) (m : Lcl → Wd → Rs Fw) : TS := fun D σ H => ∃ L W, Good C σ H L ∧ WR C.G H W ∧ postS C D σ L H (m L W)
section
variable {X : Cx} {C : Cd} {Γ : Tbl} {cf : CF} {w : World} {G : Gl0} {B S : Addr → Prop} {H H' H1 H2 : Hp} {σ σ' : L2.St} {L L' : Lcl} {v : V}
variable {a b c : Expr} {ea eb ec : EX} {pos : Pos}
theorem Good.entE (g : Good C σ H L) : PstE C.G C.H0 H := ⟨fun a o h hs ht => let ⟨h1, h2⟩ := g.ent a o h hs ht; ⟨h1, hs⟩, g.edom⟩
/-- a value that is handed back -/
theorem Good.ret {r : RV} (g : Good C σ H L) (p : PstE C.G H H1) (h : RVr C.w C.G C.B (SO C σ L) H H1 v r) : Rep C.w C.G C.B H1 v r.1 := by
  have hm : ∀ b, C.B b → SO C σ L b := fun b z => .inl z
  obtain ⟨d, f⟩ := r
  cases f with
  | fr => exact rep_mono hm h
  | own =>
    obtain ⟨a, rfl, n, h⟩ := h
    exact h.rep (fun z => g.dom a (.inl z) n) hm
  | ali =>
    obtain ⟨a, rfl, _, n, h⟩ := h
    exact h.rep n hm
theorem getElem?_set {α : Type} (l : List α) (i j : Nat) (x : α) (hi : i < l.length) : (l.set i x)[j]? = if j = i then some x else l[j]? := by
  by_cases h : j = i
  · subst h
    rw [if_pos rfl, List.getElem?_set_self hi]
  · rw [if_neg h, List.getElem?_set_ne (fun z => h z.symm)]
/-- the state behind a change of one slot -/
theorem Good.slot {i : Nat} {x : Option V} {o : Option Sl} (g : Good C σ H L) (p : PstE C.G H H1) (hi : i < L.length)
    (ho : match o with
      | none => True
      | some (.val d) => ∃ v, x = some v ∧ Rep C.w C.G (SO C σ L) H1 v d
      | some (.own d) => ∃ a, x = some (V.ref a) ∧ ¬ C.B a ∧ (∀ j e, j ≠ i → L[j]? = some (some (Sl.own e)) → σ[j]? ≠ some (some (V.ref a))) ∧ (∀ b u, H b = some u → ¬ SO C σ L b → b ≠ a) ∧ C.H0 a = none ∧ OwnAt C.w C.G (SO C σ L) H1 a d) :
    Good C (σ.set i x) H1 (L.set i o) ∧ Pst (SO C σ L) H (SO C (σ.set i x) (L.set i o)) H1 := by
  have hiσ : i < σ.length := by rw [g.len]; exact hi
  have eL : ∀ j, (L.set i o)[j]? = if j = i then some o else L[j]? := fun j => getElem?_set L i j o hi
  have eσ : ∀ j, (σ.set i x)[j]? = if j = i then some x else σ[j]? := fun j => getElem?_set σ i j x hiσ
  -- the own addresses behind it
  have oa : ∀ b, OA (σ.set i x) (L.set i o) b → OA σ L b ∨ (∃ d, o = some (.own d) ∧ x = some (V.ref b)) := fun b ⟨j, d, h1, h2⟩ => by
    rw [eL] at h1
    rw [eσ] at h2
    by_cases hj : j = i
    · rw [if_pos hj] at h1 h2
      exact .inr ⟨d, Option.some.inj h1, Option.some.inj h2⟩
    · rw [if_neg hj] at h1 h2
      exact .inl ⟨j, d, h1, h2⟩
  have so : ∀ b, SO C (σ.set i x) (L.set i o) b → SO C σ L b ∨ (∃ d, o = some (.own d) ∧ x = some (V.ref b)) := fun b z => by
    rcases z with z | z
    · exact .inl (.inl z)
    · rcases oa b z with z | z
      · exact .inl (.inr z)
      · exact .inr z
  have pst : Pst (SO C σ L) H (SO C (σ.set i x) (L.set i o)) H1 := fun b u e hs ht => by
    refine ⟨(p.1 b u e (fun z => hs (g.tnS b z)) ht).1, fun z => ?_⟩
    rcases so b z with z | ⟨d, e1, e2⟩
    · exact hs z
    · subst e1
      obtain ⟨a, e3, _, _, hn, _⟩ := ho
      rw [e2] at e3
      cases e3
      exact hn b u e hs rfl
  refine ⟨⟨by rw [List.length_set, List.length_set, g.len], fun j d h => ?_, fun j d h => ?_, fun j k d e a h1 h2 h3 h4 => ?_, fun b z => ?_, g.tn, fun b u e hs ht => ?_, fun b h => p.2 b (g.edom b h)⟩, pst⟩
  · rw [eL] at h
    rw [eσ]
    by_cases hj : j = i
    · rw [if_pos hj] at h ⊢
      have h := Option.some.inj h
      subst h
      obtain ⟨v, rfl, hv⟩ := ho
      refine ⟨v, rfl, rep_mono (fun b z => ?_) hv⟩
      rcases so b z with z | ⟨d, e1, _⟩
      · exact z
      · cases e1
    · rw [if_neg hj] at h ⊢
      obtain ⟨v, h1, h2⟩ := g.val j d h
      exact ⟨v, h1, rep_pst pst h2⟩
  · rw [eL] at h
    rw [eσ]
    by_cases hj : j = i
    · rw [if_pos hj] at h ⊢
      have h := Option.some.inj h
      subst h
      obtain ⟨a, rfl, h1, _, _, _, h2⟩ := ho
      refine ⟨a, rfl, h1, ?_⟩
      have sub : ∀ b, Plus (SO C (σ.set i (some (V.ref a))) (L.set i (some (.own d)))) a b → Plus (SO C σ L) a b := fun b z => by
        rcases z with z | z
        · rcases so b z with z | ⟨d', _, e2⟩
          · exact .inl z
          · cases e2
            exact .inr rfl
        · exact .inr z
      cases d with
      | lst ds => obtain ⟨xs, q1, q2⟩ := h2; exact ⟨xs, q1, repL_mono sub q2⟩
      | dct ds => obtain ⟨o, es, ep, q1, q2, q3, q4, q5, q6⟩ := h2; exact ⟨o, es, ep, q1, q2, q3, q4, repE_mono sub q5, q6⟩
      | ins c ds => obtain ⟨dx, fs, q1, q2⟩ := h2; exact ⟨dx, fs, q1, repF_mono sub q2⟩
      | _ => exact h2.elim
    · rw [if_neg hj] at h ⊢
      obtain ⟨a, h1, h2, h3⟩ := g.own j d h
      refine ⟨a, h1, h2, ?_⟩
      have pa : Pst (Plus (SO C σ L) a) H (Plus (SO C (σ.set i x) (L.set i o)) a) H1 := fun b u e hs ht => by
        obtain ⟨q1, q2⟩ := pst b u e (fun z => hs (.inl z)) ht
        exact ⟨q1, fun z => z.elim q2 fun z => hs (.inr z)⟩
      have na : ¬ TN C.G.T a := fun z => h2 (g.tn a z)
      cases d with
      | lst ds => obtain ⟨xs, q1, q2⟩ := h3; exact ⟨xs, (p.1 a _ q1 na (fun z => z)).1, repL_pst pa q2⟩
      | dct ds => obtain ⟨o, es, ep, q1, q2, q3, q4, q5, q6⟩ := h3; exact ⟨o, es, ep, (p.1 a _ q1 na (fun z => z)).1, q2, q3, q4, repE_pst pa q5, q6⟩
      | ins c ds => obtain ⟨dx, fs, q1, q2⟩ := h3; exact ⟨dx, fs, (p.1 a _ q1 na (fun z => z)).1, repF_pst pa q2⟩
      | _ => exact h3.elim
  · rw [eL] at h1 h2
    rw [eσ] at h3 h4
    by_cases hj : j = i
    · by_cases hk : k = i
      · rw [hj, hk]
      · exfalso
        rw [if_pos hj] at h1 h3
        rw [if_neg hk] at h2 h4
        have h1 := Option.some.inj h1
        subst h1
        obtain ⟨a', e1, _, hn, _⟩ := ho
        have h3 := Option.some.inj h3
        rw [e1] at h3
        cases h3
        exact hn k e hk h2 h4
    · by_cases hk : k = i
      · exfalso
        rw [if_neg hj] at h1 h3
        rw [if_pos hk] at h2 h4
        have h2 := Option.some.inj h2
        subst h2
        obtain ⟨a', e1, _, hn, _⟩ := ho
        have h4 := Option.some.inj h4
        rw [e1] at h4
        cases h4
        exact hn j d hj h1 h3
      · rw [if_neg hj] at h1 h3
        rw [if_neg hk] at h2 h4
        exact g.inj j k d e a h1 h2 h3 h4
  · rcases so b z with z | ⟨d, e1, e2⟩
    · exact p.2 b (g.dom b z)
    · subst e1
      obtain ⟨a, e3, _, _, _, _, h2⟩ := ho
      rw [e2] at e3
      cases e3
      exact ownAt_there h2
  · obtain ⟨h1, h2⟩ := g.ent b u e hs ht
    refine ⟨(p.1 b u h1 hs ht).1, fun z => ?_⟩
    rcases z with z | z
    · exact hs z
    · rcases oa b z with z | ⟨d, e1, e2⟩
      · exact h2 (.inr z)
      · subst e1
        obtain ⟨a, e3, _, _, _, hn, _⟩ := ho
        rw [e2] at e3
        cases e3
        rw [e] at hn
        cases hn
/-- a value put into a slot -/
theorem Good.set {i : Nat} {r : RV} {sl : Sl} (g : Good C σ H L) (p : PstE C.G H H1) (hi : i < L.length) (h : RVr C.w C.G C.B (SO C σ L) H H1 v r) (e : slOf r = some sl) :
    Good C (σ.set i (some v)) H1 (L.set i (some sl)) ∧ Pst (SO C σ L) H (SO C (σ.set i (some v)) (L.set i (some sl))) H1 := by
  obtain ⟨d, f⟩ := r
  cases f with
  | fr => cases e; exact g.slot p hi ⟨v, rfl, h⟩
  | own =>
    cases e
    obtain ⟨a, rfl, n, h⟩ := h
    refine g.slot p hi ⟨a, rfl, fun z => g.dom a (.inl z) n, fun j d' hj h1 h2 => g.dom a (.inr ⟨j, d', h1, h2⟩) n, fun b u eb _ z => ?_, ?_, h⟩
    · rw [z, n] at eb
      cases eb
    · cases q : C.H0 a with
      | none => rfl
      | some o => exact absurd n (g.edom a (by rw [q]; simp))
  | ali => cases e
/-- what is barred becomes the object of a slot -/
theorem Good.take {a : Addr} {as : List Addr} {d : D} {i : Nat} (htn : ∀ b, TN C.G.T b → C.B b) (g : Good (BarP C fun b => b ∈ a :: as) σ H L) (na : a ∉ as) (nb : ¬ C.B a) (h0 : C.H0 a = none) (hi : i < L.length) (ho : OwnAt C.w C.G (SO (BarP C fun b => b ∈ a :: as) σ L) H a d) :
    Good (BarP C fun b => b ∈ as) (σ.set i (some (.ref a))) H (L.set i (some (.own d))) ∧ (∀ b, SO (BarP C fun b => b ∈ as) (σ.set i (some (.ref a))) (L.set i (some (.own d))) b → SO (BarP C fun b => b ∈ a :: as) σ L b) := by
  have hiσ : i < σ.length := by rw [g.len]; exact hi
  have eL : ∀ j, (L.set i (some (Sl.own d)))[j]? = if j = i then some (some (Sl.own d)) else L[j]? := fun j => getElem?_set L i j _ hi
  have eσ : ∀ j, (σ.set i (some (V.ref a)))[j]? = if j = i then some (some (V.ref a)) else σ[j]? := fun j => getElem?_set σ i j _ hiσ
  have oa : ∀ b, OA (σ.set i (some (V.ref a))) (L.set i (some (Sl.own d))) b → OA σ L b ∨ b = a := fun b ⟨j, d', h1, h2⟩ => by
    rw [eL] at h1
    rw [eσ] at h2
    by_cases hj : j = i
    · rw [if_pos hj] at h2
      cases h2
      exact .inr rfl
    · rw [if_neg hj] at h1 h2
      exact .inl ⟨j, d', h1, h2⟩
  have so : ∀ b, SO (BarP C fun b => b ∈ as) (σ.set i (some (.ref a))) (L.set i (some (.own d))) b → SO (BarP C fun b => b ∈ a :: as) σ L b := fun b z => by
    rcases z with (z | z) | z
    · exact .inl (.inl z)
    · exact .inl (.inr (List.mem_cons_of_mem _ z))
    · rcases oa b z with z | z
      · exact .inr z
      · rw [z]
        exact .inl (.inr List.mem_cons_self)
  refine ⟨⟨by rw [List.length_set, List.length_set, g.len], fun j d' h => ?_, fun j d' h => ?_, fun j k d' e a' h1 h2 h3 h4 => ?_, fun b z => g.dom b (so b z), fun b z => .inl (htn b z), fun b u e hs ht => ?_, g.edom⟩, so⟩
  · rw [eL] at h
    rw [eσ]
    by_cases hj : j = i
    · rw [if_pos hj] at h
      cases h
    · rw [if_neg hj] at h ⊢
      obtain ⟨v, h1, h2⟩ := g.val j d' h
      exact ⟨v, h1, rep_mono so h2⟩
  · rw [eL] at h
    rw [eσ]
    by_cases hj : j = i
    · rw [if_pos hj] at h ⊢
      cases h
      exact ⟨a, rfl, fun z => z.elim nb na, ownAt_mono so ho⟩
    · rw [if_neg hj] at h ⊢
      obtain ⟨q, h1, h2, h3⟩ := g.own j d' h
      exact ⟨q, h1, fun z => h2 (z.elim .inl fun z => .inr (List.mem_cons_of_mem _ z)), ownAt_mono so h3⟩
  · rw [eL] at h1 h2
    rw [eσ] at h3 h4
    by_cases hj : j = i
    · by_cases hk : k = i
      · rw [hj, hk]
      · exfalso
        rw [if_pos hj] at h3
        cases h3
        rw [if_neg hk] at h2 h4
        obtain ⟨q, z1, z2, _⟩ := g.own k e h2
        rw [h4] at z1
        cases z1
        exact z2 (.inr List.mem_cons_self)
    · by_cases hk : k = i
      · exfalso
        rw [if_pos hk] at h4
        cases h4
        rw [if_neg hj] at h1 h3
        obtain ⟨q, z1, z2, _⟩ := g.own j d' h1
        rw [h3] at z1
        cases z1
        exact z2 (.inr List.mem_cons_self)
      · rw [if_neg hj] at h1 h3
        rw [if_neg hk] at h2 h4
        exact g.inj j k d' e a' h1 h2 h3 h4
  · obtain ⟨h1, h2⟩ := g.ent b u e hs ht
    refine ⟨h1, fun z => ?_⟩
    rcases z with z | z
    · exact h2 (.inl z)
    · rcases oa b z with z | z
      · exact h2 (.inr z)
      · rw [z] at e
        rw [show C.H0 a = some u from e] at h0
        cases h0
/-- what stays but for the tape and the objects of slots -/
def Kp (C : Cd) (σ : L2.St) (L : Lcl) (H H' : Hp) : Prop := ∀ b o, H b = some o → ¬ TN C.G.T b → ¬ OA σ L b → ¬ isTbl o → H' b = some o
theorem Kp.trans {σ1 : L2.St} {L1 : Lcl} (p : Kp C σ L H H1) (q : Kp C σ1 L1 H1 H2) (h : ∀ b, OA σ1 L1 b → OA σ L b) : Kp C σ L H H2 := fun b o e ht hs hb => q b o (p b o e ht hs hb) ht (fun z => hs (h b z)) hb
/-- an object of a slot is changed in place -/
theorem Good.wr {i : Nat} {a : Addr} {d d' : D} {o : HO} (g : Good C σ H L) (e : L[i]? = some (some (.own d))) (es : σ[i]? = some (some (.ref a))) (ho : OwnAt C.w C.G (SO C σ L) (upd H a o) a d') :
    Good C σ (upd H a o) (L.set i (some (.own d'))) ∧ Pst (SO C σ L) H (SO C σ (L.set i (some (.own d')))) (upd H a o) ∧ Kp C σ L H (upd H a o) ∧ (∀ b, OA σ (L.set i (some (.own d'))) b → OA σ L b) ∧ ¬ C.B a := by
  have hi : i < L.length := by
    by_cases h : i < L.length
    · exact h
    · rw [List.getElem?_eq_none (by omega)] at e
      cases e
  obtain ⟨q, z1, nb, _⟩ := g.own i d e
  rw [es] at z1
  cases z1
  have hoa : OA σ L a := ⟨i, d, e, es⟩
  have eL : ∀ j, (L.set i (some (Sl.own d')))[j]? = if j = i then some (some (Sl.own d')) else L[j]? := fun j => getElem?_set L i j _ hi
  have oa : ∀ b, OA σ (L.set i (some (Sl.own d'))) b → OA σ L b := fun b ⟨j, d2, h1, h2⟩ => by
    rw [eL] at h1
    by_cases hj : j = i
    · subst hj
      exact ⟨j, d, e, h2⟩
    · rw [if_neg hj] at h1
      exact ⟨j, d2, h1, h2⟩
  have so : ∀ b, SO C σ (L.set i (some (.own d'))) b → SO C σ L b := fun b z => z.elim .inl fun z => .inr (oa b z)
  have pst : Pst (SO C σ L) H (SO C σ (L.set i (some (.own d')))) (upd H a o) := fun b u eb hs ht => ⟨(upd_ne fun z => hs (by rw [z]; exact .inr hoa)).trans eb, fun z => hs (so b z)⟩
  have kp : Kp C σ L H (upd H a o) := fun b u eb _ hs _ => (upd_ne fun z => hs (by rw [z]; exact hoa)).trans eb
  have dom : ∀ b, H b ≠ none → upd H a o b ≠ none := fun b hb => by
    by_cases z : b = a
    · rw [z, upd_same]; simp
    · rw [upd_ne z]; exact hb
  refine ⟨⟨by rw [List.length_set, g.len], fun j d2 h => ?_, fun j d2 h => ?_, fun j k d2 e2 a' h1 h2 h3 h4 => ?_, fun b z => dom b (g.dom b (so b z)), g.tn, fun b u eb hs ht => ?_, fun b hb => dom b (g.edom b hb)⟩, pst, kp, oa, nb⟩
  · rw [eL] at h
    by_cases hj : j = i
    · rw [if_pos hj] at h
      cases h
    · rw [if_neg hj] at h
      obtain ⟨v, h1, h2⟩ := g.val j d2 h
      exact ⟨v, h1, rep_pst pst h2⟩
  · rw [eL] at h
    by_cases hj : j = i
    · rw [if_pos hj] at h
      cases h
      subst hj
      exact ⟨a, es, nb, ownAt_mono so ho⟩
    · rw [if_neg hj] at h
      obtain ⟨q, h1, h2, h3⟩ := g.own j d2 h
      have nq : q ≠ a := fun z => hj (g.inj j i d2 d a h (by rw [e]) (by rw [h1, z]) es)
      refine ⟨q, h1, h2, ownAt_by (fun b u eb hs ht => ?_) (fun u eb _ => (upd_ne nq).trans eb) h3⟩
      obtain ⟨x1, x2⟩ := pst b u eb (fun z => hs (.inl z)) ht
      exact ⟨x1, fun z => z.elim x2 fun z => hs (.inr z)⟩
  · rw [eL] at h1 h2
    have f : ∀ j d2, (if j = i then some (some (Sl.own d')) else L[j]?) = some (some (Sl.own d2)) → ∃ d3, L[j]? = some (some (Sl.own d3)) := fun j d2 h => by
      by_cases hj : j = i
      · subst hj; exact ⟨d, e⟩
      · rw [if_neg hj] at h; exact ⟨d2, h⟩
    obtain ⟨d3, x1⟩ := f j d2 h1
    obtain ⟨d4, x2⟩ := f k e2 h2
    exact g.inj j k d3 d4 a' x1 x2 h3 h4
  · obtain ⟨h1, h2⟩ := g.ent b u eb hs ht
    exact ⟨(upd_ne fun z => h2 (by rw [z]; exact .inr hoa)).trans h1, fun z => h2 (z.elim .inl fun z => .inr (oa b z))⟩
/-- an own object frozen -/
theorem Good.frz (i : Nat) (g : Good C σ H L) : Good C σ H (frzL i L) ∧ Pst (SO C σ L) H (SO C σ (frzL i L)) H := by
  unfold frzL
  split
  · rename_i d e
    have hi : i < L.length := by
      by_cases h : i < L.length
      · exact h
      · rw [List.getElem?_eq_none (by omega)] at e
        cases e
    obtain ⟨a, h1, h2, h3⟩ := g.own i d e
    have hiσ : i < σ.length := by rw [g.len]; exact hi
    have eL : ∀ j, (L.set i (some (Sl.val d)))[j]? = if j = i then some (some (Sl.val d)) else L[j]? := fun j => getElem?_set L i j _ hi
    have oa : ∀ b, OA σ (L.set i (some (Sl.val d))) b → OA σ L b ∧ b ≠ a := fun b ⟨j, d2, x1, x2⟩ => by
      rw [eL] at x1
      by_cases hj : j = i
      · rw [if_pos hj] at x1; cases x1
      · rw [if_neg hj] at x1
        exact ⟨⟨j, d2, x1, x2⟩, fun z => hj (g.inj j i d2 d a x1 e (by rw [x2, z]) h1)⟩
    have so : ∀ b, SO C σ (L.set i (some (.val d))) b → SO C σ L b := fun b z => z.elim .inl fun z => .inr (oa b z).1
    have na : ¬ SO C σ (L.set i (some (.val d))) a := fun z => z.elim h2 fun z => (oa a z).2 rfl
    refine ⟨⟨by rw [List.length_set, g.len], fun j d2 h => ?_, fun j d2 h => ?_, fun j k d2 e2 a' x1 x2 x3 x4 => ?_, fun b z => g.dom b (so b z), g.tn, fun b u eb hs ht => ?_, g.edom⟩, fun b u eb hs ht => ⟨eb, fun z => hs (so b z)⟩⟩
    · rw [eL] at h
      by_cases hj : j = i
      · rw [if_pos hj] at h
        cases h
        subst hj
        exact ⟨.ref a, h1, h3.rep na so⟩
      · rw [if_neg hj] at h
        obtain ⟨v, x1, x2⟩ := g.val j d2 h
        exact ⟨v, x1, rep_mono so x2⟩
    · rw [eL] at h
      by_cases hj : j = i
      · rw [if_pos hj] at h
        cases h
      · rw [if_neg hj] at h
        obtain ⟨q, x1, x2, x3⟩ := g.own j d2 h
        exact ⟨q, x1, x2, ownAt_mono so x3⟩
    · rw [eL] at x1 x2
      by_cases hj : j = i
      · rw [if_pos hj] at x1; cases x1
      · by_cases hk : k = i
        · rw [if_pos hk] at x2; cases x2
        · rw [if_neg hj] at x1
          rw [if_neg hk] at x2
          exact g.inj j k d2 e2 a' x1 x2 x3 x4
    · obtain ⟨x1, x2⟩ := g.ent b u eb hs ht
      exact ⟨x1, fun z => x2 (z.elim .inl fun z => .inr (oa b z).1)⟩
  · exact ⟨g, Pst.refl⟩
/-! ### statements -/
/-- an expression in a statement -/
theorem postS_e {D0 : Ends} {m : Rs RV} {f : RV → Wd → Rs Fw} {R : VK} (g : Good C σ H L) (h : postS C D0 σ L H (m.bind f)) (k : ∀ x W1 v H1, m = .ok x W1 → PstE C.G H H1 → WR C.G H1 W1 → RVr C.w C.G C.B (SO C σ L) H H1 v x → postS C D0 σ L H (f x W1) → R v H1) :
    post C (SO C σ L) H (relV C (SO C σ L) H) m R := by
  cases m with
  | ok x W1 => exact fun v H' p wr rv => k x W1 v H' rfl p wr rv h
  | err x W1 => exact fun cls d H' p wr rx => h cls d H' (g.entE.trans p) wr (rx.back g.entE)
  | stk => exact h
theorem postS_t {D0 : Ends} {m : Rs Bool} {f : Bool → Wd → Rs Fw} {R : Bool → Hp → Prop} (g : Good C σ H L) (h : postS C D0 σ L H (m.bind f)) (k : ∀ x W1 H1, PstE C.G H H1 → WR C.G H1 W1 → postS C D0 σ L H (f x W1) → R x H1) :
    post C (SO C σ L) H relB m R := by
  cases m with
  | ok x W1 => exact fun v H' p wr rv => by cases rv; exact k _ W1 H' p wr h
  | err x W1 => exact fun cls d H' p wr rx => h cls d H' (g.entE.trans p) wr (rx.back g.entE)
  | stk => exact h
/-- the same from a later state -/
theorem postS_later {D0 : Ends} {r : Rs Fw} (p : Pst (SO C σ L) H (SO C σ' L') H1) (h : postS C D0 σ L H r) : postS C D0 σ' L' H1 r := by
  cases r with
  | ok f W1 =>
    cases f with
    | nx L2 => exact fun σ2 H2 q g wr => h σ2 H2 (p.trans q) g wr
    | bk L2 => exact fun σ2 H2 q g wr => h σ2 H2 (p.trans q) g wr
    | ct L2 => exact fun σ2 H2 q g wr => h σ2 H2 (p.trans q) g wr
    | rt r => exact h
  | err x W1 => exact h
  | stk => exact h
theorem s_ret (he : PE X a (tD C (semE Γ cf ea))) : PS X (.Return (some a) pos) (tS C (semS Γ cf (.ret ea))) := by
  refine ps_imp (ps_ret he) fun D0 σ H ⟨L, W, g, wr, h⟩ => ?_
  unfold semS at h
  exact ⟨L, W, g, wr, postS_e g h fun r W1 v H1 _ p1 wr1 rx h => h v H1 (g.entE.trans p1) wr1 (g.ret p1 rx)⟩
theorem s_expr (he : PE X a (tD C (semE Γ cf ea))) (hs : swapsWith a none pos.line X.env = pure false) : PS X (.Expr a pos) (tS C (semS Γ cf (.expr ea))) := by
  refine ps_imp (ps_expr he hs) fun D0 σ H ⟨L, W, g, wr, h⟩ => ?_
  unfold semS at h
  exact ⟨L, W, g, wr, postS_e g h fun r W1 v H1 _ p1 wr1 rx h => h σ H1 (pstE_to g.tnS p1) (g.pst p1) wr1⟩
theorem s_pass : PS X (.Pass pos) (tS C (semS Γ cf .pass)) := by
  refine ps_imp ps_pass fun D0 σ H ⟨L, W, g, wr, h⟩ => ?_
  unfold semS at h
  exact h σ H Pst.refl g wr
theorem ss_nil : PSs X [] (tS C (semSs Γ cf .nil)) := by
  refine pss_imp pss_nil fun D0 σ H ⟨L, W, g, wr, h⟩ => ?_
  unfold semSs at h
  exact h σ H Pst.refl g wr
theorem ss_cons {st : Stmt} {rest : List Stmt} {s : SX} {ss : SXs} (h1 : PS X st (tS C (semS Γ cf s))) (h2 : PSs X rest (tS C (semSs Γ cf ss))) : PSs X (st :: rest) (tS C (semSs Γ cf (.cons s ss))) := by
  refine pss_imp (pss_cons h1 h2) fun D0 σ H ⟨L, W, g, wr, h⟩ => ?_
  unfold semSs at h
  refine ⟨L, W, g, wr, ?_⟩
  cases e : semS Γ cf s L W with
  | ok f W1 =>
    rw [e] at h
    cases f with
    | nx L1 => exact fun σ1 H1 p1 g1 wr1 => ⟨L1, W1, g1, wr1, postS_later p1 h⟩
    | bk L1 => exact h
    | ct L1 => exact h
    | rt r => exact h
  | err x W1 => rw [e] at h; exact h
  | stk => rw [e] at h; exact h
theorem s_if {as bs : List Stmt} {sa sb : SXs} (ht : PT X c (tDt C (semT Γ cf ec))) (ha : PSs X as (tS C (semSs Γ cf sa))) (hb : PSs X bs (tS C (semSs Γ cf sb))) : PS X (.If c as bs pos) (tS C (semS Γ cf (.ite ec sa sb))) := by
  refine ps_imp (ps_if ht ha hb) fun D0 σ H ⟨L, W, g, wr, h⟩ => ?_
  unfold semS at h
  refine ⟨L, W, g, wr, postS_t g h fun k W1 H1 p1 wr1 h => ?_⟩
  cases k with
  | true => exact ⟨L, W1, g.pst p1, wr1, postS_later (pstE_to g.tnS p1) h⟩
  | false => exact ⟨L, W1, g.pst p1, wr1, postS_later (pstE_to g.tnS p1) h⟩
end
end Dl

set_option maxRecDepth 100000
set_option maxHeartbeats 4000000
/-! D13: chains of comparisons, attributes. -/
namespace Dl
open PySem PySem.Spec PyProof.Rows L2
section
variable {X : Cx} {C : Cd} {Γ : Tbl} {cf : CF} {w : World} {G : Gl0} {B S : Addr → Prop} {H H' H1 H2 : Hp} {σ σ' : L2.St} {L L' : Lcl} {v : V}
variable {a b c : Expr} {ea eb ec : EX} {pos : Pos}
theorem chn_ok {op op' : CmpOp} {r r' : R2} {Q : VK} {W : Wd} (hr : Serves C r (cmpR op)) (hr' : Serves C r' (cmpR op')) (g : Good C σ H L) (wr : WR C.G H W)
    (h : post C (SO C σ L) H (relV C (SO C σ L) H) (semE Γ cf (.chn op op' ea eb ec) L W) Q) : tChain r r' (tD C (semE Γ cf ea)) (tD C (semE Γ cf eb)) (tD C (semE Γ cf ec)) σ H Q := by
  unfold semE at h
  refine ⟨L, W, g, wr, post_bind h fun x W1 v H1 _ p1 wr1 rx h => ?_⟩
  refine ⟨L, W1, g.pst p1, wr1, post_bind (post_later p1 h) fun y W2 u H2 _ p2 wr2 ry h => ?_⟩
  have rx2 := rx.pst p2 g.tn g.tnS g.dom
  cases e : cmpD op x.1 y.1 with
  | none => rw [e] at h; exact h.elim
  | some kk =>
    rw [e] at h
    refine hr (SO C σ L) x.1 y.1 (.bl kk, .fr) v u H2 _ (by unfold cmpR; rw [e]; rfl) rx2.any ry.any fun z H3 s rz => ?_
    cases rz
    refine ⟨kk, rfl, ?_⟩
    have h : post C (SO C σ L) H1 (relV C (SO C σ L) H1) (if kk = true then (semE Γ cf ec L W2).bind fun z W4 => (Rs.of (cmpD op' y.1 z.1) W4).bind fun k W5 => .ok (.bl k, .fr) W5 else .ok (.bl false, .fr) W2) Q := h
    cases kk with
    | false =>
      rw [if_neg Bool.false_ne_true]
      rw [if_neg Bool.false_ne_true] at h
      exact h _ H3 (p2.trans (same_pst s)) (wr2.same s) (.bl _)
    | true =>
      rw [if_pos rfl]
      rw [if_pos rfl] at h
      have p3 : PstE C.G H1 H3 := p2.trans (same_pst s)
      refine ⟨L, W2, (g.pst p1).pst p3, wr2.same s, post_bind1 p3 h fun zz W4 t H4 _ p4 wr4 rt h => ?_⟩
      cases e' : cmpD op' y.1 zz.1 with
      | none => rw [e'] at h; exact h.elim
      | some k' =>
        rw [e'] at h
        have ry3 : Rep C.w C.G (fun _ => False) H3 u y.1 := rep_same s ry.any
        have ry4 : Rep C.w C.G (fun _ => False) H4 u y.1 := by
          have q := (ry.pst (H2 := H4) ((same_pst s).trans p4) g.tn g.tnS (dom_pst p1 g.dom))
          exact q.any
        exact hr' (SO C σ L) y.1 zz.1 (.bl k', .fr) u t H4 Q (by unfold cmpR; rw [e']; rfl) ry4 rt.any fun z' H5 s' rz' => h z' H5 ((p3.trans p4).trans (same_pst s')) (wr4.same s') rz'
theorem d_chn {op op' : CmpOp} {r r' : R2} (ho : OpR X (compareOp op) r) (hr : Serves C r (cmpR op)) (ho' : OpR X (compareOp op') r') (hr' : Serves C r' (cmpR op')) (ha : PE X a (tD C (semE Γ cf ea))) (hb : PE X b (tD C (semE Γ cf eb))) (hc : PE X c (tD C (semE Γ cf ec))) (hm : lastMarks [op, op'] [b, c] = false) :
    PE X (.Compare a [op, op'] [b, c] pos) (tD C (semE Γ cf (.chn op op' ea eb ec))) := by
  refine pe_imp (pe_chain ho ho' ha hb hc hm) fun σ H Q ⟨L, W, g, wr, h⟩ => chn_ok hr hr' g wr h
theorem dt_chn {op op' : CmpOp} {r r' : R2} (ho : OpR X (compareOp op) r) (hr : Serves C r (cmpR op)) (ho' : OpR X (compareOp op') r') (hr' : Serves C r' (cmpR op')) (ha : PE X a (tD C (semE Γ cf ea))) (hb : PE X b (tD C (semE Γ cf eb))) (hc : PE X c (tD C (semE Γ cf ec))) (hm : lastMarks [op, op'] [b, c] = false) :
    PT X (.Compare a [op, op'] [b, c] pos) (tDt C (semT Γ cf (.chn op op' ea eb ec))) := by
  refine pt_imp (pt_chain ho ho' ha hb hc hm) fun σ H Q ⟨L, W, g, wr, h⟩ => ?_
  unfold semT at h
  have h2 := tru_bind (f := fun b W => Rs.ok b W) (rel' := relB) (Q := Q) (R := Q) (by
    show post C (SO C σ L) H relB (((semE Γ cf (.chn op op' ea eb ec) L W).tru).bind fun b W => Rs.ok b W) Q
    cases e : (semE Γ cf (.chn op op' ea eb ec) L W).tru <;> (rw [e] at h; exact h)) fun b W1 H1 p1 wr1 h => h b H1 p1 wr1 rfl
  exact chn_ok hr hr' g wr h2

/-! ### attributes -/
theorem RVr.ins {c : Nat} {ds : List (Str × D)} {f : Fl} (h : RVr w G B S H H' v (.ins c ds, f)) : ∃ a dx fs, v = .ref a ∧ H' a = some (.ins (G.cls c) dx fs) ∧ RepF w G S H' fs ds := by
  cases f with
  | fr =>
    cases h with
    | ins h1 h2 h3 => exact ⟨_, _, _, rfl, h2, h3⟩
  | own =>
    obtain ⟨a, rfl, _, dx, fs, h1, h2⟩ := h
    exact ⟨a, dx, fs, rfl, h1, repF_mono (fun b z => .inl z) h2⟩
  | ali =>
    obtain ⟨a, rfl, _, _, dx, fs, h1, h2⟩ := h
    exact ⟨a, dx, fs, rfl, h1, repF_mono (fun b z => .inl z) h2⟩
theorem RepF.look {x : Str} {d : D} : ∀ {fs : List (Str × V)} {ds : List (Str × D)}, RepF w G S H fs ds → ds.lookup x = some d → ∃ v, fs.lookup x = some v ∧ Rep w G S H v d
  | _, _, .nil, e => by cases e
  | _, _, @RepF.cons _ _ _ _ n y d' xs ds h t, e => by
    rw [List.lookup_cons] at e ⊢
    cases q : x == n with
    | true => rw [q] at e; cases e; exact ⟨y, rfl, h⟩
    | false => rw [q] at e; exact t.look e
/-- an error as a value -/
theorem RVr.exc {c : Nat} {ds : List (Str × D)} {f : Fl} (h : RVr w G B S H H' v (.exc c ds, f)) : Rep w G S H' v (.exc c ds) := by
  cases f with
  | fr => exact h
  | own => obtain ⟨a, rfl, _, h⟩ := h; exact h.elim
  | ali => obtain ⟨a, rfl, _, _, h⟩ := h; exact h.elim
/-- e.f: a field, a property -/
theorem d_fld {CX : CXT} {G0 : Gl0} {k : Nat} {x : Str} (hK : X.K = C.G.K) (kf : KF X.K C.G.cls Γ) (icl : ∀ c, Γ.isIns c = true → Cls X.K (C.G.cls c)) (fld : ∀ c x, Γ.isIns c = true → Γ.fld c x = true → NoAttr X.K (C.G.cls c) x)
    (prop : ∀ c x g, Γ.prop c x = some g → Γ.isIns c = true ∧ ∃ p fa fd, PropOf X.K (C.G.cls c) x p fa ∧ Binds X.K fd ["self"] [] ∧ FnOk X.prog X.w X.K X.mg X.base CX k fa fd ["self"] (spF C.w G0 (cf g)))
    (exd : ∀ c, Γ.isExc c = true → PySem.W.hasDictIn X.K (C.G.cls c) = true) (exf : ∀ c x, Γ.isExc c = true → Γ.fld c x = true → PySem.W.findIn X.K (.ref (C.G.cls c)) x = some none) (hG : C.G = { G0 with T := C.G.T }) (hr : Room (k + 1) X.A) (hx0 : ∀ Y : Cx, Y.prog = X.prog → Y.w = X.w → Passes CX Y E0)
    (ha : PE X a (tD C (semE Γ cf ea))) (hb : attributeBase a x X.env (eval a X.env) = eval a X.env) : PE X (.Attribute a x pos) (tD C (semE Γ cf (.fld ea x))) := by
  refine ⟨fun pins s σ H Q I ⟨L, W, g, wr, h⟩ => ?_⟩
  unfold semE at h
  have hq : tD C (semE Γ cf ea) σ H fun v H1 => ∀ s1 u, L2.Inv X pins σ H1 s1 → RelV v u → wpAny (model X.prog X.w) X.A (getAttr u x true) (EP X pins σ Q) X.xe s1 := by
    refine ⟨L, W, g, wr, post_bind h fun r W1 v H1 _ p1 wr1 rr h s1 u I1 ru => ?_⟩
    obtain ⟨d, f⟩ := r
    cases d with
    | ins c ds =>
      have h : post C (SO C σ L) H (relV C (SO C σ L) H) (if (Γ.isIns c && Γ.fld c x) = true then (Rs.of (ds.lookup x) W1).bind fun d W2 => .ok (d, .fr) W2 else match Γ.prop c x with
        | some g => (cf g [.ins c ds] W1).noerr.bind fun d W2 => if (isScal d || notAli f) = true then .ok (d, .fr) W2 else .stk
        | none => .stk) Q := h
      obtain ⟨a, dx, fs, rfl, h1, h2⟩ := rr.ins
      obtain rfl : u = Value.ref a := ru
      by_cases hf : (Γ.isIns c && Γ.fld c x) = true
      · rw [if_pos hf] at h
        obtain ⟨hi, hf⟩ := Bool.and_eq_true_iff.mp hf
        cases e : ds.lookup x with
        | none => rw [e] at h; exact h.elim
        | some d =>
          rw [e] at h
          obtain ⟨y, e1, e2⟩ := h2.look e
          exact getattr_ok I1 h1 (icl c hi) (fld c x hi hf) e1 fun u s2 I2 ru => ⟨y, H1, I2, ru, h _ H1 p1 wr1 e2⟩
      · rw [if_neg hf] at h
        cases e : Γ.prop c x with
        | none => rw [e] at h; exact h.elim
        | some gi =>
          rw [e] at h
          obtain ⟨hi, p, fa, fd, q1, q2, q3⟩ := prop c x gi e
          have h : post C (SO C σ L) H (relV C (SO C σ L) H) ((cf gi [.ins c ds] W1).noerr.bind fun d W2 => if (isScal d || notAli f) = true then .ok (d, .fr) W2 else .stk) Q := h
          cases ec : cf gi [.ins c ds] W1 with
          | err y W2 => rw [ec] at h; exact h.elim
          | stk => rw [ec] at h; exact h.elim
          | ok d W2 =>
            rw [ec] at h
            have h : post C (SO C σ L) H (relV C (SO C σ L) H) (if (isScal d || notAli f) = true then .ok (d, .fr) W2 else .stk) Q := h
            have hrd : Room k X.A := hr.mono (Nat.le_succ k)
            -- the forbidden set for the getter
            have run : ∀ (B : Addr → Prop), (∀ b, TN C.G.T b → B b) → (∀ b, B b → H1 b ≠ none) → Rep C.w C.G B H1 (.ref a) (.ins c ds) → (∀ v H2, PstE C.G H1 H2 → WR C.G H2 W2 → Rep C.w C.G B H2 v d → Q v H2) → wpAny (model X.prog X.w) X.A (getAttr (.ref a) x true) (EP X pins σ Q) X.xe s1 := fun B t1 t2 rp kk => by
              refine getprop_ok (E := E0) (E' := X.xe) I1 h1 (icl c hi) q1 q3 hr q2 .nil (hx0 _ rfl rfl) ⟨C.G.T, B, [.ins c ds], W1, t1, t2, by rw [← hG]; exact .cons rp .nil, by rw [← hG]; exact wr1, ?_⟩
              rw [ec, ← hG]
              exact fun v H2 p2 wr2 rv => kk v H2 p2 wr2 rv
            by_cases hs : (isScal d || notAli f) = true
            · rw [if_pos hs] at h
              cases hsd : isScal d with
              | true => exact run (TN C.G.T) (fun _ z => z) (fun b z => dom_pst p1 g.dom b (g.tnS b z)) (rr.tn g.tn g.tnS g.dom) fun v H2 p2 wr2 rv => h v H2 (p1.trans p2) wr2 (Rep.scal rv hsd)
              | false =>
                rw [hsd] at hs
                refine run (SO C σ L) g.tnS (dom_pst p1 g.dom) (rr.rep g.dom ?_) fun v H2 p2 wr2 rv => h v H2 (p1.trans p2) wr2 rv
                cases f <;> first | trivial | cases hs
            · rw [if_neg hs] at h
              exact h.elim
    | exc c ds =>
      have h : post C (SO C σ L) H (relV C (SO C σ L) H) (if (Γ.isExc c && Γ.fld c x) = true then (Rs.of (ds.lookup x) W1).bind fun d W2 => .ok (d, .fr) W2 else .stk) Q := h
      by_cases hf : (Γ.isExc c && Γ.fld c x) = true
      · rw [if_pos hf] at h
        obtain ⟨hi, hf⟩ := Bool.and_eq_true_iff.mp hf
        cases e : ds.lookup x with
        | none => rw [e] at h; exact h.elim
        | some d =>
          rw [e] at h
          have rr := rr.exc
          obtain ⟨a, od, fs, rfl, h1, h2, h3, h4⟩ : ∃ a od fs, v = .ref a ∧ H1 a = some (ExcO a (.ref (C.G.cls c)) od) ∧ (od = none → fs = []) ∧ (∀ d, od = some d → H1 d = some (.xd fs)) ∧ RepF C.w C.G (SO C σ L) H1 fs ds := by
            cases rr with
            | exc a1 a2 a3 a4 a5 => exact ⟨_, _, _, rfl, a2, a3, fun d e => (a4 d e).2, a5⟩
          obtain rfl : u = Value.ref a := ru
          obtain ⟨y, e1, e2⟩ := h4.look e
          cases od with
          | none =>
            rw [h2 rfl] at e1
            cases e1
          | some dd =>
            obtain ⟨⟨oe, vs, g1, g2, g3⟩, _⟩ := (show ObjOk X.prog X.w H1 s1.heap a (ExcO a (.ref (C.G.cls c)) (some dd)) from I1.hok a _ h1)
            obtain ⟨mA, hns, hr'⟩ := (show ObjOk X.prog X.w H1 s1.heap dd (.xd fs) from I1.hok dd _ (h3 dd rfl))
            obtain ⟨o2, ho, hl⟩ := lookIn_ns hns
            obtain ⟨u', hu, ru'⟩ := RelO.some_of (v := y) (o := mA x) (by rw [← e1]; exact hr' x)
            have J : PySem.W.InstAt s1.heap a oe (C.G.cls c) (some o2) := ⟨g1, g2.1, by unfold PySem.W.notCls; rw [g3] <;> rfl, by rw [g2.2]; exact ho⟩
            obtain ⟨k1, k2, k3, k4⟩ := kf.exc c hi
            exact HandSPX.exc_get I1.kIn J k2 k3 k4 (PySem.W.findObj_own (exd c hi) (exf c x hi hf) rfl (by rw [hl, hu])) (handed_of ru') ⟨y, H1, I1.tok _, ru', h _ H1 p1 wr1 e2⟩
      · rw [if_neg hf] at h
        exact h.elim
    | _ => exact h.elim
  refine attr_of hb (thn (ha.run pins s σ H _ I hq) fun u s1 ⟨v, H1, I1, rv, q⟩ => q s1 u I1 rv)
end
end Dl

set_option maxRecDepth 100000
set_option maxHeartbeats 4000000
/-! D14: targets, stores, changes in place. -/
namespace Dl
open PySem PySem.Spec PyProof.Rows L2
section
variable {X : Cx} {C : Cd} {Γ : Tbl} {cf : CF} {w : World} {G : Gl0} {B S : Addr → Prop} {H H' H1 H2 : Hp} {σ σ' : L2.St} {L L' : Lcl} {v : V}
variable {a b c : Expr} {ea eb ec : EX} {pos : Pos}
theorem RepL.set : ∀ {xs : List V} {ds : List D} {x : V} {d : D} (i : Nat), RepL w G S H xs ds → Rep w G S H x d → RepL w G S H (xs.set i x) (ds.set i d)
  | _, _, _, _, _, .nil, _ => .nil
  | _, _, _, _, 0, .cons _ t, r => .cons r t
  | _, _, _, _, i + 1, .cons h t, r => .cons h (RepL.set i t r)
/-- a change at a barred address is not seen -/
theorem pst_upd {q : Addr} {o : HO} (hs : S q) : Pst S H S (upd H q o) := fun b u e h _ => ⟨(upd_ne fun z => h (by rw [z]; exact hs)).trans e, h⟩
theorem plus_of {q : Addr} (hs : S q) : ∀ b, Plus S q b → S b := fun b z => z.elim id fun z => by rw [z]; exact hs
/-- o[i] = v by data, the object one's own -/
def rStore (C : Cd) : TSet := fun o i v H Q => ∃ (q : Addr) (S : Addr → Prop) (d k e d' : D), o = .ref q ∧ S q ∧ OwnAt C.w C.G S H q d ∧ Rep C.w C.G (fun _ => False) H i k ∧ Rep C.w C.G S H v e ∧ storeD d k e = some d' ∧ ∀ ob, OwnAt C.w C.G S (upd H q ob) q d' → Q (upd H q ob)
theorem rawO_ok {P : Program} {w : World} {H : Hp} {h : Heap} {q : Addr} {o : Obj} (e : h.get? q = some o) : ObjOk P w H h q (RawO q o) := ⟨e, ⟨o, e⟩, fun h1 h2 x st => st _ x⟩
theorem MX.length : ∀ {xs : List (Key × Value)} {kvs : List (D × D)}, MX w G S H xs kvs → xs.length = kvs.length
  | _, _, .nil => rfl
  | _, _, .cons _ t => by rw [List.length_cons, List.length_cons, MX.length t]
theorem MX.pst {S' : Addr → Prop} (p : Pst S H S' H') : ∀ {xs : List (Key × Value)} {kvs : List (D × D)}, MX w G S H xs kvs → MX w G S' H' xs kvs
  | _, _, .nil => .nil
  | _, _, .cons ⟨m1, y, m2, m3⟩ t => .cons ⟨m1, y, m2, rep_pst p m3⟩ (MX.pst p t)
theorem set_store (hK : X.K = C.G.K) (hw : C.w = X.w) : PSet X (rStore C) := by
  intro pins s σ H o i v ov iv u Q I ro ri rv h
  obtain ⟨q, S, d, k, e, d', rfl, hs, ho, rk, re, hd, hq⟩ := h
  cases d with
  | lst ds =>
    obtain ⟨xs, h1, h2⟩ := ho
    cases k with
    | int ki =>
      cases rk
      have hd : (ixN ds.length ki).map (fun j => D.lst (ds.set j e)) = some d' := hd
      cases hj : ixN ds.length ki with
      | none => rw [hj] at hd; cases hd
      | some j =>
        rw [hj] at hd
        cases hd
        have re' : Rep C.w C.G (Plus S q) H v e := rep_mono (plus_of hs) re
        refine set_list pins s σ H (.ref q) (.int ki) v ov iv u Q I ro ri rv ⟨q, xs, ki, j, rfl, rfl, h1, by rw [h2.len]; exact hj, hq _ ⟨_, upd_same, repL_pst (pst_upd (.inr rfl)) (h2.set j re')⟩⟩
    | _ => cases hd
  | dct kvs =>
    obtain ⟨ob, es, ep, h1, h2, h3, h4, h5, h6⟩ := ho
    have hd : (dctPut kvs k e).map D.dct = some d' := hd
    unfold dctPut at hd
    split at hd
    · rename_i hh
      cases hd
      rw [Bool.and_eq_true] at hh
      obtain ⟨⟨lk, e1⟩, hl⟩ := keysOk_ok hh.1
      have hz : kvs.length ≤ sizeLine := by simpa using hh.2
      cases (show ov = Value.ref q from ro)
      have hg := (show ObjOk X.prog X.w H s.heap q (RawO q ob) from I.hok q _ h1).1
      obtain ⟨xs, m, dd⟩ := mix_dict (P := X.prog) hg h2 h3 h5 h6 hl
      have re' : Rep C.w C.G (Plus S q) H v e := rep_mono (plus_of hs) re
      have dd' : s.heap.DictOf (mixKind X.prog X.w) q xs := by rw [← hw]; exact dd
      refine wpAny_setItem_pairs (hsz := by rw [m.length]; exact hz) (mix_is e1 rk ri) dd' fun h' dd2 hsb => ?_
      have dd3 : h'.DictOf (mixKind X.prog C.w) q (stored xs lk u) := by rw [hw]; exact dd2
      obtain ⟨ob', es', ep', g1, g2, g3, g4, g5⟩ := mix_undict (mx_put e1 rv re' m) dd3
      refine ⟨upd H q (RawO q ob'), d_write I (by rw [h1]; exact True.intro) hsb ⟨_, g1⟩ (rawO_ok g1), hq _ ⟨ob', es', ep', upd_same, g2, g3, h4, repE_pst (pst_upd (.inr rfl)) g4, g5⟩⟩
    · cases hd
  | _ => cases hd
mutual
def TP.sl : TP → List Nat
  | .nm i => [i]
  | .sub _ _ => []
  | .tu ts => ts.sl
def TPs.sl : TPs → List Nat
  | .nil => []
  | .cons t ts => t.sl ++ ts.sl
end
mutual
def TP.pu : TP → Bool
  | .nm _ => true
  | .sub _ _ => false
  | .tu ts => ts.pu
def TPs.pu : TPs → Bool
  | .nil => true
  | .cons t ts => t.pu && ts.pu
end
abbrev TP.ip (t : TP) : List Nat × Bool := (t.sl, t.pu)
abbrev TPs.ip (t : TPs) : List Nat × Bool := (t.sl, t.pu)
/-- behind an assignment to a target -/
def postL (C : Cd) (σ : L2.St) (L : Lcl) (H : Hp) (is : List Nat × Bool) (r : Rs Lcl) (Q : L2.St → Hp → Prop) : Prop := match r with
  | .ok L' W' => ∀ σ' H', Pst (SO C σ L) H (SO C σ' L') H' → Kp C σ L H H' → (∀ b, OA σ' L' b → OA σ L b) → (∀ j, j ∉ is.1 → σ'[j]? = σ[j]?) → (is.2 = true → PstE C.G H H') → Good C σ' H' L' → WR C.G H' W' → Q σ' H'
  | .err x W' => ∀ cls d H', PstE C.G C.H0 H' → WR C.G H' W' → ExR C.w C.G C.H0 H' cls d x → C.E cls d H'
  | .stk => False
def gF (C : Cd) (is : List Nat × Bool) (m : RV → Lcl → Wd → Rs Lcl) : TG := fun v σ H Q => ∃ L W d, Good C σ H L ∧ WR C.G H W ∧ Rep C.w C.G (SO C σ L) H v d ∧ postL C σ L H is (m (d, .fr) L W) Q
def gFs (C : Cd) (is : List Nat × Bool) (m : List D → Lcl → Wd → Rs Lcl) : TGs := fun vs σ H Q => ∃ L W ds, Good C σ H L ∧ WR C.G H W ∧ RepL C.w C.G (SO C σ L) H vs ds ∧ postL C σ L H is (m ds L W) Q
theorem pg_imp {t : Expr} {g g' : TG} (h : PG X t g) (hi : ∀ v σ H Q, g' v σ H Q → g v σ H Q) : PG X t g' := ⟨fun pins s σ H v u Q I r q => h.run pins s σ H v u Q I r (hi _ _ _ _ q)⟩
theorem pgs_imp {t : List Expr} {g g' : TGs} (h : PGs X t g) (hi : ∀ v σ H Q, g' v σ H Q → g v σ H Q) : PGs X t g' := ⟨fun pins s σ H v u Q I r q => h.run pins s σ H v u Q I r (hi _ _ _ _ q)⟩
theorem Good.none_H0 (g : Good C σ H L) {q : Addr} (n : H q = none) : C.H0 q = none := by
  cases e : C.H0 q with
  | none => rfl
  | some o => exact absurd n (g.edom q (by rw [e]; simp))
theorem ps_pst {H0 : Hp} (p : PstE G H0 H) : Pst (TN G.T) H0 (TN G.T) H := p.1
theorem isOwn_ok {i : Nat} (h : isOwn L i = true) : ∃ d, L[i]? = some (some (.own d)) := by
  unfold isOwn at h
  split at h
  · rename_i d e; exact ⟨d, e⟩
  · cases h
theorem g_nm {i : Nat} {x : Str} (hN : X.N.Nodup) (hi : X.N[i]? = some x) (hx : L2.Loc X.env.scope x) (hf : X.fn x = true ∨ X.env.scope.names.lookup x = some .local) : PG X (.Name x pos) (gF C (TP.nm i).ip (asgT Γ cf (.nm i))) := by
  refine pg_imp (pg_name hN hi hx hf) fun v σ H Q ⟨L, W, d, g, wr, rv, h⟩ => ?_
  unfold asgT setSl slOf at h
  simp only [Rs.of_some, Rs.bind_ok] at h
  by_cases hl : i < L.length
  · rw [if_pos hl] at h
    obtain ⟨g', pst⟩ := g.slot (x := some v) (o := some (.val d)) PstE.refl hl ⟨v, rfl, rv⟩
    refine h _ H pst (fun b o e _ _ _ => e) (fun b ⟨j, d2, x1, x2⟩ => ?_) (fun j hj => ?_) (fun _ => PstE.refl) g' wr
    · rw [getElem?_set _ _ _ _ hl] at x1
      rw [getElem?_set _ _ _ _ (by rw [g.len]; exact hl)] at x2
      by_cases hj : j = i
      · rw [if_pos hj] at x1; cases x1
      · rw [if_neg hj] at x1 x2
        exact ⟨j, d2, x1, x2⟩
    · rw [getElem?_set _ _ _ _ (by rw [g.len]; exact hl), if_neg (fun z => hj (by rw [z]; unfold TP.ip TP.sl; simp))]
  · rw [if_neg hl] at h
    exact h.elim
/-- an expression in a target -/
theorem postL_e {α β : Type} {rel : Hp → β → α → Prop} {is : List Nat × Bool} {m : Rs α} {f : α → Wd → Rs Lcl} {Q : L2.St → Hp → Prop} {R : β → Hp → Prop} (g : Good C σ H L) (h : postL C σ L H is (m.bind f) Q) (k : ∀ x W1 v H1, m = .ok x W1 → PstE C.G H H1 → WR C.G H1 W1 → rel H1 v x → postL C σ L H is (f x W1) Q → R v H1) :
    post C (SO C σ L) H rel m R := by
  cases m with
  | ok x W1 => exact fun v H' p wr rv => k x W1 v H' rfl p wr rv h
  | err x W1 => exact fun cls d H' p wr rx => h cls d H' (g.entE.trans p) wr (rx.back g.entE)
  | stk => exact h
theorem plainAsg {i o : Expr} {env : Env} (h : PlainIx i) (hi : ∀ l u s p, i ≠ .Slice l u s p) : ∀ v, assign (.Subscript o i pos) env v = (do
      let ov ← holding [v] (eval o env)
      let iv ← holding [v, ov] (eval i env)
      standAt pos
      holding [v, ov, iv] (setItem ov iv v)
      release [v, ov, iv] []) := by
  intro v
  cases i <;> first | rfl | exact absurd rfl (hi _ _ _ _)
theorem g_sub {i : Nat} {x : Str} {k : Expr} {ek : EX} {px : Pos} (hK : X.K = C.G.K) (hw : C.w = X.w) (hi : X.N[i]? = some x) (hv : Vis X.env.scope x) (hd : (x == ("__debug__" : Str)) = false) (hcd : (x == ("__classdict__" : Str)) = false) (hk : PE X k (tD C (semE Γ cf ek))) (hpl : PlainIx k) (hns : ∀ l u s p, k ≠ .Slice l u s p) :
    PG X (.Subscript (.Name x px) k pos) (gF C (TP.sub i ek).ip (asgT Γ cf (.sub i ek))) := by
  refine pg_imp (pg_sub (pe_var hi hv hd hcd) hk (set_store hK hw) (plainAsg hpl hns)) fun v σ H Q ⟨L, W, d, g, wr, rv, h⟩ => ?_
  unfold asgT at h
  split at h
  · rename_i hown
    obtain ⟨dd, e⟩ := isOwn_ok (Bool.and_eq_true_iff.mp hown).1
    obtain ⟨q, es, _, how⟩ := g.own i dd e
    refine ⟨.ref q, es, ⟨L, W, g, wr, postL_e (rel := relV C (SO C σ L) H) g h fun x W1 u H1 _ p1 wr1 rx h => ?_⟩⟩
    have g1 := g.pst p1
    have ho1 := ownAt_pst p1 g.tnS (fun z => by obtain ⟨q', z1, z2, _⟩ := g.own i dd e; rw [es] at z1; cases z1; exact z2 (g.tn q z)) how
    unfold storeSl at h
    rw [e] at h
    have h : postL C σ L H (TP.sub i ek).ip ((Rs.of (storeD dd x.1 d) W1).bind fun d' W1 => .ok (L.set i (some (.own d'))) W1) Q := h
    cases hst : storeD dd x.1 d with
    | none => rw [hst] at h; exact h.elim
    | some d' =>
      rw [hst] at h
      refine ⟨q, SO C σ L, dd, x.1, d, d', rfl, .inr ⟨i, dd, e, es⟩, ho1, rx.any, rep_pst (pstE_to g.tnS p1) rv, hst, fun ob how' => ?_⟩
      obtain ⟨g2, pst, kp, oa, nb⟩ := g1.wr e es how'
      refine h σ _ ((pstE_to g.tnS p1).trans pst) (fun b o eb ht hs hb => ?_) oa (fun _ _ => rfl) (fun z => by cases z) g2 (wr1.upd (fun z => nb (g.tn q z)) (ownAt_kind ho1))
      exact kp b o ((p1.1 b o eb ht hb).1) ht hs hb
  · exact h.elim
def notSl : Expr → Bool
  | .Slice _ _ _ _ => false
  | _ => true
/-! ### tuples of targets -/
def noStars : List Expr → Bool
  | [] => true
  | e :: es => (match e with | .Starred _ _ => false | _ => true) && noStars es
theorem each_cons {e : Expr} {es : List Expr} {env : Env} (h : noStars (e :: es) = true) : assignEach (e :: es) env = (false, assign e env) :: assignEach es env := by
  cases e <;> first | rfl | cases h
theorem noStars_tl {e : Expr} {es : List Expr} (h : noStars (e :: es) = true) : noStars es = true := by
  unfold noStars at h
  rw [Bool.and_eq_true] at h
  exact h.2
theorem each_len {env : Env} : ∀ {es : List Expr}, noStars es = true → (assignEach es env).length = es.length ∧ (assignEach es env).findIdx? (·.1) = none
  | [], _ => ⟨rfl, rfl⟩
  | e :: es, h => by
    obtain ⟨h1, h2⟩ := each_len (env := env) (noStars_tl h)
    rw [each_cons h]
    refine ⟨by rw [List.length_cons, List.length_cons, h1], ?_⟩
    rw [List.findIdx?_cons, h2]
    rfl
theorem gs_nil : PGs X [] (gFs C TPs.nil.ip (asgD Γ cf .nil)) := by
  refine pgs_imp pgs_nil fun vs σ H Q ⟨L, W, ds, g, wr, rl, h⟩ => ?_
  cases rl with
  | nil =>
    unfold asgD at h
    exact ⟨rfl, h σ H Pst.refl (fun _ _ e _ _ _ => e) (fun _ z => z) (fun _ _ => rfl) (fun _ => PstE.refl) g wr⟩
  | cons _ _ => unfold asgD at h; exact h.elim
theorem postL_then {is1 is2 : List Nat × Bool} {m : Rs Lcl} {f : Lcl → Wd → Rs Lcl} {Q : L2.St → Hp → Prop} {R : L2.St → Hp → Prop} (h : postL C σ L H (is1.1 ++ is2.1, is1.2 && is2.2) (m.bind f) Q)
    (k : ∀ σ1 H1 L1 W1, Pst (SO C σ L) H (SO C σ1 L1) H1 → Good C σ1 H1 L1 → WR C.G H1 W1 → postL C σ1 L1 H1 is2 (f L1 W1) Q → R σ1 H1) : postL C σ L H is1 m R := by
  cases m with
  | ok L1 W1 =>
    intro σ1 H1 p1 kp1 oa1 sl1 pu1 g1 wr1
    refine k σ1 H1 L1 W1 p1 g1 wr1 ?_
    have h : postL C σ L H (is1.1 ++ is2.1, is1.2 && is2.2) (f L1 W1) Q := h
    cases e : f L1 W1 with
    | ok L2 W2 =>
      rw [e] at h
      exact fun σ2 H2 p2 kp2 oa2 sl2 pu2 g2 wr2 => h σ2 H2 (p1.trans p2) (kp1.trans kp2 oa1) (fun b z => oa1 b (oa2 b z)) (fun j hj => (sl2 j fun z => hj (List.mem_append_right _ z)).trans (sl1 j fun z => hj (List.mem_append_left _ z))) (fun z => let z := Bool.and_eq_true_iff.mp z; (pu1 z.1).trans (pu2 z.2)) g2 wr2
    | err x W2 => rw [e] at h; exact h
    | stk => rw [e] at h; exact h
  | err x W1 => exact h
  | stk => exact h
theorem gs_cons {e : Expr} {es : List Expr} {t : TP} {ts : TPs} (h1 : PG X e (gF C t.ip (asgT Γ cf t))) (h2 : PGs X es (gFs C ts.ip (asgD Γ cf ts))) (hs : noStars (e :: es) = true) : PGs X (e :: es) (gFs C (TPs.cons t ts).ip (asgD Γ cf (.cons t ts))) := by
  refine pgs_imp (pgs_cons h1 h2 (by rw [each_cons hs]; rfl)) fun vs σ H Q ⟨L, W, ds, g, wr, rl, h⟩ => ?_
  cases rl with
  | nil => unfold asgD at h; exact h.elim
  | @cons v d vs ds r rl =>
    unfold asgD at h
    have h : postL C σ L H (t.ip.1 ++ ts.ip.1, t.ip.2 && ts.ip.2) ((asgT Γ cf t (d, .fr) L W).bind fun L1 W1 => asgD Γ cf ts ds L1 W1) Q := h
    exact ⟨v, vs, rfl, L, W, d, g, wr, r, postL_then h fun σ1 H1 L1 W1 p1 g1 wr1 h => ⟨L1, W1, ds, g1, wr1, repL_pst p1 rl, h⟩⟩
theorem g_tu {es : List Expr} {k : Nat} {ts : TPs} (hc : X.calm = true) (hK : X.K = C.G.K) (h : PGs X es (gFs C ts.ip (asgD Γ cf ts))) (hs : noStars es = true) (hl : ts.len = es.length) : PG X (.Tuple es k pos) (gF C (TP.tu ts).ip (asgT Γ cf (.tu ts))) := by
  obtain ⟨l1, l2⟩ := each_len (env := X.env) hs
  refine pg_imp (pg_tup (n := es.length) hc h l1 l2) fun v σ H Q ⟨L, W, d, g, wr, rv, h⟩ => ?_
  unfold asgT at h
  cases d with
  | tup ds =>
    have h : postL C σ L H ts.ip (if ds.length = ts.len then asgD Γ cf ts ds L W else .stk) Q := h
    by_cases e : ds.length = ts.len
    · rw [if_pos e] at h
      rw [hl] at e
      cases rv with
      | tup h1 h2 h3 => exact ⟨_, _, rfl, .of h2, by rw [h3.len]; exact e, L, W, ds, g, wr, h3, h⟩
      | tupK h2 h3 => exact ⟨_, _, rfl, .inr (by rw [hK]; exact h2), by rw [h3.len]; exact e, L, W, ds, g, wr, h3, h⟩
    · rw [if_neg e] at h
      exact h.elim
  | _ => exact h.elim
/-! ### several values at once -/
/-- the values: as the new objects among them, barred so far -/
inductive RVx (C : Cd) (S : Addr → Prop) (H : Hp) : List Addr → List V → List RV → Prop
  | nil : RVx C S H [] [] []
  | own {a : Addr} {as : List Addr} {d : D} {vs : List V} {rs : List RV} : a ∉ as → ¬ C.B a → C.H0 a = none → S a → OwnAt C.w C.G S H a d → RVx C S H as vs rs → RVx C S H (a :: as) (.ref a :: vs) ((d, .own) :: rs)
  | fr {as : List Addr} {v : V} {d : D} {vs : List V} {rs : List RV} : Rep C.w C.G S H v d → RVx C S H as vs rs → RVx C S H as (v :: vs) ((d, .fr) :: rs)
  | ali {as : List Addr} {v : V} {d : D} {vs : List V} {rs : List RV} : RVx C S H as vs rs → RVx C S H as (v :: vs) ((d, .ali) :: rs)
theorem RVx.keep {as : List Addr} {vs : List V} {rs : List RV} (p : Pst S H S H') (hb : ∀ a o, a ∈ as → H a = some o → ¬ isTbl o → H' a = some o) (h : RVx C S H as vs rs) : RVx C S H' as vs rs := by
  induction h with
  | nil => exact .nil
  | @own a as d vs rs h1 h2 h3 h4 h5 h6 ih =>
    have q : Pst (Plus S a) H (Plus S a) H' := fun b o e hs ht => by
      obtain ⟨x1, x2⟩ := p b o e (fun z => hs (.inl z)) ht
      exact ⟨x1, hs⟩
    exact .own h1 h2 h3 h4 (ownAt_by q (fun o e ht => hb a o List.mem_cons_self e ht) h5) (ih fun a o ha => hb a o (List.mem_cons_of_mem _ ha))
  | fr h1 h2 ih => exact .fr (rep_pst p h1) (ih hb)
  | ali h2 ih => exact .ali (ih hb)
theorem RVx.nb {as : List Addr} {vs : List V} {rs : List RV} (h : RVx C S H as vs rs) : ∀ {a}, a ∈ as → ¬ C.B a := by
  induction h with
  | nil => exact fun z => by cases z
  | own h1 h2 h3 h4 h5 h6 ih => exact fun z => (List.mem_cons.mp z).elim (fun z => by rw [z]; exact h2) ih
  | fr h1 h2 ih => exact ih
  | ali h2 ih => exact ih
theorem RVc.pst' {vs : List V} {rs : List RV} (h : RVc w G B S H vs rs H') : PstE G H H' := by
  induction h with
  | nil => exact PstE.refl
  | own _ p _ ih => exact p.trans ih
  | oth _ _ p _ ih => exact p.trans ih
/-- the values of the steps: the new objects, and all values behind them -/
theorem RVc.vx {C : Cd} (h0 : ∀ b, TN C.G.T b → C.B b) : ∀ {B S : Addr → Prop} {H H' : Hp} {vs : List V} {rs : List RV}, RVc C.w C.G B S H vs rs H' → (∀ b, C.B b → S b) → (∀ b, S b → H b ≠ none) → (∀ b, C.H0 b ≠ none → H b ≠ none) →
    ∃ as : List Addr, (∀ a ∈ as, H a = none) ∧ (∀ a ∈ as, H' a ≠ none) ∧ RVx C (fun b => S b ∨ b ∈ as) H' as vs rs := by
  intro B S H H' vs rs h
  induction h with
  | nil => exact fun _ _ _ => ⟨[], by simp, by simp, .nil⟩
  | @own B S H H1 H' a d vs rs h1 p hc ih =>
    intro hB dom hd
    obtain ⟨q, e, n, ho⟩ := h1
    cases e
    have n1 : H1 a ≠ none := ownAt_there ho
    obtain ⟨as, x1, x2, x3⟩ := ih (fun b z => .inl (hB b z)) (fun b z => by
      rcases z with z | z
      · exact p.2 b (dom b z)
      · rw [z]; exact n1) (fun b z => p.2 b (hd b z))
    have p2 : PstE C.G H1 H' := hc.pst'
    have na : a ∉ as := fun z => n1 (x1 a z)
    have es : (fun b => Plus S a b ∨ b ∈ as) = fun b => S b ∨ b ∈ a :: as := by
      funext b
      refine propext ⟨fun z => ?_, fun z => ?_⟩
      · rcases z with (z | z) | z
        · exact .inl z
        · rw [z]; exact .inr List.mem_cons_self
        · exact .inr (List.mem_cons_of_mem _ z)
      · rcases z with z | z
        · exact .inl (.inl z)
        · rcases List.mem_cons.mp z with z | z
          · exact .inl (.inr z)
          · exact .inr z
    rw [es] at x3
    have nb : ¬ C.B a := fun z => dom a (hB a z) n
    refine ⟨a :: as, fun b z => ?_, fun b z => ?_, .own na nb ?_ (.inr List.mem_cons_self) ?_ x3⟩
    · rcases List.mem_cons.mp z with z | z
      · rw [z]; exact n
      · cases e : H b with
        | none => rfl
        | some o => exact absurd (x1 b z) (p.2 b (by rw [e]; simp))
    · rcases List.mem_cons.mp z with z | z
      · rw [z]; exact p2.2 a n1
      · exact x2 b z
    · cases e : C.H0 a with
      | none => rfl
      | some o => exact absurd n (hd a (by rw [e]; simp))
    · refine ownAt_by (fun b o e hs ht => ?_) (fun o e ht => (p2.1 a o e (fun z => nb (h0 a z)) ht).1) ho
      refine ⟨(p2.1 b o e (fun z => hs (.inl (hB b (h0 b z)))) ht).1, fun z => ?_⟩
      rcases z with z | z
      · rcases z with z | z
        · exact hs (.inl z)
        · rcases List.mem_cons.mp z with z | z
          · exact hs (.inr z)
          · rw [x1 b z] at e; cases e
      · exact hs (.inr z)
  | @oth B S H H1 H' v r vs rs h1 hn p hc ih =>
    intro hB dom hd
    obtain ⟨as, x1, x2, x3⟩ := ih hB (fun b z => p.2 b (dom b z)) (fun b z => p.2 b (hd b z))
    have p2 : PstE C.G H1 H' := hc.pst'
    refine ⟨as, fun b z => ?_, x2, ?_⟩
    · cases e : H b with
      | none => rfl
      | some o => exact absurd (x1 b z) (p.2 b (by rw [e]; simp))
    · obtain ⟨d, f⟩ := r
      cases f with
      | own => exact hn.elim
      | ali => exact .ali x3
      | fr =>
        refine .fr (rep_pst (fun b o e hs ht => ⟨(p2.1 b o e (fun z => hs (hB b (h0 b z))) ht).1, fun z => ?_⟩) h1) x3
        rcases z with z | z
        · exact hs z
        · rw [x1 b z] at e; cases e
/-- where one stands amid the assignments -/
structure Mid (C : Cd) (S0 : Addr → Prop) (H0 : Hp) (S : Addr → Prop) (as : List Addr) (vs : List V) (rs : List RV) (σ : L2.St) (L : Lcl) (H : Hp) : Prop where
  good : Good (BarP C fun b => b ∈ as) σ H L
  vx : RVx C S H as vs rs
  sub : ∀ b, SO (BarP C fun b => b ∈ as) σ L b → S b
  pst : Pst S0 H0 S H
  tn : ∀ b, TN C.G.T b → C.B b
theorem nm_step {S0 : Addr → Prop} {H0 : Hp} {as : List Addr} {v : V} {r : RV} {vs : List V} {rs : List RV} {i : Nat} {W W1 : Wd} {L1 : Lcl} (m : Mid C S0 H0 S as (v :: vs) (r :: rs) σ L H) (e : setSl i r L W = .ok L1 W1) : W1 = W ∧ ∃ as', Mid C S0 H0 S as' vs rs (σ.set i (some v)) L1 H := by
  obtain ⟨g, vx, sub, pst, tn⟩ := m
  unfold setSl at e
  cases vx with
  | @own a as d vs rs h1 h2 h3 h4 h5 h6 =>
    simp only [slOf, Rs.of_some, Rs.bind_ok] at e
    by_cases hl : i < L.length
    · rw [if_pos hl] at e
      cases e
      obtain ⟨g', so⟩ := Good.take tn g h1 h2 h3 hl (ownAt_mono sub h5)
      exact ⟨rfl, as, g', h6, fun b z => sub b (so b z), pst, tn⟩
    · rw [if_neg hl] at e
      cases e
  | @fr as v d vs rs h1 h2 =>
    simp only [slOf, Rs.of_some, Rs.bind_ok] at e
    by_cases hl : i < L.length
    · rw [if_pos hl] at e
      cases e
      obtain ⟨g', p⟩ := g.slot (x := some v) (o := some (.val d)) PstE.refl hl ⟨v, rfl, rep_mono sub h1⟩
      refine ⟨rfl, _, g', h2, fun b z => sub b ?_, pst, tn⟩
      rcases z with z | ⟨j, d2, x1, x2⟩
      · exact .inl z
      · rw [getElem?_set _ _ _ _ hl] at x1
        rw [getElem?_set _ _ _ _ (by rw [g.len]; exact hl)] at x2
        by_cases hj : j = i
        · rw [if_pos hj] at x1; cases x1
        · rw [if_neg hj] at x1 x2
          exact .inr ⟨j, d2, x1, x2⟩
    · rw [if_neg hl] at e
      cases e
  | ali h2 =>
    simp only [slOf, Rs.of_none, Rs.bind_stk] at e
    cases e
/-- behind all of them -/
def postM (C : Cd) (S0 : Addr → Prop) (H0 : Hp) (r : Rs Lcl) (Q : L2.St → Hp → Prop) : Prop := match r with
  | .ok L' W' => ∀ σ' H', Pst S0 H0 (SO C σ' L') H' → Good C σ' H' L' → WR C.G H' W' → Q σ' H'
  | .err x W' => ∀ cls d H', PstE C.G C.H0 H' → WR C.G H' W' → ExR C.w C.G C.H0 H' cls d x → C.E cls d H'
  | .stk => False
theorem Mid.fin {S0 : Addr → Prop} {H0 : Hp} {as : List Addr} (m : Mid C S0 H0 S as [] [] σ L H) : Pst S0 H0 (SO C σ L) H ∧ Good C σ H L := by
  obtain ⟨g, vx, sub, pst, tn⟩ := m
  cases vx
  have g : Good C σ H L := by
    have e : (BarP C fun b => b ∈ ([] : List Addr)) = C := by
      unfold BarP
      obtain ⟨w, G, B, H0, E⟩ := C
      simp
    rw [e] at g
    exact g
  exact ⟨fun b o e hs ht => let ⟨x1, x2⟩ := pst b o e hs ht; ⟨x1, fun z => x2 (sub b (so_bar.mpr (.inl z)))⟩, g⟩
def gR (C : Cd) (m : List RV → Lcl → Wd → Rs Lcl) : TGs := fun vs σ H Q => ∃ S0 H0 S as rs L W, Mid C S0 H0 S as vs rs σ L H ∧ WR C.G H W ∧ postM C S0 H0 (m rs L W) Q
theorem gr_nil : PGs X [] (gR C (asgTs Γ cf .nil)) := by
  refine pgs_imp pgs_nil fun vs σ H Q ⟨S0, H0, S, as, rs, L, W, m, wr, h⟩ => ?_
  cases rs with
  | cons r rs => unfold asgTs at h; exact h.elim
  | nil =>
    unfold asgTs at h
    have hv : vs = [] := by cases m.vx; rfl
    subst hv
    obtain ⟨p, g⟩ := m.fin
    exact ⟨rfl, h σ H p g wr⟩
/-- what is wanted of one target -/
structure Tgt (X : Cx) (C : Cd) (Γ : Tbl) (cf : CF) (e : Expr) (t : TP) : Prop where
  f : ∀ B, PG X e (gF { C with B := B } t.ip (asgT Γ cf t))
  n : ∀ i, t = .nm i → PG X e (gName i)
theorem pg_exB {e : Expr} {is : List Nat × Bool} {m : RV → Lcl → Wd → Rs Lcl} (h : ∀ B, PG X e (gF { C with B := B } is m)) : PG X e (fun v σ H Q => ∃ B, gF { C with B := B } is m v σ H Q) :=
  ⟨fun pins s σ H v u Q I r ⟨B, q⟩ => (h B).run pins s σ H v u Q I r q⟩
theorem pg_or {e : Expr} {g g' : TG} (h : PG X e g) (h' : PG X e g') : PG X e (fun v σ H Q => g v σ H Q ∨ g' v σ H Q) :=
  ⟨fun pins s σ H v u Q I r q => q.elim (h.run pins s σ H v u Q I r) (h'.run pins s σ H v u Q I r)⟩
theorem gr_cons {e : Expr} {es : List Expr} {t : TP} {ts : TPs} (h1 : Tgt X C Γ cf e t) (h2 : PGs X es (gR C (asgTs Γ cf ts))) (hs : noStars (e :: es) = true) : PGs X (e :: es) (gR C (asgTs Γ cf (.cons t ts))) := by
  have hp : PG X e (fun v σ H Q => (∃ B, gF { C with B := B } t.ip (asgT Γ cf t) v σ H Q) ∨ ∃ i, t = .nm i ∧ gName i v σ H Q) :=
    ⟨fun pins s σ H v u Q I r q => by
      rcases q with ⟨B, q⟩ | ⟨i, e, q⟩
      · exact (h1.f B).run pins s σ H v u Q I r q
      · exact (h1.n i e).run pins s σ H v u Q I r q⟩
  refine pgs_imp (pgs_cons hp h2 (by rw [each_cons hs]; rfl)) fun vs σ H Q ⟨S0, H0, S, as, rs, L, W, m, wr, h⟩ => ?_
  cases rs with
  | nil => unfold asgTs at h; exact h.elim
  | cons r rs =>
    unfold asgTs at h
    split at h
    · rename_i ok
      obtain ⟨v, vs, rfl⟩ : ∃ v vs', vs = v :: vs' := by cases m.vx <;> exact ⟨_, _, rfl⟩
      refine ⟨v, vs, rfl, ?_⟩
      cases t with
      | nm i =>
        refine .inr ⟨i, rfl, ?_⟩
        show gR C (asgTs Γ cf ts) vs (σ.set i (some v)) H Q
        unfold asgT at h
        cases e : setSl i r L W with
        | ok L1 W1 =>
          obtain ⟨ew, as', m'⟩ := nm_step m e
          subst ew
          rw [e] at h
          exact ⟨S0, H0, S, as', rs, L1, W1, m', wr, h⟩
        | err x W1 =>
          exfalso
          unfold setSl at e
          cases e2 : slOf r with
          | none => rw [e2] at e; cases e
          | some sl =>
            rw [e2] at e
            simp only [Rs.of_some, Rs.bind_ok] at e
            split at e <;> cases e
        | stk => rw [e] at h; exact h.elim
      | _ =>
        obtain ⟨d, f⟩ := r
        cases f with
        | own => cases ok
        | ali => cases ok
        | fr =>
          refine .inl ⟨fun b => C.B b ∨ b ∈ as, ?_⟩
          obtain ⟨g, vx, sub, pst, tn⟩ := m
          cases vx with
          | fr r1 vx =>
            show gF (BarP C fun b => b ∈ as) _ _ v σ H _
            refine ⟨L, W, d, g, wr, rep_mono sub r1, ?_⟩
            generalize asgT Γ cf _ (d, Fl.fr) L W = z at h ⊢
            cases z with
            | ok L1 W1 =>
              intro σ1 H1 p1 kp oa sl _ g1 wr1
              have ps : Pst S H S H1 := fun b o e hs ht => ⟨kp b o e (fun z => hs (sub b (.inl (.inl (tn b z))))) (fun z => hs (sub b (.inr z))) ht, hs⟩
              refine ⟨S0, H0, S, as, rs, L1, W1, ⟨g1, vx.keep ps fun a o ha e ht => ?_, fun b z => sub b (z.elim .inl fun z => .inr (oa b z)), pst.trans ps, tn⟩, wr1, h⟩
              refine kp a o e (fun z => ?_) (fun z => ?_) ht
              · exact vx.nb ha (tn a z)
              · obtain ⟨j, d2, x1, x2⟩ := z
                obtain ⟨q, y1, y2, _⟩ := g.own j d2 x1
                rw [x2] at y1
                cases y1
                exact y2 (.inr ha)
            | err x W1 => exact h
            | stk => exact h.elim
    · exact h.elim
end
end Dl

set_option maxRecDepth 100000
set_option maxHeartbeats 4000000
/-! D15: assignments, changes in place, loops. -/
namespace Dl
open PySem PySem.Spec PyProof.Rows L2
section
variable {X : Cx} {C : Cd} {Γ : Tbl} {cf : CF} {w : World} {G : Gl0} {B S : Addr → Prop} {H H' H1 H2 : Hp} {σ σ' : L2.St} {L L' : Lcl} {v : V}
variable {a b c : Expr} {ea eb ec : EX} {pos : Pos}
theorem setSl_own {i : Nat} {r : RV} {W W1 : Wd} {L1 : Lcl} (e : setSl i r L W = .ok L1 W1) : ∃ sl, slOf r = some sl ∧ i < L.length ∧ L1 = L.set i (some sl) ∧ W1 = W := by
  unfold setSl at e
  cases q : slOf r with
  | none => rw [q] at e; cases e
  | some sl =>
    rw [q] at e
    simp only [Rs.of_some, Rs.bind_ok] at e
    split at e
    · cases e; exact ⟨sl, rfl, by assumption, rfl, rfl⟩
    · cases e
theorem setSl_err {i : Nat} {r : RV} {W W1 : Wd} {x : Ex} (e : setSl i r L W = .err x W1) : False := by
  unfold setSl at e
  cases q : slOf r with
  | none => rw [q] at e; cases e
  | some sl =>
    rw [q] at e
    simp only [Rs.of_some, Rs.bind_ok] at e
    split at e <;> cases e
/-- name = e -/
theorem s_nm {i : Nat} {x : Str} {px : Pos} (hN : X.N.Nodup) (hi : X.N[i]? = some x) (hx : L2.Loc X.env.scope x) (he : PE X a (tD C (semE Γ cf ea))) (hs : swapsWith a (some (.Name x px)) pos.line X.env = pure false) (hf : X.fn x = true ∨ X.env.scope.names.lookup x = some .local) :
    PS X (.Assign [.Name x px] a pos) (tS C (semS Γ cf (.asg (.nm i) ea))) := by
  refine ps_imp (ps_set hN hi hx he hs hf) fun D0 σ H ⟨L, W, g, wr, h⟩ => ?_
  unfold semS at h
  refine ⟨L, W, g, wr, postS_e g h fun r W1 v H1 _ p1 wr1 rx h => ?_⟩
  unfold asgT at h
  cases e : setSl i r L W1 with
  | ok L1 W2 =>
    obtain ⟨sl, e1, e2, e3, e4⟩ := setSl_own e
    subst e3 e4
    rw [e] at h
    obtain ⟨g', pst⟩ := g.set p1 e2 rx e1
    exact h _ H1 pst g' wr1
  | err x W2 => exact (setSl_err e).elim
  | stk => rw [e] at h; exact h.elim
theorem asg_own {t : TP} {d : D} {W : Wd} (h : isNm t = false) : asgT Γ cf t (d, .own) L W = .stk ∨ asgT Γ cf t (d, .own) L W = asgT Γ cf t (d, .fr) L W := by
  cases t with
  | nm i => cases h
  | sub i k => right; unfold asgT storeSl notAli; rfl
  | tu ts => left; unfold asgT; cases d <;> rfl
theorem asg_ali {t : TP} {d : D} {W : Wd} (h : isNm t = false) : asgT Γ cf t (d, .ali) L W = .stk := by
  cases t with
  | nm i => cases h
  | sub i k => unfold asgT notAli; simp
  | tu ts => unfold asgT; cases d <;> rfl
/-- a target = e -/
theorem s_tg {t : TP} {tg : Expr} {is : List Nat × Bool} (hg : PG X tg (gF C is (asgT Γ cf t))) (hn : isNm t = false) (he : PE X a (tD C (semE Γ cf ea))) (hs : swapsWithSole [tg] a pos.line X.env = pure false) (hw : swappedStores [tg] a X.env = pure none) (h1 : (assignEach [tg] X.env).map (·.2) = [assign tg X.env]) :
    PS X (.Assign [tg] a pos) (tS C (semS Γ cf (.asg t ea))) := by
  refine ps_imp (ps_asg he hg hs hw h1) fun D0 σ H ⟨L, W, g, wr, h⟩ => ?_
  unfold semS at h
  refine ⟨L, W, g, wr, postS_e g h fun r W1 v H1 _ p1 wr1 rx h => ?_⟩
  have fin : ∀ d, Rep C.w C.G (SO C σ L) H1 v d → postS C D0 σ L H ((asgT Γ cf t (d, .fr) L W1).bind fun L1 W2 => .ok (.nx L1) W2) → gF C is (asgT Γ cf t) v σ H1 D0.nx := fun d rv h => by
    refine ⟨L, W1, d, g.pst p1, wr1, rv, ?_⟩
    cases e : asgT Γ cf t (d, .fr) L W1 with
    | ok L1 W2 =>
      rw [e] at h
      exact fun σ' H' pst _ _ _ _ g' wr' => h σ' H' ((pstE_to g.tnS p1).trans pst) g' wr'
    | err x W2 => rw [e] at h; exact h
    | stk => rw [e] at h; exact h.elim
  obtain ⟨d, f⟩ := r
  cases f with
  | fr => exact fin d rx h
  | own =>
    rcases asg_own (Γ := Γ) (cf := cf) (L := L) (d := d) (W := W1) hn with z | z
    · rw [z] at h; exact h.elim
    · rw [z] at h
      exact fin d (rx.rep g.dom trivial) h
  | ali => rw [asg_ali hn] at h; exact h.elim
/-- what the values of a display are -/
theorem mid_of {vs : List V} {xs : List RV} (g : Good C σ H L) (rx : relVs C (SO C σ L) H H1 vs xs) : ∃ S as, Mid C (SO C σ L) H S as vs xs σ L H1 := by
  obtain ⟨rs, Ha, pa, rc⟩ := rx
  obtain ⟨as, x1, x2, x3⟩ := rc.vx g.tn (fun b z => .inl z) (fun b z => pa.2 b (g.dom b z)) (fun b z => pa.2 b (g.edom b z))
  obtain ⟨g', p'⟩ := (g.pst pa).bar (N := fun b => b ∈ as) rc.pst' x1 x2
  refine ⟨_, as, g', x3, fun b z => so_bar.mp z, ?_, g.tn⟩
  have q : Pst (SO C σ L) Ha (fun b => SO C σ L b ∨ b ∈ as) H1 := fun b o e hs ht => by
    obtain ⟨y1, y2⟩ := p' b o e hs ht
    exact ⟨y1, fun z => y2 (so_bar.mpr z)⟩
  exact (pstE_to g.tnS pa).trans q
theorem Mid.same {S0 : Addr → Prop} {H0 : Hp} {as : List Addr} {vs : List V} {rs : List RV} (m : Mid C S0 H0 S as vs rs σ L H) (s : Same H H') : Mid C S0 H0 S as vs rs σ L H' := by
  obtain ⟨g, vx, sub, pst, tn⟩ := m
  have p : PstE C.G H H' := same_pst s
  exact ⟨g.pst p, vx.keep (fun b o e hs ht => ⟨s b o e, hs⟩) (fun a o _ e _ => s a o e), sub, pst.trans fun b o e hs ht => ⟨s b o e, hs⟩, tn⟩
theorem s_set {tgs es : List Expr} {ts : TPs} {ees : EXs} {kt k2 : Nat} {pt pt2 : Pos} (hc : X.calm = true) (hA : PA X es (tDs C (semEs Γ cf ees))) (hg : PGs X tgs (gR C (asgTs Γ cf ts))) (hst : noStars tgs = true) (hl : ts.len = tgs.length) (hz : tgs.length ≤ sizeLine) (hw : swappedStores [.Tuple tgs kt pt] (.Tuple es k2 pt2) X.env = pure none) :
    PS X (.Assign [.Tuple tgs kt pt] (.Tuple es k2 pt2) pos) (tS C (semS Γ cf (.set ts ees))) := by
  obtain ⟨l1, l2⟩ := each_len (env := X.env) hst
  refine ps_imp (ps_asg (pe_tup hA) (pg_tup (n := tgs.length) hc hg l1 l2) rfl hw rfl) fun D0 σ H ⟨L, W, g, wr, h⟩ => ?_
  unfold semS at h
  refine ⟨L, W, g, wr, ?_⟩
  cases e : semEs Γ cf ees L W with
  | stk => rw [e] at h; exact h.elim
  | err x W1 => rw [e] at h; exact fun cls d H' p wr rx => h cls d H' (g.entE.trans p) wr (rx.back g.entE)
  | ok xs W1 =>
    rw [e] at h
    intro vs H1 p1 wr1 rx
    have h : postS C D0 σ L H (if xs.length = ts.len then (asgTs Γ cf ts xs L W1).bind fun L1 W2 => .ok (.nx L1) W2 else .stk) := h
    by_cases el : xs.length = ts.len
    · rw [if_pos el] at h
      obtain ⟨S, as, m⟩ := mid_of g rx
      have lv : vs.length = xs.length := rx.1.len
      refine ⟨by rw [lv, el, hl]; exact hz, fun p hp => ?_⟩
      have s : Same H1 (upd H1 p (.tup vs)) := same_new hp
      refine ⟨p, vs, rfl, .of upd_same, by rw [lv, el, hl], _, _, S, as, xs, L, W1, m.same s, wr1.same s, ?_⟩
      cases e2 : asgTs Γ cf ts xs L W1 with
      | ok L1 W2 => rw [e2] at h; exact h
      | err x W2 => rw [e2] at h; exact h
      | stk => rw [e2] at h; exact h.elim
    · rw [if_neg el] at h
      exact h.elim
/-- a, b = .. stored from the right -/
theorem s_set2 {i j : Nat} {x y : Str} {e1 e2 : Expr} {ees : EXs} {px py pt : Pos} {kt k2 : Nat} {pt2 : Pos} (hc : X.calm = true) (hN : X.N.Nodup) (hi : X.N[i]? = some x) (hj : X.N[j]? = some y) (hij : i ≠ j) (hx : X.env.scope.names.lookup x = some .local) (hy : X.env.scope.names.lookup y = some .local) (hA : PA X [e1, e2] (tDs C (semEs Γ cf ees)))
    (hw : swappedStores [.Tuple [.Name x px, .Name y py] kt pt] (.Tuple [e1, e2] k2 pt2) X.env = pure (some [x, y])) : PS X (.Assign [.Tuple [.Name x px, .Name y py] kt pt] (.Tuple [e1, e2] k2 pt2) pos) (tS C (semS Γ cf (.set (.cons (.nm i) (.cons (.nm j) .nil)) ees))) := by
  refine ps_imp (ps_par hc hN hi hj hij hx hy hA hw rfl) fun D0 σ H ⟨L, W, g, wr, h⟩ => ?_
  unfold semS at h
  refine ⟨L, W, g, wr, ?_⟩
  cases e : semEs Γ cf ees L W with
  | stk => rw [e] at h; exact h.elim
  | err x W1 => rw [e] at h; exact fun cls d H' p wr rx => h cls d H' (g.entE.trans p) wr (rx.back g.entE)
  | ok xs W1 =>
    rw [e] at h
    intro vs H1 p1 wr1 rx
    have h : postS C D0 σ L H (if xs.length = 2 then (asgTs Γ cf (.cons (.nm i) (.cons (.nm j) .nil)) xs L W1).bind fun L1 W2 => .ok (.nx L1) W2 else .stk) := h
    have lv : vs.length = xs.length := rx.1.len
    match xs, vs, h, lv, rx with
    | [r1, r2], [u1, u2], h, lv, rx =>
      refine ⟨u1, u2, rfl, ?_⟩
      obtain ⟨S, as, m⟩ := mid_of g rx
      rw [if_pos (show [r1, r2].length = 2 from rfl)] at h
      unfold asgTs at h
      simp only [isNm, Bool.true_or, if_true] at h
      unfold asgT at h
      cases q1 : setSl i r1 L W1 with
      | stk => rw [q1] at h; exact h.elim
      | err x W2 => exact (setSl_err q1).elim
      | ok L1 W2 =>
        obtain ⟨ew, as1, m1⟩ := nm_step m q1
        subst ew
        rw [q1] at h
        simp only [Rs.bind_ok] at h
        unfold asgTs at h
        simp only [isNm, Bool.true_or, if_true] at h
        unfold asgT at h
        cases q2 : setSl j r2 L1 W2 with
        | stk => rw [q2] at h; exact h.elim
        | err x W2 => exact (setSl_err q2).elim
        | ok L2 W3 =>
          obtain ⟨ew, as2, m2⟩ := nm_step m1 q2
          subst ew
          rw [q2] at h
          simp only [Rs.bind_ok] at h
          unfold asgTs at h
          obtain ⟨p, g'⟩ := m2.fin
          exact h _ H1 p g' wr1
    | [], _, h, _, _ => rw [if_neg (by simp)] at h; exact h.elim
    | [_], _, h, _, _ => rw [if_neg (by simp)] at h; exact h.elim
    | _ :: _ :: _ :: _, _, h, _, _ => rw [if_neg (by simp)] at h; exact h.elim
    | [_, _], [], _, lv, _ => cases lv
    | [_, _], [_], _, lv, _ => cases lv
    | [_, _], _ :: _ :: _ :: _, _, lv, _ => simp at lv
end
end Dl

set_option maxRecDepth 100000
set_option maxHeartbeats 4000000
/-! D16: changes in place, loops. -/
namespace Dl
open PySem PySem.Spec PyProof.Rows L2
section
variable {X : Cx} {C : Cd} {Γ : Tbl} {cf : CF} {w : World} {G : Gl0} {B S : Addr → Prop} {H H' H1 H2 : Hp} {σ σ' : L2.St} {L L' : Lcl} {v : V}
variable {a b c : Expr} {ea eb ec : EX} {pos : Pos}
theorem s_set3 {i j l : Nat} {x y z : Str} {e1 e2 e3 : Expr} {ees : EXs} {px py pz pt : Pos} {kt k2 : Nat} {pt2 : Pos} (hc : X.calm = true) (hN : X.N.Nodup) (hi : X.N[i]? = some x) (hj : X.N[j]? = some y) (hl : X.N[l]? = some z) (hij : i ≠ j) (hil : i ≠ l) (hjl : j ≠ l)
    (hx : X.env.scope.names.lookup x = some .local) (hy : X.env.scope.names.lookup y = some .local) (hz : X.env.scope.names.lookup z = some .local) (hA : PA X [e1, e2, e3] (tDs C (semEs Γ cf ees)))
    (hw : swappedStores [.Tuple [.Name x px, .Name y py, .Name z pz] kt pt] (.Tuple [e1, e2, e3] k2 pt2) X.env = pure (some [x, y, z])) : PS X (.Assign [.Tuple [.Name x px, .Name y py, .Name z pz] kt pt] (.Tuple [e1, e2, e3] k2 pt2) pos) (tS C (semS Γ cf (.set (.cons (.nm i) (.cons (.nm j) (.cons (.nm l) .nil))) ees))) := by
  refine ps_imp (ps_par3 hc hN hi hj hl hij hil hjl hx hy hz hA hw rfl) fun D0 σ H ⟨L, W, g, wr, h⟩ => ?_
  unfold semS at h
  refine ⟨L, W, g, wr, ?_⟩
  cases e : semEs Γ cf ees L W with
  | stk => rw [e] at h; exact h.elim
  | err x W1 => rw [e] at h; exact fun cls d H' p wr rx => h cls d H' (g.entE.trans p) wr (rx.back g.entE)
  | ok xs W1 =>
    rw [e] at h
    intro vs H1 p1 wr1 rx
    have h : postS C D0 σ L H (if xs.length = 3 then (asgTs Γ cf (.cons (.nm i) (.cons (.nm j) (.cons (.nm l) .nil))) xs L W1).bind fun L1 W2 => .ok (.nx L1) W2 else .stk) := h
    have lv : vs.length = xs.length := rx.1.len
    by_cases el : xs.length = 3
    · rw [if_pos el] at h
      obtain ⟨r1, r2, r3, rfl⟩ : ∃ r1 r2 r3, xs = [r1, r2, r3] := by
        match xs, el with
        | [r1, r2, r3], _ => exact ⟨_, _, _, rfl⟩
      obtain ⟨u1, u2, u3, rfl⟩ : ∃ r1 r2 r3, vs = [r1, r2, r3] := by
        match vs, lv with
        | [r1, r2, r3], _ => exact ⟨_, _, _, rfl⟩
      refine ⟨u1, u2, u3, rfl, ?_⟩
      obtain ⟨S, as, m⟩ := mid_of g rx
      unfold asgTs at h
      simp only [isNm, Bool.true_or, if_true] at h
      unfold asgT at h
      cases q1 : setSl i r1 L W1 with
      | stk => rw [q1] at h; exact h.elim
      | err x W2 => exact (setSl_err q1).elim
      | ok L1 W2 =>
        obtain ⟨ew, as1, m1⟩ := nm_step m q1
        subst ew
        rw [q1] at h
        simp only [Rs.bind_ok] at h
        unfold asgTs at h
        simp only [isNm, Bool.true_or, if_true] at h
        unfold asgT at h
        cases q2 : setSl j r2 L1 W2 with
        | stk => rw [q2] at h; exact h.elim
        | err x W2 => exact (setSl_err q2).elim
        | ok L2 W3 =>
          obtain ⟨ew, as2, m2⟩ := nm_step m1 q2
          subst ew
          rw [q2] at h
          simp only [Rs.bind_ok] at h
          unfold asgTs at h
          simp only [isNm, Bool.true_or, if_true] at h
          unfold asgT at h
          cases q3 : setSl l r3 L2 W3 with
          | stk => rw [q3] at h; exact h.elim
          | err x W2 => exact (setSl_err q3).elim
          | ok L3 W4 =>
            obtain ⟨ew, as3, m3⟩ := nm_step m2 q3
            subst ew
            rw [q3] at h
            simp only [Rs.bind_ok] at h
            unfold asgTs at h
            obtain ⟨p, g'⟩ := m3.fin
            exact h _ H1 p g' wr1
    · rw [if_neg el] at h
      exact h.elim
/-- name += e, name -= e, ints -/
theorem s_aug {i : Nat} {x : Str} {op : Operator} {px : Pos} (ho : op = .Add ∨ op = .Sub) (hN : X.N.Nodup) (hi : X.N[i]? = some x) (hx : L2.Loc X.env.scope x) (he : PE X a (tD C (semE Γ cf ea))) (hf : X.fn x = true ∨ X.env.scope.names.lookup x = some .local) :
    PS X (.AugAssign (.Name x px) op a pos) (tS C (semS Γ cf (.aug i op ea))) := by
  have fin : ∀ {D0 σ H L W} {y : Int} (f : Int → Int → Int), Good C σ H L → WR C.G H W → L[i]? = some (some (.val (.int y))) → postS C D0 σ L H ((semE Γ cf ea L W).bind fun r W1 => match r.1 with
      | .int b => .ok (.nx (L.set i (some (.val (.int (f y b)))))) W1
      | _ => .stk) → tAug i (tD C (semE Γ cf ea)) (ipI f) D0 σ H := fun {D0 σ H L W y} f g wr e h => by
    obtain ⟨u, e1, e2⟩ := g.val i _ e
    cases e2
    refine ⟨_, e1, L, W, g, wr, postS_e g h fun r W1 v H1 _ p1 wr1 rx h => ?_⟩
    obtain ⟨d, fl⟩ := r
    cases d with
    | int b =>
      have q := rx.any
      cases q
      have hl : i < L.length := by
        by_cases h : i < L.length
        · exact h
        · rw [List.getElem?_eq_none (by omega)] at e; cases e
      obtain ⟨g', p'⟩ := g.slot (x := some (.int (f y b))) (o := some (.val (.int (f y b)))) p1 hl ⟨_, rfl, .int _⟩
      exact ⟨y, b, rfl, rfl, h _ H1 p' g' wr1⟩
    | _ => exact h.elim
  rcases ho with rfl | rfl
  · refine ps_imp (ps_aug hN hi hx he ip_add hf) fun D0 σ H ⟨L, W, g, wr, h⟩ => ?_
    unfold semS at h
    split at h
    · rename_i y e
      refine fin _ g wr e ?_
      cases q : semE Γ cf ea L W with
      | stk => rw [q] at h; exact h
      | err x W1 => rw [q] at h; exact h
      | ok r W1 =>
        rw [q] at h
        obtain ⟨d, fl⟩ := r
        cases d <;> exact h
    · exact h.elim
  · refine ps_imp (ps_aug hN hi hx he ip_sub hf) fun D0 σ H ⟨L, W, g, wr, h⟩ => ?_
    unfold semS at h
    split at h
    · rename_i y e
      refine fin _ g wr e ?_
      cases q : semE Γ cf ea L W with
      | stk => rw [q] at h; exact h
      | err x W1 => rw [q] at h; exact h
      | ok r W1 =>
        rw [q] at h
        obtain ⟨d, fl⟩ := r
        cases d <;> exact h
    · exact h.elim
/-- name.append(e) -/
theorem s_app {i : Nat} {x : Str} {px ap cp : Pos} (hi : X.N[i]? = some x) (hv : Vis X.env.scope x) (hd : (x == ("__debug__" : Str)) = false) (hcd : (x == ("__classdict__" : Str)) = false) (he : PA X [a] (tDs C (semEs Γ cf (.cons ea .nil)))) (hs : starEach [a] X.env = (false, eval a X.env) :: starEach [] X.env) (hl : (ap.endLine == cp.line) = true) :
    PS X (.Expr (.Call (.Attribute (.Name x px) "append" ap) [a] [] cp) pos) (tS C (semS Γ cf (.app i ea))) := by
  have hfew : ((backTo cp (starEach [a] X.env)).all (fun x => !x.1) && (backToKw cp (keywordEach [] X.env)).all (fun x => x.1.isSome)
      && decide ([a].length + ([] : List Keyword).length + (if ([] : List Keyword).isEmpty then 0 else 1) < 30)) = true := by rw [hs]; rfl
  refine ps_imp (ps_expr (pe_bm PySem.F.plainAttrs_list PySem.F.slot_list_append PySem.F.type_list_append mt_append (pe_var hi hv hd hcd) he rfl hfew hl hs rfl) rfl) fun D0 σ H ⟨L, W, g, wr, h⟩ => ?_
  unfold semS at h
  have there : (∃ xs, L[i]? = some (some (.own (.lst xs)))) ∨ isLstOwn L i = false := by
    unfold isLstOwn
    split
    · rename_i xs e; exact .inl ⟨xs, e⟩
    · exact .inr rfl
  rcases there with ⟨ds, e⟩ | e
  · have eo : isLstOwn L i = true := by unfold isLstOwn; rw [e]
    rw [eo, if_pos rfl] at h
    obtain ⟨q, es, nb, xs, o1, o2⟩ := g.own i _ e
    refine ⟨.ref q, es, .inl ⟨rfl, xs, .of o1⟩, L, W, g, wr, ?_⟩
    unfold semEs
    cases q1 : semE Γ cf ea L W with
    | stk => rw [q1] at h; exact h.elim
    | err y W1 => rw [q1] at h; exact fun cls d H' p wr rx => h cls d H' (g.entE.trans p) wr (rx.back g.entE)
    | ok r W1 =>
      rw [q1] at h
      intro vs H1 p1 wr1 rx
      have rx := rx.1
      cases rx with
      | @cons v r' vs rs rv rt =>
        cases rt
        simp only [Rs.bind_ok, e] at h
        split at h
        · rename_i hh
          obtain ⟨na, hz⟩ := Bool.and_eq_true_iff.mp hh
          have hz : ds.length < sizeLine := by simpa using hz
          have g1 := g.pst p1
          obtain ⟨q', es', nb', xs', o1', o2'⟩ := g1.own i _ e
          rw [es] at es'
          cases es'
          refine ⟨q, xs', v, rfl, rfl, o1', by rw [o2'.len]; exact hz, ?_⟩
          have hq : SO C σ L q := .inr ⟨i, _, e, es⟩
          have rv' : Rep C.w C.G (SO C σ L) H1 v r.1 := rv.rep g.dom (by obtain ⟨d, f⟩ := r; cases f <;> first | trivial | cases na)
          obtain ⟨g2, pst, _, _, _⟩ := g1.wr (o := .lst (xs' ++ [v])) (d' := .lst (ds ++ [r.1])) e es ⟨_, upd_same, repL_pst (pst_upd (.inr rfl)) (o2'.append (.cons (rep_mono (plus_of hq) rv') .nil))⟩
          exact h σ _ ((pstE_to g.tnS p1).trans pst) g2 (wr1.upd (fun z => nb (g.tn q z)) ⟨_, o1', fun z => z, fun qq z => (by unfold LamX.CodeO at z; cases z)⟩)
        · exact h.elim
  · rw [e] at h
    exact h.elim
/-- an own object frozen ahead of a statement -/
theorem s_frz {i : Nat} {st : Stmt} {s : SX} (h : PS X st (tS C (semS Γ cf s))) : PS X st (tS C (semS Γ cf (.frz i s))) := by
  refine ps_imp h fun D0 σ H ⟨L, W, g, wr, h⟩ => ?_
  unfold semS at h
  obtain ⟨g', p⟩ := g.frz i
  exact ⟨frzL i L, W, g', wr, postS_later p h⟩
theorem s_brk : PS X (.Break pos) (tS C (semS Γ cf .brk)) := by
  refine ps_imp ps_break fun D0 σ H ⟨L, W, g, wr, h⟩ => ?_
  unfold semS at h
  exact h σ H Pst.refl g wr
theorem s_cnt : PS X (.Continue pos) (tS C (semS Γ cf .cnt)) := by
  refine ps_imp ps_continue fun D0 σ H ⟨L, W, g, wr, h⟩ => ?_
  unfold semS at h
  exact h σ H Pst.refl g wr
theorem s_stk {st : Stmt} : PS X st (tS C (semS Γ cf .stk)) := by
  refine ps_imp ps_never fun D0 σ H ⟨L, W, g, wr, h⟩ => ?_
  unfold semS at h
  exact h.elim
/-- o[i] by data, an int -/
def rGetF (C : Cd) : V → V → Hp → VK → Prop := fun o i H Q => ∃ (q : Addr) (S : Addr → Prop) (d k : D) (n : Int), o = .ref q ∧ OwnAt C.w C.G S H q d ∧ Rep C.w C.G (fun _ => False) H i k ∧ ixD d k = some (.int n) ∧ Q (.int n) H
theorem get_f (hK : X.K = C.G.K) (hw : C.w = X.w) : PGet X (rGetF C) := by
  intro pins s σ H o i ov iv Q I ro ri h
  obtain ⟨q, S, d, k, n, rfl, ho, rk, e, hq⟩ := h
  cases (show ov = Value.ref q from ro)
  cases d with
  | lst ds =>
    obtain ⟨xs, h1, h2⟩ := ho
    cases k with
    | int ki =>
      cases rk
      obtain ⟨t, rfl⟩ := (show ∃ t, iv = Value.int ki t from ri)
      obtain ⟨z, h3, h4⟩ := h2.atI (show L2.atI ds ki = some (.int n) from e)
      cases h4
      obtain ⟨its, r, pl, hz⟩ := I.list (.of h1)
      obtain ⟨j, x1, x2, x3, x4, x5⟩ := atI_get h3
      obtain ⟨w, ew, rw'⟩ := r.get x2
      have hl := r.length
      have hn := line63
      have fin : EP X pins σ Q w s := ⟨.int n, H, I, rw', hq⟩
      by_cases h0 : 0 ≤ ki
      · have hj : ki.toNat = j := by
          rw [seqIndex_of h0 x5] at x1
          exact Option.some.inj x1
        exact wpAny_getItem_list pl.isList h0 (by omega) (by rw [hj]; simpa using ew) fin
      · have hj : (ki + (its.toArray.size : Int)).toNat = j := by
          rw [seqIndex_neg (by omega) x4] at x1
          rw [List.size_toArray, ← hl]
          exact Option.some.inj x1
        exact wpAny_getItem_list_neg pl.isList (by omega) (by rw [List.size_toArray] <;> omega) (by omega) (by rw [hj]; simpa using ew) fin
    | _ => cases e
  | dct kvs =>
    have e : (dctGet kvs k).bind id = some (.int n) := e
    obtain ⟨ob, es, ep, h1, h2, h3, h4, h5, h6⟩ := ho
    have hd : DAt C (Plus S q) H q kvs := ⟨ob, es, ep, .inl h1, h2, h3, h4, h5, h6⟩
    unfold dctGet at e
    split at e
    · rename_i hh
      obtain ⟨⟨lk, e1⟩, hl⟩ := keysOk_ok hh
      have e : findK k kvs = some (.int n) := e
      obtain ⟨xs, m, dd, _⟩ := hd.mix hK hw I hl
      rcases mx_find e1 m with ⟨z, _⟩ | ⟨d', u, y', z1, z2, z3, z4⟩
      · rw [z] at e; cases e
      · rw [z1] at e
        cases e
        cases z4
        exact wpAny_getItem_of (mix_is e1 rk ri) dd.mapOf z2 ⟨.int n, H, I.tok _, z3, hq⟩
    · cases e
  | ins c fs => cases k <;> cases e
  | _ => exact ho.elim
theorem plainAug {i : Expr} (h : notSl i = true) : ∀ ov iv new, augStore i ov iv new = (do holding [new, ov, iv] (setItem ov iv new); release [new, ov, iv] []; pure .next) := by
  intro ov iv new
  cases i <;> first | rfl | cases h
/-- name[k] += e, name[k] -= e, ints -/
theorem s_augs {i : Nat} {x : Str} {k : Expr} {ek : EX} {op : Operator} {px tp : Pos} (ho : op = .Add ∨ op = .Sub) (hK : X.K = C.G.K) (hw : C.w = X.w) (hi : X.N[i]? = some x) (hv : Vis X.env.scope x) (hd : (x == ("__debug__" : Str)) = false) (hcd : (x == ("__classdict__" : Str)) = false) (hk : PE X k (tD C (semE Γ cf ek))) (hns : notSl k = true) (he : PE X a (tD C (semE Γ cf ea))) :
    PS X (.AugAssign (.Subscript (.Name x px) k tp) op a pos) (tS C (semS Γ cf (.augs i ek op ea))) := by
  have go : ∀ (f : Int → Int → Int) {D0 σ H L W}, (∀ n b, augI op n (.int b) = some (f n b)) → Good C σ H L → WR C.G H W → postS C D0 σ L H (semS Γ cf (.augs i ek op ea) L W) → tAugS (tVar i) (tD C (semE Γ cf ek)) (tD C (semE Γ cf ea)) (rGetF C) (ipI f) (rStore C) D0 σ H := fun f {D0 σ H L W} hf g wr h => by
    unfold semS at h
    split at h
    · rename_i hown
      obtain ⟨d, e⟩ := isOwn_ok hown
      obtain ⟨q, es, nb, how⟩ := g.own i d e
      have hq : SO C σ L q := .inr ⟨i, _, e, es⟩
      refine ⟨.ref q, es, L, W, g, wr, postS_e g h fun x W1 v H1 _ p1 wr1 rx h => ?_⟩
      have g1 := g.pst p1
      have ho1 := ownAt_pst p1 g.tnS (fun z => nb (g.tn q z)) how
      rw [e] at h
      have h : postS C D0 σ L H ((Rs.of (intAt d x.1) W1).bind fun n W2 => (semE Γ cf ea L W2).bind fun y W3 => (Rs.of (augI op n y.1) W3).bind fun z W4 => (storeSl i x.1 (.int z, .fr) L W4).bind fun L1 W5 => .ok (.nx L1) W5) := h
      cases e1 : intAt d x.1 with
      | none => rw [e1] at h; exact h.elim
      | some n =>
        rw [e1] at h
        simp only [Rs.of_some, Rs.bind_ok] at h
        have e1' : ixD d x.1 = some (.int n) := by
          unfold intAt at e1
          split at e1
          · rename_i m e2; cases e1; exact e2
          · cases e1
        have hp := postS_later (pstE_to g.tnS p1) h
        refine ⟨q, SO C σ L, d, x.1, n, rfl, ho1, rx.any, e1', L, W1, g1, wr1, postS_e g1 hp fun y W2 u H2 _ p2 wr2 ry h => ?_⟩
        obtain ⟨y, fy⟩ := y
        cases y with
        | int b =>
          have q1 := ry.any
          cases q1
          refine ⟨n, b, rfl, rfl, ?_⟩
          have g2 := g1.pst p2
          have ho2 := ownAt_pst p2 g1.tnS (fun z => nb (g.tn q z)) ho1
          simp only [hf, Rs.of_some, Rs.bind_ok] at h
          unfold storeSl at h
          rw [e] at h
          have h : postS C D0 σ L H1 (((Rs.of (storeD d x.1 (.int (f n b))) W2).bind fun d' W1 => .ok (L.set i (some (.own d'))) W1).bind fun L1 W5 => .ok (.nx L1) W5) := h
          cases e3 : storeD d x.1 (.int (f n b)) with
          | none => rw [e3] at h; exact h.elim
          | some d' =>
            rw [e3] at h
            refine ⟨q, SO C σ L, d, x.1, .int (f n b), d', rfl, hq, ho2, (rx.pst p2 g.tn g.tnS g.dom).any, .int _, e3, fun ob how' => ?_⟩
            obtain ⟨g3, pst, _, _, _⟩ := g2.wr e es how'
            exact h σ _ ((pstE_to g1.tnS p2).trans pst) g3 (wr2.upd (fun z => nb (g.tn q z)) (ownAt_kind ho2))
        | _ => exact h.elim
    · exact h.elim
  rcases ho with rfl | rfl
  · exact ps_imp (ps_augS (pe_var hi hv hd hcd) hk (get_f hK hw) he ip_add (set_store hK hw) (plainAug hns)) fun D0 σ H ⟨L, W, g, wr, h⟩ => go _ (fun _ _ => rfl) g wr h
  · exact ps_imp (ps_augS (pe_var hi hv hd hcd) hk (get_f hK hw) he ip_sub (set_store hK hw) (plainAug hns)) fun D0 σ H ⟨L, W, g, wr, h⟩ => go _ (fun _ _ => rfl) g wr h
end
end Dl

set_option maxRecDepth 100000
set_option maxHeartbeats 4000000
/-! D17: loops, comprehensions. -/
namespace Dl
open PySem PySem.Spec PyProof.Rows L2
/-- a thing that is walked, by data -/
def Lists (C : Cd) (S : Addr → Prop) (J : It) (H1 : Hp) (ds : List D) : Prop := ∀ S' H', Pst S H1 S' H' → (∀ b, S' b → H' b ≠ none) → (∀ i d, ds[i]? = some d → J.go i H' ∧ ∀ x H'', J.yld i H' x H'' → Same H' H'' ∧ Rep C.w C.G S' H'' x d) ∧ J.stop ds.length H'
def tI (C : Cd) (m : Lcl → Wd → Rs (List D)) : TI := fun σ H R => ∃ L W, Good C σ H L ∧ WR C.G H W ∧ post C (SO C σ L) H (fun H' J ds => Lists C (SO C σ L) J H' ds) (m L W) R
section
variable {X : Cx} {C : Cd} {Γ : Tbl} {cf : CF} {w : World} {G : Gl0} {B S : Addr → Prop} {H H' H1 H2 : Hp} {σ σ' : L2.St} {L L' : Lcl} {v : V}
variable {a b c : Expr} {ea eb ec : EX} {pos : Pos}
theorem drop_at {ds : List D} {i : Nat} (h : i < ds.length) : ∃ d, ds[i]? = some d ∧ ds.drop i = d :: ds.drop (i + 1) := ⟨ds[i], by simp [h], List.drop_eq_getElem_cons h⟩
/-- for target in iter -/
theorem s_loop {tg iter : Expr} {body : List Stmt} {t : TP} {it : IX} {is : List Nat × Bool} {bs : SXs} (hp : PassesOwn (model X.prog X.w) X.A X.env X.xe) (hc : X.calm = true) (hi : PI X tg iter (tI C (semI Γ cf it))) (hg : PG X tg (gF C is (asgT Γ cf t))) (hb : PSs X body (tS C (semSs Γ cf bs)))
    (hs : ∀ x, foldedSetIterable iter X.env x = pure x) : PS X (.For tg iter body [] pos) (tS C (semS Γ cf (.loop t it bs))) := by
  refine ps_imp (ps_for hp hc hi hg hb hs) fun D0 σ H ⟨L, W, g, wr, h⟩ => ?_
  unfold semS at h
  refine ⟨L, W, g, wr, ?_⟩
  cases e : semI Γ cf it L W with
  | stk => rw [e] at h; exact h.elim
  | err x W1 => rw [e] at h; exact fun cls d H' p wr rx => h cls d H' (g.entE.trans p) wr (rx.back g.entE)
  | ok ds W1 =>
    rw [e] at h
    intro J H1 p1 wr1 ls
    simp only [Rs.bind_ok] at h
    generalize hst : (fun (d : D) (L : Lcl) (W : Wd) => (asgT Γ cf t (d, .fr) L W).bind fun L1 W1 => semSs Γ cf bs L1 W1) = step at h
    refine ⟨fun i m σi Hi => m = ds.length - i ∧ i ≤ ds.length ∧ ∃ Li Wi, Good C σi Hi Li ∧ WR C.G Hi Wi ∧ Pst (SO C σ L) H1 (SO C σi Li) Hi ∧ postS C D0 σi Li Hi (loopD step (ds.drop i) Li Wi), ⟨ds.length, by simp, Nat.zero_le _, L, W1, g.pst p1, wr1, Pst.refl, postS_later (pstE_to g.tnS p1) h⟩, ?_⟩
    rintro i m σi Hi ⟨rfl, hi, Li, Wi, gi, wri, pi, hpi⟩
    obtain ⟨l1, l2⟩ := ls _ Hi pi gi.dom
    by_cases hlt : i < ds.length
    · obtain ⟨d, hd, hdr⟩ := drop_at hlt
      obtain ⟨l3, l4⟩ := l1 i d hd
      rw [hdr] at hpi
      refine .inr ⟨l3, fun σ' H' => ∃ L' W', Good C σ' H' L' ∧ WR C.G H' W' ∧ Pst (SO C σ L) H1 (SO C σ' L') H' ∧ postS C D0 σ' L' H' (loopD step (ds.drop (i + 1)) L' W'), fun σ' H' n => ⟨ds.length - (i + 1), by omega, rfl, hlt, n⟩, fun x H'' y => ?_⟩
      obtain ⟨sm, rx⟩ := l4 x H'' y
      have pE : PstE C.G Hi H'' := same_pst sm
      have gi' := gi.pst pE
      refine ⟨Li, Wi, d, gi', wri.same sm, rx, ?_⟩
      unfold loopD at hpi
      have hpi' := postS_later (pstE_to gi.tnS pE) hpi
      have es : step d Li Wi = (asgT Γ cf t (d, .fr) Li Wi).bind fun L1 W1 => semSs Γ cf bs L1 W1 := by rw [← hst]
      rw [es] at hpi'
      cases e2 : asgT Γ cf t (d, .fr) Li Wi with
      | stk => rw [e2] at hpi'; exact hpi'.elim
      | err y W2 => rw [e2] at hpi'; exact hpi'
      | ok L1 W2 =>
        rw [e2] at hpi'
        intro σ2 H2 p2 _ _ _ _ g2 wr2
        refine ⟨L1, W2, g2, wr2, ?_⟩
        have pc : Pst (SO C σ L) H1 (SO C σ2 L1) H2 := (pi.trans (pstE_to gi.tnS pE)).trans p2
        have hq := postS_later p2 hpi'
        simp only [Rs.bind_ok] at hq
        cases e3 : semSs Γ cf bs L1 W2 with
        | stk => rw [e3] at hq; exact hq.elim
        | err y W3 => rw [e3] at hq; exact hq
        | ok f W3 =>
          rw [e3] at hq
          simp only [Rs.bind_ok] at hq
          cases f with
          | nx L3 => exact fun σ3 H3 p3 g3 wr3 => ⟨L3, W3, g3, wr3, pc.trans p3, postS_later p3 hq⟩
          | ct L3 => exact fun σ3 H3 p3 g3 wr3 => ⟨L3, W3, g3, wr3, pc.trans p3, postS_later p3 hq⟩
          | bk L3 => exact hq
          | rt r => exact hq
    · have ei : i = ds.length := by omega
      subst ei
      refine .inl ⟨l2, ?_⟩
      rw [List.drop_length] at hpi
      unfold loopD at hpi
      exact hpi σi Hi Pst.refl gi wri
/-- while test -/
theorem s_whl {n : Nat} {test : Expr} {et : EX} {body : List Stmt} {bs : SXs} (hp : PassesOwn (model X.prog X.w) X.A X.env X.xe) (ht : PT X test (tDt C (semT Γ cf et))) (hb : PSs X body (tS C (semSs Γ cf bs))) : PS X (.While test body [] pos) (tS C (semS Γ cf (.whl n et bs))) := by
  refine ps_imp (ps_while hp ht hb) fun D0 σ H ⟨L, W, g, wr, h⟩ => ?_
  unfold semS at h
  generalize hT : (fun (L : Lcl) (W : Wd) => (semE Γ cf et L W).tru) = T at h
  generalize hB : (fun (L : Lcl) (W : Wd) => semSs Γ cf bs L W) = bd at h
  refine ⟨fun m σi Hi => ∃ Li Wi, Good C σi Hi Li ∧ WR C.G Hi Wi ∧ postS C D0 σi Li Hi (whlD T bd m Li Wi), ⟨n, L, W, g, wr, h⟩, ?_⟩
  rintro m σi Hi ⟨Li, Wi, gi, wri, hi⟩
  cases m with
  | zero => exact hi.elim
  | succ m =>
    unfold whlD at hi
    have eT : T Li Wi = semT Γ cf et Li Wi := by rw [← hT]; rfl
    rw [eT] at hi
    refine ⟨Li, Wi, gi, wri, postS_t gi hi fun k W1 H1 p1 wr1 hi => ?_⟩
    have g1 := gi.pst p1
    have hi := postS_later (pstE_to gi.tnS p1) hi
    cases k with
    | false =>
      rw [if_neg Bool.false_ne_true] at hi ⊢
      exact hi σi H1 Pst.refl g1 wr1
    | true =>
      rw [if_pos rfl] at hi ⊢
      refine ⟨fun σ' H' => ∃ L' W', Good C σ' H' L' ∧ WR C.G H' W' ∧ postS C D0 σ' L' H' (whlD T bd m L' W'), fun σ' H' n => ⟨m, Nat.lt_succ_self m, n⟩, Li, W1, g1, wr1, ?_⟩
      have eB : bd Li W1 = semSs Γ cf bs Li W1 := by rw [← hB]
      rw [eB] at hi
      cases e3 : semSs Γ cf bs Li W1 with
      | stk => rw [e3] at hi; exact hi.elim
      | err y W3 => rw [e3] at hi; exact hi
      | ok f W3 =>
        rw [e3] at hi
        simp only [Rs.bind_ok] at hi
        cases f with
        | nx L3 => exact fun σ3 H3 p3 g3 wr3 => ⟨L3, W3, g3, wr3, postS_later p3 hi⟩
        | ct L3 => exact fun σ3 H3 p3 g3 wr3 => ⟨L3, W3, g3, wr3, postS_later p3 hi⟩
        | bk L3 => exact hi
        | rt r => exact hi
theorem setSl_len {i : Nat} {r : RV} {W W1 : Wd} {L1 : Lcl} (e : setSl i r L W = .ok L1 W1) : L1.length = L.length := by
  obtain ⟨sl, _, h2, h3, _⟩ := setSl_own e
  rw [h3, List.length_set]
theorem storeSl_len {i : Nat} {k : D} {r : RV} {W W1 : Wd} {L1 : Lcl} (e : storeSl i k r L W = .ok L1 W1) : L1.length = L.length := by
  unfold storeSl at e
  split at e
  · rename_i d ed
    split at e
    · cases q2 : storeD d k r.1 with
      | none => rw [q2] at e; cases e
      | some d' => rw [q2] at e; cases e; rw [List.length_set]
    · cases e
  · cases e
mutual
theorem asgT_len : ∀ {t : TP} {r : RV} {L L1 : Lcl} {W W1 : Wd}, asgT Γ cf t r L W = .ok L1 W1 → L1.length = L.length
  | .nm i, r, L, L1, W, W1, e => by
    unfold asgT at e
    exact setSl_len e
  | .sub i k, r, L, L1, W, W1, e => by
    unfold asgT at e
    split at e
    · cases q : semE Γ cf k L W with
      | stk => rw [q] at e; cases e
      | err x W2 => rw [q] at e; cases e
      | ok x W2 => rw [q] at e; exact storeSl_len e
    · cases e
  | .tu ts, r, L, L1, W, W1, e => by
    obtain ⟨d, f⟩ := r
    unfold asgT at e
    cases f <;> cases d <;> first | (cases e; done) | skip
    rename_i ds
    have e : (if ds.length = ts.len then asgD Γ cf ts ds L W else .stk) = .ok L1 W1 := e
    split at e
    · exact asgD_ll e
    · cases e
theorem asgD_ll : ∀ {ts : TPs} {ds : List D} {L L1 : Lcl} {W W1 : Wd}, asgD Γ cf ts ds L W = .ok L1 W1 → L1.length = L.length
  | .nil, ds, L, L1, W, W1, e => by
    cases ds with
    | nil => unfold asgD at e; cases e; rfl
    | cons d ds => unfold asgD at e; cases e
  | .cons t ts, ds, L, L1, W, W1, e => by
    cases ds with
    | nil => unfold asgD at e; cases e
    | cons d ds =>
      unfold asgD at e
      cases q : asgT Γ cf t (d, .fr) L W with
      | stk => rw [q] at e; cases e
      | err x W2 => rw [q] at e; cases e
      | ok L2 W2 => rw [q] at e; exact (asgD_ll e).trans (asgT_len q)
end
/-! ### list comprehensions -/
theorem Good.toE {E : XK} (g : Good C σ H L) : Good { C with E := E } σ H L := ⟨g.len, g.val, g.own, g.inj, g.dom, g.tn, g.ent, g.edom⟩
theorem Good.wipe : ∀ (vs : List Nat) {σ : L2.St} {L : Lcl}, Good C σ H L → noOwn L vs = true → Good C (L2.wipe σ vs) H (wipeL L vs) ∧ Pst (SO C σ L) H (SO C (L2.wipe σ vs) (wipeL L vs)) H ∧ (∀ b, OA σ L b → OA (L2.wipe σ vs) (wipeL L vs) b) ∧ ∀ j : Nat, isOwnSl L[j]? = false → isOwnSl (wipeL L vs)[j]? = false
  | [], σ, L, g, _ => ⟨g, Pst.refl, fun _ z => z, fun _ z => z⟩
  | i :: vs, σ, L, g, h => by
    unfold noOwn at h
    rw [List.all_cons, Bool.and_eq_true] at h
    obtain ⟨g1, p1, o1, n1⟩ := Good.wipe vs g h.2
    have ni : isOwnSl (wipeL L vs)[i]? = false := n1 i (by simpa using h.1)
    unfold L2.wipe wipeL
    by_cases hl : i < (wipeL L vs).length
    · obtain ⟨g2, p2⟩ := g1.slot (i := i) (x := none) (o := none) PstE.refl hl trivial
      have hσ : i < (L2.wipe σ vs).length := by rw [g1.len]; exact hl
      refine ⟨g2, p1.trans p2, fun b z => ?_, fun j hj => ?_⟩
      · obtain ⟨j, d, x1, x2⟩ := o1 b z
        have hj : j ≠ i := fun z => by rw [z] at x1; rw [x1] at ni; cases ni
        exact ⟨j, d, by rw [getElem?_set _ _ _ _ hl, if_neg hj]; exact x1, by rw [getElem?_set _ _ _ _ hσ, if_neg hj]; exact x2⟩
      · rw [getElem?_set _ _ _ _ hl]
        by_cases hji : j = i
        · rw [if_pos hji]; rfl
        · rw [if_neg hji]; exact n1 j hj
    · have hσ : ¬ i < (L2.wipe σ vs).length := by rw [g1.len]; exact hl
      rw [List.set_eq_of_length_le (by omega), List.set_eq_of_length_le (by omega)]
      exact ⟨g1, p1, o1, n1⟩
theorem wipe_out' {σ : L2.St} : ∀ {vs : List Nat} {j : Nat}, j ∈ vs → j < σ.length → (L2.wipe σ vs)[j]? = some none
  | [], j, h, _ => by cases h
  | i :: vs, j, h, hl => by
    unfold L2.wipe
    by_cases hj : j = i
    · subst hj
      rw [List.getElem?_set_self (by rw [wipe_length]; exact hl)]
    · rw [List.getElem?_set_ne (fun z => hj z.symm)]
      exact wipe_out' ((List.mem_cons.mp h).resolve_left hj) hl
theorem wipe_in {σ : L2.St} : ∀ {vs : List Nat} {j : Nat}, j ∉ vs → (L2.wipe σ vs)[j]? = σ[j]?
  | [], j, _ => rfl
  | i :: vs, j, h => by
    unfold L2.wipe
    rw [List.getElem?_set_ne (fun z => h (by rw [z]; exact List.mem_cons_self)), wipe_in fun z => h (List.mem_cons_of_mem _ z)]
theorem wipe_eq {σ σ2 : L2.St} {vs : List Nat} (hl : σ2.length = σ.length) (h : ∀ j, j ∉ vs → σ2[j]? = (L2.wipe σ vs)[j]?) : L2.wipe σ2 vs = L2.wipe σ vs := by
  refine List.ext_getElem? fun j => ?_
  by_cases hj : j ∈ vs
  · by_cases hlt : j < σ.length
    · rw [wipe_out' hj hlt, wipe_out' hj (by rw [hl]; exact hlt)]
    · rw [List.getElem?_eq_none (by rw [wipe_length]; omega), List.getElem?_eq_none (by rw [wipe_length]; omega)]
  · rw [wipe_in hj, h j hj]
theorem setSl_keep {i : Nat} {r : RV} {W W1 : Wd} {L1 : Lcl} (e : setSl i r L W = .ok L1 W1) : ∀ j, j ≠ i → L1[j]? = L[j]? := fun j hj => by
  obtain ⟨sl, _, h2, h3, _⟩ := setSl_own e
  rw [h3, getElem?_set _ _ _ _ h2, if_neg hj]
mutual
theorem asgT_keep : ∀ {t : TP} {r : RV} {L L1 : Lcl} {W W1 : Wd}, asgT Γ cf t r L W = .ok L1 W1 → ∀ j, j ∉ t.sl → isOwnSl L[j]? = true → isOwnSl L1[j]? = true
  | .nm i, r, L, L1, W, W1, e, j, hj, ho => by
    unfold asgT at e
    unfold TP.sl at hj
    rw [setSl_keep e j (by simpa using hj)]
    exact ho
  | .sub i k, r, L, L1, W, W1, e, j, hj, ho => by
    unfold asgT at e
    split at e
    · cases q : semE Γ cf k L W with
      | stk => rw [q] at e; cases e
      | err x W2 => rw [q] at e; cases e
      | ok x W2 =>
        rw [q] at e
        simp only [Rs.bind_ok] at e
        unfold storeSl at e
        split at e
        · rename_i d ed
          split at e
          · cases q2 : storeD d x.1 r.1 with
            | none => rw [q2] at e; cases e
            | some d' =>
              rw [q2] at e
              cases e
              have hi : i < L.length := by
                by_cases h : i < L.length
                · exact h
                · rw [List.getElem?_eq_none (by omega)] at ed; cases ed
              rw [getElem?_set _ _ _ _ hi]
              by_cases hji : j = i
              · rw [if_pos hji]; rfl
              · rw [if_neg hji]; exact ho
          · cases e
        · cases e
    · cases e
  | .tu ts, r, L, L1, W, W1, e, j, hj, ho => by
    obtain ⟨d, f⟩ := r
    unfold asgT at e
    cases f <;> cases d <;> first | (cases e; done) | skip
    rename_i ds
    have e : (if ds.length = ts.len then asgD Γ cf ts ds L W else .stk) = .ok L1 W1 := e
    split at e
    · exact asgD_keep e j (by unfold TP.sl at hj; exact hj) ho
    · cases e
theorem asgD_keep : ∀ {ts : TPs} {ds : List D} {L L1 : Lcl} {W W1 : Wd}, asgD Γ cf ts ds L W = .ok L1 W1 → ∀ j, j ∉ ts.sl → isOwnSl L[j]? = true → isOwnSl L1[j]? = true
  | .nil, ds, L, L1, W, W1, e, j, hj, ho => by
    cases ds with
    | nil => unfold asgD at e; cases e; exact ho
    | cons d ds => unfold asgD at e; cases e
  | .cons t ts, ds, L, L1, W, W1, e, j, hj, ho => by
    cases ds with
    | nil => unfold asgD at e; cases e
    | cons d ds =>
      unfold asgD at e
      cases q : asgT Γ cf t (d, .fr) L W with
      | stk => rw [q] at e; cases e
      | err x W2 => rw [q] at e; cases e
      | ok L2 W2 =>
        rw [q] at e
        unfold TPs.sl at hj
        exact asgD_keep e j (fun z => hj (List.mem_append_right _ z)) (asgT_keep q j (fun z => hj (List.mem_append_left _ z)) ho)
end
def C0 (C : Cd) (B : Addr → Prop) : Cd := { C with B := B, E := fun _ _ _ => False }
theorem isOwnSl_ok {o : Option (Option Sl)} (h : isOwnSl o = true) : ∃ d, o = some (some (.own d)) := by
  unfold isOwnSl at h
  split at h
  · rename_i d; exact ⟨d, rfl⟩
  · cases h
theorem noerr_ok {α : Type} {m : Rs α} {f : α → Wd → Rs RV} {Q : VK} (h : post C S H (relV C S H) (m.noerr.bind f) Q) : ∃ x W1, m = .ok x W1 ∧ post C S H (relV C S H) (f x W1) Q := by
  cases m with
  | ok x W1 => exact ⟨x, W1, rfl, h⟩
  | err x W1 => exact h.elim
  | stk => exact h.elim
/-- one turn of a comprehension -/
def lcStep (Γ : Tbl) (cf : CF) (tp : TP) (vs : List Nat) (cond elt : EX) (L : Lcl) : D → Wd → Rs (Option D) := fun d W => (asgT Γ cf tp (d, .fr) (wipeL L vs) W).bind fun L1 W1 => (semE Γ cf cond L1 W1).tru.bind fun k W2 => if k then (semE Γ cf elt L1 W2).bind fun x W3 => if notAli x.2 then .ok (some x.1) W3 else .stk else .ok none W2
theorem lc_fst {step : D → Wd → Rs (Option D)} {d : D} {ds r : List D} {W W2 : Wd} (h : lcD step (d :: ds) W = .ok r W2) : ∃ o W1 r1, step d W = .ok o W1 ∧ lcD step ds W1 = .ok r1 W2 ∧ r = (match o with
    | some x => x :: r1
    | none => r1) := by
  unfold lcD at h
  cases e : step d W with
  | stk => rw [e] at h; cases h
  | err x W1 => rw [e] at h; cases h
  | ok o W1 =>
    rw [e] at h
    simp only [Rs.bind_ok] at h
    cases e2 : lcD step ds W1 with
    | stk => rw [e2] at h; cases h
    | err x W1 => rw [e2] at h; cases h
    | ok r1 W3 =>
      rw [e2] at h
      cases h
      exact ⟨o, W1, r1, rfl, e2, rfl⟩
def gX (C : Cd) (is : List Nat × Bool) (m : RV → Lcl → Wd → Rs Lcl) : TG := fun v σ H Q => ∃ B, gF (C0 C B) is m v σ H Q
def tX (C : Cd) (m : Lcl → Wd → Rs RV) : TE := fun σ H Q => ∃ B, tD (C0 C B) m σ H Q
def ttX (C : Cd) (m : Lcl → Wd → Rs Bool) : TT := fun σ H Q => ∃ B, tDt (C0 C B) m σ H Q
theorem lc_imp {tp : TP} {it : IX} {vs : List Nat} {cond elt' : EX} (hsl : ∀ i ∈ tp.sl, i ∈ vs) (hpu : tp.pu = true) {Q : VK} (h : tD C (semE Γ cf (.lc tp it vs cond elt')) σ H Q) :
    tLc (tI C (semI Γ cf it)) (gX C tp.ip (asgT Γ cf tp)) (ttX C (semT Γ cf cond)) (tX C (semE Γ cf elt')) vs σ H Q := by
  obtain ⟨L, W, g, wr, h⟩ := h
  unfold semE at h
  split at h
  · exact h.elim
  · rename_i hno
    have hno : noOwn L vs = true := by simpa using hno
    refine ⟨L, W, g, wr, post_bind (rel := fun H' J ds => Lists C (SO C σ L) J H' ds) h fun ds W1 J H1 _ p1 wr1 ls h => ?_⟩
    obtain ⟨r, W2, hr, h⟩ := noerr_ok h
    have hr : lcD (lcStep Γ cf tp vs cond elt' L) ds W1 = .ok r W2 := hr
    split at h
    · rename_i hz
      intro A hA
      have hAS : ¬ SO C σ L A := fun z => dom_pst p1 g.dom A z hA
      have g1 := g.pst p1
      have nT : ¬ TN C.G.T A := fun z => hAS (g.tnS A z)
      refine ⟨fun i m Hi => m = ds.length - i ∧ i ≤ ds.length ∧ ∃ Wi acc ad r', PstE C.G H1 Hi ∧ Hi A = some (.lst acc) ∧ RepL C.w C.G (Plus (SO C σ L) A) Hi acc ad ∧ WR C.G Hi Wi ∧ lcD (lcStep Γ cf tp vs cond elt' L) (ds.drop i) Wi = .ok r' W2 ∧ ad ++ r' = r, ⟨ds.length, by simp, Nat.zero_le _, W1, [], [], r, same_pst (same_new hA), upd_same, .nil, wr1.same (same_new hA), by simpa using hr, rfl⟩, ?_⟩
      rintro i m Hi ⟨rfl, hi, Wi, acc, ad, r', pi, hAi, ra, wri, hri, hcat⟩
      -- the state of a turn
      have gm : Good { C with B := Plus C.B A } σ Hi L := g1.more pi hA (by rw [hAi]; simp)
      obtain ⟨gw, pw, ow, _⟩ := Good.wipe vs gm hno
      have pm : Pst (SO C σ L) H1 (SO { C with B := Plus C.B A } σ L) Hi := fun b o e hb ht => by
        refine ⟨(pi.1 b o e (fun z => hb (g.tnS b z)) ht).1, fun z => ?_⟩
        rw [so_more] at z
        rcases z with z | z
        · exact hb z
        · rw [z, hA] at e; cases e
      have gw0 : Good (C0 C (Plus C.B A)) (L2.wipe σ vs) Hi (wipeL L vs) := gw.toE
      obtain ⟨l1, l2⟩ := ls (SO (C0 C (Plus C.B A)) (L2.wipe σ vs) (wipeL L vs)) Hi (pm.trans pw) gw.dom
      by_cases hlt : i < ds.length
      · obtain ⟨d, hd, hdr⟩ := drop_at hlt
        obtain ⟨l3, l4⟩ := l1 i d hd
        rw [hdr] at hri
        obtain ⟨o, W3, r1, hst, hrest, hrr⟩ := lc_fst hri
        refine .inr ⟨l3, fun H' => ∃ Wi acc ad r', PstE C.G H1 H' ∧ H' A = some (.lst acc) ∧ RepL C.w C.G (Plus (SO C σ L) A) H' acc ad ∧ WR C.G H' Wi ∧ lcD (lcStep Γ cf tp vs cond elt' L) (ds.drop (i + 1)) Wi = .ok r' W2 ∧ ad ++ r' = r, fun H' n => ⟨ds.length - (i + 1), by omega, rfl, hlt, n⟩, fun x H2 y => ?_⟩
        obtain ⟨sm, rx⟩ := l4 x H2 y
        have g2 : Good (C0 C (Plus C.B A)) (L2.wipe σ vs) H2 (wipeL L vs) := gw0.pst (same_pst sm)
        refine ⟨Plus C.B A, wipeL L vs, Wi, d, g2, wri.same sm, rx, ?_⟩
        unfold lcStep at hst
        cases e1 : asgT Γ cf tp (d, .fr) (wipeL L vs) Wi with
        | stk => rw [e1] at hst; cases hst
        | err x W4 => rw [e1] at hst; cases hst
        | ok L1 W4 =>
          rw [e1] at hst
          simp only [Rs.bind_ok] at hst
          intro σ3 H3 p3 kp3 oa3 sl3 pu3 g3 wr3
          have p13 : PstE C.G Hi H3 := (same_pst sm).trans (pu3 hpu)
          have len3 : σ3.length = σ.length := by
            rw [g3.len, asgT_len e1, ← gw.len, wipe_length]
          refine ⟨wipe_eq len3 fun j hj => sl3 j fun z => hj (hsl j z), Plus C.B A, L1, W4, g3, wr3, ?_⟩
          have sup : ∀ b, Plus (SO C σ L) A b → SO (C0 C (Plus C.B A)) σ3 L1 b := fun b z => by
            rcases z with (z | z) | z
            · exact .inl (.inl z)
            · obtain ⟨j, d2, x1, x2⟩ := ow b z
              have hj : j ∉ tp.sl := fun zz => by
                have := wipe_out' (σ := σ) (hsl j zz) (by
                  by_cases h : j < σ.length
                  · exact h
                  · rw [List.getElem?_eq_none (by rw [wipe_length]; omega)] at x2; cases x2)
                rw [this] at x2
                cases x2
              obtain ⟨d3, h3⟩ := isOwnSl_ok (asgT_keep e1 j hj (by rw [x1]; rfl))
              exact .inr ⟨j, d3, h3, (sl3 j hj).trans x2⟩
            · exact .inl (.inr z)
          have tS : ∀ b, TN C.G.T b → Plus (SO C σ L) A b := fun b z => .inl (g.tnS b z)
          -- what is at a later heap
          have later : ∀ H', PstE C.G H3 H' → PstE C.G H1 H' ∧ H' A = some (.lst acc) ∧ RepL C.w C.G (Plus (SO C σ L) A) H' acc ad := fun H' p => by
            have q := p13.trans p
            exact ⟨pi.trans q, (q.1 A _ hAi nT (fun z => z)).1, repL_pst (pstE_to tS q) ra⟩
          -- the test
          cases e2 : (semE Γ cf cond L1 W4).tru with
          | stk => rw [e2] at hst; cases hst
          | err x W5 => rw [e2] at hst; cases hst
          | ok k W5 =>
            rw [e2] at hst
            simp only [Rs.bind_ok] at hst
            have e2 : semT Γ cf cond L1 W4 = .ok k W5 := e2
            show post (C0 C (Plus C.B A)) _ H3 relB (semT Γ cf cond L1 W4) _
            rw [e2]
            intro k' H4 p4 wr4 ek
            cases ek
            cases k with
            | false =>
              rw [if_neg Bool.false_ne_true] at hst ⊢
              cases hst
              obtain ⟨q1, q2, q3⟩ := later H4 p4
              exact ⟨W3, acc, ad, r1, q1, q2, q3, wr4, hrest, by rw [← hcat, hrr]⟩
            | true =>
              rw [if_pos rfl] at hst ⊢
              refine ⟨Plus C.B A, L1, W5, g3.pst p4, wr4, ?_⟩
              cases e3 : semE Γ cf elt' L1 W5 with
              | stk => rw [e3] at hst; cases hst
              | err x W6 => rw [e3] at hst; cases hst
              | ok x W6 =>
                rw [e3] at hst
                simp only [Rs.bind_ok] at hst
                split at hst
                · rename_i hna
                  cases hst
                  intro y H5 p5 wr5 ry
                  obtain ⟨q1, q2, q3⟩ := later H5 (p4.trans p5)
                  have ry' : Rep C.w C.G (SO (C0 C (Plus C.B A)) σ3 L1) H5 y x.1 := ry.rep (dom_pst p4 g3.dom) (by obtain ⟨d, f⟩ := x; cases f <;> first | trivial | cases hna)
                  have hr : r = ad ++ (x.1 :: r1) := by rw [← hcat, hrr]
                  refine ⟨acc, q2, ?_, W3, acc ++ [y], ad ++ [x.1], r1, ⟨fun b o e h1 h2 => ?_, fun b hb => ?_⟩, upd_same, ?_, wr5.upd nT ⟨_, q2, fun z => z, fun qq z => (by unfold LamX.CodeO at z; cases z)⟩, hrest, by rw [hr]; simp⟩
                  · have e1 := q3.len
                    have e2 : r.length = ad.length + (r1.length + 1) := by rw [hr]; simp
                    omega
                  · have hb : b ≠ A := fun z => by rw [z, hA] at e; cases e
                    exact ⟨(upd_ne hb).trans (q1.1 b o e h1 h2).1, h1⟩
                  · by_cases z : b = A
                    · rw [z, upd_same]; simp
                    · rw [upd_ne z]; exact q1.2 b hb
                  · exact (repL_pst (pst_upd (.inr rfl)) q3).append (.cons (rep_pst (pst_upd (.inr rfl)) (rep_mono sup ry')) .nil)
                · cases hst
      · have ei : i = ds.length := by omega
        subst ei
        refine .inl ⟨l2, ?_⟩
        rw [List.drop_length] at hri
        unfold lcD at hri
        cases hri
        rw [List.append_nil] at hcat
        subst hcat
        refine h _ Hi (p1.trans pi) wri ⟨A, rfl, none_back p1 hA, acc, hAi, ra⟩
    · exact h.elim
theorem d_lc {elt tg iter : Expr} {ifs : List Expr} {scope : Scope} {own : List (Str × Nat)} {tp : TP} {it : IX} {vs : List Nat} {cond elt' : EX} (hc : X.calm = true) (hN : X.N.Nodup) (hi : PI X tg iter (tI C (semI Γ cf it))) (ok : BlkOk X.N X.env.scope scope own) (hvs : own.map (·.2) = vs) (hsl : ∀ i ∈ tp.sl, i ∈ vs) (hpu : tp.pu = true)
    (hg : ∀ (B : Addr → Prop) (s : Shared) (H : Hp) (c : Addr) (cl : List (Str × Addr)) (fp : List Addr), PG (X.blk s H scope (compEnvC scope cl c X.env) fp) tg (gF (C0 C B) tp.ip (asgT Γ cf tp)))
    (ht : ∀ (B : Addr → Prop) (s : Shared) (H : Hp) (c : Addr) (cl : List (Str × Addr)) (fp : List Addr), PTs (X.blk s H scope (compEnvC scope cl c X.env) fp) ifs (tDt (C0 C B) (semT Γ cf cond)))
    (he : ∀ (B : Addr → Prop) (s : Shared) (H : Hp) (c : Addr) (cl : List (Str × Addr)) (fp : List Addr), PE (X.blk s H scope (compEnvC scope cl c X.env) fp) elt (tD (C0 C B) (semE Γ cf elt')))
    (hs : ∀ x, foldedSetIterable iter X.env x = pure x) : PE X (.ListComp elt [⟨tg, iter, ifs, 0⟩] scope pos) (tD C (semE Γ cf (.lc tp it vs cond elt'))) := by
  have hpe := pe_lc (pos := pos) hc hN hi ok (g := gX C tp.ip (asgT Γ cf tp)) (tt := ttX C (semT Γ cf cond)) (te := tX C (semE Γ cf elt')) (fun s H c cl fp => ⟨fun pins s' σ H v u Q I r ⟨B, q⟩ => (hg B s _ c cl fp).run pins s' σ H v u Q I r q⟩) (fun s H c cl fp => ⟨fun pins s' σ H Q I ⟨B, q⟩ => (ht B s _ c cl fp).run pins s' σ H Q I q⟩) (fun s H c cl fp => ⟨fun pins s' σ H Q I ⟨B, q⟩ => (he B s _ c cl fp).run pins s' σ H Q I q⟩) hs
  rw [hvs] at hpe
  exact pe_imp hpe fun σ H Q h => lc_imp hsl hpu h
/-- name = [..] on one line, the name a local -/
theorem s_lc {i : Nat} {y : Str} {py spos : Pos} {elt tg iter : Expr} {ifs : List Expr} {scope : Scope} {own : List (Str × Nat)} {tp : TP} {it : IX} {vs : List Nat} {cond elt' : EX} (hc : X.calm = true) (hN : X.N.Nodup) (hi : PI X tg iter (tI C (semI Γ cf it))) (ok : BlkOk X.N X.env.scope scope own) (hvs : own.map (·.2) = vs) (hsl : ∀ i ∈ tp.sl, i ∈ vs) (hpu : tp.pu = true)
    (hg : ∀ (B : Addr → Prop) (s : Shared) (H : Hp) (c : Addr) (cl : List (Str × Addr)) (fp : List Addr), PG (X.blk s H scope (compEnvC scope cl c X.env) fp) tg (gF (C0 C B) tp.ip (asgT Γ cf tp)))
    (ht : ∀ (B : Addr → Prop) (s : Shared) (H : Hp) (c : Addr) (cl : List (Str × Addr)) (fp : List Addr), PTs (X.blk s H scope (compEnvC scope cl c X.env) fp) ifs (tDt (C0 C B) (semT Γ cf cond)))
    (he : ∀ (B : Addr → Prop) (s : Shared) (H : Hp) (c : Addr) (cl : List (Str × Addr)) (fp : List Addr), PE (X.blk s H scope (compEnvC scope cl c X.env) fp) elt (tD (C0 C B) (semE Γ cf elt')))
    (hs : ∀ x, foldedSetIterable iter X.env x = pure x) (hy : X.N[i]? = some y) (hyl : X.env.scope.names.lookup y = some .local) (hsw : swapsWith (.ListComp elt [⟨tg, iter, ifs, 0⟩] scope pos) (some (.Name y py)) spos.line X.env = pure true) :
    PS X (.Assign [.Name y py] (.ListComp elt [⟨tg, iter, ifs, 0⟩] scope pos) spos) (tS C (semS Γ cf (.asg (.nm i) (.lc tp it vs cond elt')))) := by
  have hpe := ps_setLc (pos := pos) (spos := spos) (py := py) hc hN hy hyl hsw hi ok (g := gX C tp.ip (asgT Γ cf tp)) (tt := ttX C (semT Γ cf cond)) (te := tX C (semE Γ cf elt')) (fun s H c cl fp => ⟨fun pins s' σ H v u Q I r ⟨B, q⟩ => (hg B s _ c cl fp).run pins s' σ H v u Q I r q⟩) (fun s H c cl fp => ⟨fun pins s' σ H Q I ⟨B, q⟩ => (ht B s _ c cl fp).run pins s' σ H Q I q⟩) (fun s H c cl fp => ⟨fun pins s' σ H Q I ⟨B, q⟩ => (he B s _ c cl fp).run pins s' σ H Q I q⟩) hs
  rw [hvs] at hpe
  refine ps_imp hpe fun D0 σ H ⟨L, W, g, wr, h⟩ => ?_
  unfold semS at h
  refine lc_imp hsl hpu ⟨L, W, g, wr, postS_e g h fun r W1 v H1 _ p1 wr1 rx h => ?_⟩
  unfold asgT at h
  cases e : setSl i r L W1 with
  | ok L1 W2 =>
    obtain ⟨sl, e1, e2, e3, e4⟩ := setSl_own e
    subst e3 e4
    rw [e] at h
    obtain ⟨g', pst⟩ := g.set p1 e2 rx e1
    exact h _ H1 pst g' wr1
  | err x W2 => exact (setSl_err e).elim
  | stk => rw [e] at h; exact h.elim
end
end Dl

set_option maxRecDepth 100000
set_option maxHeartbeats 4000000
/-! D18: what loops walk. -/
namespace PySem
open Sem (wp)
set_option maxHeartbeats 1000000 in
theorem meets_enumerate_new1B {v : Value} {o : Obj} {H : Heap → Prop} (B : Begins v o H) :
    Meets (Builtin.«enumerate.__new__» ⟨[.type "enumerate", v], []⟩) (fun _ R s => H s.heap ∧
      R (.ok (.ret (.ref (s.heap.push o).objs.size))) { s with heap := (s.heap.push o).push { cls := .type "enumerate", data := .fields #[.none, .bool false, .ref s.heap.objs.size, rawInt 0, .none, .none] } }) :=
  .of_wp fun prog w A R s h => by
    obtain ⟨hp, g, d, tk, os⟩ := s; obtain ⟨h1, h⟩ := h
    have hsub := sub_enumerate
    have q1 : ∀ {A' : Around} {E : Value → Shared → Prop} {Q : Value → Shared → Prop}, Q (.ref hp.objs.size) ⟨hp.push o, g, d, tk, os⟩ → wpAny (model prog w) A' (pyIter v) Q E ⟨hp, g, d, tk, os⟩ :=
      fun q => B.iter prog w _ _ ⟨hp, g, d, tk, os⟩ _ h1 q
    wp_walk using q1
    refine wpAny_stack_any fun st => wpAny_pure ?_
    split
    · rename_i c _ _ _ _ _
      cases (c == Value.type "enumerate")
      · wp_walk using q1
        exact ⟨_, rfl, h⟩
      · wp_walk using q1
        exact ⟨_, rfl, h⟩
    · wp_walk using q1
      exact ⟨_, rfl, h⟩
section
variable {prog : Program} {w : World} {A : Around} {E : Value → Shared → Prop} {s : Shared}
/-- enumerate(v): its two new cells -/
theorem enum_begins1 {v : Value} {o : Obj} {H : Heap → Prop} {Q : Value → Shared → Prop} (B : Begins v o H) (h1 : H s.heap)
    (h : ∀ h', IsEnum h' (s.heap.objs.size + 1) s.heap.objs.size 0 .none → h'.get? s.heap.objs.size = some o → h'.objs.size = s.heap.objs.size + 2 →
      (∀ b o, s.heap.get? b = some o → h'.get? b = some o) → Q (.ref (s.heap.objs.size + 1)) { s with heap := h' }) :
    wpAny (model prog w) A (call (.type "enumerate") [v]) Q E s := by
  refine callType_new F.called_enumerate (by decide) (F.typeCall_enumerate_1 _) (F.newCall_enumerate_1 _) (fun obj => F.args_object_init_2 obj _) F.entry_enumerate_new
    (meets_enumerate_new1B B) ⟨h1, ?_⟩
  have hz : (s.heap.push o).objs.size = s.heap.objs.size + 1 := Heap.size_push ..
  show _ ∧ _
  rw [hz]
  have he : IsEnum ((s.heap.push o).push { cls := .type "enumerate", data := .fields #[.none, .bool false, .ref s.heap.objs.size, rawInt 0, .none, .none] }) (s.heap.objs.size + 1) s.heap.objs.size 0 .none := by
    have := Heap.get?_push_size (s.heap.push o) (o := { cls := .type "enumerate", data := .fields #[.none, .bool false, .ref s.heap.objs.size, rawInt 0, .none, .none] }) rfl
    rw [hz] at this; exact this
  refine ⟨⟨_, he, rfl⟩, h _ he (Heap.get?_push_of_some _ (Heap.get?_push_size _ B.free)) (by rw [Heap.size_push, hz]) fun b o x => Heap.get?_push_of_some _ (Heap.get?_push_of_some _ x)⟩
end
end PySem
namespace Dl
open PySem PySem.Spec PyProof.Rows L2
/-! ### enumerate(tuple) -/
def IteT (K : PySem.W.Frag) (a : Addr) : It :=
  ⟨fun i H => ∃ (xs : List V) (x : V), SqT K H a xs ∧ xs[i]? = some x, fun i H v H' => ∃ T x, v = .ref T ∧ H T = none ∧ H' = upd H T (.tup [.int (i : Nat), x]) ∧ ∀ xs, SqT K H a xs → xs[i]? = some x, fun i H => ∃ xs : List V, SqT K H a xs ∧ xs.length = i⟩
theorem turn_enumT {P : Program} {w : World} {K : PySem.W.Frag} {elts : List Expr} {kk : Nat} {tpos : Pos} (a e it : Addr) :
    Turn P w K (.Tuple elts kk tpos) (IteT K a) [e, it] e (fun i h => (∃ old, IsEnum h e it ((i : Nat) : Int) old) ∧ h.IsTupleIter it a i ∧ e ≠ it ∧ a ≠ it) where
  mem := by simp
  obj := fun i h st b hb => by
    obtain ⟨⟨old, he⟩, ⟨o, ho, hc, hd⟩, _⟩ := st
    have e' : b = e ∨ b = it := by simpa using hb
    rcases e' with z | z
    · rw [z]; exact ⟨_, he, fun v q => nomatch q⟩
    · rw [z]; exact ⟨o, ho, fun v q => by rw [hd] at q; cases q⟩
  keep := fun i h h' st k => let ⟨⟨old, he⟩, hi, hne⟩ := st; ⟨⟨old, k e (by simp) _ he⟩, hi.at fun o q => k it (by simp) o q, hne⟩
  item := by
    intro X hP hw hK hc i pins s σ H E I hf st hg
    subst hP hw hK
    obtain ⟨⟨old, he⟩, hit, hne, hna⟩ := st
    obtain ⟨xs, x, hq, hx⟩ := hg
    obtain ⟨its, rv, p, hz⟩ := I.tuple hq
    obtain ⟨u, hu, ru⟩ := rv.get hx
    have hel : e < s.heap.objs.size := Heap.lt_size he
    have hil : it < s.heap.objs.size := by obtain ⟨_, q, _⟩ := hit; exact Heap.lt_size q
    have D := Draws.tuple (prog := X.prog) (w := X.w) (A := X.A.in1) (I.ok.hd hc) it a hna its.toArray
    have hae : a ≠ e := fun z => by
      obtain ⟨ob, q1, q2, _⟩ := (show s.heap.IsTuple a its.toArray from p)
      rw [z, he] at q1
      cases q1
      injection q2 with q2
      exact absurd q2 (by decide)
    refine wpAny_pyNext_enum_itemD D he ⟨hit, p⟩ (by have := rv.length; have := (List.getElem?_eq_some_iff.mp hx).1; simp; omega) hne (by simp [hne, Ne.symm hae]) fun y h' tk hy ho hit' hT hsz hk => ?_
    have ey : y = u := by
      have hu' : its.toArray[i]? = some u := by simpa using hu
      rw [hy] at hu'
      exact Option.some.inj hu'
    subst ey
    refine ⟨_, rfl, wpAny_letOwnedTupleGo_enum (s := { s with heap := h', toks := tk + 1 }) ho fun h'' he' sb => ?_⟩
    have hT2 : h''.get? s.heap.objs.size = some { cls := .type "tuple", data := .seq #[.int i tk, y] } := (sb.2 _ (Nat.ne_of_gt hel)).trans hT
    have new : ObjOk X.prog X.w (upd H s.heap.objs.size (.tup [.int (i : Nat), x])) h'' s.heap.objs.size (.tup [.int (i : Nat), x]) :=
      ⟨by show 2 ≤ sizeLine; decide, [.int i tk, y], .cons ⟨_, rfl⟩ (.cons ru .nil), ⟨_, hT2, rfl, _, rfl⟩⟩
    have I1 : Inv X pins σ (upd H s.heap.objs.size (.tup [.int (i : Nat), x])) { s with heap := h'', toks := tk + 1 } :=
      I.turnedNew (ch := [e, it]) (fun b ob hb q => (sb.2 b (fun z => hb (by simp [z]))).trans (hk b ob (fun z => hb (by simp [z])) (fun z => hb (by simp [z])) q)) hf (Nat.le_refl _) new
    refine ⟨.ref s.heap.objs.size, _, I1, rfl, ⟨_, x, rfl, I.hok.fresh (Nat.le_refl _), rfl, fun ys hy => by rw [I.tuple_inj hy hq]; exact hx⟩, ⟨⟨y, ?_⟩, hit'.1.at fun o q => (sb.2 it (Ne.symm hne)).trans q, hne, hna⟩, fun b hb => ?_⟩
    · have e1 : ((i + 1 : Nat) : Int) = (i : Int) + 1 := by omega
      rw [e1]; exact he'
    · have hb' : b < s.heap.objs.size := by
        have e' : b = e ∨ b = it := by simpa using hb
        rcases e' with z | z
        · rw [z]; exact hel
        · rw [z]; exact hil
      rw [upd_ne (Nat.ne_of_lt hb')]
      exact (hf b hb).1
  done := by
    intro X hP hw hK hc i pins s σ H E I hf st hg
    subst hP hw hK
    obtain ⟨⟨old, he⟩, hit, hne, hna⟩ := st
    obtain ⟨xs, hq, hx⟩ := hg
    obtain ⟨its, rv, p, hz⟩ := I.tuple hq
    obtain ⟨f0, f1, f2, f3, f4, f5⟩ := hf it (by simp)
    have hl := rv.length
    have hi : i = its.toArray.size := by simp; omega
    subst hi
    have D := Draws.tuple (prog := X.prog) (w := X.w) (A := X.A.in1) (I.ok.hd hc) it a hna its.toArray
    exact wpAny_pyNext_enum_endD D he ⟨hit, p⟩ fun h' eb => ⟨rfl, I.turned (t' := s.toks) (fun b o hb q => eb b o hb q) f0 f1 f3 f4 f5⟩
  self := fun A i s Q E st h => let ⟨⟨_, he⟩, _⟩ := st; wpAny_pyIter_enum he h
/-- enumerate of a list or a tuple -/
def iEnumA (K : PySem.W.Frag) (te : TE) : TI := fun σ H R => te σ H fun v H1 => ∃ a, [v] = [V.ref a] ∧ (((∃ xs, SqL K H1 a xs) ∧ R (Ite K a) H1) ∨ ((∃ xs, SqT K H1 a xs) ∧ R (IteT K a) H1))
section
variable {X : Cx} {C : Cd} {Γ : Tbl} {cf : CF} {w : World} {G : Gl0} {B S : Addr → Prop} {H H' H1 H2 : Hp} {σ σ' : L2.St} {L L' : Lcl} {v : V}
variable {a b c : Expr} {ea eb ec : EX} {pos : Pos} {tg : Expr}
theorem pi_enumA {e : Expr} {te : TE} {p pos tpos : Pos} {elts : List Expr} {kk : Nat} (hg : Gl X "enumerate") (hm : X.mg "enumerate" = none) (he : PE X e te) (hs : starEach [e] X.env = (false, eval e X.env) :: starEach [] X.env) :
    PI X (.Tuple elts kk tpos) (.Call (.Name "enumerate" p) [e] [] pos) (iEnumA X.K te) := by
  refine ⟨fun pins s σ H R I h => ?_⟩
  refine Call_ (ld_blt I hg hm boot_enumerate (PyProof.Rows.callWith_type1 (thn ((pa_cons he pa_nil hs).run pos pins s σ H (fun vs H1 => ∃ a, vs = [V.ref a] ∧ (((∃ xs, SqL X.K H1 a xs) ∧ R (Ite X.K a) H1) ∨ ((∃ xs, SqT X.K H1 a xs) ∧ R (IteT X.K a) H1))) I h) fun us s1 ⟨vs, H1, I1, r1, q1⟩ => ?_) hs rfl))
  obtain ⟨a, ex, q⟩ := q1
  subst ex
  cases r1 with
  | cons r rr =>
    cases rr
    cases r
    have fin : ∀ b, b ∈ [s1.heap.objs.size + 1, s1.heap.objs.size] → FpOk X pins H1 b := fun b hb => by
      have e' : b = s1.heap.objs.size + 1 ∨ b = s1.heap.objs.size := by simpa using hb
      have hle : s1.heap.objs.size ≤ b := by
        rcases e' with z | z
        · rw [z]; exact Nat.le_add_right _ _
        · rw [z]; exact Nat.le_refl _
      exact I1.fpOk hle (I1.hok.fresh hle)
    rcases q with ⟨⟨xs, hq⟩, q⟩ | ⟨⟨xs, hq⟩, q⟩
    · obtain ⟨its, rv, p', hz⟩ := I1.list hq
      refine call_enumerate_list p'.isList fun h' he hit hsz hk => wpAny_pyIter_enum he ?_
      have I2 : Inv X pins σ H1 { s1 with heap := h' } := I1.kept (t' := s1.toks) hk
      exact ⟨s1.heap.objs.size + 1, [s1.heap.objs.size + 1, s1.heap.objs.size], _, _, H1, rfl, I2, turn_enum a (s1.heap.objs.size + 1) s1.heap.objs.size, ⟨⟨.none, he⟩, hit, Nat.succ_ne_self _⟩, fin, q⟩
    · obtain ⟨its, rv, p', hz⟩ := I1.tuple hq
      have pt : s1.heap.IsTuple a its.toArray := p'
      have la : a < s1.heap.objs.size := by obtain ⟨ob, q1, _⟩ := pt; exact Heap.lt_size q1
      refine PySem.enum_begins1 (begins_tuple a its.toArray) pt fun h' he hit hsz hk => wpAny_pyIter_enum he ?_
      have I2 : Inv X pins σ H1 { s1 with heap := h' } := I1.kept (t' := s1.toks) hk
      exact ⟨s1.heap.objs.size + 1, [s1.heap.objs.size + 1, s1.heap.objs.size], _, _, H1, rfl, I2, turn_enumT a (s1.heap.objs.size + 1) s1.heap.objs.size, ⟨⟨.none, he⟩, ⟨_, hit, rfl, rfl⟩, Nat.succ_ne_self _, Nat.ne_of_lt la⟩, fin, q⟩
theorem pi_seq {l : Expr} {tl : TE} (hl : PE X l tl) : PI X tg l (fun σ H R => tl σ H fun x H1 => ∃ a, x = .ref a ∧ (((∃ xs, SqL X.K H1 a xs) ∧ R (Itl X.K a) H1) ∨ ((∃ xs, SqT X.K H1 a xs) ∧ R (Itt X.K a) H1))) := by
  refine ⟨fun pins s σ H R I h => ?_⟩
  refine thn (hl.run pins s σ H _ I h) fun v s1 ⟨x, H1, I1, r1, q1⟩ => ?_
  obtain ⟨a, e, q⟩ := q1
  subst e
  cases r1
  rcases q with ⟨⟨xs, hq⟩, q⟩ | ⟨⟨xs, hq⟩, q⟩
  · obtain ⟨its, rv, p, hz⟩ := I1.list hq
    refine wpAny_pyIter_list p.isList ?_
    refine ⟨s1.heap.objs.size, [s1.heap.objs.size], _, _, H1, rfl, I1.kept (t' := s1.toks) fun b o e => Heap.get?_push_of_some _ e, turn_list a _, ⟨_, Heap.get?_push_size _ rfl, rfl, rfl⟩, fun b hb => ?_, q⟩
    have e : b = s1.heap.objs.size := by simpa using hb
    subst e
    exact I1.fpOk (Nat.le_refl _) (I1.hok.fresh (Nat.le_refl _))
  · obtain ⟨its, rv, p, hz⟩ := I1.tuple hq
    refine wpAny_pyIter_tuple (show s1.heap.IsTuple a its.toArray from p) ?_
    refine ⟨s1.heap.objs.size, [s1.heap.objs.size], _, _, H1, rfl, I1.kept (t' := s1.toks) fun b o e => Heap.get?_push_of_some _ e, turn_tuple a _, ⟨_, Heap.get?_push_size _ rfl, rfl, rfl⟩, fun b hb => ?_, q⟩
    have e : b = s1.heap.objs.size := by simpa using hb
    subst e
    exact I1.fpOk (Nat.le_refl _) (I1.hok.fresh (Nat.le_refl _))
theorem pi_imp {it : Expr} {wi wi' : TI} (h : PI X tg it wi) (hi : ∀ σ H R, wi' σ H R → wi σ H R) : PI X tg it wi' := ⟨fun pins s σ H R I q => h.run pins s σ H R I (hi _ _ _ q)⟩
/-- what a list or a tuple shows -/
theorem RepL.at' {xs : List V} {ds : List D} (h : RepL w G S H xs ds) {i : Nat} {d : D} (e : ds[i]? = some d) : ∃ y, xs[i]? = some y ∧ Rep w G S H y d := h.get e
theorem lists_l {q : Addr} {ds : List D} (hK : X.K = C.G.K) (r : Rep C.w C.G S H (.ref q) (.lst ds)) : (∃ xs, SqL X.K H q xs) ∧ Lists C S (Itl X.K q) H ds := by
  have go : ∀ S' H', Rep C.w C.G S' H' (.ref q) (.lst ds) → ∃ xs, SqL X.K H' q xs ∧ RepL C.w C.G S' H' xs ds := fun S' H' r => by
    cases r with
    | lst h1 h2 h3 => exact ⟨_, .inl (.of h2), h3⟩
  obtain ⟨xs, h1, _⟩ := go _ _ r
  refine ⟨⟨xs, h1⟩, fun S' H' p _ => ?_⟩
  obtain ⟨xs, h1, h2⟩ := go _ _ (rep_pst p r)
  refine ⟨fun i d e => ?_, ⟨xs, h1, by rw [h2.len]; exact Nat.le_refl _⟩⟩
  obtain ⟨y, h3, h4⟩ := h2.get e
  refine ⟨⟨xs, y, h1, h3⟩, fun x H'' z => ?_⟩
  obtain ⟨z1, z2⟩ := z
  subst z1
  have z3 := z2 xs h1
  rw [h3] at z3
  cases z3
  exact ⟨fun _ _ e => e, h4⟩
theorem sqt_of {q : Addr} {ds : List D} (hK : X.K = C.G.K) (r : Rep C.w C.G S H (.ref q) (.tup ds)) : ∃ xs, SqT X.K H q xs ∧ RepL C.w C.G S H xs ds := by
  cases r with
  | tup h1 h2 h3 => exact ⟨_, .inl (.of h2), h3⟩
  | tupK h2 h3 => exact ⟨_, .inr (by rw [hK]; exact h2), h3⟩
theorem sql_of {q : Addr} {ds : List D} (r : Rep C.w C.G S H (.ref q) (.lst ds)) : ∃ xs, SqL X.K H q xs ∧ RepL C.w C.G S H xs ds := by
  cases r with
  | lst h1 h2 h3 => exact ⟨_, .inl (.of h2), h3⟩
theorem lists_t {q : Addr} {ds : List D} (hK : X.K = C.G.K) (r : Rep C.w C.G S H (.ref q) (.tup ds)) : (∃ xs, SqT X.K H q xs) ∧ Lists C S (Itt X.K q) H ds := by
  obtain ⟨xs, h1, _⟩ := sqt_of hK r
  refine ⟨⟨xs, h1⟩, fun S' H' p _ => ?_⟩
  obtain ⟨xs, h1, h2⟩ := sqt_of hK (rep_pst p r)
  refine ⟨fun i d e => ?_, ⟨xs, h1, by rw [h2.len]; exact Nat.le_refl _⟩⟩
  obtain ⟨y, h3, h4⟩ := h2.get e
  refine ⟨⟨xs, y, h1, h3⟩, fun x H'' z => ?_⟩
  obtain ⟨z1, z2⟩ := z
  subst z1
  have z3 := z2 xs h1
  rw [h3] at z3
  cases z3
  exact ⟨fun _ _ e => e, h4⟩
theorem enumD_get : ∀ {ds : List D} {n i : Nat} {d : D}, (enumD ds n)[i]? = some d → ∃ x, ds[i]? = some x ∧ d = .tup [.int ((n + i : Nat) : Int), x]
  | [], n, i, d, e => by simp [enumD] at e
  | x :: ds, n, 0, d, e => by
    simp [enumD] at e
    exact ⟨x, rfl, e.symm⟩
  | x :: ds, n, i + 1, d, e => by
    have e : (enumD ds (n + 1))[i]? = some d := by simpa [enumD] using e
    obtain ⟨y, h1, h2⟩ := enumD_get e
    exact ⟨y, by simpa using h1, by rw [h2, show n + 1 + i = n + (i + 1) by omega]⟩
theorem enumD_len : ∀ (ds : List D) (n : Nat), (enumD ds n).length = ds.length
  | [], _ => rfl
  | x :: ds, n => by rw [enumD, List.length_cons, List.length_cons, enumD_len ds]
/-- a new pair -/
theorem rep_pair {T : Addr} {x y : V} {d e : D} (n : H T = none) (dom : ∀ b, S b → H b ≠ none) (h1 : Rep w G S H x d) (h2 : Rep w G S H y e) : Same H (upd H T (.tup [x, y])) ∧ Rep w G S (upd H T (.tup [x, y])) (.ref T) (.tup [d, e]) := by
  have s : Same H (upd H T (.tup [x, y])) := same_new n
  exact ⟨s, .tup (fun z => dom T z n) upd_same (.cons (rep_same s h1) (.cons (rep_same s h2) .nil))⟩
theorem lists_el {q : Addr} {ds : List D} (r : Rep C.w C.G S H (.ref q) (.lst ds)) : (∃ xs, SqL X.K H q xs) ∧ Lists C S (Ite X.K q) H (enumD ds 0) := by
  obtain ⟨xs, h1, _⟩ := sql_of (X := X) r
  refine ⟨⟨xs, h1⟩, fun S' H' p dom => ?_⟩
  obtain ⟨xs, h1, h2⟩ := sql_of (X := X) (rep_pst p r)
  refine ⟨fun i d e => ?_, ⟨xs, h1, by rw [h2.len, enumD_len]; exact Nat.le_refl _⟩⟩
  obtain ⟨x, e1, e2⟩ := enumD_get e
  obtain ⟨y, h3, h4⟩ := h2.get e1
  refine ⟨⟨xs, y, h1, h3⟩, fun v H'' z => ?_⟩
  obtain ⟨T, x', rfl, n, rfl, z2⟩ := z
  have z3 := z2 xs h1
  rw [h3] at z3
  cases z3
  subst e2
  rw [Nat.zero_add]
  exact rep_pair n dom (.int _) h4
theorem lists_et {q : Addr} {ds : List D} (hK : X.K = C.G.K) (r : Rep C.w C.G S H (.ref q) (.tup ds)) : (∃ xs, SqT X.K H q xs) ∧ Lists C S (IteT X.K q) H (enumD ds 0) := by
  obtain ⟨xs, h1, _⟩ := sqt_of hK r
  refine ⟨⟨xs, h1⟩, fun S' H' p dom => ?_⟩
  obtain ⟨xs, h1, h2⟩ := sqt_of hK (rep_pst p r)
  refine ⟨fun i d e => ?_, ⟨xs, h1, by rw [h2.len, enumD_len]⟩⟩
  obtain ⟨x, e1, e2⟩ := enumD_get e
  obtain ⟨y, h3, h4⟩ := h2.get e1
  refine ⟨⟨xs, y, h1, h3⟩, fun v H'' z => ?_⟩
  obtain ⟨T, x', rfl, n, rfl, z2⟩ := z
  have z3 := z2 xs h1
  rw [h3] at z3
  cases z3
  subst e2
  rw [Nat.zero_add]
  exact rep_pair n dom (.int _) h4
/-- a list, a tuple as it stands -/
theorem i_seq (hK : X.K = C.G.K) (hl : PE X a (tD C (semE Γ cf ea))) : PI X tg a (tI C (semI Γ cf (.seq ea))) := by
  refine pi_imp (pi_seq hl) fun σ H R ⟨L, W, g, wr, h⟩ => ?_
  unfold semI at h
  refine ⟨L, W, g, wr, post_bind (rel := relV C (SO C σ L) H) h fun x W1 v H1 _ p1 wr1 rx h => ?_⟩
  split at h
  · rename_i hna
    have rv : Rep C.w C.G (SO C σ L) H1 v x.1 := rx.rep g.dom (by obtain ⟨d, f⟩ := x; cases f <;> first | trivial | cases hna)
    obtain ⟨d, f⟩ := x
    cases d with
    | lst ds =>
      have h : ∀ J H', PstE C.G H H' → WR C.G H' W1 → Lists C (SO C σ L) J H' ds → R J H' := h
      obtain ⟨q, rfl⟩ : ∃ q, v = .ref q := by cases rv <;> exact ⟨_, rfl⟩
      obtain ⟨e1, e2⟩ := lists_l hK rv
      exact ⟨q, rfl, .inl ⟨e1, h _ H1 p1 wr1 e2⟩⟩
    | tup ds =>
      have h : ∀ J H', PstE C.G H H' → WR C.G H' W1 → Lists C (SO C σ L) J H' ds → R J H' := h
      obtain ⟨q, rfl⟩ : ∃ q, v = .ref q := by cases rv <;> exact ⟨_, rfl⟩
      obtain ⟨e1, e2⟩ := lists_t hK rv
      exact ⟨q, rfl, .inr ⟨e1, h _ H1 p1 wr1 e2⟩⟩
    | _ => exact h.elim
  · exact h.elim
theorem i_enum {p pos tpos : Pos} {elts : List Expr} {kk : Nat} (hK : X.K = C.G.K) (hg : Gl X "enumerate") (hm : X.mg "enumerate" = none) (hl : PE X a (tD C (semE Γ cf ea))) (hs : starEach [a] X.env = (false, eval a X.env) :: starEach [] X.env) : PI X (.Tuple elts kk tpos) (.Call (.Name "enumerate" p) [a] [] pos) (tI C (semI Γ cf (.enum ea))) := by
  refine pi_imp (pi_enumA hg hm hl hs) fun σ H R ⟨L, W, g, wr, h⟩ => ?_
  unfold semI at h
  refine ⟨L, W, g, wr, post_bind (rel := relV C (SO C σ L) H) h fun x W1 v H1 _ p1 wr1 rx h => ?_⟩
  split at h
  · rename_i hna
    have rv : Rep C.w C.G (SO C σ L) H1 v x.1 := rx.rep g.dom (by obtain ⟨d, f⟩ := x; cases f <;> first | trivial | cases hna)
    obtain ⟨d, f⟩ := x
    cases d with
    | lst ds =>
      have h : ∀ J H', PstE C.G H H' → WR C.G H' W1 → Lists C (SO C σ L) J H' (enumD ds 0) → R J H' := h
      obtain ⟨q, rfl⟩ : ∃ q, v = .ref q := by cases rv <;> exact ⟨_, rfl⟩
      obtain ⟨e1, e2⟩ := lists_el (X := X) rv
      exact ⟨q, rfl, .inl ⟨e1, h _ H1 p1 wr1 e2⟩⟩
    | tup ds =>
      have h : ∀ J H', PstE C.G H H' → WR C.G H' W1 → Lists C (SO C σ L) J H' (enumD ds 0) → R J H' := h
      obtain ⟨q, rfl⟩ : ∃ q, v = .ref q := by cases rv <;> exact ⟨_, rfl⟩
      obtain ⟨e1, e2⟩ := lists_et hK rv
      exact ⟨q, rfl, .inr ⟨e1, h _ H1 p1 wr1 e2⟩⟩
    | _ => exact h.elim
  · exact h.elim
/-! ### range, zip -/
theorem rng_get {lo : Int} {n i : Nat} {d : D} (e : ((List.range n).map fun (k : Nat) => D.int (lo + (k : Int)))[i]? = some d) : i < n ∧ d = .int (lo + i) := by
  rw [List.getElem?_map] at e
  by_cases h : i < n
  · rw [List.getElem?_range h] at e
    cases e
    exact ⟨h, rfl⟩
  · rw [List.getElem?_eq_none (by simpa using h)] at e
    cases e
theorem lists_r {lo : Int} {n : Nat} : Lists C S (Itr lo n) H (rngL lo n) := by
  intro S' H' p dom
  refine ⟨fun i d e => ?_, ?_⟩
  · obtain ⟨h1, h2⟩ := rng_get e
    subst h2
    refine ⟨h1, fun x H'' z => ?_⟩
    obtain ⟨z1, z2⟩ := z
    subst z1 z2
    exact ⟨fun _ _ e => e, .int _⟩
  · show n ≤ _
    unfold rngL
    simp
theorem i_rng1 {p : Pos} (hg : Gl X "range") (hm : X.mg "range" = none) (ha : PE X a (tD C (semE Γ cf ea))) (hs : starEach [a] X.env = (false, eval a X.env) :: starEach [] X.env) : PI X tg (.Call (.Name "range" p) [a] [] pos) (tI C (semI Γ cf (.rng1 ea))) := by
  refine pi_imp (pi_range1 hg hm (pa_cons ha pa_nil hs) hs) fun σ H R ⟨L, W, g, wr, h⟩ => ?_
  unfold semI at h
  refine ⟨L, W, g, wr, post_bind (rel := relV C (SO C σ L) H) h fun x W1 v H1 _ p1 wr1 rx h => ?_⟩
  obtain ⟨d, f⟩ := x
  cases d with
  | int j =>
    have rv := rx.any
    cases rv
    have h : post C (SO C σ L) H (fun H' J ds => Lists C (SO C σ L) J H' ds) (Rs.of (if -(2 ^ 62) ≤ j ∧ j < 2 ^ 62 then some (rngL 0 j.toNat) else none) W1) R := h
    split at h
    · rename_i hj
      exact ⟨j, rfl, hj.1, hj.2, h _ H1 p1 wr1 lists_r⟩
    · exact h.elim
  | _ => exact h.elim
theorem i_rng2 {p : Pos} (hg : Gl X "range") (hm : X.mg "range" = none) (ha : PE X a (tD C (semE Γ cf ea))) (hb : PE X b (tD C (semE Γ cf eb))) (hs : starEach [a, b] X.env = (false, eval a X.env) :: starEach [b] X.env) (hs2 : starEach [b] X.env = (false, eval b X.env) :: starEach [] X.env) :
    PI X tg (.Call (.Name "range" p) [a, b] [] pos) (tI C (semI Γ cf (.rng2 ea eb))) := by
  refine pi_imp (pi_range2 hg hm (pa_cons ha (pa_cons hb pa_nil hs2) hs) (by rw [hs, hs2]; rfl) hs2) fun σ H R ⟨L, W, g, wr, h⟩ => ?_
  unfold semI at h
  refine ⟨L, W, g, wr, ?_⟩
  refine post_bind (rel := relV C (SO C σ L) H) h fun x W1 v H1 _ p1 wr1 rx h => ?_
  refine ⟨L, W1, g.pst p1, wr1, ?_⟩
  cases e : semE Γ cf eb L W1 with
  | stk => rw [e] at h; exact h
  | err y W2 => rw [e] at h; exact fun cls dd H' p' wr' rv => h cls dd H' (p1.trans p') wr' (rv.back p1)
  | ok y W2 =>
    rw [e] at h
    intro u H2 p2 wr2 ry
    obtain ⟨d, f⟩ := x
    obtain ⟨d2, f2⟩ := y
    cases d with
    | int i =>
      cases d2 with
      | int j =>
        have rv := rx.any
        cases rv
        have rv := ry.any
        cases rv
        have h : post C (SO C σ L) H (fun H' J ds => Lists C (SO C σ L) J H' ds) (Rs.of (if -(2 ^ 62) ≤ i ∧ i < 2 ^ 62 ∧ -(2 ^ 62) ≤ j ∧ j < 2 ^ 62 then some (rngL i (j - i).toNat) else none) W2) R := h
        split at h
        · rename_i hj
          exact ⟨i, j, rfl, hj, h _ H2 (p1.trans p2) wr2 lists_r⟩
        · exact h.elim
      | _ => exact h.elim
    | _ => exact h.elim
theorem zipD_get : ∀ {as bs : List D} {i : Nat} {d : D}, (zipD as bs)[i]? = some d → ∃ x y, as[i]? = some x ∧ bs[i]? = some y ∧ d = .tup [x, y]
  | [], _, i, d, e => by simp [zipD] at e
  | _ :: _, [], i, d, e => by simp [zipD] at e
  | x :: as, y :: bs, 0, d, e => by
    simp [zipD] at e
    exact ⟨x, y, rfl, rfl, e.symm⟩
  | x :: as, y :: bs, i + 1, d, e => by
    have e : (zipD as bs)[i]? = some d := by simpa [zipD] using e
    obtain ⟨x', y', h1, h2, h3⟩ := zipD_get e
    exact ⟨x', y', by simpa using h1, by simpa using h2, h3⟩
theorem zipD_len : ∀ (as bs : List D), (zipD as bs).length = min as.length bs.length
  | [], _ => by simp [zipD]
  | _ :: _, [] => by simp [zipD]
  | x :: as, y :: bs => by rw [zipD, List.length_cons, List.length_cons, List.length_cons, zipD_len as bs]; omega
theorem lists_z {q q2 : Addr} {as bs : List D} (r : Rep C.w C.G S H (.ref q) (.lst as)) (r2 : Rep C.w C.G S H (.ref q2) (.lst bs)) : Lists C S (Itz X.K q q2) H (zipD as bs) := by
  intro S' H' p dom
  obtain ⟨xs, h1, h2⟩ := sql_of (X := X) (rep_pst p r)
  obtain ⟨ys, k1, k2⟩ := sql_of (X := X) (rep_pst p r2)
  refine ⟨fun i d e => ?_, ⟨xs, ys, h1, k1, by rw [h2.len, k2.len, zipD_len]; omega⟩⟩
  obtain ⟨x, y, e1, e2, e3⟩ := zipD_get e
  obtain ⟨vx, h3, h4⟩ := h2.get e1
  obtain ⟨vy, k3, k4⟩ := k2.get e2
  refine ⟨⟨xs, ys, vx, vy, h1, k1, h3, k3⟩, fun v H'' z => ?_⟩
  obtain ⟨T, x', y', rfl, n, rfl, z2, z3⟩ := z
  have z4 := z2 xs h1
  rw [h3] at z4
  cases z4
  have z5 := z3 ys k1
  rw [k3] at z5
  cases z5
  subst e3
  exact rep_pair n dom h4 k4
theorem lists_zt {q q2 : Addr} {as bs : List D} (hK : X.K = C.G.K) (r : Rep C.w C.G S H (.ref q) (.tup as)) (r2 : Rep C.w C.G S H (.ref q2) (.tup bs)) : Lists C S (RZ.ItzT X.K q q2) H (zipD as bs) := by
  intro S' H' p dom
  obtain ⟨xs, h1, h2⟩ := sqt_of hK (rep_pst p r)
  obtain ⟨ys, k1, k2⟩ := sqt_of hK (rep_pst p r2)
  refine ⟨fun i d e => ?_, ⟨xs, ys, h1, k1, by rw [h2.len, k2.len, zipD_len]; omega⟩⟩
  obtain ⟨x, y, e1, e2, e3⟩ := zipD_get e
  obtain ⟨vx, h3, h4⟩ := h2.get e1
  obtain ⟨vy, k3, k4⟩ := k2.get e2
  refine ⟨⟨xs, ys, vx, vy, h1, k1, h3, k3⟩, fun v H'' z => ?_⟩
  obtain ⟨T, x', y', rfl, n, rfl, z2, z3⟩ := z
  have z4 := z2 xs h1
  rw [h3] at z4
  cases z4
  have z5 := z3 ys k1
  rw [k3] at z5
  cases z5
  subst e3
  exact rep_pair n dom h4 k4
theorem i_zip {p pos tpos : Pos} {elts : List Expr} {kk : Nat} (hK : X.K = C.G.K) (hg : Gl X "zip") (hm : X.mg "zip" = none) (ha : PE X a (tD C (semE Γ cf ea))) (hb : PE X b (tD C (semE Γ cf eb))) (hs : starEach [a, b] X.env = (false, eval a X.env) :: starEach [b] X.env) (hs2 : starEach [b] X.env = (false, eval b X.env) :: starEach [] X.env) :
    PI X (.Tuple elts kk tpos) (.Call (.Name "zip" p) [a, b] [] pos) (tI C (semI Γ cf (.zip ea eb))) := by
  refine pi_imp (RZ.pi_zipA hg hm (pa_cons ha (pa_cons hb pa_nil hs2) hs) hs (by rw [hs2]; rfl)) fun σ H R ⟨L, W, g, wr, h⟩ => ?_
  unfold semI at h
  refine ⟨L, W, g, wr, ?_⟩
  refine post_bind (rel := relV C (SO C σ L) H) h fun x W1 v H1 _ p1 wr1 rx h => ?_
  refine ⟨L, W1, g.pst p1, wr1, ?_⟩
  cases e : semE Γ cf eb L W1 with
  | stk => rw [e] at h; exact h
  | err y W2 => rw [e] at h; exact fun cls dd H' p' wr' rv => h cls dd H' (p1.trans p') wr' (rv.back p1)
  | ok y W2 =>
    rw [e] at h
    intro u H2 p2 wr2 ry
    simp only [Rs.bind_ok] at h
    split at h
    · rename_i hna
      rw [Bool.and_eq_true] at hna
      have rv : Rep C.w C.G (SO C σ L) H2 v x.1 := (rx.pst p2 g.tn g.tnS g.dom).rep g.dom (by obtain ⟨d, f⟩ := x; cases f <;> first | trivial | cases hna.1)
      have ru : Rep C.w C.G (SO C σ L) H2 u y.1 := ry.rep (dom_pst p1 g.dom) (by obtain ⟨d, f⟩ := y; cases f <;> first | trivial | cases hna.2)
      obtain ⟨d, f⟩ := x
      obtain ⟨d2, f2⟩ := y
      cases d with
      | lst as =>
        cases d2 with
        | lst bs =>
          have h : ∀ J H', PstE C.G H H' → WR C.G H' W2 → Lists C (SO C σ L) J H' (zipD as bs) → R J H' := h
          obtain ⟨q, rfl⟩ : ∃ q, v = .ref q := by cases rv <;> exact ⟨_, rfl⟩
          obtain ⟨q2, rfl⟩ : ∃ q, u = .ref q := by cases ru <;> exact ⟨_, rfl⟩
          obtain ⟨xs, s1, _⟩ := sql_of (X := X) rv
          obtain ⟨ys, s2, _⟩ := sql_of (X := X) ru
          exact ⟨q, q2, xs, ys, rfl, .inl ⟨s1, s2, h _ H2 (p1.trans p2) wr2 (lists_z rv ru)⟩⟩
        | _ => exact h.elim
      | tup as =>
        cases d2 with
        | tup bs =>
          have h : ∀ J H', PstE C.G H H' → WR C.G H' W2 → Lists C (SO C σ L) J H' (zipD as bs) → R J H' := h
          obtain ⟨q, rfl⟩ : ∃ q, v = .ref q := by cases rv <;> exact ⟨_, rfl⟩
          obtain ⟨q2, rfl⟩ : ∃ q, u = .ref q := by cases ru <;> exact ⟨_, rfl⟩
          obtain ⟨xs, s1, _⟩ := sqt_of hK rv
          obtain ⟨ys, s2, _⟩ := sqt_of hK ru
          exact ⟨q, q2, xs, ys, rfl, .inr ⟨s1, s2, h _ H2 (p1.trans p2) wr2 (lists_zt hK rv ru)⟩⟩
        | _ => exact h.elim
      | _ => exact h.elim
    · exact h.elim
end
end Dl

set_option maxRecDepth 100000
set_option maxHeartbeats 4000000
/-! D19: built-in functions, slices, in, displays of dicts. -/
namespace Dl
open PySem PySem.Spec PyProof.Rows L2
/-- a built-in function by data -/
def rBl (C : Cd) (f : Bl) : List V → Hp → VK → Prop := fun vs H Q => ∃ (S : Addr → Prop) (H0 : Hp) (rs : List RV) (rv : RV), blD f (rs.map (·.1)) = some rv ∧ (∀ b, TN C.G.T b → S b) ∧ (∀ b, S b → H b ≠ none) ∧ RVs C.w C.G C.B S H0 H vs rs ∧ ∀ v H', Same H H' → RVr C.w C.G C.B S H H' v rv → Q v H'
theorem rBl_serves {C : Cd} {f : Bl} : ServesL C (rBl C f) (blD f) := fun S H0 rs rv vs H Q e tn dom r q => ⟨S, H0, rs, rv, e, tn, dom, r, q⟩
theorem callR_imp {X : Cx} {f : Value} {r r' : List V → Hp → VK → Prop} (h : CallR X f r) (hi : ∀ xs H Q, r' xs H Q → r xs H Q) : CallR X f r' := fun pins s σ H xs us Q I rv q => h pins s σ H xs us Q I rv (hi _ _ _ q)
section
variable {X : Cx} {C : Cd} {Γ : Tbl} {cf : CF} {w : World} {G : Gl0} {B S : Addr → Prop} {H H' H1 H2 : Hp} {σ σ' : L2.St} {L L' : Lcl} {v : V}
variable {a b c : Expr} {ea eb ec : EX} {pos : Pos} {tg : Expr}
theorem vs_len1 {vs : List V} {xs : List RV} (r : RVs w G B S H H' vs xs) {d : D} (e : xs.map (·.1) = [d]) : ∃ v f, vs = [v] ∧ RVr w G B S H H' v (d, f) := by
  cases r with
  | nil => cases e
  | @cons v r vs rs h t =>
    cases t with
    | nil =>
      obtain ⟨d', f⟩ := r
      cases e
      exact ⟨v, f, rfl, h⟩
    | cons _ _ => cases e
theorem vs_len2 {vs : List V} {xs : List RV} (r : RVs w G B S H H' vs xs) {d d2 : D} (e : xs.map (·.1) = [d, d2]) : ∃ v v2 f f2, vs = [v, v2] ∧ RVr w G B S H H' v (d, f) ∧ RVr w G B S H H' v2 (d2, f2) := by
  cases r with
  | nil => cases e
  | @cons v r vs rs h t =>
    cases t with
    | nil => cases e
    | @cons v2 r2 vs rs h2 t =>
      cases t with
      | nil =>
        obtain ⟨d', f⟩ := r
        obtain ⟨d2', f2⟩ := r2
        cases e
        exact ⟨v, v2, f, f2, rfl, h, h2⟩
      | cons _ _ => cases e
theorem RepL.drop : ∀ {xs : List V} {ds : List D} (n : Nat), RepL w G S H xs ds → RepL w G S H (xs.drop n) (ds.drop n)
  | _, _, 0, h => h
  | _, _, n + 1, .nil => .nil
  | _, _, n + 1, .cons _ t => RepL.drop n t
theorem RepL.take : ∀ {xs : List V} {ds : List D} (n : Nat), RepL w G S H xs ds → RepL w G S H (xs.take n) (ds.take n)
  | _, _, 0, _ => .nil
  | _, _, n + 1, .nil => .nil
  | _, _, n + 1, .cons h t => .cons h (RepL.take n t)
theorem ints_of : ∀ {ds : List D} {ns : List Int} {xs : List V}, intsD ds = some ns → RepL w G S H xs ds → xs = ns.map V.int
  | [], ns, xs, e, r => by cases e; cases r; rfl
  | .int i :: ds, ns, xs, e, r => by
    have e : (intsD ds).map (i :: ·) = some ns := e
    cases q : intsD ds with
    | none => rw [q] at e; cases e
    | some ms =>
      rw [q] at e
      cases e
      cases r with
      | cons h t => cases h; rw [ints_of q t]; rfl
theorem bls_of : ∀ {ds : List D} {ns : List Bool} {xs : List V}, blsD ds = some ns → RepL w G S H xs ds → xs = ns.map V.bl
  | [], ns, xs, e, r => by cases e; cases r; rfl
  | .bl i :: ds, ns, xs, e, r => by
    have e : (blsD ds).map (i :: ·) = some ns := e
    cases q : blsD ds with
    | none => rw [q] at e; cases e
    | some ms =>
      rw [q] at e
      cases e
      cases r with
      | cons h t => cases h; rw [bls_of q t]; rfl
theorem blD_ok {f : Bl} {ds : List D} {rv : RV} (e : blD f ds = some rv) : match f with
    | .max2 => ∃ i j, ds = [.int i, .int j] ∧ rv = (.int (if j > i then j else i), .fr)
    | .min2 => ∃ i j, ds = [.int i, .int j] ∧ rv = (.int (if j < i then j else i), .fr)
    | .len => ∃ x d, ds = [x] ∧ lenD x = some d ∧ rv = (d, .fr)
    | .int => (∃ i, ds = [.int i] ∧ rv = (.int i, .fr)) ∨ ∃ k, ds = [.bl k] ∧ rv = (.int (if k then 1 else 0), .fr)
    | .abs => ∃ i, ds = [.int i] ∧ rv = (.int (if i < 0 then -i else i), .fr)
    | .list => ∃ x xs, ds = [x] ∧ itemsD x = some xs ∧ rv = (.lst xs, .own)
    | .tuple => ∃ x xs, ds = [x] ∧ itemsD x = some xs ∧ rv = (.tup xs, .fr)
    | .sum => ∃ xs ns, ds = [.lst xs] ∧ intsD xs = some ns ∧ rv = (.int ns.sum, .fr)
    | .all => ∃ xs ns, ds = [.lst xs] ∧ blsD xs = some ns ∧ rv = (.bl (ns.all id), .fr)
    | .any => ∃ xs ns, ds = [.lst xs] ∧ blsD xs = some ns ∧ rv = (.bl (ns.any id), .fr)
    | .repr => ∃ k, ds = [.bl k] ∧ rv = (.str (if k then "True" else "False"), .fr) := by
  unfold blD at e
  split at e <;> first
    | (cases e; done)
    | (cases e; exact ⟨_, _, rfl, rfl⟩)
    | (cases e; exact ⟨_, rfl, rfl⟩)
    | (cases e; exact .inl ⟨_, rfl, rfl⟩)
    | (cases e; exact .inr ⟨_, rfl, rfl⟩)
    | (obtain ⟨y, e1, e2⟩ := Option.map_eq_some_iff.mp e; cases e2; exact ⟨_, _, rfl, e1, rfl⟩)
theorem same_refl : Same H H := fun _ _ e => e
theorem bl_abs : CallR X (.builtin "abs") (rBl C .abs) := callR_imp call_abs fun xs H Q ⟨S, H0, rs, rv, e, tn, dom, r, q⟩ => by
  obtain ⟨i, e1, rfl⟩ := blD_ok e
  obtain ⟨v, f, rfl, rv⟩ := vs_len1 r e1
  have rv := rv.any
  cases rv
  exact ⟨i, rfl, q _ H same_refl (.int _)⟩
theorem bl_int : CallR X (.type "int") (rBl C .int) := callR_imp call_int1 fun xs H Q ⟨S, H0, rs, rv, e, tn, dom, r, q⟩ => by
  rcases blD_ok e with ⟨i, e1, rfl⟩ | ⟨i, e1, rfl⟩
  · obtain ⟨v, f, rfl, rv⟩ := vs_len1 r e1
    have rv := rv.any
    cases rv
    exact .inl ⟨i, rfl, q _ H same_refl (.int _)⟩
  · obtain ⟨v, f, rfl, rv⟩ := vs_len1 r e1
    have rv := rv.any
    cases rv
    exact .inr ⟨i, rfl, q _ H same_refl (.int _)⟩
theorem bl_max2 (hc : X.calm = true) : CallR X (.builtin "max") (rBl C .max2) := callR_imp (call_max2 hc) fun xs H Q ⟨S, H0, rs, rv, e, tn, dom, r, q⟩ => by
  obtain ⟨i, j, e1, rfl⟩ := blD_ok e
  obtain ⟨v, v2, f, f2, rfl, rv, rv2⟩ := vs_len2 r e1
  have rv := rv.any
  have rv2 := rv2.any
  cases rv
  cases rv2
  exact ⟨i, j, rfl, q _ H same_refl (.int _)⟩
theorem bl_min2 (hc : X.calm = true) : CallR X (.builtin "min") (rBl C .min2) := callR_imp (call_min2 hc) fun xs H Q ⟨S, H0, rs, rv, e, tn, dom, r, q⟩ => by
  obtain ⟨i, j, e1, rfl⟩ := blD_ok e
  obtain ⟨v, v2, f, f2, rfl, rv, rv2⟩ := vs_len2 r e1
  have rv := rv.any
  have rv2 := rv2.any
  cases rv
  cases rv2
  exact ⟨i, j, rfl, q _ H same_refl (.int _)⟩
theorem bl_sum (hc : X.calm = true) : CallR X (.builtin "sum") (rBl C .sum) := callR_imp (cr_sum hc) fun xs H Q ⟨S, H0, rs, rv, e, tn, dom, r, q⟩ => by
  obtain ⟨ds, ns, e1, e2, rfl⟩ := blD_ok e
  obtain ⟨v, f, rfl, rv⟩ := vs_len1 r e1
  obtain ⟨a, xs, rfl, h1, h2⟩ := rv.lst
  have h3 := ints_of e2 h2
  subst h3
  exact ⟨a, ns, rfl, .inl (.of h1), q _ H same_refl (.int _)⟩
theorem bl_all (hc : X.calm = true) : CallR X (.builtin "all") (rBl C .all) := callR_imp (cr_all hc) fun xs H Q ⟨S, H0, rs, rv, e, tn, dom, r, q⟩ => by
  obtain ⟨ds, ns, e1, e2, rfl⟩ := blD_ok e
  obtain ⟨v, f, rfl, rv⟩ := vs_len1 r e1
  obtain ⟨a, xs, rfl, h1, h2⟩ := rv.lst
  have h3 := bls_of e2 h2
  subst h3
  exact ⟨a, ns, rfl, .inl (.of h1), q _ H same_refl (.bl _)⟩
theorem bl_any (hc : X.calm = true) : CallR X (.builtin "any") (rBl C .any) := callR_imp (cr_any hc) fun xs H Q ⟨S, H0, rs, rv, e, tn, dom, r, q⟩ => by
  obtain ⟨ds, ns, e1, e2, rfl⟩ := blD_ok e
  obtain ⟨v, f, rfl, rv⟩ := vs_len1 r e1
  obtain ⟨a, xs, rfl, h1, h2⟩ := rv.lst
  have h3 := bls_of e2 h2
  subst h3
  exact ⟨a, ns, rfl, .inl (.of h1), q _ H same_refl (.bl _)⟩
/-- the items of a list, of a tuple, wherever it stands -/
theorem items_of {x : D} {xs : List D} {f : Fl} (hK : X.K = C.G.K) (e : itemsD x = some xs) (r : RVr C.w C.G B S H H' v (x, f)) : ∃ p ys, v = .ref p ∧ RepL C.w C.G S H' ys xs ∧ ((SqL X.K H' p ys) ∨ (SqT X.K H' p ys ∧ f = .fr ∧ x = .tup xs)) := by
  cases x with
  | lst ds =>
    cases e
    obtain ⟨a, ys, rfl, h1, h2⟩ := r.lst
    exact ⟨a, ys, rfl, h2, .inl (.inl (.of h1))⟩
  | tup ds =>
    cases e
    obtain ⟨a, ys, rfl, h1, h2⟩ := r.tup
    refine ⟨a, ys, rfl, h2, .inr ⟨by rw [hK]; exact h1, ?_, rfl⟩⟩
    cases f with
    | fr => rfl
    | own => obtain ⟨_, _, _, z⟩ := r; exact z.elim
    | ali => obtain ⟨_, _, _, _, z⟩ := r; exact z.elim
  | _ => cases e
theorem bl_list (hK : X.K = C.G.K) : CallR X (.type "list") (rBl C .list) := callR_imp call_list_of fun xs H Q ⟨S, H0, rs, rv, e, tn, dom, r, q⟩ => by
  obtain ⟨x, ds, e1, e2, rfl⟩ := blD_ok e
  obtain ⟨v, f, rfl, rv⟩ := vs_len1 r e1
  obtain ⟨p, ys, rfl, h1, h2⟩ := items_of hK e2 rv
  refine ⟨p, ys, rfl, h2.imp id (fun z => z.1), fun l hl => ?_⟩
  exact q _ _ (same_new hl) ⟨l, rfl, hl, ys, upd_same, repL_pst (pst_new hl) h1⟩
theorem bl_tuple (hK : X.K = C.G.K) : CallR X (.type "tuple") (rBl C .tuple) := callR_imp call_tuple_of fun xs H Q ⟨S, H0, rs, rv, e, tn, dom, r, q⟩ => by
  obtain ⟨x, ds, e1, e2, rfl⟩ := blD_ok e
  obtain ⟨v, f, rfl, rv⟩ := vs_len1 r e1
  obtain ⟨p, ys, rfl, h1, h2⟩ := items_of hK e2 rv
  refine ⟨p, ys, rfl, ?_⟩
  rcases h2 with h2 | ⟨h2, rfl, rfl⟩
  · refine .inl ⟨h2, fun l hl => ?_⟩
    have s : Same H (upd H l (.tup ys)) := same_new hl
    exact q _ _ s (Rep.tup (fun z => dom l z hl) upd_same (repL_same s h1))
  · exact .inr ⟨h2, q _ H same_refl rv⟩
theorem bl_repr : CallR X (.builtin "repr") (rBl C .repr) := by
  intro pins s σ H xs us Q I rr ⟨S, H0, rs, rv, e, tn, dom, r, q⟩
  obtain ⟨k, e1, rfl⟩ := blD_ok e
  obtain ⟨v, f, rfl, rv⟩ := vs_len1 r e1
  have rv := rv.any
  cases rv
  obtain ⟨u, rfl, ru⟩ := rr.one
  cases (show u = Value.bool k from ru)
  exact PySem.P.repr_of_bool ⟨.str (if k then "True" else "False"), H, I.tok _, ⟨_, rfl⟩, q _ H same_refl (.str _)⟩
theorem bl_len (hK : X.K = C.G.K) (hw : C.w = X.w) : CallR X (.builtin "len") (rBl C .len) := by
  intro pins s σ H xs us Q I rr ⟨S, H0, rs, rv, e, tn, dom, r, q⟩
  obtain ⟨x, d, e1, e2, rfl⟩ := blD_ok e
  obtain ⟨v, f, rfl, rv⟩ := vs_len1 r e1
  cases x with
  | lst ds =>
    cases e2
    obtain ⟨a, ys, rfl, h1, h2⟩ := rv.lst
    exact call_len pins s σ H _ us Q I rr ⟨_, _, rfl, .inl ⟨ys, .inl (.of h1), rfl⟩, by rw [h2.len]; exact q _ H same_refl (.int _)⟩
  | tup ds =>
    cases e2
    obtain ⟨a, ys, rfl, h1, h2⟩ := rv.tup
    exact call_len pins s σ H _ us Q I rr ⟨_, _, rfl, .inr ⟨ys, by rw [hK]; exact h1, rfl⟩, by rw [h2.len]; exact q _ H same_refl (.int _)⟩
  | str y =>
    unfold lenD at e2
    simp only at e2
    split at e2
    · rename_i hy
      cases e2
      have rv := rv.any
      cases rv
      exact call_len pins s σ H _ us Q I rr ⟨_, _, rfl, ⟨Nat.le_trans hy (by decide), rfl⟩, q _ H same_refl (.int _)⟩
    · cases e2
  | _ => cases e2
/-! ### slices -/
theorem cut_rep {xs : List V} {ds : List D} {lo hi : Option Int} (h : RepL w G S H xs ds) : RepL w G S H (cutV xs lo hi) (cutD ds lo hi) := by
  unfold cutV cutD
  rw [h.len]
  exact (h.drop _).take _
/-- a slice's part -/
def tPt (C : Cd) (m : Lcl → Wd → Rs (Option Int)) : TO := fun σ H Q => ∃ L W, Good C σ H L ∧ WR C.G H W ∧ post C (SO C σ L) H (fun (_ : Hp) (o x : Option Int) => o = x) (m L W) Q
abbrev ptM (Γ : Tbl) (cf : CF) (el : EX) : Lcl → Wd → Rs (Option Int) := fun L W => (semE Γ cf el L W).bind fun l W2 => Rs.of (partD el l.1) W2
theorem po_n : PO X none (tPt C (ptM Γ cf (.con .non))) := by
  refine ⟨fun pins s σ H Q I ⟨L, W, g, wr, q⟩ => po_none.run pins s σ H Q I ?_⟩
  unfold ptM semE at q
  exact q none H PstE.refl wr rfl
theorem po_s {e : Expr} {el : EX} (he : PE X e (tD C (semE Γ cf el))) (hn : noPart el = false) : PO X (some e) (tPt C (ptM Γ cf el)) := by
  refine ⟨fun pins s σ H Q I ⟨L, W, g, wr, q⟩ => (po_some he).run pins s σ H Q I ⟨L, W, g, wr, ?_⟩⟩
  unfold ptM at q
  refine post_bind (rel := relV C (SO C σ L) H) q fun x W1 v H1 _ p1 wr1 rx q => ?_
  unfold partD at q
  rw [hn, if_neg Bool.false_ne_true] at q
  obtain ⟨d, f⟩ := x
  cases d with
  | int i =>
    have rv := rx.any
    cases rv
    exact ⟨i, rfl, q (some i) H1 p1 wr1 rfl⟩
  | _ => exact q.elim
theorem post_later' {α β : Type} {rel : Hp → β → α → Prop} (p : PstE C.G H H1) {m : Rs α} {Q : β → Hp → Prop} (h : post C S H rel m Q) : post C S H1 rel m Q := by
  cases m with
  | ok x W1 => exact fun v H' p' wr rv => h v H' (p.trans p') wr rv
  | err x W1 => exact fun cls d H' p' wr rv => h cls d H' (p.trans p') wr (rv.back p)
  | stk => exact h
theorem d_slc {lo hi : Option Expr} {el eh : EX} {p2 : Pos} (hK : X.K = C.G.K) (ha : PE X a (tD C (semE Γ cf ea))) (hl : PO X lo (tPt C (ptM Γ cf el))) (hh : PO X hi (tPt C (ptM Γ cf eh))) : PE X (.Subscript a (.Slice lo hi none p2) pos) (tD C (semE Γ cf (.slc ea el eh))) := by
  refine pe_imp (pe_slice (sl_list.or sl_tup) ha hl hh) fun σ H Q ⟨L, W, g, wr, h⟩ => ?_
  unfold semE at h
  refine ⟨L, W, g, wr, post_bind h fun x W1 v H1 _ p1 wr1 rx h => ?_⟩
  have g1 := g.pst p1
  refine ⟨L, W1, g1, wr1, ?_⟩
  refine post_bind (rel := fun (_ : Hp) (o x : Option Int) => o = x) (post_later p1 h) fun l W2 l' H2 _ p2 wr2 el h => ?_
  subst el
  have g2 := g1.pst p2
  refine ⟨L, W2, g2, wr2, ?_⟩
  refine post_bind (rel := fun (_ : Hp) (o x : Option Int) => o = x) (post_later p2 h) fun u W3 u' H3 _ p3 wr3 eu h => ?_
  subst eu
  have rx3 := rx.pst (p2.trans p3) g.tn g.tnS g.dom
  have p13 := p2.trans p3
  obtain ⟨x, f⟩ := x
  cases x with
  | lst ds =>
    obtain ⟨q, ys, rfl, h1, h2⟩ := rx3.lst
    refine .inl ⟨q, ys, rfl, .inl (.of h1), fun p hp => ?_⟩
    have s : Same H3 (upd H3 p (.lst (cutV ys l' u'))) := same_new hp
    exact h _ _ (p3.trans (same_pst s)) (wr3.same s) ⟨p, rfl, none_back p3 hp, _, upd_same, repL_pst (pst_new hp) (cut_rep h2)⟩
  | tup ds =>
    obtain ⟨q, ys, rfl, h1, h2⟩ := rx3.tup
    have h : post C (SO C σ L) H2 (relV C (SO C σ L) H2) (Rs.of (if HT.sIx ds.length 0 l' = 0 ∧ HT.sIx ds.length ds.length u' = ds.length then none else some (.tup (cutD ds l' u'), .fr)) W3) Q := h
    split at h
    · exact h.elim
    · rename_i hw
      refine .inr ⟨q, ys, rfl, by rw [hK]; exact h1, by rw [h2.len]; exact hw, fun p hp => ?_⟩
      have s : Same H3 (upd H3 p (.tup (cutV ys l' u'))) := same_new hp
      exact h _ _ (p3.trans (same_pst s)) (wr3.same s) (Rep.tup (fun z => dom_pst (p1.trans p13) g.dom p z hp) upd_same (repL_same s (cut_rep h2)))
  | _ => exact h.elim
def rInF (C : Cd) (neg : Bool) : R2 := fun x y H Q => ∃ a S kvs k o, y = .ref a ∧ DAt C S H a kvs ∧ dctGet kvs k = some o ∧ Rep C.w C.G (fun _ => False) H x k ∧ Q (.bl (neg != o.isSome)) H
theorem in_core {pins : List (Addr × Obj)} {s : Shared} {kvs : List (D × D)} {k : D} {o : Option D} {q : Addr} {x : V} {v : Value} (hK : X.K = C.G.K) (hw : C.w = X.w) (I : L2.Inv X pins σ H s) (hd : DAt C S H q kvs) (hg : dctGet kvs k = some o) (rk : Rep C.w C.G (fun _ => False) H x k) (rx : RelV x v) :
    ∃ lk xs, keyIs lk v = true ∧ s.heap.DictOf (mixKind X.prog X.w) q xs ∧ (q == sysModules) = false ∧ (valueAt xs lk).isSome = o.isSome := by
  unfold dctGet at hg
  split at hg
  · rename_i hh
    obtain ⟨⟨lk, e1⟩, h2⟩ := keysOk_ok hh
    have hg : findK k kvs = o := Option.some.inj hg
    obtain ⟨xs, m, dd, hs⟩ := hd.mix hK hw I h2
    refine ⟨lk, xs, mix_is e1 rk rx, dd, hs, ?_⟩
    rcases mx_find e1 m with ⟨z1, z2⟩ | ⟨d', u, y', z1, z2, _⟩
    · rw [← hg, z1, z2]; rfl
    · rw [← hg, z1, z2]; rfl
  · cases hg
theorem op_inF (hK : X.K = C.G.K) (hw : C.w = X.w) : OpR X (compareOp .In) (rInF C false) := by
  intro pins s σ H x y v u Q I rx ry h
  obtain ⟨a, S, kvs, k, o, rfl, hd, hg, rk, q⟩ := h
  cases (show u = Value.ref a from ry)
  obtain ⟨lk, xs, h1, h2, h3, h4⟩ := in_core hK hw I hd hg rk rx
  refine wpAny_in_of h1 h3 h2.mapOf ?_
  rw [h4]
  exact ⟨.bl o.isSome, H, I.tok _, rfl, by simpa using q⟩
theorem op_notInF (hK : X.K = C.G.K) (hw : C.w = X.w) : OpR X (compareOp .NotIn) (rInF C true) := by
  intro pins s σ H x y v u Q I rx ry h
  obtain ⟨a, S, kvs, k, o, rfl, hd, hg, rk, q⟩ := h
  cases (show u = Value.ref a from ry)
  obtain ⟨lk, xs, h1, h2, h3, h4⟩ := in_core hK hw I hd hg rk rx
  refine wpAny_notIn_of h1 h3 h2.mapOf ?_
  rw [h4]
  exact ⟨.bl (!o.isSome), H, I.tok _, rfl, by simpa using q⟩
/-- x in a tuple -/
def rInT (K : PySem.W.Frag) (neg : Bool) : R2 := fun x y H Q => ∃ d ds, Dp K H x d ∧ Dp K H y (.tuple ds) ∧ SeqAt.shaped d = true ∧ SeqAt.shaped (.list ds) = true ∧ Q (.bl (neg != ds.any fun z => PyData.eqv z d)) H
theorem op_inT (hu : X.A.units + 65 < cLine) : OpR X (compareOp .In) (rInT X.K false) := by
  intro pins s σ H x y v u Q I rx ry ⟨d, ds, hd, he, sd, se, q⟩
  obtain ⟨_, r1⟩ := Dp.reads I d x v hd rx
  obtain ⟨_, r2⟩ := Dp.reads I (.tuple ds) y u he ry
  rw [Bool.false_bne] at q
  exact SeqAt.in_tuple_reads r2 r1 (SeqAt.canLay_of_shaped se) (SeqAt.canLay_of_shaped sd) (room_in_shaped sd hu) ⟨.bl _, H, I, rfl, q⟩
theorem op_notInT (hu : X.A.units + 65 < cLine) : OpR X (compareOp .NotIn) (rInT X.K true) := by
  intro pins s σ H x y v u Q I rx ry ⟨d, ds, hd, he, sd, se, q⟩
  obtain ⟨_, r1⟩ := Dp.reads I d x v hd rx
  obtain ⟨_, r2⟩ := Dp.reads I (.tuple ds) y u he ry
  rw [Bool.true_bne] at q
  exact SeqAt.notIn_tuple_reads r2 r1 (SeqAt.canLay_of_shaped se) (SeqAt.canLay_of_shaped sd) (room_in_shaped sd hu) ⟨.bl _, H, I, rfl, q⟩
theorem inS_ok {S : Addr → Prop} {H : Hp} {dx : D} {ds : List D} {x : V} {k : Bool} (n : inS dx ds = some k) (rx : Rep C.w C.G S H x dx) : ∃ p qs, Dp C.G.K H x p ∧ toPyL ds = some qs ∧ SeqAt.shaped p = true ∧ SeqAt.shaped (.list qs) = true ∧ k = qs.any fun z => PyData.eqv z p := by
  unfold inS at n
  cases q1 : toPy dx with
  | none => simp [q1] at n
  | some p =>
    cases q2 : toPyL ds with
    | none => simp [q1, q2] at n
    | some qs =>
      simp only [q1, q2] at n
      split at n
      · rename_i hh
        cases n
        rw [Bool.and_eq_true] at hh
        exact ⟨p, qs, Rep.dp dx p x q1 rx, rfl, hh.1, hh.2, rfl⟩
      · cases n
theorem sc_in : Serves C (fun x y H Q => rInF C false x y H Q ∨ rInD C.G.K x y H Q ∨ rInT C.G.K false x y H Q) (cmpR .In) := by
  intro S dx dy rv x y H Q e rx ry hq
  have e : (inD dx dy).map (fun k => ((.bl k, .fr) : RV)) = some rv := e
  cases n : inD dx dy with
  | none => rw [n] at e; cases e
  | some k =>
    rw [n] at e
    cases e
    cases dy with
    | dct kvs =>
      have n : (dctGet kvs dx).map Option.isSome = some k := n
      cases q : dctGet kvs dx with
      | none => rw [q] at n; cases n
      | some o =>
        rw [q] at n
        cases n
        obtain ⟨a, rfl, hd⟩ := RVr.dct (B := fun _ => False) (H := H) (f := .fr) ry
        exact .inl ⟨a, _, kvs, dx, o, rfl, hd, q, rx, by simpa using hq _ H same_refl (.bl _)⟩
    | lst ds =>
      obtain ⟨p, qs, e1, e2, e3, e4, e5⟩ := inS_ok (C := C) (show inS dx ds = some k from n) rx
      subst e5
      exact .inr (.inl ⟨p, qs, e1, Rep.dp (.lst ds) (.list qs) y (by unfold toPy; rw [e2]; rfl) ry, e3, e4, hq _ H same_refl (.bl _)⟩)
    | tup ds =>
      obtain ⟨p, qs, e1, e2, e3, e4, e5⟩ := inS_ok (C := C) (show inS dx ds = some k from n) rx
      subst e5
      exact .inr (.inr ⟨p, qs, e1, Rep.dp (.tup ds) (.tuple qs) y (by unfold toPy; rw [e2]; rfl) ry, e3, e4, by simpa using hq _ H same_refl (.bl _)⟩)
    | _ => cases n
theorem sc_notin : Serves C (fun x y H Q => rInF C true x y H Q ∨ rNotInD C.G.K x y H Q ∨ rInT C.G.K true x y H Q) (cmpR .NotIn) := by
  intro S dx dy rv x y H Q e rx ry hq
  have e : ((inD dx dy).map (!·)).map (fun k => ((.bl k, .fr) : RV)) = some rv := e
  cases n : inD dx dy with
  | none => rw [n] at e; cases e
  | some k =>
    rw [n] at e
    cases e
    cases dy with
    | dct kvs =>
      have n : (dctGet kvs dx).map Option.isSome = some k := n
      cases q : dctGet kvs dx with
      | none => rw [q] at n; cases n
      | some o =>
        rw [q] at n
        cases n
        obtain ⟨a, rfl, hd⟩ := RVr.dct (B := fun _ => False) (H := H) (f := .fr) ry
        exact .inl ⟨a, _, kvs, dx, o, rfl, hd, q, rx, by simpa using hq _ H same_refl (.bl _)⟩
    | lst ds =>
      obtain ⟨p, qs, e1, e2, e3, e4, e5⟩ := inS_ok (C := C) (show inS dx ds = some k from n) rx
      subst e5
      exact .inr (.inl ⟨p, qs, e1, Rep.dp (.lst ds) (.list qs) y (by unfold toPy; rw [e2]; rfl) ry, e3, e4, hq _ H same_refl (.bl _)⟩)
    | tup ds =>
      obtain ⟨p, qs, e1, e2, e3, e4, e5⟩ := inS_ok (C := C) (show inS dx ds = some k from n) rx
      subst e5
      exact .inr (.inr ⟨p, qs, e1, Rep.dp (.tup ds) (.tuple qs) y (by unfold toPy; rw [e2]; rfl) ry, e3, e4, by simpa using hq _ H same_refl (.bl _)⟩)
    | _ => cases n
/-- -e -/
theorem d_neg {p : Pos} (ha : PE X a (tD C (semE Γ cf ea))) : PE X (.UnaryOp .USub a p) (tD C (semE Γ cf (.neg ea))) := by
  refine pe_imp (pe_un un_neg ha) fun σ H Q ⟨L, W, g, wr, h⟩ => ?_
  unfold semE at h
  refine ⟨L, W, g, wr, post_bind h fun x W1 v H1 _ p1 wr1 rx h => ?_⟩
  obtain ⟨d, f⟩ := x
  cases d with
  | int i =>
    have rv := rx.any
    cases rv
    exact ⟨i, rfl, h _ H1 p1 wr1 (.int _)⟩
  | _ => exact h.elim
end
end Dl

set_option maxRecDepth 100000
set_option maxHeartbeats 4000000
/-! D22: displays of dicts. -/
namespace Dl
open PySem PySem.Spec PyProof.Rows L2
section
variable {X : Cx} {C : Cd} {Γ : Tbl} {cf : CF} {w : World} {G : Gl0} {B S : Addr → Prop} {H H' H1 H2 : Hp} {σ σ' : L2.St} {L L' : Lcl} {v : V}
variable {a b c : Expr} {ea eb ec : EX} {pos : Pos} {tg : Expr}
/-- {k: v, ..}: the new dict as an object -/
def tDispR (X : Cx) (trs : List (TE × TE)) : TE := fun σ H Q => ∀ p, H p = none → tPairs trs σ (upd H p (.dK [])) fun ps H2 => H2 p = some (.dK []) ∧ ∃ kvs : List (Key × V), ps = kvs.map (fun kv => (kV kv.1, kv.2)) ∧ kvs.length ≤ 15 ∧
  ∀ (rs : List (Key × Value)) (h : Heap), KV kvs rs → h.DictOf (mixKind X.prog X.w) p (merged [] rs) → (p == sysModules) = false → ∃ o, h.get? p = some o ∧ Q (.ref p) (upd H2 p (RawO p o))
theorem pe_dispR {keys : List (Option Expr)} {values : List Expr} {trs : List (TE × TE)} (h : PPs X pos keys values trs) (hall : keys.all (·.isSome) = true) (hl : keys.length = values.length) (h0 : keys ≠ [])
    (h15 : keys.length ≤ 15) : PE X (.Dict keys values pos) (tDispR X trs) := by
  refine ⟨fun pins s σ H Q I q => ?_⟩
  have hn := I.hok.fresh (Nat.le_refl s.heap.objs.size)
  have I1 := I.laid (a := s.heap.objs.size) (o := .dK []) (h' := s.heap.push { cls := .type "dict", data := .dict #[] }) (t' := s.toks) (fun _ _ q => Heap.get?_push_of_some _ q) (Nat.le_refl _) (dk_empty s.heap I.big)
  refine wpAny_Dict_walk (knd := mixKind X.prog X.w) hall hl h0 h15 (thn (h.run pins _ σ _ _ I1 (q _ hn)) fun ws s2 ⟨ps, H2, I2, rel, e, kvs, ep, lk, q2⟩ => ?_)
  subst ep
  obtain ⟨rs, c, rk⟩ := carries_of (P := X.prog) (w := X.w) rel
  obtain ⟨z, hd, vs0, r0, dd⟩ := dk_of I2.hok e
  cases r0
  refine ⟨rs, c, dd, fun h' dd' hs => ?_⟩
  obtain ⟨o, ho, q3⟩ := q2 rs h' rk dd' hd
  exact ⟨.ref s.heap.objs.size, _, d_write I2 (by rw [e]; exact True.intro) hs ⟨_, ho⟩ (rawO_ok ho), rfl, q3⟩
/-- the keys and the values -/
inductive KVs (X : Cx) (C : Cd) (Γ : Tbl) (cf : CF) : List (Option Expr) → List Expr → EXs → Prop
  | nil : KVs X C Γ cf [] [] .nil
  | cons {k v : Expr} {ek ev : EX} {ks : List (Option Expr)} {vs : List Expr} {r : EXs} : (∀ B, PE X k (tD { C with B := B } (semE Γ cf ek))) → (∀ B, PE X v (tD { C with B := B } (semE Γ cf ev))) → KVs X C Γ cf ks vs r → KVs X C Γ cf (some k :: ks) (v :: vs) (.cons ek (.cons ev r))
def pairV : List V → List (V × V)
  | k :: v :: r => (k, v) :: pairV r
  | _ => []
def tB (C : Cd) (m : Lcl → Wd → Rs RV) : TE := fun σ H Q => ∃ B, tD { C with B := B } m σ H Q
theorem pe_tB {m : Lcl → Wd → Rs RV} (h : ∀ B, PE X a (tD { C with B := B } m)) : PE X a (tB C m) := ⟨fun pins s σ H Q I ⟨B, q⟩ => (h B).run pins s σ H Q I q⟩
theorem kvs_ok {ks : List (Option Expr)} {vs : List Expr} {kv : EXs} (h : KVs X C Γ cf ks vs kv) : ks.all (·.isSome) = true ∧ ks.length = vs.length ∧ ∃ trs, PPs X pos ks vs trs ∧ ∀ (B : Addr → Prop) σ H Q L W, Good { C with B := B } σ H L → WR C.G H W →
    post { C with B := B } (SO { C with B := B } σ L) H (fun H' v x => RVs C.w C.G B (SO { C with B := B } σ L) H H' v x) (semEs Γ cf kv L W) (fun vs H' => Q (pairV vs) H') → tPairs trs σ H Q := by
  induction h with
  | nil =>
    refine ⟨rfl, rfl, [], pps_nil, fun B σ H Q L W g wr h => ?_⟩
    unfold semEs at h
    exact h [] H PstE.refl wr .nil
  | @cons k v ek ev ks vs r hk hv _ ih =>
    obtain ⟨i1, i2, trs, i3, i4⟩ := ih
    refine ⟨by rw [List.all_cons, i1]; rfl, by rw [List.length_cons, List.length_cons, i2], (tB C (semE Γ cf ek), tB C (semE Γ cf ev)) :: trs, pps_cons (pe_tB hk) (pe_tB hv) i3, fun B σ H Q L W g wr h => ?_⟩
    unfold semEs at h
    refine ⟨B, L, W, g, wr, ?_⟩
    refine post_bind (rel := relV { C with B := B } (SO { C with B := B } σ L) H) h fun x W1 u H1 _ p1 wr1 rx h => ?_
    have g1 := g.pst p1
    refine ⟨B, L, W1, g1, wr1, ?_⟩
    unfold semEs at h
    cases e : semE Γ cf ev L W1 with
    | stk => rw [e] at h; exact h
    | err y W2 => rw [e] at h; exact fun cls dd H' p' wr' rv => h cls dd H' (p1.trans p') wr' (rv.back p1)
    | ok y W2 =>
      rw [e] at h
      intro u2 H2 p2 wr2 ry
      have g2 := g1.pst p2
      refine i4 B σ H2 _ L W2 g2 wr2 ?_
      simp only [Rs.bind_ok] at h
      cases e3 : semEs Γ cf r L W2 with
      | stk => rw [e3] at h; exact h
      | err y W3 => rw [e3] at h; exact fun cls dd H' p' wr' rv => h cls dd H' ((p1.trans p2).trans p') wr' (rv.back (p1.trans p2))
      | ok xs W3 =>
        rw [e3] at h
        intro us H3 p3 wr3 rs
        exact h (u :: u2 :: us) H3 ((p1.trans p2).trans p3) wr3 (.cons (rx.pst (p2.trans p3) g.tn g.tnS g.dom) (.cons ((ry.back p1).pst p3 g.tn g.tnS g.dom) (rs.back (p1.trans p2))))
theorem pairs_rep : ∀ {ds : List D} {ps : List (D × D)} {vs : List V}, pairsD ds = some ps → RepL w G S H vs ds → (ps.all fun p => isLeafD p.1) = true → ∃ kvs : List (Key × V), pairV vs = kvs.map (fun kv => (kV kv.1, kv.2)) ∧ kvs.length = ps.length ∧
    ∀ rs, KV kvs rs → MX w G S H rs ps
  | [], ps, vs, e, r, ha => by
    cases e; cases r
    exact ⟨[], rfl, rfl, fun rs h => by cases h; exact .nil⟩
  | [_], ps, vs, e, r, ha => by cases e
  | k :: v :: ds, ps, vs, e, r, ha => by
    have e : (pairsD ds).map ((k, v) :: ·) = some ps := e
    cases q : pairsD ds with
    | none => rw [q] at e; cases e
    | some ps' =>
      rw [q] at e
      cases e
      rw [List.all_cons, Bool.and_eq_true] at ha
      cases r with
      | @cons x _ _ _ hx t =>
        cases t with
        | @cons y _ _ _ hy t =>
          obtain ⟨kvs, h1, h2, h3⟩ := pairs_rep q t ha.2
          obtain ⟨lk, ek⟩ := keyM_ok ha.1
          have ex : x = kV lk := by
            cases k <;> first | (cases ek; done) | skip
            · cases ek; cases hx; rfl
            · cases ek; cases hx; rfl
          refine ⟨(lk, y) :: kvs, ?_, by rw [List.length_cons, List.length_cons, h2], fun rs h => ?_⟩
          · show (x, y) :: pairV _ = _
            rw [h1, ex]
            rfl
          · cases h with
            | @cons _ q _ _ hh ht =>
              obtain ⟨a1, a2⟩ := hh
              exact .cons ⟨by rw [← a1]; exact ek, y, a2, hy⟩ (h3 _ ht)
theorem mx_merge : ∀ {rs : List (Key × Value)} {ps : List (D × D)} {acc : List (Key × Value)} {ad : List (D × D)}, MX w G S H rs ps → MX w G S H acc ad → MX w G S H (merged acc rs) (mergD ad ps)
  | _, _, _, _, .nil, m => m
  | _, _, acc, ad, .cons (a := q) (b := p) ⟨m1, y, m2, m3⟩ t, m => by
    obtain ⟨k, v⟩ := p
    show MX w G S H (merged (stored acc q.1 q.2) _) (mergD (putK k v ad) _)
    exact mx_merge t (mx_put m1 m2 m3 m)
theorem d_dic {ks : List (Option Expr)} {vs : List Expr} {kv : EXs} (hw : C.w = X.w) (h : KVs X C Γ cf ks vs kv) (h0 : ks ≠ []) (h15 : ks.length ≤ 15) : PE X (.Dict ks vs pos) (tD C (semE Γ cf (.dic kv))) := by
  obtain ⟨h1, h2, trs, h3, h4⟩ := kvs_ok (pos := pos) h
  refine pe_imp (pe_dispR h3 h1 h2 h0 h15) fun σ H Q ⟨L, W, g, wr, h⟩ => ?_
  intro p hp
  have s0 : PstE C.G H (upd H p (.dK [])) := same_pst (same_new hp)
  have gb : Good { C with B := Plus C.B p } σ (upd H p (.dK [])) L := g.more s0 hp (by rw [upd_same]; simp)
  refine h4 (Plus C.B p) σ _ _ L W gb (wr.same (same_new hp)) ?_
  unfold semE at h
  cases e : semEs Γ cf kv L W with
  | stk => rw [e] at h; exact h
  | err y W1 => rw [e] at h; exact fun cls dd H' p' wr' rv => h cls dd H' (s0.trans p') wr' (rv.back s0)
  | ok xs W1 =>
    rw [e] at h
    intro us H2 p2 wr2 rs
    have np : ¬ TN C.G.T p := fun z => g.dom p (g.tnS p z) hp
    have h2p : H2 p = some (.dK []) := (p2.1 p _ upd_same np (fun z => z)).1
    simp only [Rs.bind_ok] at h
    cases e2 : vals xs false with
    | none => rw [e2] at h; exact h.elim
    | some ds =>
      rw [e2] at h
      simp only [Rs.of_some, Rs.bind_ok] at h
      cases e3 : dicD ds with
      | none => rw [e3] at h; exact h.elim
      | some r =>
        rw [e3] at h
        have rl := vals_rep gb.dom e2 rs
        rw [so_more] at rl
        unfold dicD at e3
        cases e4 : pairsD ds with
        | none => rw [e4] at e3; cases e3
        | some ps =>
          rw [e4] at e3
          have e3 : (if (ps.all fun p => isLeafD p.1) && decide (ps.length ≤ 15) then some (mergD [] ps) else none) = some r := e3
          split at e3
          · rename_i hh
            cases e3
            obtain ⟨ha, hz⟩ := Bool.and_eq_true_iff.mp hh
            obtain ⟨kvs, k1, k2, k3⟩ := pairs_rep e4 rl ha
            refine ⟨h2p, kvs, k1, by rw [k2]; simpa using hz, fun rs' hh' hkv hdict hsys => ?_⟩
            have m := mx_merge (k3 rs' hkv) .nil
            have hdict' : hh'.DictOf (mixKind X.prog C.w) p (merged [] rs') := by rw [hw]; exact hdict
            obtain ⟨o, es, ep, o1, o2, o3, o4, o5⟩ := mix_undict m hdict'
            refine ⟨o, o1, ?_⟩
            have pf : PstE C.G H (upd H2 p (RawO p o)) := ⟨fun b u eb hs ht => by
              have hb : b ≠ p := fun z => by rw [z, hp] at eb; cases eb
              exact ⟨(upd_ne hb).trans ((s0.trans p2).1 b u eb hs ht).1, hs⟩, fun b hb => by
              by_cases z : b = p
              · rw [z, upd_same]; simp
              · rw [upd_ne z]; exact (s0.trans p2).2 b hb⟩
            exact h (.ref p) _ pf (wr2.upd np ⟨_, h2p, fun z => z, fun q z => (by unfold LamX.CodeO at z; cases z)⟩) ⟨p, rfl, hp, o, es, ep, upd_same, o2, o3, hsys, repE_pst (pst_upd (.inr rfl)) o4, o5⟩
          · cases e3
/-- {} -/
theorem d_dic0 : PE X (.Dict [] [] pos) (tD C (semE Γ cf (.dic .nil))) := by
  refine ⟨fun pins s σ H Q I ⟨L, W, g, wr, h⟩ => wpAny_Dict_empty ?_⟩
  unfold semE semEs at h
  have hn := I.hok.fresh (Nat.le_refl s.heap.objs.size)
  have hget : (s.heap.push ({ cls := .type "dict", data := .dict #[] } : Obj)).get? s.heap.objs.size = some { cls := .type "dict", data := .dict #[] } := Heap.get?_push_size _ rfl
  have hsm : Same H (upd H s.heap.objs.size (RawO s.heap.objs.size { cls := .type "dict", data := .dict #[] })) := same_new hn
  have hsys : (s.heap.objs.size == sysModules) = false := (dk_empty (P := X.prog) (w := X.w) (H := H) s.heap I.big).2.1
  exact ⟨.ref s.heap.objs.size, _, I.laid (a := s.heap.objs.size) (o := RawO s.heap.objs.size { cls := .type "dict", data := .dict #[] }) (t' := s.toks) (fun _ _ q => Heap.get?_push_of_some _ q) (Nat.le_refl _) (rawO_ok hget), rfl,
    h _ _ (same_pst hsm) (wr.same hsm) ⟨s.heap.objs.size, rfl, hn, _, #[], 0, upd_same, ⟨rfl, rfl, rfl⟩, rfl, hsys, .nil, List.nodup_nil⟩⟩
end
end Dl

set_option maxRecDepth 100000
set_option maxHeartbeats 4000000
/-! D23: calls with keywords, calls of a def that is a value. -/
namespace Dl
open PySem PySem.Spec PyProof.Rows L2
section
variable {X : Cx} {C : Cd} {Γ : Tbl} {cf : CF} {w : World} {G : Gl0} {B S : Addr → Prop} {H H' H1 H2 : Hp} {σ σ' : L2.St} {L L' : Lcl} {v : V}
variable {a b c : Expr} {ea eb ec : EX} {pos : Pos} {tg : Expr}
/-- f(k = v, ..) -/
theorem pe_callK0 {CX : CXT} {k : Nat} {f : Addr} {fd : FuncData} {ps ks : List Str} {sp : Sp} {E : XK} {x : Str} {p : Pos} {kws : List Keyword} {tk : TA} {g : List Value → List Value → List Value} {gV : List V → List V → List V} (F : FnOk X.prog X.w X.K X.mg X.base CX k f fd ps sp) (hr : Room k X.A) (hg : Gl X x) (hm : X.mg x = some (.ref f)) (hk : PySem.W.keepIn X.K (.ref f) = true) (hb : KBinds X.K fd ps ks g gV) (hx : Passes CX X E)
    (hkw : PK X kws tk) (hall : (backToKw pos (keywordEach kws X.env)).all (·.1.isSome) = true) (hks : (backToKw pos (keywordEach kws X.env)).filterMap (·.1) = ks) (hdb : (x == ("__debug__" : Str)) = false)
    (hpl : ((backTo pos (starEach [] X.env)).any (·.1) || (backToKw pos (keywordEach kws X.env)).any (·.1.isNone)) = false) :
    PE X (.Call (.Name x p) [] kws pos) (fun σ H Q => tk σ H fun zs H2 => sp (gV [] zs) H2 Q E) := by
  refine ⟨fun pins s σ H Q I h => ?_⟩
  refine wpAny_Call_Name_kw (ld_glob I hg hm ?_ hdb)
  refine PySem.W.callWith_KW0 (h₀ := X.base) I.ok.mod.kin hk hall (thn (hkw.run pos pins s σ H _ I h) fun ws s2 ⟨zs, H2, I2, rz, q2⟩ => ⟨I2.kIn, ?_⟩) hpl
  rw [hks]
  exact run_fnk (us := []) (vs := []) F hr hb hx I2 .nil rz q2
theorem repL_perm {vs : List V} {ds : List D} (perm : List Nat) (r : RepL w G S H vs ds) : RepL w G S H (perm.map fun i => vs.getD i .non) (permD perm ds) := by
  unfold permD
  induction perm with
  | nil => exact .nil
  | cons i perm ih =>
    refine .cons ?_ ih
    show Rep w G S H (vs.getD i .non) (ds.getD i .non)
    cases e : ds[i]? with
    | none =>
      have e2 : vs[i]? = none := by
        rw [List.getElem?_eq_none_iff] at e ⊢
        rw [r.len]
        exact e
      rw [List.getD_eq_getElem?_getD, List.getD_eq_getElem?_getD, e, e2]
      exact .non
    | some d =>
      obtain ⟨y, h1, h2⟩ := r.get e
      rw [List.getD_eq_getElem?_getD, List.getD_eq_getElem?_getD, e, h1]
      exact h2
theorem d_calk {CX : CXT} {G0 : Gl0} {k f : Nat} {fa : Addr} {fd : FuncData} {ps ks : List Str} {perm : List Nat} {x : Str} {p : Pos} {kws : List Keyword} {ees : EXs} {g : List Value → List Value → List Value} (F : FnOk X.prog X.w X.K X.mg X.base CX k fa fd ps (spF C.w G0 (cf f))) (hG : C.G = { G0 with T := C.G.T }) (hr : Room k X.A) (hg : Gl X x) (hm : X.mg x = some (.ref fa))
    (hk : PySem.W.keepIn X.K (.ref fa) = true) (hb : KBinds X.K fd ps ks g (fun _ zs => perm.map fun i => zs.getD i .non)) (hx : Passes CX X C.E) (ha : PK X kws (tDs C (semEs Γ cf ees))) (hall : (backToKw pos (keywordEach kws X.env)).all (·.1.isSome) = true) (hks : (backToKw pos (keywordEach kws X.env)).filterMap (·.1) = ks) (hdb : (x == ("__debug__" : Str)) = false)
    (hpl : ((backTo pos (starEach [] X.env)).any (·.1) || (backToKw pos (keywordEach kws X.env)).any (·.1.isNone)) = false) : PE X (.Call (.Name x p) [] kws pos) (tD C (semE Γ cf (.calk f ees perm))) := by
  refine pe_imp (pe_callK0 F hr hg hm hk hb hx ha hall hks hdb hpl) fun σ H Q ⟨L, W, g, wr, h⟩ => ?_
  unfold semE at h
  exact ⟨L, W, g, wr, post_bind h fun xs W1 vs H1 _ p1 wr1 rxs h => cal_end (gd := permD perm) (gv := fun zs => perm.map fun i => zs.getD i .non) hG (fun S H vs ds r => repL_perm perm r) g p1 wr1 rxs h⟩
/-- a def that is a value: each of them serves -/
def Values (X : Cx) (C : Cd) (Γ : Tbl) (G0 : Gl0) (cf : CF) (k : Nat) : Prop := ∀ j, Γ.fv j = true → (PySem.W.keepIn X.K (.ref (G0.fad j)) = true ∧ FnR X.prog X.w X.K X.mg X.base (L2.CX X.prog X.w) k (G0.fad j) (spF C.w G0 (cf j)))
theorem d_calv {G0 : Gl0} {k i : Nat} {x : Str} {p : Pos} {e : Expr} {es : List Expr} {ees : EXs} (V : Values X C Γ G0 cf k) (hG : C.G = { G0 with T := C.G.T }) (hr : Room k X.A) (hi : X.N[i]? = some x) (hv : Vis X.env.scope x) (hdb : (x == ("__debug__" : Str)) = false) (hcd : (x == ("__classdict__" : Str)) = false) (hx : Passes (L2.CX X.prog X.w) X C.E) (ha : PA X (e :: es) (tDs C (semEs Γ cf ees)))
    (he : starEach (e :: es) X.env = (false, eval e X.env) :: starEach es X.env) (hpl : (backTo pos (starEach es X.env)).any (·.1) = false) : PE X (.Call (.Name x p) (e :: es) [] pos) (tD C (semE Γ cf (.calv i ees))) := by
  refine ⟨fun pins s σ H Q I ⟨L, W, g, wr, h⟩ => ?_⟩
  unfold semE at h
  cases q : fnAt L i with
  | none => rw [q] at h; exact h.elim
  | some j =>
    rw [q] at h
    have hL : L[i]? = some (some (.val (.fn j))) := by
      unfold fnAt at q
      split at q
      · rename_i e2; cases q; exact e2
      · cases q
    obtain ⟨u, hu, ru⟩ := g.val i _ hL
    have ef : u = .ref (G0.fad j) := by
      cases ru
      rw [hG]
    subst ef
    simp only at h
    cases hf : Γ.fv j with
    | false => simp only [hf] at h; exact h.elim
    | true =>
      simp only [hf] at h
      obtain ⟨hk, F⟩ := V j hf
      exact (ItX.pe_callV F hr hk hx hi hv ha hdb hcd he hpl).run pins s σ H Q I ⟨hu, L, W, g, wr, post_bind h fun xs W1 vs H1 _ p1 wr1 rxs h => cal_end (gd := id) (gv := id) hG (fun S H vs ds r => r) g p1 wr1 rxs h⟩
end
end Dl

set_option maxRecDepth 100000
set_option maxHeartbeats 4000000
/-! D10: a def's promise by its body. -/
namespace Dl
open PySem PySem.Spec PyProof.Rows L2
section
variable {P : Program} {K : PySem.W.Frag} {mg : Str → Option Value} {base : Heap} {Γ : Tbl} {cf : CF} {w : World} {G0 : Gl0} {B : Addr → Prop} {H : Hp} {vs : List V} {ds : List D}
theorem start_val {N : List Str} {i : Nat} {d : D} (h : RepL w G0 B H vs ds) (e : (startL N.length ds)[i]? = some (some (Sl.val d))) : ∃ v, (L2.start N vs)[i]? = some (some v) ∧ Rep w G0 B H v d := by
  unfold startL at e
  by_cases hi : i < ds.length
  · rw [List.getElem?_append_left (by simpa using hi), List.getElem?_map] at e
    cases q : ds[i]? with
    | none => rw [q] at e; cases e
    | some d' =>
      rw [q] at e
      cases e
      obtain ⟨v, h1, h2⟩ := h.get q
      refine ⟨v, ?_, h2⟩
      unfold L2.start
      rw [List.getElem?_append_left (by rw [List.length_map, h.len]; exact hi), List.getElem?_map, h1]
      rfl
  · rw [List.getElem?_append_right (by simpa using hi), List.getElem?_replicate] at e
    split at e <;> cases e
theorem start_own {N : Nat} {i : Nat} {d : D} (e : (startL N ds)[i]? = some (some (Sl.own d))) : False := by
  unfold startL at e
  by_cases hi : i < ds.length
  · rw [List.getElem?_append_left (by simpa using hi), List.getElem?_map] at e
    cases q : ds[i]? with
    | none => rw [q] at e; cases e
    | some d' => rw [q] at e; cases e
  · rw [List.getElem?_append_right (by simpa using hi), List.getElem?_replicate] at e
    split at e <;> cases e
theorem start_good {N : List Str} {E : XK} (hB : ∀ a, TN G0.T a → B a) (hd : ∀ a, B a → H a ≠ none) (h : RepL w G0 B H vs ds) : Good ⟨w, G0, B, H, E⟩ (L2.start N vs) H (startL N.length ds) where
  len := by
    unfold L2.start startL
    rw [List.length_append, List.length_append, List.length_map, List.length_map, List.length_replicate, List.length_replicate, h.len]
  val := fun i d e => by
    obtain ⟨v, h1, h2⟩ := start_val (N := N) h e
    refine ⟨v, h1, rep_mono (fun b z => ?_) h2⟩
    rcases z with z | ⟨j, d', z, _⟩
    · exact z
    · exact (start_own z).elim
  own := fun i d e => (start_own e).elim
  inj := fun i j d e a h1 => (start_own h1).elim
  dom := fun a z => by
    rcases z with z | ⟨j, d', z, _⟩
    · exact hd a z
    · exact (start_own z).elim
  tn := hB
  ent := fun a o e hs _ => ⟨e, fun z => by
    rcases z with z | ⟨j, d', z, _⟩
    · exact hs z
    · exact (start_own z).elim⟩
  edom := fun a h => h
/-- what a def does on data -/
def runF (Γ : Tbl) (cf : CF) (np nn : Nat) (body : SXs) : List D → Wd → Rs D := fun ds W => if ds.length = np then endF (semSs Γ cf body (startL nn ds) W) else .stk
theorem funD_ok {CX : CXT} {x qual : Str} {pms : Arguments} {bd : List Stmt} {scp : Scope} {dvs : List V} {kws : List (Str × V)} {f : Addr} {fd : FuncData} {N ps : List Str} {k : Nat} {sp : Sp} (F : FunD K x qual pms bd scp dvs kws f fd) (S : FnScope N ps scp) (hlen : ∀ vs H Q E, sp vs H Q E → vs.length = ps.length)
    (go : ∀ (cdv : Value) (A : Around) (outer : List Env) (s : Shared) (H : Hp) (vs : List V) (Q : VK) (E : XK), fd.code = cdv → Room k (A.deeper (envOfC qual scp s.heap.objs.size f cdv)) → sp vs H Q E →
      ∃ t, PSs (cxOf CX P w K mg base N qual scp f cdv A outer s H E) bd t ∧ t { nx := fun _ H' => Q .non H', rt := Q } (L2.start N vs) H) : FnOk P w K mg base CX (k + 1) f fd ps sp := by
  obtain ⟨oc, od, dV, kV, doc, pm, an, cdv, ct, osl, rfl, lk, hcd, _⟩ := F.ex
  exact fn_of lk hcd S hlen fun A outer s H vs Q E hr hsp => go cdv A outer s H vs Q E rfl hr hsp
theorem fn_ok {x qual : Str} {st : Stmt} {f : Addr} {fd : FuncData} {N ps : List Str} {k : Nat} {body : SXs} {dvs : List V} (F : FunD K x qual (defArgs st) (defBody st) (defScope st) dvs [] f fd) (S : FnScope N ps (defScope st))
    (hb : ∀ (cdv : Value) (A : Around) (outer : List Env) (s : Shared) (H : Hp) (E : XK) (T : Option TLoc) (B : Addr → Prop), fd.code = cdv → Room k (A.deeper (envOfC qual (defScope st) s.heap.objs.size f cdv)) →
      PSs (cxOf (L2.CX P w) P w K mg base N qual (defScope st) f cdv A outer s H E) (defBody st) (tS ⟨w, { G0 with T := T }, B, H, E⟩ (semSs Γ cf body))) :
    FnOk P w K mg base (L2.CX P w) (k + 1) f fd ps (spF w G0 (runF Γ cf ps.length N.length body)) := by
  refine funD_ok F S (fun vs H Q E h => ?_) fun cdv A outer s H vs Q E hc hr h => ?_
  · obtain ⟨T, B, ds, W, _, _, rl, _, h⟩ := h
    rw [rl.len]
    unfold runF at h
    by_cases e : ds.length = ps.length
    · exact e
    · rw [if_neg e] at h
      exact h.elim
  · obtain ⟨T, B, ds, W, hB, hd, rl, wr, h⟩ := h
    refine ⟨_, hb cdv A outer s H E T B hc hr, startL N.length ds, W, start_good hB hd rl, wr, ?_⟩
    unfold runF at h
    by_cases e : ds.length = ps.length
    · rw [if_pos e] at h
      cases q : semSs Γ cf body (startL N.length ds) W with
      | ok fw W1 =>
        rw [q] at h
        cases fw with
        | nx L' => exact fun σ' H' _ g wr' => h .non H' g.entE wr' .non
        | bk L' => exact h.elim
        | ct L' => exact h.elim
        | rt r => exact h
      | err x W1 => rw [q] at h; exact h
      | stk => rw [q] at h; exact h
    · rw [if_neg e] at h
      exact h.elim
end
end Dl

set_option maxRecDepth 100000
set_option maxHeartbeats 4000000
/-! D11: from the syntax to the compact syntax. -/
namespace Dl
open PySem PySem.Spec PyProof.Rows L2
/-- where an expression stands: f: in a def's own block (a cell may be stored); l: a lambda may be made -/
structure Md where
  f : Bool
  l : Bool
  cs : List Str
/-- the cells that a comprehension's block makes -/
def ownC (scope : Scope) : List Str := (scope.names.map (·.1)).filter fun x => decide (scope.names.lookup x = some .cell)
def idx (x : Str) : List Str → Option Nat
  | [] => none
  | y :: ys => if x = y then some 0 else (idx x ys).map (· + 1)
theorem idx_get {x : Str} : ∀ {l : List Str} {i : Nat}, idx x l = some i → l[i]? = some x
  | [], i, e => by cases e
  | y :: ys, i, e => by
    unfold idx at e
    split at e
    · rename_i h
      cases e
      simp [h]
    · cases q : idx x ys with
      | none => rw [q] at e; cases e
      | some j =>
        rw [q] at e
        cases e
        simpa using idx_get q
def isVis (sc : Scope) (x : Str) : Bool := match sc.names.lookup x with
  | some .local => true
  | some .cell => true
  | some .free => true
  | _ => false
/-- a name that may be stored to: a local; in a def a cell, too -/
def isSto (st : Md) (sc : Scope) (x : Str) : Bool := match sc.names.lookup x with
  | some .local => true
  | some .cell => st.f || st.cs.contains x
  | _ => false
def isLocal (sc : Scope) (x : Str) : Bool := match sc.names.lookup x with
  | some .local => true
  | _ => false
def isGlo (sc : Scope) (x : Str) : Bool := match sc.names.lookup x with
  | some .globalImplicit => true
  | _ => false
def okNm (x : Str) : Bool := !(x == ("__debug__" : Str)) && !(x == ("__classdict__" : Str))
def notSt : Expr → Bool
  | .Starred _ _ => false
  | _ => true
def notSet : Expr → Bool
  | .Set _ _ _ => false
  | _ => true
def notIf : Expr → Bool
  | .IfExp _ _ _ _ => false
  | _ => true
/-- no call: attributeBase is nothing then -/
def notSup : Expr → Bool
  | .Call _ _ _ _ => false
  | _ => true
/-- the operators that are served -/
def binOk : Operator → Bool
  | .Add => true
  | .Sub => true
  | .Mult => true
  | .FloorDiv => true
  | .Mod => true
  | .Pow => true
  | _ => false
def constD : Const → Option D
  | .none => some .non
  | .bool b => some (.bl b)
  | .int i => some (.int i)
  | .str s => some (.str s)
  | _ => none
def tyName (x : Str) : Option Ty := if x = "int" then some .int else if x = "bool" then some .bool else if x = "str" then some .str else if x = "tuple" then some .tuple else if x = "list" then some .list else if x = "dict" then some .dict else none
/-- built-in functions by name and how many are handed over -/
def blName (x : Str) (n : Nat) : Option (Bl × Bool × String) :=
  if x = "len" ∧ n = 1 then some (.len, false, "len") else if x = "abs" ∧ n = 1 then some (.abs, false, "abs") else if x = "sum" ∧ n = 1 then some (.sum, false, "sum") else if x = "all" ∧ n = 1 then some (.all, false, "all") else if x = "any" ∧ n = 1 then some (.any, false, "any")
  else if x = "repr" ∧ n = 1 then some (.repr, false, "repr") else if x = "max" ∧ n = 2 then some (.max2, false, "max") else if x = "min" ∧ n = 2 then some (.min2, false, "min")
  else if x = "int" ∧ n = 1 then some (.int, true, "int") else if x = "list" ∧ n = 1 then some (.list, true, "list") else if x = "tuple" ∧ n = 1 then some (.tuple, true, "tuple") else none
def isLam : Expr → Bool
  | .Lambda _ _ _ _ => true
  | _ => false
def noPms : Arguments → Bool
  | ⟨[], [], none, [], [], none, []⟩ => true
  | _ => false
def onePm : Arguments → Option Str
  | ⟨[], [⟨p, none, _⟩], none, [], [], none, []⟩ => some p
  | _ => none
/-- a scope with one parameter, as LamS1 wants it -/
def lam1B (sc scp : Scope) (x : Str) : Bool :=
  decide (scp.kind = .function) && !scp.isCoroutine && !scp.isGenerator && decide (scp.names.lookup x = some .local) &&
    scp.names.all fun y => (!decide (y.2 = .local) || decide (y.1 = x)) && !decide (y.2 = .cell) && (!decide (y.2 = .free) || decide (sc.names.lookup y.1 = some .cell) || decide (sc.names.lookup y.1 = some .free))
/-- the names of a comprehension's block, with their slots -/
def blkOwn (N : List Str) (scope : Scope) : List (Str × Nat) := scope.names.filterMap fun p => match p.2 with
  | .local => (idx p.1 N).map fun i => (p.1, i)
  | .cell => (idx p.1 N).map fun i => (p.1, i)
  | _ => none
def kwNames : List Keyword → List Str
  | [] => []
  | ⟨some x, _, _⟩ :: r => x :: kwNames r
  | _ :: r => kwNames r
def permOf (x : Str) (ks : List Str) : List (Str × List Str × List Nat) → Option (List Nat)
  | [] => none
  | (y, ks', perm) :: r => if x = y ∧ ks = ks' then some perm else permOf x ks r
theorem permOf_mem {x : Str} {ks : List Str} {perm : List Nat} : ∀ {l : List (Str × List Str × List Nat)}, permOf x ks l = some perm → (x, ks, perm) ∈ l
  | [], e => by cases e
  | (y, ks', p) :: r, e => by
    unfold permOf at e
    split at e
    · rename_i h
      cases e
      rw [h.1, h.2]
      exact List.mem_cons_self
    · exact List.mem_cons_of_mem _ (permOf_mem e)
section
variable (Z : Nms) (N : List Str)
def cTy (sc : Scope) : Expr → Option Ty
  | .Name x _ => if isGlo sc x && okNm x then match Z.cls.lookup x with
      | some c => some (.cls c)
      | none => tyName x
    else none
  | _ => none
def cTys (sc : Scope) : List Expr → Option (List Ty)
  | [] => some []
  | e :: es => match cTy Z sc e, cTys sc es with
    | some t, some ts => some (t :: ts)
    | _, _ => none
mutual
def cE : Nat → Md → Scope → Expr → Option EX
  | 0, _, _, _ => none
  | n + 1, st, sc, e => match e with
    | .Name x _ => if okNm x then
        if isVis sc x then (idx x N).map .var
        else if isGlo sc x then match Z.con.lookup x with
          | some d => some (.glo x d)
          | none => none
        else none
      else none
    | .Constant c _ _ => (constD c).map .con
    | .BinOp a op b _ => if binOk op then match cE n st sc a, cE n st sc b with
        | some ea, some eb => some (.bin op ea eb)
        | _, _ => none
      else none
    | .UnaryOp .Not a _ => if notIf a then (cE n st sc a).map .nt else none
    | .UnaryOp .USub a _ => (cE n st sc a).map .neg
    | .BoolOp _ [a] _ => if notIf a then cE n st sc a else none
    | .BoolOp op (a :: b :: r) p => if notIf a then match cE n st sc a, cE n st sc (.BoolOp op (b :: r) p) with
        | some ea, some eb => some (match op with | .And => .nd ea eb | .Or => .or ea eb)
        | some ea, none => some (match op with | .And => .nd ea .stk | .Or => .or ea .stk)
        | none, _ => none
      else none
    | .Compare a [op] [b] _ => if notSet b then match cE n st sc a, cE n st sc b with
        | some ea, some eb => some (.cmp op ea eb)
        | _, _ => none
      else none
    | .Compare a [op, op'] [b, c] _ => if notSet c then match cE n st sc a, cE n st sc b, cE n st sc c with
        | some ea, some eb, some ec => some (.chn op op' ea eb ec)
        | _, _, _ => none
      else none
    | .IfExp t a b _ => if notIf t then match cE n st sc t, cE n st sc a, cE n st sc b with
        | some et, some ea, some eb => some (.ite et ea eb)
        | _, _, _ => none
      else none
    | .Tuple es _ _ => (cEs n st sc es).map .tup
    | .List es _ => (cEs n st sc es).map .lst
    | .Subscript a (.Slice lo hi none _) _ => match cE n st sc a, cO n st sc lo, cO n st sc hi with
        | some ea, some el, some eh => some (.slc ea el eh)
        | _, _, _ => none
    | .Subscript a (.Slice none none (some (.UnaryOp .USub (.Constant (.int 1) _ _) _)) _) _ => (cE n st sc a).map .rev
    | .Subscript a b _ => if notSl b then match cE n st sc a, cE n st sc b with
        | some ea, some eb => some (.ix ea eb)
        | _, _ => none
      else none
    | .Attribute a x _ => if notSup a then (cE n st sc a).map (.fld · x) else none
    | .ListComp elt [⟨tg, iter, ifs, asy⟩] scope _ => if asy = 0 ∧ notSet iter = true ∧ blkC N sc scope (blkOwn N scope) = true then
        match cI n st sc tg iter, cT n ⟨false, st.l, ownC scope⟩ (relS scope sc) tg, cC n ⟨false, st.l, ownC scope⟩ (relS scope sc) ifs, cE n ⟨false, st.l, ownC scope⟩ (relS scope sc) elt with
        | some it, some tp, some ec, some ee => if tp.pu && tp.sl.all (fun i => ((blkOwn N scope).map (·.2)).contains i) then some (.lc tp it ((blkOwn N scope).map (·.2)) ec ee) else none
        | _, _, _, _ => none
      else none
    | .Call (.Name x _) [a, b] [] _ => if x = "isinstance" then
        if isGlo sc x && okNm x then match b with
          | .Tuple ts _ _ => match cE n st sc a, cTys Z sc ts with
            | some ea, some (t :: tys) => if notSt a && ts.length ≤ 9 then some (.isi ea (t :: tys)) else none
            | _, _ => none
          | _ => match cE n st sc a, cTy Z sc b with
            | some ea, some t => if notSt a then some (.isi ea [t]) else none
            | _, _ => none
        else none
      else if isLam b then cFw n st sc x a b
      else cCall n st sc x [a, b]
    | .Call (.Name x _) [a] [] _ => if isLam a then cCau n st sc x a else cCall n st sc x [a]
    | .Call (.Name x _) (a :: as) [] _ => cCall n st sc x (a :: as)
    | .Call (.Name x _) [] (kw :: kws) _ => if isGlo sc x && okNm x then match Z.fns.lookup x, cK n st sc (kw :: kws), permOf x (kwNames (kw :: kws)) Z.kws with
        | some (i, _, _), some es, some perm => some (.calk i es perm)
        | _, _, _ => none
      else none
    | .Dict keys values _ => if keys.length ≤ 15 then (cKV n st sc keys values).map .dic else none
    | _ => none
def cKV : Nat → Md → Scope → List (Option Expr) → List Expr → Option EXs
  | 0, _, _, _, _ => none
  | _ + 1, _, _, [], [] => some .nil
  | n + 1, st, sc, some k :: ks, v :: vs => match cE n st sc k, cE n st sc v, cKV n st sc ks vs with
    | some ek, some ev, some r => some (.cons ek (.cons ev r))
    | _, _, _ => none
  | _, _, _, _, _ => none
def cK : Nat → Md → Scope → List Keyword → Option EXs
  | 0, _, _, _ => none
  | _ + 1, _, _, [] => some .nil
  | n + 1, st, sc, ⟨some _, e, _⟩ :: r => match cE n st sc e, cK n st sc r with
    | some x, some xs => some (.cons x xs)
    | _, _ => none
  | _, _, _, _ => none
/-- x(lambda: body) -/
def cCau : Nat → Md → Scope → Str → Expr → Option EX
  | 0, _, _, _, _ => none
  | n + 1, st, sc, x, e => match e with
    | .Lambda pms bd scp _ => if st.l && decide (Z.cau = some x) && isGlo sc x && okNm x && noPms pms && LamX.lamSB sc scp then (cE n ⟨false, false, []⟩ scp bd).map .cau else none
    | _ => none
/-- x(a, lambda p: body) -/
def cFw : Nat → Md → Scope → Str → Expr → Expr → Option EX
  | 0, _, _, _, _, _ => none
  | n + 1, st, sc, x, a, e => match e with
    | .Lambda pms bd scp _ => match onePm pms with
      | some p => if st.l && decide (Z.fw = some x) && isGlo sc x && okNm x && notSt a && lam1B sc scp p then match cE n st sc a, idx p N, cE n ⟨false, false, []⟩ scp bd with
          | some ea, some j, some eb => some (.fw ea j eb)
          | _, _, _ => none
        else none
      | none => none
    | _ => none
/-- a call of a def, of a built-in function -/
def cCall : Nat → Md → Scope → Str → List Expr → Option EX
  | 0, _, _, _, _ => none
  | n + 1, st, sc, x, as => if isGlo sc x && okNm x then
      match Z.fns.lookup x with
      | some (i, np, df) => if as.length ≤ np ∧ np ≤ as.length + df.length then (cEs n st sc as).map fun es => .cal i es (df.drop (df.length - (np - as.length))) else none
      | none => match Z.cls.lookup x with
        | some c => (cEs n st sc as).map (.mak c)
        | none => match blName x as.length with
          | some (f, _) => (cEs n st sc as).map (.bl f)
          | none => none
    else if isVis sc x && okNm x then match idx x N, cEs n st sc as with
      | some i, some es => some (.calv i es)
      | _, _ => none
    else none
def cO : Nat → Md → Scope → Option Expr → Option EX
  | 0, _, _, _ => none
  | _ + 1, _, _, none => some (.con .non)
  | n + 1, st, sc, some e => match cE n st sc e with
    | some x => if noPart x then none else some x
    | none => none
def cC : Nat → Md → Scope → List Expr → Option EX
  | 0, _, _, _ => none
  | _ + 1, _, _, [] => some (.con (.bl true))
  | n + 1, st, sc, [c] => if notIf c then cE n st sc c else none
  | _ + 1, _, _, _ => none
/-- what is walked; a tuple as the target for enumerate and zip -/
def cI : Nat → Md → Scope → Expr → Expr → Option IX
  | 0, _, _, _, _ => none
  | n + 1, st, sc, tg, it => match it with
    | .Call (.Name x _) [a] [] _ => if x = "range" ∧ isGlo sc x = true ∧ notSt a = true then (cE n st sc a).map .rng1
      else if x = "enumerate" ∧ isGlo sc x = true ∧ notSt a = true then match tg with
        | .Tuple _ _ _ => (cE n st sc a).map .enum
        | _ => none
      else (cE n st sc it).map .seq
    | .Call (.Name x _) [a, b, c] [] _ => if x = "range" ∧ isGlo sc x = true ∧ notSt a = true ∧ notSt b = true then match c with
        | .UnaryOp .USub (.Constant (.int 1) _ _) _ => match cE n st sc a, cE n st sc b with
          | some ea, some eb => some (.rngd ea eb)
          | _, _ => none
        | _ => none
      else (cE n st sc it).map .seq
    | .Call (.Name x _) [a, b] [] _ => if x = "range" ∧ isGlo sc x = true ∧ notSt a = true ∧ notSt b = true then match cE n st sc a, cE n st sc b with
        | some ea, some eb => some (.rng2 ea eb)
        | _, _ => none
      else if x = "zip" ∧ isGlo sc x = true ∧ notSt a = true ∧ notSt b = true then match tg, cE n st sc a, cE n st sc b with
        | .Tuple _ _ _, some ea, some eb => some (.zip ea eb)
        | _, _, _ => none
      else (cE n st sc it).map .seq
    | _ => (cE n st sc it).map .seq
def cT : Nat → Md → Scope → Expr → Option TP
  | 0, _, _, _ => none
  | n + 1, st, sc, e => match e with
    | .Name x _ => if okNm x && isSto st sc x then (idx x N).map .nm else none
    | .Subscript (.Name x _) k _ => if okNm x && isVis sc x && notSl k then match idx x N, cE n st sc k with
        | some i, some ek => some (.sub i ek)
        | _, _ => none
      else none
    | .Tuple es _ _ => if noStars es then match cTs n st sc es with
        | some ts => if ts.len = es.length then some (.tu ts) else none
        | none => none
      else none
    | _ => none
def cTs : Nat → Md → Scope → List Expr → Option TPs
  | 0, _, _, _ => none
  | _ + 1, _, _, [] => some .nil
  | n + 1, st, sc, e :: es => match cT n st sc e, cTs n st sc es with
    | some t, some ts => some (.cons t ts)
    | _, _ => none
def cEs : Nat → Md → Scope → List Expr → Option EXs
  | 0, _, _, _ => none
  | _ + 1, _, _, [] => some .nil
  | n + 1, st, sc, e :: es => if notSt e then match cE n st sc e, cEs n st sc es with
      | some x, some xs => some (.cons x xs)
      | _, _ => none
    else none
end
end

/-- the def first_wrong, by its text -/
structure FwTx (sc : Scope) (bg : List Stmt) (several fits index item : Str) : Prop where
  en : sc.names.lookup ("enumerate" : Str) = some .globalImplicit
  l0 : sc.names.lookup several = some .local
  l1 : sc.names.lookup fits = some .local
  l2 : sc.names.lookup index = some .local
  l3 : sc.names.lookup item = some .local
  nd : [several, fits, index, item].Nodup
  ok : [several, fits, index, item].all okNm = true
  tx : ∃ (j j2 : Nat) (p1 p2 p3 p4 p5 p6 p7 p8 p9 p10 p11 p12 p13 p14 p15 p16 : Pos), bg = [.For (.Tuple [.Name index p1, .Name item p2] j p3) (.Call (.Name "enumerate" p4) [.Name several p5] [] p6) [.If (.UnaryOp .Not (.Call (.Name fits p7) [.Name item p8] [] p9) p10) [.Return (some (.Name index p11)) p12] [] p13] [] p14, .Return (some (.Constant .none j2 p15)) p16]
def FwDef (K : PySem.W.Frag) (mg : Str → Option Value) (x : Str) : Prop := ∃ (st : Stmt) (g : Addr) (fd : FuncData) (a b c d : Str), Fun K x x st g fd ∧ mg x = some (.ref g) ∧ Binds K fd [a, b] [] ∧ FnScope [a, b, c, d] [a, b] (defScope st) ∧ FwTx (defScope st) (defBody st) a b c d
/-- the def that catches what its argument raises, by its text -/
structure CauTx (sc : Scope) (bg : List Stmt) (work found error W : Str) : Prop where
  gw : sc.names.lookup W = some .globalImplicit
  l0 : sc.names.lookup work = some .local
  l1 : sc.names.lookup found = some .local
  l2 : sc.names.lookup error = some .local
  nd : [work, found, error].Nodup
  ok : [work, found, error, W].all okNm = true
  tx : ∃ (j : Nat) (p1 p2 p3 p4 p5 p6 p7 p8 p9 p10 p11 p12 p13 p14 : Pos), bg = [.Assign [.Name found p1] (.Constant .none j p2) p3, .Try [.Expr (.Call (.Name work p4) [] [] p5) p6] [.ExceptHandler (some (.Name W p7)) (some error) [.Assign [.Name found p8] (.Name error p9) p10] p11] [] [] p12, .Return (some (.Name found p13)) p14]
def CauDef (K : PySem.W.Frag) (mg : Str → Option Value) (cls : Nat → Addr) (Γ : Tbl) (x : Str) : Prop := ∃ (st : Stmt) (g : Addr) (fd : FuncData) (a b c W : Str) (CS : Addr), Fun K x x st g fd ∧ mg x = some (.ref g) ∧ Binds K fd [a] [] ∧ FnScope [a, b, c] [a] (defScope st) ∧ CauTx (defScope st) (defBody st) a b c W ∧
  mg W = some (.ref CS) ∧ ∀ cc, Γ.cau cc = true → PySem.W.exmOne K (.ref (cls cc)) (.ref CS) = some true
/-- a making's promise: f gives the instance's fields -/
def spI (w : World) (G0 : Gl0) (c : Nat) (f : List D → Wd → Rs D) : Sp := fun vs H Q E => ∃ (T : Option TLoc) (B : Addr → Prop) (ds : List D) (W : Wd) (x dx : Addr) (H0 : Hp) (vs' : List V), vs = .ref x :: vs' ∧ (∀ a, TN T a → B a) ∧ (∀ a, B a → H0 a ≠ none) ∧ H0 x = none ∧ H0 dx = none ∧ dx ≠ x ∧ H = upd (upd H0 dx (.own x)) x (.ins (G0.cls c) dx []) ∧
  RepL w { G0 with T := T } B H0 vs' ds ∧ WR { G0 with T := T } H0 W ∧
  match f ds W with
  | .ok d W' => ∀ H', PstE { G0 with T := T } H0 H' → WR { G0 with T := T } H' W' → Rep w { G0 with T := T } B H' (.ref x) d → Q .non H'
  | .err e W' => ∀ cls dd H', PstE { G0 with T := T } H0 H' → WR { G0 with T := T } H' W' → ExR w { G0 with T := T } H0 H' cls dd e → E cls dd H'
  | .stk => False
/-- an error's making: it keeps what it got as f -/
def spInit (C : Addr) (f : Str) : Sp := fun vs H Q E => ∃ (a : Addr) (v : V), vs = [.ref a, v] ∧ H a = some (exo a C none) ∧ ∀ d, H d = none → Q .non (upd (upd H a (exo a C (some d))) d (exd d [(f, v)]))
/-- what the text's top has left -/
structure Tab (P : Program) (w : World) (K : PySem.W.Frag) (mg : Str → Option Value) (base : Heap) (Γ : Tbl) (Z : Nms) (G0 : Gl0) (cf : CF) (k : Nat) : Prop where
  con : ∀ x d, Z.con.lookup x = some d → ∃ v u, mg x = some u ∧ RelV v u ∧ ∀ (T : Option TLoc) S H, Rep w { G0 with T := T } S H v d
  fns : ∀ x i np df, Z.fns.lookup x = some (i, np, df) → ∃ fa fd ps, ps.length = np ∧ mg x = some (.ref fa) ∧ PySem.W.keepIn K (.ref fa) = true ∧ FnOk P w K mg base (L2.CX P w) k fa fd ps (spF w G0 (cf i)) ∧
    (∀ m, m ≤ df.length → ∃ dV dU, Binds K fd ps dU ∧ Vals dV dU ∧ ∀ (T : Option TLoc) S H, RepL w { G0 with T := T } S H dV (df.drop (df.length - m))) ∧
    ∀ ks perm, (x, ks, perm) ∈ Z.kws → ∃ g, KBinds K fd ps ks g (fun _ zs => perm.map fun i => zs.getD i .non)
  val : ∀ j, Γ.fv j = true → PySem.W.keepIn K (.ref (G0.fad j)) = true ∧ FnR P w K mg base (L2.CX P w) k (G0.fad j) (spF w G0 (cf j))
  cls : ∀ x c, Z.cls.lookup x = some c → mg x = some (.ref (G0.cls c))
  blt : ∀ x, x ∈ bltNames → mg x = none
  kf : KF K G0.cls Γ
  icl : ∀ c, Γ.isIns c = true → Cls K (G0.cls c)
  fld : ∀ c x, Γ.isIns c = true → Γ.fld c x = true → NoAttr K (G0.cls c) x
  prop : ∀ c x g, Γ.prop c x = some g → Γ.isIns c = true ∧ ∃ p fa fd, PropOf K (G0.cls c) x p fa ∧ Binds K fd ["self"] [] ∧ FnOk P w K mg base (L2.CX P w) k fa fd ["self"] (spF w G0 (cf g))
  exd : ∀ c, Γ.isExc c = true → PySem.W.hasDictIn K (G0.cls c) = true
  exf : ∀ c x, Γ.isExc c = true → Γ.fld c x = true → PySem.W.findIn K (.ref (G0.cls c)) x = some none
  gk : G0.K = K
  fw : ∀ x, Z.fw = some x → FwDef K mg x
  cau : ∀ x, Z.cau = some x → CauDef K mg G0.cls Γ x
  rai : ∀ c, match Γ.mkx c with
    | none => True
    | some [] => PySem.W.excIn K (G0.cls c) veB "ValueError.__new__" = true ∧ PySem.W.keepIn K (.ref (G0.cls c)) = true ∧ PySem.W.subIn K (.ref (G0.cls c)) (.type "BaseException") = some true ∧ PySem.W.typeIn K (.ref (G0.cls c)) = some (.type "type")
    | some [f] => OexC K (G0.cls c) ∧ ∃ fI fd ps, PySem.W.findIn K (.ref (G0.cls c)) "__init__" = some (some (.ref fI)) ∧ PySem.W.typeIn K (.ref fI) = some (.type "function") ∧ Binds K fd ps [] ∧ FnOk P w K mg base (L2.CX P w) 1 fI fd ps (spInit (G0.cls c) f)
    | _ => False
  mak : ∀ c g, Γ.mak c = some g → Γ.isIns c = true ∧ ∃ fa fd ps, Mk K (G0.cls c) fa ∧ Binds K fd ps [] ∧ FnOk P w K mg base (L2.CX P w) k fa fd ps (spI w G0 c (cf g))
/-- a place in the text -/
structure Ctx (X : Cx) (C : Cd) (Γ : Tbl) (Z : Nms) (G0 : Gl0) (cf : CF) (k : Nat) (N : List Str) (st : Md) (sc : Scope) : Prop where
  tab : Tab X.prog X.w X.K X.mg X.base Γ Z G0 cf k
  w : C.w = X.w
  g : C.G = { G0 with T := C.G.T }
  n : X.N = N
  sc : X.env.scope = sc
  nd : X.N.Nodup
  calm : X.calm = true
  room : Room (k + 1) X.A
  fnc : ∀ x, (st.f || st.cs.contains x) = true → X.fn x = true
  lam : st.l = true → Room (k + 3) X.A ∧ ∃ c P, LamX.TabB X.base X.mg c P ∧ X.env.code = .ref c ∧ (P, X.env.qual ++ "<lambda>") ∈ C.G.TB ∧ ∀ p ∈ C.G.TB, p.1 = P → p.2 = X.env.qual ++ "<lambda>"
  tk : Takes X fun cls d _ H => C.E cls d H
section
variable {X : Cx} {C : Cd} {Γ : Tbl} {Z : Nms} {G0 : Gl0} {cf : CF} {k : Nat} {N : List Str} {st : Md} {sc : Scope}
theorem Ctx.K (c : Ctx X C Γ Z G0 cf k N st sc) : X.K = C.G.K := by
  rw [c.g]
  exact c.tab.gk.symm
theorem Ctx.kf (c : Ctx X C Γ Z G0 cf k N st sc) : KF X.K C.G.cls Γ := by
  rw [c.g]
  exact c.tab.kf
theorem Ctx.cl (c : Ctx X C Γ Z G0 cf k N st sc) : C.G.cls = G0.cls := by
  rw [c.g]
theorem Ctx.toB (c : Ctx X C Γ Z G0 cf k N st sc) (B : Addr → Prop) : Ctx X { C with B := B } Γ Z G0 cf k N st sc := ⟨c.tab, c.w, c.g, c.n, c.sc, c.nd, c.calm, c.room, c.fnc, c.lam, c.tk⟩
theorem ownC_fn {scope : Scope} {x : Str} (h : (false || (ownC scope).contains x) = true) : (scope.names.lookup x == some .cell) = true := by
  rw [Bool.false_or] at h
  have h2 := (List.mem_filter.mp (List.contains_iff_mem.mp h)).2
  rw [of_decide_eq_true h2]
  rfl
theorem Ctx.blk (c : Ctx X C Γ Z G0 cf k N st sc) (B : Addr → Prop) (s : Shared) (H : Hp) (scope : Scope) (cl : List (Str × Addr)) (a : Addr) (fp : List Addr) : Ctx (X.blk s H scope (compEnvC scope cl a X.env) fp) (C0 C B) Γ Z G0 cf k N ⟨false, st.l, ownC scope⟩ (relS scope sc) :=
  ⟨c.tab, c.w, c.g, c.n, by rw [← c.sc]; rfl, c.nd, c.calm, c.room, fun x z => ownC_fn z, c.lam, LamX.takes0⟩
theorem noattrB {e : Expr} {x : Str} {env : Env} (h : notSup e = true) : attributeBase e x env (eval e env) = eval e env := by
  cases e <;> first | rfl | cases h
theorem isVis_ok {x : Str} (h : isVis sc x = true) : Vis sc x := by
  unfold isVis at h
  split at h
  · rename_i e; exact .inl e
  · rename_i e; exact .inr (.inl e)
  · rename_i e; exact .inr (.inr e)
  · cases h
theorem isSto_ok {x : Str} (c : Ctx X C Γ Z G0 cf k N st sc) (h : isSto st sc x = true) : L2.Loc X.env.scope x ∧ (X.fn x = true ∨ X.env.scope.names.lookup x = some .local) := by
  rw [c.sc]
  unfold isSto at h
  split at h
  · rename_i e; exact ⟨.inl e, .inr e⟩
  · rename_i e; exact ⟨.inr e, .inl (c.fnc x h)⟩
  · cases h
theorem isLocal_ok {x : Str} (h : isLocal sc x = true) : sc.names.lookup x = some .local := by
  unfold isLocal at h
  split at h
  · rename_i e; exact e
  · cases h
theorem isGlo_ok {x : Str} (c : X.env.scope = sc) (h : isGlo sc x = true) : Gl X x := by
  unfold isGlo at h
  split at h
  · rename_i e
    show X.env.scope.names.lookup x = _
    rw [c]
    exact e
  · cases h
theorem okNm_ok {x : Str} (h : okNm x = true) : (x == ("__debug__" : Str)) = false ∧ (x == ("__classdict__" : Str)) = false := by
  unfold okNm at h
  simp only [Bool.and_eq_true, Bool.not_eq_true'] at h
  exact h
theorem star_cons {e : Expr} {es : List Expr} (h : notSt e = true) : starEach (e :: es) X.env = (false, eval e X.env) :: starEach es X.env := by
  cases e <;> first | rfl | cases h
theorem plainIx {e : Expr} (h : notSl e = true) : PlainIx e := by
  intro o i
  cases e <;> first | rfl | cases h
theorem notSl_ok {e : Expr} (h : notSl e = true) : ∀ l u s p, e ≠ .Slice l u s p := by
  intro l u s p z
  subst z
  cases h
theorem notSet_ok {e : Expr} (h : notSet e = true) : ∀ x, foldedSetIterable e X.env x = pure x := by
  intro x
  cases e <;> first | rfl | cases h
theorem nomark {op : CmpOp} {b : Expr} (h : notSet b = true) : behindInMarks op b = false := by
  cases b <;> first | rfl | cases h
theorem constD_ok {c : Const} {d : D} {i : Nat} {pos : Pos} (h : constD c = some d) : ∃ v, PE X (.Constant c i pos) (tC v) ∧ ∀ (w : World) (G : Gl0) S H, Rep w G S H v d := by
  cases c <;> first | (cases h; done) | skip
  · cases h; exact ⟨_, pe_non, fun _ _ _ _ => .non⟩
  · cases h; exact ⟨_, pe_bl, fun _ _ _ _ => .bl _⟩
  · cases h; exact ⟨_, pe_int, fun _ _ _ _ => .int _⟩
  · cases h; exact ⟨_, pe_str, fun _ _ _ _ => .str _⟩
/-- no star among the arguments -/
theorem cEs_noStar : ∀ {n : Nat} {st : Md} {sc : Scope} {es : List Expr} {xs : EXs}, cEs Z N n st sc es = some xs → ∀ pos, (backTo pos (starEach es X.env)).any (·.1) = false
  | 0, _, _, es, xs, e, pos => by simp only [cEs] at e; cases e
  | n + 1, _, _, [], xs, e, pos => rfl
  | n + 1, st, sc, a :: es, xs, e, pos => by
    simp only [cEs] at e
    by_cases h : notSt a = true
    · rw [if_pos h] at e
      rw [star_cons h]
      cases q : cE Z N n st sc a with
      | none => rw [q] at e; cases e
      | some x =>
        cases q2 : cEs Z N n st sc es with
        | none => rw [q, q2] at e; cases e
        | some ys =>
          have ih := cEs_noStar q2 pos
          show (false || (backTo pos (starEach es X.env)).any (·.1)) = false
          rw [ih]
          rfl
    · rw [if_neg h] at e
      cases e
theorem cEs_hd {n : Nat} {st : Md} {sc : Scope} {a : Expr} {es : List Expr} {xs : EXs} (q : cEs Z N n st sc (a :: es) = some xs) : notSt a = true := by
  cases n with
  | zero => simp only [cEs] at q; cases q
  | succ n =>
    simp only [cEs] at q
    split at q
    · assumption
    · cases q
end
end Dl

set_option maxRecDepth 100000
set_option maxHeartbeats 4000000
/-! D24a: a lambda is laid; what stood at an address still stands there. -/
namespace Dl
open PySem PySem.Spec PyProof.Rows L2 LamX
/-- all but tables stays, and no address is given up -/
def Gro (Ha Hb : Hp) : Prop := ExtN Ha Hb ∧ ∀ b, Ha b ≠ none → Hb b ≠ none
theorem Gro.rfl' (Ha : Hp) : Gro Ha Ha := ⟨ExtN.refl Ha, fun _ z => z⟩
section
variable {X : Cx} {pins : List (Addr × Obj)} {σ : L2.St} {Hv : Hp} {sv : Shared}
theorem lam_laid {TT : List (Addr × Str)} {cd tb : Addr} {pms : Arguments} {bd : Expr} {scp : Scope} {ps0 : Pos} {Er : Value → Shared → Prop} {Qv : Value → Shared → Prop} (Iv : Inv X pins σ Hv sv) (tbok : TabB X.base X.mg cd tb) (ec : X.env.code = .ref cd)
    (tin : (tb, X.env.qual ++ "<lambda>") ∈ TT) (tone : ∀ p ∈ TT, p.1 = tb → p.2 = X.env.qual ++ "<lambda>") (tabs : Tabs TT Hv) (nodf : defaultsOf pms X.env = ([], [])) (frees : ∀ y ∈ scp.names, y.2 = .free → ∃ c, X.env.cells.lookup y.1 = some c)
    (go : ∀ (f c' : Addr) (pm ctv : Value) (H1 : Hp) (s' : Shared), Inv X pins σ H1 s' → Gro Hv H1 → Tabs TT H1 →
      s'.heap.get? f = some (PySem.W.kla_obj "<lambda>" (X.env.qual ++ "<lambda>") pms bd scp (cloFrom X.env.cells scp.names []) pm c' ctv) → H1 f = none → f ∉ frs X.stack → H1 c' = some (CodeO c' (X.env.qual ++ "<lambda>")) → Qv (.ref f) s') :
    wpAny (model X.prog X.w) X.A (eval (.Lambda pms bd scp ps0) X.env) Qv Er sv := by
  obtain ⟨trip, atT, tripOk, told⟩ := tabs _ tin
  refine PySem.W.kla_eval nodf ?_
  have bOn : sv.heap.BuiltinsAt X.mg tb := tbok.bm.keeps Iv.bk
  have rawT : sv.heap.get? tb = some { cls := .none, data := .fields trip } := Iv.hok tb _ atT
  have offstack : ∀ f, sv.heap.objs.size ≤ f → f ∉ frs X.stack := fun f hf hin => by
    rcases List.mem_cons.mp (Iv.stkSub _ hin) with q | q
    · have hlt := Iv.lt
      rw [← q] at hlt
      exact absurd (Nat.lt_of_lt_of_le hlt hf) (Nat.lt_irrefl _)
    · exact Iv.nofs hf q
  cases look : codeAmong ps0 trip.toList with
  | some cv =>
    obtain ⟨c', e, cO⟩ := told ps0 cv look
    subst e
    refine PySem.W.kla_makeFunctionHit (mg := X.mg) (c := cd) (P := tb) (ps := trip) (closure_ok frees) Iv.ok.glob (Iv.mod.glob.keeps Iv.bk) ec (tbok.code.keeps Iv.bk) rawT tripOk look bOn fun ctv h' tk kx ge => ?_
    have J : Inv X pins σ Hv { sv with heap := h'.push (PySem.W.kla_obj "<lambda>" (X.env.qual ++ "<lambda>") pms bd scp (cloFrom X.env.cells scp.names []) ((X.mg "__name__").getD .none) c' ctv), toks := tk } := Iv.kept fun b o e => Heap.get?_push_of_some _ (kx b o e)
    exact go h'.objs.size c' ((X.mg "__name__").getD .none) ctv Hv _ J (Gro.rfl' Hv) tabs (Heap.get?_push_size _ rfl) (Iv.hok.fresh ge) (offstack _ ge) cO
  | none =>
    refine PySem.W.kla_makeFunction (mg := X.mg) (c := cd) (P := tb) (ps := trip) (closure_ok frees) Iv.ok.glob (Iv.mod.glob.keeps Iv.bk) ec (tbok.code.keeps Iv.bk) rawT tripOk look tbok.gP bOn fun c' ctv h' tk kx ge lt0 rec0 nt => ?_
    obtain ⟨c2, oc, vs, tok, e2, goc, dvs, v1⟩ := rec0
    cases e2
    have hsz : sv.heap.objs.size ≤ h'.objs.size := Nat.le_trans ge (Nat.le_of_lt lt0)
    have newC : Hv c' = none := Iv.hok.fresh ge
    have J := inv_table (t' := tk) (more := #[rawInt ps0.line, rawInt ps0.col, .ref c']) (h' := h'.push (PySem.W.kla_obj "<lambda>" (X.env.qual ++ "<lambda>") pms bd scp (cloFrom X.env.cells scp.names []) ((X.mg "__name__").getD .none) c' ctv)) Iv atT
      (fun b o hb e => Heap.get?_push_of_some _ (kx b o hb e)) (Heap.get?_push_of_some _ nt) ge ⟨oc, vs, tok, Heap.get?_push_of_some _ goc, dvs, v1⟩
    have kept : ExtN Hv (upd (upd Hv tb (.tbl (trip ++ #[rawInt ps0.line, rawInt ps0.col, .ref c']))) c' (CodeO c' (X.env.qual ++ "<lambda>"))) := fun b o e nz => by
      rw [upd_ne (ne_of_none e newC), upd_ne (fun y => nz trip (Option.some.inj (e.symm.trans (by rw [y]; exact atT))))]
      exact e
    have dom : ∀ b, Hv b ≠ none → upd (upd Hv tb (.tbl (trip ++ #[rawInt ps0.line, rawInt ps0.col, .ref c']))) c' (CodeO c' (X.env.qual ++ "<lambda>")) b ≠ none := fun b hb => by
      by_cases h1 : b = c'
      · rw [h1, upd_same]; simp
      · rw [upd_ne h1]
        by_cases h2 : b = tb
        · rw [h2, upd_same]; simp
        · rw [upd_ne h2]; exact hb
    have toL : (trip ++ #[rawInt ps0.line, rawInt ps0.col, .ref c']).toList = trip.toList ++ [rawInt ps0.line, rawInt ps0.col, .ref c'] := by simp
    refine go h'.objs.size c' ((X.mg "__name__").getD .none) ctv _ _ J ⟨kept, dom⟩ (fun p hp => ?_) (Heap.get?_push_size _ rfl) ?_ (offstack _ hsz) upd_same
    · by_cases hb : p.1 = tb
      · rw [tone p hp hb, hb]
        refine ⟨_, by rw [upd_ne (ne_of_none atT newC), upd_same], by rw [toL]; exact PySem.TriplesOk_snoc _ _ _ _ tripOk, fun p' cv hcv => ?_⟩
        rw [toL] at hcv
        rcases among_app _ tripOk hcv with y | y
        · obtain ⟨c0, a1, a2⟩ := told p' cv y
          exact ⟨c0, a1, kept _ _ a2 codeO_ne⟩
        · exact ⟨c', y, upd_same⟩
      · obtain ⟨ps', a1, a2, a3⟩ := tabs p hp
        refine ⟨ps', by rw [upd_ne (ne_of_none a1 newC), upd_ne hb]; exact a1, a2, fun p' cv hcv => ?_⟩
        obtain ⟨c0, b1, b2⟩ := a3 p' cv hcv
        exact ⟨c0, b1, kept _ _ b2 codeO_ne⟩
    · have n1 : h'.objs.size ≠ c' := Nat.ne_of_gt lt0
      have n2 : h'.objs.size ≠ tb := Nat.ne_of_gt (Nat.lt_of_lt_of_le (Heap.lt_size rawT) hsz)
      rw [upd_ne n1, upd_ne n2]
      exact Iv.hok.fresh hsz
end
/-- what the making of a lambda leaves -/
def tLamG (TT : List (Addr × Str)) (R : (XK → Hp → VK → Prop) → Hp → VK → Prop) (t : XK → TE) : TE := fun σ Ha Q => Tabs TT Ha ∧ ∀ Hb, Gro Ha Hb → Tabs TT Hb → R (fun E H' Q' => t E σ H' Q') Hb Q
section
variable {X : Cx}
/-- x(lambda: body), the domain kept -/
theorem pe_lamG {TT : List (Addr × Str)} {R : (XK → Hp → VK → Prop) → Hp → VK → Prop} {x a : Str} {g cd tb : Addr} {k : Nat} {pg : Arguments} {bg : List Stmt} {sg : Scope} {dV kV doc pm cdv ct oc : Value} {an od : Option Addr} {osl : Array (Option Value)} {Ng : List Str}
    {pms : Arguments} {bd : Expr} {scp : Scope} {t : XK → TE} {p lpos pos : Pos} (gx : Gl X x) (mx : X.mg x = some (.ref g)) (kx : PySem.W.keepIn X.K (.ref g) = true)
    (lk : X.K.lookup g = some ⟨oc, od, .func (PySem.W.fnOf x x pg bg sg dV kV doc pm an cdv ct), osl⟩) (cg : PySem.W.codeIn X.K cdv x = true) (bi : L2.Binds X.K (PySem.W.fnOf x x pg bg sg dV kV doc pm an cdv ct) [a] []) (Sg : FnScope Ng [a] sg) (n0 : Ng[0]? = some a) (va : Vis sg a)
    (gv : GivesTo X Ng x sg g cdv bg a (X.env.qual ++ "<lambda>") R)
    (tbok : TabB X.base X.mg cd tb) (ec : X.env.code = .ref cd) (tin : (tb, X.env.qual ++ "<lambda>") ∈ TT) (tone : ∀ p ∈ TT, p.1 = tb → p.2 = X.env.qual ++ "<lambda>") (hr : Room (k + 2) X.A) (L : LamS X.env.scope scp) (nodf : defaultsOf pms X.env = ([], []))
    (bd0 : ∀ (q : Str) (cl : List (Str × Addr)) (pm cv ctv : Value), bindArgs (PySem.W.kla_fn "<lambda>" q pms bd scp cl pm cv ctv) ⟨[], []⟩ = pure [])
    (hbody : ∀ (A : Around) (outer : List Env) (s : Shared) (H : Hp) (E : XK) (f c' : Addr), Room k (A.deeper (lamEnv X scp s.heap.objs.size f c')) → PE (lamCx X A outer s H E scp f c') bd (t E))
    (hdb : (x == ("__debug__" : Str)) = false) (hd : (a == ("__debug__" : Str)) = false) (hcd : (a == ("__classdict__" : Str)) = false) :
    PE X (.Call (.Name x p) [.Lambda pms bd scp lpos] [] pos) (tLamG TT R t) := by
  refine ⟨fun pins s σ Ha Q I h => ?_⟩
  obtain ⟨tabs, h⟩ := h
  refine wpAny_Call_Name_kw (ld_glob I gx mx ?_ hdb)
  refine PySem.W.callWith_K (h₀ := X.base) I.ok.mod.kin kx ?_ (by rfl) (by rfl)
  show wpAny _ _ (spliced ((false, eval (.Lambda pms bd scp lpos) X.env) :: backTo pos (starEach [] X.env))) _ _ s
  refine Calls.spliced_cons (lam_laid I tbok ec tin tone tabs nodf (L.has I.ok) fun f c' pm' ctv Hb s' J eN T1 hf hfn hfr hco => ?_)
  refine Calls.spliced_nil ⟨J.kIn, ?_⟩
  have run : codeAny (model X.prog X.w) X.A (.call (.ref g) ⟨[.ref f], []⟩) (CR C8.CX0 X.stack X.prog X.w Hb s' Q C8.E0) s' := by
    refine run_ofS (N := Ng) (ps := [a]) (us := [.ref f]) (vs := [.ref f]) lk cg Sg hr J.env0 (bi s' [.ref f] J.kIn rfl) (.cons rfl .nil) rfl fun hr' => ?_
    obtain ⟨t', ht', hq'⟩ := gv f c' s' Hb Q (fun E H' Q' => t E σ H' Q') (fun W pn xe E p1 p2 tk hW => pe_act (i := 0) J L hf hfn hfr (bd0 _ _ _ _ _) tk hW hr' (fun A outer s H hr2 => hbody A outer s H E f c' hr2) n0 va hd hcd) hco (h Hb eN T1)
    exact ⟨t', ht'.nox, hq'⟩
  refine wpAny_call (codeAny_mono run fun r s2 hq => ?_)
  cases r with
  | error e => exact (show False from hq).elim
  | ok fl =>
    cases fl with
    | next => exact False.elim hq
    | brk => exact False.elim hq
    | cont => exact False.elim hq
    | ret u => exact J.after hq
end
end Dl

set_option maxRecDepth 100000
set_option maxHeartbeats 4000000
/-! D24b: what is caught is kept as a value. -/
namespace Dl
open PySem PySem.Spec PyProof.Rows L2 LamX
/-- the wish of «except x as n»: behind the suite the error is an object that is known -/
def wKeep (K : PySem.W.Frag) (c : Value) (i len : Nat) (ts : Addr → Value → Option Addr → TS) (Wo : WX) (D : Ends) : WX := fun cls d σ H =>
  ∃ b, PySem.W.exmOne K cls c = some b ∧ (b = true → ∀ a, H a = none → σ.length = len → ts a cls d { nx := fun σ' H' => H' a = none → D.nx (σ'.set i none) (upd H' a (ExcO a cls d)), rt := fun _ _ => False } (σ.set i (some (.ref a))) H) ∧
    (b = false → Wo cls d σ H)
section
variable {X : Cx} {pins : List (Addr × Obj)} {σ : L2.St} {Hv : Hp} {s : Shared}
/-- an object that is pinned becomes known -/
theorem inv_known {a : Addr} {oe : Obj} {cls : Value} {d : Option Addr} {vs : Array Value} (J : Inv X ((a, oe) :: pins) σ Hv s) (hz : Zc cls d oe) (hd : oe.data = .fields vs) (n0 : X.s_0.heap.get? a = none) (np : ∀ p ∈ X.pn ++ pins, p.1 ≠ a) (hx : X.ex = []) : Inv X pins σ (upd Hv a (ExcO a cls d)) s := by
  obtain ⟨ha, na, nL, nF, nc⟩ := J.pin (a, oe) (List.mem_append_right _ List.mem_cons_self)
  have ha : s.heap.get? a = some oe := ha
  have na : Hv a = none := na
  have ne0 : ∀ b o, X.s_0.heap.get? b = some o → b ≠ a := fun b o e z => by rw [z, n0] at e; cases e
  have ob : ObjOk X.prog X.w (upd Hv a (ExcO a cls d)) s.heap a (ExcO a cls d) := ⟨⟨oe, vs, ha, hz, hd⟩, ⟨oe, ha⟩, fun h1 h2 ⟨o, v, q1, q2, q3⟩ k => ⟨o, v, k o q1, q2, q3⟩⟩
  refine ⟨J.ok, J.os, J.bare, ⟨J.base.keep, J.base.slot, fun b o e n hb => ?_, J.base.there, fun b xs e => ?_, fun b o u e => ?_, fun b ps e => ?_⟩, J.loc, J.cell, ?_, fun x c e => ?_, fun p hp => ?_, fun b u e => ?_, J.len⟩
  · rw [upd_ne (ne0 b o e)]
    exact J.base.free b o e n hb
  · have q := J.base.tups b xs e
    rw [upd_ne (ne_of_none q na)]
    exact q
  · have q := J.base.frzs b o u e
    rw [upd_ne (ne_of_none q na)]
    exact q
  · obtain ⟨m, q⟩ := J.base.tbls b ps e
    exact ⟨m, by rw [upd_ne (ne_of_none q na)]; exact q⟩
  · rw [upd_ne (Ne.symm nL)]
    exact J.free
  · have hca : c ≠ a := fun z => by
      obtain ⟨v, o, ho, hv⟩ := J.cell x c e
      rw [z, ha] at ho
      cases ho
      exact nc v hv
    rw [upd_ne hca]
    exact J.freeC x c e
  · have hp' : p ∈ X.pn ++ ((a, oe) :: pins) := by
      rcases List.mem_append.mp hp with h | h
      · exact List.mem_append_left _ h
      · exact List.mem_append_right _ (List.mem_cons_of_mem _ h)
    obtain ⟨q1, q2, q3, q4, q5⟩ := J.pin p hp'
    exact ⟨q1, by rw [upd_ne (np p hp)]; exact q2, q3, q4, q5⟩
  · by_cases hb : b = a
    · subst hb
      rw [upd_same] at e
      cases e
      exact ob
    · rw [upd_ne hb] at e
      exact (J.hok b u e).stay (fun _ _ _ q => q) (fun c q => by rw [upd_ne (ne_of_none q na)]; exact q) fun c xs q => by rw [upd_ne (ne_of_none q na)]; exact q
theorem sky_ground {B h : Heap} {l : List Env} {a L : Addr} {Z : Obj → Prop} (x : Sky B l a Z L h) : B.get? a = none := by
  rcases x with ⟨_, q, _⟩ | ⟨_, q, _⟩ | ⟨_, q, _⟩ <;> exact q
variable {x n : Str} {c : Value} {i : Nat} {bdy sut : List Stmt} {b₀ : Stmt} {np pos pos' : Pos} {tb : WX → TS} {ts : Addr → Value → Option Addr → TS} {Wo : WX}
theorem ps_try_keep (estk : X.stack = X.env :: X.outer) (efr : X.env.frame = some X.env.locals) (eex : X.ex = []) (nodup : X.N.Nodup) (gi : X.N[i]? = some n) (loc : X.env.kindOf n = some .local) (nmd : Names X x c) (tk : Takes X Wo)
    (hb : ∀ (W : WX) (pn : List (Addr × Obj)) (xe : Value → Shared → Prop), Takes (X.tr pn xe) W → PassesOwn (model X.prog X.w) X.A X.env xe → PSs (X.tr pn xe) bdy (tb W))
    (hsu : ∀ (a : Addr) (oe : Obj) (cls : Value) (d : Option Addr) (pn : List (Addr × Obj)), Zc cls d oe → (∃ vs, oe.data = .fields vs) → PSs (X.suite a ((a, oe) :: pn)) (b₀ :: sut) (ts a cls d)) :
    PS X (.Try bdy [.ExceptHandler (some (.Name x np)) (some n) (b₀ :: sut) pos'] [] [] pos) (fun D σ H => tb (wKeep X.K c i X.N.length ts Wo D) D σ H) := by
  refine ⟨fun pins s σ Hq D I0 hq0 => ?_⟩
  have ok := I0.ok
  have frm : X.A.frames = some (X.env :: X.outer) := by rw [ok.frames, estk]
  have lcl : L2.Loc X.env.scope n := .inl loc
  refine wpAny_Try_except ?_
  refine wpAny_mono ((hb (wKeep X.K c i X.N.length ts Wo D) (X.pn ++ pins) (fun e s₁ => wpAny (model X.prog X.w) X.A (noteFrame e X.env) (fun _ s₂ => wpAny (model X.prog X.w) X.A (setFlight e none) (fun _ s₃ =>
    wpAny (model X.prog X.w) X.A (handleBy e X.env [.ExceptHandler (some (.Name x np)) (some n) (b₀ :: sut) pos']) (SP X pins D) X.xe s₃) X.xe s₂) X.xe s₁) (fun u s' xx => ?_) PassesOwn.looking).run [] s σ Hq D (I0.toTry _) hq0) (fun f s1 hsp => ?_) (fun e s1 he => he)
  · obtain ⟨a, B, sI, pins', σ', H', cls, d, rfl, Jt, nb, up, sky, na, eos, ag, b, hb1, hyes, hno⟩ := xx
    have J : Inv X pins σ' H' sI := Jt.ofTry ok
    have grd : B.get? a = none := sky_ground sky
    have sky2 : Sky B (X.env :: X.outer) a (Zc cls d) X.env.locals s'.heap := by rw [← estk]; exact sky
    show wpAny (model X.prog X.w) X.A (noteFrame (.ref a) X.env) _ _ _
    refine Sky.land Zc.steady frm efr sky2 fun h3 fl3 up3 => ?_
    have J3 : Inv X pins σ' H' { s' with heap := h3 } := J.landed nb fl3.1 (up.trans up3) eos ag
    obtain ⟨oe3, vs3, he3, hz3, hd3⟩ := fl3.there
    have offFr : a ∉ frs (X.env :: X.outer) := fun hm => by
      obtain ⟨_, o', e', hnf⟩ := fl3.2.2.1.mem hm
      rw [he3] at e'; cases e'
      exact hnf _ hd3
    have nL : a ≠ X.env.locals := fun z => offFr (List.mem_filterMap.mpr ⟨X.env, List.mem_cons_self, by rw [efr, z]⟩)
    have nF : a ∉ X.fs := fun hm => by
      obtain ⟨e, he, q⟩ := List.mem_filterMap.mp hm
      exact offFr (List.mem_filterMap.mpr ⟨e, List.mem_cons_of_mem _ he, q⟩)
    have offS : a ∉ frs X.stack := by rw [estk]; exact offFr
    have newI : sI.heap.get? a = none := by
      cases q : sI.heap.get? a with
      | none => rfl
      | some o => rw [nb a o q offS] at grd; cases grd
    have new0 : X.s_0.heap.get? a = none := by
      cases q : X.s_0.heap.get? a with
      | none => rfl
      | some o =>
        obtain ⟨o', q'⟩ := J.base.there a o q (by rw [eex]; simp)
        rw [newI] at q'; cases q'
    have pinN : ∀ p ∈ X.pn ++ pins, p.1 ≠ a := fun p hp z => by
      obtain ⟨q, _⟩ := J.pin p hp
      rw [z, newI] at q; cases q
    have S3 := J3.suite he3 hd3 na nL nF
    refine wpAny_handleBy_cons (codeAny_handlers_test ?_) (by intro q; cases q)
    have LT : PySem.W.Looks (model X.prog X.w) h3 (typeOf (.ref a)) cls := fun A Q E s k q => wpAny_typeOf_ref (k _ _ he3) (by rw [hz3.1]; exact q)
    have LM := PySem.W.exm_one (M := model X.prog X.w) J3.kIn LT hb1
    have test : ∀ {Q : Value → Shared → Prop} {E : Value → Shared → Prop}, Q c { s' with heap := h3 } → wpAny (model X.prog X.w) (X.A.mark (some (.ref a))) (eval (.Name x np) X.env) Q E { s' with heap := h3 } := fun {Q E} q => by
      obtain ⟨hg, hdbg, hm | ⟨hm, hv, hnn⟩⟩ := nmd
      · exact ld_glob (X := X.suite a ((a, oe3) :: (X.pn ++ pins))) S3 hg hm q hdbg
      · exact ld_blt (X := X.suite a ((a, oe3) :: (X.pn ++ pins))) S3 hg hm hv q hnn hdbg
    refine test (LM.here ?_)
    cases b with
    | false =>
      show wpAny _ X.A (handleBy (.ref a) X.env []) _ _ _
      refine wpAny_handleBy_nil ?_
      obtain ⟨k1, k2, k3, oe, vs, Tk, oT, ts', he, hz, hd, h1, hr⟩ := id fl3
      unfold PySem.passOn
      refine wpAny_bind (wpAny_field he hd h1 ?_)
      rw [if_neg (show ¬ ((Value.ref Tk == Value.none) = true) from by simp)]
      have fin : wpAny (model X.prog X.w) X.A (setFlight (.ref a) X.env.frame) (fun _ s4 => wpAny (model X.prog X.w) X.A (throw (.ref a) : Sem Flow) (SP X pins D) X.xe s4) X.xe { s' with heap := h3 } := by
        rw [efr]
        refine HandSPX.setFlight_upZ fl3 fun h4 hh4 up4 => wpAny_throw (tk _ _ ?_)
        exact ⟨a, B, sI, pins, σ', H', cls, d, rfl, J, nb, (up.trans up3).trans up4, .inr (.inr (by rw [estk]; exact hh4)), na, eos, ag, hno rfl⟩
      first
        | exact wpAny_bind (wpAny_pure (wpAny_bind fin))
        | exact wpAny_bind fin
    | true =>
      refine codeAny_handlers_suite_as ?_
      refine HandSPX.lands_againZ fl3 fun h4 fl4 up4 => ?_
      have J4 : Inv X pins σ' H' { s' with heap := h4 } := J.landed nb fl4.1 ((up.trans up3).trans up4) eos ag
      obtain ⟨oe4, vs4, he4, hz4, hd4⟩ := fl4.there
      have S4 := J4.suite he4 hd4 na nL nF
      refine store_ok (X := X.suite a ((a, oe4) :: (X.pn ++ pins))) (v := .ref a) S4 nodup gi lcl rfl (fun s5 S5 => ?_) (.inr loc)
      refine wpAny_mono ((hsu a oe4 cls d (X.pn ++ pins) hz4 ⟨_, hd4⟩).run [] s5 _ H' _ S5 (hyes rfl a na J.len)) (fun f s6 hsp => ?_) (fun _ _ z => False.elim z)
      cases f with
      | brk => obtain ⟨_, _, _, z⟩ := hsp; exact False.elim z
      | cont => obtain ⟨_, _, _, z⟩ := hsp; exact False.elim z
      | ret u => obtain ⟨_, _, _, _, _, z⟩ := hsp; exact False.elim z
      | next =>
        obtain ⟨σ6, H6, S6, q6⟩ := hsp
        have P6 : Inv X ((a, oe4) :: pins) σ6 H6 s6 := ⟨ok, S6.os, S6.bare, S6.base, S6.loc, S6.cell, S6.free, S6.freeC, fun p hp => S6.pin p (by
          have hp' : p ∈ X.pn ++ ((a, oe4) :: pins) := hp
          refine List.mem_append_left _ ?_
          show p ∈ (a, oe4) :: (X.pn ++ pins)
          rcases List.mem_append.mp hp' with h | h
          · exact List.mem_cons_of_mem _ (List.mem_append_left _ h)
          · rcases List.mem_cons.mp h with h | h
            · rw [h]; exact List.mem_cons_self
            · exact List.mem_cons_of_mem _ (List.mem_append_right _ h)), S6.hok, S6.len⟩
        refine gone_ok P6 nodup gi loc fun s7 J7 => ?_
        obtain ⟨_, n7, _⟩ := J7.pin (a, oe4) (List.mem_append_right _ List.mem_cons_self)
        exact ⟨_, _, inv_known J7 hz4 hd4 new0 pinN eex, q6 n7⟩
  · cases f with
    | next =>
      obtain ⟨σ', H', J', q⟩ := hsp
      exact wpAny_execs_nil ⟨σ', H', J'.ofTry ok, q⟩
    | brk => obtain ⟨σ', H', J', q⟩ := hsp; exact ⟨σ', H', J'.ofTry ok, q⟩
    | cont => obtain ⟨σ', H', J', q⟩ := hsp; exact ⟨σ', H', J'.ofTry ok, q⟩
    | ret u => obtain ⟨v, σ', H', J', r, q⟩ := hsp; exact ⟨v, σ', H', J'.ofTry ok, r, q⟩
end
/-- what the catching def makes of the lambda's reading -/
def TTc (K : PySem.W.Frag) (CS : Addr) : (XK → Hp → VK → Prop) → Hp → VK → Prop := fun tl H Q => ∀ R : VK, (∀ v H', Q .non H' → R v H') →
  tl (fun cls d H' => PySem.W.exmOne K cls (.ref CS) = some true ∧ ∀ a, H' a = none → Q (.ref a) (upd H' a (ExcO a cls d))) H R
theorem caught_gives {X : Cx} {x q : Str} {sg : Scope} {g CS : Addr} {cdg : Value} {bg : List Stmt} {work found error W : Str} (T : CauTx sg bg work found error W) (mW : X.mg W = some (.ref CS)) : GivesTo X [work, found, error] x sg g cdg bg work q (TTc X.K CS) := by
  intro f c' s H Q tl act hc h
  obtain ⟨j, p1, p2, p3, p4, p5, p6, p7, p8, p9, p10, p11, p12, p13, p14, rfl⟩ := T.tx
  have ok := T.ok
  simp only [List.all_cons, List.all_nil, Bool.and_eq_true, Bool.and_true] at ok
  obtain ⟨k0, k1, k2, k3⟩ := ok
  have k1 := okNm_ok k1
  have k2 := okNm_ok k2
  have k3 := okNm_ok k3
  have nd := T.nd
  generalize hZ : (cxOf C8.CX0 X.prog X.w X.K X.mg X.base [work, found, error] x sg g cdg X.A X.stack s H C8.E0).nox = Zx at act ⊢
  have zN : Zx.N = [work, found, error] := by subst hZ; rfl
  have zs : Zx.env.scope = sg := by subst hZ; rfl
  have zm : Zx.mg = X.mg := by subst hZ; rfl
  have zK : Zx.K = X.K := by subst hZ; rfl
  have zst : Zx.stack = Zx.env :: Zx.outer := by subst hZ; rfl
  have zfr : Zx.env.frame = some Zx.env.locals := by subst hZ; rfl
  have zex : Zx.ex = [] := by subst hZ; rfl
  have loc : ∀ {y : Str}, sg.names.lookup y = some .local → L2.Loc Zx.env.scope y ∧ (Zx.fn y = true ∨ Zx.env.scope.names.lookup y = some .local) := fun {y} e => by rw [zs]; exact ⟨.inl e, .inr e⟩
  have st1 := ps_set (X := Zx) (i := 1) (x := found) (pos := p3) (pos' := p1) (by rw [zN]; exact nd) (by rw [zN]; rfl) (loc T.l1).1 (pe_non (j := j) (pos := p2)) (by rfl) (loc T.l1).2
  have tryS := ps_try_keep (X := Zx) (x := W) (n := error) (c := .ref CS) (i := 2) (bdy := [.Expr (.Call (.Name work p4) [] [] p5) p6]) (b₀ := .Assign [.Name found p8] (.Name error p9) p10) (sut := []) (np := p7) (pos := p12) (pos' := p11) (Wo := fun _ _ _ _ => False)
    (tb := fun Wq D σ H => ∃ Ech : XK, (∀ cls d σ' H', Ech cls d H' → Wq cls d σ' H') ∧ σ[0]? = some (some (.ref f)) ∧ H c' = some (CodeO c' q) ∧ tl Ech H (fun _ H' => D.nx σ H'))
    (ts := fun a cls d D σ H => σ[2]? = some (some (.ref a)) ∧ D.nx (σ.set 1 (some (.ref a))) H)
    zst zfr zex (by rw [zN]; exact nd) (by rw [zN]; rfl) (by show Zx.env.scope.names.lookup error = _; rw [zs]; exact T.l2) ⟨by show Zx.env.scope.names.lookup W = _; rw [zs]; exact T.gw, k3.1,   .inl (by rw [zm]; exact mW)⟩ L2.takes0
    (fun Wq pn xe tk _ => ⟨fun pins s' σ H' D I h' => by
      obtain ⟨Ech, hW, h1, h2, h3⟩ := h'
      have hp := act Wq pn xe Ech p4 p5 (by subst hZ; exact tk) hW
      have he := pss_one (ps_expr (pos := p6) hp (by rfl))
      have := he.run pins s' σ H' D (by subst hZ; exact I) ⟨h1, h2, h3⟩
      subst hZ
      exact this⟩)
    (fun a oe cls d pn _ _ => by
      have v2 : PE (Zx.suite a ((a, oe) :: pn)) (.Name error p9) (tVar 2) := pe_var (by show Zx.N[2]? = _; rw [zN]; try rfl) (by show Vis Zx.env.scope error; rw [zs]; exact .inl T.l2) k2.1 k2.2
      have s1 := ps_set (X := Zx.suite a ((a, oe) :: pn)) (i := 1) (x := found) (pos := p10) (pos' := p8) (by show Zx.N.Nodup; rw [zN]; exact nd) (by show Zx.N[1]? = _; rw [zN]; rfl) (loc T.l1).1 v2 (by rfl) (loc T.l1).2
      refine pss_imp (pss_one s1) fun D σ H hh => ?_
      exact ⟨_, hh.1, hh.2⟩)
  refine ⟨_, pss_cons st1 (pss_cons tryS (pss_one (ps_ret (pos := p14) (pe_var (pos := p13) (X := Zx) (i := 1) (x := found) (by rw [zN]; rfl) (by rw [zs]; exact .inl T.l1) k1.1 k1.2)))), ?_⟩
  refine ⟨fun cls d H' => PySem.W.exmOne X.K cls (.ref CS) = some true ∧ ∀ a, H' a = none → Q (.ref a) (upd H' a (ExcO a cls d)), fun cls d σ' H' ⟨e1, e2⟩ => ?_, rfl, hc, ?_⟩
  · refine ⟨true, by rw [zK]; exact e1, fun _ a na hl => ?_, fun z => by cases z⟩
    have hl : σ'.length = 3 := by rw [hl, zN]; rfl
    refine ⟨by rw [List.getElem?_set_self (by omega)], fun n' => ?_⟩
    exact ⟨.ref a, by rw [List.getElem?_set_ne (by decide), List.getElem?_set_self (by simp; omega)], e2 a n'⟩
  · exact h _ fun v H' q' => ⟨.non, rfl, q'⟩
end Dl

set_option maxRecDepth 100000
set_option maxHeartbeats 4000000
/-! D24: a lambda with one parameter. -/
namespace Dl
open PySem PySem.Spec PyProof.Rows L2 LamX
/-- one parameter x, no other name of its own -/
structure LamS1 (sc scope : Scope) (x : Str) : Prop where
  kind : scope.kind = .function
  co : scope.isCoroutine = false
  gen : scope.isGenerator = false
  par : scope.names.lookup x = some .local
  own : ∀ y ∈ scope.names, (y.2 = .local → y.1 = x) ∧ y.2 ≠ .cell
  free : ∀ y ∈ scope.names, y.2 = .free → sc.names.lookup y.1 = some .cell ∨ sc.names.lookup y.1 = some .free
theorem LamS1.has {X : Cx} {scope : Scope} {x : Str} (L : LamS1 X.env.scope scope x) (ok : X.Ok) : ∀ y ∈ scope.names, y.2 = .free → ∃ c, X.env.cells.lookup y.1 = some c := fun y hy e => by
  rcases L.free y hy e with k | k
  · exact ok.has _ (.inl k)
  · exact ok.has _ (.inr k)
theorem nodup_ix {α : Type} : ∀ {l : List α} {i j : Nat} {x : α}, l.Nodup → l[i]? = some x → l[j]? = some x → i = j
  | [], i, j, x, _, h, _ => by simp at h
  | a :: l, 0, 0, x, _, _, _ => rfl
  | a :: l, 0, j + 1, x, hn, h, h' => by
    have e : a = x := by simpa using h
    have m : x ∈ l := List.mem_of_getElem? (by simpa using h')
    rw [List.nodup_cons] at hn
    exact absurd (by rw [e]; exact m) hn.1
  | a :: l, i + 1, 0, x, hn, h, h' => by
    have e : a = x := by simpa using h'
    have m : x ∈ l := List.mem_of_getElem? (by simpa using h)
    rw [List.nodup_cons] at hn
    exact absurd (by rw [e]; exact m) hn.1
  | a :: l, i + 1, j + 1, x, hn, h, h' => by
    rw [List.nodup_cons] at hn
    have := nodup_ix (i := i) (j := j) hn.2 (by simpa using h) (by simpa using h')
    omega
section
variable {X : Cx} {pins : List (Addr × Obj)} {σ : L2.St} {H HZ : Hp} {s s1 : Shared}
theorem lam_start1 {A : Around} {outer : List Env} {E : XK} {scope : Scope} {x : Str} {f c' : Addr} {h₁ : Heap} {tk : Nat} {v : V} {u : Value} (I : Inv X pins σ H s) (L : LamS1 X.env.scope scope x) (hnd : X.N.Nodup) {j : Nat} (hj : X.N[j]? = some x) (e0 : Env0 X.prog X.w X.K X.mg X.base A outer s1 HZ) (hd : A.handled = none)
    (un : Un (frs X.stack) [] H HZ s.heap s1.heap) (r : RelV v u) (hns : h₁.Ns s1.heap.objs.size fun y => [(x, u)].reverse.lookup y) (kp : ∀ b o, s1.heap.get? b = some o → h₁.get? b = some o) :
    Inv (lamCx X A outer s1 HZ E scope f c') [] (σ.set j (some v)) HZ { s1 with heap := h₁, toks := tk } := by
  have hfree := L.has I.ok
  have cm : ∀ {y c}, (cloFrom X.env.cells scope.names []).lookup y = some c → X.env.cells.lookup y = some c := fun {y c} e => by
    rcases cloFrom_mem (PySem.mem_of_lookup e) with hm | ⟨h1, h2⟩
    · cases hm
    · obtain ⟨c1, hc⟩ := hfree _ h1 rfl
      have hc : X.env.cells.lookup y = some c1 := hc
      have e2 : c = c1 := by
        rw [h2, hc] <;> rfl
      rw [e2]
      exact hc
  have look : ∀ {y}, scope.names.lookup y = some .free → ∃ c, (cloFrom X.env.cells scope.names []).lookup y = some c := fun {y} hl => by
    have hy : (y, NameKind.free) ∈ scope.names := PySem.mem_of_lookup hl
    exact mem_lookup (cloFrom_has (cells := X.env.cells) (acc := []) hy)
  have cellK : ∀ {c : Addr} {v : Option Value}, H c = none → s.heap.IsCell c v → h₁.IsCell c v := fun {c v} n ⟨o, ho, hd⟩ => by
    obtain ⟨sl, q⟩ := un.any ho n (by simp)
    exact ⟨_, kp _ _ q, hd⟩
  have hlen : σ.length = X.N.length := I.len
  have noA : ∀ b : Addr, b ∉ (lamCx X A outer s1 HZ E scope f c').ex := fun b z => absurd (show b ∈ ([] : List Addr) from z) (by simp)
  refine ⟨⟨e0.mod, L.kind, rfl, rfl, Nat.le_refl _, fun y z c e1 e2 => I.ok.inj y z c (cm e1) (cm e2), fun y hy => ?_, fun y c z _ => ?_, fun _ => hd, Around.frames_deeper e0.frames, .inr ⟨rfl, rfl⟩, fun b z => absurd z (noA b), e0.bs, e0.bsz, fun b _ _ => noA b,
      fun b z => absurd z (noA b), e0.funs, e0.frf⟩,
    rfl, e0.bare, Un.kept kp, ⟨_, hns, fun i y v' e1 e2 e3 => ?_⟩, fun y c e => ?_, e0.hok.fresh (Nat.le_refl _), fun y c e => ?_, fun q hq => absurd (show q ∈ ([] : List (Addr × Obj)) ++ [] from hq) (by simp), e0.hok.kept kp, by
      show (σ.set j (some v)).length = X.N.length
      rw [List.length_set, hlen]⟩
  · have hy : scope.names.lookup y = some .cell ∨ scope.names.lookup y = some .free := hy
    rcases hy with hy | hy
    · exact absurd rfl (L.own _ (PySem.mem_of_lookup hy)).2
    · exact look hy
  · have z : false = true := z
    cases z
  · have e3 : Vis scope y := e3
    have q1 : X.N[i]? = some y := e1
    clear e1
    have hjl : j < σ.length := by
      rw [hlen]
      exact (List.getElem?_eq_some_iff.mp hj).1
    rw [Dl.getElem?_set _ _ _ _ hjl] at e2
    by_cases hi : i = j
    · rw [if_pos hi] at e2
      subst hi
      rw [hj] at q1
      cases q1
      cases e2
      refine ⟨u, r, .inl ⟨L.par, ?_⟩⟩
      simp [List.lookup]
    · rw [if_neg hi] at e2
      have hyx : y ≠ x := fun z => by
        subst z
        exact hi (nodup_ix hnd q1 hj)
      rcases e3 with k | k | k
      · exact absurd ((L.own _ (PySem.mem_of_lookup k)).1 rfl) hyx
      · exact absurd rfl (L.own _ (PySem.mem_of_lookup k)).2
      · obtain ⟨m, hn, hl⟩ := I.loc
        have hvis : Vis X.env.scope y := (L.free _ (PySem.mem_of_lookup k) rfl).elim (fun k => .inr (.inl k)) (fun k => .inr (.inr k))
        obtain ⟨w', r, q⟩ := hl i y v' q1 e2 hvis
        obtain ⟨c2, h2⟩ := look k
        refine ⟨w', r, .inr ⟨.inr k, c2, h2, ?_⟩⟩
        have c1 := cm h2
        rcases q with ⟨k', _⟩ | ⟨_, c3, e', z⟩
        · have k' : X.env.scope.names.lookup y = some .local := k'
          rcases L.free _ (PySem.mem_of_lookup k) rfl with k2 | k2 <;> rw [show X.env.scope.names.lookup y = _ from k2] at k' <;> cases k'
        · rw [c1] at e'
          cases e'
          exact cellK (I.freeC y _ c1) z
  · obtain ⟨w', z⟩ := I.cell y c (cm e)
    exact ⟨w', cellK (I.freeC y c (cm e)) z⟩
  · obtain ⟨v, o, ho, hd⟩ := I.cell y c (cm e)
    exact un.free c o ho (I.freeC y c (cm e)) (by simp)
/-- a(e), in the def that got the lambda -/
theorem pe_act1 {CXg : CXT} {Eg : XK} {Ng : List Str} {qg : Str} {sg : Scope} {g f c' : Addr} {cdg pm ctv : Value} {params : Arguments} {body : Expr} {scope : Scope} {x : Str} {k i : Nat} {a : Str} {pn : List (Addr × Obj)} {xe : Value → Shared → Prop} {W : WX} {E : XK} {tb t1 : TE} {p1 p2 : Pos} {e : Expr}
    (I : Inv X pins σ H s) (L : LamS1 X.env.scope scope x) (hnd : X.N.Nodup) {j : Nat} (hj : X.N[j]? = some x) (hf : s.heap.get? f = some (PySem.W.kla_obj "<lambda>" (X.env.qual ++ "<lambda>") params body scope (cloFrom X.env.cells scope.names []) pm c' ctv)) (hfn : H f = none) (hfr : f ∉ frs X.stack)
    (hbind : ∀ u, bindArgs (PySem.W.kla_fn "<lambda>" (X.env.qual ++ "<lambda>") params body scope (cloFrom X.env.cells scope.names []) pm (.ref c') ctv) ⟨[u], []⟩ = pure [(x, u)])
    (tk : Takes ((cxOf CXg X.prog X.w X.K X.mg X.base Ng qg sg g cdg X.A X.stack s H Eg).tr pn xe) W) (hW : ∀ cls d σ' H', E cls d H' → W cls d σ' H') (hr : Room (k + 1) (X.A.deeper (envOfC qg sg s.heap.objs.size g cdg)))
    (hbody : ∀ (A : Around) (outer : List Env) (s : Shared) (H : Hp), Room k (A.deeper (lamEnv X scope s.heap.objs.size f c')) → PE (lamCx X A outer s H E scope f c') body tb)
    (ha : PE ((cxOf CXg X.prog X.w X.K X.mg X.base Ng qg sg g cdg X.A X.stack s H Eg).tr pn xe) e t1) (he : starEach [e] ((cxOf CXg X.prog X.w X.K X.mg X.base Ng qg sg g cdg X.A X.stack s H Eg).tr pn xe).env = (false, eval e ((cxOf CXg X.prog X.w X.K X.mg X.base Ng qg sg g cdg X.A X.stack s H Eg).tr pn xe).env) :: starEach [] ((cxOf CXg X.prog X.w X.K X.mg X.base Ng qg sg g cdg X.A X.stack s H Eg).tr pn xe).env)
    (hN : Ng[i]? = some a) (hv : Vis sg a) (hd : (a == ("__debug__" : Str)) = false := by decide) (hcd : (a == ("__classdict__" : Str)) = false := by decide) :
    PE ((cxOf CXg X.prog X.w X.K X.mg X.base Ng qg sg g cdg X.A X.stack s H Eg).tr pn xe) (.Call (.Name a p1) [e] [] p2)
      (fun σZ HZ Q => σZ[i]? = some (some (.ref f)) ∧ t1 σZ HZ fun v0 HZ' => ∃ v, [v0] = [v] ∧ (HZ' c' = some (CodeO c' (X.env.qual ++ "<lambda>")) ∧ tb (σ.set j (some v)) HZ' Q)) := by
  refine ⟨fun pinsZ sZ σZ HZ Q IZ h => ?_⟩
  obtain ⟨hs, ht⟩ := h
  refine wpAny_Call_Name_kw (thn ((pe_var (pos := p1) (i := i) hN hv hd hcd).run pinsZ sZ σZ HZ (fun v H1 => v = .ref f ∧ H1 = HZ) IZ ⟨.ref f, hs, rfl, rfl⟩) fun u s1 ⟨v, H1, I1, r1, q1⟩ => ?_)
  obtain ⟨ev, eH⟩ := q1
  subst ev
  rw [eH] at I1
  obtain rfl : u = Value.ref f := r1
  have of1 : s1.heap.get? f = some (PySem.W.kla_obj "<lambda>" (X.env.qual ++ "<lambda>") params body scope (cloFrom X.env.cells scope.names []) pm c' ctv) := I1.base.keep f _ hf hfn hfr (fun z => nomatch (show f ∈ ([] : List Addr) from z))
  refine PySem.W.callWith_F ⟨_, _, _, _, of1⟩ (thn ((pa_cons ha pa_nil he).run p2 pinsZ s1 σZ HZ (fun vs H2 => ∃ v, vs = [v] ∧ (H2 c' = some (CodeO c' (X.env.qual ++ "<lambda>")) ∧ tb (σ.set j (some v)) H2 Q)) I1 ht) fun us s2 ⟨vs, H2, I2, r2, v, ev, hc, hq⟩ => ?_) he rfl
  subst ev
  obtain ⟨u, rfl, ru⟩ := r2.one
  have of2 : s2.heap.get? f = some (PySem.W.kla_obj "<lambda>" (X.env.qual ++ "<lambda>") params body scope (cloFrom X.env.cells scope.names []) pm c' ctv) := I2.base.keep f _ hf hfn hfr (fun z => nomatch (show f ∈ ([] : List Addr) from z))
  refine ⟨⟨_, _, _, _, of2⟩, ?_⟩
  have un : Un (frs X.stack) [] H H2 s.heap s2.heap := I2.base
  obtain ⟨⟨oc, vs, t, hoc, hdc, hvc⟩, _, _⟩ := I2.hok c' _ hc
  have rc : codeAny (model X.prog X.w) (X.A.deeper (envOfC qg sg s.heap.objs.size g cdg)) (.call (.ref f) ⟨[u], []⟩) (CR (L2.CX X.prog X.w) (envOfC qg sg s.heap.objs.size g cdg :: X.stack) X.prog X.w H2 s2 Q E) s2 := by
    refine PySem.W.kla_callFunE hr.depth of2 rfl L.co L.gen rfl ⟨c', oc, vs, t, rfl, hoc, hdc, hvc⟩ ?_
    rw [hbind]
    refine wpAny_pure (wpAny_newFunctionEnv (fun y hy => (L.own y hy).2) (fun y hy => ?_) (fun h₁ hns hsb => ⟨I2.nolimit.fresh _ hsb, ?_⟩) L.kind)
    · have : y = (x, u) := by simpa using hy
      subst this
      exact L.par
    show codeAny _ _ (.expr body (lamEnv X scope s2.heap.objs.size f c')) _ _
    have kp : ∀ b o, s2.heap.get? b = some o → h₁.get? b = some o := fun b o e => hsb.extBut b o (Nat.ne_of_lt (Heap.lt_size e)) (Heap.get?_push_of_some _ e)
    have J : Inv (lamCx X (X.A.deeper (envOfC qg sg s.heap.objs.size g cdg)) (envOfC qg sg s.heap.objs.size g cdg :: X.stack) s2 H2 E scope f c') [] (σ.set j (some v)) H2 { s2 with heap := h₁, toks := s2.toks + [(x, u)].length } :=
      lam_start1 I L hnd hj I2.env0 hr.hd un ru hns kp
    refine PySem.W.kla_codeExpr (wpAny_mono ((hbody _ _ s2 H2 (hr.deeper _)).run [] _ _ H2 Q J hq) (fun v s' hq => ?_) fun e s' hq => hq)
    obtain ⟨w', H', J', rv, q⟩ := hq
    exact ⟨w', H', J'.os, J'.bare, J'.base, J'.hok, rv, q⟩
  have hx : Passes (L2.CX X.prog X.w) ((cxOf CXg X.prog X.w X.K X.mg X.base Ng qg sg g cdg X.A X.stack s H Eg).tr pn xe) E := passes_call tk hW
  refine wpAny_call (codeAny_mono rc fun r s' hq => ?_)
  cases r with
  | error e => exact hx pinsZ σZ H2 s2 e s' I2 hq
  | ok fl =>
    cases fl with
    | ret u => exact I2.after hq
    | next => exact False.elim hq
    | brk => exact False.elim hq
    | cont => exact False.elim hq
end
end Dl

set_option maxRecDepth 100000
set_option maxHeartbeats 4000000
/-! D25: x(e, lambda p: body). -/
namespace Dl
open PySem PySem.Spec PyProof.Rows L2 LamX
/-- a def of two parameters that calls its second one; TT: what it makes of the lambda's reading -/
def GivesTo2 (X : Cx) (Ng : List Str) (x : Str) (sg : Scope) (g : Addr) (cdg : Value) (bg : List Stmt) (a2 : Str) (q : Str) (TT : Addr → V → (V → Hp → VK → Prop) → Hp → VK → Prop) : Prop :=
  ∀ (f c' : Addr) (s : Shared) (H : Hp) (Q : VK) (v1 : V) (tl : V → Hp → VK → Prop),
    (∀ (e : Expr) (t1 : TE) (p1 p2 : Pos), PE (cxOf C8.CX0 X.prog X.w X.K X.mg X.base Ng x sg g cdg X.A X.stack s H C8.E0).nox e t1 → starEach [e] (cxOf C8.CX0 X.prog X.w X.K X.mg X.base Ng x sg g cdg X.A X.stack s H C8.E0).nox.env = (false, eval e (cxOf C8.CX0 X.prog X.w X.K X.mg X.base Ng x sg g cdg X.A X.stack s H C8.E0).nox.env) :: starEach [] (cxOf C8.CX0 X.prog X.w X.K X.mg X.base Ng x sg g cdg X.A X.stack s H C8.E0).nox.env →
      PE (cxOf C8.CX0 X.prog X.w X.K X.mg X.base Ng x sg g cdg X.A X.stack s H C8.E0).nox (.Call (.Name a2 p1) [e] [] p2) (fun σZ HZ Q => σZ[1]? = some (some (.ref f)) ∧ t1 σZ HZ fun v0 HZ' => ∃ v, [v0] = [v] ∧ (HZ' c' = some (CodeO c' q) ∧ tl v HZ' Q))) →
    H c' = some (CodeO c' q) → TT c' v1 tl H Q →
    ∃ t, PSs (cxOf C8.CX0 X.prog X.w X.K X.mg X.base Ng x sg g cdg X.A X.stack s H C8.E0).nox bg t ∧ t { nx := fun _ H' => Q .non H', rt := Q } (L2.start Ng [v1, .ref f]) H
def tLam2 (T : List (Addr × Str)) (q : Str) (TT : Addr → V → (V → Hp → VK → Prop) → Hp → VK → Prop) (j : Nat) (t1 t : TE) : TE := fun σ H Q => t1 σ H fun v1 H0 => Tabs T H0 ∧ ∀ c' H1, Gro H0 H1 → Tabs T H1 → H1 c' = some (CodeO c' q) → TT c' v1 (fun v H' Q' => t (σ.set j (some v)) H' Q') H1 Q
section
variable {X : Cx}
theorem pe_lamcall2 {T : List (Addr × Str)} {TT : Addr → V → (V → Hp → VK → Prop) → Hp → VK → Prop} {x a1 a2 y : Str} {g c P : Addr} {k j : Nat} {pg : Arguments} {bg : List Stmt} {sg : Scope} {dV kV doc pm cdv ct oc : Value} {an od : Option Addr} {osl : Array (Option Value)} {Ng : List Str}
    {params : Arguments} {body e1 : Expr} {scope : Scope} {t1 t : TE} {p lpos pos : Pos} (hg : Gl X x) (hm : X.mg x = some (.ref g)) (hk : PySem.W.keepIn X.K (.ref g) = true)
    (lk : X.K.lookup g = some ⟨oc, od, .func (PySem.W.fnOf x x pg bg sg dV kV doc pm an cdv ct), osl⟩) (hcg : PySem.W.codeIn X.K cdv x = true) (hb : L2.Binds X.K (PySem.W.fnOf x x pg bg sg dV kV doc pm an cdv ct) [a1, a2] []) (Sg : FnScope Ng [a1, a2] sg) (hNg : Ng[1]? = some a2) (hva : Vis sg a2)
    (hG : GivesTo2 X Ng x sg g cdv bg a2 (X.env.qual ++ "<lambda>") TT)
    (TB : TabB X.base X.mg c P) (hcode : X.env.code = .ref c) (hmT : (P, X.env.qual ++ "<lambda>") ∈ T) (hu : ∀ p ∈ T, p.1 = P → p.2 = X.env.qual ++ "<lambda>") (hr : Room (k + 2) X.A) (L : LamS1 X.env.scope scope y) (hnd : X.N.Nodup) (hj : X.N[j]? = some y) (hdef : defaultsOf params X.env = ([], []))
    (hbind : ∀ (q : Str) (cl : List (Str × Addr)) (pm cv ctv : Value) (u : Value), bindArgs (PySem.W.kla_fn "<lambda>" q params body scope cl pm cv ctv) ⟨[u], []⟩ = pure [(y, u)])
    (he : PE X e1 t1) (hs : notSt e1 = true)
    (hbody : ∀ (A : Around) (outer : List Env) (s : Shared) (H : Hp) (f c' : Addr), Room k (A.deeper (lamEnv X scope s.heap.objs.size f c')) → PE (lamCx X A outer s H C8.E0 scope f c') body t)
    (hdb : (x == ("__debug__" : Str)) = false) (hd : (a2 == ("__debug__" : Str)) = false) (hcd : (a2 == ("__classdict__" : Str)) = false) :
    PE X (.Call (.Name x p) [e1, .Lambda params body scope lpos] [] pos) (tLam2 T (X.env.qual ++ "<lambda>") TT j t1 t) := by
  refine ⟨fun pins s σ H Q I h => ?_⟩
  refine wpAny_Call_Name_kw (ld_glob I hg hm ?_ hdb)
  refine PySem.W.callWith_K (h₀ := X.base) I.ok.mod.kin hk ?_ (star_cons hs) (by rfl)
  rw [star_cons (X := X) hs]
  show wpAny _ _ (spliced ((false, eval e1 X.env) :: backTo pos (starEach [.Lambda params body scope lpos] X.env))) _ _ s
  refine Calls.spliced_cons (thn (he.run pins s σ H _ I h) fun u0 s0 ⟨v0, H0, I0, r0, hT, h⟩ => ?_)
  show wpAny _ _ (spliced ((false, eval (.Lambda params body scope lpos) X.env) :: backTo pos (starEach [] X.env))) _ _ s0
  refine Calls.spliced_cons (lam_laid I0 TB hcode hmT hu hT hdef (L.has I0.ok) fun f c' pm' ctv H1 s' I1 eN T1 hf hfn hfr hco => ?_)
  refine Calls.spliced_nil ⟨I1.kIn, ?_⟩
  have rc : codeAny (model X.prog X.w) X.A (.call (.ref g) ⟨[u0, .ref f], []⟩) (CR C8.CX0 X.stack X.prog X.w H1 s' Q C8.E0) s' := by
    refine run_ofS (N := Ng) (ps := [a1, a2]) (us := [u0, .ref f]) (vs := [v0, .ref f]) lk hcg Sg hr I1.env0 (hb s' [u0, .ref f] I1.kIn rfl) (.cons r0 (.cons rfl .nil)) rfl fun hr' => ?_
    obtain ⟨t', ht', hq'⟩ := hG f c' s' H1 Q v0 (fun v H' Q' => t (σ.set j (some v)) H' Q') (fun e t1 p1 p2 hpe hst => by
      exact pe_act1 (i := 1) (pn := []) (W := fun _ _ _ _ => False) (E := C8.E0) I1 L hnd hj hf hfn hfr (hbind _ _ _ _ _) LamX.takes0 (fun _ _ _ _ z => z) hr' (fun A outer s H hr2 => hbody A outer s H f c' hr2) hpe hst hNg hva hd hcd) hco (h c' H1 eN T1 hco)
    exact ⟨t', ht'.nox, hq'⟩
  refine wpAny_call (codeAny_mono rc fun r s2 hq => ?_)
  cases r with
  | error e => exact (show False from hq).elim
  | ok fl =>
    cases fl with
    | ret u => exact I1.after hq
    | next => exact False.elim hq
    | brk => exact False.elim hq
    | cont => exact False.elim hq
end
end Dl

set_option maxRecDepth 100000
set_option maxHeartbeats 4000000
/-! D26: the first item that a lambda does not fit. -/
namespace Dl
open PySem PySem.Spec PyProof.Rows L2 LamX
/-- the items are walked: Pv i H is what is known ahead of item i -/
def TTfw (K : PySem.W.Frag) (q' : Str) : Addr → V → (V → Hp → VK → Prop) → Hp → VK → Prop := fun c' v1 tl H Q => ∃ (Pv : Nat → Hp → Prop) (n : Nat) (q : Addr), v1 = .ref q ∧ Pv 0 H ∧ (∀ i H, Pv i H → H c' = some (CodeO c' q') ∧ ∀ T pr, H T = none → upd H T pr c' = some (CodeO c' q')) ∧
  ((∀ i H, i ≤ n → Pv i H → ∃ xs, SqL K H q xs ∧ xs.length = n ∧ (∀ x, xs[i]? = some x → ∀ T, H T = none → ∀ R : VK, (∀ k H', (if k = true then Pv (i + 1) H' else Q (.int i) H') → R (.bl k) H') → tl x (upd H T (.tup [.int i, x])) R)) ∨
   (∀ i H, i ≤ n → Pv i H → ∃ xs, SqT K H q xs ∧ xs.length = n ∧ (∀ x, xs[i]? = some x → ∀ T, H T = none → ∀ R : VK, (∀ k H', (if k = true then Pv (i + 1) H' else Q (.int i) H') → R (.bl k) H') → tl x (upd H T (.tup [.int i, x])) R))) ∧
  ∀ H, Pv n H → Q .non H
section
variable {X : Cx}
theorem first_wrong_gives {x several fits index item : Str} {q : Str} {sg : Scope} {g : Addr} {cdg : Value} {j j2 : Nat} {p1 p2 p3 p4 p5 p6 p7 p8 p9 p10 p11 p12 p13 p14 p15 p16 : Pos} (hE : sg.names.lookup ("enumerate" : Str) = some .globalImplicit) (mE : X.mg "enumerate" = none)
    (l0 : sg.names.lookup several = some .local) (l1 : sg.names.lookup fits = some .local) (l2 : sg.names.lookup index = some .local) (l3 : sg.names.lookup item = some .local) (hnd : [several, fits, index, item].Nodup) (ok : [several, fits, index, item].all okNm = true) :
    GivesTo2 X [several, fits, index, item] x sg g cdg [.For (.Tuple [.Name index p1, .Name item p2] j p3) (.Call (.Name "enumerate" p4) [.Name several p5] [] p6) [.If (.UnaryOp .Not (.Call (.Name fits p7) [.Name item p8] [] p9) p10) [.Return (some (.Name index p11)) p12] [] p13] [] p14, .Return (some (.Constant .none j2 p15)) p16] fits q (TTfw X.K q) := by
  intro f c' s H Q v1 tl act hc h
  simp only [List.all_cons, List.all_nil, Bool.and_eq_true, Bool.and_true] at ok
  obtain ⟨k0, k1, k2, k3⟩ := ok
  have k0 := okNm_ok k0
  have k2 := okNm_ok k2
  have k3 := okNm_ok k3
  generalize hZ : (cxOf C8.CX0 X.prog X.w X.K X.mg X.base [several, fits, index, item] x sg g cdg X.A X.stack s H C8.E0).nox = Zx at act ⊢
  have zN : Zx.N = [several, fits, index, item] := by subst hZ; rfl
  have zs : Zx.env.scope = sg := by subst hZ; rfl
  have zc : Zx.calm = true := by subst hZ; rfl
  have zK : Zx.K = X.K := by subst hZ; rfl
  have zm : Zx.mg = X.mg := by subst hZ; rfl
  have zx : Zx.xe = fun _ _ => False := by subst hZ; rfl
  have pv0 : PE Zx (.Name several p5) (tVar 0) := pe_var (by rw [zN]; try rfl) (by rw [zs]; exact .inl l0) k0.1 k0.2
  have pv3 : PE Zx (.Name item p8) (tVar 3) := pe_var (by rw [zN]; try rfl) (by rw [zs]; exact .inl l3) k3.1 k3.2
  have pv2 : PE Zx (.Name index p11) (tVar 2) := pe_var (by rw [zN]; try rfl) (by rw [zs]; exact .inl l2) k2.1 k2.2
  have zl : ∀ {y : Str}, sg.names.lookup y = some .local → L2.Loc Zx.env.scope y ∧ (Zx.fn y = true ∨ Zx.env.scope.names.lookup y = some .local) := fun {y} e => by rw [zs]; exact ⟨.inl e, .inr e⟩
  have hcall := act (.Name item p8) (tVar 3) p7 p9 pv3 rfl
  have ht := pt_not (pos := p10) (pt_val hcall (fun _ => rfl))
  have hbody := pss_one (ps_if (pos := p13) ht (pss_one (ps_ret (pos := p12) pv2)) pss_nil)
  have hiter := pi_enumA (tpos := p3) (kk := j) (elts := [.Name index p1, .Name item p2]) (p := p4) (pos := p6) (by show Zx.env.scope.names.lookup _ = _; rw [zs]; exact hE) (by rw [zm]; exact mE) pv0 rfl
  have htg := pg_tup (k := j) (pos := p3) (n := 2) zc (pgs_cons (pg_name (pos := p1) (i := 2) (by rw [zN]; exact hnd) (by rw [zN]; try rfl) (zl l2).1 (zl l2).2) (pgs_cons (pg_name (pos := p2) (i := 3) (by rw [zN]; exact hnd) (by rw [zN]; try rfl) (zl l3).1 (zl l3).2) pgs_nil rfl) rfl) rfl rfl
  have hfor := ps_for (pos := p14) (by rw [zx]; exact PassesOwn.never) zc hiter htg hbody (fun _ => rfl)
  refine ⟨_, pss_cons hfor (pss_one (ps_ret (pos := p16) (pe_non))), ?_⟩
  obtain ⟨Pv, n, a, rfl, h0, hcc, hw, hend⟩ := h
  have s0 : (L2.start [several, fits, index, item] [V.ref a, V.ref f])[0]? = some (some (V.ref a)) := rfl
  have s1 : (L2.start [several, fits, index, item] [V.ref a, V.ref f])[1]? = some (some (V.ref f)) := rfl
  have sl : (L2.start [several, fits, index, item] [V.ref a, V.ref f]).length = 4 := rfl
  refine ⟨V.ref a, s0, a, rfl, ?_⟩
  rcases hw with hw | hw
  · left
    obtain ⟨xs, hx, hx2, _⟩ := hw 0 H (Nat.zero_le _) h0
    refine ⟨⟨xs, by rw [zK]; exact hx⟩, fun i m σ H => m = n - i ∧ i ≤ n ∧ σ.length = 4 ∧ σ[1]? = some (some (V.ref f)) ∧ Pv i H, ⟨n, by simp, Nat.zero_le _, sl, s1, h0⟩, ?_⟩
    rintro i m σ H' ⟨rfl, hi, hl, h1, hp⟩
    obtain ⟨xs, hx, hxl, hit⟩ := hw i H' hi hp
    by_cases hlt : i < n
    · refine .inr ⟨⟨xs, xs[i]'(by omega), by rw [zK]; exact hx, by simp⟩, fun σ' H'' => σ'.length = 4 ∧ σ'[1]? = some (some (V.ref f)) ∧ Pv (i + 1) H'', fun σ' H'' ⟨a1, a2, a3⟩ => ⟨n - (i + 1), by omega, rfl, hlt, a1, a2, a3⟩, fun y H'' hy => ?_⟩
      obtain ⟨T, x0, rfl, hT, rfl, hx0⟩ := hy
      have hxi := hx0 xs (by rw [zK]; exact hx)
      have g1 : ((σ.set 2 (some (V.int i))).set 3 (some x0))[1]? = some (some (V.ref f)) := by rw [List.getElem?_set_ne (by decide), List.getElem?_set_ne (by decide)]; exact h1
      refine ⟨T, [.int i, x0], rfl, .inl (.of upd_same), rfl, .int i, [x0], rfl, x0, [], rfl, rfl, ?_⟩
      refine ⟨g1, x0, by rw [List.getElem?_set_self (by simp [hl])], x0, rfl, ((hcc i H' hp).2 T _ hT), hit x0 hxi T hT _ fun k H1 hk => ⟨k, rfl, ?_⟩⟩
      cases k with
      | true => exact ⟨by simp [hl], g1, hk⟩
      | false => exact ⟨.int i, by rw [List.getElem?_set_ne (by decide), List.getElem?_set_self (by simp [hl])], hk⟩
    · have ei : i = n := by omega
      subst ei
      exact .inl ⟨⟨xs, by rw [zK]; exact hx, by omega⟩, hend H' hp⟩
  · right
    obtain ⟨xs, hx, hx2, _⟩ := hw 0 H (Nat.zero_le _) h0
    refine ⟨⟨xs, by rw [zK]; exact hx⟩, fun i m σ H => m = n - i ∧ i ≤ n ∧ σ.length = 4 ∧ σ[1]? = some (some (V.ref f)) ∧ Pv i H, ⟨n, by simp, Nat.zero_le _, sl, s1, h0⟩, ?_⟩
    rintro i m σ H' ⟨rfl, hi, hl, h1, hp⟩
    obtain ⟨xs, hx, hxl, hit⟩ := hw i H' hi hp
    by_cases hlt : i < n
    · refine .inr ⟨⟨xs, xs[i]'(by omega), by rw [zK]; exact hx, by simp⟩, fun σ' H'' => σ'.length = 4 ∧ σ'[1]? = some (some (V.ref f)) ∧ Pv (i + 1) H'', fun σ' H'' ⟨a1, a2, a3⟩ => ⟨n - (i + 1), by omega, rfl, hlt, a1, a2, a3⟩, fun y H'' hy => ?_⟩
      obtain ⟨T, x0, rfl, hT, rfl, hx0⟩ := hy
      have hxi := hx0 xs (by rw [zK]; exact hx)
      have g1 : ((σ.set 2 (some (V.int i))).set 3 (some x0))[1]? = some (some (V.ref f)) := by rw [List.getElem?_set_ne (by decide), List.getElem?_set_ne (by decide)]; exact h1
      refine ⟨T, [.int i, x0], rfl, .inl (.of upd_same), rfl, .int i, [x0], rfl, x0, [], rfl, rfl, ?_⟩
      refine ⟨g1, x0, by rw [List.getElem?_set_self (by simp [hl])], x0, rfl, ((hcc i H' hp).2 T _ hT), hit x0 hxi T hT _ fun k H1 hk => ⟨k, rfl, ?_⟩⟩
      cases k with
      | true => exact ⟨by simp [hl], g1, hk⟩
      | false => exact ⟨.int i, by rw [List.getElem?_set_ne (by decide), List.getElem?_set_self (by simp [hl])], hk⟩
    · have ei : i = n := by omega
      subst ei
      exact .inl ⟨⟨xs, by rw [zK]; exact hx, by omega⟩, hend H' hp⟩
end
end Dl

set_option maxRecDepth 100000
set_option maxHeartbeats 4000000
/-! D27: first_wrong with a lambda, what a lambda raises caught: on data. -/
namespace Dl
open PySem PySem.Spec PyProof.Rows L2 LamX
def CE (C : Cd) (E : XK) : Cd := { C with E := E }
section
variable {X : Cx} {C : Cd} {Γ : Tbl} {cf : CF} {H H' H1 H2 : Hp} {σ : L2.St} {L : Lcl} {v : V}
theorem Good.ce {E : XK} (g : Good C σ H L) : Good (CE C E) σ H L := ⟨g.len, g.val, g.own, g.inj, g.dom, g.tn, g.ent, g.edom⟩
theorem gro_pst {G : Gl0} (e : Gro H H1) : PstE G H H1 := ⟨fun a o h hs ht => ⟨e.1 a o h fun ps z => ht (by rw [z]; trivial), hs⟩, e.2⟩
theorem gro_wr {G : Gl0} {W : Wd} (e : Gro H H1) (t : Tabs G.TB H1) (wr : WR G H W) : WR G H1 W := by
  obtain ⟨h1, _⟩ := wr
  refine ⟨?_, t⟩
  cases q : G.T with
  | none => trivial
  | some z =>
    rw [q] at h1
    obtain ⟨a, b, c, d, f, k⟩ := h1
    exact ⟨a, b, c, e.1 _ _ d (fun _ z => by cases z), e.1 _ _ f (fun _ z => by cases z), e.1 _ _ k (fun _ z => by cases z)⟩
theorem repF_same {w : World} {G : Gl0} {S : Addr → Prop} (s : Same H H1) {xs : List (Str × V)} {ds : List (Str × D)} (r : RepF w G S H xs ds) : RepF w G S H1 xs ds := repF_pst (fun a o e hs _ => ⟨s a o e, hs⟩) r
theorem code_notTN {G : Gl0} {W : Wd} {c : Addr} {q : Str} (wr : WR G H W) (hc : H c = some (CodeO c q)) : ¬ TN G.T c := fun z => by
  obtain ⟨h1, _⟩ := wr
  cases e : G.T with
  | none => rw [e] at z; exact z
  | some t =>
    rw [e] at h1 z
    obtain ⟨_, _, _, d, f, k⟩ := h1
    rcases z with z | z | z
    · rw [z, d] at hc; unfold CodeO at hc; cases hc
    · rw [z, f] at hc; unfold CodeO at hc; cases hc
    · rw [z, k] at hc; unfold CodeO at hc; cases hc
theorem code_stays {G : Gl0} {W : Wd} {c : Addr} {q : Str} (wr : WR G H W) (hc : H c = some (CodeO c q)) (p : PstE G H H1) : H1 c = some (CodeO c q) := (p.1 c _ hc (code_notTN wr hc) (by unfold CodeO; exact fun z => z)).1
theorem fwD_cons {step : D → Wd → Rs Bool} {d : D} {ds : List D} {i : Nat} {W : Wd} : fwD step (d :: ds) i W = (step d W).bind fun k W1 => if k then fwD step ds (i + 1) W1 else .ok (.int (i : Int)) W1 := rfl
/-- the reading's answer -/
theorem fw_ok {ea eb : EX} {j : Nat} {T : List (Addr × Str)} {q : Str} (hT : T = C.G.TB) (hK : X.K = C.G.K) {Q : VK} {W : Wd} (g : Good C σ H L) (wr : WR C.G H W) (h : post C (SO C σ L) H (relV C (SO C σ L) H) (semE Γ cf (.fw ea j eb) L W) Q)
    : tLam2 T q (TTfw X.K q) j (tD C (semE Γ cf ea)) (tD (CE C C8.E0) (semE Γ cf eb)) σ H Q := by
  unfold semE at h
  refine ⟨L, W, g, wr, post_bind h fun x W1 v H1 _ p1 wr1 rx h => ?_⟩
  refine ⟨by rw [hT]; exact wr1.2, fun c' H2 gro T2 hc => ?_⟩
  rw [hT] at T2
  have p2 : PstE C.G H1 H2 := gro_pst gro
  have wr2 : WR C.G H2 W1 := gro_wr gro T2 wr1
  have p12 := p1.trans p2
  have g2 : Good C σ H2 L := g.pst p12
  split at h
  · rename_i hcond
    simp only [Bool.and_eq_true, decide_eq_true_eq] at hcond
    obtain ⟨⟨hna, hjl⟩, hno⟩ := hcond
    have rx2 : RVr C.w C.G C.B (SO C σ L) H H2 v x := rx.pst p2 g.tn g.tnS g.dom
    have rp : Rep C.w C.G (SO C σ L) H2 v x.1 := rx2.rep g.dom (by
      obtain ⟨d, f⟩ := x
      cases f <;> first | trivial | cases hna)
    -- the items
    have key : ∀ (ds : List D) (a : Addr) (xs : List V), v = .ref a → RepL C.w C.G (SO C σ L) H2 xs ds → ((∀ H', PstE C.G H2 H' → SqL X.K H' a xs) ∨ (∀ H', PstE C.G H2 H' → SqT X.K H' a xs)) →
        post C (SO C σ L) H (relV C (SO C σ L) H) ((fwD (fun d W => (semE Γ cf eb (L.set j (some (.val d))) W).tru) ds 0 W1).noerr.bind fun r W3 => .ok (r, .fr) W3) Q →
        TTfw X.K q c' v (fun v H' Q' => tD (CE C C8.E0) (semE Γ cf eb) (σ.set j (some v)) H' Q') H2 Q := by
      intro ds a xs hv rl hsq hp
      have item : ∀ (i : Nat) (H' : Hp), PstE C.G H2 H' → H' c' = some (CodeO c' q) → (∃ W', WR C.G H' W' ∧ post C (SO C σ L) H (relV C (SO C σ L) H) ((fwD (fun d W => (semE Γ cf eb (L.set j (some (.val d))) W).tru) (ds.drop i) i W').noerr.bind fun r W3 => .ok (r, .fr) W3) Q) →
          ∀ x, xs[i]? = some x → ∀ T, H' T = none → ∀ R : VK, (∀ k H3, (if k = true then (PstE C.G H2 H3 ∧ H3 c' = some (CodeO c' q) ∧ ∃ W', WR C.G H3 W' ∧ post C (SO C σ L) H (relV C (SO C σ L) H) ((fwD (fun d W => (semE Γ cf eb (L.set j (some (.val d))) W).tru) (ds.drop (i + 1)) (i + 1) W').noerr.bind fun r W3 => .ok (r, .fr) W3) Q) else Q (.int i) H3) → R (.bl k) H3) →
            tD (CE C C8.E0) (semE Γ cf eb) (σ.set j (some x)) (upd H' T (.tup [.int i, x])) R := by
        intro i H' pH hcH ⟨W', wrH, hp⟩ x hx T hT R hk
        have hil : i < xs.length := (List.getElem?_eq_some_iff.mp hx).1
        have hid : i < ds.length := by rw [← rl.len]; exact hil
        obtain ⟨y, hy1, hy2⟩ := rl.get (i := i) (x := ds[i]) (List.getElem?_eq_getElem hid)
        rw [hx] at hy1
        cases hy1
        have sm : Same H' (upd H' T (.tup [.int i, x])) := same_new hT
        have p3 : PstE C.G H2 (upd H' T (.tup [.int i, x])) := pH.trans (same_pst sm)
        have gd := g2.pst p3
        have rd : RVr C.w C.G C.B (SO C σ L) H2 (upd H' T (.tup [.int i, x])) x (ds[i], .fr) := rep_pst (pstE_to g2.tnS p3) hy2
        obtain ⟨gs, ps⟩ := g2.set (i := j) p3 hjl rd (sl := .val ds[i]) rfl
        rw [List.drop_eq_getElem_cons hid, fwD_cons] at hp
        refine ⟨L.set j (some (.val ds[i])), W', gs.ce, wrH.same sm, ?_⟩
        cases e : semE Γ cf eb (L.set j (some (.val ds[i]))) W' with
        | stk => rw [e] at hp; exact hp.elim
        | err z W'' => rw [e] at hp; exact hp.elim
        | ok z W'' =>
          rw [e] at hp
          intro u H3 p4 wr4 rz
          cases ek : truD z.1 with
          | none => unfold Rs.tru at hp; simp only [Rs.bind_ok, ek] at hp; exact hp.elim
          | some k =>
            have ez : z.1 = .bl k := by
              unfold truD at ek
              split at ek
              · rename_i q2
                rw [q2]
                cases ek
                rfl
              · cases ek
            have ru := rz.any
            rw [ez] at ru
            cases ru
            have p4' : PstE C.G (upd H' T (.tup [.int i, x])) H3 := p4
            have p5 : PstE C.G H2 H3 := p3.trans p4'
            refine hk k H3 ?_
            unfold Rs.tru at hp
            simp only [Rs.bind_ok, ek, Rs.of_some] at hp
            cases k with
            | true => exact ⟨p5, code_stays wr2 hc p5, W'', wr4, hp⟩
            | false => exact hp _ _ (p12.trans p5) wr4 (.int _)
      refine ⟨fun i H' => PstE C.G H2 H' ∧ H' c' = some (CodeO c' q) ∧ ∃ W', WR C.G H' W' ∧ post C (SO C σ L) H (relV C (SO C σ L) H) ((fwD (fun d W => (semE Γ cf eb (L.set j (some (.val d))) W).tru) (ds.drop i) i W').noerr.bind fun r W3 => .ok (r, .fr) W3) Q, ds.length, a, hv, ⟨PstE.refl, hc, W1, wr2, hp⟩, fun i H' hP => ⟨hP.2.1, fun T pr hT => (upd_ne (ne_of_none hP.2.1 hT)).trans hP.2.1⟩, ?_, fun H' ⟨pH, _, W', wrH, hp⟩ => ?_⟩
      · rcases hsq with hsq | hsq
        · exact .inl fun i H' hi ⟨pH, hcH, hW⟩ => ⟨xs, hsq H' pH, rl.len, fun x hx T hT R hk => item i H' pH hcH hW x hx T hT R hk⟩
        · exact .inr fun i H' hi ⟨pH, hcH, hW⟩ => ⟨xs, hsq H' pH, rl.len, fun x hx T hT R hk => item i H' pH hcH hW x hx T hT R hk⟩
      · rw [List.drop_length] at hp
        exact hp _ _ (p12.trans pH) wrH .non
    obtain ⟨xd, xf⟩ := x
    cases xd with
    | lst ds =>
      cases rp with
      | @lst a xs _ h1 h2 h3 => exact key ds a xs rfl h3 (.inl fun H' p => .of (p.1 a _ h2 (fun z => h1 (g.tnS a z)) (fun z => z)).1) h
    | tup ds =>
      cases rp with
      | @tup a xs _ h1 h2 h3 => exact key ds a xs rfl h3 (.inr fun H' p => .of (p.1 a _ h2 (fun z => h1 (g.tnS a z)) (fun z => z)).1) h
      | @tupK a xs _ h2 h3 => exact key ds a xs rfl h3 (.inr fun H' p => .inr (by rw [hK]; exact h2)) h
    | _ => exact h.elim
  · exact h.elim
/-- what is caught -/
theorem cau_ok {eb : EX} {T : List (Addr × Str)} {CS : Addr} (hT : T = C.G.TB) (hG : ∀ cc, Γ.cau cc = true → PySem.W.exmOne X.K (.ref (C.G.cls cc)) (.ref CS) = some true) {Q : VK} {W : Wd} (g : Good C σ H L) (wr : WR C.G H W) (h : post C (SO C σ L) H (relV C (SO C σ L) H) (semE Γ cf (.cau eb) L W) Q)
    : tLamG T (TTc X.K CS) (fun E => tD (CE C E) (semE Γ cf eb)) σ H Q := by
  unfold semE at h
  refine ⟨by rw [hT]; exact wr.2, fun H2 gro T2 R hR => ?_⟩
  rw [hT] at T2
  have p2 : PstE C.G H H2 := gro_pst gro
  have wr2 : WR C.G H2 W := gro_wr gro T2 wr
  refine ⟨L, W, (g.pst p2).ce, wr2, ?_⟩
  cases e : semE Γ cf eb L W with
  | stk => rw [e] at h; exact h.elim
  | ok x W1 =>
    rw [e] at h
    exact fun v H3 p3 wr3 _ => hR v H3 (h .non H3 (p2.trans p3) wr3 .non)
  | err x W1 =>
    rw [e] at h
    have h : post C (SO C σ L) H (relV C (SO C σ L) H) (if Γ.cau x.1 = true then .ok (.exc x.1 x.2, .fr) W1 else .stk) Q := h
    split at h
    · rename_i hc
      intro cls d H3 p3 wr3 ex
      have p3 : PstE C.G H2 H3 := p3
      have wr3 : WR C.G H3 W1 := wr3
      obtain ⟨e1, fs, e2, e3⟩ := ex
      have e1 : cls = .ref (C.G.cls x.1) := e1
      subst e1
      have e2 : RepF C.w C.G (fun _ => True) H3 fs x.2 := e2
      refine ⟨hG _ hc, fun a ha => ?_⟩
      have sm : Same H3 (upd H3 a (ExcO a (.ref (C.G.cls x.1)) d)) := same_new ha
      have p4 := (p2.trans p3).trans (same_pst sm)
      have dom4 := dom_pst (p2.trans p3) g.dom
      refine h _ _ p4 (wr3.same sm) (Rep.exc (od := d) (fs := fs) (fun z => dom4 a z ha) upd_same (fun z => by subst z; exact e3) (fun dx z => ?_) (repF_mono (fun _ _ => trivial) (repF_same sm e2)))
      subst z
      obtain ⟨n0, at0⟩ := e3
      refine ⟨fun z => dom_pst p2 g.dom dx z n0, sm _ _ at0⟩
    · exact h.elim
end
end Dl

set_option maxRecDepth 100000
set_option maxHeartbeats 4000000
/-! D28: instances made, ranges downwards, lists turned about. -/
namespace Dl
open PySem PySem.Spec PyProof.Rows L2
section
variable {X : Cx} {C : Cd} {Γ : Tbl} {cf : CF} {H H' H1 H2 : Hp} {σ : L2.St} {L : Lcl} {v : V} {a b : Expr} {ea eb : EX} {pos : Pos}
theorem d_mak {G0 : Gl0} {k c g : Nat} {fa : Addr} {fd : FuncData} {ps : List Str} {x : Str} {p : Pos} {e : Expr} {es : List Expr} {ees : EXs} (M : Mk X.K (C.G.cls c) fa) (F : FnOk X.prog X.w X.K X.mg X.base (L2.CX X.prog X.w) k fa fd ps (spI C.w G0 c (cf g))) (hG : C.G = { G0 with T := C.G.T }) (hr : Room (k + 1) X.A) (hg : Gl X x) (hm : X.mg x = some (.ref (C.G.cls c)))
    (hb : Binds X.K fd ps []) (hmk : Γ.mak c = some g) (hx : Passes (L2.CX X.prog X.w) X C.E) (ha : PA X (e :: es) (tDs C (semEs Γ cf ees))) (hdb : (x == ("__debug__" : Str)) = false) (he : starEach (e :: es) X.env = (false, eval e X.env) :: starEach es X.env)
    (hpl : (backTo pos (starEach es X.env)).any (·.1) = false) : PE X (.Call (.Name x p) (e :: es) [] pos) (tD C (semE Γ cf (.mak c ees))) := by
  refine pe_imp (pe_make M F hr hg hm hb .nil hx ha hdb he hpl) fun σ H Q ⟨L, W, gd, wr, h⟩ => ?_
  unfold semE at h
  simp only [hmk] at h
  refine ⟨L, W, gd, wr, post_bind h fun xs W1 vs H1 _ p1 wr1 rxs h => ?_⟩
  intro y dx hy hdx ne
  cases q : vals xs false with
  | none => rw [q] at h; exact h.elim
  | some ds =>
    rw [q] at h
    simp only [Rs.of_some, Rs.bind_ok] at h
    have rl := vals_rep gd.dom q rxs.1
    have ecl : C.G.cls = G0.cls := by rw [hG]
    refine ⟨C.G.T, SO C σ L, ds, W1, y, dx, H1, vs, by rw [List.append_nil], gd.tnS, dom_pst p1 gd.dom, hy, hdx, ne, by rw [ecl], by rw [← hG]; exact rl, by rw [← hG]; exact wr1, ?_⟩
    rw [← hG]
    cases qc : cf g ds W1 with
    | ok d W2 =>
      rw [qc] at h
      intro H2 p2 wr2 rp
      exact ⟨rfl, h _ H2 (p1.trans p2) wr2 rp⟩
    | err y W2 =>
      rw [qc] at h
      intro cls dd H2 p2 wr2 ex
      exact h cls dd H2 (p1.trans p2) wr2 (ex.back p1)
    | stk => rw [qc] at h; exact h.elim
theorem RepL.rev {w : World} {G : Gl0} {S : Addr → Prop} : ∀ {v : List V} {d : List D}, RepL w G S H v d → RepL w G S H v.reverse d.reverse
  | _, _, .nil => .nil
  | _, _, .cons h t => by
    rw [List.reverse_cons, List.reverse_cons]
    exact (RepL.rev t).append (.cons h .nil)
theorem d_rev {k : Nat} {p1 p2 p3 : Pos} (hK : X.K = C.G.K) (ha : PE X a (tD C (semE Γ cf ea))) : PE X (.Subscript a (.Slice none none (some (.UnaryOp .USub (.Constant (.int 1) k p1) p2)) p3) pos) (tD C (semE Γ cf (.rev ea))) := by
  refine pe_imp (pe_revL ha) fun σ H Q ⟨L, W, g, wr, h⟩ => ?_
  unfold semE at h
  refine ⟨L, W, g, wr, post_bind h fun x W1 v H1 _ p1 wr1 rx h => ?_⟩
  obtain ⟨x, f⟩ := x
  cases x with
  | lst ds =>
    obtain ⟨q, ys, rfl, h1, h2⟩ := rx.lst
    refine ⟨q, ys, rfl, .of h1, fun p hp => ?_⟩
    have s : Same H1 (upd H1 p (.lst ys.reverse)) := same_new hp
    exact h _ _ (p1.trans (same_pst s)) (wr1.same s) ⟨p, rfl, none_back p1 hp, _, upd_same, repL_pst (pst_new hp) h2.rev⟩
  | _ => exact h.elim
theorem rngd_get {lo : Int} {n i : Nat} {d : D} (e : (rngdL lo n)[i]? = some d) : i < n ∧ d = .int (lo + (i : Nat) * (-1)) := by
  unfold rngdL at e
  rw [List.getElem?_map] at e
  by_cases h : i < n
  · rw [List.getElem?_range h] at e
    cases e
    exact ⟨h, rfl⟩
  · rw [List.getElem?_eq_none (by simpa using h)] at e
    cases e
theorem lists_rd {S : Addr → Prop} {lo : Int} {n : Nat} : Lists C S (Itc lo (-1) n) H (rngdL lo n) := by
  intro S' H' p dom
  refine ⟨fun i d e => ?_, ?_⟩
  · obtain ⟨h1, h2⟩ := rngd_get e
    subst h2
    refine ⟨h1, fun x H'' z => ?_⟩
    obtain ⟨z1, z2⟩ := z
    subst z1 z2
    exact ⟨fun _ _ e => e, .int _⟩
  · show n ≤ _
    unfold rngdL
    simp
theorem i_rngd {tg : Expr} {kk : Nat} {p pc1 pc2 : Pos} (hg : Gl X "range") (hm : X.mg "range" = none) (ha : PE X a (tD C (semE Γ cf ea))) (hb : PE X b (tD C (semE Γ cf eb))) (hs : notSt a = true) (hs2 : notSt b = true) :
    PI X tg (.Call (.Name "range" p) [a, b, .UnaryOp .USub (.Constant (.int 1) kk pc1) pc2] [] pos) (tI C (semI Γ cf (.rngd ea eb))) := by
  have h3 : PE X (.UnaryOp .USub (.Constant (.int 1) kk pc1) pc2) (tD C fun L W => .ok (.int (-1), .fr) W) := pe_imp (pe_un un_neg pe_int) fun σ H Q ⟨L, W, g, wr, h⟩ => ⟨1, rfl, h _ H PstE.refl wr (.int _)⟩
  have hpl : (backTo pos (starEach [b, .UnaryOp .USub (.Constant (.int 1) kk pc1) pc2] X.env)).any (·.1) = false := by
    rw [star_cons hs2]
    rfl
  refine pi_imp (pi_range3 hg hm (pa_cons ha (pa_cons hb (pa_cons h3 pa_nil rfl) (star_cons hs2)) (star_cons hs)) (star_cons hs) hpl) fun σ H R ⟨L, W, g, wr, h⟩ => ?_
  unfold semI at h
  refine ⟨L, W, g, wr, ?_⟩
  refine post_bind (rel := relV C (SO C σ L) H) h fun x W1 v H1 _ p1 wr1 rx h => ?_
  refine ⟨L, W1, g.pst p1, wr1, ?_⟩
  cases e : semE Γ cf eb L W1 with
  | stk => rw [e] at h; exact h
  | err y W2 => rw [e] at h; exact fun cls dd H' p' wr' rv => h cls dd H' (p1.trans p') wr' (rv.back p1)
  | ok y W2 =>
    rw [e] at h
    intro u H2 p2 wr2 ry
    have p12 := p1.trans p2
    refine ⟨L, W2, g.pst p12, wr2, ?_⟩
    intro z H3 p3 wr3 rz
    have rz := rz.any
    cases rz
    obtain ⟨d, f⟩ := x
    obtain ⟨d2, f2⟩ := y
    cases d with
    | int i =>
      cases d2 with
      | int j =>
        have rv := rx.any
        cases rv
        have rv := ry.any
        cases rv
        have h : post C (SO C σ L) H (fun H' J ds => Lists C (SO C σ L) J H' ds) (Rs.of (if -(2 ^ 62) ≤ i ∧ i < 2 ^ 62 ∧ -(2 ^ 62) ≤ j ∧ j < 2 ^ 62 then some (rngdL i (i - j).toNat) else none) W2) R := h
        split at h
        · rename_i hj
          exact ⟨i, j, -1, (i - j).toNat, rfl, RgC.neg hj.1 hj.2.1 hj.2.2.1 hj.2.2.2, h _ H3 (p12.trans p3) wr3 lists_rd⟩
        · exact h.elim
      | _ => exact h.elim
    | _ => exact h.elim
end
end Dl

set_option maxRecDepth 100000
set_option maxHeartbeats 4000000
/-! D12: the compact syntax is sound. -/
namespace Dl
open PySem PySem.Spec PyProof.Rows L2
section
variable {Γ : Tbl} {Z : Nms} {G0 : Gl0} {cf : CF} {k : Nat} {N : List Str}
def isBo : Expr → Bool
  | .BoolOp _ _ _ => true
  | _ => false
/-- what is wanted of an expression -/
structure Snd (X : Cx) (C : Cd) (Γ : Tbl) (cf : CF) (e : Expr) (ir : EX) : Prop where
  pe : PE X e (tD C (semE Γ cf ir))
  pt : notIf e = true → PT X e (tDt C (semT Γ cf ir))
  pw : isBo e = true → PW X e (tDt C (semT Γ cf ir))
theorem Snd.val {X : Cx} {C : Cd} {e : Expr} {ir : EX} (h : PE X e (tD C (semE Γ cf ir))) (he : ∀ whole, isTrue e X.env whole = (do let v ← whole; standAt e.pos; holding [v] (truthy v))) (hb : isBo e = false) : Snd X C Γ cf e ir :=
  ⟨h, fun _ => dt_val h he, fun z => by rw [hb] at z; cases z⟩
/-- the operators, one by one -/
theorem bin_ok {X : Cx} {C : Cd} {op : Operator} {a b : Expr} {ea eb : EX} {pos : Pos} (hK : X.K = C.G.K) (h : binOk op = true) (ha : PE X a (tD C (semE Γ cf ea))) (hb : PE X b (tD C (semE Γ cf eb))) : PE X (.BinOp a op b pos) (tD C (semE Γ cf (.bin op ea eb))) := by
  cases op <;> first | (cases h; done) | skip
  · exact d_bin2 op_addD (by rw [hK]; exact sv_add) ha hb
  · exact d_bin2 op_sub sv_sub.to2 ha hb
  · exact d_bin2 (op_mul.or op_rep) sv_mul ha hb
  · exact d_bin2 op_mod sv_mod.to2 ha hb
  · exact d_bin2 op_pow sv_pow.to2 ha hb
  · exact d_bin2 op_fdiv sv_fdiv.to2 ha hb
theorem roomU {j : Nat} {A : Around} (r : Room (j + 1) A) : A.units + 65 < cLine := by have := r.un; omega
theorem cmp_ok {X : Cx} {C : Cd} {op : CmpOp} (hK : X.K = C.G.K) (hw : C.w = X.w) (hu : X.A.units + 65 < cLine) : ∃ r : R2, OpR X (compareOp op) r ∧ Serves C r (cmpR op) := by
  cases op
  · exact ⟨_, op_eqD (by omega), by rw [hK]; exact sc_eq⟩
  · exact ⟨_, op_neD (by omega), by rw [hK]; exact sc_ne⟩
  · exact ⟨_, op_lt, sc_lt⟩
  · exact ⟨_, op_le, sc_le⟩
  · exact ⟨_, op_gt, sc_gt⟩
  · exact ⟨_, op_ge, sc_ge⟩
  · exact ⟨_, op_isN.or op_isBl, sc_is⟩
  · exact ⟨_, op_notN.or op_notBl, sc_isnot⟩
  · exact ⟨_, (op_inF hK hw).or ((op_inD hu).or (op_inT hu)), by rw [hK]; exact sc_in⟩
  · exact ⟨_, (op_notInF hK hw).or ((op_notInD hu).or (op_notInT hu)), by rw [hK]; exact sc_notin⟩
/-- built-in functions, by name -/
theorem bl_ok' {X : Cx} {C : Cd} {x : Str} {n : Nat} {f : Bl} {ty : Bool} {id : String} (hc : X.calm = true) (hK : X.K = C.G.K) (hw : C.w = X.w) (e : blName x n = some (f, ty, id)) :
    x ∈ bltNames ∧ x ≠ "__name__" ∧ CallR X (if ty then .type id else .builtin id) (rBl C f) ∧ bootBuiltins x = some (if ty then .type id else .builtin id) := by
  unfold blName at e
  split at e
  · rename_i h; cases e; rw [h.1]; exact ⟨by decide, by decide, bl_len hK hw, by decide +kernel⟩
  split at e
  · rename_i h; cases e; rw [h.1]; exact ⟨by decide, by decide, bl_abs, by decide +kernel⟩
  split at e
  · rename_i h; cases e; rw [h.1]; exact ⟨by decide, by decide, bl_sum hc, by decide +kernel⟩
  split at e
  · rename_i h; cases e; rw [h.1]; exact ⟨by decide, by decide, bl_all hc, by decide +kernel⟩
  split at e
  · rename_i h; cases e; rw [h.1]; exact ⟨by decide, by decide, bl_any hc, by decide +kernel⟩
  split at e
  · rename_i h; cases e; rw [h.1]; exact ⟨by decide, by decide, bl_repr, by decide +kernel⟩
  split at e
  · rename_i h; cases e; rw [h.1]; exact ⟨by decide, by decide, bl_max2 hc, by decide +kernel⟩
  split at e
  · rename_i h; cases e; rw [h.1]; exact ⟨by decide, by decide, bl_min2 hc, by decide +kernel⟩
  split at e
  · rename_i h; cases e; rw [h.1]; exact ⟨by decide, by decide, bl_int, by decide +kernel⟩
  split at e
  · rename_i h; cases e; rw [h.1]; exact ⟨by decide, by decide, bl_list hK, by decide +kernel⟩
  split at e
  · rename_i h; cases e; rw [h.1]; exact ⟨by decide, by decide, bl_tuple hK, by decide +kernel⟩
  · cases e
theorem tyName_ok {x : Str} {t : Ty} (e : tyName x = some t) : x ∈ bltNames ∧ x ≠ "__name__" ∧ ∃ id, bootBuiltins x = some (.type id) ∧ ∀ G, tyV' G t = .ty id := by
  unfold tyName at e
  split at e
  · rename_i h; cases e; rw [h]; exact ⟨by decide, by decide, _, by decide +kernel, fun _ => rfl⟩
  split at e
  · rename_i h; cases e; rw [h]; exact ⟨by decide, by decide, _, by decide +kernel, fun _ => rfl⟩
  split at e
  · rename_i h; cases e; rw [h]; exact ⟨by decide, by decide, _, by decide +kernel, fun _ => rfl⟩
  split at e
  · rename_i h; cases e; rw [h]; exact ⟨by decide, by decide, _, by decide +kernel, fun _ => rfl⟩
  split at e
  · rename_i h; cases e; rw [h]; exact ⟨by decide, by decide, _, by decide +kernel, fun _ => rfl⟩
  split at e
  · rename_i h; cases e; rw [h]; exact ⟨by decide, by decide, _, by decide +kernel, fun _ => rfl⟩
  · cases e
/-- a class's name -/
theorem cTy_ok {X : Cx} {C : Cd} {st : Md} {sc : Scope} {e : Expr} {t : Ty} (c : Ctx X C Γ Z G0 cf k N st sc) (h : cTy Z sc e = some t) : PE X e (tC (tyV' C.G t)) ∧ notSt e = true := by
  cases e <;> first | (simp only [cTy] at h; cases h; done) | skip
  rename_i x px
  simp only [cTy] at h
  split at h
  · rename_i ho
    obtain ⟨ho1, ho2⟩ := Bool.and_eq_true_iff.mp ho
    refine ⟨?_, rfl⟩
    split at h
    · rename_i cc hl
      cases h
      have e1 := c.tab.cls x cc hl
      rw [← c.cl] at e1
      exact pe_glob (v := .ref (C.G.cls cc)) (isGlo_ok c.sc ho1) e1 rfl (okNm_ok ho2).1
    · obtain ⟨b1, b2, id, b3, b4⟩ := tyName_ok h
      rw [b4]
      exact pe_bltn (isGlo_ok c.sc ho1) (c.tab.blt x b1) b3 rfl b2 (okNm_ok ho2).1
  · cases h
theorem cTys_ok {X : Cx} {C : Cd} {st : Md} {sc : Scope} (c : Ctx X C Γ Z G0 cf k N st sc) : ∀ {es : List Expr} {ts : List Ty}, cTys Z sc es = some ts → PA X es (fun _ H Q => Q (ts.map (tyV' C.G)) H) ∧ ts.length = es.length
  | [], ts, h => by
    simp only [cTys] at h
    cases h
    exact ⟨pa_imp pa_nil fun σ H Q h => h, rfl⟩
  | e :: es, ts, h => by
    simp only [cTys] at h
    cases q1 : cTy Z sc e with
    | none => rw [q1] at h; cases h
    | some t =>
      cases q2 : cTys Z sc es with
      | none => rw [q1, q2] at h; cases h
      | some ts' =>
        rw [q1, q2] at h
        cases h
        obtain ⟨h1, h2⟩ := cTy_ok (C := C) c q1
        obtain ⟨h3, h4⟩ := cTys_ok c q2
        exact ⟨pa_imp (pa_cons h1 h3 (star_cons h2)) fun σ H Q h => h, by rw [List.length_cons, List.length_cons, h4]⟩
theorem kw_all {env : Env} {pos : Pos} : ∀ {kws : List Keyword}, (kws.all fun k => match k with | ⟨some _, _, _⟩ => true | _ => false) = true → (backToKw pos (keywordEach kws env)).all (·.1.isSome) = true ∧ (backToKw pos (keywordEach kws env)).filterMap (·.1) = kwNames kws ∧ (backToKw pos (keywordEach kws env)).any (·.1.isNone) = false
  | [], _ => ⟨rfl, rfl, rfl⟩
  | ⟨none, e, p⟩ :: r, h => by cases h
  | ⟨some x, e, p⟩ :: r, h => by
    rw [List.all_cons, Bool.and_eq_true] at h
    obtain ⟨h1, h2, h3⟩ := kw_all (env := env) (pos := pos) h.2
    refine ⟨?_, ?_, ?_⟩
    · show (true && (backToKw pos (keywordEach r env)).all (·.1.isSome)) = true
      rw [h1]; rfl
    · show x :: (backToKw pos (keywordEach r env)).filterMap (·.1) = x :: kwNames r
      rw [h2]
    · show (false || (backToKw pos (keywordEach r env)).any (·.1.isNone)) = false
      rw [h3]; rfl
/-- what is wanted of all the kinds of pieces -/
structure AllS (n : Nat) (X : Cx) (C : Cd) (Γ : Tbl) (Z : Nms) (cf : CF) (N : List Str) (st : Md) (sc : Scope) : Prop where
  e : ∀ e ir, cE Z N n st sc e = some ir → Snd X C Γ cf e ir
  es : ∀ es irs, cEs Z N n st sc es = some irs → PA X es (tDs C (semEs Γ cf irs))
  o : ∀ lo el, cO Z N n st sc lo = some el → PO X lo (tPt C (ptM Γ cf el))
  c : ∀ ifs ec, cC Z N n st sc ifs = some ec → PTs X ifs (tDt C (semT Γ cf ec))
  i : ∀ tg it ir, cI Z N n st sc tg it = some ir → PI X tg it (tI C (semI Γ cf ir))
  t : ∀ e t, cT Z N n st sc e = some t → PG X e (gF C t.ip (asgT Γ cf t)) ∧ ∀ i, t = .nm i → PG X e (gName i)
  ts : ∀ es ts, cTs Z N n st sc es = some ts → noStars es = true → PGs X es (gFs C ts.ip (asgD Γ cf ts))
  kv : ∀ ks vs kv, cKV Z N n st sc ks vs = some kv → KVs X C Γ cf ks vs kv
  kw : ∀ kws es, cK Z N n st sc kws = some es → PK X kws (tDs C (semEs Γ cf es)) ∧ (kws.all fun k => match k with | ⟨some _, _, _⟩ => true | _ => false) = true
  cau : ∀ x e ir, cCau Z N n st sc x e = some ir → ∀ p pos, PE X (.Call (.Name x p) [e] [] pos) (tD C (semE Γ cf ir))
  fw : ∀ x a e ir, cFw Z N n st sc x a e = some ir → ∀ p pos, PE X (.Call (.Name x p) [a, e] [] pos) (tD C (semE Γ cf ir))
  call : ∀ x as ir, cCall Z N n st sc x as = some ir → as ≠ [] → ∀ p pos, PE X (.Call (.Name x p) as [] pos) (tD C (semE Γ cf ir))
theorem pms_eq {pms : Arguments} (h : noPms pms = true) : pms = ⟨[], [], none, [], [], none, []⟩ := by
  unfold noPms at h
  split at h
  · rfl
  · cases h
theorem onePm_eq {pms : Arguments} {y : Str} (h : onePm pms = some y) : ∃ p, pms = ⟨[], [⟨y, none, p⟩], none, [], [], none, []⟩ := by
  unfold onePm at h
  split at h
  · cases h; exact ⟨_, rfl⟩
  · cases h
theorem lam1_by {sc scp : Scope} {x : Str} (h : lam1B sc scp x = true) : LamS1 sc scp x := by
  unfold lam1B at h
  simp only [Bool.and_eq_true, Bool.or_eq_true, Bool.not_eq_true', decide_eq_true_eq, decide_eq_false_iff_not, List.all_eq_true] at h
  obtain ⟨⟨⟨⟨h1, h2⟩, h3⟩, h4⟩, h5⟩ := h
  refine ⟨h1, h2, h3, h4, fun y hy => ⟨fun e => ?_, (h5 y hy).1.2⟩, fun y hy e => ?_⟩
  · rcases (h5 y hy).1.1 with z | z
    · exact absurd e z
    · exact z
  · rcases (h5 y hy).2 with (z | z) | z
    · exact absurd e z
    · exact .inl z
    · exact .inr z
theorem bind_one {y : Str} {ap : Pos} {q : Str} {bd : Expr} {scp : Scope} {cl : List (Str × Addr)} {pm cv ctv u : Value} : bindArgs (PySem.W.kla_fn "<lambda>" q ⟨[], [⟨y, none, ap⟩], none, [], [], none, []⟩ bd scp cl pm cv ctv) ⟨[u], []⟩ = pure [(y, u)] := by
  unfold bindArgs PySem.W.kla_fn
  simp [List.lookup, seqItems?, notAStandIn]
/-- a place in a lambda's body -/
theorem Ctx.lamC {X : Cx} {C : Cd} {st : Md} {sc scp : Scope} {A : Around} {outer : List Env} {s : Shared} {H : Hp} {E : XK} {f c' : Addr} (c : Ctx X C Γ Z G0 cf k N st sc) (hr : Room (k + 1) (A.deeper (LamX.lamEnv X scp s.heap.objs.size f c'))) (hk : scp.kind = .function) : Ctx (LamX.lamCx X A outer s H E scp f c') (CE C E) Γ Z G0 cf k N ⟨false, false, []⟩ scp :=
  ⟨c.tab, c.w, c.g, c.n, rfl, c.nd, rfl, hr, fun x z => (by cases z), fun z => (by cases z), takes_of rfl rfl rfl rfl⟩
theorem blkC_own {sc scope : Scope} (h : blkC N sc scope (blkOwn N scope) = true) : BlkOk N sc scope (blkOwn N scope) := blkOk_by h
theorem sound : ∀ (n : Nat) {X : Cx} {C : Cd} {st : Md} {sc : Scope}, Ctx X C Γ Z G0 cf k N st sc → AllS n X C Γ Z cf N st sc := by
  intro n
  induction n with
  | zero =>
    intro X C st sc _
    exact ⟨fun e ir h => (by simp only [cE] at h; cases h), fun es irs h => (by simp only [cEs] at h; cases h), fun lo el h => (by simp only [cO] at h; cases h), fun ifs ec h => (by simp only [cC] at h; cases h), fun tg it ir h => (by simp only [cI] at h; cases h),
      fun e t h => (by simp only [cT] at h; cases h), fun es ts h => (by simp only [cTs] at h; cases h), fun ks vs kv h => (by simp only [cKV] at h; cases h), fun kws es h => (by simp only [cK] at h; cases h), fun x e ir h => (by simp only [cCau] at h; cases h), fun x a e ir h => (by simp only [cFw] at h; cases h), fun x as ir h => (by simp only [cCall] at h; cases h)⟩
  | succ n ih =>
    intro X C st sc c
    have A := ih c
    have ihE := A.e
    have ihS := A.es
    refine ⟨fun e ir h => ?_, fun es irs h => ?_, fun lo el h => ?_, fun ifs ec h => ?_, fun tg it ir h => ?_, fun e t h => ?_, fun es ts h hs => ?_, fun ks vs kv h => ?_, fun kws es h => ?_, fun x e ir h p pos => ?_, fun x a e ir h p pos => ?_, fun x as ir h hne p pos => ?_⟩
    · cases e with
      | Name x pos =>
        simp only [cE] at h
        split at h
        · rename_i ho
          obtain ⟨h1, h2⟩ := okNm_ok ho
          split at h
          · rename_i hv
            cases q : idx x N with
            | none => rw [q] at h; cases h
            | some i =>
              rw [q] at h
              cases h
              exact .val (d_var (by rw [c.n]; exact idx_get q) (by rw [c.sc]; exact isVis_ok hv) h1 h2) (fun _ => rfl) rfl
          · split at h
            · rename_i hg
              split at h
              · rename_i d hd
                cases h
                obtain ⟨v, u, e1, e2, e3⟩ := c.tab.con x d hd
                exact .val (d_glo (pe_glob (isGlo_ok c.sc hg) e1 e2 h1) fun S H => by rw [c.w, c.g]; exact e3 _ S H) (fun _ => rfl) rfl
              · cases h
            · cases h
        · cases h
      | Constant cc i pos =>
        simp only [cE] at h
        cases q : constD cc with
        | none => rw [q] at h; cases h
        | some d =>
          rw [q] at h
          cases h
          obtain ⟨v, e1, e2⟩ := constD_ok (X := X) (i := i) (pos := pos) q
          exact .val (d_con e1 fun S H => e2 _ _ S H) (fun _ => rfl) rfl
      | BinOp a op b pos =>
        simp only [cE] at h
        split at h
        · rename_i ho
          cases q1 : cE Z N n st sc a with
          | none => rw [q1] at h; cases h
          | some ea =>
            cases q2 : cE Z N n st sc b with
            | none => rw [q1, q2] at h; cases h
            | some eb =>
              rw [q1, q2] at h
              cases h
              exact .val (bin_ok c.K ho (ihE a ea q1).pe (ihE b eb q2).pe) (fun _ => rfl) rfl
        · cases h
      | UnaryOp op a pos =>
        cases op <;> simp only [cE] at h <;> first | (cases h; done) | skip
        · split at h
          · rename_i ho
            cases q1 : cE Z N n st sc a with
            | none => rw [q1] at h; cases h
            | some ea =>
              rw [q1] at h
              cases h
              exact ⟨d_not (ihE a ea q1).pe, fun _ => dt_not ((ihE a ea q1).pt ho), fun z => by cases z⟩
          · cases h
        · cases q1 : cE Z N n st sc a with
          | none => rw [q1] at h; cases h
          | some ea =>
            rw [q1] at h
            cases h
            exact .val (d_neg (ihE a ea q1).pe) (fun _ => rfl) rfl
      | BoolOp op vs pos =>
        cases vs with
        | nil => simp only [cE] at h; cases h
        | cons a r =>
          cases r with
          | nil =>
            simp only [cE] at h
            split at h
            · rename_i ho
              have q := ihE a ir h
              have pw : PW X (.BoolOp op [a] pos) (tDt C (semT Γ cf ir)) := by
                cases op with
                | And => exact pw_and1 (q.pt ho)
                | Or => exact pw_or1 (q.pt ho)
              exact ⟨pe_one q.pe, fun _ => pw.pt, fun _ => pw⟩
            · cases h
          | cons b r =>
            simp only [cE] at h
            split at h
            · rename_i ho
              cases q1 : cE Z N n st sc a with
              | none => rw [q1] at h; cases h
              | some ea =>
                cases q2 : cE Z N n st sc (.BoolOp op (b :: r) pos) with
                | none =>
                  rw [q1, q2] at h
                  cases h
                  have qa := ihE a ea q1
                  have pb : PE X (.BoolOp op (b :: r) pos) (tD C (semE Γ cf .stk)) := ⟨fun _ _ _ _ _ _ ⟨_, _, _, _, hp⟩ => by unfold semE at hp; exact hp.elim⟩
                  have pb2 : PW X (.BoolOp op (b :: r) pos) (tDt C (semT Γ cf .stk)) := ⟨fun _ _ _ _ _ _ _ ⟨_, _, _, _, hp⟩ => by unfold semT semE at hp; exact hp.elim⟩
                  cases op with
                  | And =>
                    have pw := dt_nd (pos := pos) (qa.pt ho) pb2
                    exact ⟨d_nd qa.pe pb, fun _ => pw.pt, fun _ => pw⟩
                  | Or =>
                    have pw := dt_or (pos := pos) (qa.pt ho) pb2
                    exact ⟨d_or qa.pe pb, fun _ => pw.pt, fun _ => pw⟩
                | some eb =>
                  rw [q1, q2] at h
                  cases h
                  have qa := ihE a ea q1
                  have qb := ihE _ eb q2
                  cases op with
                  | And =>
                    have pw := dt_nd (pos := pos) (qa.pt ho) (qb.pw rfl)
                    exact ⟨d_nd qa.pe qb.pe, fun _ => pw.pt, fun _ => pw⟩
                  | Or =>
                    have pw := dt_or (pos := pos) (qa.pt ho) (qb.pw rfl)
                    exact ⟨d_or qa.pe qb.pe, fun _ => pw.pt, fun _ => pw⟩
            · cases h
      | Compare a ops bs pos =>
        cases ops with
        | nil => simp only [cE] at h; cases h
        | cons op ops =>
          cases ops with
          | nil =>
            cases bs with
            | nil => simp only [cE] at h; cases h
            | cons b bs =>
              cases bs with
              | nil =>
                simp only [cE] at h
                split at h
                · rename_i ho
                  cases q1 : cE Z N n st sc a with
                  | none => rw [q1] at h; cases h
                  | some ea =>
                    cases q2 : cE Z N n st sc b with
                    | none => rw [q1, q2] at h; cases h
                    | some eb =>
                      rw [q1, q2] at h
                      cases h
                      obtain ⟨r, o1, o2⟩ := cmp_ok (C := C) (op := op) c.K c.w (roomU c.room)
                      exact ⟨d_cmp o1 o2 (ihE a ea q1).pe (ihE b eb q2).pe (nomark ho), fun _ => dt_cmp o1 o2 (ihE a ea q1).pe (ihE b eb q2).pe (nomark ho), fun z => by cases z⟩
                · cases h
              | cons b2 bs => simp only [cE] at h; cases h
          | cons op2 ops =>
            cases ops with
            | cons op3 ops => simp only [cE] at h; cases h
            | nil =>
              cases bs with
              | nil => simp only [cE] at h; cases h
              | cons b bs =>
                cases bs with
                | nil => simp only [cE] at h; cases h
                | cons b2 bs =>
                  cases bs with
                  | cons b3 bs => simp only [cE] at h; cases h
                  | nil =>
                    simp only [cE] at h
                    split at h
                    · rename_i ho
                      cases q0 : cE Z N n st sc a with
                      | none => rw [q0] at h; cases h
                      | some ea =>
                        cases q1 : cE Z N n st sc b with
                        | none => rw [q0, q1] at h; cases h
                        | some eb =>
                          cases q2 : cE Z N n st sc b2 with
                          | none => rw [q0, q1, q2] at h; cases h
                          | some ec =>
                            rw [q0, q1, q2] at h
                            cases h
                            obtain ⟨r, o1, o2⟩ := cmp_ok (C := C) (op := op) c.K c.w (roomU c.room)
                            obtain ⟨r', o1', o2'⟩ := cmp_ok (C := C) (op := op2) c.K c.w (roomU c.room)
                            have hm : lastMarks [op, op2] [b, b2] = false := nomark ho
                            exact ⟨d_chn o1 o2 o1' o2' (ihE a ea q0).pe (ihE b eb q1).pe (ihE b2 ec q2).pe hm, fun _ => dt_chn o1 o2 o1' o2' (ihE a ea q0).pe (ihE b eb q1).pe (ihE b2 ec q2).pe hm, fun z => by cases z⟩
                    · cases h
      | IfExp t a b pos =>
        simp only [cE] at h
        split at h
        · rename_i ho
          cases q0 : cE Z N n st sc t with
          | none => rw [q0] at h; cases h
          | some et =>
            cases q1 : cE Z N n st sc a with
            | none => rw [q0, q1] at h; cases h
            | some ea =>
              cases q2 : cE Z N n st sc b with
              | none => rw [q0, q1, q2] at h; cases h
              | some eb =>
                rw [q0, q1, q2] at h
                cases h
                exact ⟨d_ite ((ihE t et q0).pt ho) (ihE a ea q1).pe (ihE b eb q2).pe, fun z => (by cases z), fun z => (by cases z)⟩
        · cases h
      | Tuple es kk pos =>
        simp only [cE] at h
        cases q : cEs Z N n st sc es with
        | none => rw [q] at h; cases h
        | some xs =>
          rw [q] at h
          cases h
          exact .val (d_tup (ihS es xs q)) (fun _ => rfl) rfl
      | List es pos =>
        simp only [cE] at h
        cases q : cEs Z N n st sc es with
        | none => rw [q] at h; cases h
        | some xs =>
          rw [q] at h
          cases h
          exact .val (d_lst (ihS es xs q)) (fun _ => rfl) rfl
      | Subscript a b pos =>
        by_cases hb : notSl b = true
        · have h' : (match cE Z N n st sc a, cE Z N n st sc b with
            | some ea, some eb => some (EX.ix ea eb)
            | _, _ => none) = some ir := by
            cases b <;> first | (cases hb; done) | (simp only [cE, notSl, if_true] at h; exact h)
          cases q1 : cE Z N n st sc a with
          | none => rw [q1] at h'; cases h'
          | some ea =>
            cases q2 : cE Z N n st sc b with
            | none => rw [q1, q2] at h'; cases h'
            | some eb =>
              rw [q1, q2] at h'
              cases h'
              exact .val (d_ix (plainIx hb) c.K c.w (ihE a ea q1).pe (ihE b eb q2).pe) (fun _ => rfl) rfl
        · cases b <;> first | exact absurd rfl hb | skip
          rename_i lo hi step sp
          cases step with
          | some z =>
            have rv : ∀ {kk p1 p2}, z = .UnaryOp .USub (.Constant (.int 1) kk p1) p2 → lo = none → hi = none → Snd X C Γ cf (.Subscript a (.Slice lo hi (some z) sp) pos) ir := fun {kk p1 p2} e1 e2 e3 => by
              subst e1 e2 e3
              simp only [cE] at h
              cases q1 : cE Z N n st sc a with
              | none => rw [q1] at h; cases h
              | some ea =>
                rw [q1] at h
                cases h
                exact .val (d_rev c.K (ihE a ea q1).pe) (fun _ => rfl) rfl
            cases lo with
            | some lo => first | (simp only [cE, notSl] at h; done) | (simp only [cE, notSl] at h; cases h)
            | none =>
              cases hi with
              | some hi => first | (simp only [cE, notSl] at h; done) | (simp only [cE, notSl] at h; cases h)
              | none =>
                cases z <;> first | (simp only [cE, notSl] at h; done) | (simp only [cE, notSl] at h; cases h; done) | skip
                rename_i uo ua up
                cases uo <;> first | (simp only [cE, notSl] at h; done) | (simp only [cE, notSl] at h; cases h; done) | skip
                cases ua <;> first | (simp only [cE, notSl] at h; done) | (simp only [cE, notSl] at h; cases h; done) | skip
                rename_i cc ck cp
                cases cc <;> first | (simp only [cE, notSl] at h; done) | (simp only [cE, notSl] at h; cases h; done) | skip
                rename_i ii
                by_cases hii : ii = 1
                · subst hii; exact rv rfl rfl rfl
                · first | (simp only [cE, notSl, hii] at h; done) | (simp only [cE, notSl, hii] at h; cases h; done) | (unfold cE at h; split at h <;> first | (simp_all [notSl]; done) | (rename_i hq; simp only [Expr.Subscript.injEq] at hq; obtain ⟨r1, r2, r3⟩ := hq; subst r1 r2 r3; simp [notSl] at h))
          | none =>
            simp only [cE] at h
            cases q1 : cE Z N n st sc a with
            | none => rw [q1] at h; cases h
            | some ea =>
              cases q2 : cO Z N n st sc lo with
              | none => rw [q1, q2] at h; cases h
              | some el =>
                cases q3 : cO Z N n st sc hi with
                | none => rw [q1, q2, q3] at h; cases h
                | some eh =>
                  rw [q1, q2, q3] at h
                  cases h
                  exact .val (d_slc c.K (ihE a ea q1).pe (A.o lo el q2) (A.o hi eh q3)) (fun _ => rfl) rfl
      | Attribute a x pos =>
        simp only [cE] at h
        split at h
        · rename_i ho
          cases q : cE Z N n st sc a with
          | none => rw [q] at h; cases h
          | some ea =>
            rw [q] at h
            cases h
            have ecl := c.cl
            refine .val (d_fld (G0 := G0) (k := k) (CX := L2.CX X.prog X.w) c.K c.kf (by rw [ecl]; exact c.tab.icl) (by rw [ecl]; exact c.tab.fld) (fun cc x g e => ?_) (by rw [ecl]; exact c.tab.exd) (by rw [ecl]; exact c.tab.exf) c.g c.room (fun Y e1 e2 => by rw [← e1, ← e2]; exact passL) (ihE a ea q).pe (noattrB ho)) (fun _ => rfl) rfl
            rw [ecl, c.w]
            exact c.tab.prop cc x g e
        · cases h
      | ListComp elt gs scope pos =>
        cases gs with
        | nil => simp only [cE] at h; cases h
        | cons g0 gs =>
          cases gs with
          | cons g1 gs => simp only [cE] at h; cases h
          | nil =>
            obtain ⟨tg, iter, ifs, asy⟩ := g0
            simp only [cE] at h
            split at h
            · rename_i ho
              obtain ⟨ha, ho1, ho2⟩ := ho
              subst ha
              cases q1 : cI Z N n st sc tg iter with
              | none => rw [q1] at h; cases h
              | some it =>
                cases q2 : cT Z N n ⟨false, st.l, ownC scope⟩ (relS scope sc) tg with
                | none => rw [q1, q2] at h; cases h
                | some tp =>
                  cases q3 : cC Z N n ⟨false, st.l, ownC scope⟩ (relS scope sc) ifs with
                  | none => rw [q1, q2, q3] at h; cases h
                  | some ec =>
                    cases q4 : cE Z N n ⟨false, st.l, ownC scope⟩ (relS scope sc) elt with
                    | none => rw [q1, q2, q3, q4] at h; cases h
                    | some ee =>
                      rw [q1, q2, q3, q4] at h
                      simp only at h
                      split at h
                      · rename_i hp
                        obtain ⟨hp1, hp2⟩ := Bool.and_eq_true_iff.mp hp
                        cases h
                        refine .val (d_lc c.calm c.nd (A.i tg iter it q1) (by rw [c.n, c.sc]; exact blkC_own ho2) rfl (fun i hi => ?_) hp1 (fun B s H a cl fp => ?_) (fun B s H a cl fp => ?_) (fun B s H a cl fp => ?_) (notSet_ok ho1)) (fun _ => rfl) rfl
                        · exact List.contains_iff_mem.mp (List.all_eq_true.mp hp2 i hi)
                        · exact ((ih (c.blk B s H scope cl a fp)).t tg tp q2).1
                        · exact (ih (c.blk B s H scope cl a fp)).c ifs ec q3
                        · exact ((ih (c.blk B s H scope cl a fp)).e elt ee q4).pe
                      · cases h
            · cases h
      | Call f as kws pos =>
        cases kws with
        | cons kw kws =>
          cases f <;> first | (simp only [cE] at h; cases h; done) | skip
          rename_i x px
          cases as with
          | cons a as =>
            cases as with
            | nil => simp only [cE] at h; cases h
            | cons b as => cases as <;> (simp only [cE] at h; cases h)
          | nil =>
            simp only [cE] at h
            split at h
            · rename_i ho
              obtain ⟨ho1, ho2⟩ := Bool.and_eq_true_iff.mp ho
              split at h
              · rename_i i np df es perm q1 q2 q3
                cases h
                obtain ⟨fa, fd, ps, e0, e1, e2, e4, _, e5⟩ := c.tab.fns x i np df q1
                obtain ⟨gk, hkb⟩ := e5 _ perm (permOf_mem q3)
                have e6 : FnOk X.prog X.w X.K X.mg X.base (L2.CX X.prog X.w) k fa fd ps (spF C.w G0 (cf i)) := by rw [c.w]; exact e4
                obtain ⟨k1, k2⟩ := A.kw _ es q2
                obtain ⟨k3, k4, k5⟩ := kw_all (env := X.env) (pos := pos) k2
                exact .val (d_calk e6 c.g (c.room.mono (Nat.le_succ k)) (isGlo_ok c.sc ho1) e1 e2 hkb (passes_call c.tk fun _ _ _ _ z => z) k1 k3 k4 (okNm_ok ho2).1 (by rw [k5]; rfl)) (fun _ => rfl) rfl
              · cases h
            · cases h
        | nil =>
          cases f <;> first | (simp only [cE] at h; cases h; done) | skip
          rename_i x px
          have gen : ∀ {as : List Expr}, as ≠ [] → cCall Z N n st sc x as = some ir → Snd X C Γ cf (.Call (.Name x px) as [] pos) ir := fun {as} hne h => .val (A.call x as ir h hne px pos) (fun _ => rfl) rfl
          cases as with
          | nil => simp only [cE] at h; cases h
          | cons a as =>
            cases as with
            | nil =>
              simp only [cE] at h
              split at h
              · exact .val (A.cau x a ir h px pos) (fun _ => rfl) rfl
              · exact gen (by simp) h
            | cons b as =>
              cases as with
              | cons b2 as => simp only [cE] at h; exact gen (by simp) h
              | nil =>
                by_cases hx : x = "isinstance"
                · subst hx
                  simp only [cE, if_true] at h
                  split at h
                  · rename_i ho
                    obtain ⟨ho1, ho2⟩ := Bool.and_eq_true_iff.mp ho
                    have hg := isGlo_ok c.sc ho1
                    have hm := c.tab.blt "isinstance" (by decide)
                    split at h
                    · rename_i ts kk tp
                      cases q1 : cE Z N n st sc a with
                      | none => rw [q1] at h; cases h
                      | some ea =>
                        cases q2 : cTys Z sc ts with
                        | none => rw [q1, q2] at h; cases h
                        | some tys =>
                          cases tys with
                          | nil => rw [q1, q2] at h; cases h
                          | cons t tys =>
                            rw [q1, q2] at h
                            simp only at h
                            split at h
                            · rename_i hh
                              cases h
                              obtain ⟨h1, h2⟩ := Bool.and_eq_true_iff.mp hh
                              obtain ⟨h3, h4⟩ := cTys_ok (C := C) c q2
                              refine .val (d_isiT c.kf c.K hg hm (by simp) (by rw [h4]; exact Nat.le_trans (by simpa using h2) (by decide)) (ihE a ea q1).pe h3 (star_cons h1) (star_cons rfl) (by rw [star_cons (X := X) rfl]; rfl)) (fun _ => rfl) rfl
                            · cases h
                    · cases q1 : cE Z N n st sc a with
                      | none => rw [q1] at h; cases h
                      | some ea =>
                        cases q2 : cTy Z sc b with
                        | none => rw [q1, q2] at h; cases h
                        | some t =>
                          rw [q1, q2] at h
                          simp only at h
                          split at h
                          · rename_i h1
                            cases h
                            obtain ⟨h3, h4⟩ := cTy_ok (C := C) c q2
                            exact .val (d_isi1 (x := "isinstance") c.kf c.K hg hm (ihE a ea q1).pe h3 (star_cons h1) (star_cons h4) (by rw [star_cons (X := X) h4]; rfl)) (fun _ => rfl) rfl
                          · cases h
                  · cases h
                · simp only [cE, if_neg hx] at h
                  split at h
                  · exact .val (A.fw x a b ir h px pos) (fun _ => rfl) rfl
                  · exact gen (by simp) h
      | Dict keys values pos =>
        simp only [cE] at h
        split at h
        · rename_i h15
          cases q : cKV Z N n st sc keys values with
          | none => rw [q] at h; cases h
          | some kv =>
            rw [q] at h
            cases h
            have hk := A.kv keys values kv q
            by_cases h0 : keys = []
            · subst h0
              cases hk
              exact .val d_dic0 (fun _ => rfl) rfl
            · exact .val (d_dic c.w hk h0 h15) (fun _ => rfl) rfl
        · cases h
      | _ => simp only [cE] at h; cases h
    · cases es with
      | nil =>
        simp only [cEs] at h
        cases h
        exact ds_nil
      | cons a es =>
        simp only [cEs] at h
        split at h
        · rename_i ho
          cases q1 : cE Z N n st sc a with
          | none => rw [q1] at h; cases h
          | some x =>
            cases q2 : cEs Z N n st sc es with
            | none => rw [q1, q2] at h; cases h
            | some xs =>
              rw [q1, q2] at h
              cases h
              exact ds_cons (ihE a x q1).pe (fun B => (ih (c.toB B)).es es xs q2) (star_cons ho)
        · cases h
    · cases lo with
      | none =>
        simp only [cO] at h
        cases h
        exact po_n
      | some e =>
        simp only [cO] at h
        cases q : cE Z N n st sc e with
        | none => rw [q] at h; cases h
        | some x =>
          rw [q] at h
          simp only at h
          split at h
          · cases h
          · rename_i hn
            cases h
            exact po_s (ihE e _ q).pe (by simpa using hn)
    · cases ifs with
      | nil =>
        simp only [cC] at h
        cases h
        refine ⟨fun pins s σ H Q I ⟨L, W, g, wr, q⟩ => pts_nil.run pins s σ H Q I ?_⟩
        unfold semT semE at q
        exact q true H PstE.refl wr rfl
      | cons a r =>
        cases r with
        | nil =>
          simp only [cC] at h
          split at h
          · rename_i ho
            exact pts_one ((ihE a ec h).pt ho)
          · cases h
        | cons b r => simp only [cC] at h; cases h
    · have seqc : ∀ ir, (cE Z N n st sc it).map IX.seq = some ir → PI X tg it (tI C (semI Γ cf ir)) := fun ir h => by
        cases q : cE Z N n st sc it with
        | none => rw [q] at h; cases h
        | some e => rw [q] at h; cases h; exact i_seq c.K (ihE it e q).pe
      cases it <;> first | (simp only [cI] at h; exact seqc ir h) | skip
      rename_i f as kws pos
      cases f <;> first | (simp only [cI] at h; exact seqc ir h) | skip
      rename_i x px
      cases kws with
      | cons kw kws =>
        cases as with
        | nil => simp only [cI] at h; exact seqc ir h
        | cons a as =>
          cases as with
          | nil => simp only [cI] at h; exact seqc ir h
          | cons b as => cases as <;> (simp only [cI] at h; exact seqc ir h)
      | nil =>
        cases as with
        | nil => simp only [cI] at h; exact seqc ir h
        | cons a as =>
          cases as with
          | nil =>
            simp only [cI] at h
            split at h
            · rename_i ho
              obtain ⟨rfl, h1, h2⟩ := ho
              cases q : cE Z N n st sc a with
              | none => rw [q] at h; cases h
              | some e =>
                rw [q] at h
                cases h
                exact i_rng1 (isGlo_ok c.sc h1) (c.tab.blt _ (by decide)) (ihE a e q).pe (star_cons h2)
            · split at h
              · rename_i ho
                obtain ⟨rfl, h1, h2⟩ := ho
                split at h
                · cases q : cE Z N n st sc a with
                  | none => rw [q] at h; cases h
                  | some e =>
                    rw [q] at h
                    cases h
                    exact i_enum c.K (isGlo_ok c.sc h1) (c.tab.blt _ (by decide)) (ihE a e q).pe (star_cons h2)
                · cases h
              · exact seqc ir h
          | cons b as =>
            cases as with
            | cons d as =>
              cases as with
              | cons d2 as => simp only [cI] at h; exact seqc ir h
              | nil =>
                simp only [cI] at h
                split at h
                · rename_i ho
                  obtain ⟨rfl, h1, h2, h3⟩ := ho
                  split at h
                  · split at h
                    · rename_i ea eb q q2
                      cases h
                      exact i_rngd (isGlo_ok c.sc h1) (c.tab.blt _ (by decide)) (ihE a ea q).pe (ihE b eb q2).pe h2 h3
                    · cases h
                  · cases h
                · exact seqc ir h
            | nil =>
              simp only [cI] at h
              split at h
              · rename_i ho
                obtain ⟨rfl, h1, h2, h3⟩ := ho
                cases q : cE Z N n st sc a with
                | none => rw [q] at h; cases h
                | some e =>
                  cases q2 : cE Z N n st sc b with
                  | none => rw [q, q2] at h; cases h
                  | some e2 =>
                    rw [q, q2] at h
                    cases h
                    exact i_rng2 (isGlo_ok c.sc h1) (c.tab.blt _ (by decide)) (ihE a e q).pe (ihE b e2 q2).pe (star_cons h2) (star_cons h3)
              · split at h
                · rename_i ho
                  obtain ⟨rfl, h1, h2, h3⟩ := ho
                  split at h
                  · rename_i e e2 q q2
                    cases h
                    exact i_zip c.K (isGlo_ok c.sc h1) (c.tab.blt _ (by decide)) (ihE a e q).pe (ihE b e2 q2).pe (star_cons h2) (star_cons h3)
                  · cases h
                · exact seqc ir h
    · cases e <;> first | (simp only [cT] at h; cases h; done) | skip
      · -- a place of an own object
        rename_i o kx pos
        cases o <;> first | (simp only [cT] at h; cases h; done) | skip
        rename_i x px
        simp only [cT] at h
        split at h
        · rename_i ho
          simp only [Bool.and_eq_true] at ho
          obtain ⟨⟨h1, h2⟩, h3⟩ := ho
          cases q1 : idx x N with
          | none => rw [q1] at h; cases h
          | some i =>
            cases q2 : cE Z N n st sc kx with
            | none => rw [q1, q2] at h; cases h
            | some ek =>
              rw [q1, q2] at h
              cases h
              exact ⟨g_sub c.K c.w (by rw [c.n]; exact idx_get q1) (by rw [c.sc]; exact isVis_ok h2) (okNm_ok h1).1 (okNm_ok h1).2 (ihE kx ek q2).pe (plainIx h3) (notSl_ok h3), fun j z => by cases z⟩
        · cases h
      · rename_i x px
        simp only [cT] at h
        split at h
        · rename_i ho
          obtain ⟨h1, h2⟩ := Bool.and_eq_true_iff.mp ho
          cases q1 : idx x N with
          | none => rw [q1] at h; cases h
          | some i =>
            rw [q1] at h
            cases h
            obtain ⟨e1, e2⟩ := isSto_ok c h2
            have hi : X.N[i]? = some x := by rw [c.n]; exact idx_get q1
            exact ⟨g_nm c.nd hi e1 e2, fun j z => by cases z; exact pg_name c.nd hi e1 e2⟩
        · cases h
      · rename_i es kk pos
        simp only [cT] at h
        split at h
        · rename_i hs
          cases q : cTs Z N n st sc es with
          | none => rw [q] at h; cases h
          | some ts =>
            rw [q] at h
            simp only at h
            split at h
            · rename_i hl
              cases h
              exact ⟨g_tu c.calm c.K (A.ts es ts q hs) hs hl, fun j z => by cases z⟩
            · cases h
        · cases h
    · cases es with
      | nil =>
        simp only [cTs] at h
        cases h
        exact gs_nil
      | cons a es =>
        simp only [cTs] at h
        cases q1 : cT Z N n st sc a with
        | none => rw [q1] at h; cases h
        | some x =>
          cases q2 : cTs Z N n st sc es with
          | none => rw [q1, q2] at h; cases h
          | some xs =>
            rw [q1, q2] at h
            cases h
            exact gs_cons (A.t a x q1).1 (A.ts es xs q2 (noStars_tl hs)) hs
    · cases ks with
      | nil =>
        cases vs with
        | nil => simp only [cKV] at h; cases h; exact .nil
        | cons v vs => simp only [cKV] at h; cases h
      | cons k0 ks =>
        cases k0 with
        | none => cases vs <;> (simp only [cKV] at h; cases h)
        | some k0 =>
          cases vs with
          | nil => simp only [cKV] at h; cases h
          | cons v vs =>
            simp only [cKV] at h
            split at h
            · rename_i ek ev r q1 q2 q3
              cases h
              exact .cons (fun B => ((ih (c.toB B)).e k0 ek q1).pe) (fun B => ((ih (c.toB B)).e v ev q2).pe) (A.kv ks vs r q3)
            · cases h
    · cases kws with
      | nil => simp only [cK] at h; cases h; exact ⟨dk_nil, rfl⟩
      | cons k0 r =>
        obtain ⟨nm, e, kp⟩ := k0
        cases nm with
        | none => simp only [cK] at h; cases h
        | some x =>
          simp only [cK] at h
          split at h
          · rename_i ee es' q1 q2
            cases h
            obtain ⟨k1, k2⟩ := A.kw r es' q2
            exact ⟨dk_cons (ihE e ee q1).pe (fun B => ((ih (c.toB B)).kw r es' q2).1), by rw [List.all_cons, k2]; rfl⟩
          · cases h
    · simp only [cCau] at h
      split at h
      · rename_i pms bd scp lp
        split at h
        · rename_i ho
          simp only [Bool.and_eq_true, decide_eq_true_eq] at ho
          obtain ⟨⟨⟨⟨⟨h1, h2⟩, h3⟩, h4⟩, h5⟩, h6⟩ := ho
          cases q : cE Z N n ⟨false, false, []⟩ scp bd with
          | none => rw [q] at h; cases h
          | some eb =>
            rw [q] at h
            cases h
            obtain ⟨hr, cd, tb, l1, l2, l3, l4⟩ := c.lam h1
            obtain ⟨stm, g, fd, wk, fo, er, Wn, CS, f1, f2, f3, f4, f5, f6, f7⟩ := c.tab.cau x h2
            obtain ⟨oc, od, kV, doc, pm, an, cdv, ct, osl, rfl, lk, hcd⟩ := f1.ex
            have ecl := c.cl
            have okk := f5.ok
            simp only [List.all_cons, List.all_nil, Bool.and_eq_true, Bool.and_true] at okk
            have k0 := okNm_ok okk.1
            have LS : LamX.LamS X.env.scope scp := by rw [c.sc]; exact LamX.lamS_by h6
            cases pms_eq h5
            refine pe_imp (pe_lamG (R := TTc X.K CS) (t := fun E => tD (CE C E) (semE Γ cf eb)) (k := k + 1) (isGlo_ok c.sc h3) f2 f1.kp lk hcd f3 f4 rfl (.inl f5.l0) (caught_gives f5 f6) l1 l2 l3 l4 hr LS rfl (fun _ _ _ _ _ => rfl) (fun A outer s H E f c' hr2 => ?_) (okNm_ok h4).1 k0.1 k0.2) fun σ H Q ⟨L, W, g, wr, hp⟩ => cau_ok rfl (by rw [ecl]; exact f7) g wr hp
            exact ((ih (X := LamX.lamCx X A outer s H E scp f c') (C := CE C E) (c.lamC hr2 (LS.kind))).e bd eb q).pe
        · cases h
      · cases h
    · simp only [cFw] at h
      split at h
      · rename_i pms bd scp lp
        split at h
        · rename_i y hy
          split at h
          · rename_i ho
            simp only [Bool.and_eq_true, decide_eq_true_eq] at ho
            obtain ⟨⟨⟨⟨⟨h1, h2⟩, h3⟩, h4⟩, h5⟩, h6⟩ := ho
            split at h
            · rename_i ea j eb q1 q2 q3
              cases h
              obtain ⟨hr, cd, tb, l1, l2, l3, l4⟩ := c.lam h1
              obtain ⟨stm, g, fd, se, fi, ix, im, f1, f2, f3, f4, f5⟩ := c.tab.fw x h2
              obtain ⟨oc, od, kV, doc, pm, an, cdv, ct, osl, rfl, lk, hcd⟩ := f1.ex
              have okk := f5.ok
              simp only [List.all_cons, List.all_nil, Bool.and_eq_true, Bool.and_true] at okk
              have k1 := okNm_ok okk.2.1
              have LS : LamS1 X.env.scope scp y := by rw [c.sc]; exact lam1_by h6
              obtain ⟨ap, rfl⟩ := onePm_eq hy
              obtain ⟨jj, j2, p1, p2, p3, p4, p5, p6, p7, p8, p9, p10, p11, p12, p13, p14, p15, p16, etx⟩ := f5.tx
              refine pe_imp (pe_lamcall2 (TT := TTfw X.K (X.env.qual ++ "<lambda>")) (t1 := tD C (semE Γ cf ea)) (t := tD (CE C C8.E0) (semE Γ cf eb)) (k := k + 1) (isGlo_ok c.sc h3) f2 f1.kp lk hcd f3 f4 rfl (.inl f5.l1) (by rw [etx]; exact first_wrong_gives f5.en (c.tab.blt _ (by decide)) f5.l0 f5.l1 f5.l2 f5.l3 f5.nd f5.ok) l1 l2 l3 l4 hr LS (by rw [c.n]; exact c.n ▸ c.nd) (by rw [c.n]; exact idx_get q2) rfl (fun _ _ _ _ _ _ => bind_one) (ihE a ea q1).pe h5 (fun A outer s H f c' hr2 => ?_) (okNm_ok h4).1 k1.1 k1.2) fun σ H Q ⟨L, W, g, wr, hp⟩ => fw_ok rfl c.K g wr hp
              exact ((ih (X := LamX.lamCx X A outer s H C8.E0 scp f c') (C := CE C C8.E0) (c.lamC hr2 (LS.kind))).e bd eb q3).pe
            · cases h
          · cases h
        · cases h
      · cases h
    · simp only [cCall] at h
      obtain ⟨a, as, rfl⟩ : ∃ a as', as = a :: as' := by
        cases as with
        | nil => exact absurd rfl hne
        | cons a as => exact ⟨_, _, rfl⟩
      split at h
      · rename_i ho
        obtain ⟨ho1, ho2⟩ := Bool.and_eq_true_iff.mp ho
        have hg := isGlo_ok c.sc ho1
        split at h
        · rename_i i np df hl
          split at h
          · rename_i hn
            cases q : cEs Z N n st sc (a :: as) with
            | none => rw [q] at h; cases h
            | some xs =>
              rw [q] at h
              cases h
              obtain ⟨fa, fd, ps, e0, e1, e2, e4, e5, _⟩ := c.tab.fns x i np df hl
              obtain ⟨dV, dU, b1, b2, b3⟩ := e5 (np - (a :: as).length) (by omega)
              have e6 : FnOk X.prog X.w X.K X.mg X.base (L2.CX X.prog X.w) k fa fd ps (spF C.w G0 (cf i)) := by rw [c.w]; exact e4
              have ns := cEs_noStar (X := X) q pos
              have hst := cEs_hd q
              rw [star_cons (X := X) hst] at ns
              exact d_cal e6 c.g (c.room.mono (Nat.le_succ k)) hg e1 e2 b1 b2 (fun S H => by rw [c.w, c.g]; exact b3 _ S H) (passes_call c.tk fun _ _ _ _ z => z) (ihS _ xs q) (okNm_ok ho2).1 (star_cons hst) ns
          · cases h
        · split at h
          · rename_i cc hcl
            cases q : cEs Z N n st sc (a :: as) with
            | none => rw [q] at h; cases h
            | some xs =>
              rw [q] at h
              cases h
              have ns := cEs_noStar (X := X) q pos
              have hst := cEs_hd q
              rw [star_cons (X := X) hst] at ns
              cases hmk : Γ.mak cc with
              | none =>
                refine ⟨fun pins s σ H Q I ⟨L, W, g, wr, hp⟩ => ?_⟩
                unfold semE at hp
                simp only [hmk] at hp
                exact hp.elim
              | some g =>
                obtain ⟨_, fa, fd, ps, m1, m2, m3⟩ := c.tab.mak cc g hmk
                have ecl := c.cl
                exact d_mak (by rw [ecl]; exact m1) (by rw [c.w]; exact m3) c.g c.room hg (by rw [ecl]; exact c.tab.cls x cc hcl) m2 hmk (passes_call c.tk fun _ _ _ _ z => z) (ihS _ xs q) (okNm_ok ho2).1 (star_cons hst) ns
          split at h
          · rename_i f sd hb
            obtain ⟨ty, id⟩ := sd
            cases q : cEs Z N n st sc (a :: as) with
            | none => rw [q] at h; cases h
            | some xs =>
              rw [q] at h
              cases h
              obtain ⟨b1, b2, b3, b4⟩ := bl_ok' (C := C) c.calm c.K c.w hb
              have hm := c.tab.blt x b1
              have ns := cEs_noStar (X := X) q pos
              have hst := cEs_hd q
              rw [star_cons (X := X) hst] at ns
              cases ty with
              | true => exact d_blT b3 rBl_serves hg hm b4 b2 (okNm_ok ho2).1 (ihS _ xs q) (star_cons hst) ns
              | false => exact d_blB b3 rBl_serves hg hm b4 b2 (okNm_ok ho2).1 (ihS _ xs q) (star_cons hst) ns
          · cases h
      · split at h
        · rename_i ho
          obtain ⟨ho1, ho2⟩ := Bool.and_eq_true_iff.mp ho
          cases q1 : idx x N with
          | none => rw [q1] at h; cases h
          | some i =>
            cases q : cEs Z N n st sc (a :: as) with
            | none => rw [q1, q] at h; cases h
            | some xs =>
              rw [q1, q] at h
              cases h
              have ns := cEs_noStar (X := X) q pos
              have hst := cEs_hd q
              rw [star_cons (X := X) hst] at ns
              exact d_calv (fun j hj => by rw [c.w]; exact c.tab.val j hj) c.g (c.room.mono (Nat.le_succ k)) (by rw [c.n]; exact idx_get q1) (by rw [c.sc]; exact isVis_ok ho1) (okNm_ok ho2).1 (okNm_ok ho2).2 (passes_call c.tk fun _ _ _ _ z => z) (ihS _ xs q) (star_cons hst) ns
        · cases h
end
end Dl

set_option maxRecDepth 100000
set_option maxHeartbeats 4000000
/-! D20: statements from the syntax. -/
namespace Dl
open PySem PySem.Spec PyProof.Rows L2
def isFnK (sc : Scope) : Bool := match sc.kind with
  | .function => true
  | _ => false
theorem isFnK_ok {sc : Scope} (h : isFnK sc = true) : sc.kind = .function := by
  unfold isFnK at h
  split at h
  · assumption
  · cases h
def ownIn (x : Str) (s : Scope) : Bool := s.names.any fun (n, k) => n == x && (k == .local || k == .cell)
/-- a comprehension that is stored at once: CPython's other road -/
def swB (sc : Scope) (v : Expr) (x : Str) (px : Pos) : Bool := match v with
  | .ListComp _ _ s p => (sc.names.lookup x == some .local) && px.line == p.line && !ownIn x s
  | .SetComp _ _ s p => (sc.names.lookup x == some .local) && px.line == p.line && !ownIn x s
  | .DictComp _ _ _ s p => (sc.names.lookup x == some .local) && px.line == p.line && !ownIn x s
  | _ => false
theorem blockKind_fn {env : Env} (h : env.scope.kind = .function) : env.blockKind = .function := by
  unfold Env.blockKind
  rw [h]
  rfl
theorem swB_ok {env : Env} {v : Expr} {x : Str} {px : Pos} {l : Nat} (h : env.scope.kind = .function) : swapsWith v (some (.Name x px)) l env = pure (swB env.scope v x px) := by
  have hb := blockKind_fn h
  cases v <;> first
    | rfl
    | (unfold swapsWith swB ownIn
       simp only [hb]
       rfl)
theorem sw_not {env : Env} {v tg : Expr} {l : Nat} (h : ∀ x p, tg ≠ .Name x p) : swapsWithSole [tg] v l env = pure false := by
  cases tg <;> first | exact absurd rfl (h _ _) | (cases v <;> rfl)
theorem sw_none {env : Env} {v tg : Expr} (h : ∀ ts k p, tg ≠ .Tuple ts k p) (h' : ∀ ts p, tg ≠ .List ts p) : swappedStores [tg] v env = pure none := by
  cases tg <;> first | exact absurd rfl (h _ _ _) | exact absurd rfl (h' _ _) | (cases v <;> rfl)
theorem sw_none2 {env : Env} {v : Expr} {ts : List Expr} {k : Nat} {p : Pos} (h : ∀ ts k p, v ≠ .Tuple ts k p) : swappedStores [.Tuple ts k p] v env = pure none := by
  cases v <;> first | exact absurd rfl (h _ _ _) | rfl
/-- whether a tuple of targets is stored from the right: none where the model says nothing -/
def swT (kO : Str → Option NameKind) (ts vs : List Expr) : Option (Option (List Str)) :=
  if (!(ts.length == 2 || ts.length == 3) || vs.length != ts.length) = true then some none
  else if (vs.any fun | .Starred .. => true | _ => false) = true then some none
  else if (((ts.filterMap fun
      | .Name id pos => if (kO id == some .local && pos.line == (ts.head?.map (·.pos.line)).getD 0) = true then some id else none
      | _ => none).length != ts.length || (ts.filterMap fun
      | .Name id pos => if (kO id == some .local && pos.line == (ts.head?.map (·.pos.line)).getD 0) = true then some id else none
      | _ => none).eraseDups.length != (ts.filterMap fun
      | .Name id pos => if (kO id == some .local && pos.line == (ts.head?.map (·.pos.line)).getD 0) = true then some id else none
      | _ => none).length)) = true then some none
  else if vs.all (foldedForSure 8) = true then some none
  else if vs.all (constantsAlone 8) = true then none
  else some (some (ts.filterMap fun
      | .Name id pos => if (kO id == some .local && pos.line == (ts.head?.map (·.pos.line)).getD 0) = true then some id else none
      | _ => none))
theorem swT_ok {env : Env} {ts vs : List Expr} {k k2 : Nat} {p p2 : Pos} {r : Option (List Str)} (h : env.scope.kind = .function) (e : swT env.kindOf ts vs = some r) : swappedStores [.Tuple ts k p] (.Tuple vs k2 p2) env = pure r := by
  have hb := blockKind_fn h
  unfold swT at e
  unfold swappedStores
  simp only [hb]
  have hbb : ((ScopeKind.function != ScopeKind.function)) = false := by decide
  rw [hbb, Bool.or_false]
  split at e
  · rename_i h1
    cases e
    exact if_pos h1
  · rename_i h1
    refine (if_neg h1).trans ?_
    split at e
    · rename_i h2
      cases e
      exact if_pos h2
    · rename_i h2
      refine (if_neg h2).trans ?_
      split at e
      · rename_i h3
        cases e
        exact if_pos h3
      · rename_i h3
        refine (if_neg h3).trans ?_
        split at e
        · rename_i h4
          cases e
          exact if_pos h4
        · rename_i h4
          refine (if_neg h4).trans ?_
          split at e
          · cases e
          · rename_i h5
            cases e
            exact if_neg h5
/-- the names that a loop walks -/
def fzNames : Expr → List Str
  | .Name x _ => [x]
  | .Call (.Name _ _) as [] _ => as.filterMap fun
    | .Name x _ => some x
    | _ => none
  | _ => []
def fz (N : List Str) (sc : Scope) : List Str → SX → SX
  | [], s => s
  | x :: xs, s => match idx x N with
    | some i => if isVis sc x then .frz i (fz N sc xs s) else fz N sc xs s
    | none => fz N sc xs s
section
variable (Z : Nms) (N : List Str) (l : Bool)
def getS : Option SX → SX
  | some s => s
  | none => .stk
def isLc : Expr → Bool
  | .ListComp _ _ _ _ => true
  | _ => false
/-- an assignment -/
def cA (n : Nat) (sc : Scope) (tg v : Expr) : Option SX := match tg with
  | .Name x px => if okNm x && isSto ⟨true, l, []⟩ sc x then match idx x N, cE Z N n ⟨true, l, []⟩ sc v with
      | some i, some ev => if !swB sc v x px || (isLc v && isLocal sc x) then some (.asg (.nm i) ev) else none
      | _, _ => none
    else none
  | .Tuple ts _ _ => match v with
    | .Tuple vs _ _ => match swT (fun x => sc.names.lookup x) ts vs, cTs Z N n ⟨true, l, []⟩ sc ts, cEs Z N n ⟨true, l, []⟩ sc vs with
      | some none, some tps, some evs => if noStars ts && decide (tps.len = ts.length) && decide (ts.length ≤ 30) then some (.set tps evs) else none
      | some (some nms), some tps, some evs => match ts, vs, nms with
        | [.Name x _, .Name y _], [_, _], [x', y'] => match idx x N, idx y N with
          | some i, some j => if decide (x = x') && decide (y = y') && decide (i ≠ j) && isLocal sc x && isLocal sc y then some (.set (.cons (.nm i) (.cons (.nm j) .nil)) evs) else none
          | _, _ => none
        | [.Name x _, .Name y _, .Name z _], [_, _, _], [x', y', z'] => match idx x N, idx y N, idx z N with
          | some i, some j, some l => if decide (x = x') && decide (y = y') && decide (z = z') && decide (i ≠ j) && decide (i ≠ l) && decide (j ≠ l) && isLocal sc x && isLocal sc y && isLocal sc z then some (.set (.cons (.nm i) (.cons (.nm j) (.cons (.nm l) .nil))) evs) else none
          | _, _, _ => none
        | _, _, _ => none
      | _, _, _ => none
    | _ => match cT Z N n ⟨true, l, []⟩ sc tg, cE Z N n ⟨true, l, []⟩ sc v with
      | some t, some ev => some (.asg t ev)
      | _, _ => none
  | .Subscript _ _ _ => match cT Z N n ⟨true, l, []⟩ sc tg, cE Z N n ⟨true, l, []⟩ sc v with
    | some t, some ev => some (.asg t ev)
    | _, _ => none
  | _ => none
/-- a call of append on a name -/
def cApp (n : Nat) (sc : Scope) : Expr → Option SX
  | .Call (.Attribute (.Name x _) m ap) [a] [] cp => if m = "append" ∧ okNm x = true ∧ isVis sc x = true ∧ notSt a = true ∧ (ap.endLine == cp.line) = true then match idx x N, cE Z N n ⟨true, l, []⟩ sc a with
      | some i, some ea => some (.app i ea)
      | _, _ => none
    else none
  | _ => none
/-- raise X(e) -/
def cR (n : Nat) (sc : Scope) : Expr → Option SX
  | .Call (.Name x _) [e] [] _ => if isGlo sc x && okNm x && notSt e then match Z.cls.lookup x with
      | some c => match e with
        | .Constant (.str m) _ _ => some (.rais c m)
        | _ => match cE Z N n ⟨true, l, []⟩ sc e with
          | some ee => some (.rai c ee)
          | none => none
      | none => none
    else none
  | _ => none
mutual
def cS : Nat → Scope → Stmt → SX
  | 0, _, _ => .stk
  | n + 1, sc, st => match st with
    | .Assign [tg] v _ => getS (cA Z N l n sc tg v)
    | .AugAssign (.Name x _) op e _ => if okNm x && isSto ⟨true, l, []⟩ sc x && (op == .Add || op == .Sub) then match idx x N, cE Z N n ⟨true, l, []⟩ sc e with
        | some i, some ee => .aug i op ee
        | _, _ => .stk
      else .stk
    | .AugAssign (.Subscript (.Name x _) k _) op e _ => if okNm x && isVis sc x && (op == .Add || op == .Sub) && notSl k then match idx x N, cE Z N n ⟨true, l, []⟩ sc k, cE Z N n ⟨true, l, []⟩ sc e with
        | some i, some ek, some ee => .augs i ek op ee
        | _, _, _ => .stk
      else .stk
    | .Expr e _ => match cApp Z N l n sc e with
      | some s => s
      | none => if isLc e then .stk else match cE Z N n ⟨true, l, []⟩ sc e with
        | some ee => .expr ee
        | none => .stk
    | .Return (some e) _ => match cE Z N n ⟨true, l, []⟩ sc e with
      | some ee => .ret ee
      | none => .stk
    | .Return none _ => .ret (.con .non)
    | .If t a b _ => if notIf t then match cE Z N n ⟨true, l, []⟩ sc t with
        | some et => .ite et (cSs n sc a) (cSs n sc b)
        | none => .stk
      else .stk
    | .For tg it b [] _ => if notSet it then match cI Z N n ⟨true, l, []⟩ sc tg it, cT Z N n ⟨true, l, []⟩ sc tg with
        | some ei, some t => fz N sc (fzNames it) (.loop t ei (cSs n sc b))
        | _, _ => .stk
      else .stk
    | .While t b [] _ => if notIf t then match cE Z N n ⟨true, l, []⟩ sc t with
        | some et => .whl Z.fuel et (cSs n sc b)
        | none => .stk
      else .stk
    | .Raise (some e) none _ => getS (cR Z N l n sc e)
    | .Break _ => .brk
    | .Continue _ => .cnt
    | .Pass _ => .pass
    | _ => .stk
def cSs : Nat → Scope → List Stmt → SXs
  | 0, _, _ => .cons .stk .nil
  | _ + 1, _, [] => .nil
  | n + 1, sc, s :: ss => .cons (cS n sc s) (cSs n sc ss)
end
end
section
variable {Γ : Tbl} {Z : Nms} {G0 : Gl0} {cf : CF} {k : Nat} {N : List Str} {l : Bool} {X : Cx} {C : Cd} {sc : Scope}
theorem fz_ok {stm : Stmt} : ∀ (xs : List Str) {s : SX}, PS X stm (tS C (semS Γ cf s)) → PS X stm (tS C (semS Γ cf (fz N sc xs s)))
  | [], s, h => h
  | x :: xs, s, h => by
    unfold fz
    split
    · split
      · exact s_frz (fz_ok xs h)
      · exact fz_ok xs h
    · exact fz_ok xs h
/-- the parts of a comprehension -/
theorem lc_parts {n : Nat} {st : Md} {elt : Expr} {gs : List Comprehension} {scope : Scope} {pos : Pos} {ir : EX} (h : cE Z N (n + 1) st sc (.ListComp elt gs scope pos) = some ir) : ∃ tg iter ifs it tp ec ee, gs = [⟨tg, iter, ifs, 0⟩] ∧ notSet iter = true ∧ blkC N sc scope (blkOwn N scope) = true ∧
    cI Z N n st sc tg iter = some it ∧ cT Z N n ⟨false, st.l, ownC scope⟩ (relS scope sc) tg = some tp ∧ cC Z N n ⟨false, st.l, ownC scope⟩ (relS scope sc) ifs = some ec ∧ cE Z N n ⟨false, st.l, ownC scope⟩ (relS scope sc) elt = some ee ∧ tp.pu = true ∧ (∀ i ∈ tp.sl, i ∈ (blkOwn N scope).map (·.2)) ∧ ir = .lc tp it ((blkOwn N scope).map (·.2)) ec ee := by
  cases gs with
  | nil => simp only [cE] at h; cases h
  | cons g0 gs =>
    cases gs with
    | cons g1 gs => simp only [cE] at h; cases h
    | nil =>
      obtain ⟨tg, iter, ifs, asy⟩ := g0
      simp only [cE] at h
      split at h
      · rename_i ho
        obtain ⟨ha, ho1, ho2⟩ := ho
        subst ha
        split at h
        · rename_i it tp ec ee q1 q2 q3 q4
          split at h
          · rename_i hp
            obtain ⟨hp1, hp2⟩ := Bool.and_eq_true_iff.mp hp
            cases h
            exact ⟨tg, iter, ifs, it, tp, ec, ee, rfl, ho1, ho2, q1, q2, q3, q4, hp1, fun i hi => List.contains_iff_mem.mp (List.all_eq_true.mp hp2 i hi), rfl⟩
          · cases h
        · cases h
      · cases h
theorem sub_notNm {n : Nat} {st : Md} {o i : Expr} {p : Pos} {t : TP} (h : cT Z N n st sc (.Subscript o i p) = some t) : isNm t = false := by
  cases n with
  | zero => simp only [cT] at h; cases h
  | succ n =>
    cases o <;> first | (simp only [cT] at h; cases h; done) | skip
    simp only [cT] at h
    split at h
    · split at h
      · cases h; rfl
      · cases h
    · cases h
theorem tu_notNm {n : Nat} {st : Md} {es : List Expr} {kk : Nat} {p : Pos} {t : TP} (h : cT Z N n st sc (.Tuple es kk p) = some t) : isNm t = false := by
  cases n with
  | zero => simp only [cT] at h; cases h
  | succ n =>
    simp only [cT] at h
    split at h
    · split at h
      · split at h
        · cases h; rfl
        · cases h
      · cases h
    · cases h
/-- a place in a def's body -/
structure CtxS (X : Cx) (C : Cd) (Γ : Tbl) (Z : Nms) (G0 : Gl0) (cf : CF) (k : Nat) (N : List Str) (l : Bool) (sc : Scope) : Prop where
  c : Ctx X C Γ Z G0 cf k N ⟨true, l, []⟩ sc
  po : PassesOwn (model X.prog X.w) X.A X.env X.xe
  fk : isFnK sc = true
theorem CtxS.kind (c : CtxS X C Γ Z G0 cf k N l sc) : X.env.scope.kind = .function := by
  rw [c.c.sc]
  exact isFnK_ok c.fk
theorem CtxS.tgt (c : CtxS X C Γ Z G0 cf k N l sc) {n : Nat} {e : Expr} {t : TP} (h : cT Z N n ⟨true, l, []⟩ sc e = some t) : Tgt X C Γ cf e t := ⟨fun B => ((sound n (c.c.toB B)).t e t h).1, ((sound n c.c).t e t h).2⟩
theorem CtxS.tgts (c : CtxS X C Γ Z G0 cf k N l sc) : ∀ {n : Nat} {es : List Expr} {ts : TPs}, cTs Z N n ⟨true, l, []⟩ sc es = some ts → noStars es = true → PGs X es (gR C (asgTs Γ cf ts))
  | 0, es, ts, h, _ => by simp only [cTs] at h; cases h
  | n + 1, [], ts, h, _ => by simp only [cTs] at h; cases h; exact gr_nil
  | n + 1, e :: es, ts, h, hs => by
    simp only [cTs] at h
    cases q1 : cT Z N n ⟨true, l, []⟩ sc e with
    | none => rw [q1] at h; cases h
    | some x =>
      cases q2 : cTs Z N n ⟨true, l, []⟩ sc es with
      | none => rw [q1, q2] at h; cases h
      | some xs =>
        rw [q1, q2] at h
        cases h
        exact gr_cons (c.tgt q1) (c.tgts q2 (noStars_tl hs)) hs
theorem asg_ok (c : CtxS X C Γ Z G0 cf k N l sc) {n : Nat} {tg v : Expr} {s : SX} {pos : Pos} (h : cA Z N l n sc tg v = some s) : PS X (.Assign [tg] v pos) (tS C (semS Γ cf s)) := by
  have A := sound n c.c
  have other : ∀ {t : TP} {ev : EX}, cT Z N n ⟨true, l, []⟩ sc tg = some t → cE Z N n ⟨true, l, []⟩ sc v = some ev → isNm t = false → (∀ x p, tg ≠ .Name x p) → swappedStores [tg] v X.env = pure none → (assignEach [tg] X.env).map (·.2) = [assign tg X.env] → PS X (.Assign [tg] v pos) (tS C (semS Γ cf (.asg t ev))) := fun {t ev} h1 h2 h3 h4 h5 h6 =>
    s_tg (A.t tg t h1).1 h3 (A.e v ev h2).pe (sw_not h4) h5 h6
  cases tg <;> first | (simp only [cA] at h; cases h; done) | skip
  · rename_i o i p
    simp only [cA] at h
    cases q1 : cT Z N n ⟨true, l, []⟩ sc (.Subscript o i p) with
    | none => rw [q1] at h; cases h
    | some t =>
      cases q2 : cE Z N n ⟨true, l, []⟩ sc v with
      | none => rw [q1, q2] at h; cases h
      | some ev =>
        rw [q1, q2] at h
        cases h
        exact other q1 q2 (sub_notNm q1) (fun x p z => by cases z) (sw_none (fun _ _ _ z => by cases z) fun _ _ z => by cases z) rfl
  · rename_i x px
    simp only [cA] at h
    split at h
    · rename_i ho
      obtain ⟨h1, h2⟩ := Bool.and_eq_true_iff.mp ho
      split at h
      · rename_i i ev q1 q2
        split at h
        · rename_i hs
          cases h
          have hi : X.N[i]? = some x := by rw [c.c.n]; exact idx_get q1
          obtain ⟨e1, e2⟩ := isSto_ok c.c h2
          have esw : ∀ l, swapsWith v (some (.Name x px)) l X.env = pure (swB sc v x px) := fun l => by
            rw [← c.c.sc]
            exact swB_ok c.kind
          cases hb : swB sc v x px with
          | false => exact s_nm c.c.nd hi e1 (A.e v ev q2).pe (by rw [esw, hb]) e2
          | true =>
            rw [hb] at hs
            simp only [Bool.not_true, Bool.false_or, Bool.and_eq_true] at hs
            obtain ⟨hl, hx⟩ := hs
            cases v <;> first | (cases hl; done) | skip
            rename_i elt gs scope lpos
            cases n with
            | zero => simp only [cE] at q2; cases q2
            | succ n =>
              obtain ⟨tg, iter, ifs, it, tp, ec, ee, rfl, p1, p2, p3, p4, p5, p6, p7, p8, rfl⟩ := lc_parts q2
              have B := sound n c.c
              exact s_lc c.c.calm c.c.nd (B.i tg iter it p3) (by rw [c.c.n, c.c.sc]; exact blkC_own p2) rfl p8 p7 (fun B s H a cl fp => ((sound n (c.c.blk B s H scope cl a fp)).t tg tp p4).1) (fun B s H a cl fp => (sound n (c.c.blk B s H scope cl a fp)).c ifs ec p5) (fun B s H a cl fp => ((sound n (c.c.blk B s H scope cl a fp)).e elt ee p6).pe) (notSet_ok p1) hi (by rw [c.c.sc]; exact isLocal_ok hx) (by rw [esw, hb])
        · cases h
      · cases h
    · cases h
  · rename_i ts kk pt
    have gen : ∀ ir, (match cT Z N n ⟨true, l, []⟩ sc (.Tuple ts kk pt), cE Z N n ⟨true, l, []⟩ sc v with
      | some t, some ev => some (SX.asg t ev)
      | _, _ => none) = some ir → (∀ ts k p, v ≠ .Tuple ts k p) → PS X (.Assign [.Tuple ts kk pt] v pos) (tS C (semS Γ cf ir)) := fun ir h hv => by
      cases q1 : cT Z N n ⟨true, l, []⟩ sc (.Tuple ts kk pt) with
      | none => rw [q1] at h; cases h
      | some t =>
        cases q2 : cE Z N n ⟨true, l, []⟩ sc v with
        | none => rw [q1, q2] at h; cases h
        | some ev =>
          rw [q1, q2] at h
          cases h
          exact other q1 q2 (tu_notNm q1) (fun x p z => by cases z) (sw_none2 hv) rfl
    cases v <;> first | (simp only [cA] at h; exact gen s h fun _ _ _ z => by cases z) | skip
    rename_i vs k2 pv
    simp only [cA] at h
    have esw : ∀ r, swT (fun x => sc.names.lookup x) ts vs = some r → swappedStores [.Tuple ts kk pt] (.Tuple vs k2 pv) X.env = pure r := fun r e => swT_ok c.kind (by
      have : X.env.kindOf = fun x => sc.names.lookup x := by
        funext x
        show X.env.scope.names.lookup x = _
        rw [c.c.sc]
      rw [this]
      exact e)
    split at h
    · rename_i tps evs q0 q1 q2
      split at h
      · rename_i hh
        simp only [Bool.and_eq_true, decide_eq_true_eq] at hh
        obtain ⟨⟨h1, h2⟩, h3⟩ := hh
        cases h
        exact s_set c.c.calm (A.es vs evs q2) (c.tgts q1 h1) h1 h2 (Nat.le_trans h3 (by decide)) (esw _ q0)
      · cases h
    · rename_i nms tps evs q0 q1 q2
      split at h
      · rename_i x px y py e1 e2 x' y'
        split at h
        · rename_i i j i1 i2
          split at h
          · rename_i hh
            simp only [Bool.and_eq_true, decide_eq_true_eq] at hh
            obtain ⟨⟨⟨⟨rfl, rfl⟩, h3⟩, h4⟩, h5⟩ := hh
            cases h
            exact s_set2 c.c.calm c.c.nd (by rw [c.c.n]; exact idx_get i1) (by rw [c.c.n]; exact idx_get i2) h3 (by rw [c.c.sc]; exact isLocal_ok h4) (by rw [c.c.sc]; exact isLocal_ok h5) (A.es _ evs q2) (esw _ q0)
          · cases h
        · cases h
      · rename_i x px y py z pz e1 e2 e3 x' y' z'
        split at h
        · rename_i i j l i1 i2 i3
          split at h
          · rename_i hh
            simp only [Bool.and_eq_true, decide_eq_true_eq] at hh
            obtain ⟨⟨⟨⟨⟨⟨⟨⟨rfl, rfl⟩, rfl⟩, h3⟩, h4⟩, h5⟩, h6⟩, h7⟩, h8⟩ := hh
            cases h
            exact s_set3 c.c.calm c.c.nd (by rw [c.c.n]; exact idx_get i1) (by rw [c.c.n]; exact idx_get i2) (by rw [c.c.n]; exact idx_get i3) h3 h4 h5 (by rw [c.c.sc]; exact isLocal_ok h6) (by rw [c.c.sc]; exact isLocal_ok h7) (by rw [c.c.sc]; exact isLocal_ok h8) (A.es _ evs q2) (esw _ q0)
          · cases h
        · cases h
      · cases h
    · cases h
theorem app_ok (c : CtxS X C Γ Z G0 cf k N l sc) {n : Nat} {e : Expr} {s : SX} {pos : Pos} (h : cApp Z N l n sc e = some s) : PS X (.Expr e pos) (tS C (semS Γ cf s)) := by
  have A := sound n c.c
  unfold cApp at h
  split at h
  · rename_i x px m ap a cp
    split at h
    · rename_i hh
      obtain ⟨rfl, h1, h2, h3, h4⟩ := hh
      split at h
      · rename_i i ea q1 q2
        cases h
        exact s_app (by rw [c.c.n]; exact idx_get q1) (by rw [c.c.sc]; exact isVis_ok h2) (okNm_ok h1).1 (okNm_ok h1).2 (ds_cons (A.e a ea q2).pe (fun B => ds_nil) (star_cons h3)) (star_cons h3) h4
      · cases h
    · cases h
  · cases h
theorem expr_sw {e : Expr} {l : Nat} {env : Env} (h : isLc e = false) (h2 : ∀ a b c d, e ≠ .SetComp a b c d) (h3 : ∀ a b c d f, e ≠ .DictComp a b c d f) : swapsWith e none l env = pure false := by
  cases e <;> first | rfl | exact absurd rfl (h2 _ _ _ _) | exact absurd rfl (h3 _ _ _ _ _) | (cases h; done)
theorem cE_noSet {n : Nat} {st : Md} {a : Expr} {b : List Comprehension} {s : Scope} {p : Pos} {ir : EX} (h : cE Z N n st sc (.SetComp a b s p) = some ir) : False := by
  cases n <;> (simp only [cE] at h; cases h)
theorem cE_noDct {n : Nat} {st : Md} {a a' : Expr} {b : List Comprehension} {s : Scope} {p : Pos} {ir : EX} (h : cE Z N n st sc (.DictComp a a' b s p) = some ir) : False := by
  cases n <;> (simp only [cE] at h; cases h)
/-- raise X('..'), X without a making of its own -/
theorem s_raiT {bmB : List Value} {B newId initId : String} {x m : Str} {cc j : Nat} {p p2 pos pos2 : Pos} (c : CtxS X C Γ Z G0 cf k N l sc) (F : ExcBaseFacts B newId initId bmB) (q : PySem.W.excIn X.K (C.G.cls cc) bmB newId = true) (gC : X.mg x = some (.ref (C.G.cls cc))) (kC : PySem.W.keepIn X.K (.ref (C.G.cls cc)) = true) (r : Raises X (.ref (C.G.cls cc))) (hg : Gl X x) (hdb : (x == ("__debug__" : Str)) = false) (hm : Γ.mkx cc = some []) :
    PS X (.Raise (some (.Call (.Name x p) [.Constant (.str m) j p2] [] pos)) none pos2) (tS C (semS Γ cf (.rais cc m))) := by
  refine ps_imp (L2.ps_raise c.c.calm c.c.tk (L2.pmk_own F q gC kC r hg hdb)) fun D0 σ H ⟨L, W, g, wr, h⟩ => ?_
  unfold semS at h
  simp only [hm] at h
  exact h _ none H g.entE wr ⟨rfl, [], .nil, rfl⟩
/-- raise X(e), X with a making that keeps the value: m is what is done -/
theorem s_raiI {x f : Str} {cc : Nat} {fI : Addr} {fd : FuncData} {ps : List Str} {e : Expr} {ee : EX} {p pos pos2 : Pos} (c : CtxS X C Γ Z G0 cf k N l sc) (T : OexC X.K (C.G.cls cc)) (iC : PySem.W.findIn X.K (.ref (C.G.cls cc)) "__init__" = some (some (.ref fI))) (tI : PySem.W.typeIn X.K (.ref fI) = some (.type "function"))
    (F1 : FnOk X.prog X.w X.K X.mg X.base (L2.CX X.prog X.w) k fI fd ps (spInit (C.G.cls cc) f)) (hb : Binds X.K fd ps []) (gC : X.mg x = some (.ref (C.G.cls cc))) (hg : Gl X x) (hdb : (x == ("__debug__" : Str)) = false) (hs : notSt e = true) (he : PE X e (tD C (semE Γ cf ee))) :
    PS X (.Raise (some (.Call (.Name x p) [e] [] pos)) none pos2) (tS C fun L W => (semE Γ cf ee L W).bind fun x W1 => if isScal x.1 then .err (cc, [(f, x.1)]) W1 else .stk) := by
  refine ps_imp (L2.ps_raise c.c.calm c.c.tk (pmk_oex T iC tI F1 c.c.room hb .nil (passes_call c.c.tk fun _ _ _ _ z => z.elim) hg gC (pa_cons he pa_nil (star_cons hs)) hdb (star_cons hs) rfl)) fun D0 σ H ⟨L, W, g, wr, h⟩ => ?_
  refine ⟨L, W, g, wr, postS_e g h fun r W1 v H1 _ p1 wr1 rx h => ?_⟩
  split at h
  · rename_i hsc
    refine ⟨by show 1 ≤ 1000; decide, fun a ha => ⟨a, v, rfl, upd_same, fun d hd => ?_⟩⟩
    have hda : d ≠ a := fun z => by rw [z, upd_same] at hd; cases hd
    have hd1 : H1 d = none := by rw [upd_ne hda] at hd; exact hd
    refine ⟨rfl, d, [(f, v)], (upd_ne (Ne.symm hda)).trans upd_same, upd_same, hd1, ?_⟩
    have at_ : ∀ b, b ≠ a → b ≠ d → upd (L2.del (upd (upd (upd H1 a (exo a (C.G.cls cc) none)) a (exo a (C.G.cls cc) (some d))) d (exd d [(f, v)])) a) d (.xd [(f, v)]) b = H1 b := fun b h1 h2 => by
      rw [upd_ne h2, L2.del_ne h1, upd_ne h2, upd_ne h1, upd_ne h1]
    have sm : Same H1 (upd (L2.del (upd (upd (upd H1 a (exo a (C.G.cls cc) none)) a (exo a (C.G.cls cc) (some d))) d (exd d [(f, v)])) a) d (.xd [(f, v)])) := fun b o e => (at_ b (fun z => by rw [z, ha] at e; cases e) (fun z => by rw [z, hd1] at e; cases e)).trans e
    refine h _ (some d) _ (g.entE.trans (p1.trans (same_pst sm))) (wr1.same sm) ⟨rfl, [(f, v)], .cons (Rep.scal rx.any hsc) .nil, g.none_H0 (none_back p1 hd1), upd_same⟩
  · exact h.elim
theorem rais_ok (c : CtxS X C Γ Z G0 cf k N l sc) (hk : 1 ≤ k) {x m : Str} {cc j : Nat} {p p2 pos pos2 : Pos} (hl : Z.cls.lookup x = some cc) (hg : Gl X x) (hdb : (x == ("__debug__" : Str)) = false) :
    PS X (.Raise (some (.Call (.Name x p) [.Constant (.str m) j p2] [] pos)) none pos2) (tS C (semS Γ cf (.rais cc m))) := by
  have ecl := c.c.cl
  have q := c.c.tab.rai cc
  have gC := c.c.tab.cls x cc hl
  rw [← ecl] at gC
  cases e : Γ.mkx cc with
  | none =>
    refine ps_imp (s_stk (C := C) (Γ := Γ) (cf := cf)) fun D0 σ H ⟨L, W, g, wr, h⟩ => ?_
    unfold semS at h
    simp only [e] at h
    exact h.elim
  | some fs =>
    cases fs with
    | nil =>
      rw [e, ← ecl] at q
      obtain ⟨q1, q2, q3, q4⟩ := q
      exact s_raiT c PySem.F.excBase_ValueError q1 gC q2 (raises_own q3 q4) hg hdb e
    | cons f fs =>
      cases fs with
      | cons _ _ => rw [e] at q; exact q.elim
      | nil =>
        rw [e, ← ecl] at q
        obtain ⟨T, fI, fd, ps, h1, h2, h3, h4⟩ := q
        have he : PE X (.Constant (.str m) j p2) (tD C (semE Γ cf (.con (.str m)))) := d_con pe_str fun S H => .str m
        refine ps_imp (s_raiI (f := f) c T h1 h2 (h4.mono hk) h3 gC hg hdb rfl he) fun D0 σ H ⟨L, W, g, wr, h⟩ => ⟨L, W, g, wr, ?_⟩
        unfold semS at h
        simp only [e] at h
        unfold semE
        exact h
theorem rai_ok (c : CtxS X C Γ Z G0 cf k N l sc) (hk : 1 ≤ k) {x : Str} {cc : Nat} {e : Expr} {ee : EX} {p pos pos2 : Pos} (hl : Z.cls.lookup x = some cc) (hg : Gl X x) (hdb : (x == ("__debug__" : Str)) = false) (hs : notSt e = true) (he : PE X e (tD C (semE Γ cf ee))) :
    PS X (.Raise (some (.Call (.Name x p) [e] [] pos)) none pos2) (tS C (semS Γ cf (.rai cc ee))) := by
  have ecl := c.c.cl
  have q := c.c.tab.rai cc
  have gC := c.c.tab.cls x cc hl
  rw [← ecl] at gC
  cases em : Γ.mkx cc with
  | none =>
    refine ps_imp (s_stk (C := C) (Γ := Γ) (cf := cf)) fun D0 σ H ⟨L, W, g, wr, h⟩ => ?_
    unfold semS at h
    simp only [em] at h
    exact h.elim
  | some fs =>
    cases fs with
    | nil =>
      refine ps_imp (s_stk (C := C) (Γ := Γ) (cf := cf)) fun D0 σ H ⟨L, W, g, wr, h⟩ => ?_
      unfold semS at h
      simp only [em] at h
      exact h.elim
    | cons f fs =>
      cases fs with
      | cons _ _ => rw [em] at q; exact q.elim
      | nil =>
        rw [em, ← ecl] at q
        obtain ⟨T, fI, fd, ps, h1, h2, h3, h4⟩ := q
        refine ps_imp (s_raiI (f := f) c T h1 h2 (h4.mono hk) h3 gC hg hdb hs he) fun D0 σ H ⟨L, W, g, wr, h⟩ => ⟨L, W, g, wr, ?_⟩
        unfold semS at h
        simp only [em] at h
        exact h
theorem soundS (hk1 : 1 ≤ k) : ∀ (n : Nat) {X : Cx} {C : Cd} {sc : Scope}, CtxS X C Γ Z G0 cf k N l sc → (∀ st, PS X st (tS C (semS Γ cf (cS Z N l n sc st)))) ∧ ∀ sts, PSs X sts (tS C (semSs Γ cf (cSs Z N l n sc sts))) := by
  intro n
  induction n with
  | zero =>
    intro X C sc c
    refine ⟨fun st => by simp only [cS]; exact s_stk, fun sts => ?_⟩
    simp only [cSs]
    refine pss_imp pss_never fun D0 σ H ⟨L, W, g, wr, h⟩ => ?_
    unfold semSs semS at h
    exact h.elim
  | succ n ih =>
    intro X C sc c
    obtain ⟨ih1, ih2⟩ := ih c
    have A := sound n c.c
    refine ⟨fun st => ?_, fun sts => ?_⟩
    · cases st with
      | Assign tgs v pos =>
        cases tgs with
        | nil => simp only [cS]; exact s_stk
        | cons tg tgs =>
          cases tgs with
          | cons t2 tgs => simp only [cS]; exact s_stk
          | nil =>
            simp only [cS]
            cases q : cA Z N l n sc tg v with
            | none => exact s_stk
            | some s => exact asg_ok c q
      | AugAssign tg op e pos =>
        cases tg <;> first | (simp only [cS]; exact s_stk) | skip
        · rename_i o i p
          cases o <;> first | (simp only [cS]; exact s_stk) | skip
          rename_i x px
          simp only [cS]
          split
          · rename_i ho
            simp only [Bool.and_eq_true, Bool.or_eq_true, beq_iff_eq] at ho
            obtain ⟨⟨⟨h1, h2⟩, h3⟩, h4⟩ := ho
            split
            · rename_i j ek ee q1 q2 q3
              exact s_augs h3 c.c.K c.c.w (by rw [c.c.n]; exact idx_get q1) (by rw [c.c.sc]; exact isVis_ok h2) (okNm_ok h1).1 (okNm_ok h1).2 (A.e i ek q2).pe h4 (A.e e ee q3).pe
            · exact s_stk
          · exact s_stk
        · rename_i x px
          simp only [cS]
          split
          · rename_i ho
            simp only [Bool.and_eq_true, Bool.or_eq_true, beq_iff_eq] at ho
            obtain ⟨⟨h1, h2⟩, h3⟩ := ho
            split
            · rename_i j ee q1 q3
              obtain ⟨e1, e2⟩ := isSto_ok c.c h2
              exact s_aug h3 c.c.nd (by rw [c.c.n]; exact idx_get q1) e1 (A.e e ee q3).pe e2
            · exact s_stk
          · exact s_stk
      | Expr e pos =>
        simp only [cS]
        cases q : cApp Z N l n sc e with
        | some s => exact app_ok c q
        | none =>
          simp only
          split
          · exact s_stk
          · rename_i hl
            cases q2 : cE Z N n ⟨true, l, []⟩ sc e with
            | none => exact s_stk
            | some ee =>
              refine s_expr (A.e e ee q2).pe (expr_sw (by simpa using hl) (fun a b cc d z => ?_) fun a b cc d f z => ?_)
              · subst z; exact cE_noSet q2
              · subst z; exact cE_noDct q2
      | Return v pos =>
        cases v with
        | none =>
          simp only [cS]
          refine ps_imp ps_retN fun D0 σ H ⟨L, W, g, wr, h⟩ => ?_
          unfold semS semE at h
          exact h .non H g.entE wr .non
        | some e =>
          simp only [cS]
          cases q : cE Z N n ⟨true, l, []⟩ sc e with
          | none => exact s_stk
          | some ee => exact s_ret (A.e e ee q).pe
      | If t a b pos =>
        simp only [cS]
        split
        · rename_i hn
          cases q : cE Z N n ⟨true, l, []⟩ sc t with
          | none => exact s_stk
          | some et => exact s_if ((A.e t et q).pt hn) (ih2 a) (ih2 b)
        · exact s_stk
      | For tg it b els pos =>
        cases els with
        | cons e es => simp only [cS]; exact s_stk
        | nil =>
          simp only [cS]
          split
          · rename_i hn
            cases q1 : cI Z N n ⟨true, l, []⟩ sc tg it with
            | none => exact s_stk
            | some ei =>
              cases q2 : cT Z N n ⟨true, l, []⟩ sc tg with
              | none => exact s_stk
              | some t => exact fz_ok _ (s_loop c.po c.c.calm (A.i tg it ei q1) (A.t tg t q2).1 (ih2 b) (notSet_ok hn))
          · exact s_stk
      | While t b els pos =>
        cases els with
        | cons e es => simp only [cS]; exact s_stk
        | nil =>
          simp only [cS]
          split
          · rename_i hn
            cases q : cE Z N n ⟨true, l, []⟩ sc t with
            | none => exact s_stk
            | some et => exact s_whl c.po ((A.e t et q).pt hn) (ih2 b)
          · exact s_stk
      | Raise ex cs pos =>
        cases ex with
        | none => simp only [cS]; exact s_stk
        | some e =>
          cases cs with
          | some e2 => simp only [cS]; exact s_stk
          | none =>
            simp only [cS]
            cases q : cR Z N l n sc e with
            | none => exact s_stk
            | some s =>
              unfold cR at q
              split at q
              · rename_i x px e1 pc
                split at q
                · rename_i ho
                  simp only [Bool.and_eq_true] at ho
                  obtain ⟨⟨h1, h2⟩, h3⟩ := ho
                  split at q
                  · rename_i cc q1
                    split at q
                    · cases q
                      exact rais_ok c hk1 q1 (isGlo_ok c.c.sc h1) (okNm_ok h2).1
                    · split at q
                      · rename_i ee q2
                        cases q
                        exact rai_ok c hk1 q1 (isGlo_ok c.c.sc h1) (okNm_ok h2).1 h3 (A.e e1 ee q2).pe
                      · cases q
                  · cases q
                · cases q
              · cases q
      | Break pos => simp only [cS]; exact s_brk
      | Continue pos => simp only [cS]; exact s_cnt
      | Pass pos => simp only [cS]; exact s_pass
      | _ => simp only [cS]; exact s_stk
    · cases sts with
      | nil => simp only [cSs]; exact ss_nil
      | cons s ss => simp only [cSs]; exact ss_cons (ih1 s) (ih2 ss)
end
end Dl

set_option maxRecDepth 100000
set_option maxHeartbeats 4000000
/-! D29: the making of an instance, by its text. -/
namespace Dl
open PySem PySem.Spec PyProof.Rows L2
def isCmp : Expr → Bool
  | .ListComp _ _ _ _ => true
  | .SetComp _ _ _ _ => true
  | .DictComp _ _ _ _ _ => true
  | .GeneratorExp _ _ _ _ => true
  | _ => false
def slf (N : List Str) (sc : Scope) : Expr → Bool
  | .Name x _ => decide (idx x N = some 0) && isVis sc x && okNm x
  | _ => false
def cIs (Z : Nms) (N : List Str) (l : Bool) (n : Nat) (sc : Scope) : List Stmt → Option (List IS)
  | [] => some []
  | .Expr e _ :: r => if isCmp e then none else match cE Z N n ⟨true, l, []⟩ sc e, cIs Z N l n sc r with
    | some ee, some rr => some (.ex ee :: rr)
    | _, _ => none
  | .Assign [.Attribute o f _] v _ :: r => if slf N sc o && !isCmp v then match cE Z N n ⟨true, l, []⟩ sc v, cIs Z N l n sc r with
      | some ee, some rr => some (.st f ee :: rr)
      | _, _ => none
    else none
  | _ => none
theorem sw_attr {v o : Expr} {f : Str} {p : Pos} {l : Nat} {env : Env} (h : isCmp v = false) : swapsWith v (some (.Attribute o f p)) l env = pure false := by
  cases v <;> first | rfl | (cases h; done)
theorem sw_none' {v : Expr} {l : Nat} {env : Env} (h : isCmp v = false) : swapsWith v none l env = pure false := by
  cases v <;> first | rfl | (cases h; done)
section
variable {Γ : Tbl} {Z : Nms} {G0 : Gl0} {cf : CF} {k : Nat} {N : List Str} {l : Bool} {X : Cx} {C : Cd} {sc : Scope} {H H' H1 : Hp} {σ : L2.St} {L : Lcl} {v : V}
/-- what is wanted behind a making -/
def postI (C : Cd) (x dx : Addr) (c : Nat) (D0 : Ends) (σ : L2.St) : Rs (List (Str × D)) → Prop
  | .ok fs W' => ∀ H' vfs, PstE C.G C.H0 H' → WR C.G H' W' → H' x = some (.ins (C.G.cls c) dx vfs) → RepF C.w C.G C.B H' vfs fs → D0.nx σ H'
  | .err e W' => ∀ cls d H', PstE C.G C.H0 H' → WR C.G H' W' → ExR C.w C.G C.H0 H' cls d e → C.E cls d H'
  | .stk => False
structure InI (C : Cd) (x dx : Addr) (c : Nat) (σ : L2.St) (H : Hp) (L : Lcl) (fs : List (Str × D)) (W : Wd) : Prop where
  g : Good C σ H L
  wr : WR C.G H W
  b : C.B x
  n : C.H0 x = none
  t : ¬ TN C.G.T x
  s : σ[0]? = some (some (.ref x))
  at_ : ∃ vfs, H x = some (.ins (C.G.cls c) dx vfs) ∧ RepF C.w C.G (SO C σ L) H vfs fs
def tIS (C : Cd) (x dx : Addr) (c : Nat) (m : Lcl → List (Str × D) → Wd → Rs (List (Str × D))) : TS := fun D0 σ H => ∃ L fs W, InI C x dx c σ H L fs W ∧ postI C x dx c D0 σ (m L fs W)
theorem RepF.len {w : World} {G : Gl0} {S : Addr → Prop} : ∀ {v : List (Str × V)} {d : List (Str × D)}, RepF w G S H v d → v.length = d.length
  | _, _, .nil => rfl
  | _, _, .cons _ t => by rw [List.length_cons, List.length_cons, RepF.len t]
theorem RepF.put {w : World} {G : Gl0} {S : Addr → Prop} {f : Str} {y : V} {d : D} (r : Rep w G S H y d) : ∀ {v : List (Str × V)} {ds : List (Str × D)}, RepF w G S H v ds → RepF w G S H (L2.putF f y v) (putFd f d ds)
  | _, _, .nil => .cons r .nil
  | _, _, .cons (n := n) (x := x) (d := d') (xs := xs) (ds := ds') h t => by
    show RepF w G S H (if n = f then (n, y) :: xs else (n, x) :: L2.putF f y xs) (if n = f then (n, d) :: ds' else (n, d') :: putFd f d ds')
    by_cases e : n = f
    · rw [if_pos e, if_pos e]
      exact .cons r t
    · rw [if_neg e, if_neg e]
      exact .cons h (RepF.put r t)
/-- the state behind a store to what is barred -/
theorem Good.barred {x : Addr} {o u : HO} (g : Good C σ H L) (b : C.B x) (n : C.H0 x = none) (e : H x = some u) : Good C σ (upd H x o) L ∧ Pst (SO C σ L) H (SO C σ L) (upd H x o) := by
  have ps : Pst (SO C σ L) H (SO C σ L) (upd H x o) := fun a q ea hs _ => by
    have : a ≠ x := fun z => hs (by rw [z]; exact .inl b)
    exact ⟨by rw [upd_ne this]; exact ea, hs⟩
  have dm : ∀ a, H a ≠ none → upd H x o a ≠ none := fun a ha => by
    by_cases z : a = x
    · rw [z, upd_same]; simp
    · rw [upd_ne z]; exact ha
  exact ⟨{
    len := g.len
    val := fun i d h => let ⟨v, p, q⟩ := g.val i d h; ⟨v, p, rep_pst ps q⟩
    own := fun i d h => by
      obtain ⟨a, p, q, r⟩ := g.own i d h
      have na : a ≠ x := fun z => q (by rw [z]; exact b)
      refine ⟨a, p, q, ownAt_by (fun b' u' e' hs ht => ?_) (fun o' e' _ => by rw [upd_ne na]; exact e') r⟩
      obtain ⟨q1, _⟩ := ps b' u' e' (fun z => hs (.inl z)) ht
      exact ⟨q1, hs⟩
    inj := g.inj
    dom := fun a z => dm a (g.dom a z)
    tn := g.tn
    ent := fun a q ea hs ht => by
      obtain ⟨h1, h2⟩ := g.ent a q ea hs ht
      have : a ≠ x := fun z => by rw [z, n] at ea; cases ea
      exact ⟨by rw [upd_ne this]; exact h1, h2⟩
    edom := fun a z => dm a (g.edom a z) }, ps⟩
theorem InI.pst {x dx : Addr} {c : Nat} {fs : List (Str × D)} {W W1 : Wd} (i : InI C x dx c σ H L fs W) (p : PstE C.G H H1) (wr : WR C.G H1 W1) : InI C x dx c σ H1 L fs W1 :=
  ⟨i.g.pst p, wr, i.b, i.n, i.t, i.s, by
    obtain ⟨vfs, h1, h2⟩ := i.at_
    exact ⟨vfs, (p.1 x _ h1 i.t (fun z => z)).1, repF_pst (pstE_to i.g.tnS p) h2⟩⟩
theorem InI.put {x dx : Addr} {c : Nat} {fs : List (Str × D)} {W : Wd} {f : Str} {y : V} {d : D} (i : InI C x dx c σ H L fs W) (r : Rep C.w C.G (SO C σ L) H y d) {vfs : List (Str × V)} (h1 : H x = some (.ins (C.G.cls c) dx vfs)) (h2 : RepF C.w C.G (SO C σ L) H vfs fs) : InI C x dx c σ (upd H x (.ins (C.G.cls c) dx (L2.putF f y vfs))) L (putFd f d fs) W := by
  obtain ⟨g1, ps⟩ := i.g.barred (o := .ins (C.G.cls c) dx (L2.putF f y vfs)) i.b i.n h1
  refine ⟨g1, i.wr.upd i.t ⟨_, h1, fun z => z, fun q z => by unfold LamX.CodeO at z; cases z⟩, i.b, i.n, i.t, i.s, _, upd_same, repF_pst ps (RepF.put r h2)⟩
theorem ini_body (hcl : ∀ c, Γ.isIns c = true → Cls X.K (C.G.cls c)) (hno : ∀ c x, Γ.isIns c = true → Γ.fld c x = true → NoAttr X.K (C.G.cls c) x) {c : Nat} (hc : Γ.isIns c = true) (cx : CtxS X C Γ Z G0 cf k N l sc) {x dx : Addr} {n : Nat} : ∀ {sts : List Stmt} {body : List IS}, cIs Z N l n sc sts = some body → (body.all fun s => match s with | .st f _ => Γ.fld c f | _ => true) = true →
    PSs X sts (tIS C x dx c (iniD Γ cf body))
  | [], body, h, _ => by
    simp only [cIs] at h
    cases h
    refine pss_imp pss_nil fun D0 σ H ⟨L, fs, W, i, hp⟩ => ?_
    obtain ⟨vfs, h1, h2⟩ := i.at_
    exact hp H vfs i.g.entE i.wr h1 (repF_mono (fun b z => .inl z) h2)
  | s :: r, body, h, hf => by
    have A := sound n cx.c
    cases s <;> first | (simp only [cIs] at h; cases h; done) | skip
    · rename_i tgs v pos
      cases tgs with
      | nil => simp only [cIs] at h; cases h
      | cons tg tgs =>
        cases tgs with
        | cons t2 tgs => cases tg <;> (simp only [cIs] at h; cases h)
        | nil =>
          cases tg <;> first | (simp only [cIs] at h; cases h; done) | skip
          rename_i o f p'
          simp only [cIs] at h
          split at h
          · rename_i ho
            obtain ⟨h1, h2⟩ := Bool.and_eq_true_iff.mp ho
            have h2 : isCmp v = false := by simpa using h2
            cases q1 : cE Z N n ⟨true, l, []⟩ sc v with
            | none => rw [q1] at h; cases h
            | some ee =>
              cases q2 : cIs Z N l n sc r with
              | none => rw [q1, q2] at h; cases h
              | some rr =>
                rw [q1, q2] at h
                cases h
                rw [List.all_cons, Bool.and_eq_true] at hf
                have ih := ini_body hcl hno hc cx (x := x) (dx := dx) q2 hf.2
                cases o <;> first | (cases h1; done) | skip
                rename_i sx sp
                simp only [slf, Bool.and_eq_true, decide_eq_true_eq] at h1
                obtain ⟨⟨k1, k2⟩, k3⟩ := h1
                have hself : PE X (.Name sx sp) (tVar 0) := pe_var (by rw [cx.c.n]; exact idx_get k1) (by rw [cx.c.sc]; exact isVis_ok k2) (okNm_ok k3).1 (okNm_ok k3).2
                refine pss_imp (pss_cons (ps_fld hself (A.e v ee q1).pe (sw_attr h2)) ih) fun D0 σ H ⟨L, fs, W, i, hp⟩ => ?_
                have hp : postI C x dx c D0 σ ((semE Γ cf ee L W).bind fun v W1 => if notAli v.2 && decide (fs.length < 1000) then iniD Γ cf rr L (putFd f v.1 fs) W1 else .stk) := hp
                refine ⟨L, W, i.g, i.wr, ?_⟩
                cases e : semE Γ cf ee L W with
                | stk => rw [e] at hp; exact hp.elim
                | err z W1 => rw [e] at hp; exact fun cls d H1 p1 wr1 ex => hp cls d H1 (i.g.entE.trans p1) wr1 (ex.back i.g.entE)
                | ok z W1 =>
                  rw [e] at hp
                  intro y H1 p1 wr1 rv
                  have i1 := i.pst p1 wr1
                  have hp : postI C x dx c D0 σ (if notAli z.2 && decide (fs.length < 1000) then iniD Γ cf rr L (putFd f z.1 fs) W1 else .stk) := hp
                  split at hp
                  · rename_i hz
                    obtain ⟨z1, z2⟩ := Bool.and_eq_true_iff.mp hz
                    have rp := rv.rep i.g.dom (by
                      obtain ⟨zd, zf⟩ := z
                      cases zf <;> first | trivial | cases z1)
                    obtain ⟨vfs, a1, a2⟩ := i1.at_
                    exact ⟨.ref x, i1.s, x, C.G.cls c, dx, vfs, rfl, a1, hcl c hc, hno c f hc hf.1, by rw [a2.len]; exact of_decide_eq_true z2, L, _, W1, i1.put rp a1 a2, hp⟩
                  · exact hp.elim
          · cases h
    · rename_i e pos
      simp only [cIs] at h
      split at h
      · cases h
      · rename_i h2
        have h2 : isCmp e = false := by simpa using h2
        cases q1 : cE Z N n ⟨true, l, []⟩ sc e with
        | none => rw [q1] at h; cases h
        | some ee =>
          cases q2 : cIs Z N l n sc r with
          | none => rw [q1, q2] at h; cases h
          | some rr =>
            rw [q1, q2] at h
            cases h
            rw [List.all_cons, Bool.and_eq_true] at hf
            have ih := ini_body hcl hno hc cx (x := x) (dx := dx) q2 hf.2
            refine pss_imp (pss_cons (ps_expr (A.e e ee q1).pe (sw_none' h2)) ih) fun D0 σ H ⟨L, fs, W, i, hp⟩ => ?_
            have hp : postI C x dx c D0 σ ((semE Γ cf ee L W).bind fun _ W1 => iniD Γ cf rr L fs W1) := hp
            refine ⟨L, W, i.g, i.wr, ?_⟩
            cases e : semE Γ cf ee L W with
            | stk => rw [e] at hp; exact hp.elim
            | err z W1 => rw [e] at hp; exact fun cls d H1 p1 wr1 ex => hp cls d H1 (i.g.entE.trans p1) wr1 (ex.back i.g.entE)
            | ok z W1 =>
              rw [e] at hp
              intro y H1 p1 wr1 rv
              exact ⟨L, fs, W1, i.pst p1 wr1, hp⟩
end
end Dl
namespace Dl
open PySem PySem.Spec PyProof.Rows L2
section
variable {P : Program} {K : PySem.W.Frag} {mg : Str → Option Value} {base : Heap} {Γ : Tbl} {Z : Nms} {cf : CF} {w : World} {G0 : Gl0} {B : Addr → Prop} {H H0 : Hp} {vs : List V} {ds : List D} {l : Bool} {k : Nat}
theorem start_cons {n : Str} {N : List Str} {v : V} : L2.start (n :: N) (v :: vs) = some v :: L2.start N vs := by
  unfold L2.start
  simp
theorem ini_good {n0 : Str} {N : List Str} {E : XK} {x dx : Addr} {o : HO} (hB : ∀ a, TN G0.T a → B a) (hd : ∀ a, B a → H0 a ≠ none) (hx : H0 x = none) (hdx : H0 dx = none) (ne : dx ≠ x) (h : RepL w G0 B H0 vs ds) :
    Good ⟨w, G0, Plus B x, H0, E⟩ (L2.start (n0 :: N) (.ref x :: vs)) (upd (upd H0 dx (.own x)) x o) (none :: startL N.length ds) ∧ Same H0 (upd (upd H0 dx (.own x)) x o) := by
  have sm : Same H0 (upd (upd H0 dx (.own x)) x o) := fun a u e => by
    rw [upd_ne (ne_of_none e hx), upd_ne (ne_of_none e hdx)]
    exact e
  have noA : ∀ b, ¬ OA (L2.start (n0 :: N) (.ref x :: vs)) (none :: startL N.length ds) b := fun b ⟨i, d, e, _⟩ => by
    cases i with
    | zero => simp at e
    | succ i => exact start_own (N := N.length) (ds := ds) (i := i) (d := d) (by simpa using e)
  refine ⟨{
    len := by
      rw [start_cons, List.length_cons, List.length_cons]
      unfold L2.start startL
      rw [List.length_append, List.length_append, List.length_map, List.length_map, List.length_replicate, List.length_replicate, h.len]
    val := fun i d e => by
      cases i with
      | zero => simp at e
      | succ i =>
        obtain ⟨v, h1, h2⟩ := start_val (N := N) (i := i) (d := d) h (by simpa using e)
        refine ⟨v, by rw [start_cons]; simpa using h1, rep_pst (fun a u ea hs _ => ⟨sm a u ea, fun z => ?_⟩) h2⟩
        rcases z with (z | z) | z
        · exact hs z
        · rw [z, hx] at ea; cases ea
        · exact noA _ z
    own := fun i d e => by
      cases i with
      | zero => simp at e
      | succ i => exact (start_own (N := N.length) (ds := ds) (i := i) (d := d) (by simpa using e)).elim
    inj := fun i j d e a h1 => by
      cases i with
      | zero => simp at h1
      | succ i => exact (start_own (N := N.length) (ds := ds) (i := i) (d := d) (by simpa using h1)).elim
    dom := fun a z => by
      rcases z with (z | z) | z
      · obtain ⟨u, e⟩ := Option.ne_none_iff_exists'.mp (hd a z)
        rw [sm a u e]; simp
      · rw [z, upd_same]; simp
      · exact (noA _ z).elim
    tn := fun a z => .inl (hB a z)
    ent := fun a u e hs _ => ⟨sm a u e, fun z => by
      rcases z with z | z
      · exact hs z
      · exact noA _ z⟩
    edom := fun a z => by
      obtain ⟨u, e⟩ := Option.ne_none_iff_exists'.mp z
      rw [sm a u e]; simp }, sm⟩
def iniF (Γ : Tbl) (cf : CF) (c np nn : Nat) (body : List IS) : List D → Wd → Rs D := fun ds W => if ds.length = np then insR c (iniD Γ cf body (none :: startL nn ds) [] W) else .stk
/-- a making's promise, by its text -/
theorem ini_ok {x qual : Str} {st : Stmt} {f : Addr} {fd : FuncData} {n0 p0 : Str} {N ps : List Str} {body : List IS} {dvs : List V} {c n kk : Nat} (F : FunD K x qual (defArgs st) (defBody st) (defScope st) dvs [] f fd) (S : FnScope (n0 :: N) (p0 :: ps) (defScope st)) (hk : isFnK (defScope st) = true)
    (t : Tab P w K mg base Γ Z G0 cf kk) (hb : cIs Z (n0 :: N) l n (defScope st) (defBody st) = some body) (hc : Γ.isIns c = true) (hf : (body.all fun s => match s with | .st f _ => Γ.fld c f | _ => true) = true)
    (hctx : ∀ (cdv : Value) (A : Around) (outer : List Env) (s : Shared) (H : Hp) (E : XK) (C : Cd), C.w = w → C.G = { G0 with T := C.G.T } → C.E = E → fd.code = cdv → Room k (A.deeper (envOfC qual (defScope st) s.heap.objs.size f cdv)) →
      CtxS (cxOf (L2.CX P w) P w K mg base (n0 :: N) qual (defScope st) f cdv A outer s H E) C Γ Z G0 cf kk (n0 :: N) l (defScope st)) :
    FnOk P w K mg base (L2.CX P w) (k + 1) f fd (p0 :: ps) (spI w G0 c (iniF Γ cf c ps.length N.length body)) := by
  refine funD_ok F S (fun vs H Q E h => ?_) fun cdv A outer s H vs Q E hcd hr h => ?_
  · obtain ⟨T, B, ds, W, y, dx, H0, vs', rfl, _, _, _, _, _, _, rl, _, h⟩ := h
    unfold iniF at h
    by_cases e : ds.length = ps.length
    · rw [List.length_cons, List.length_cons, rl.len, e]
    · rw [if_neg e] at h
      exact h.elim
  · obtain ⟨T, B, ds, W, y, dx, H0, vs', rfl, hB, hd, hy, hdx, ne, rfl, rl, wr, h⟩ := h
    obtain ⟨g, sm⟩ := ini_good (n0 := n0) (N := N) (E := E) (o := .ins (G0.cls c) dx []) hB hd hy hdx ne rl
    refine ⟨_, ini_body (C := ⟨w, { G0 with T := T }, Plus B y, H0, E⟩) (x := y) (dx := dx) (fun c hc => t.icl c hc) (fun c x h1 h2 => t.fld c x h1 h2) hc (hctx cdv A outer s _ E ⟨w, { G0 with T := T }, Plus B y, H0, E⟩ rfl rfl rfl hcd hr) hb hf, ?_⟩
    unfold iniF at h
    by_cases e : ds.length = ps.length
    · rw [if_pos e] at h
      refine ⟨none :: startL N.length ds, [], W, ⟨g, wr.same sm, .inr rfl, hy, fun z => ?_, rfl, [], upd_same, .nil⟩, ?_⟩
      · exact hd y (hB y z) hy
      · cases q : iniD Γ cf body (none :: startL N.length ds) [] W with
        | stk => rw [q] at h; exact h.elim
        | err z W1 => rw [q] at h; exact h
        | ok fs W1 =>
          rw [q] at h
          intro H' vfs p1 wr1 h1 h2
          have nb : ¬ B y := fun z => hd y z hy
          exact h H' p1 wr1 (.ins nb h1 (repF_mono (fun b z => .inl z) h2))
    · rw [if_neg e] at h
      exact h.elim
end
end Dl

set_option maxRecDepth 100000
set_option maxHeartbeats 4000000
/-! D30: an error's making that says super().__init__(text), then keeps its value. -/
namespace Dl
open PySem PySem.Spec PyProof.Rows L2 PySem.W
/-- the text of such a making -/
structure SupTx (params : Arguments) (body : List Stmt) (scope : Scope) (f : Str) : Prop where
  pm : ∃ (p1 p2 : Pos), params = ⟨[], [⟨"self", none, p1⟩, ⟨f, none, p2⟩], none, [], [], none, []⟩
  tx : ∃ (m : Str) (j : Nat) (p1 p2 p3 p4 p5 p6 p7 p8 p9 p10 : Pos), (p3.endLine == p5.line) = true ∧ body = [.Expr (.Call (.Attribute (.Call (.Name "super" p1) [] [] p2) "__init__" p3) [.Constant (.str m) j p4] [] p5) p6, .Assign [.Attribute (.Name "self" p7) f p8] (.Name f p9) p10]
  ks : scope.names.lookup ("super" : Str) = some .globalImplicit
  kc : scope.names.lookup ("__class__" : Str) = some .free
  k0 : scope.names.lookup ("self" : Str) = some .local
  k1 : scope.names.lookup f = some .local
  nc : ∀ x ∈ scope.names, x.2 ≠ .cell
  kind : scope.kind = .function
  co : scope.isCoroutine = false
  gen : scope.isGenerator = false
  ne : ("self" : Str) ≠ f
  okf : okNm f = true
/-- what the written part says of it, for errors of the class at C -/
structure SupK (P : Program) (K : PySem.W.Frag) (fI C : Addr) (fd : FuncData) (f : Str) : Prop where
  ex : ∃ (oc : Value) (od : Option Addr) (osl : Array (Option Value)) (qual : Str) (params : Arguments) (body : List Stmt) (scope : Scope) (dV kV doc pm : Value) (an : Option Addr) (cda : Addr) (ct : Value) (cc D : Addr) (ccl cl : Value) (cdd cld : Option Addr) (vs : Array Value) (ccs csl : Array (Option Value)) (file : Str) (tf : Tok) (cdD : ClassData),
    fd = ksFn "__init__" qual params body scope dV kV doc pm an (.ref cda) ct cc ∧ K.lookup fI = some ⟨oc, od, .func fd, osl⟩ ∧ PySem.W.codeIn K (.ref cda) qual = true ∧ SupTx params body scope f ∧
    K.lookup cda = some ⟨ccl, cdd, .fields vs, ccs⟩ ∧ vs[2]? = some (.str file tf) ∧ ((P.main.file : Str) == file) = true ∧ K.lookup cc = some ⟨cl, cld, .cell (some (.ref D)), csl⟩ ∧ PySem.W.clsIn K D = some cdD ∧ PySem.W.mroIn K C (.ref D) = some true ∧
    ks_superIn K C D "__init__" = some (some (.builtin "ValueError.__init__"))
  top : (P.main.scope.names.lookup ("super" : Str)).isSome = false
  su : PySem.W.nsIn K mainGlobals "super" = some none
  th : PySem.W.nsIn K cStatics "thirdparty.any" = some none
  sv : PySem.W.subIn K (.ref C) (.type "ValueError") = some true
  xi : excInitIn K C veB "ValueError.__new__" = true
  fi : PySem.W.findIn K (.ref C) f = some none
theorem eval_meth1 {o ex : Expr} {name : Str} {apos pos : Pos} {env : Env} (hs : starEach [ex] env = (false, eval ex env) :: starEach [] env) (hl : (apos.endLine == pos.line) = true) : eval (.Call (.Attribute o name apos) [ex] [] pos) env = (do
      let ov ← attributeBase o name env (eval o env)
      standAt apos.atName
      let (f, first) ← holding [ov] (getMethod ov name (L2.plainOf o env))
      callWith pos f first (backTo pos (starEach [ex] env)) []) := by
  rw [arm_eval_Call]
  have e2 : ∀ ov, methodCall o name apos pos env ov ([ex].length + ([] : List Keyword).length) (backTo pos (starEach [ex] env)) (backToKw pos (keywordEach [] env)) = (do
      let (f, first) ← holding [ov] (getMethod ov name (L2.plainOf o env))
      callWith pos f first (backTo pos (starEach [ex] env)) []) := fun ov => L2.mcall_line (by rw [hs]; rfl) hl
  simp only [e2]
section
variable {P : Program} {w : World} {K : PySem.W.Frag} {mg : Str → Option Value} {base : Heap} {fI C : Addr} {fd : FuncData} {f : Str}
theorem sup_ini (S : SupK P K fI C fd f) (T : OexC K C) : FnOk P w K mg base (L2.CX P w) 1 fI fd ["self", f] (spInit C f) := by
  refine ⟨fun vs H Q E ⟨a, v, e, _⟩ => by rw [e]; rfl, fun A outer s H args us vs Q E hr e0 hbind rv h => ?_⟩
  obtain ⟨x, v, rfl, hx, hQ⟩ := h
  obtain ⟨u0, us', rfl⟩ : ∃ u0 us', us = u0 :: us' := by cases rv; exact ⟨_, _, rfl⟩
  cases rv with
  | cons r0 rv =>
    cases rv with
    | @cons _ u1 _ _ r1 rv =>
      cases rv
      obtain rfl : u0 = Value.ref x := r0
      obtain ⟨oc, od, osl, qual, params, body, scope, dV, kV, doc, pm, an, cda, ct, cc, D, ccl, cl, cdd, cld, cvs, ccs, csl, file, tf, cdD, rfl, lk, hcd, tx, lcd, hvs, hfile, lcc, hD, hsub, hsup⟩ := S.ex
      obtain ⟨pp1, pp2, rfl⟩ := tx.pm
      obtain ⟨m, j, p1, p2, p3, p4, p5, p6, p7, p8, p9, p10, hline, rfl⟩ := tx.tx
      have KX : K.In s.heap := e0.mod.kin.keeps fun b o e => (e0.bs b o e).1
      obtain ⟨t1, ho⟩ := exo_at e0.hok hx
      have nolim : s.heap.NoLimit := e0.mod.nolimit.keeps fun b o e => (e0.bs b o e).1
      refine ks_codeAny_call_defAt (fd := ksFn "__init__" qual _ _ scope dV kV doc pm an (.ref cda) ct cc) (binds := [("self", .ref x), (f, u1)]) hr.depth (KX _ _ lk) rfl nolim (PySem.W.codeRec_of KX hcd) rfl hbind tx.nc (fun y hy => ?_) (fun h₁ hns kp => ?_) tx.co tx.gen tx.kind
      · simp only [List.mem_cons, List.not_mem_nil, or_false] at hy
        rcases hy with rfl | rfl
        · exact tx.k0
        · exact tx.k1
      have hself : ([("self", Value.ref x), (f, u1)] : List (Str × Value)).reverse.lookup ("self" : Str) = some (.ref x) := by
        show ([(f, u1), ("self", Value.ref x)] : List (Str × Value)).lookup ("self" : Str) = some (.ref x)
        have e : (("self" : Str) == f) = false := by simpa using tx.ne
        simp [List.lookup, e]
      have hfv : ([("self", Value.ref x), (f, u1)] : List (Str × Value)).reverse.lookup f = some u1 := by
        show ([(f, u1), ("self", Value.ref x)] : List (Str × Value)).lookup f = some u1
        simp [List.lookup]
      -- the frame over the heap without x
      have sz : (PySem.W.hideAll s.heap [x]).objs.size = s.heap.objs.size := PySem.W.hideAll_size _ _
      have F1 : Fr (PySem.W.hideAll s.heap [x]) s.heap.objs.size h₁ (fun y => ([("self", Value.ref x), (f, u1)] : List (Str × Value)).reverse.lookup y) := ⟨hns, fun b o e => kp b o (PySem.W.of_hideAll _ e), Nat.le_of_eq sz⟩
      have hid : ∀ b o, s.heap.get? b = some o → b ≠ x → (PySem.W.hideAll s.heap [x]).get? b = some o := fun b o e n => PySem.W.hideAll_get [x] e (by simpa using n)
      have bx : ∀ b o, base.get? b = some o → b ≠ x := fun b o e z => by
        obtain ⟨_, q⟩ := e0.bs b o e
        rw [z, hx] at q; cases q
      have X0 : K.In (PySem.W.hideAll s.heap [x]) := fun b o e => hid b o (KX b o e) (bx b o (e0.mod.kin b o e))
      have xL : x ≠ s.heap.objs.size := Nat.ne_of_lt (Heap.lt_size ho)
      have N1 : News (PySem.W.hideAll s.heap [x]) s.heap.objs.size h₁ [(x, excObj C t1 none .none)] := fun p hp => by
        rw [List.mem_singleton] at hp
        subst hp
        exact ⟨kp x _ ho, xL, PySem.W.hideAll_none _ (List.mem_singleton.mpr rfl)⟩
      obtain ⟨mb, bbl, bbo⟩ := e0.mod.blt
      have kb : ∀ b o, base.get? b = some o → h₁.get? b = some o := fun b o e => kp b o (e0.bs b o e).1
      have X1 : K.In h₁ := fun b o e => kp b o (KX b o e)
      obtain ⟨oD, hD1, hD2⟩ : ∃ oD, h₁.get? D = some oD ∧ oD.data = .cls cdD := by
        unfold PySem.W.clsIn at hD
        split at hD
        · rename_i c d cd' sl hl
          cases hD
          exact ⟨_, X1 _ _ hl, rfl⟩
        · cases hD
      obtain ⟨nm, qn, Nn, bs, bm, sn, sub, ab, col, dd, k0, k1, k2, k3, k5, hC, hbm⟩ := T.cls
      have hcl : PySem.W.clsIn K C = some { name := nm, bases := bs, mro := .ref C :: bm, ns := Nn, qualname := qn, hasDict := true, slotNames := sn, subclasses := sub, abstract := ab, collection := col, hasDel := false } := by unfold PySem.W.clsIn; rw [hC] <;> rfl
      obtain ⟨hp0, g0, d0, t0, os0⟩ := s
      show _root_.PySem.wpAt (model P w) (A.deeper (ksEnv qual scope hp0.objs.size fI (.ref cda) cc)) (.func _ (ksEnv qual scope hp0.objs.size fI (.ref cda) cc)) (execs _ (ksEnv qual scope hp0.objs.size fI (.ref cda) cc)) _ _ _
      refine ks_wpAt_execs_cons (ks_wpAt_Expr_any (hi := by show (scope.kind == .module && _) = false; rw [tx.kind]; rfl) (ks_wpAt_MethodCall ?_ (eval_meth1 rfl hline)))
      refine ks_wpAt_super_base tx.ks tx.kc (by decide) rfl (kp _ _ (KX _ _ lk)) rfl (ar := ⟨"self", none, pp1⟩) rfl rfl (kp _ _ (KX _ _ lcd)) rfl hvs hfile S.top ?_
      refine ks_loadName_global tx.kind tx.ks (PySem.Calls.loadGlobal_builtin (mg := mg) (mb := mb) (e0.mod.glob.keeps kb) (mg_none_of e0.mod.kin e0.mod.glob S.su) (bbl.keeps kb) ((bbo _ (by decide)).trans (show bootBuiltins "super" = some (.type "super") by decide +kernel)) ⟨rfl, ?_⟩)
      refine wpAny_loadName_free tx.kind tx.kc rfl ⟨_, X1 _ _ lcc, rfl⟩ ?_
      refine wpAny_loadName_local tx.kind tx.k0 F1.ns hself ?_
      refine ks_wpAny_isType_cls hD1 hD2 ⟨rfl, ?_⟩
      refine ks_wpAny_call_super hD1 hD2 (kp x _ ho) rfl (fun c z => by cases z) (looks_mroIn X1 hsub) (fun h2 e2 kp2 => ?_)
      obtain ⟨F2, N2, l2⟩ := ks_newsPush (s := ⟨h₁, g0, d0, t0 + 2, os0⟩) F1 N1 rfl e2 kp2
      refine kxs_method (odx := none) kxs_ValueError F2 X0 N2 List.mem_cons_self ⟨(N2 (x, excObj C t1 none .none) (by simp)).1, rfl, rfl, trivial⟩ S.th hsup S.sv (by decide) (fun q h3 F3 N3 l3 => ?_)
      refine kxs_callWith1 N3 List.mem_cons_self ?_ rfl rfl
      refine PySem.Calls.spliced_cons (PySem.Calls.Constant_str (x := m) (k := j) (pos := p4) ?_)
      refine PySem.Calls.spliced_nil ⟨kxs_at N3 List.mem_cons_self, ?_⟩
      have nso : (hp0.objs.size : Addr) ≠ x := fun z => absurd (Heap.lt_size ho) (by rw [← z]; exact Nat.lt_irrefl _)
      have xlt : x < h₁.objs.size := Heap.lt_size (kp x _ ho)
      have xq : x < q := l3 (x, excObj C t1 none .none) (by simp)
      refine kxs_call F3 X0 N3 PySem.F.excBase_ValueError S.xi List.mem_cons_self (.tail (Nat.ne_of_gt xq) (.tail (Nat.ne_of_gt xlt) (.head fun p hp => by cases hp))) (by show 1 ≤ sizeLine; rw [sizeLine_eq]; omega) (fun t4 h4 F4 N4 l4 => ?_)
      refine ks_wpAt_execs_cons (ks_wpAt_Assign_Attr ?_ rfl)
      refine wpAt_of_wpAny (wpAny_Name (wpAny_loadName_local tx.kind tx.k1 F4.ns hfv ?_) (okNm_ok tx.okf).1)
      refine wpAny_Name (wpAny_loadName_local tx.kind tx.k0 F4.ns hself ?_) (by decide)
      have hx4 : h4.get? x = some (excObj C t4 none .none) := (N4 (x, excObj C t4 none .none) (by simp)).1
      have X4 : K.In h4 := X0.keeps F4.keep
      refine set_plain X4 (ox := excObj C t4 none .none) (od := none) ⟨hx4, rfl, rfl, trivial⟩ T.sa ?_
      refine PySem.HandSPX.exc_osa X4 hx4 hcl (show PySem.HandSPX.refsVE (.ref C :: bm) = true from hbm) rfl S.fi (fun h5 tk5 dx k5 dn dne hx5 hn5 => ?_)
      refine wpAt_of_wpAny (wpAny_execs_nil ?_)
      -- the end
      have all : ∀ b o, hp0.get? b = some o → b ≠ x → h5.get? b = some o := fun b o e n => k5 b o n (F4.keep b o (hid b o e n))
      have lt5 : ∀ b o, hp0.get? b = some o → b ≠ dx := fun b o e z => by
        have h1 := Heap.lt_size e
        have h2 : hp0.objs.size ≤ h4.objs.size := Nat.le_of_lt F4.ns.lt
        rw [z] at h1
        exact absurd (Nat.lt_of_lt_of_le h1 (Nat.le_trans h2 dn)) (Nat.lt_irrefl _)
      have hd0 : H dx = none := e0.hok.fresh (Nat.le_trans (Nat.le_of_lt F4.ns.lt) dn)
      have nx : ∀ {b : Addr}, H b = none → b ≠ x := fun {b} n z => by rw [z, hx] at n; cases n
      have at' : ∀ b, b ≠ x → b ≠ dx → upd (upd H x (exo x C (some dx))) dx (exd dx [(f, v)]) b = H b := fun b n1 n2 => by rw [upd_ne n2, upd_ne n1]
      refine ⟨.non, _, rfl, e0.bare, ⟨fun b o e n _ _ => all b o e (nx n), fun b o e n _ _ => ⟨o.slots, all b o e (nx n)⟩, fun b o e n _ => by rw [at' b (nx n) (lt5 b o e)]; exact n, fun b o e _ => ?_, fun b xs e => ?_, fun b o u e => ?_, fun b ps e => ?_⟩, fun b o e => ?_, rfl, hQ dx hd0⟩
      · by_cases hb : b = x
        · rw [hb]; exact ⟨_, hx5⟩
        · exact ⟨o, all b o e hb⟩
      · rw [at' b (at_ne hx e exo_tup) (ne_of_none e hd0)]; exact e
      · rw [at' b (at_ne hx e exo_frz) (ne_of_none e hd0)]; exact e
      · exact ⟨#[], by rw [at' b (at_ne hx e exo_tbl) (ne_of_none e hd0), e]; simp⟩
      · by_cases hb : b = dx
        · subst hb
          rw [upd_same] at e
          cases e
          exact exd_ok hn5 (relO_put (fs := []) r1 fun g => True.intro)
        · rw [upd_ne hb] at e
          by_cases hb2 : b = x
          · subst hb2
            rw [upd_same] at e
            cases e
            exact exo_ok hx5
          · rw [upd_ne hb2] at e
            refine (e0.hok b o e).stay (fun c v hc z => ?_) (fun c hc => ?_) fun c xs hc => ?_
            · refine all c v z ?_
              rcases hc with hc | hc
              · rw [hc]; exact hb2
              · exact at_ne hx hc exo_own
            · rw [at' c (at_ne hx hc exo_own) (ne_of_none hc hd0)]; exact hc
            · rw [at' c (at_ne hx hc exo_tup) (ne_of_none hc hd0)]; exact hc
end
end Dl

set_option maxRecDepth 100000
set_option maxHeartbeats 4000000
/-! D21: all defs of a text at once. -/
namespace Dl
open PySem PySem.Spec PyProof.Rows L2
section
variable {P : Program} {w : World} {K : PySem.W.Frag} {mg : Str → Option Value} {base : Heap} {Γ : Tbl} {Z : Nms} {G0 : Gl0} {fs : List Fn}
/-- the def's code object and the table of its lambdas -/
def LamOk (base : Heap) (mg : Str → Option Value) (TB : List (Addr × Str)) (qual : Str) (sc : Scope) (fd : FuncData) : Prop := ∃ c P, fd.code = .ref c ∧ LamX.TabB base mg c P ∧ (P, lamQ qual sc) ∈ TB ∧ ∀ p ∈ TB, p.1 = P → p.2 = lamQ qual sc
/-- the def number i stands at fa: by its text, or told by data -/
def DefOk (P : Program) (w : World) (K : PySem.W.Frag) (mg : Str → Option Value) (base : Heap) (Γ : Tbl) (Z : Nms) (G0 : Gl0) (fs : List Fn) (i : Nat) (fa : Addr) (fd : FuncData) (ps : List Str) : Prop :=
  (∃ x qual st N n l dvs, FunD K x qual (defArgs st) (defBody st) (defScope st) dvs [] fa fd ∧ FnScope N ps (defScope st) ∧ isFnK (defScope st) = true ∧ fs[i]? = some (.code N.length ps.length (cSs Z N l n (defScope st) (defBody st))) ∧ (l = true → LamOk base mg G0.TB qual (defScope st) fd)) ∨
  (∃ p, fs[i]? = some (.prim p) ∧ ∀ m, Tab P w K mg base Γ Z G0 (callF Γ fs m) (4 * m + 1) → FnOk P w K mg base (L2.CX P w) (4 * m + 5) fa fd ps (spF w G0 (p (callF Γ fs m))))
/-- the making number g of the class number c -/
def IniOk (K : PySem.W.Frag) (mg : Str → Option Value) (base : Heap) (Γ : Tbl) (Z : Nms) (G0 : Gl0) (fs : List Fn) (c g : Nat) (fa : Addr) (fd : FuncData) (ps : List Str) : Prop :=
  ∃ x qual st n0 N p0 ps' n l dvs body, ps = p0 :: ps' ∧ FunD K x qual (defArgs st) (defBody st) (defScope st) dvs [] fa fd ∧ FnScope (n0 :: N) (p0 :: ps') (defScope st) ∧ isFnK (defScope st) = true ∧ cIs Z (n0 :: N) l n (defScope st) (defBody st) = some body ∧ fs[g]? = some (.ini c N.length ps'.length body) ∧
    (body.all fun s => match s with | .st f _ => Γ.fld c f | _ => true) = true ∧ (l = true → LamOk base mg G0.TB qual (defScope st) fd)
/-- what a text is, once its top has run -/
structure Prog (P : Program) (w : World) (K : PySem.W.Frag) (mg : Str → Option Value) (base : Heap) (Γ : Tbl) (Z : Nms) (G0 : Gl0) (fs : List Fn) : Prop where
  con : ∀ x d, Z.con.lookup x = some d → ∃ v u, mg x = some u ∧ RelV v u ∧ ∀ (T : Option TLoc) S H, Rep w { G0 with T := T } S H v d
  fns : ∀ x i np df, Z.fns.lookup x = some (i, np, df) → ∃ fa fd ps, ps.length = np ∧ mg x = some (.ref fa) ∧ PySem.W.keepIn K (.ref fa) = true ∧ DefOk P w K mg base Γ Z G0 fs i fa fd ps ∧
    (∀ m, m ≤ df.length → ∃ dV dU, Binds K fd ps dU ∧ Vals dV dU ∧ ∀ (T : Option TLoc) S H, RepL w { G0 with T := T } S H dV (df.drop (df.length - m))) ∧
    ∀ ks perm, (x, ks, perm) ∈ Z.kws → ∃ g, KBinds K fd ps ks g (fun _ zs => perm.map fun i => zs.getD i .non)
  val : ∀ j, Γ.fv j = true → PySem.W.keepIn K (.ref (G0.fad j)) = true ∧ ∃ fd ps, Binds K fd ps [] ∧ DefOk P w K mg base Γ Z G0 fs j (G0.fad j) fd ps
  cls : ∀ x c, Z.cls.lookup x = some c → mg x = some (.ref (G0.cls c))
  blt : ∀ x, x ∈ bltNames → mg x = none
  kf : KF K G0.cls Γ
  icl : ∀ c, Γ.isIns c = true → Cls K (G0.cls c)
  fld : ∀ c x, Γ.isIns c = true → Γ.fld c x = true → NoAttr K (G0.cls c) x
  prop : ∀ c x g, Γ.prop c x = some g → Γ.isIns c = true ∧ ∃ p fa fd, PropOf K (G0.cls c) x p fa ∧ Binds K fd ["self"] [] ∧ DefOk P w K mg base Γ Z G0 fs g fa fd ["self"]
  exd : ∀ c, Γ.isExc c = true → PySem.W.hasDictIn K (G0.cls c) = true
  exf : ∀ c x, Γ.isExc c = true → Γ.fld c x = true → PySem.W.findIn K (.ref (G0.cls c)) x = some none
  gk : G0.K = K
  fw : ∀ x, Z.fw = some x → FwDef K mg x
  cau : ∀ x, Z.cau = some x → CauDef K mg G0.cls Γ x
  rai : ∀ c, match Γ.mkx c with
    | none => True
    | some [] => PySem.W.excIn K (G0.cls c) veB "ValueError.__new__" = true ∧ PySem.W.keepIn K (.ref (G0.cls c)) = true ∧ PySem.W.subIn K (.ref (G0.cls c)) (.type "BaseException") = some true ∧ PySem.W.typeIn K (.ref (G0.cls c)) = some (.type "type")
    | some [f] => OexC K (G0.cls c) ∧ ∃ fI fd ps, PySem.W.findIn K (.ref (G0.cls c)) "__init__" = some (some (.ref fI)) ∧ PySem.W.typeIn K (.ref fI) = some (.type "function") ∧ Binds K fd ps [] ∧ FnOk P w K mg base (L2.CX P w) 1 fI fd ps (spInit (G0.cls c) f)
    | _ => False
  mak : ∀ c g, Γ.mak c = some g → Γ.isIns c = true ∧ ∃ fa fd ps, Mk K (G0.cls c) fa ∧ Binds K fd ps [] ∧ IniOk K mg base Γ Z G0 fs c g fa fd ps
theorem fnR_of {k : Nat} {fa : Addr} {fd : FuncData} {ps : List Str} {sp : Sp} (F : FnOk P w K mg base (L2.CX P w) k fa fd ps sp) (hb : Binds K fd ps []) : FnR P w K mg base (L2.CX P w) k fa sp := fun A outer s H us vs Q E hr e0 r h => by
  have KX : K.In s.heap := e0.mod.kin.keeps fun b o e => (e0.bs b o e).1
  have hl : us.length = ps.length := by rw [← r.length]; exact F.len _ _ _ _ h
  have b := hb s us KX (by rw [List.append_nil]; exact hl)
  rw [List.append_nil] at b
  exact F.run A outer s H ⟨us, []⟩ us vs Q E hr e0 b r h
theorem fn_none {k : Nat} {fa : Addr} {fd : FuncData} {ps : List Str} {f : List D → Wd → Rs D} (h : ∀ ds W, f ds W = .stk) : FnOk P w K mg base (L2.CX P w) k fa fd ps (spF w G0 f) := by
  refine ⟨fun vs H Q E ⟨T, B, ds, W, _, _, _, _, q⟩ => ?_, fun A outer s H args us vs Q E _ _ _ _ ⟨T, B, ds, W, _, _, _, _, q⟩ => ?_⟩
  · rw [h] at q; exact q.elim
  · rw [h] at q; exact q.elim
theorem ini_none {k c : Nat} {fa : Addr} {fd : FuncData} {ps : List Str} {f : List D → Wd → Rs D} (h : ∀ ds W, f ds W = .stk) : FnOk P w K mg base (L2.CX P w) k fa fd ps (spI w G0 c f) := by
  refine ⟨fun vs H Q E ⟨T, B, ds, W, _, _, _, _, _, _, _, _, _, _, _, _, _, q⟩ => ?_, fun A outer s H args us vs Q E _ _ _ _ ⟨T, B, ds, W, _, _, _, _, _, _, _, _, _, _, _, _, _, q⟩ => ?_⟩
  · rw [h] at q; exact q.elim
  · rw [h] at q; exact q.elim
theorem callF_succ {n f : Nat} {ds : List D} {W : Wd} : callF Γ fs (n + 1) f ds W = match fs[f]? with
    | some (.code nm np body) => if ds.length = np then endF (semSs Γ (callF Γ fs n) body (startL nm ds) W) else .stk
    | some (.ini c nm np body) => if ds.length = np then insR c (iniD Γ (callF Γ fs n) body (none :: startL nm ds) [] W) else .stk
    | some (.prim p) => p (callF Γ fs n) ds W
    | none => .stk := rfl
/-- the place of a def's body -/
theorem ctx_def {cf : CF} {k : Nat} {N : List Str} {l : Bool} {qual : Str} {st : Stmt} {fa : Addr} {cdv : Value} {A : Around} {outer : List Env} {s : Shared} {H : Hp} {E : XK} {C : Cd} {fd : FuncData} (t : Tab P w K mg base Γ Z G0 cf k) (hw : C.w = w) (hG : C.G = { G0 with T := C.G.T }) (hE : C.E = E) (nd : N.Nodup)
    (hk : isFnK (defScope st) = true) (hr : Room (k + 3) (A.deeper (envOfC qual (defScope st) s.heap.objs.size fa cdv))) (hc : fd.code = cdv) (hl : l = true → LamOk base mg G0.TB qual (defScope st) fd) :
    CtxS (cxOf (L2.CX P w) P w K mg base N qual (defScope st) fa cdv A outer s H E) C Γ Z G0 cf k N l (defScope st) := by
  refine ⟨⟨t, hw, hG, rfl, rfl, nd, rfl, hr.mono (by omega), fun _ _ => rfl, fun h => ⟨hr, ?_⟩, ?_⟩, passes_of rfl, hk⟩
  · obtain ⟨c, Pt, h1, h2, h3, h4⟩ := hl h
    refine ⟨c, Pt, h2, ?_, ?_, ?_⟩
    · show cdv = .ref c
      rw [← hc]; exact h1
    · rw [hG]; exact h3
    · rw [hG]; exact h4
  · subst hE
    exact takes_of rfl rfl rfl rfl
theorem def_ok {m i : Nat} {fa : Addr} {fd : FuncData} {ps : List Str} (t : Tab P w K mg base Γ Z G0 (callF Γ fs m) (4 * m + 1)) (d : DefOk P w K mg base Γ Z G0 fs i fa fd ps) : FnOk P w K mg base (L2.CX P w) (4 * m + 5) fa fd ps (spF w G0 (callF Γ fs (m + 1) i)) := by
  rcases d with ⟨x, qual, st, N, n, l, dvs, F, S, hk, hf, hl⟩ | ⟨p, hf, hp⟩
  · have e : callF Γ fs (m + 1) i = runF Γ (callF Γ fs m) ps.length N.length (cSs Z N l n (defScope st) (defBody st)) := by
      funext ds W
      rw [callF_succ, hf]
      rfl
    rw [e]
    refine fn_ok (k := 4 * m + 4) F S fun cdv A outer s H E T B hc hr => ?_
    exact (soundS (by omega) n (C := ⟨w, { G0 with T := T }, B, H, E⟩) (sc := defScope st) (ctx_def t rfl rfl rfl S.nd hk hr hc hl)).2 (defBody st)
  · have e : callF Γ fs (m + 1) i = p (callF Γ fs m) := by
      funext ds W
      rw [callF_succ, hf]
    rw [e]
    exact hp m t
theorem mak_ok {m c g : Nat} {fa : Addr} {fd : FuncData} {ps : List Str} (t : Tab P w K mg base Γ Z G0 (callF Γ fs m) (4 * m + 1)) (hc : Γ.isIns c = true) (d : IniOk K mg base Γ Z G0 fs c g fa fd ps) : FnOk P w K mg base (L2.CX P w) (4 * m + 5) fa fd ps (spI w G0 c (callF Γ fs (m + 1) g)) := by
  obtain ⟨x, qual, st, n0, N, p0, ps', n, l, dvs, body, rfl, F, S, hk, hb, hf, hfl, hl⟩ := d
  have e : callF Γ fs (m + 1) g = iniF Γ (callF Γ fs m) c ps'.length N.length body := by
    funext ds W
    rw [callF_succ, hf]
    rfl
  rw [e]
  exact ini_ok (k := 4 * m + 4) F S hk t hb hc hfl fun cdv A outer s H E C hw hG hE hcd hr => ctx_def t hw hG hE S.nd hk hr hcd hl
theorem tab_all (h : Prog P w K mg base Γ Z G0 fs) : ∀ m, Tab P w K mg base Γ Z G0 (callF Γ fs m) (4 * m + 1)
  | 0 => ⟨h.con, fun x i np df e => by
      obtain ⟨fa, fd, ps, h1, h2, h3, h4, h5⟩ := h.fns x i np df e
      exact ⟨fa, fd, ps, h1, h2, h3, fn_none fun _ _ => rfl, h5⟩, fun j hj => by
      obtain ⟨h1, fd, ps, h2, h3⟩ := h.val j hj
      exact ⟨h1, fnR_of (fn_none fun _ _ => rfl) h2⟩, h.cls, h.blt, h.kf, h.icl, h.fld, fun c x g e => by
      obtain ⟨h1, p, fa, fd, h2, h3, h4⟩ := h.prop c x g e
      exact ⟨h1, p, fa, fd, h2, h3, fn_none fun _ _ => rfl⟩, h.exd, h.exf, h.gk, h.fw, h.cau, h.rai, fun c g e => by
      obtain ⟨h1, fa, fd, ps, h2, h3, h4⟩ := h.mak c g e
      exact ⟨h1, fa, fd, ps, h2, h3, ini_none fun _ _ => rfl⟩⟩
  | m + 1 => ⟨h.con, fun x i np df e => by
      obtain ⟨fa, fd, ps, h1, h2, h3, h4, h5⟩ := h.fns x i np df e
      exact ⟨fa, fd, ps, h1, h2, h3, def_ok (tab_all h m) h4, h5⟩, fun j hj => by
      obtain ⟨h1, fd, ps, h2, h3⟩ := h.val j hj
      exact ⟨h1, fnR_of (def_ok (tab_all h m) h3) h2⟩, h.cls, h.blt, h.kf, h.icl, h.fld, fun c x g e => by
      obtain ⟨h1, p, fa, fd, h2, h3, h4⟩ := h.prop c x g e
      exact ⟨h1, p, fa, fd, h2, h3, def_ok (tab_all h m) h4⟩, h.exd, h.exf, h.gk, h.fw, h.cau, h.rai, fun c g e => by
      obtain ⟨h1, fa, fd, ps, h2, h3, h4⟩ := h.mak c g e
      exact ⟨h1, fa, fd, ps, h2, h3, mak_ok (tab_all h m) h1 h4⟩⟩
end
end Dl

set_option maxRecDepth 100000
set_option maxHeartbeats 4000000
/-! D31: the tape of the draws. -/
namespace Dl
open PySem PySem.Spec PyProof.Rows L2
def tapeD (t : TLoc) (rest turn : Int) : HO := .dK [(.inr "large", .ref t.la), (.inr "rest", .int rest), (.inr "cells", .ref t.ca), (.inr "turn", .int turn)]
/-- the texts -/
def BlendTx (sc : Scope) (body : List Stmt) : Prop := ∃ (k1 k2 k3 k4 k5 k6 k7 k8 k9 k10 k11 k12 k13 k14 k15 k16 : Nat) (p1 p2 p3 p4 p5 p6 p7 p8 p9 p10 p11 p12 p13 p14 p15 p16 p17 p18 p19 p20 p21 p22 p23 p24 p25 p26 p27 p28 p29 p30 p31 p32 p33 p34 p35 p36 p37 p38 p39 p40 p41 p42 p43 p44 p45 p46 p47 p48 p49 p50 p51 p52 p53 p54 p55 p56 p57 p58 p59 p60 p61 p62 p63 p64 p65 p66 : Pos), swT (fun x => sc.names.lookup x) [.Name "turn" p10, .Name "found" p11] [.Call (.Name "int" p13) [.Subscript (.Name "tape" p14) (.Constant (.str "turn") k5 p15) p16] [] p17, .Constant (.int 0) k6 p18] = some (some [("turn" : Str), ("found" : Str)]) ∧ body = [.Assign [.Subscript (.Name "tape" p1) (.Constant (.str "turn") k1 p2) p3] (.BinOp (.Subscript (.Name "tape" p4) (.Constant (.str "turn") k2 p5) p6) .Add (.Constant (.int 1) k3 p7) p8) p9, .Assign [.Tuple [.Name "turn" p10, .Name "found" p11] k4 p12] (.Tuple [.Call (.Name "int" p13) [.Subscript (.Name "tape" p14) (.Constant (.str "turn") k5 p15) p16] [] p17, .Constant (.int 0) k6 p18] k7 p19) p20, .For (.Name "great" p21) (.List [.Constant (.int 2147483629) k8 p22, .Constant (.int 2147483587) k9 p23, .Constant (.int 2147483579) k10 p24] p25) [.Assign [.Name "blended" p26] (.BinOp (.BinOp (.BinOp (.Name "turn" p27) .Mult (.Constant (.int 69621) k11 p28) p29) .Add (.BinOp (.Name "great" p30) .FloorDiv (.Constant (.int 7) k12 p31) p32) p33) .Mod (.Name "great" p34) p35) p36, .For (.Name "grain" p37) (.Subscript (.Name "tape" p38) (.Constant (.str "cells") k13 p39) p40) [.Assign [.Name "blended" p41] (.BinOp (.BinOp (.BinOp (.Name "blended" p42) .Mult (.Constant (.int 48271) k14 p43) p44) .Add (.Call (.Name "int" p45) [.Name "grain" p46] [] p47) p48) .Mod (.Name "great" p49) p50) p51] [] p52, .Assign [.Name "found" p53] (.BinOp (.BinOp (.Name "found" p54) .Mult (.Constant (.int 2147483647) k15 p55) p56) .Add (.BinOp (.BinOp (.Name "blended" p57) .Pow (.Constant (.int 5) k16 p58) p59) .Mod (.Name "great" p60) p61) p62) p63] [] p64, .Return (some (.Name "found" p65)) p66]
section
variable {X : Cx}
structure TpX (X : Cx) (N : List Str) : Prop where
  n : X.N = N
  nd : N.Nodup
  loc : ∀ x ∈ N, X.env.scope.names.lookup x = some .local
  kind : X.env.scope.kind = .function
  gi : Gl X "int"
  mi : X.mg "int" = none
  calm : X.calm = true
  po : PassesOwn (model X.prog X.w) X.A X.env X.xe
  hu : X.A.units + 65 < cLine
theorem TpX.pv {N : List Str} (T : TpX X N) {i : Nat} {x : Str} {pos : Pos} (hi : N[i]? = some x) (hx : x ∈ N) (h1 : (x == ("__debug__" : Str)) = false := by decide) (h2 : (x == ("__classdict__" : Str)) = false := by decide) : PE X (.Name x pos) (tVar i) := pe_var (by rw [T.n]; exact hi) (.inl (T.loc x hx)) h1 h2
theorem TpX.ps {N : List Str} (T : TpX X N) {i : Nat} {x : Str} {e : Expr} {te : TE} {p p' : Pos} (hi : N[i]? = some x) (hx : x ∈ N) (he : PE X e te) (hs : swapsWith e (some (.Name x p')) p.line X.env = pure false := by rfl) : PS X (.Assign [.Name x p'] e p) (tAsg te (gName i)) := ps_set (by rw [T.n]; exact T.nd) (by rw [T.n]; exact hi) (.inl (T.loc x hx)) he hs (.inr (T.loc x hx))
theorem TpX.pg {N : List Str} (T : TpX X N) {i : Nat} {x : Str} {p : Pos} (hi : N[i]? = some x) (hx : x ∈ N) : PG X (.Name x p) (gName i) := pg_name (by rw [T.n]; exact T.nd) (by rw [T.n]; exact hi) (.inl (T.loc x hx)) (.inr (T.loc x hx))
theorem TpX.get {N : List Str} (T : TpX X N) {o : Expr} {td : TE} {k : Str} {j : Nat} {p p' : Pos} (ho : PE X o td) : PE X (.Subscript o (.Constant (.str k) j p) p') (tDGet td (tC (.str k))) := pe_dget (by have := T.hu; omega) ho pe_str (fun _ _ => rfl)
theorem TpX.int {N : List Str} (T : TpX X N) {e : Expr} {te : TE} {p p' : Pos} (he : PE X e te) (hs : notSt e = true := by rfl) : PE X (.Call (.Name "int" p) [e] [] p') (tCB (fun xs H Q => (∃ i, xs = [.int i] ∧ Q (.int i) H) ∨ ∃ k, xs = [.bl k] ∧ Q (.int (if k then 1 else 0)) H) (tCons te tNil)) :=
  pe_callTy call_int1 T.gi T.mi boot_int (pa_cons he pa_nil (star_cons hs)) (by decide) (by decide) (star_cons hs) rfl
/-- blend's reading -/
def blN : List Str := ["tape", "turn", "found", "great", "blended", "grain"]
theorem blend_term (T : TpX X blN) {k1 k2 k3 k4 k5 k6 k7 k8 k9 k10 k11 k12 k13 k14 k15 k16 : Nat} {p1 p2 p3 p4 p5 p6 p7 p8 p9 p10 p11 p12 p13 p14 p15 p16 p17 p18 p19 p20 p21 p22 p23 p24 p25 p26 p27 p28 p29 p30 p31 p32 p33 p34 p35 p36 p37 p38 p39 p40 p41 p42 p43 p44 p45 p46 p47 p48 p49 p50 p51 p52 p53 p54 p55 p56 p57 p58 p59 p60 p61 p62 p63 p64 p65 p66 : Pos} (hw : swappedStores [.Tuple [.Name "turn" p10, .Name "found" p11] k4 p12] (.Tuple [.Call (.Name "int" p13) [.Subscript (.Name "tape" p14) (.Constant (.str "turn") k5 p15) p16] [] p17, .Constant (.int 0) k6 p18] k7 p19) X.env = pure (some [("turn" : Str), ("found" : Str)])) : ∃ t, PSs X [.Assign [.Subscript (.Name "tape" p1) (.Constant (.str "turn") k1 p2) p3] (.BinOp (.Subscript (.Name "tape" p4) (.Constant (.str "turn") k2 p5) p6) .Add (.Constant (.int 1) k3 p7) p8) p9, .Assign [.Tuple [.Name "turn" p10, .Name "found" p11] k4 p12] (.Tuple [.Call (.Name "int" p13) [.Subscript (.Name "tape" p14) (.Constant (.str "turn") k5 p15) p16] [] p17, .Constant (.int 0) k6 p18] k7 p19) p20, .For (.Name "great" p21) (.List [.Constant (.int 2147483629) k8 p22, .Constant (.int 2147483587) k9 p23, .Constant (.int 2147483579) k10 p24] p25) [.Assign [.Name "blended" p26] (.BinOp (.BinOp (.BinOp (.Name "turn" p27) .Mult (.Constant (.int 69621) k11 p28) p29) .Add (.BinOp (.Name "great" p30) .FloorDiv (.Constant (.int 7) k12 p31) p32) p33) .Mod (.Name "great" p34) p35) p36, .For (.Name "grain" p37) (.Subscript (.Name "tape" p38) (.Constant (.str "cells") k13 p39) p40) [.Assign [.Name "blended" p41] (.BinOp (.BinOp (.BinOp (.Name "blended" p42) .Mult (.Constant (.int 48271) k14 p43) p44) .Add (.Call (.Name "int" p45) [.Name "grain" p46] [] p47) p48) .Mod (.Name "great" p49) p50) p51] [] p52, .Assign [.Name "found" p53] (.BinOp (.BinOp (.Name "found" p54) .Mult (.Constant (.int 2147483647) k15 p55) p56) .Add (.BinOp (.BinOp (.Name "blended" p57) .Pow (.Constant (.int 5) k16 p58) p59) .Mod (.Name "great" p60) p61) p62) p63] [] p64, .Return (some (.Name "found" p65)) p66] t ∧ ∀ (D : Ends) (σ : L2.St) (H : Hp) (t0 : TLoc) (cells : List Int) (rest turn : Int), σ.length = 6 → σ[0]? = some (some (.ref t0.ta)) → H t0.ta = some (tapeD t0 rest turn) → H t0.ca = some (.lst (cells.map V.int)) → t0.ta ≠ t0.ca →
    (∀ H', (∀ b o, H b = some o → b ≠ t0.ta → H' b = some o) → H' t0.ta = some (tapeD t0 rest (turn + 1)) → D.rt (.int (blendN cells (turn + 1))) H') → t D σ H := by
  refine ⟨_, pss_cons (ps_dput (by have := T.hu; omega) (T.pv (i := 0) rfl (by decide)) pe_str (pe_op op_add (T.get (T.pv (i := 0) rfl (by decide))) pe_int) rfl)
    (pss_cons (ps_par (i := 1) (j := 2) T.calm (by rw [T.n]; exact T.nd) (by rw [T.n]; rfl) (by rw [T.n]; rfl) (by decide) (T.loc _ (by decide)) (T.loc _ (by decide)) (pa_cons (T.int (T.get (T.pv (i := 0) rfl (by decide)))) (pa_cons pe_int pa_nil)) hw rfl)
    (pss_cons (ps_for T.po T.calm (pi_list (pe_lst (pa_cons pe_int (pa_cons pe_int (pa_cons pe_int pa_nil))))) (T.pg (i := 3) rfl (by decide))
      (pss_cons (T.ps (i := 4) rfl (by decide) (pe_op op_mod (pe_op op_add (pe_op op_mul (T.pv (i := 1) rfl (by decide)) pe_int) (pe_op op_fdiv (T.pv (i := 3) rfl (by decide)) pe_int)) (T.pv (i := 3) rfl (by decide))))
      (pss_cons (ps_for T.po T.calm (pi_list (T.get (T.pv (i := 0) rfl (by decide)))) (T.pg (i := 5) rfl (by decide))
        (pss_one (T.ps (i := 4) rfl (by decide) (pe_op op_mod (pe_op op_add (pe_op op_mul (T.pv (i := 4) rfl (by decide)) pe_int) (T.int (T.pv (i := 5) rfl (by decide)))) (T.pv (i := 3) rfl (by decide))))))
      (pss_one (T.ps (i := 2) rfl (by decide) (pe_op op_add (pe_op op_mul (T.pv (i := 2) rfl (by decide)) pe_int) (pe_op op_mod (pe_op op_pow (T.pv (i := 4) rfl (by decide)) pe_int) (T.pv (i := 3) rfl (by decide)))))))))
    (pss_one (ps_ret (T.pv (i := 2) rfl (by decide)))))), fun D σ H t0 cells rest turn hl h0 ht hc hne hq => ?_⟩
  have eP : L2.putK [((.inr "large" : Key), V.ref t0.la), (.inr "rest", .int rest), (.inr "cells", .ref t0.ca), (.inr "turn", .int turn)] (.inr "turn") (.int (turn + 1)) = [(.inr "large", .ref t0.la), (.inr "rest", .int rest), (.inr "cells", .ref t0.ca), (.inr "turn", .int (turn + 1))] := rfl
  have gT : ∀ r u, valV [((.inr "large" : Key), V.ref t0.la), (.inr "rest", .int r), (.inr "cells", .ref t0.ca), (.inr "turn", .int u)] (.inr "turn") = some (.int u) := fun _ _ => rfl
  have gC : ∀ r u, valV [((.inr "large" : Key), V.ref t0.la), (.inr "rest", .int r), (.inr "cells", .ref t0.ca), (.inr "turn", .int u)] (.inr "cells") = some (.ref t0.ca) := fun _ _ => rfl
  have d1 : DGet H t0.ta (.str "turn") (some (.int turn)) := by rw [← gT rest turn]; exact DGet.k (k := .inr "turn") ht
  refine ⟨_, h0, t0.ta, .int turn, rfl, d1, turn, 1, rfl, rfl, _, h0, t0.ta, _, rfl, DPut.k (k := .inr "turn") ht (by show 4 < sizeLine; rw [sizeLine_eq]; decide), ?_⟩
  rw [eP]
  generalize hH1 : upd H t0.ta (.dK [((.inr "large" : Key), V.ref t0.la), (.inr "rest", .int rest), (.inr "cells", .ref t0.ca), (.inr "turn", .int (turn + 1))]) = H1
  have k1 : ∀ b o, H b = some o → b ≠ t0.ta → H1 b = some o := fun b o e n => by rw [← hH1, upd_ne n]; exact e
  have ht1 : H1 t0.ta = some (tapeD t0 rest (turn + 1)) := by rw [← hH1, upd_same]; rfl
  have hc1 : H1 t0.ca = some (.lst (cells.map V.int)) := k1 _ _ hc (Ne.symm hne)
  have d2 : DGet H1 t0.ta (.str "turn") (some (.int (turn + 1))) := by rw [← gT rest (turn + 1)]; exact DGet.k (k := .inr "turn") ht1
  have set_at : ∀ {s : L2.St} {k : Nat} {v : Option V}, s.length = 6 → k < 6 → (s.set k v)[k]? = some v := fun hl hk => by rw [List.getElem?_set_self (by omega)]
  have set_ne : ∀ {s : L2.St} {k m : Nat} {v : Option V} {u : Option (Option V)}, k ≠ m → s[m]? = u → (s.set k v)[m]? = u := fun hk e => by rw [List.getElem?_set_ne hk]; exact e
  refine ⟨_, h0, t0.ta, .int (turn + 1), rfl, d2, .inl ⟨turn + 1, rfl, ?_⟩⟩
  refine ⟨_, _, rfl, ?_⟩
  refine ⟨by show 3 ≤ sizeLine; rw [sizeLine_eq]; decide, fun p hp => ⟨p, rfl, ⟨_, .of upd_same⟩, ?_⟩⟩
  have hl1 : ((σ.set 1 (some (V.int (turn + 1)))).set 2 (some (V.int 0))).length = 6 := by simp [hl]
  have hpt : t0.ta ≠ p := ne_of_none ht1 hp
  have gpos : ∀ (i : Nat) (g : Int), greats[i]? = some g → 0 < g ∧ g < 2147483648 := fun i g e => by
    have hm := List.mem_of_getElem? e
    unfold greats at hm
    simp only [List.mem_cons, List.not_mem_nil, or_false] at hm
    rcases hm with rfl | rfl | rfl <;> decide
  refine for_list (xs := greats.map V.int) (fun i s H' => s.length = 6 ∧ s[0]? = some (some (.ref t0.ta)) ∧ s[1]? = some (some (.int (turn + 1))) ∧ s[2]? = some (some (.int ((greats.take i).foldl (blendStep cells (turn + 1)) 0))) ∧ (∀ b o, H1 b = some o → H' b = some o) ∧ H' p = some (.lst (greats.map V.int)))
    ⟨hl1, set_ne (by decide) (set_ne (by decide) h0), set_ne (by decide) (set_at (by simp [hl]) (by decide)), set_at (by simp [hl]) (by decide), fun b o e => by rw [upd_ne (ne_of_none e hp)]; exact e, upd_same⟩ (fun i s H' _ h => .of h.2.2.2.2.2) (fun i x s H' hx h => ?_) (fun s H' h => ?_)
  · obtain ⟨hl, a0, a1, a2, hk, hpp⟩ := h
    obtain ⟨g, hg, rfl⟩ : ∃ g, greats[i]? = some g ∧ x = V.int g := by
      rw [List.getElem?_map] at hx
      cases e : greats[i]? with
      | none => rw [e] at hx; cases hx
      | some g => rw [e] at hx; cases hx; exact ⟨g, rfl, rfl⟩
    obtain ⟨g0, g1⟩ := gpos i g hg
    have b1 : (s.set 3 (some (V.int g)))[1]? = some (some (.int (turn + 1))) := set_ne (by decide) a1
    have b3 : (s.set 3 (some (V.int g)))[3]? = some (some (.int g)) := set_at hl (by decide)
    refine ⟨_, b1, turn + 1, 69621, rfl, rfl, .inr ⟨by decide, by decide⟩, _, b3, g, 7, rfl, rfl, ⟨by decide, by decide⟩, _, _, rfl, rfl, _, b3, _, _, rfl, rfl, g0, ?_⟩
    have ht2 : H' t0.ta = some (tapeD t0 rest (turn + 1)) := hk _ _ ht1
    have hc2 : H' t0.ca = some (.lst (cells.map V.int)) := hk _ _ hc1
    have d3 : DGet H' t0.ta (.str "cells") (some (.ref t0.ca)) := by rw [← gC rest (turn + 1)]; exact DGet.k (k := .inr "cells") ht2
    have c0 : ((s.set 3 (some (V.int g))).set 4 (some (V.int (((turn + 1) * 69621 + g / 7) % g))))[0]? = some (some (.ref t0.ta)) := set_ne (by decide) (set_ne (by decide) a0)
    refine ⟨_, c0, t0.ta, _, rfl, d3, t0.ca, rfl, ⟨_, .of hc2⟩, ?_⟩
    refine for_list (xs := cells.map V.int) (fun j s' H'' => s'.length = 6 ∧ s'[0]? = some (some (.ref t0.ta)) ∧ s'[1]? = some (some (.int (turn + 1))) ∧ s'[2]? = some (some (.int ((greats.take i).foldl (blendStep cells (turn + 1)) 0))) ∧ s'[3]? = some (some (.int g)) ∧
        (∃ b : Int, 0 ≤ b ∧ b < g ∧ b = blendIn (cells.take j) g (((turn + 1) * 69621 + g / 7) % g) ∧ s'[4]? = some (some (.int b))) ∧ (∀ b o, H1 b = some o → H'' b = some o) ∧ H'' p = some (.lst (greats.map V.int)))
      ⟨by simp [hl], c0, set_ne (by decide) b1, set_ne (by decide) (set_ne (by decide) a2), set_ne (by decide) b3, ⟨_, Int.emod_nonneg _ (by omega), Int.emod_lt_of_pos _ g0, rfl, set_at (by simp [hl]) (by decide)⟩, hk, hpp⟩
      (fun j s' H'' _ h => .of (h.2.2.2.2.2.2.1 _ _ hc1)) (fun j y s' H'' hy h => ?_) (fun s' H'' h => ?_)
    · obtain ⟨hl, a0, a1, a2, a3, ⟨b, b0, bl, be, a4⟩, hk, hpp⟩ := h
      obtain ⟨c, hcj, rfl⟩ : ∃ c, cells[j]? = some c ∧ y = V.int c := by
        rw [List.getElem?_map] at hy
        cases e : cells[j]? with
        | none => rw [e] at hy; cases hy
        | some g => rw [e] at hy; cases hy; exact ⟨g, rfl, rfl⟩
      have e4 : (s'.set 5 (some (V.int c)))[4]? = some (some (.int b)) := set_ne (by decide) a4
      have e5 : (s'.set 5 (some (V.int c)))[5]? = some (some (.int c)) := set_at hl (by decide)
      have e3 : (s'.set 5 (some (V.int c)))[3]? = some (some (.int g)) := set_ne (by decide) a3
      refine ⟨_, e4, b, 48271, rfl, rfl, .inr ⟨by decide, by decide⟩, _, e5, .inl ⟨c, rfl, _, _, rfl, rfl, _, e3, _, _, rfl, rfl, g0, ?_⟩⟩
      refine ⟨by simp [hl], set_ne (by decide) (set_ne (by decide) a0), set_ne (by decide) (set_ne (by decide) a1), set_ne (by decide) (set_ne (by decide) a2), set_ne (by decide) e3, ⟨_, Int.emod_nonneg _ (by omega), Int.emod_lt_of_pos _ g0, ?_, set_at (by simp [hl]) (by decide)⟩, hk, hpp⟩
      rw [be, List.take_add_one, hcj]
      unfold blendIn
      simp
    · obtain ⟨hl, a0, a1, a2, a3, ⟨b, b0, bl, be, a4⟩, hk, hpp⟩ := h
      rw [List.length_map, List.take_length] at be
      have cp : CPow b 5 := ⟨by decide, by decide, by omega⟩
      refine ⟨_, a2, _, 2147483647, rfl, rfl, .inr ⟨by decide, by decide⟩, _, a4, b, 5, rfl, rfl, cp, _, a3, _, _, rfl, rfl, g0, _, _, rfl, rfl, ?_⟩
      refine ⟨by simp [hl], set_ne (by decide) a0, set_ne (by decide) a1, ?_, hk, hpp⟩
      rw [set_at hl (by decide), List.take_add_one, hg, be]
      simp only [Option.toList_some, List.foldl_append, List.foldl_cons, List.foldl_nil]
      rfl
  · obtain ⟨hl, a0, a1, a2, hk, hpp⟩ := h
    refine ⟨_, a2, ?_⟩
    rw [List.length_map, List.take_length]
    exact hq H' (fun b o e n => hk b o (k1 b o e n)) (hk _ _ ht1)
def DrawTx (body : List Stmt) : Prop := ∃ (k1 k2 k3 k4 k5 k6 k7 k8 k9 : Nat) (p1 p2 p3 p4 p5 p6 p7 p8 p9 p10 p11 p12 p13 p14 p15 p16 p17 p18 p19 p20 p21 p22 p23 p24 p25 p26 p27 p28 p29 p30 p31 p32 p33 p34 p35 p36 p37 p38 p39 p40 p41 p42 p43 p44 p45 p46 p47 : Pos), (p17.endLine == p19.line) = true ∧ body = [.If (.Compare (.Subscript (.Name "tape" p1) (.Constant (.str "rest") k1 p2) p3) [.Eq] [.Constant (.int 0) k2 p4] p5) [.Assign [.Subscript (.Name "tape" p6) (.Constant (.str "rest") k3 p7) p8] (.IfExp (.Compare (.Subscript (.Name "tape" p9) (.Constant (.str "large") k4 p10) p11) [.NotEq] [.List [] p12] p13) (.Call (.Attribute (.Subscript (.Name "tape" p14) (.Constant (.str "large") k5 p15) p16) "pop" p17) [.Constant (.int 0) k6 p18] [] p19) (.Call (.Name "_law_blend" p20) [.Name "tape" p21] [] p22) p23) p24] [] p25, .Assign [.Name "found" p26] (.BinOp (.Call (.Name "int" p27) [.Subscript (.Name "tape" p28) (.Constant (.str "rest") k7 p29) p30] [] p31) .Mod (.Name "size" p32) p33) p34, .Assign [.Subscript (.Name "tape" p35) (.Constant (.str "rest") k8 p36) p37] (.BinOp (.Call (.Name "int" p38) [.Subscript (.Name "tape" p39) (.Constant (.str "rest") k9 p40) p41] [] p42) .FloorDiv (.Name "size" p43) p44) p45, .Return (some (.Name "found" p46)) p47]
structure TapeAt (H : Hp) (t0 : TLoc) (tp : Tape) : Prop where
  n1 : t0.ta ≠ t0.la
  n2 : t0.ta ≠ t0.ca
  n3 : t0.la ≠ t0.ca
  at_ : H t0.ta = some (tapeD t0 tp.rest tp.turn)
  la : H t0.la = some (.lst (tp.large.map V.int))
  ca : H t0.ca = some (.lst (tp.cells.map V.int))
def spBlend : Sp := fun vs H Q _ => ∃ (t0 : TLoc) (cells : List Int) (rest turn : Int), vs = [.ref t0.ta] ∧ H t0.ta = some (tapeD t0 rest turn) ∧ H t0.ca = some (.lst (cells.map V.int)) ∧ t0.ta ≠ t0.ca ∧
  ∀ H', (∀ b o, H b = some o → b ≠ t0.ta → H' b = some o) → H' t0.ta = some (tapeD t0 rest (turn + 1)) → Q (.int (blendN cells (turn + 1))) H'
theorem dp_ints {K : PySem.W.Frag} {H : Hp} : ∀ ns : List Int, DpAll K H (ns.map V.int) (ns.map PyData.int)
  | [] => .nil
  | n :: ns => .cons (.int n) (dp_ints ns)
theorem can_ints : ∀ ns : List Int, PyData.canLayAll0 (ns.map PyData.int) = true
  | [] => rfl
  | n :: ns => by
    show (PyData.canLay0 (.int n) && PyData.canLayAll0 (ns.map PyData.int)) = true
    rw [can_ints ns]
    rfl
theorem dep_ints : ∀ ns : List Int, PyData.depthAll (ns.map PyData.int) = 0
  | [] => rfl
  | n :: ns => by
    show max (PyData.depth (.int n)) (PyData.depthAll (ns.map PyData.int)) = 0
    rw [dep_ints ns]
    rfl
theorem shp_ints (ns : List Int) : SeqAt.shaped (.list (ns.map PyData.int)) = true := by
  unfold SeqAt.shaped
  have h1 : PyData.canLay0 (.list (ns.map PyData.int)) = true := can_ints ns
  have h2 : PyData.depth (.list (ns.map PyData.int)) = 1 := by show PyData.depthAll (ns.map PyData.int) + 1 = 1; rw [dep_ints]
  rw [h1, h2]
  rfl
def drN : List Str := ["tape", "size", "found"]
theorem tail_term (T : TpX X drN) {k1 k2 k3 k4 k5 k6 k7 k8 k9 : Nat} {p1 p2 p3 p4 p5 p6 p7 p8 p9 p10 p11 p12 p13 p14 p15 p16 p17 p18 p19 p20 p21 p22 p23 p24 p25 p26 p27 p28 p29 p30 p31 p32 p33 p34 p35 p36 p37 p38 p39 p40 p41 p42 p43 p44 p45 p46 p47 : Pos} : ∃ t, PSs X [.Assign [.Name "found" p26] (.BinOp (.Call (.Name "int" p27) [.Subscript (.Name "tape" p28) (.Constant (.str "rest") k7 p29) p30] [] p31) .Mod (.Name "size" p32) p33) p34, .Assign [.Subscript (.Name "tape" p35) (.Constant (.str "rest") k8 p36) p37] (.BinOp (.Call (.Name "int" p38) [.Subscript (.Name "tape" p39) (.Constant (.str "rest") k9 p40) p41] [] p42) .FloorDiv (.Name "size" p43) p44) p45, .Return (some (.Name "found" p46)) p47] t ∧ ∀ (D : Ends) (σ : L2.St) (H : Hp) (t0 : TLoc) (tp : Tape) (n : Int), σ.length = 3 → σ[0]? = some (some (.ref t0.ta)) → σ[1]? = some (some (.int n)) → 0 < n → n < 1073741824 → TapeAt H t0 tp →
    (∀ H', (∀ b o, H b = some o → b ≠ t0.ta → b ≠ t0.la → H' b = some o) → TapeAt H' t0 { tp with rest := tp.rest / n } → D.rt (.int (tp.rest % n)) H') → t D σ H := by
  have hu := T.hu
  have P0 : ∀ {q}, PE X (.Name "tape" q) (tVar 0) := T.pv (i := 0) rfl (by decide)
  have P1 : ∀ {q}, PE X (.Name "size" q) (tVar 1) := T.pv (i := 1) rfl (by decide)
  refine ⟨_, pss_cons (T.ps (i := 2) rfl (by decide) (pe_op op_mod (T.int (T.get P0)) P1))
    (pss_cons (ps_dput (by omega) P0 pe_str (pe_op op_fdiv (T.int (T.get P0)) P1) rfl)
    (pss_one (ps_ret (T.pv (i := 2) rfl (by decide))))), fun D σ H t0 tp n hl h0 h1 n0 n1 ta hq => ?_⟩
  have g1 : DGet H t0.ta (.str "rest") (some (.int tp.rest)) := DGet.k (k := .inr "rest") ta.at_
  refine ⟨_, h0, t0.ta, _, rfl, g1, .inl ⟨tp.rest, rfl, _, h1, tp.rest, n, rfl, rfl, n0, ?_⟩⟩
  have a0 : (σ.set 2 (some (V.int (tp.rest % n))))[0]? = some (some (.ref t0.ta)) := by rw [List.getElem?_set_ne (by decide)]; exact h0
  have a1 : (σ.set 2 (some (V.int (tp.rest % n))))[1]? = some (some (.int n)) := by rw [List.getElem?_set_ne (by decide)]; exact h1
  have a2 : (σ.set 2 (some (V.int (tp.rest % n))))[2]? = some (some (.int (tp.rest % n))) := by rw [List.getElem?_set_self (by omega)]
  refine ⟨_, a0, t0.ta, _, rfl, g1, .inl ⟨tp.rest, rfl, _, a1, tp.rest, n, rfl, rfl, ⟨n0, n1⟩, _, a0, t0.ta, _, rfl, DPut.k (k := .inr "rest") ta.at_ (by show 4 < sizeLine; rw [sizeLine_eq]; decide), _, a2, ?_⟩⟩
  refine hq _ (fun b o e n1 n2 => by rw [upd_ne n1]; exact e) ⟨ta.n1, ta.n2, ta.n3, by rw [upd_same]; rfl, by rw [upd_ne (Ne.symm ta.n1)]; exact ta.la, by rw [upd_ne (Ne.symm ta.n2)]; exact ta.ca⟩
theorem draw_term (T : TpX X drN) {k1 k2 k3 k4 k5 k6 k7 k8 k9 : Nat} {p1 p2 p3 p4 p5 p6 p7 p8 p9 p10 p11 p12 p13 p14 p15 p16 p17 p18 p19 p20 p21 p22 p23 p24 p25 p26 p27 p28 p29 p30 p31 p32 p33 p34 p35 p36 p37 p38 p39 p40 p41 p42 p43 p44 p45 p46 p47 : Pos} (hline : (p17.endLine == p19.line) = true) {fb : Addr} {fdb : FuncData} (F : FnOk X.prog X.w X.K X.mg X.base (L2.CX X.prog X.w) 1 fb fdb ["tape"] spBlend) (hr : Room 1 X.A) (hg : Gl X "_law_blend") (hm : X.mg "_law_blend" = some (.ref fb)) (hk : PySem.W.keepIn X.K (.ref fb) = true) (hb : Binds X.K fdb ["tape"] []) (hx : Passes (L2.CX X.prog X.w) X (fun _ _ _ => False)) :
    ∃ t, PSs X [.If (.Compare (.Subscript (.Name "tape" p1) (.Constant (.str "rest") k1 p2) p3) [.Eq] [.Constant (.int 0) k2 p4] p5) [.Assign [.Subscript (.Name "tape" p6) (.Constant (.str "rest") k3 p7) p8] (.IfExp (.Compare (.Subscript (.Name "tape" p9) (.Constant (.str "large") k4 p10) p11) [.NotEq] [.List [] p12] p13) (.Call (.Attribute (.Subscript (.Name "tape" p14) (.Constant (.str "large") k5 p15) p16) "pop" p17) [.Constant (.int 0) k6 p18] [] p19) (.Call (.Name "_law_blend" p20) [.Name "tape" p21] [] p22) p23) p24] [] p25, .Assign [.Name "found" p26] (.BinOp (.Call (.Name "int" p27) [.Subscript (.Name "tape" p28) (.Constant (.str "rest") k7 p29) p30] [] p31) .Mod (.Name "size" p32) p33) p34, .Assign [.Subscript (.Name "tape" p35) (.Constant (.str "rest") k8 p36) p37] (.BinOp (.Call (.Name "int" p38) [.Subscript (.Name "tape" p39) (.Constant (.str "rest") k9 p40) p41] [] p42) .FloorDiv (.Name "size" p43) p44) p45, .Return (some (.Name "found" p46)) p47] t ∧ ∀ (D : Ends) (σ : L2.St) (H : Hp) (t0 : TLoc) (tp : Tape) (n : Int), σ.length = 3 → σ[0]? = some (some (.ref t0.ta)) → σ[1]? = some (some (.int n)) → 0 < n → n < 1073741824 → TapeAt H t0 tp →
    (∀ H', (∀ b o, H b = some o → b ≠ t0.ta → b ≠ t0.la → H' b = some o) → TapeAt H' t0 (drawT n tp).2 → D.rt (.int (drawT n tp).1) H') → t D σ H := by
  have hu := T.hu
  have P0 : ∀ {q}, PE X (.Name "tape" q) (tVar 0) := T.pv (i := 0) rfl (by decide)
  have P1 : ∀ {q}, PE X (.Name "size" q) (tVar 1) := T.pv (i := 1) rfl (by decide)
  obtain ⟨tt, hT, rT⟩ := tail_term T (k7 := k7) (k8 := k8) (k9 := k9) (p26 := p26) (p27 := p27) (p28 := p28) (p29 := p29) (p30 := p30) (p31 := p31) (p32 := p32) (p33 := p33) (p34 := p34) (p35 := p35) (p36 := p36) (p37 := p37) (p38 := p38) (p39 := p39) (p40 := p40) (p41 := p41) (p42 := p42) (p43 := p43) (p44 := p44) (p45 := p45) (p46 := p46) (p47 := p47) (k1 := k1) (k2 := k2) (k3 := k3) (k4 := k4) (k5 := k5) (k6 := k6) (p1 := p1) (p2 := p2) (p3 := p3) (p4 := p4) (p5 := p5) (p6 := p6) (p7 := p7) (p8 := p8) (p9 := p9) (p10 := p10) (p11 := p11) (p12 := p12) (p13 := p13) (p14 := p14) (p15 := p15) (p16 := p16) (p17 := p17) (p18 := p18) (p19 := p19) (p20 := p20) (p21 := p21) (p22 := p22) (p23 := p23) (p24 := p24) (p25 := p25)
  refine ⟨_, pss_cons (ps_if (pt_cmpR op_eq (T.get P0) pe_int (by rfl)) (pss_one (ps_dput (by omega) P0 pe_str (pe_ifExp (pt_cmpR (op_neD (by omega)) (T.get P0) (pe_lst pa_nil) (by rfl))
      (pe_bm PySem.F.plainAttrs_list PySem.F.slot_list_pop PySem.F.type_list_pop mt_popAt (T.get P0) (pa_cons pe_int pa_nil) rfl rfl hline rfl rfl)
      (pe_call F hr hg hm hk hb .nil hx (pa_cons P0 pa_nil))) rfl)) pss_nil) hT, fun D σ H t0 tp n hl h0 h1 n0 n1 ta hq => ?_⟩
  have g1 : DGet H t0.ta (.str "rest") (some (.int tp.rest)) := DGet.k (k := .inr "rest") ta.at_
  have g2 : DGet H t0.ta (.str "large") (some (.ref t0.la)) := DGet.k (k := .inr "large") ta.at_
  refine ⟨_, h0, t0.ta, _, rfl, g1, rfl, _, rfl, ?_⟩
  have z4 : 4 < sizeLine := by rw [sizeLine_eq]; decide
  by_cases hz : tp.rest = 0
  · have ez : decide (V.int tp.rest = V.int 0) = true := by rw [hz]; exact decide_eq_true rfl
    rw [ez]
    refine ⟨_, h0, t0.ta, _, rfl, g2, Nat.zero_le _, fun q hq' => ?_⟩
    have sm : Same H (upd H q (.lst [])) := same_new hq'
    have la2 : upd H q (.lst []) t0.la = some (.lst (tp.large.map V.int)) := sm _ _ ta.la
    have at2 : upd H q (.lst []) t0.ta = some (tapeD t0 tp.rest tp.turn) := sm _ _ ta.at_
    have ca2 := sm _ _ ta.ca
    have g3 : DGet (upd H q (.lst [])) t0.ta (.str "large") (some (.ref t0.la)) := DGet.k (k := .inr "large") at2
    refine ⟨.list (tp.large.map PyData.int), .list [], .lst (.of la2) (dp_ints _), .lst (.of upd_same) .nil, shp_ints _, by rfl, _, rfl, ?_⟩
    cases hL : tp.large with
    | nil =>
      have ev : (!PyData.eqv (.list (([] : List Int).map PyData.int)) (.list [])) = false := rfl
      rw [ev]
      refine ⟨_, h0, ⟨t0, tp.cells, tp.rest, tp.turn, rfl, at2, ca2, ta.n2, fun H1 hk h1t => ?_⟩⟩
      refine ⟨_, h0, t0.ta, _, rfl, DPut.k (k := .inr "rest") h1t z4, ?_⟩
      have ef : fill tp = { tp with turn := tp.turn + 1, rest := blendN tp.cells (tp.turn + 1) } := by unfold fill; rw [if_pos hz, hL]
      refine rT D σ _ t0 (fill tp) n hl h0 h1 n0 n1 ⟨ta.n1, ta.n2, ta.n3, by rw [ef, upd_same]; rfl, ?_, ?_⟩ fun H2 hk2 ta2 => hq H2 (fun b o e m1 m2 => hk2 b o (by rw [upd_ne m1]; exact hk b o (sm b o e) m1) m1 m2) ta2
      · rw [ef, upd_ne (Ne.symm ta.n1)]; exact hk _ _ la2 (Ne.symm ta.n1)
      · rw [ef, upd_ne (Ne.symm ta.n2)]; exact hk _ _ ca2 (Ne.symm ta.n2)
    | cons x r =>
      have ev : (!PyData.eqv (.list ((x :: r).map PyData.int)) (.list [])) = true := rfl
      rw [ev]
      rw [hL] at la2
      refine ⟨_, h0, t0.ta, _, rfl, g3, .inl ⟨rfl, _, .of la2⟩, t0.la, _, 0, 0, .int x, rfl, rfl, la2, by decide, by decide, by simp [seqIndex?], rfl, ?_⟩
      have at3 : upd (upd H q (.lst [])) t0.la (.lst (((x :: r).map V.int).eraseIdx 0)) t0.ta = some (tapeD t0 tp.rest tp.turn) := by rw [upd_ne ta.n1]; exact at2
      refine ⟨_, h0, t0.ta, _, rfl, DPut.k (k := .inr "rest") at3 z4, ?_⟩
      have ef : fill tp = { tp with large := r, rest := x } := by unfold fill; rw [if_pos hz, hL]
      refine rT D σ _ t0 (fill tp) n hl h0 h1 n0 n1 ⟨ta.n1, ta.n2, ta.n3, by rw [ef, upd_same]; rfl, ?_, ?_⟩ fun H2 hk2 ta2 => hq H2 (fun b o e m1 m2 => hk2 b o (by rw [upd_ne m1, upd_ne m2]; exact sm b o e) m1 m2) ta2
      · rw [ef, upd_ne (Ne.symm ta.n1), upd_same]; rfl
      · rw [ef, upd_ne (Ne.symm ta.n2), upd_ne (Ne.symm ta.n3)]; exact ca2
  · have ez : decide (V.int tp.rest = V.int 0) = false := decide_eq_false fun z => hz (by injection z)
    rw [ez]
    have ef : fill tp = tp := if_neg hz
    refine rT D σ H t0 tp n hl h0 h1 n0 n1 ta fun H2 hk2 ta2 => ?_
    have e1 : drawT n tp = (tp.rest % n, { tp with rest := tp.rest / n }) := by unfold drawT; rw [ef]
    rw [e1] at hq
    exact hq H2 hk2 ta2
end
end Dl

set_option maxRecDepth 100000
set_option maxHeartbeats 4000000
/-! D32: the tape, begun. -/
namespace Dl
open PySem PySem.Spec PyProof.Rows L2
def beN : List Str := ["script", "large", "grain"]
/-- a comprehension's block over grain -/
def GrB (sc s : Scope) : Bool := blkC beN sc s [("grain", 2)] && decide ((relS s sc).names.lookup ("grain" : Str) = some .local) && decide ((relS s sc).names.lookup ("abs" : Str) = some .globalImplicit)
def BegunTx (sc : Scope) (body : List Stmt) : Prop := ∃ (k1 k2 k3 k4 k5 k6 k7 k8 k9 k10 : Nat) (s1 s2 : Scope) (p1 p2 p3 p4 p5 p6 p7 p8 p9 p10 p11 p12 p13 p14 p15 p16 p17 p18 p19 p20 p21 p22 p23 p24 p25 p26 p27 p28 p29 p30 p31 p32 p33 p34 : Pos), GrB sc s1 = true ∧ GrB sc s2 = true ∧ swB sc (.ListComp (.BinOp (.Call (.Name "abs" p2) [.Name "grain" p3] [] p4) .Sub (.BinOp (.Constant (.int 10) k1 p5) .Pow (.Constant (.int 18) k2 p6) p7) p8) [⟨.Name "grain" p9, .Name "script" p10, [.Compare (.Call (.Name "abs" p11) [.Name "grain" p12] [] p13) [.GtE] [.BinOp (.Constant (.int 10) k3 p14) .Pow (.Constant (.int 18) k4 p15) p16] p17], 0⟩] s1 p18) "large" p1 = true ∧ body = [.Assign [.Name "large" p1] (.ListComp (.BinOp (.Call (.Name "abs" p2) [.Name "grain" p3] [] p4) .Sub (.BinOp (.Constant (.int 10) k1 p5) .Pow (.Constant (.int 18) k2 p6) p7) p8) [⟨.Name "grain" p9, .Name "script" p10, [.Compare (.Call (.Name "abs" p11) [.Name "grain" p12] [] p13) [.GtE] [.BinOp (.Constant (.int 10) k3 p14) .Pow (.Constant (.int 18) k4 p15) p16] p17], 0⟩] s1 p18) p19, .Return (some (.Dict [some (.Constant (.str "large") k5 p20), some (.Constant (.str "rest") k6 p21), some (.Constant (.str "cells") k7 p22), some (.Constant (.str "turn") k8 p23)] [.Name "large" p24, .Constant (.int 0) k9 p25, .ListComp (.Call (.Name "abs" p26) [.Name "grain" p27] [] p28) [⟨.Name "grain" p29, .Name "script" p30, [], 0⟩] s2 p31, .Constant (.int 0) k10 p32] p33)) p34]
def absI (i : Int) : Int := if i < 0 then -i else i
def largeOf (ns : List Int) : List Int := (ns.filter fun n => decide (10 ^ 18 ≤ absI n)).map fun n => absI n - 10 ^ 18
def tape0 (ns : List Int) : Tape := ⟨largeOf ns, 0, ns.map absI, 0⟩
theorem ifT {b : Bool} {P Q : Prop} (h : b = true) (p : P) : if b = true then P else Q := by rw [if_pos h]; exact p
theorem ifF {b : Bool} {P Q : Prop} (h : b = false) (p : Q) : if b = true then P else Q := by rw [h, if_neg Bool.false_ne_true]; exact p
theorem sql_keep {K : PySem.W.Frag} {H H' : Hp} {a : Addr} {xs : List V} (h : SqL K H a xs) (k : ∀ b o, H b = some o → H' b = some o) : SqL K H' a xs := by
  rcases h with (h | ⟨o, h⟩) | h
  · exact .inl (.inl (k _ _ h))
  · exact .inl (.inr ⟨o, k _ _ h⟩)
  · exact .inr h
section
variable {X : Cx}
theorem begun_term (nN : X.N = beN) (l0 : X.env.scope.names.lookup ("script" : Str) = some .local) (l1 : X.env.scope.names.lookup ("large" : Str) = some .local) (hk : X.env.scope.kind = .function) (ma : X.mg "abs" = none) (hc : X.calm = true) {k1 k2 k3 k4 k5 k6 k7 k8 k9 k10 : Nat} {s1 s2 : Scope} {p1 p2 p3 p4 p5 p6 p7 p8 p9 p10 p11 p12 p13 p14 p15 p16 p17 p18 p19 p20 p21 p22 p23 p24 p25 p26 p27 p28 p29 p30 p31 p32 p33 p34 : Pos}
    (h1 : GrB X.env.scope s1 = true) (h2 : GrB X.env.scope s2 = true) (h3 : swB X.env.scope (.ListComp (.BinOp (.Call (.Name "abs" p2) [.Name "grain" p3] [] p4) .Sub (.BinOp (.Constant (.int 10) k1 p5) .Pow (.Constant (.int 18) k2 p6) p7) p8) [⟨.Name "grain" p9, .Name "script" p10, [.Compare (.Call (.Name "abs" p11) [.Name "grain" p12] [] p13) [.GtE] [.BinOp (.Constant (.int 10) k3 p14) .Pow (.Constant (.int 18) k4 p15) p16] p17], 0⟩] s1 p18) "large" p1 = true) :
    ∃ t, PSs X [.Assign [.Name "large" p1] (.ListComp (.BinOp (.Call (.Name "abs" p2) [.Name "grain" p3] [] p4) .Sub (.BinOp (.Constant (.int 10) k1 p5) .Pow (.Constant (.int 18) k2 p6) p7) p8) [⟨.Name "grain" p9, .Name "script" p10, [.Compare (.Call (.Name "abs" p11) [.Name "grain" p12] [] p13) [.GtE] [.BinOp (.Constant (.int 10) k3 p14) .Pow (.Constant (.int 18) k4 p15) p16] p17], 0⟩] s1 p18) p19, .Return (some (.Dict [some (.Constant (.str "large") k5 p20), some (.Constant (.str "rest") k6 p21), some (.Constant (.str "cells") k7 p22), some (.Constant (.str "turn") k8 p23)] [.Name "large" p24, .Constant (.int 0) k9 p25, .ListComp (.Call (.Name "abs" p26) [.Name "grain" p27] [] p28) [⟨.Name "grain" p29, .Name "script" p30, [], 0⟩] s2 p31, .Constant (.int 0) k10 p32] p33)) p34] t ∧ ∀ (D : Ends) (σ : L2.St) (H : Hp) (a : Addr) (ns : List Int), σ.length = 3 → σ[0]? = some (some (.ref a)) → SqL X.K H a (ns.map V.int) → ns.length ≤ 63 →
      (∀ H' t0, (∀ b o, H b = some o → H' b = some o) → H t0.ta = none → H t0.la = none → H t0.ca = none → TapeAt H' t0 (tape0 ns) → D.rt (.ref t0.ta) H') → t D σ H := by
  have nd : X.N.Nodup := by rw [nN]; decide
  have ps : ∀ {q}, PE X (.Name "script" q) (tVar 0) := pe_var (by rw [nN]; rfl) (.inl l0) (by decide) (by decide)
  have pl : ∀ {q}, PE X (.Name "large" q) (tVar 1) := pe_var (by rw [nN]; rfl) (.inl l1) (by decide) (by decide)
  unfold GrB at h1 h2
  simp only [Bool.and_eq_true, decide_eq_true_eq] at h1 h2
  obtain ⟨⟨b1, g1⟩, a1⟩ := h1
  obtain ⟨⟨b2, g2⟩, a2⟩ := h2
  have ok1 : BlkOk X.N X.env.scope s1 [("grain", 2)] := by rw [nN]; exact blkOk_by b1
  have ok2 : BlkOk X.N X.env.scope s2 [("grain", 2)] := by rw [nN]; exact blkOk_by b2
  have pgr : ∀ {s : Shared} {H : Hp} {C : Addr} {cl : List (Str × Addr)} {fp : List Addr} {sc : Scope} {q}, (relS sc X.env.scope).names.lookup ("grain" : Str) = some .local → PE (X.blk s H sc (compEnvC sc cl C X.env) fp) (.Name "grain" q) (tVar 2) := fun e => pe_var (by show X.N[2]? = _; rw [nN]; rfl) (.inl e) (by decide) (by decide)
  have gg : ∀ {s : Shared} {H : Hp} {C : Addr} {cl : List (Str × Addr)} {fp : List Addr} {sc : Scope} {q}, (relS sc X.env.scope).names.lookup ("grain" : Str) = some .local → PG (X.blk s H sc (compEnvC sc cl C X.env) fp) (.Name "grain" q) (gName 2) := fun e => pg_name nd (by show X.N[2]? = _; rw [nN]; rfl) (.inl e) (.inr e)
  have pab : ∀ {s : Shared} {H : Hp} {C : Addr} {cl : List (Str × Addr)} {fp : List Addr} {sc : Scope} {q q1 q2}, (relS sc X.env.scope).names.lookup ("grain" : Str) = some .local → (relS sc X.env.scope).names.lookup ("abs" : Str) = some .globalImplicit → PE (X.blk s H sc (compEnvC sc cl C X.env) fp) (.Call (.Name "abs" q) [.Name "grain" q1] [] q2) (tCB (fun xs H Q => ∃ i, xs = [.int i] ∧ Q (.int (if i < 0 then -i else i)) H) (tCons (tVar 2) tNil)) := fun e e' => pe_callB call_abs e' ma boot_abs (pa_cons (pgr e) pa_nil) (by decide) (by decide) rfl rfl
  refine ⟨_, pss_cons (ps_setLc (i := 1) (own := [("grain", 2)]) hc nd (by rw [nN]; rfl) l1 (by rw [swB_ok hk, h3]) (pi_list ps) ok1 (fun _ _ _ _ _ => gg g1) (fun _ _ _ _ _ => pts_one (pt_cmpR op_ge (pab g1 a1) (pe_op op_pow pe_int pe_int) rfl)) (fun _ _ _ _ _ => pe_op op_sub (pab g1 a1) (pe_op op_pow pe_int pe_int)))
    (pss_one (ps_ret (pe_disp (pps_cons pe_str pl (pps_cons pe_str pe_int (pps_cons pe_str (pe_lc (own := [("grain", 2)]) hc nd (pi_list ps) ok2 (fun _ _ _ _ _ => gg g2) (fun _ _ _ _ _ => pts_nil) (fun _ _ _ _ _ => pab g2 a2)) (pps_cons pe_str pe_int pps_nil)))) rfl rfl (by simp) (by show 4 ≤ 15; decide)))), fun D σ H a ns hl h0 hs hn hq => ?_⟩
  have wl : ∀ s : L2.St, s.length = 3 → ((wipe s [2]).length = 3 ∧ (wipe s [2])[0]? = s[0]? ∧ (wipe s [2])[1]? = s[1]?) := fun s hs => ⟨by rw [wipe_length]; exact hs, by show (s.set 2 none)[0]? = _; rw [List.getElem?_set_ne (by decide)], by show (s.set 2 none)[1]? = _; rw [List.getElem?_set_ne (by decide)]⟩
  have z63 : ∀ k : Nat, k ≤ 63 → k < sizeLine := fun k h => by rw [sizeLine_eq]; omega
  have ww : ∀ (s : L2.St) (v : Option V), s.length = 3 → wipe ((wipe s [2]).set 2 v) [2] = wipe s [2] := fun s v hs => by
    show ((s.set 2 none).set 2 v).set 2 none = s.set 2 none
    rw [List.set_set, List.set_set]
  have gx : ∀ (s : L2.St) (v : V), s.length = 3 → ((wipe s [2]).set 2 (some v))[2]? = some (some v) := fun s v hs => by rw [List.getElem?_set_self (by rw [wipe_length]; omega)]
  have item : ∀ {i : Nat} {x : V}, (ns.map V.int)[i]? = some x → ∃ n, ns[i]? = some n ∧ x = V.int n := fun {i x} hx => by
    rw [List.getElem?_map] at hx
    cases e : ns[i]? with
    | none => rw [e] at hx; cases hx
    | some g => rw [e] at hx; cases hx; exact ⟨g, rfl, rfl⟩
  have p18 : ((10 : Int) ^ (18 : Int).toNat) = 10 ^ 18 := rfl
  refine ⟨_, h0, a, rfl, ⟨_, hs⟩, fun la hla => ?_⟩
  refine lc_list (xs := ns.map V.int) (fun i H' => (∀ b o, H b = some o → H' b = some o) ∧ H' la = some (.lst ((largeOf (ns.take i)).map V.int)) ∧ (largeOf (ns.take i)).length ≤ i) ⟨fun b o e => by rw [upd_ne (ne_of_none e hla)]; exact e, by rw [upd_same]; rfl, by simp [largeOf]⟩ (fun i H' _ h => sql_keep hs h.1) (fun i x H' hx ⟨k1, k2, k3⟩ => ?_) fun H1 ⟨k1, k2, _⟩ => ?_
  · obtain ⟨n, hn', rfl⟩ := item hx
    have hi : i < ns.length := (List.getElem?_eq_some_iff.mp hn').1
    refine ⟨ww σ _ hl, ?_⟩
    refine ⟨_, gx σ _ hl, n, rfl, 10, 18, rfl, rfl, ⟨by decide, by decide, by decide⟩, _, _, rfl, rfl, _, rfl, ?_⟩
    have ts : largeOf (ns.take (i + 1)) = largeOf (ns.take i) ++ (if 10 ^ 18 ≤ absI n then [absI n - 10 ^ 18] else []) := by
      rw [List.take_add_one, hn']
      unfold largeOf
      rw [List.filter_append, List.map_append]
      congr 1
      by_cases hz : (10 : Int) ^ 18 ≤ absI n
      · rw [if_pos hz]
        simp only [Option.toList_some, List.filter_cons, decide_eq_true hz, if_true, List.filter_nil, List.map_cons, List.map_nil]
      · rw [if_neg hz]
        simp only [Option.toList_some, List.filter_cons, decide_eq_false hz, Bool.false_eq_true, if_false, List.filter_nil, List.map_nil]
    by_cases hz : (10 : Int) ^ 18 ≤ absI n
    · rw [if_pos hz] at ts
      refine ifT (decide_eq_true (show (10 : Int) ^ 18 ≤ (if n < 0 then -n else n) from hz)) ?_
      refine ⟨_, gx σ _ hl, n, rfl, 10, 18, rfl, rfl, ⟨by decide, by decide, by decide⟩, _, _, rfl, rfl, _, k2, z63 _ (by rw [List.length_map]; omega), fun b o e => by rw [upd_ne (ne_of_none e hla)]; exact k1 b o e, ?_, by rw [ts, List.length_append]; simp; omega⟩
      rw [upd_same, ts, List.map_append]
      rfl
    · rw [if_neg hz, List.append_nil] at ts
      refine ifF (decide_eq_false (show ¬ (10 : Int) ^ 18 ≤ (if n < 0 then -n else n) from hz)) ?_
      exact ⟨k1, by rw [ts]; exact k2, by rw [ts]; omega⟩
  · rw [List.length_map, List.take_length] at k2
    intro p hp
    have s1 : (σ.set 1 (some (V.ref la)))[1]? = some (some (.ref la)) := by rw [List.getElem?_set_self (by omega)]
    have s0 : (σ.set 1 (some (V.ref la)))[0]? = some (some (.ref a)) := by rw [List.getElem?_set_ne (by decide)]; exact h0
    have sl : (σ.set 1 (some (V.ref la))).length = 3 := by simp [hl]
    have lap : la ≠ p := ne_of_none k2 hp
    refine ⟨_, s1, ?_⟩
    refine ⟨_, s0, a, rfl, ⟨_, sql_keep hs fun b o e => by rw [upd_ne (ne_of_none (k1 b o e) hp)]; exact k1 b o e⟩, fun ca hca => ?_⟩
    have pca : p ≠ ca := fun z => by rw [← z, upd_same] at hca; cases hca
    have hca1 : H1 ca = none := by rw [upd_ne (Ne.symm pca)] at hca; exact hca
    have laca : la ≠ ca := ne_of_none k2 hca1
    refine lc_list (xs := ns.map V.int) (fun i H' => (∀ b o, H1 b = some o → H' b = some o) ∧ H' p = some (.dK []) ∧ H' ca = some (.lst (((ns.take i).map absI).map V.int))) ⟨fun b o e => by rw [upd_ne (ne_of_none e hca1), upd_ne (ne_of_none e hp)]; exact e, by rw [upd_ne pca, upd_same], by rw [upd_same]; rfl⟩ (fun i H' _ h => sql_keep hs fun b o e => h.1 b o (k1 b o e)) (fun i x H' hx ⟨q1, q2, q3⟩ => ?_) fun H2 ⟨q1, q2, q3⟩ => ?_
    · obtain ⟨n, hn', rfl⟩ := item hx
      have hi : i < ns.length := (List.getElem?_eq_some_iff.mp hn').1
      refine ⟨ww _ _ sl, ?_⟩
      refine ⟨_, gx _ _ sl, n, rfl, _, q3, z63 _ (by simp; omega), fun b o e => by rw [upd_ne (ne_of_none e hca1)]; exact q1 b o e, by rw [upd_ne pca]; exact q2, ?_⟩
      rw [upd_same, List.take_add_one, hn']
      simp
      rfl
    · rw [List.length_map, List.take_length] at q3
      refine ⟨q2, [(.inr "large", .ref la), (.inr "rest", .int 0), (.inr "cells", .ref ca), (.inr "turn", .int 0)], rfl, by show 4 ≤ 15; decide, ?_⟩
      have em : mergeK [] [((.inr "large" : Key), V.ref la), (.inr "rest", .int 0), (.inr "cells", .ref ca), (.inr "turn", .int 0)] = [(.inr "large", .ref la), (.inr "rest", .int 0), (.inr "cells", .ref ca), (.inr "turn", .int 0)] := rfl
      rw [em]
      have hH : ∀ b o, H b = some o → b ≠ p := fun b o e => ne_of_none (k1 b o e) hp
      have none_of : ∀ q, H1 q = none → H q = none := fun q e => by
        cases z : H q with
        | none => rfl
        | some o => rw [k1 q o z] at e; cases e
      refine hq _ ⟨p, la, ca⟩ (fun b o e => by rw [upd_ne (hH b o e)]; exact q1 b o (k1 b o e)) (none_of p hp) hla (none_of ca hca1) ⟨Ne.symm lap, pca, laca, by rw [upd_same]; rfl, by rw [upd_ne lap]; exact q1 _ _ k2, by rw [upd_ne (Ne.symm pca)]; exact q3⟩
end
end Dl

set_option maxRecDepth 100000
set_option maxHeartbeats 4000000
/-! D33: the tape's defs, the law's def. -/
namespace Dl
open PySem PySem.Spec PyProof.Rows L2
section
variable {P : Program} {w : World} {K : PySem.W.Frag} {mg : Str → Option Value} {base : Heap} {Γ : Tbl} {Z : Nms} {G0 : Gl0} {fs : List Fn}
theorem tpx {qual : Str} {scp : Scope} {N ps : List Str} {fa : Addr} {cdv : Value} {A : Around} {outer : List Env} {s : Shared} {H : Hp} {E : XK} {k : Nat} (S : FnScope N ps scp) (loc : ∀ x ∈ N, scp.names.lookup x = some .local) (gi : scp.names.lookup ("int" : Str) = some .globalImplicit) (mi : mg "int" = none) (hr : Room k (A.deeper (envOfC qual scp s.heap.objs.size fa cdv))) :
    TpX (cxOf (L2.CX P w) P w K mg base N qual scp fa cdv A outer s H E) N :=
  ⟨rfl, S.nd, loc, S.kind, gi, mi, rfl, passes_of rfl, by have := hr.un; show (A.deeper (envOfC qual scp s.heap.objs.size fa cdv)).units + 65 < cLine; omega⟩
theorem start_at {N : List Str} {vs : List V} {i : Nat} {v : V} (h : vs[i]? = some v) : (L2.start N vs)[i]? = some (some v) := by
  have hi : i < vs.length := (List.getElem?_eq_some_iff.mp h).1
  unfold L2.start
  rw [List.getElem?_append_left (by simpa using hi), List.getElem?_map, h]
  rfl
theorem start_len {N : List Str} {vs : List V} (h : vs.length ≤ N.length) : (L2.start N vs).length = N.length := by
  unfold L2.start
  rw [List.length_append, List.length_map, List.length_replicate]
  omega
theorem blend_ok {x qual : Str} {st : Stmt} {fa : Addr} {fd : FuncData} (F : FunD K x qual (defArgs st) (defBody st) (defScope st) [] [] fa fd) (S : FnScope blN ["tape"] (defScope st)) (hk : (defScope st).kind = .function) (loc : ∀ x ∈ blN, (defScope st).names.lookup x = some .local) (gi : (defScope st).names.lookup ("int" : Str) = some .globalImplicit) (mi : mg "int" = none) (tx : BlendTx (defScope st) (defBody st)) :
    FnOk P w K mg base (L2.CX P w) 1 fa fd ["tape"] spBlend := by
  refine funD_ok F S (fun vs H Q E ⟨_, _, _, _, e, _⟩ => by rw [e]; rfl) fun cdv A outer s H vs Q E hc hr h => ?_
  obtain ⟨t0, cells, rest, turn, rfl, h1, h2, h3, h4⟩ := h
  unfold BlendTx at tx
  obtain ⟨k1, k2, k3, k4, k5, k6, k7, k8, k9, k10, k11, k12, k13, k14, k15, k16, p1, p2, p3, p4, p5, p6, p7, p8, p9, p10, p11, p12, p13, p14, p15, p16, p17, p18, p19, p20, p21, p22, p23, p24, p25, p26, p27, p28, p29, p30, p31, p32, p33, p34, p35, p36, p37, p38, p39, p40, p41, p42, p43, p44, p45, p46, p47, p48, p49, p50, p51, p52, p53, p54, p55, p56, p57, p58, p59, p60, p61, p62, p63, p64, p65, p66, hsw, eb⟩ := tx
  rw [eb]
  have T := tpx (P := P) (w := w) (K := K) (mg := mg) (base := base) (outer := outer) (H := H) (E := E) S loc gi mi hr
  obtain ⟨t, ht, hq⟩ := blend_term T (swT_ok hk hsw)
  exact ⟨t, ht, hq _ _ H t0 cells rest turn (start_len (by simp [blN, drN, beN])) (start_at rfl) h1 h2 h3 h4⟩
theorem wr_tape {G : Gl0} {H : Hp} {W : Wd} {t : TLoc} (h : WR G H W) (e : G.T = some t) : TapeAt H t W.tp := by
  obtain ⟨h1, _⟩ := h
  rw [e] at h1
  obtain ⟨a, b, c, d, f, g⟩ := h1
  exact ⟨a, b, c, d, f, g⟩
theorem tape_wr {G : Gl0} {H : Hp} {tp : Tape} {t : TLoc} (h : TapeAt H t tp) (e : G.T = some t) (tb : LamX.Tabs G.TB H) : WR G H ⟨tp⟩ := by
  refine ⟨?_, tb⟩
  rw [e]
  exact ⟨h.n1, h.n2, h.n3, h.at_, h.la, h.ca⟩
/-- tables stay where the tape alone is written -/
theorem tabs_kept {T : List (Addr × Str)} {H H' : Hp} {t : TLoc} {tp : Tape} (h : LamX.Tabs T H) (ta : TapeAt H t tp) (k : ∀ b o, H b = some o → b ≠ t.ta → b ≠ t.la → H' b = some o) : LamX.Tabs T H' := fun p hp => by
  obtain ⟨ps, h1, h2, h3⟩ := h p hp
  have ne : ∀ {b : Addr} {o : HO}, H b = some o → (∀ kvs, o ≠ .dK kvs) → (∀ xs, o ≠ .lst xs) → H' b = some o := fun {b o} e n1 n2 => k b o e (fun z => by rw [z, ta.at_] at e; exact n1 _ (Option.some.inj e).symm) (fun z => by rw [z, ta.la] at e; exact n2 _ (Option.some.inj e).symm)
  refine ⟨ps, ne h1 (fun _ z => by cases z) (fun _ z => by cases z), h2, fun pos cv hc => ?_⟩
  obtain ⟨c, e1, e2⟩ := h3 pos cv hc
  exact ⟨c, e1, ne e2 (fun _ z => by unfold LamX.CodeO at z; cases z) (fun _ z => by unfold LamX.CodeO at z; cases z)⟩
theorem draw_ok {x qual : Str} {st : Stmt} {fa fb : Addr} {fd fdb : FuncData} {k : Nat} (F : FunD K x qual (defArgs st) (defBody st) (defScope st) [] [] fa fd) (S : FnScope drN ["tape", "size"] (defScope st)) (loc : ∀ x ∈ drN, (defScope st).names.lookup x = some .local) (gi : (defScope st).names.lookup ("int" : Str) = some .globalImplicit) (gb : (defScope st).names.lookup ("_law_blend" : Str) = some .globalImplicit) (mi : mg "int" = none) (tx : DrawTx (defBody st))
    (FB : FnOk P w K mg base (L2.CX P w) 1 fb fdb ["tape"] spBlend) (mb : mg "_law_blend" = some (.ref fb)) (kb : PySem.W.keepIn K (.ref fb) = true) (bb : Binds K fdb ["tape"] []) (hk : 2 ≤ k) :
    FnOk P w K mg base (L2.CX P w) k fa fd ["tape", "size"] (spF w G0 drawP) := by
  refine FnOk.mono (funD_ok (k := 1) F S (fun vs H Q E h => ?_) fun cdv A outer s H vs Q E hc hr h => ?_) hk
  · obtain ⟨T, B, ds, W, _, _, rl, _, h⟩ := h
    rw [rl.len]
    unfold drawP at h
    split at h
    · rfl
    · exact h.elim
  · obtain ⟨T, B, ds, W, hB, hd, rl, wr, h⟩ := h
    unfold drawP at h
    split at h
    · rename_i n
      split at h
      · rename_i hn
        cases rl with
        | cons r1 rl =>
          cases rl with
          | cons r2 rl =>
            cases rl
            cases r2
            cases r1 with
            | @tape t e =>
              have e : T = some t := e
              subst e
              have ta := wr_tape wr rfl
              unfold DrawTx at tx
              obtain ⟨k1, k2, k3, k4, k5, k6, k7, k8, k9, p1, p2, p3, p4, p5, p6, p7, p8, p9, p10, p11, p12, p13, p14, p15, p16, p17, p18, p19, p20, p21, p22, p23, p24, p25, p26, p27, p28, p29, p30, p31, p32, p33, p34, p35, p36, p37, p38, p39, p40, p41, p42, p43, p44, p45, p46, p47, hline, eb⟩ := tx
              rw [eb]
              have T := tpx (P := P) (w := w) (K := K) (mg := mg) (base := base) (outer := outer) (H := H) (E := E) S loc gi mi hr
              have tk : Takes (cxOf (L2.CX P w) P w K mg base drN qual (defScope st) fa cdv A outer s H E) (fun cls d _ H => E cls d H) := takes_of rfl rfl rfl rfl
              obtain ⟨tt, ht, hq⟩ := draw_term T hline FB hr gb mb kb bb (passes_call tk fun _ _ _ _ z => z.elim)
              refine ⟨tt, ht, hq _ _ H t W.tp n (start_len (by simp [blN, drN, beN])) (start_at rfl) (start_at rfl) hn.1 hn.2 ta fun H' hkp ta' => ?_⟩
              refine h _ H' ⟨fun a o ea hs _ => ⟨hkp a o ea (fun z => hs (.inl z)) (fun z => hs (.inr (.inl z))), hs⟩, fun a ea => ?_⟩ (tape_wr ta' rfl (tabs_kept wr.2 ta hkp)) (.int _)
              obtain ⟨o, eo⟩ := Option.ne_none_iff_exists'.mp ea
              by_cases z1 : a = t.ta
              · rw [z1, ta'.at_]; simp
              · by_cases z2 : a = t.la
                · rw [z2, ta'.la]; simp
                · rw [hkp a o eo z1 z2]; simp
      · exact h.elim
    · exact h.elim
def spBegun (K : PySem.W.Frag) : Sp := fun vs H Q _ => ∃ (a : Addr) (ns : List Int), vs = [.ref a] ∧ SqL K H a (ns.map V.int) ∧ ns.length ≤ 63 ∧ ∀ H' t0, (∀ b o, H b = some o → H' b = some o) → H t0.ta = none → H t0.la = none → H t0.ca = none → TapeAt H' t0 (tape0 ns) → Q (.ref t0.ta) H'
theorem begun_ok {x qual : Str} {st : Stmt} {fa : Addr} {fd : FuncData} (F : FunD K x qual (defArgs st) (defBody st) (defScope st) [] [] fa fd) (S : FnScope beN ["script"] (defScope st)) (hk : (defScope st).kind = .function) (l0 : (defScope st).names.lookup ("script" : Str) = some .local) (l1 : (defScope st).names.lookup ("large" : Str) = some .local) (ma : mg "abs" = none) (tx : BegunTx (defScope st) (defBody st)) :
    FnOk P w K mg base (L2.CX P w) 1 fa fd ["script"] (spBegun K) := by
  refine funD_ok F S (fun vs H Q E ⟨_, _, e, _⟩ => by rw [e]; rfl) fun cdv A outer s H vs Q E hc hr h => ?_
  obtain ⟨a, ns, rfl, h1, h2, h3⟩ := h
  unfold BegunTx at tx
  obtain ⟨k1, k2, k3, k4, k5, k6, k7, k8, k9, k10, s1, s2, p1, p2, p3, p4, p5, p6, p7, p8, p9, p10, p11, p12, p13, p14, p15, p16, p17, p18, p19, p20, p21, p22, p23, p24, p25, p26, p27, p28, p29, p30, p31, p32, p33, p34, g1, g2, g3, eb⟩ := tx
  rw [eb]
  obtain ⟨t, ht, hq⟩ := begun_term (X := cxOf (L2.CX P w) P w K mg base beN qual (defScope st) fa cdv A outer s H E) rfl l0 l1 hk ma rfl g1 g2 g3
  exact ⟨t, ht, hq _ _ H a ns (start_len (by simp [blN, drN, beN])) (start_at rfl) h1 h2 fun H' t0 a b c d e => h3 H' t0 a b c d e⟩
def spLaw (K : PySem.W.Frag) (TB : List (Addr × Str)) : Sp := fun vs H Q _ => ∃ (a : Addr) (ns : List Int), vs = [.ref a] ∧ SqL K H a (ns.map V.int) ∧ ns.length ≤ 63 ∧ (∀ p ∈ TB, H p.1 = some (.tbl #[])) ∧ ∀ H', Q (.bl true) H'
/-- the law: its first statement begins the tape -/
theorem law_ok (h : Prog P w K mg base Γ Z G0 fs) {x qual tp bg sn : Str} {st : Stmt} {fa fb : Addr} {fd fdb : FuncData} {N : List Str} {rest : List Stmt} {l : Bool} {m n it : Nat} {p1 p2 p3 p4 p5 : Pos} (F : FunD K x qual (defArgs st) (defBody st) (defScope st) [] [] fa fd) (S : FnScope (sn :: N) [sn] (defScope st)) (hk : isFnK (defScope st) = true) (hl : l = true → LamOk base mg G0.TB qual (defScope st) fd)
    (eb : defBody st = .Assign [.Name tp p1] (.Call (.Name bg p2) [.Name sn p3] [] p4) p5 :: rest) (ht : N[it]? = some tp) (vt : (defScope st).names.lookup tp = some .local ∨ (defScope st).names.lookup tp = some .cell) (vs : Vis (defScope st) sn) (os : okNm sn = true) (gb : (defScope st).names.lookup bg = some .globalImplicit) (ob : okNm bg = true)
    (FB : FnOk P w K mg base (L2.CX P w) 1 fb fdb ["script"] (spBegun K)) (mb : mg bg = some (.ref fb)) (kb : PySem.W.keepIn K (.ref fb) = true) (bb : Binds K fdb ["script"] [])
    (sem : ∀ ns : List Int, ns.length ≤ 63 → ∃ f W', semSs Γ (callF Γ fs m) (cSs Z (sn :: N) l n (defScope st) rest) (none :: (List.replicate N.length none).set it (some (.val .tape))) ⟨tape0 ns⟩ = .ok (.rt (.bl true, f)) W') :
    FnOk P w K mg base (L2.CX P w) (4 * m + 5) fa fd [sn] (spLaw K G0.TB) := by
  refine funD_ok F S (fun vs H Q E ⟨_, _, e, _⟩ => by rw [e]; rfl) fun cdv A outer s H vs Q E hc hr hsp => ?_
  obtain ⟨a, ns, rfl, h1, h2, h3, h4⟩ := hsp
  rw [eb]
  have tk : Takes (cxOf (L2.CX P w) P w K mg base (sn :: N) qual (defScope st) fa cdv A outer s H E) (fun cls d _ H => E cls d H) := takes_of rfl rfl rfl rfl
  have E1 : PE (cxOf (L2.CX P w) P w K mg base (sn :: N) qual (defScope st) fa cdv A outer s H E) (.Call (.Name bg p2) [.Name sn p3] [] p4) _ :=
    pe_call (E := fun _ _ _ => False) FB (hr.mono (by omega)) gb mb kb bb .nil (passes_call tk fun _ _ _ _ z => z.elim) (pa_cons (pe_var (i := 0) rfl vs (okNm_ok os).1 (okNm_ok os).2) pa_nil) (okNm_ok ob).1
  have ht1 : (sn :: N)[it + 1]? = some tp := by rw [List.getElem?_cons_succ]; exact ht
  have S1 := ps_set (X := cxOf (L2.CX P w) P w K mg base (sn :: N) qual (defScope st) fa cdv A outer s H E) (i := it + 1) (pos := p5) (pos' := p1) S.nd ht1 (vt.elim .inl .inr) E1 (by rfl) (.inl rfl)
  have S2 : ∀ C : Cd, C.w = w → C.G = { G0 with T := C.G.T } → C.E = E → PSs (cxOf (L2.CX P w) P w K mg base (sn :: N) qual (defScope st) fa cdv A outer s H E) rest (tS C (semSs Γ (callF Γ fs m) (cSs Z (sn :: N) l n (defScope st) rest))) := fun C e1 e2 e3 =>
    (soundS (by omega) n (C := C) (sc := defScope st) (ctx_def (tab_all h m) e1 e2 e3 S.nd hk hr hc hl)).2 rest
  have S3 : PSs (cxOf (L2.CX P w) P w K mg base (sn :: N) qual (defScope st) fa cdv A outer s H E) rest (fun D0 σ H1 => ∃ C : Cd, C.w = w ∧ C.G = { G0 with T := C.G.T } ∧ C.E = E ∧ tS C (semSs Γ (callF Γ fs m) (cSs Z (sn :: N) l n (defScope st) rest)) D0 σ H1) := ⟨fun pins s' σ H1 D0 I ⟨C, e1, e2, e3, q⟩ => (S2 C e1 e2 e3).run pins s' σ H1 D0 I q⟩
  refine ⟨_, pss_cons S1 S3, ?_⟩
  refine ⟨_, start_at rfl, a, ns, rfl, h1, h2, fun H1 t0 hkp f1 f2 f3 ta => ?_⟩
  obtain ⟨f, W', es⟩ := sem ns h2
  have hit : it < N.length := (List.getElem?_eq_some_iff.mp ht).1
  have tabs : LamX.Tabs G0.TB H1 := fun p hp => LamX.TabS.nil (hkp _ _ (h3 p hp))
  have noOwn : ∀ (j : Nat) (d : D), (none :: (List.replicate N.length none).set it (some (Sl.val .tape)) : Lcl)[j]? ≠ some (some (Sl.own d)) := fun j d e => by
    cases j with
    | zero => simp at e
    | succ j =>
      have e : ((List.replicate N.length none).set it (some (Sl.val D.tape)) : Lcl)[j]? = some (some (Sl.own d)) := by simpa using e
      rw [getElem?_set _ _ _ _ (by simpa using hit)] at e
      split at e
      · cases e
      · rw [List.getElem?_replicate] at e
        split at e <;> cases e
  refine ⟨⟨w, { G0 with T := some t0 }, TN (some t0), H1, E⟩, rfl, rfl, rfl, none :: (List.replicate N.length none).set it (some (.val .tape)), ⟨tape0 ns⟩, ?_, tape_wr ta rfl tabs, ?_⟩
  · have noOA : ∀ {σ : L2.St} {b : Addr}, ¬ OA σ (none :: (List.replicate N.length none).set it (some (Sl.val .tape))) b := fun {σ b} ⟨j, d, e, _⟩ => noOwn j d e
    exact {
      len := by
        rw [List.length_set, start_len (by simp)]
        simp
      val := fun j d e => by
        cases j with
        | zero => simp at e
        | succ j =>
          have e : ((List.replicate N.length none).set it (some (Sl.val D.tape)) : Lcl)[j]? = some (some (Sl.val d)) := by simpa using e
          by_cases ej : it = j
          · subst ej
            rw [List.getElem?_set_self (by simpa using hit)] at e
            cases e
            refine ⟨.ref t0.ta, ?_, .tape rfl⟩
            rw [List.getElem?_set_self (by rw [start_len (by simp)]; simp; omega)]
          · rw [List.getElem?_set_ne ej, List.getElem?_replicate] at e
            split at e <;> cases e
      own := fun j d e => (noOwn j d e).elim
      inj := fun j k d e a h1 => (noOwn j d h1).elim
      dom := fun b z => by
        rcases z with z | z
        · rcases z with z | z | z
          · rw [z, ta.at_]; simp
          · rw [z, ta.la]; simp
          · rw [z, ta.ca]; simp
        · exact (noOA z).elim
      tn := fun b z => z
      ent := fun b o e hs _ => ⟨e, fun z => z.elim hs noOA⟩
      edom := fun b z => z }
  · rw [es]
    intro v H' _ _ rv
    cases rv
    exact h4 H'
end
end Dl

set_option maxRecDepth 100000
set_option maxHeartbeats 4000000
/-! D34: the classes' facts. -/
namespace Dl
open PySem PySem.Spec PyProof.Rows L2
theorem kfB_ok {K : Fg} {cls : Nat → Addr} {Γ : Tbl} {cs : List Nat} (hc : ∀ c, (Γ.isIns c || Γ.isExc c) = true → c ∈ cs) (h : (kfB K cls Γ cs).all id = true) : KF K cls Γ := by
  have A := List.all_eq_true.mp h
  unfold kfB at A
  have o1 : ∀ c, Γ.isIns c = true → (Γ.isIns c || Γ.isExc c) = true := fun c h => by rw [h]; rfl
  have o2 : ∀ c, Γ.isExc c = true → (Γ.isIns c || Γ.isExc c) = true := fun c h => by rw [h]; simp
  refine ⟨fun c hi => ?_, fun c hi => ?_, ?_, ?_, fun c hi => ?_, fun c d hi hj => ?_, fun n hn d hi => ?_, fun c hi n hn => ?_⟩
  · have := List.all_eq_true.mp (A _ (.head _)) c (hc c (o1 c hi))
    exact He.ba (or_not this hi)
  · have := List.all_eq_true.mp (A _ (.tail _ (.head _))) c (hc c hi)
    obtain ⟨a, b⟩ := He.ba (or_not this hi)
    exact ⟨He.eqO_ok a, of_decide_eq_true b⟩
  · exact He.eqO_ok (A _ (.tail _ (.tail _ (.head _))))
  · exact of_decide_eq_true (A _ (.tail _ (.tail _ (.tail _ (.head _)))))
  · have := List.all_eq_true.mp (A _ (.tail _ (.tail _ (.tail _ (.tail _ (.head _)))))) c (hc c (o2 c hi))
    obtain ⟨a, b⟩ := He.ba (or_not this hi)
    obtain ⟨b, e⟩ := He.ba b
    obtain ⟨e, f⟩ := He.ba e
    exact ⟨a, He.eqO_ok b, He.eqO_ok e, of_decide_eq_true f⟩
  · have := List.all_eq_true.mp (List.all_eq_true.mp (A _ (.tail _ (.tail _ (.tail _ (.tail _ (.tail _ (.head _))))))) c (hc c hi)) d (hc d hj)
    exact of_decide_eq_true (or_not this (by rw [hi, hj]; rfl))
  · have := List.all_eq_true.mp (List.all_eq_true.mp (A _ (.tail _ (.tail _ (.tail _ (.tail _ (.tail _ (.tail _ (.head _)))))))) n hn) d (hc d hi)
    exact of_decide_eq_true (or_not this hi)
  · have := List.all_eq_true.mp (List.all_eq_true.mp (A _ (.tail _ (.tail _ (.tail _ (.tail _ (.tail _ (.tail _ (.tail _ (.head _))))))))) n hn) c (hc c hi)
    exact of_decide_eq_true (or_not this hi)
end Dl

set_option maxRecDepth 100000
set_option maxHeartbeats 4000000
/-! D35: a text's records give Prog. -/
namespace Dl
open PySem PySem.Spec PyProof.Rows L2
def isCode : Kd → Bool
  | .code => true
  | _ => false
def isIni : Kd → Option Nat
  | .ini c => some c
  | _ => none
def isPrim : Kd → Bool
  | .prim _ => true
  | _ => false
def compR (Z : Nms) (d : FR) : Fn := match d.k with
  | .code => .code d.N.length d.ps.length (cSs Z d.N d.l 60 (defScope d.st) (defBody d.st))
  | .ini c => .ini c (d.N.length - 1) (d.ps.length - 1) ((cIs Z d.N d.l 60 (defScope d.st) (defBody d.st)).getD [])
  | .prim p => .prim p
  | .non => .prim fun _ _ _ => .stk
def fnsOf : List FR → Nat → List (Str × (Nat × Nat × List D))
  | [], _ => []
  | d :: r, i => match d.at_, isCode d.k || isPrim d.k with
    | .glo x, true => (x, i, d.ps.length, d.dfl) :: fnsOf r (i + 1)
    | _, _ => fnsOf r (i + 1)
theorem fnsOf_mem {e : Str × (Nat × Nat × List D)} : ∀ {l : List FR} {n : Nat}, e ∈ fnsOf l n → ∃ j d, l[j]? = some d ∧ e = (e.1, n + j, d.ps.length, d.dfl) ∧ d.at_ = .glo e.1 ∧ (isCode d.k || isPrim d.k) = true
  | [], n, h => by cases h
  | d :: r, n, h => by
    have go : e ∈ fnsOf r (n + 1) → ∃ j d', (d :: r)[j]? = some d' ∧ e = (e.1, n + j, d'.ps.length, d'.dfl) ∧ d'.at_ = .glo e.1 ∧ (isCode d'.k || isPrim d'.k) = true := fun h => by
      obtain ⟨j, d', h1, h2, h3, h4⟩ := fnsOf_mem h
      exact ⟨j + 1, d', by simpa using h1, by rw [h2]; simp only [Prod.mk.injEq, true_and, and_true]; omega, h3, h4⟩
    unfold fnsOf at h
    split at h
    · rename_i x e1 e2
      cases h with
      | head => exact ⟨0, d, rfl, rfl, e1, e2⟩
      | tail _ h => exact go h
    · exact go h
/-- what a record must be, with no K in sight -/
def recS (d : FR) : Bool := d.clo.isEmpty && (scB d.N d.ps (defScope d.st) && (isFnK (defScope d.st) && ((d.dfl.all fun x => (leafV x).isSome) && decide (d.dfl.length ≤ d.ps.length))))
section
variable {P : Program} {w : World} {K : Fg} {mg : Str → Option Value} {base h : Heap} {Z : Nms} {t : TD} {recs fr : List FR} {fs : List Fn} {tf : List At} {ex : Fg → Bool}
theorem lam_ok {d : FR} {fd : FuncData} {oc : Value} {od : Option Addr} {osl : Array (Option Value)} (hd : d ∈ fr) (hl : d.l = true) (lk : K.lookup (d.at_.ad K) = some ⟨oc, od, .func fd, osl⟩) (F : FunD K d.name d.qual (defArgs d.st) (defBody d.st) (defScope d.st) (d.dfl.map vD) [] (d.at_.ad K) fd)
    (hT : ∀ p ∈ tfOf fr, LamX.TabB base mg (cTY K p).1 (cTY K p).2) (hB : lamsB K fr = true) : LamOk base mg (TBof K fr) d.qual (defScope d.st) fd := by
  have hm : d ∈ lamR fr := List.mem_filter.mpr ⟨hd, hl⟩
  have hc : ∃ c, fd.code = .ref c := by
    obtain ⟨oc', od', dV, kV, doc, pm, an, cdv, ct, osl', rfl, _, hcd, _⟩ := F.ex
    exact He.codeIn_ref hcd
  obtain ⟨c, hc⟩ := hc
  have e1 : codY K (d.at_.ad K) = c := by
    unfold codY
    rw [lk]
    show (match fd.code with | .ref c => c | _ => 0) = c
    rw [hc]
  refine ⟨c, (cTY K d.at_).2, hc, ?_, List.mem_map_of_mem hm, fun p hp e => ?_⟩
  · have := hT _ (List.mem_map_of_mem hm)
    have e2 : (cTY K d.at_).1 = c := e1
    rwa [e2] at this
  · obtain ⟨a, ha, rfl⟩ := List.mem_map.mp hp
    have := List.all_eq_true.mp (List.all_eq_true.mp hB a ha) d hm
    have e' : (cTY K a.at_).2 = (cTY K d.at_).2 := e
    rw [decide_eq_true e'] at this
    exact of_decide_eq_true this
/-- the def's function object, its parameters -/
theorem bnd_ok {d : FR} {fd : FuncData} (hs : recS d = true) (F : FunD K d.name d.qual (defArgs d.st) (defBody d.st) (defScope d.st) (d.dfl.map vD) [] (d.at_.ad K) fd) (B : Bnd d) :
    ∀ m, m ≤ d.dfl.length → ∃ dV dU, Binds K fd d.ps dU ∧ Vals dV dU ∧ ∀ (G : Gl0) S H, RepL w G S H dV (d.dfl.drop (d.dfl.length - m)) := by
  intro m hm
  obtain ⟨_, hs⟩ := He.ba hs
  obtain ⟨_, hs⟩ := He.ba hs
  obtain ⟨_, hs⟩ := He.ba hs
  obtain ⟨h4, h5⟩ := He.ba hs
  have h5 := of_decide_eq_true h5
  unfold Bnd at B
  split at B
  · rename_i e
    rw [e] at F hm ⊢
    exact ⟨[], [], FunD.bindsN F B, .nil, fun _ _ _ => by simpa using RepL.nil⟩
  · rename_i e
    have ne : d.dfl.map vD ≠ [] := fun z => e (List.map_eq_nil_iff.mp z)
    obtain ⟨ds, r1, r2⟩ := FunD.binds1 F (d.ps.length - m) (d.dfl.length - m) ne (by rw [List.length_map]; omega) fun T kV doc pm an cdv ct us its l1 l2 => B m hm T kV doc pm an cdv ct us its (by omega) (by rw [l2, List.length_map])
    refine ⟨_, ds, r2, r1, fun G S H => ?_⟩
    rw [← List.map_drop]
    refine rep_leaves (List.all_eq_true.mpr fun x hx => List.all_eq_true.mp h4 x (List.mem_of_mem_drop hx))
theorem bnd_nil (w : World) {d : FR} {fd : FuncData} (hs : recS d = true) (F : FunD K d.name d.qual (defArgs d.st) (defBody d.st) (defScope d.st) (d.dfl.map vD) [] (d.at_.ad K) fd) (B : Bnd d) : Binds K fd d.ps [] := by
  obtain ⟨dV, dU, h1, h2, h3⟩ := bnd_ok (w := w) hs F B 0 (Nat.zero_le _)
  have := h3 ⟨K, none, [], fun _ => 0, fun _ => 0⟩ (fun _ => False) (fun _ => none)
  rw [Nat.sub_zero, List.drop_length] at this
  cases this
  cases h2
  exact h1
end
end Dl

set_option maxRecDepth 100000
set_option maxHeartbeats 4000000
/-! D36: Prog from the checks. -/
namespace Dl
open PySem PySem.Spec PyProof.Rows L2
open PySem.W (ksFn ks_superIn excInitIn)
theorem propB_ok {K : Fg} {C g : Addr} {f : Str} (h : propB K C f g = true) : PropOf K C f (He.ma K C f) g := by
  obtain ⟨h1, h⟩ := He.ba h
  obtain ⟨h2, h⟩ := He.ba h
  obtain ⟨h3, h⟩ := He.ba h
  refine ⟨He.eqO_ok h1, He.eqO_ok h2, of_decide_eq_true h3, ?_⟩
  split at h
  · rename_i g' r e
    have := of_decide_eq_true h
    subst this
    exact ⟨r, e⟩
  · cases h
/-- all parameters of such a making -/
def BndS (d : FR) (f : Str) : Prop := ∀ (kV doc pm : Value) (an : Option Addr) (cdv ct : Value) (cc : Addr) (us : List Value), us.length = 2 → bindArgs (ksFn "__init__" d.qual (defArgs d.st) (defBody d.st) (defScope d.st) .none kV doc pm an cdv ct cc) ⟨us, []⟩ = pure ((["self", f] : List Str).zip us)
structure SupR (d : FR) (f : Str) : Prop where
  clo : d.clo = (["__class__"] : List Str)
  nm : d.name = "__init__"
  df : d.dfl = []
  tx : SupTx (defArgs d.st) (defBody d.st) (defScope d.st) f
  b : BndS d f
theorem supB_ok {P : Program} {w : World} {K : Fg} {mg : Str → Option Value} {base : Heap} {C : Addr} {d : FR} {f : Str} (h : supB P K C d f = true) (F : FRK K d) (S : SupR d f) (ht : (P.main.scope.names.lookup ("super" : Str)).isSome = false) (su : PySem.W.nsIn K mainGlobals "super" = some none) (th : PySem.W.nsIn K cStatics "thirdparty.any" = some none) :
    OexC K C ∧ ∃ fI fd ps, PySem.W.findIn K (.ref C) "__init__" = some (some (.ref fI)) ∧ PySem.W.typeIn K (.ref fI) = some (.type "function") ∧ Binds K fd ps [] ∧ FnOk P w K mg base (L2.CX P w) 1 fI fd ps (spInit C f) := by
  obtain ⟨h1, h⟩ := He.ba h
  obtain ⟨h2, h⟩ := He.ba h
  obtain ⟨h3, h⟩ := He.ba h
  obtain ⟨h4, h⟩ := He.ba h
  obtain ⟨h5, h⟩ := He.ba h
  obtain ⟨h6, h7⟩ := He.ba h
  have ox := oexB_ok h3
  obtain ⟨oc, od, fd, osl, lk, k1, k3, k4, e1, e2, e3, e4, e5, e6, e7, e8⟩ := F.ex
  rw [S.df] at k3
  rw [S.clo] at e7
  rw [S.nm] at e1
  obtain ⟨n1, n2, n3, n4, n5, n6, n7, n8, n9, n10, n11, n12, n13, n14, n15⟩ := fd
  simp only at e1 e2 e3 e4 e5 e6 e7 e8 k1 k3 k4
  have hn8 : n8 = .none := by
    rcases k3 with ⟨_, z⟩ | ⟨z, _⟩
    · exact z
    · exact absurd rfl z
  rw [lk] at h4
  simp only at h4
  split at h4
  · rename_i cda c0 cc
    have q3 : c0 = "__class__" := by
      injection e7
    subst q3
    split at h4
    · rename_i cl1 od1 vs sl1 cl2 od2 D sl2 l1 l2
      split at h4
      · rename_i fl tk q4
        obtain ⟨m1, h4⟩ := He.ba h4
        obtain ⟨m2, h4⟩ := He.ba h4
        obtain ⟨m3, m4⟩ := He.ba h4
        obtain ⟨cdD, m2⟩ := Option.isSome_iff_exists.mp m2
        subst e1 e2 e3 e4 e5 e6 e8 hn8
        refine ⟨ox, _, _, ["self", f], He.eqO_ok h1, of_decide_eq_true h2, .all fun us hl => S.b _ _ _ _ _ _ _ us hl, sup_ini (P := P) ⟨⟨oc, od, osl, _, _, _, _, _, _, _, _, _, cda, _, cc, D, cl1, cl2, od1, od2, vs, sl1, sl2, fl, tk, cdD, rfl, lk, k1, S.tx, l1, q4, m1, l2, m2, of_decide_eq_true m3, He.eqO_ok m4⟩, ht, su, th, of_decide_eq_true h5, h6, He.eqO_ok h7⟩ ox⟩
      · cases h4
    · cases h4
  · cases h4
/-! ### static checks -/
theorem opB_ok {α : Type} {o : Option α} {f : α → Bool} (h : opB o f = true) : ∃ a, o = some a ∧ f a = true := by
  cases o with
  | none => cases h
  | some a => exact ⟨a, rfl, h⟩
def iniSt (Z : Nms) (t : TD) (c : Nat) (d : FR) : Bool := opB (cIs Z d.N d.l 60 (defScope d.st) (defBody d.st)) fun b => b.all fun s => match s with
  | .st f _ => (t.flds.getD c []).contains f
  | _ => true
def stB (Z : Nms) (t : TD) (recs : List FR) : List Bool :=
  [recs.all recS,
  t.fv.all fun j => opB recs[j]? fun d => isCode d.k && d.dfl.isEmpty,
  (List.range t.cn.length).all fun c => (t.props.getD c []).all fun p => t.ins.contains c && opB recs[p.2]? fun d => decide (d.at_ = .prp (t.cn.getD c "") p.1) && (isCode d.k && (decide (d.ps = (["self"] : List Str)) && d.dfl.isEmpty)),
  (List.range t.cn.length).all fun c => opT (t.maks.getD c none) fun g => t.ins.contains c && opB recs[g]? fun d => decide (d.at_ = .mth (t.cn.getD c "") "__init__") && (decide (isIni d.k = some c) && (d.dfl.isEmpty && (!d.ps.isEmpty && (!d.N.isEmpty && iniSt Z t c d)))),
  (List.range t.cn.length).all fun c => opT (t.mkx.getD c none) fun xs => match xs with
    | [] => t.exc.contains c
    | [f] => t.sups.any fun e => decide (e.1 = c) && decide (e.2.1 = f)
    | _ => false,
  decide (t.props.length ≤ t.cn.length) && (decide (t.maks.length ≤ t.cn.length) && decide (t.mkx.length ≤ t.cn.length)),
  (t.ins.all fun c => decide (c < t.cn.length)) && (t.exc.all fun c => decide (c < t.cn.length))]
/-! ### what is looked at in K -/
end Dl

set_option maxRecDepth 100000
set_option maxHeartbeats 4000000
/-! D37: Prog from the checks, the end. -/
namespace Dl
open PySem PySem.Spec PyProof.Rows L2
section
variable {P : Program} {w : World} {K : Fg} {mg : Str → Option Value} {base : Heap} {Z : Nms} {t : TD} {recs xt : List FR} {fs : List Fn} {W : Str}
/-- all that a text's proof hands over -/
structure Txt (P : Program) (Z : Nms) (t : TD) (recs xt : List FR) (fs : List Fn) (W : Str) : Prop where
  st : (stB Z t recs).all id = true
  fs : fs = recs.map (compR Z)
  fns : Z.fns = fnsOf recs 0
  kws : Z.kws = []
  bnd : ∀ d ∈ recs, Bnd d
  sup : ∀ e ∈ t.sups, SupR e.2.2 e.2.1 ∧ e.2.2 ∈ xt
  top : (P.main.scope.names.lookup ("super" : Str)).isSome = false
/-- what the run of the top tells -/
structure Lk (P : Program) (Z : Nms) (t : TD) (recs xt : List FR) (W : Str) (K : Fg) (mg : Str → Option Value) (base : Heap) : Prop where
  X : K.In base
  G : base.Ns mainGlobals mg
  fr : ∀ d ∈ recs ++ xt, FRK K d
  ch : (chK P Z t recs (recs ++ xt) W K).all id = true
  tb : ∀ p ∈ tfOf (recs ++ xt), LamX.TabB base mg (cTY K p).1 (cTY K p).2
theorem all_at {l : List Bool} (h : l.all id = true) (i : Nat) {b : Bool} (e : l[i]? = some b) : b = true := List.all_eq_true.mp h b (List.mem_of_getElem? e)
theorem all_app {l r : List Bool} (h : (l ++ r).all id = true) : l.all id = true ∧ r.all id = true := by
  rw [List.all_append] at h
  exact He.ba h
theorem Lk.kf0 (L : Lk P Z t recs xt W K mg base) : (kfB K (clsA K t.cn) t.tbl (List.range t.cn.length)).all id = true := (all_app (by have := L.ch; unfold chK at this; exact this)).1
theorem Lk.c2 (L : Lk P Z t recs xt W K mg base) (i : Nat) {b : Bool} (e : ((chK P Z t recs (recs ++ xt) W K).drop 8)[i]? = some b) : b = true := by
  refine List.all_eq_true.mp L.ch b (List.mem_of_mem_drop (List.mem_of_getElem? e))
theorem defn (T : Txt P Z t recs xt fs W) (L : Lk P Z t recs xt W K mg base) {i : Nat} {d : FR} (hi : recs[i]? = some d) : ∃ fd, FunD K d.name d.qual (defArgs d.st) (defBody d.st) (defScope d.st) (d.dfl.map vD) [] (d.at_.ad K) fd ∧ FnScope d.N d.ps (defScope d.st) ∧ isFnK (defScope d.st) = true ∧ recS d = true ∧ Bnd d ∧ PySem.W.keepIn K (.ref (d.at_.ad K)) = true ∧
    fs[i]? = some (compR Z d) ∧ (d.l = true → LamOk base mg (TBof K (recs ++ xt)) d.qual (defScope d.st) fd) := by
  have hm : d ∈ recs := List.mem_of_getElem? hi
  have hm2 : d ∈ recs ++ xt := List.mem_append_left _ hm
  have hs : recS d = true := List.all_eq_true.mp (all_at T.st 0 rfl) d hm
  have F := L.fr d hm2
  have hs' := hs
  obtain ⟨h1, hs'⟩ := He.ba hs'
  obtain ⟨h2, hs'⟩ := He.ba hs'
  obtain ⟨h3, hs'⟩ := He.ba hs'
  obtain ⟨fd, oc, od, osl, lk, FD⟩ := F.funD (List.isEmpty_iff.mp h1)
  refine ⟨fd, FD, scB_ok h2, h3, hs, T.bnd d hm, F.kp, by rw [T.fs, List.getElem?_map, hi]; rfl, fun hl => lam_ok hm2 hl lk FD L.tb (L.c2 14 rfl)⟩
theorem isCode_eq {d : FR} (h : isCode d.k = true) : compR Z d = .code d.N.length d.ps.length (cSs Z d.N d.l 60 (defScope d.st) (defBody d.st)) := by
  unfold isCode at h
  unfold compR
  split at h
  · rename_i e; rw [e]
  · cases h
theorem code_ok (T : Txt P Z t recs xt fs W) (L : Lk P Z t recs xt W K mg base) {i : Nat} {d : FR} (hi : recs[i]? = some d) (hk : isCode d.k = true) : ∃ fd, FunD K d.name d.qual (defArgs d.st) (defBody d.st) (defScope d.st) (d.dfl.map vD) [] (d.at_.ad K) fd ∧ recS d = true ∧ Bnd d ∧ PySem.W.keepIn K (.ref (d.at_.ad K)) = true ∧
    DefOk P w K mg base t.tbl Z (g0Of K t recs (recs ++ xt)) fs i (d.at_.ad K) fd d.ps := by
  obtain ⟨fd, FD, S, h3, hs, B, kp, hf, hl⟩ := defn T L hi
  rw [isCode_eq hk] at hf
  exact ⟨fd, FD, hs, B, kp, .inl ⟨d.name, d.qual, d.st, d.N, 60, d.l, d.dfl.map vD, FD, S, h3, hf, hl⟩⟩
/-- a def told by data -/
def PrimOk (P : Program) (w : World) (K : Fg) (mg : Str → Option Value) (base : Heap) (G0 : Gl0) (recs : List FR) : Prop := ∀ (i : Nat) (d : FR) (p : CF → List D → Wd → Rs D), recs[i]? = some d → d.k = .prim p → ∀ (fd : FuncData), FunD K d.name d.qual (defArgs d.st) (defBody d.st) (defScope d.st) (d.dfl.map vD) [] (d.at_.ad K) fd → ∀ cf k, 2 ≤ k → FnOk P w K mg base (L2.CX P w) k (d.at_.ad K) fd d.ps (spF w G0 (p cf))
theorem any_ok (T : Txt P Z t recs xt fs W) (L : Lk P Z t recs xt W K mg base) (hp : PrimOk P w K mg base (g0Of K t recs (recs ++ xt)) recs) {i : Nat} {d : FR} (hi : recs[i]? = some d) (hk : (isCode d.k || isPrim d.k) = true) : ∃ fd, FunD K d.name d.qual (defArgs d.st) (defBody d.st) (defScope d.st) (d.dfl.map vD) [] (d.at_.ad K) fd ∧ recS d = true ∧ Bnd d ∧ PySem.W.keepIn K (.ref (d.at_.ad K)) = true ∧
    DefOk P w K mg base t.tbl Z (g0Of K t recs (recs ++ xt)) fs i (d.at_.ad K) fd d.ps := by
  rw [Bool.or_eq_true] at hk
  rcases hk with hk | hk
  · exact code_ok T L hi hk
  · obtain ⟨fd, FD, S, h3, hs, B, kp, hf, hl⟩ := defn T L hi
    unfold isPrim at hk
    split at hk
    · rename_i p e
      refine ⟨fd, FD, hs, B, kp, .inr ⟨p, by rw [hf]; unfold compR; rw [e], fun m _ => hp i d p hi e fd FD _ _ (by omega)⟩⟩
    · cases hk
theorem contains_all {l : List Nat} {j : Nat} (h : l.contains j = true) : j ∈ l := List.contains_iff_mem.mp h
theorem ret_of {α : Type} {l : List α} {n c : Nat} {d : α} (h : l.length ≤ n) (ne : c ∉ List.range n) : l.getD c d = d := by
  rw [List.mem_range] at ne
  rw [List.getD_eq_getElem?_getD, List.getElem?_eq_none (by omega)]
  rfl
theorem prog_of (T : Txt P Z t recs xt fs W) (L : Lk P Z t recs xt W K mg base) (hp : PrimOk P w K mg base (g0Of K t recs (recs ++ xt)) recs) (hfw : ∀ x, Z.fw = some x → FwDef K mg x) (hcau : ∀ x, Z.cau = some x → CauDef K mg (clsA K t.cn) t.tbl x) :
    Prog P w K mg base t.tbl Z (g0Of K t recs (recs ++ xt)) fs := by
  have len := all_at T.st 5 rfl
  obtain ⟨len1, len⟩ := He.ba len
  obtain ⟨len2, len3⟩ := He.ba len
  have len1 := of_decide_eq_true len1
  have len2 := of_decide_eq_true len2
  have len3 := of_decide_eq_true len3
  obtain ⟨rI, rE⟩ := He.ba (all_at T.st 6 rfl)
  have inI : ∀ c, t.tbl.isIns c = true → c ∈ t.ins := fun c h => contains_all h
  have inE : ∀ c, t.tbl.isExc c = true → c ∈ t.exc := fun c h => contains_all h
  refine ⟨fun x d e => con_ok L.X L.G rfl (L.c2 0 rfl) e, fun x i np df e => ?_, fun j hj => ?_, fun x c e => ?_, fun x hx => ?_, ?_, fun c hc => ?_, fun c x hc hx => ?_, fun c x g e => ?_, fun c hc => ?_, fun c x hc hx => ?_, rfl, hfw, hcau, fun c => ?_, fun c g e => ?_⟩
  · have hm := lookup_in e
    rw [T.fns] at hm
    obtain ⟨j, d, h1, h2, h3, h4⟩ := fnsOf_mem hm
    simp only [Prod.mk.injEq, true_and] at h2
    obtain ⟨e1, e2, e3⟩ := h2
    have e1 : i = j := by omega
    subst e1 e2 e3
    obtain ⟨fd, FD, hs, B, kp, DO⟩ := any_ok T L hp h1 h4
    have gl := List.all_eq_true.mp (L.c2 1 rfl) d (List.mem_append_left _ (List.mem_of_getElem? h1))
    have ea : d.at_.ad K = He.ga K x := by rw [h3]; rfl
    rw [h3] at gl
    refine ⟨d.at_.ad K, fd, d.ps, rfl, by rw [ea]; exact He.glo_ok L.X L.G gl, kp, DO, fun m hm => ?_, fun ks perm hk => by rw [T.kws] at hk; cases hk⟩
    obtain ⟨dV, dU, b1, b2, b3⟩ := bnd_ok (w := w) hs FD B m hm
    exact ⟨dV, dU, b1, b2, fun _ S H => b3 _ S H⟩
  · have := List.all_eq_true.mp (all_at T.st 1 rfl) j (contains_all hj)
    obtain ⟨d, h1, h2⟩ := opB_ok this
    obtain ⟨h2, h3⟩ := He.ba h2
    obtain ⟨fd, FD, hs, B, kp, DO⟩ := code_ok (w := w) T L h1 h2
    have ea : (g0Of K t recs (recs ++ xt)).fad j = d.at_.ad K := by
      show (match recs[j]? with | some d => d.at_.ad K | none => 0) = _
      rw [h1]
    rw [ea]
    exact ⟨kp, fd, d.ps, bnd_nil w hs FD B, DO⟩
  · exact PySem.W.mg_of L.X L.G (He.eqO_ok (List.all_eq_true.mp (L.c2 2 rfl) _ (lookup_in e)))
  · exact PySem.W.mg_none_of L.X L.G (He.eqO_ok (List.all_eq_true.mp (L.c2 3 rfl) x hx))
  · refine kfB_ok (fun c h => ?_) L.kf0
    rw [Bool.or_eq_true] at h
    rcases h with h | h
    · exact List.mem_range.mpr (of_decide_eq_true (List.all_eq_true.mp rI c (inI c h)))
    · exact List.mem_range.mpr (of_decide_eq_true (List.all_eq_true.mp rE c (inE c h)))
  · exact He.cls_ok (List.all_eq_true.mp (L.c2 4 rfl) c (inI c hc))
  · exact He.eqO_ok (List.all_eq_true.mp (List.all_eq_true.mp (L.c2 5 rfl) c (inI c hc)) x (List.contains_iff_mem.mp hx))
  · have e : (t.props.getD c []).lookup x = some g := e
    have hc : c ∈ List.range t.cn.length := by
      refine Classical.byContradiction fun ne => ?_
      rw [ret_of len1 ne] at e
      cases e
    obtain ⟨h1, h2⟩ := He.ba (List.all_eq_true.mp (List.all_eq_true.mp (all_at T.st 2 rfl) c hc) _ (lookup_in e))
    obtain ⟨d, h3, h4⟩ := opB_ok h2
    obtain ⟨h5, h4⟩ := He.ba h4
    obtain ⟨h6, h4⟩ := He.ba h4
    obtain ⟨h7, h8⟩ := He.ba h4
    have h7 := of_decide_eq_true h7
    obtain ⟨fd, FD, hs, B, kp, DO⟩ := code_ok (w := w) T L h3 h6
    have q := List.all_eq_true.mp (List.all_eq_true.mp (L.c2 8 rfl) c hc) _ (lookup_in e)
    obtain ⟨d', q1, q2⟩ := opB_ok q
    rw [h3] at q1
    cases q1
    have bn := bnd_nil w hs FD B
    rw [h7] at bn DO
    exact ⟨h1, _, _, fd, propB_ok q2, bn, DO⟩
  · exact List.all_eq_true.mp (L.c2 6 rfl) c (inE c hc)
  · exact He.eqO_ok (List.all_eq_true.mp (List.all_eq_true.mp (L.c2 7 rfl) c (inE c hc)) x (List.contains_iff_mem.mp hx))
  · show match t.mkx.getD c none with
      | none => True
      | some [] => _
      | some [f] => _
      | _ => False
    by_cases hc : c ∈ List.range t.cn.length
    · have q := List.all_eq_true.mp (all_at T.st 4 rfl) c hc
      cases e : t.mkx.getD c none with
      | none => trivial
      | some xs =>
        rw [e] at q
        match xs, e, q with
        | [], e, q =>
          have q2 := List.all_eq_true.mp (L.c2 9 rfl) c (contains_all q)
          rw [e] at q2
          obtain ⟨a1, q2⟩ := He.ba q2
          obtain ⟨a2, q2⟩ := He.ba q2
          obtain ⟨a3, a4⟩ := He.ba q2
          exact ⟨a1, a2, of_decide_eq_true a3, of_decide_eq_true a4⟩
        | [f], e, q =>
          obtain ⟨s, hs, q⟩ := List.any_eq_true.mp q
          obtain ⟨q1, q2⟩ := He.ba q
          have q1 := of_decide_eq_true q1
          have q2 := of_decide_eq_true q2
          have sb := List.all_eq_true.mp (L.c2 10 rfl) s hs
          obtain ⟨SR, hx⟩ := T.sup s hs
          rw [q1, q2] at sb
          rw [q2] at SR
          exact supB_ok sb (L.fr _ (List.mem_append_right _ hx)) SR T.top (He.eqO_ok (L.c2 11 rfl)) (He.eqO_ok (L.c2 12 rfl))
        | _ :: _ :: _, e, q => cases q
    · rw [ret_of len3 hc]
      trivial
  · have e : t.maks.getD c none = some g := e
    have hc : c ∈ List.range t.cn.length := by
      refine Classical.byContradiction fun ne => ?_
      rw [ret_of len2 ne] at e
      cases e
    have q := List.all_eq_true.mp (all_at T.st 3 rfl) c hc
    rw [e] at q
    obtain ⟨h1, q⟩ := He.ba q
    obtain ⟨d, h3, q⟩ := opB_ok q
    obtain ⟨h4, q⟩ := He.ba q
    obtain ⟨h5, q⟩ := He.ba q
    obtain ⟨h6, q⟩ := He.ba q
    obtain ⟨h7, q⟩ := He.ba q
    obtain ⟨h8, q⟩ := He.ba q
    obtain ⟨b, h9, h10⟩ := opB_ok q
    have h4 := of_decide_eq_true h4
    have h5 := of_decide_eq_true h5
    obtain ⟨fd, FD, S, hk, hs, B, kp, hf, hl⟩ := defn T L h3
    have ek : d.k = .ini c := by
      unfold isIni at h5
      split at h5
      · rename_i c' ec
        cases h5
        exact ec
      · cases h5
    have mk := List.all_eq_true.mp (L.c2 13 rfl) c hc
    rw [e] at mk
    have mk := He.mkr_ok mk
    have ea : d.at_.ad K = He.ma K (clsA K t.cn c) "__init__" := by rw [h4]; rfl
    refine ⟨h1, d.at_.ad K, fd, d.ps, by rw [ea]; exact mk, bnd_nil w hs FD B, ?_⟩
    obtain ⟨p0, ps', ep⟩ : ∃ p0 ps', d.ps = p0 :: ps' := by
      cases z : d.ps with
      | nil => rw [z] at h7; cases h7
      | cons a r => exact ⟨a, r, rfl⟩
    obtain ⟨n0, N', en⟩ : ∃ n0 N', d.N = n0 :: N' := by
      cases z : d.N with
      | nil => rw [z] at h8; cases h8
      | cons a r => exact ⟨a, r, rfl⟩
    have hf2 : fs[g]? = some (.ini c N'.length ps'.length b) := by
      rw [hf]
      unfold compR
      rw [ek]
      simp only [h9, Option.getD_some]
      rw [en, ep]
      rfl
    rw [en] at S h9
    rw [ep] at S
    refine ⟨d.name, d.qual, d.st, n0, N', p0, ps', 60, d.l, d.dfl.map vD, b, ep, FD, S, hk, h9, hf2, ?_, hl⟩
    refine List.all_eq_true.mpr fun s hs => ?_
    have := List.all_eq_true.mp h10 s hs
    cases s with
    | st f e => exact this
    | ex e => rfl
end
end Dl

set_option maxRecDepth 100000
set_option maxHeartbeats 4000000
/-! D38: the law. -/
namespace Dl
open PySem PySem.Spec PyProof.Rows L2
theorem fun_of {K : Fg} {x q : Str} {st : Stmt} {f : Addr} {fd : FuncData} (F : FunD K x q (defArgs st) (defBody st) (defScope st) [] [] f fd) : Fun K x q st f fd := by
  obtain ⟨oc, od, dV, kV, doc, pm, an, cdv, ct, osl, rfl, lk, hcd, hD, _⟩ := F.ex
  have e : dV = .none := by
    rcases hD with ⟨_, z⟩ | ⟨z, _⟩
    · exact z
    · exact absurd rfl z
  subst e
  exact ⟨⟨oc, od, kV, doc, pm, an, cdv, ct, osl, rfl, lk, hcd⟩, F.kp⟩
theorem bnd0 {d : FR} (e : d.dfl = []) (h : ∀ (kV doc pm : Value) (an : Option Addr) (cdv ct : Value) (us : List Value), us.length = d.ps.length → bindArgs (PySem.W.fnOf d.name d.qual (defArgs d.st) (defBody d.st) (defScope d.st) .none kV doc pm an cdv ct) ⟨us, []⟩ = pure (d.ps.zip us)) : Bnd d := by
  unfold Bnd
  rw [if_pos e]
  exact h
theorem bnd1 {d : FR} (e : d.dfl ≠ []) (h : ∀ m, m ≤ d.dfl.length → ∀ (T : Addr) (kV doc pm : Value) (an : Option Addr) (cdv ct : Value) (us its : List Value), us.length + m = d.ps.length → its.length = d.dfl.length →
    ∃ k, bindArgs (PySem.W.fnOf d.name d.qual (defArgs d.st) (defBody d.st) (defScope d.st) (.ref T) kV doc pm an cdv ct) ⟨us, []⟩ = seqItems? (.ref T) >>= k ∧ k (some its.toArray) = pure (d.ps.zip (us ++ its.drop (d.dfl.length - m)))) : Bnd d := by
  unfold Bnd
  rw [if_neg e]
  exact h
/-- a def of the text that is no def of the layer -/
structure Def0 (d : FR) (x : Str) (a : Nat) : Prop where
  at_ : d.at_ = .glo x
  nm : d.name = x
  q : d.qual = x
  clo : d.clo = []
  df : d.dfl = []
  b : Bnd d
theorem d0_fun {K : Fg} {d : FR} {x : Str} {a : Nat} (D0 : Def0 d x a) (F : FRK K d) : ∃ fd oc od osl, K.lookup (He.ga K x) = some ⟨oc, od, .func fd, osl⟩ ∧ FunD K x x (defArgs d.st) (defBody d.st) (defScope d.st) [] [] (He.ga K x) fd ∧ Binds K fd d.ps [] ∧ ∀ (s : Shared) (us : List Value), us.length = d.ps.length → BindsTo s fd ⟨us, []⟩ (d.ps.zip us) := by
  obtain ⟨fd, oc, od, osl, lk, FD⟩ := F.funD D0.clo
  have B := D0.b
  unfold Bnd at B
  rw [if_pos D0.df] at B
  rw [D0.df] at FD
  have b1 := FunD.bindsN FD B
  have b2 := fun s us hl => FunD.bindsA FD B s us hl
  rw [D0.at_, D0.nm, D0.q] at FD
  rw [D0.at_] at lk
  exact ⟨fd, oc, od, osl, lk, FD, b1, b2⟩
section
variable {w : World} {K : Fg} {mg : Str → Option Value} {Z : Nms} {t : TD} {recs xt : List FR} {fs : List Fn} {W : Str}
/-- the end: a law whose text gives FnOk -/
theorem law_at {l : PySem.W.OpenLaw} {k : Nat} {fa : Addr} {h : Heap} {ex : Fg → Bool} {dl : FR} (S : SaysY (recs ++ xt) (tfOf (recs ++ xt)) ex h K) (X : K.In h) (G : h.Ns mainGlobals mg) (D0 : Def0 dl "law" 0) (hx : dl ∈ recs ++ xt) (hp : dl.ps = (["script"] : List Str)) (hg : (He.Fa.glo "law").ok K = true) (hfa : mg "law" = some (.ref fa))
    (F : ∀ (fd : FuncData) (oc : Value) (od : Option Addr) (osl : Array (Option Value)) (base : Heap), K.lookup (He.ga K "law") = some ⟨oc, od, .func fd, osl⟩ → FunD K "law" "law" (defArgs dl.st) (defBody dl.st) (defScope dl.st) [] [] (He.ga K "law") fd → K.In base → base.Ns mainGlobals mg → (∀ p ∈ tfOf (recs ++ xt), LamX.TabB base mg (cTY K p).1 (cTY K p).2) →
      FnOk l.prog w K mg base (L2.CX l.prog w) k (He.ga K "law") fd ["script"] (spLaw K (TBof K (recs ++ xt)))) :
    LamX.LawAtS l w K (L2.CX l.prog w) k 63 "script" mg fa h := by
  obtain ⟨fd, oc, od, osl, lk, FD, b1, b2⟩ := d0_fun D0 (S.d dl hx)
  have e := hfa.symm.trans (He.glo_ok X G hg)
  cases e
  refine ⟨fd, (tfOf (recs ++ xt)).map (cTY K), spLaw K (TBof K (recs ++ xt)), fun p hp => ?_, fun p hp => ?_, fun p hp => ?_, fun s u => ?_, fun H a ns hl _ hT hS => ?_, fun base hK hN hT => F fd oc od osl base lk FD hK hN fun p hp => hT _ (List.mem_map_of_mem hp)⟩
  · obtain ⟨a, ha, rfl⟩ := List.mem_map.mp hp
    exact S.emp a ha
  · obtain ⟨a, ha, rfl⟩ := List.mem_map.mp hp
    exact S.out a ha
  · obtain ⟨a, ha, rfl⟩ := List.mem_map.mp hp
    exact PySem.W.codeHd_of_K X (S.hd a ha)
  · have := b2 s [u] (by rw [hp]; rfl)
    rw [hp] at this
    exact this
  · refine ⟨a, ns, rfl, hS, hl, fun p hp => ?_, fun _ => rfl⟩
    obtain ⟨d, hd, rfl⟩ := List.mem_map.mp hp
    exact hT (cTY K d.at_) (List.mem_map_of_mem (List.mem_map_of_mem hd))
end
end Dl

set_option maxRecDepth 100000
set_option maxHeartbeats 0
namespace Lw
open PySem PySem.Spec PyProof.Rows L2 Dl
def fs : List Fn := [
  .code 1 1 (.cons (.ret (.nd (.isi (.var 0) [.int]) (.nt (.isi (.var 0) [.bool])))) .nil),
  .code 3 3 (.cons (.ret (.nd (.cal 0 (.cons (.var 0) .nil) []) (.chn .LtE .LtE (.var 1) (.var 0) (.var 2)))) .nil),
  .code 1 1 (.cons (.ret (.isi (.var 0) [.list, .tuple])) .nil),
  .code 1 1 (.cons (.ite (.nt (.cal 1 (.cons (.var 0) (.cons (.con (.int 0)) (.cons (.glo "MOST_WORD_modes" (.int 3)) .nil))) [])) (.cons (.rais 2 "no verdict") .nil) .nil) .nil),
  .code 1 1 (.cons (.ret (.nd (.isi (.var 0) [.str]) (.cmp .In (.var 0) (.glo "PLAYERS" (.tup [(.str "a"), (.str "b")]))))) .nil),
  .code 3 1 (.cons (.ite (.or (.nt (.cal 2 (.cons (.var 0) .nil) [])) (.nt (.chn .LtE .LtE (.con (.int 1)) (.bl .len (.cons (.var 0) .nil)) (.glo "MOST_TURNS" (.int 8))))) (.cons (.rai 6 (.con .non)) .nil) .nil) (.cons (.frz 0 (.loop (.tu (.cons (.nm 1) (.cons (.nm 2) .nil))) (.enum (.var 0)) (.cons (.ite (.nt (.cal 4 (.cons (.var 2) .nil) [])) (.cons (.rai 6 (.var 1)) .nil) .nil) .nil))) .nil)),
  .code 2 2 (.cons (.ret (.ix (.var 0) (.bin .Mod (.var 1) (.bl .len (.cons (.var 0) .nil))))) .nil),
  .code 4 2 (.cons (.frz 0 (.loop (.tu (.cons (.nm 2) (.cons (.nm 3) .nil))) (.enum (.var 0)) (.cons (.ite (.nt (.calv 1 (.cons (.var 3) .nil))) (.cons (.ret (.var 2)) .nil) .nil) .nil))) (.cons (.ret (.con .non)) .nil)),
  .code 1 1 (.cons (.ret (.nd (.cal 2 (.cons (.var 0) .nil) []) (.cmp .LtE (.bl .len (.cons (.var 0) .nil)) (.glo "MOST_EVENTS" (.int 300))))) .nil),
  .code 3 2 (.cons (.ret (.nd (.cal 8 (.cons (.var 1) .nil) []) (.cmp .Is (.fw (.var 1) 2 (.cal 1 (.cons (.var 2) (.cons (.con (.int 0)) (.cons (.bin .Sub (.var 0) (.con (.int 1))) .nil))) [])) (.con .non)))) .nil),
  .code 2 2 (.cons (.expr (.cal 11 (.cons (.fld (.var 0) "kinds") (.cons (.var 1) .nil)) [])) .nil),
  .code 4 2 (.cons (.ite (.nt (.cal 8 (.cons (.var 1) .nil) [])) (.cons (.rai 3 (.con .non)) .nil) .nil) (.cons (.asg (.nm 2) (.fw (.var 1) 3 (.cal 1 (.cons (.var 3) (.cons (.con (.int 0)) (.cons (.bin .Sub (.var 0) (.con (.int 1))) .nil))) []))) (.cons (.ite (.cmp .IsNot (.var 2) (.con .non)) (.cons (.rai 3 (.var 2)) .nil) .nil) .nil))),
  .code 1 1 (.cons (.ret (.cal 1 (.cons (.var 0) (.cons (.con (.int 0)) (.cons (.glo "MOST_WORD_rows" (.int 3)) .nil))) [])) .nil),
  .code 4 3 (.cons (.ite (.or (.nt (.cal 2 (.cons (.var 0) .nil) [])) (.cmp .NotEq (.bl .len (.cons (.var 0) .nil)) (.var 1))) (.cons (.ret (.con (.bl false))) .nil) .nil) (.cons (.ret (.bl .all (.cons (.lc (.nm 3) (.seq (.var 0)) [3] (.con (.bl true)) (.cal 1 (.cons (.var 3) (.cons (.con (.int 0)) (.cons (.bin .Sub (.var 2) (.con (.int 1))) .nil))) [])) .nil))) .nil)),
  .code 4 1 (.cons (.ite (.or (.nt (.cal 2 (.cons (.var 0) .nil) [])) (.nt (.chn .LtE .LtE (.con (.int 1)) (.bl .len (.cons (.var 0) .nil)) (.glo "MOST_PLACES" (.int 6))))) (.cons .stk .nil) .nil) (.cons (.asg (.nm 1) (.ix (.var 0) (.con (.int 0)))) (.cons (.ite (.or (.nt (.cal 2 (.cons (.var 1) .nil) [])) (.nt (.chn .LtE .LtE (.con (.int 1)) (.bl .len (.cons (.var 1) .nil)) (.glo "MOST_KINDS" (.int 4))))) (.cons .stk .nil) .nil) (.cons (.asg (.nm 2) (.fw (.var 0) 3 (.cal 13 (.cons (.var 3) (.cons (.bl .len (.cons (.var 1) .nil)) (.cons (.bl .len (.cons (.var 0) .nil)) .nil))) []))) (.cons (.ite (.cmp .IsNot (.var 2) (.con .non)) (.cons .stk .nil) .nil) .nil))))),
  .code 3 2 (.cons (.ite (.or (.nt (.cal 2 (.cons (.var 0) .nil) [])) (.cmp .NotEq (.bl .len (.cons (.var 0) .nil)) (.var 1))) (.cons .stk .nil) .nil) (.cons (.asg (.nm 2) (.cal 7 (.cons (.var 0) (.cons (.glo "is_word" (.fn 12)) .nil)) [])) (.cons (.ite (.cmp .IsNot (.var 2) (.con .non)) (.cons .stk .nil) .nil) .nil))),
  .code 2 2 (.cons (.ite (.nt (.isi (.var 0) [(.cls 9)])) (.cons (.rai 1 (.var 1)) .nil) .nil) .nil),
  .code 4 4 (.cons (.expr (.cal 16 (.cons (.var 0) .nil) [.non])) (.cons (.expr (.cal 3 (.cons (.var 1) .nil) [])) (.cons (.expr (.cal 5 (.cons (.var 2) .nil) [])) (.cons (.ite (.nt (.cal 1 (.cons (.var 3) (.cons (.con (.int 0)) (.cons (.glo "MOST_LENGTH" (.int 300)) .nil))) [])) (.cons (.rais 0 "length") .nil) .nil) .nil)))),
  .code 12 4 (.cons (.asg (.nm 4) (.lst (.cons (.lc (.nm 5) (.seq (.fld (.var 0) "words")) [5] (.con (.bl true)) (.ite (.cmp .Eq (.var 5) (.var 1)) (.con (.str "a")) (.con (.str "b")))) .nil))) (.cons (.loop (.nm 6) (.rngd (.bin .Sub (.var 3) (.con (.int 1))) (.neg (.con (.int 1)))) (.cons (.set (.cons (.nm 7) (.cons (.nm 8) .nil)) (.cons (.cal 6 (.cons (.var 2) (.cons (.var 6) .nil)) []) (.cons (.ix (.var 4) (.neg (.con (.int 1)))) .nil))) (.cons (.asg (.nm 9) (.ite (.cmp .Eq (.var 7) (.con (.str "a"))) (.con (.str "b")) (.con (.str "a")))) (.cons (.app 4 (.lc (.nm 11) (.seq (.fld (.var 0) "moves")) [11] (.con (.bl true)) (.ite (.cmp .In (.var 7) (.lc (.nm 10) (.seq (.var 11)) [10] (.con (.bl true)) (.ix (.var 8) (.var 10)))) (.var 7) (.var 9)))) .nil)))) (.cons (.ret (.rev (.var 4))) .nil))),
  .code 4 4 (.cons (.expr (.cal 17 (.cons (.var 0) (.cons (.var 1) (.cons (.var 2) (.cons (.var 3) .nil)))) [])) (.cons (.ret (.ix (.ix (.cal 18 (.cons (.var 0) (.cons (.var 1) (.cons (.var 2) (.cons (.var 3) .nil)))) []) (.con (.int 0))) (.con (.int 0)))) .nil)),
  .code 12 4 (.cons (.expr (.cal 17 (.cons (.var 0) (.cons (.var 1) (.cons (.var 2) (.cons (.var 3) .nil)))) [])) (.cons (.asg (.nm 4) (.cal 18 (.cons (.var 0) (.cons (.var 1) (.cons (.var 2) (.cons (.var 3) .nil)))) [])) (.cons (.set (.cons (.nm 5) (.cons (.nm 6) (.cons (.nm 7) .nil))) (.cons (.ix (.ix (.var 4) (.con (.int 0))) (.con (.int 0))) (.cons (.dic .nil) (.cons (.lst (.cons (.con (.int 0)) .nil)) .nil)))) (.cons (.frz 3 (.loop (.nm 8) (.rng1 (.var 3)) (.cons (.asg (.nm 9) (.dic .nil)) (.cons (.frz 7 (.loop (.nm 10) (.seq (.var 7)) (.cons (.ite (.cmp .Eq (.cal 6 (.cons (.var 2) (.cons (.var 8) .nil)) []) (.var 5)) (.cons .stk (.cons (.asg (.sub 9 (.ix (.ix (.fld (.var 0) "moves") (.var 10)) (.ix (.var 6) (.tup (.cons (.var 8) (.cons (.var 10) .nil)))))) (.con .non)) .nil)) (.cons .stk .nil)) .nil))) (.cons .stk .nil))))) (.cons (.ret (.tup (.cons (.var 5) (.cons (.var 6) .nil)))) .nil))))),
  .code 7 5 (.cons (.expr (.cal 17 (.cons (.var 0) (.cons (.var 1) (.cons (.var 2) (.cons (.var 3) .nil)))) [])) (.cons (.ite (.or (.nt (.isi (.var 4) [.tuple])) (.or (.cmp .NotEq (.bl .len (.cons (.var 4) .nil)) (.con (.int 2))) (.or (.nt (.isi (.ix (.var 4) (.con (.int 0))) [.str])) (.cmp .NotIn (.ix (.var 4) (.con (.int 0))) (.tup (.cons (.con (.str "a")) (.cons (.con (.str "b")) .nil))))))) (.cons (.ret (.con (.bl false))) .nil) .nil) (.cons .stk (.cons .stk (.cons (.ret (.nd (.cmp .IsNot (.var 5) (.con .non)) (.bl .all (.cons (.lc (.nm 6) (.seq (.var 5)) [6] (.con (.bl true)) (.cmp .Eq (.cmp .Eq (.ix (.fld (.var 0) "words") (.var 6)) (.var 1)) (.cmp .Eq (.ix (.var 4) (.con (.int 0))) (.con (.str "a"))))) .nil)))) .nil))))),
  .code 3 3 (.cons (.expr (.cal 16 (.cons (.var 0) .nil) [.non])) (.cons (.expr (.cal 3 (.cons (.var 1) .nil) [])) (.cons (.expr (.cal 5 (.cons (.var 2) .nil) [])) .nil))),
  .code 6 3 (.cons (.expr (.cal 22 (.cons (.var 0) (.cons (.var 1) (.cons (.var 2) .nil))) [])) (.cons .stk (.cons .stk (.cons (.ite (.cmp .In (.tup (.cons (.con (.int 0)) (.cons (.con (.int 0)) .nil))) (.var 4)) (.cons (.ret (.tup (.cons (.con (.str "a")) (.cons (.var 4) .nil)))) .nil) .nil) (.cons (.ret (.tup (.cons (.con (.str "b")) (.cons (.lc (.nm 5) (.seq (.var 3)) [5] (.cmp .NotIn (.var 5) (.var 4)) (.var 5)) .nil)))) .nil))))),
  .code 3 3 (.cons (.expr (.cal 22 (.cons (.var 0) (.cons (.var 1) (.cons (.var 2) .nil))) [])) (.cons .stk .nil)),
  .code 6 4 (.cons (.expr (.cal 22 (.cons (.var 0) (.cons (.var 1) (.cons (.var 2) .nil))) [])) (.cons (.ite (.or (.nt (.isi (.var 3) [.tuple])) (.or (.cmp .NotEq (.bl .len (.cons (.var 3) .nil)) (.con (.int 2))) (.nt (.isi (.ix (.var 3) (.con (.int 0))) [.str])))) (.cons (.ret (.con (.bl false))) .nil) .nil) (.cons (.ite (.cmp .Eq (.ix (.var 3) (.con (.int 0))) (.con (.str "a"))) (.cons (.asg (.nm 4) (.ix (.var 3) (.con (.int 1)))) (.cons .stk .nil)) .nil) (.cons (.ret (.nd (.cmp .Eq (.ix (.var 3) (.con (.int 0))) (.con (.str "b"))) .stk)) .nil)))),
  .code 3 3 (.cons (.expr (.cal 22 (.cons (.var 0) (.cons (.var 1) (.cons (.var 2) .nil))) [])) (.cons .stk .nil)),
  .code 7 3 (.cons (.expr (.cal 22 (.cons (.var 0) (.cons (.var 1) (.cons (.var 2) .nil))) [])) (.cons .stk (.cons .stk (.cons (.ite (.cmp .Is (.ix (.var 4) (.tup (.cons (.con (.int 0)) (.cons (.con (.int 0)) .nil)))) (.con .non)) (.cons .stk .nil) .nil) (.cons .stk .nil))))),
  .code 6 4 (.cons (.expr (.cal 22 (.cons (.var 0) (.cons (.var 1) (.cons (.var 2) .nil))) [])) (.cons (.ite (.or (.nt (.isi (.var 3) [.tuple])) (.or (.cmp .NotEq (.bl .len (.cons (.var 3) .nil)) (.con (.int 2))) (.nt (.isi (.ix (.var 3) (.con (.int 0))) [.str])))) (.cons (.ret (.con (.bl false))) .nil) .nil) (.cons (.ite (.or (.cmp .NotIn (.ix (.var 3) (.con (.int 0))) (.tup (.cons (.con (.str "a")) (.cons (.con (.str "b")) .nil)))) .stk) (.cons (.ret (.con (.bl false))) .nil) .nil) (.cons (.asg (.nm 4) (.ix (.var 3) (.con (.int 1)))) (.cons (.ite (.cmp .Eq (.ix (.var 3) (.con (.int 0))) (.con (.str "a"))) (.cons .stk .nil) .nil) (.cons .stk .nil)))))),
  .code 2 2 (.cons (.ite (.or (.nt (.cal 9 (.cons (.fld (.var 0) "kinds") (.cons (.var 1) .nil)) [])) (.cmp .Gt (.bl .len (.cons (.var 1) .nil)) (.glo "MOST_MENDED" (.int 60)))) (.cons (.rai 3 (.con .non)) .nil) .nil) .nil),
  .code 3 1 (.cons (.ite (.or (.nt (.cal 2 (.cons (.var 0) .nil) [])) (.cmp .NotEq (.bl .len (.cons (.var 0) .nil)) (.con (.int 3)))) (.cons (.rai 4 (.con .non)) .nil) .nil) (.cons (.frz 0 (.loop (.tu (.cons (.nm 1) (.cons (.nm 2) .nil))) (.enum (.var 0)) (.cons (.ite (.nt (.cal 1 (.cons (.var 2) (.cons (.con (.int 1)) (.cons (.glo "MOST_COST" (.int 1000)) .nil))) [])) (.cons (.rai 4 (.var 1)) .nil) .nil) .nil))) .nil)),
  .code 4 4 (.cons (.expr (.cal 16 (.cons (.var 0) .nil) [.non])) (.cons (.expr (.cal 29 (.cons (.var 0) (.cons (.var 1) .nil)) [])) (.cons (.expr (.cal 3 (.cons (.var 2) .nil) [])) (.cons (.expr (.cal 30 (.cons (.var 3) .nil) [])) .nil)))),
  .code 5 4 (.cons (.expr (.cal 31 (.cons (.var 0) (.cons (.var 1) (.cons (.var 2) (.cons (.var 3) .nil)))) [])) (.cons .stk (.cons (.ret (.ite (.cmp .Is (.var 4) (.con .non)) (.con .non) (.ix (.var 4) (.con (.int 0))))) .nil))),
  .code 4 4 (.cons (.expr (.cal 31 (.cons (.var 0) (.cons (.var 1) (.cons (.var 2) (.cons (.var 3) .nil)))) [])) (.cons .stk .nil)),
  .code 2 2 (.cons (.ite (.or (.nt (.isi (.var 1) [.tuple])) (.or (.cmp .Eq (.bl .len (.cons (.var 1) .nil)) (.con (.int 0))) (.nt (.isi (.ix (.var 1) (.con (.int 0))) [.str])))) (.cons (.ret (.con (.bl false))) .nil) .nil) (.cons .stk (.cons (.ret (.or (.cmp .Eq (.bl .len (.cons (.var 1) .nil)) (.con (.int 1))) (.cal 1 (.cons (.ix (.var 1) (.con (.int 1))) (.cons (.con (.int 0)) (.cons (.bin .Sub (.fld (.var 0) "kinds") (.con (.int 1))) .nil))) []))) .nil))),
  .code 7 3 (.cons (.ite (.or (.nt (.cal 2 (.cons (.var 2) .nil) [])) (.nt (.bl .all (.cons (.lc (.nm 3) (.seq (.var 2)) [3] (.con (.bl true)) (.cal 34 (.cons (.var 0) (.cons (.var 3) .nil)) [])) .nil)))) (.cons (.ret (.con .non)) .nil) .nil) (.cons (.set (.cons (.nm 4) (.cons (.nm 5) (.cons (.nm 6) .nil))) (.cons (.lst .nil) (.cons (.con (.int 0)) (.cons (.dic (.cons (.con (.str "keep")) (.cons (.con (.int 0)) (.cons (.con (.str "change")) (.cons (.con (.int 0)) (.cons (.con (.str "insert")) (.cons (.con (.int 0)) (.cons (.con (.str "leave")) (.cons (.con (.int 0)) .nil))))))))) .nil)))) (.cons (.frz 2 (.loop (.nm 3) (.seq (.var 2)) (.cons (.augs 6 (.ix (.var 3) (.con (.int 0))) .Add (.con (.int 1))) (.cons (.ite (.cmp .Eq (.ix (.var 3) (.con (.int 0))) (.con (.str "insert"))) (.cons (.app 4 (.ix (.var 3) (.con (.int 1)))) (.cons .cnt .nil)) .nil) (.cons (.ite (.or (.cmp .Eq (.var 5) (.bl .len (.cons (.var 1) .nil))) (.nd (.cmp .Eq (.ix (.var 3) (.con (.int 0))) (.con (.str "change"))) (.cmp .Eq (.ix (.var 3) (.con (.int 1))) (.ix (.var 1) (.var 5))))) (.cons (.ret (.con .non)) .nil) .nil) (.cons (.ite (.cmp .NotEq (.ix (.var 3) (.con (.int 0))) (.con (.str "leave"))) (.cons (.app 4 (.ite (.cmp .Eq (.ix (.var 3) (.con (.int 0))) (.con (.str "keep"))) (.ix (.var 1) (.var 5)) (.ix (.var 3) (.con (.int 1))))) .nil) .nil) (.cons (.aug 5 .Add (.con (.int 1))) .nil))))))) (.cons (.ret (.ite (.cmp .Eq (.var 5) (.bl .len (.cons (.var 1) .nil))) (.tup (.cons (.bl .tuple (.cons (.var 4) .nil)) (.cons (.var 6) .nil))) (.con .non))) .nil)))),
  .code 4 3 (.cons (.expr (.cal 16 (.cons (.var 0) .nil) [.non])) (.cons (.expr (.cal 29 (.cons (.var 0) (.cons (.var 1) .nil)) [])) (.cons (.asg (.nm 3) (.cal 35 (.cons (.var 0) (.cons (.var 1) (.cons (.var 2) .nil))) [])) (.cons (.ite (.cmp .Is (.var 3) (.con .non)) (.cons (.rais 7 "no script of deeds for the row") .nil) .nil) (.cons (.ret (.ix (.var 3) (.con (.int 0)))) .nil))))),
  .code 6 5 (.cons (.expr (.cal 31 (.cons (.var 0) (.cons (.var 1) (.cons (.var 2) (.cons (.var 3) .nil)))) [])) (.cons (.ite (.or (.nt (.isi (.var 4) [.tuple])) (.or (.cmp .NotEq (.bl .len (.cons (.var 4) .nil)) (.con (.int 2))) (.nt (.cal 1 (.cons (.ix (.var 4) (.con (.int 0))) (.cons (.con (.int 0)) (.cons (.bin .Pow (.con (.int 10)) (.con (.int 9))) .nil))) [])))) (.cons (.ret (.con (.bl false))) .nil) .nil) (.cons (.asg (.nm 5) (.cal 35 (.cons (.var 0) (.cons (.var 1) (.cons (.ix (.var 4) (.con (.int 1))) .nil))) [])) (.cons (.ite (.or (.cmp .Is (.var 5) (.con .non)) .stk) (.cons (.ret (.con (.bl false))) .nil) .nil) (.cons .stk .nil))))),
  .code 4 4 (.cons (.expr (.cal 16 (.cons (.var 0) .nil) [.non])) (.cons (.expr (.cal 3 (.cons (.var 1) .nil) [])) (.cons (.expr (.cal 3 (.cons (.var 2) .nil) [])) (.cons (.expr (.cal 30 (.cons (.var 3) .nil) [])) .nil)))),
  .code 5 4 (.cons (.expr (.cal 38 (.cons (.var 0) (.cons (.var 1) (.cons (.var 2) (.cons (.var 3) .nil)))) [])) (.cons .stk (.cons (.ret (.ite (.cmp .Is (.var 4) (.con .non)) (.con .non) (.ix (.var 4) (.con (.int 0))))) .nil))),
  .code 4 4 (.cons (.expr (.cal 38 (.cons (.var 0) (.cons (.var 1) (.cons (.var 2) (.cons (.var 3) .nil)))) [])) (.cons .stk .nil)),
  .code 6 5 (.cons (.expr (.cal 38 (.cons (.var 0) (.cons (.var 1) (.cons (.var 2) (.cons (.var 3) .nil)))) [])) (.cons (.ite (.or (.nt (.isi (.var 4) [.tuple])) (.or (.cmp .NotEq (.bl .len (.cons (.var 4) .nil)) (.con (.int 3))) (.nt (.cal 1 (.cons (.ix (.var 4) (.con (.int 0))) (.cons (.con (.int 0)) (.cons (.bin .Pow (.con (.int 10)) (.con (.int 9))) .nil))) [])))) (.cons (.ret (.con (.bl false))) .nil) .nil) (.cons (.ite (.or (.nt (.cal 9 (.cons (.fld (.var 0) "kinds") (.cons (.ix (.var 4) (.con (.int 1))) .nil)) [])) .stk) (.cons (.ret (.con (.bl false))) .nil) .nil) (.cons (.asg (.nm 5) (.cal 35 (.cons (.var 0) (.cons (.ix (.var 4) (.con (.int 1))) (.cons (.ix (.var 4) (.con (.int 2))) .nil))) [])) (.cons (.ite (.or (.cmp .Is (.var 5) (.con .non)) .stk) (.cons (.ret (.con (.bl false))) .nil) .nil) (.cons .stk .nil)))))),
  .code 3 3 (.cons (.expr (.cal 16 (.cons (.var 0) .nil) [.non])) (.cons (.expr (.cal 29 (.cons (.var 0) (.cons (.var 1) .nil)) [])) (.cons (.expr (.cal 30 (.cons (.var 2) .nil) [])) (.cons .stk .nil)))),
  .code 8 4 (.cons (.expr (.cal 16 (.cons (.var 0) .nil) [.non])) (.cons (.expr (.cal 3 (.cons (.var 1) .nil) [])) (.cons (.ite (.nt (.cal 1 (.cons (.var 2) (.cons (.con (.int 0)) (.cons (.glo "MOST_FIRM" (.int 12)) .nil))) [])) (.cons (.rais 0 "length") .nil) .nil) (.cons (.expr (.cal 30 (.cons (.var 3) .nil) [])) (.cons .stk (.cons (.ite (.cmp .Gt (.bl .len (.cons (.var 4) .nil)) (.glo "MOST_ROWS" (.int 4096))) (.cons .stk .nil) .nil) (.cons (.asg (.nm 5) (.con .non)) (.cons .stk (.cons (.ret (.var 5)) .nil))))))))),
  .code 1 1 (.cons (.ite (.nt (.cal 1 (.cons (.var 0) (.cons (.con (.int 0)) (.cons (.glo "MOST_BOUND" (.int 1000000)) .nil))) [])) (.cons (.rais 0 "bound") .nil) .nil) .nil),
  .code 6 5 (.cons (.expr (.cal 31 (.cons (.var 0) (.cons (.var 1) (.cons (.var 2) (.cons (.var 3) .nil)))) [])) (.cons (.expr (.cal 44 (.cons (.var 4) .nil) [])) (.cons .stk (.cons .stk .nil)))),
  .code 9 6 (.cons (.expr (.cal 31 (.cons (.var 0) (.cons (.var 1) (.cons (.var 2) (.cons (.var 3) .nil)))) [])) (.cons (.expr (.cal 44 (.cons (.var 4) .nil) [])) (.cons .stk (.cons .stk (.cons .stk (.cons .stk .nil)))))),
  .code 4 4 (.cons (.expr (.cal 16 (.cons (.var 0) (.cons (.con (.str "one")) .nil)) [])) (.cons (.expr (.cal 3 (.cons (.var 1) .nil) [])) (.cons (.expr (.cal 16 (.cons (.var 2) (.cons (.con (.str "other")) .nil)) [])) (.cons (.ite (.cmp .NotEq (.fld (.var 0) "kinds") (.fld (.var 2) "kinds")) (.cons (.rais 1 "other") .nil) .nil) (.cons (.expr (.cal 3 (.cons (.var 3) .nil) [])) .nil))))),
  .code 5 5 (.cons (.expr (.cal 47 (.cons (.var 0) (.cons (.var 1) (.cons (.var 2) (.cons (.var 3) .nil)))) [])) (.cons (.expr (.cal 10 (.cons (.var 0) (.cons (.var 4) .nil)) [])) (.cons .stk .nil))),
  .code 6 4 (.cons (.expr (.cal 47 (.cons (.var 0) (.cons (.var 1) (.cons (.var 2) (.cons (.var 3) .nil)))) [])) (.cons .stk (.cons .stk (.cons .stk .nil)))),
  .code 3 2 (.cons (.expr (.cal 16 (.cons (.var 0) .nil) [.non])) (.cons (.expr (.cal 3 (.cons (.var 1) .nil) [])) (.cons .stk (.cons .stk (.cons .stk .nil))))),
  .code 3 2 (.cons (.expr (.cal 16 (.cons (.var 0) .nil) [.non])) (.cons (.expr (.cal 3 (.cons (.var 1) .nil) [])) (.cons .stk (.cons .stk (.cons .stk .nil))))),
  .code 9 3 (.cons (.expr (.cal 16 (.cons (.var 0) .nil) [.non])) (.cons (.expr (.cal 3 (.cons (.var 1) .nil) [])) (.cons (.ite (.nt (.cal 1 (.cons (.var 2) (.cons (.con (.int 0)) (.cons (.glo "MOST_NEAR" (.int 3)) .nil))) [])) (.cons (.rais 0 "most") .nil) .nil) (.cons .stk (.cons .stk (.cons .stk .nil)))))),
  .code 2 1 (.cons (.ite (.or (.nt (.isi (.var 0) [.str])) (.nt (.chn .LtE .LtE (.con (.int 1)) (.bl .len (.cons (.var 0) .nil)) (.glo "MOST_LETTERS" (.int 12))))) (.cons (.ret (.con (.bl false))) .nil) .nil) (.cons (.ret (.bl .all (.cons (.lc (.nm 1) (.seq (.var 0)) [1] (.con (.bl true)) (.cmp .In (.var 1) (.glo "LETTERS_texts" (.str "abcdefghijklmnopqrstuvwxyz")))) .nil))) .nil)),
  .code 2 1 (.cons (.ite (.or (.nt (.cal 2 (.cons (.var 0) .nil) [])) (.nt (.chn .LtE .LtE (.con (.int 1)) (.bl .len (.cons (.var 0) .nil)) (.glo "MOST_KINDS" (.int 4))))) (.cons (.ret (.con (.bl false))) .nil) .nil) (.cons (.ret (.nd (.bl .all (.cons (.lc (.nm 1) (.seq (.var 0)) [1] (.con (.bl true)) (.cal 53 (.cons (.var 1) .nil) [])) .nil)) .stk)) .nil)),
  .code 5 2 (.cons (.ite (.nt (.isi (.var 0) [(.cls 10)])) (.cons (.rais 8 "no match") .nil) .nil) (.cons (.ite (.or (.nt (.cal 54 (.cons (.var 1) .nil) [])) (.cmp .NotEq (.bl .len (.cons (.var 1) .nil)) (.fld (.fld (.var 0) "watch") "kinds"))) (.cons (.rais 5 "names are needed") .nil) .nil) (.cons .stk (.cons (.asg (.nm 3) (.lc (.nm 4) (.seq (.fld (.var 0) "chosen")) [4] (.con (.bl true)) (.ix (.var 1) (.var 4)))) (.cons .stk .nil))))),
  .code 9 3 (.cons (.asg (.nm 3) (.lst (.cons (.lc (.nm 4) (.seq (.fld (.var 0) "words")) [4] (.con (.bl true)) (.ite (.cmp .Eq (.var 4) (.var 1)) (.con (.int 1)) (.con (.int 0)))) .nil))) (.cons (.frz 2 (.loop (.nm 5) (.rng1 (.var 2)) (.cons (.asg (.nm 6) (.ix (.var 3) (.neg (.con (.int 1))))) (.cons (.app 3 (.lc (.nm 8) (.seq (.fld (.var 0) "moves")) [8] (.con (.bl true)) (.bl .sum (.cons (.lc (.nm 7) (.seq (.var 8)) [7] (.con (.bl true)) (.ix (.var 6) (.var 7))) .nil)))) .nil)))) (.cons (.ret (.var 3)) .nil))),
  .code 8 2 (.cons (.expr (.cal 16 (.cons (.var 0) .nil) [.non])) (.cons (.expr (.cal 10 (.cons (.var 0) (.cons (.var 1) .nil)) [])) (.cons .stk (.cons (.set (.cons (.nm 3) (.cons (.nm 4) .nil)) (.cons (.con (.int 0)) (.cons (.con (.int 0)) .nil))) (.cons (.frz 1 (.loop (.tu (.cons (.nm 5) (.cons (.nm 6) .nil))) (.enum (.var 1)) (.cons (.aug 3 .Add (.bl .sum (.cons (.lc (.nm 7) (.seq (.slc (.ix (.fld (.var 0) "moves") (.var 4)) (.con .non) (.var 6))) [7] (.con (.bl true)) (.ix (.ix (.var 2) (.bin .Sub (.bin .Sub (.bl .len (.cons (.var 1) .nil)) (.var 5)) (.con (.int 1)))) (.var 7))) .nil))) (.cons (.asg (.nm 4) (.ix (.ix (.fld (.var 0) "moves") (.var 4)) (.var 6))) .nil)))) (.cons (.ret (.var 3)) .nil)))))),
  .code 1 1 (.cons (.ite (.nt (.cal 1 (.cons (.var 0) (.cons (.con (.int 0)) (.cons (.glo "MOST_EVENTS" (.int 300)) .nil))) [])) (.cons (.rais 0 "length") .nil) .nil) .nil),
  .code 5 4 (.cons (.expr (.cal 16 (.cons (.var 0) .nil) [.non])) (.cons (.expr (.cal 3 (.cons (.var 1) .nil) [])) (.cons (.expr (.cal 58 (.cons (.var 2) .nil) [])) (.cons (.asg (.nm 4) (.cal 56 (.cons (.var 0) (.cons (.var 1) (.cons (.var 2) .nil))) [])) (.cons (.ite (.nt (.cal 1 (.cons (.var 3) (.cons (.con (.int 0)) (.cons (.bin .Sub (.ix (.ix (.var 4) (.var 2)) (.con (.int 0))) (.con (.int 1))) .nil))) [])) (.cons (.rais 0 "number") .nil) .nil) (.cons .stk .nil)))))),
  .code 5 2 (.cons (.asg (.nm 2) (.bin .Add (.cal 57 (.cons (.var 0) (.cons (.var 1) .nil)) []) (.con (.int 1)))) (.cons .stk (.cons (.asg (.nm 4) (.cal 56 (.cons (.var 0) (.cons (.var 3) (.cons (.bl .len (.cons (.var 1) .nil)) .nil))) [])) (.cons .stk .nil)))),
  .code 14 4 (.cons (.expr (.cal 16 (.cons (.var 0) .nil) [.non])) (.cons (.expr (.cal 3 (.cons (.var 1) .nil) [])) (.cons (.ite (.nt (.cal 1 (.cons (.var 2) (.cons (.con (.int 0)) (.cons (.glo "MOST_SPREAD" (.int 60)) .nil))) [])) (.cons (.rais 0 "length") .nil) .nil) (.cons (.ite (.nt (.cal 1 (.cons (.var 3) (.cons (.con (.int 0)) (.cons (.bin .Sub (.fld (.var 0) "kinds") (.con (.int 1))) .nil))) [])) (.cons (.rais 0 "kind") .nil) .nil) (.cons (.asg (.nm 4) (.dic (.cons (.tup (.cons (.con (.int 0)) (.cons (.con (.int 0)) .nil))) (.cons (.con (.int 1)) .nil)))) (.cons (.frz 2 (.loop (.nm 5) (.rng1 (.var 2)) (.cons (.asg (.nm 6) (.dic .nil)) (.cons .stk (.cons (.asg (.nm 4) (.var 6)) .nil))))) (.cons (.asg (.nm 13) (.dic .nil)) (.cons .stk (.cons .stk .nil))))))))),
  .code 12 3 (.cons (.expr (.cal 16 (.cons (.var 0) .nil) [.non])) (.cons (.expr (.cal 3 (.cons (.var 1) .nil) [])) (.cons (.expr (.cal 58 (.cons (.var 2) .nil) [])) (.cons (.asg (.nm 3) (.cal 56 (.cons (.var 0) (.cons (.var 1) (.cons (.var 2) .nil))) [])) (.cons (.set (.cons (.nm 4) (.cons (.nm 5) .nil)) (.cons (.dic (.cons (.con (.int 0)) (.cons (.con (.int 1)) .nil))) (.cons (.bin .Mult (.lst (.cons (.con (.int 0)) .nil)) (.fld (.var 0) "kinds")) .nil))) (.cons (.frz 2 (.loop (.nm 6) (.rng1 (.var 2)) (.cons (.asg (.nm 7) (.dic .nil)) (.cons .stk (.cons (.asg (.nm 4) (.var 7)) .nil))))) (.cons (.ret (.bl .tuple (.cons (.var 5) .nil))) .nil))))))),
  .prim fun _ => drawP,
  .code 2 2 (.cons (.ret (.ix (.var 1) (.cal 63 (.cons (.var 0) (.cons (.bl .len (.cons (.var 1) .nil)) .nil)) []))) .nil),
  .code 1 1 (.cons (.ite (.isi (.var 0) [(.cls 1)]) (.cons (.ret (.tup (.cons (.con (.str "watch")) (.cons (.fld (.var 0) "part") .nil)))) .nil) .nil) (.cons (.ite (.isi (.var 0) [(.cls 0)]) (.cons (.ret (.tup (.cons (.con (.str "number")) (.cons (.fld (.var 0) "part") .nil)))) .nil) .nil) (.cons (.ite (.isi (.var 0) [(.cls 6)]) (.cons (.ret (.tup (.cons (.con (.str "turns")) (.cons (.fld (.var 0) "index") .nil)))) .nil) .nil) (.cons (.ite (.isi (.var 0) [(.cls 4)]) (.cons (.ret (.tup (.cons (.con (.str "prices")) (.cons (.fld (.var 0) "index") .nil)))) .nil) .nil) (.cons (.ite (.isi (.var 0) [(.cls 3)]) (.cons (.ret (.tup (.cons (.con (.str "row")) (.cons (.con .non) .nil)))) .nil) .nil) (.cons (.ite (.isi (.var 0) [(.cls 2)]) (.cons (.ret (.tup (.cons (.con (.str "verdict")) (.cons (.con .non) .nil)))) .nil) .nil) (.cons (.ite (.isi (.var 0) [(.cls 7)]) (.cons (.ret (.tup (.cons (.con (.str "script")) (.cons (.con .non) .nil)))) .nil) .nil) (.cons (.ite (.isi (.var 0) [(.cls 8)]) (.cons (.ret (.tup (.cons (.con (.str "match")) (.cons (.con .non) .nil)))) .nil) .nil) (.cons (.ret (.ite (.isi (.var 0) [(.cls 5)]) (.tup (.cons (.con (.str "names")) (.cons (.con .non) .nil))) (.con .non))) .nil))))))))),
  .code 8 2 (.cons (.asg (.nm 2) (.lst .nil)) (.cons (.loop (.tu (.cons (.nm 3) (.cons (.nm 4) (.cons (.nm 5) (.cons (.nm 6) .nil))))) (.seq (.lst (.cons (.tup (.cons (.var 1) (.cons (.var 1) (.cons (.var 1) (.cons (.var 1) .nil))))) (.cons (.tup (.cons (.var 0) (.cons (.var 1) (.cons (.var 1) (.cons (.var 1) .nil))))) (.cons (.tup (.cons (.var 0) (.cons (.con (.int 1)) (.cons (.var 1) (.cons (.var 1) .nil))))) (.cons (.tup (.cons (.var 0) (.cons (.con (.int 1)) (.cons (.lst (.cons (.con (.str "a")) (.cons (.con (.str "c")) .nil))) (.cons (.var 1) .nil))))) (.cons (.tup (.cons (.var 0) (.cons (.con (.int 1)) (.cons (.lst (.cons (.con (.str "a")) .nil)) (.cons (.var 1) .nil))))) .nil))))))) (.cons (.asg (.nm 2) (.bin .Add (.var 2) (.lc (.nm 7) (.seq (.lst (.cons (.glo "forced" (.fn 19)) (.cons (.glo "forced_paper" (.fn 20)) .nil)))) [7] (.con (.bl true)) (.cal 65 (.cons (.cau (.calv 7 (.cons (.var 3) (.cons (.var 4) (.cons (.var 5) (.cons (.var 6) .nil)))))) .nil) [])))) (.cons (.app 2 (.cal 65 (.cons (.cau (.cal 21 (.cons (.var 3) (.cons (.var 4) (.cons (.var 5) (.cons (.var 6) (.cons (.con .non) .nil))))) [])) .nil) [])) (.cons (.app 2 (.cal 65 (.cons (.cau (.mak 10 (.cons (.var 3) (.cons (.var 4) (.cons (.var 5) (.cons (.var 6) .nil)))))) .nil) [])) (.cons (.ite (.cmp .NotEq (.var 5) (.lst (.cons (.con (.str "a")) .nil))) (.cons (.asg (.nm 2) (.bin .Add (.var 2) (.lc (.nm 7) (.seq (.lst (.cons (.glo "reach_paper" (.fn 23)) (.cons (.glo "reach_time" (.fn 24)) (.cons (.glo "again_paper" (.fn 27)) (.cons (.glo "visits" (.fn 26)) .nil)))))) [7] (.con (.bl true)) (.cal 65 (.cons (.cau (.calv 7 (.cons (.var 3) (.cons (.var 4) (.cons (.var 5) .nil))))) .nil) [])))) (.cons (.asg (.nm 2) (.bin .Add (.var 2) (.lc (.nm 7) (.seq (.lst (.cons (.glo "is_reach_paper" (.fn 25)) (.cons (.glo "is_again_paper" (.fn 28)) .nil)))) [7] (.con (.bl true)) (.cal 65 (.cons (.cau (.calv 7 (.cons (.var 3) (.cons (.var 4) (.cons (.var 5) (.cons (.con .non) .nil)))))) .nil) [])))) .nil)) .nil) .nil))))) (.cons (.ret (.var 2)) .nil))),
  .code 12 2 (.cons (.asg (.nm 2) (.lst .nil)) (.cons (.loop (.tu (.cons (.nm 3) (.cons (.nm 4) (.cons (.nm 5) (.cons (.nm 6) (.cons (.nm 7) .nil)))))) (.seq (.lst (.cons (.tup (.cons (.var 1) (.cons (.var 1) (.cons (.var 1) (.cons (.var 1) (.cons (.var 1) .nil)))))) (.cons (.tup (.cons (.var 0) (.cons (.var 1) (.cons (.var 1) (.cons (.var 1) (.cons (.var 1) .nil)))))) (.cons (.tup (.cons (.var 0) (.cons (.lst (.cons (.con (.int 1)) .nil)) (.cons (.var 1) (.cons (.var 1) (.cons (.var 1) .nil)))))) (.cons (.tup (.cons (.var 0) (.cons (.lst (.cons (.con (.int 1)) .nil)) (.cons (.con (.int 1)) (.cons (.var 1) (.cons (.var 1) .nil)))))) (.cons (.tup (.cons (.var 0) (.cons (.lst (.cons (.con (.int 1)) .nil)) (.cons (.con (.int 1)) (.cons (.lst (.cons (.con (.int 1)) (.cons (.con (.int 0)) (.cons (.con (.int 1)) .nil)))) (.cons (.var 1) .nil)))))) .nil))))))) (.cons (.asg (.nm 2) (.bin .Add (.var 2) (.lc (.nm 8) (.seq (.lst (.cons (.glo "mend_cost" (.fn 32)) (.cons (.glo "mend_script" (.fn 33)) .nil)))) [8] (.con (.bl true)) (.cal 65 (.cons (.cau (.calv 8 (.cons (.var 3) (.cons (.var 4) (.cons (.var 5) (.cons (.var 6) .nil)))))) .nil) [])))) (.cons (.app 2 (.cal 65 (.cons (.cau (.cal 37 (.cons (.var 3) (.cons (.var 4) (.cons (.var 5) (.cons (.var 6) (.cons (.con .non) .nil))))) [])) .nil) [])) (.cons (.app 2 (.cal 65 (.cons (.cau (.cal 45 (.cons (.var 3) (.cons (.var 4) (.cons (.var 5) (.cons (.var 6) (.cons (.var 7) .nil))))) [])) .nil) [])) (.cons (.app 2 (.cal 65 (.cons (.cau (.cal 46 (.cons (.var 3) (.cons (.var 4) (.cons (.var 5) (.cons (.var 6) (.cons (.var 7) (.cons (.con .non) .nil)))))) [])) .nil) [])) .nil))))) (.cons (.app 2 (.cal 65 (.cons (.cau (.cal 45 (.cons (.var 0) (.cons (.lst (.cons (.con (.int 1)) .nil)) (.cons (.con (.int 1)) (.cons (.lst (.cons (.con (.int 1)) (.cons (.con (.int 1)) (.cons (.con (.int 1)) .nil)))) (.cons (.var 1) .nil))))) [])) .nil) [])) (.cons (.loop (.tu (.cons (.nm 3) (.cons (.nm 4) (.cons (.nm 9) .nil)))) (.seq (.lst (.cons (.tup (.cons (.var 1) (.cons (.var 1) (.cons (.var 1) .nil)))) (.cons (.tup (.cons (.var 0) (.cons (.var 1) (.cons (.var 1) .nil)))) (.cons (.tup (.cons (.var 0) (.cons (.lst (.cons (.con (.int 1)) .nil)) (.cons (.var 1) .nil)))) .nil))))) (.cons (.app 2 (.cal 65 (.cons (.cau (.cal 36 (.cons (.var 3) (.cons (.var 4) (.cons (.var 9) .nil))) [])) .nil) [])) .nil)) (.cons (.loop (.tu (.cons (.nm 3) (.cons (.nm 5) (.cons (.nm 10) (.cons (.nm 6) .nil))))) (.seq (.lst (.cons (.tup (.cons (.var 1) (.cons (.var 1) (.cons (.var 1) (.cons (.var 1) .nil))))) (.cons (.tup (.cons (.var 0) (.cons (.var 1) (.cons (.var 1) (.cons (.var 1) .nil))))) (.cons (.tup (.cons (.var 0) (.cons (.con (.int 1)) (.cons (.var 1) (.cons (.var 1) .nil))))) (.cons (.tup (.cons (.var 0) (.cons (.con (.int 1)) (.cons (.con (.int 1)) (.cons (.var 1) .nil))))) .nil)))))) (.cons (.asg (.nm 2) (.bin .Add (.var 2) (.lc (.nm 8) (.seq (.lst (.cons (.glo "verdict_distance" (.fn 39)) (.cons (.glo "distance_paper" (.fn 40)) .nil)))) [8] (.con (.bl true)) (.cal 65 (.cons (.cau (.calv 8 (.cons (.var 3) (.cons (.var 5) (.cons (.var 10) (.cons (.var 6) .nil)))))) .nil) [])))) (.cons (.app 2 (.cal 65 (.cons (.cau (.cal 41 (.cons (.var 3) (.cons (.var 5) (.cons (.var 10) (.cons (.var 6) (.cons (.con .non) .nil))))) [])) .nil) [])) .nil))) (.cons (.loop (.tu (.cons (.nm 3) (.cons (.nm 4) (.cons (.nm 6) .nil)))) (.seq (.lst (.cons (.tup (.cons (.var 1) (.cons (.var 1) (.cons (.var 1) .nil)))) (.cons (.tup (.cons (.var 0) (.cons (.var 1) (.cons (.var 1) .nil)))) (.cons (.tup (.cons (.var 0) (.cons (.lst (.cons (.con (.int 1)) .nil)) (.cons (.var 1) .nil)))) .nil))))) (.cons (.app 2 (.cal 65 (.cons (.cau (.cal 42 (.cons (.var 3) (.cons (.var 4) (.cons (.var 6) .nil))) [])) .nil) [])) .nil)) (.cons (.loop (.tu (.cons (.nm 3) (.cons (.nm 5) (.cons (.nm 11) (.cons (.nm 6) .nil))))) (.seq (.lst (.cons (.tup (.cons (.var 1) (.cons (.var 1) (.cons (.var 1) (.cons (.var 1) .nil))))) (.cons (.tup (.cons (.var 0) (.cons (.var 1) (.cons (.var 1) (.cons (.var 1) .nil))))) (.cons (.tup (.cons (.var 0) (.cons (.con (.int 1)) (.cons (.var 1) (.cons (.var 1) .nil))))) (.cons (.tup (.cons (.var 0) (.cons (.con (.int 1)) (.cons (.con (.int 12)) (.cons (.var 1) .nil))))) .nil)))))) (.cons (.app 2 (.cal 65 (.cons (.cau (.cal 43 (.cons (.var 3) (.cons (.var 5) (.cons (.var 11) (.cons (.var 6) .nil)))) [])) .nil) [])) .nil)) (.cons (.ret (.var 2)) .nil)))))))),
  .code 13 2 (.cons (.asg (.nm 2) (.lst .nil)) (.cons (.loop (.tu (.cons (.nm 3) (.cons (.nm 4) .nil))) (.seq (.lst (.cons (.tup (.cons (.var 1) (.cons (.var 1) .nil))) (.cons (.tup (.cons (.var 0) (.cons (.var 1) .nil))) .nil)))) (.cons (.asg (.nm 2) (.bin .Add (.var 2) (.lc (.nm 5) (.seq (.lst (.cons (.glo "rank_of" (.fn 57)) (.cons (.glo "next_row" (.fn 60)) .nil)))) [5] (.con (.bl true)) (.cal 65 (.cons (.cau (.calv 5 (.cons (.var 3) (.cons (.var 4) .nil)))) .nil) [])))) .nil)) (.cons (.loop (.tu (.cons (.nm 3) (.cons (.nm 6) (.cons (.nm 7) (.cons (.nm 8) .nil))))) (.seq (.lst (.cons (.tup (.cons (.var 1) (.cons (.var 1) (.cons (.var 1) (.cons (.var 1) .nil))))) (.cons (.tup (.cons (.var 0) (.cons (.var 1) (.cons (.var 1) (.cons (.var 1) .nil))))) (.cons (.tup (.cons (.var 0) (.cons (.con (.int 1)) (.cons (.var 1) (.cons (.var 1) .nil))))) (.cons (.tup (.cons (.var 0) (.cons (.con (.int 1)) (.cons (.con (.int 3)) (.cons (.var 1) .nil))))) .nil)))))) (.cons (.app 2 (.cal 65 (.cons (.cau (.cal 59 (.cons (.var 3) (.cons (.var 6) (.cons (.var 7) (.cons (.var 8) .nil)))) [])) .nil) [])) (.cons (.app 2 (.cal 65 (.cons (.cau (.cal 61 (.cons (.var 3) (.cons (.var 6) (.cons (.var 7) (.cons (.var 8) .nil)))) [])) .nil) [])) (.cons (.ite (.cmp .Eq (.var 7) (.var 1)) (.cons (.app 2 (.cal 65 (.cons (.cau (.cal 62 (.cons (.var 3) (.cons (.var 6) (.cons (.var 7) .nil))) [])) .nil) [])) .nil) .nil) .nil)))) (.cons (.loop (.tu (.cons (.nm 9) (.cons (.nm 6) (.cons (.nm 10) (.cons (.nm 11) (.cons (.nm 4) .nil)))))) (.seq (.lst (.cons (.tup (.cons (.var 1) (.cons (.var 1) (.cons (.var 1) (.cons (.var 1) (.cons (.var 1) .nil)))))) (.cons (.tup (.cons (.var 0) (.cons (.var 1) (.cons (.var 1) (.cons (.var 1) (.cons (.var 1) .nil)))))) (.cons (.tup (.cons (.var 0) (.cons (.con (.int 1)) (.cons (.var 1) (.cons (.var 1) (.cons (.var 1) .nil)))))) (.cons (.tup (.cons (.var 0) (.cons (.con (.int 1)) (.cons (.var 0) (.cons (.var 1) (.cons (.var 1) .nil)))))) (.cons (.tup (.cons (.var 0) (.cons (.con (.int 1)) (.cons (.var 0) (.cons (.con (.int 1)) (.cons (.var 1) .nil)))))) .nil))))))) (.cons (.app 2 (.cal 65 (.cons (.cau (.cal 48 (.cons (.var 9) (.cons (.var 6) (.cons (.var 10) (.cons (.var 11) (.cons (.var 4) .nil))))) [])) .nil) [])) (.cons (.ite (.cmp .Eq (.var 11) (.var 1)) (.cons (.app 2 (.cal 65 (.cons (.cau (.cal 49 (.cons (.var 9) (.cons (.var 6) (.cons (.var 10) (.cons (.var 11) .nil)))) [])) .nil) [])) .nil) .nil) .nil))) (.cons (.loop (.tu (.cons (.nm 3) (.cons (.nm 6) .nil))) (.seq (.lst (.cons (.tup (.cons (.var 1) (.cons (.var 1) .nil))) (.cons (.tup (.cons (.var 0) (.cons (.var 1) .nil))) .nil)))) (.cons (.asg (.nm 2) (.bin .Add (.var 2) (.lc (.nm 5) (.seq (.lst (.cons (.glo "thinned_watch" (.fn 50)) (.cons (.glo "thickened_watch" (.fn 51)) .nil)))) [5] (.con (.bl true)) (.cal 65 (.cons (.cau (.calv 5 (.cons (.var 3) (.cons (.var 6) .nil)))) .nil) [])))) (.cons (.app 2 (.cal 65 (.cons (.cau (.cal 52 (.cons (.var 3) (.cons (.var 6) (.cons (.var 1) .nil))) [])) .nil) [])) .nil))) (.cons (.app 2 (.cal 65 (.cons (.cau (.cal 52 (.cons (.var 0) (.cons (.con (.int 1)) (.cons (.var 1) .nil))) [])) .nil) [])) (.cons (.app 2 (.cal 65 (.cons (.cau (.cal 55 (.cons (.var 1) (.cons (.var 1) .nil)) [])) .nil) [])) (.cons (.asg (.nm 12) (.mak 10 (.cons (.var 0) (.cons (.con (.int 1)) (.cons (.lst (.cons (.con (.str "a")) .nil)) (.cons (.con (.int 3)) .nil)))))) (.cons (.app 2 (.cal 65 (.cons (.cau (.cal 55 (.cons (.var 12) (.cons (.var 1) .nil)) [])) .nil) [])) (.cons (.ret (.var 2)) .nil)))))))))),
  .code 1 1 (.cons (.ret (.bl .len (.cons (.ix (.fld (.var 0) "own_moves") (.con (.int 0))) .nil))) .nil),
  .code 1 1 (.cons (.ret (.fld (.var 0) "own_moves")) .nil),
  .code 1 1 (.cons (.ret (.fld (.var 0) "own_words")) .nil),
  .ini 9 3 2 [(.ex (.cal 14 (.cons (.var 1) .nil) [])), (.ex (.cal 15 (.cons (.var 2) (.cons (.bl .len (.cons (.var 1) .nil)) .nil)) [])), (.st "own_moves" (.bl .tuple (.cons (.lc (.nm 3) (.seq (.var 1)) [3] (.con (.bl true)) (.bl .tuple (.cons (.var 3) .nil))) .nil))), (.st "own_words" (.bl .tuple (.cons (.var 2) .nil)))],
  .ini 10 4 4 [(.ex (.cal 17 (.cons (.var 1) (.cons (.var 2) (.cons (.var 3) (.cons (.var 4) .nil)))) [])), (.st "own_watch" (.var 1)), (.st "own_verdict" (.var 2)), (.st "own_turns" (.bl .tuple (.cons (.var 3) .nil))), (.st "own_length" (.var 4)), (.st "own_row" (.tup .nil)), (.st "own_later" (.tup .nil)), (.st "own_table" (.cal 18 (.cons (.var 1) (.cons (.var 2) (.cons (.var 3) (.cons (.var 4) .nil)))) []))]]
theorem b_is_number : Bnd r_is_number := bnd0 rfl fun _ _ _ _ _ _ us hl => match us, hl with | [_], _ => rfl
theorem b_is_between : Bnd r_is_between := bnd0 rfl fun _ _ _ _ _ _ us hl => match us, hl with | [_, _, _], _ => rfl
theorem b_is_list : Bnd r_is_list := bnd0 rfl fun _ _ _ _ _ _ us hl => match us, hl with | [_], _ => rfl
theorem b_need_verdict : Bnd r_need_verdict := bnd0 rfl fun _ _ _ _ _ _ us hl => match us, hl with | [_], _ => rfl
theorem b_is_player : Bnd r_is_player := bnd0 rfl fun _ _ _ _ _ _ us hl => match us, hl with | [_], _ => rfl
theorem b_need_turns : Bnd r_need_turns := bnd0 rfl fun _ _ _ _ _ _ us hl => match us, hl with | [_], _ => rfl
theorem b_turn_at : Bnd r_turn_at := bnd0 rfl fun _ _ _ _ _ _ us hl => match us, hl with | [_, _], _ => rfl
theorem b_first_wrong : Bnd r_first_wrong := bnd0 rfl fun _ _ _ _ _ _ us hl => match us, hl with | [_, _], _ => rfl
theorem b_is_short_list : Bnd r_is_short_list := bnd0 rfl fun _ _ _ _ _ _ us hl => match us, hl with | [_], _ => rfl
theorem b_is_row : Bnd r_is_row := bnd0 rfl fun _ _ _ _ _ _ us hl => match us, hl with | [_, _], _ => rfl
theorem b_need_row : Bnd r_need_row := bnd0 rfl fun _ _ _ _ _ _ us hl => match us, hl with | [_, _], _ => rfl
theorem b_need_row_of : Bnd r_need_row_of := bnd0 rfl fun _ _ _ _ _ _ us hl => match us, hl with | [_, _], _ => rfl
theorem b_is_word : Bnd r_is_word := bnd0 rfl fun _ _ _ _ _ _ us hl => match us, hl with | [_], _ => rfl
theorem b_is_line : Bnd r_is_line := bnd0 rfl fun _ _ _ _ _ _ us hl => match us, hl with | [_, _, _], _ => rfl
theorem b_need_moves : Bnd r_need_moves := bnd0 rfl fun _ _ _ _ _ _ us hl => match us, hl with | [_], _ => rfl
theorem b_need_words : Bnd r_need_words := bnd0 rfl fun _ _ _ _ _ _ us hl => match us, hl with | [_, _], _ => rfl
theorem b_need_watch : Bnd r_need_watch := by
  refine bnd1 (by intro z; cases z) ?_
  intro m hm T kV doc pm an cdv ct us its h1 h2
  have hm : m ≤ 1 := hm
  have h1 : us.length + m = 2 := h1
  have h2 : its.length = 1 := h2
  by_cases e0 : m = 0
  · subst e0
    have h1 : us.length = 2 := by omega
    exact match us, its, h1, h2 with | [_, _], [_], _, _ => ⟨_, rfl, rfl⟩
  by_cases e1 : m = 1
  · subst e1
    have h1 : us.length = 1 := by omega
    exact match us, its, h1, h2 with | [_], [_], _, _ => ⟨_, rfl, rfl⟩
  omega
theorem b_need_forced : Bnd r_need_forced := bnd0 rfl fun _ _ _ _ _ _ us hl => match us, hl with | [_, _, _, _], _ => rfl
theorem b_winners_by : Bnd r_winners_by := bnd0 rfl fun _ _ _ _ _ _ us hl => match us, hl with | [_, _, _, _], _ => rfl
theorem b_forced : Bnd r_forced := bnd0 rfl fun _ _ _ _ _ _ us hl => match us, hl with | [_, _, _, _], _ => rfl
theorem b_forced_paper : Bnd r_forced_paper := bnd0 rfl fun _ _ _ _ _ _ us hl => match us, hl with | [_, _, _, _], _ => rfl
theorem b_is_forced_paper : Bnd r_is_forced_paper := bnd0 rfl fun _ _ _ _ _ _ us hl => match us, hl with | [_, _, _, _, _], _ => rfl
theorem b_need_game : Bnd r_need_game := bnd0 rfl fun _ _ _ _ _ _ us hl => match us, hl with | [_, _, _], _ => rfl
theorem b_reach_paper : Bnd r_reach_paper := bnd0 rfl fun _ _ _ _ _ _ us hl => match us, hl with | [_, _, _], _ => rfl
theorem b_reach_time : Bnd r_reach_time := bnd0 rfl fun _ _ _ _ _ _ us hl => match us, hl with | [_, _, _], _ => rfl
theorem b_is_reach_paper : Bnd r_is_reach_paper := bnd0 rfl fun _ _ _ _ _ _ us hl => match us, hl with | [_, _, _, _], _ => rfl
theorem b_visits : Bnd r_visits := bnd0 rfl fun _ _ _ _ _ _ us hl => match us, hl with | [_, _, _], _ => rfl
theorem b_again_paper : Bnd r_again_paper := bnd0 rfl fun _ _ _ _ _ _ us hl => match us, hl with | [_, _, _], _ => rfl
theorem b_is_again_paper : Bnd r_is_again_paper := bnd0 rfl fun _ _ _ _ _ _ us hl => match us, hl with | [_, _, _, _], _ => rfl
theorem b_need_mend_row : Bnd r_need_mend_row := bnd0 rfl fun _ _ _ _ _ _ us hl => match us, hl with | [_, _], _ => rfl
theorem b_need_costs : Bnd r_need_costs := bnd0 rfl fun _ _ _ _ _ _ us hl => match us, hl with | [_], _ => rfl
theorem b_need_mended : Bnd r_need_mended := bnd0 rfl fun _ _ _ _ _ _ us hl => match us, hl with | [_, _, _, _], _ => rfl
theorem b_mend_cost : Bnd r_mend_cost := bnd0 rfl fun _ _ _ _ _ _ us hl => match us, hl with | [_, _, _, _], _ => rfl
theorem b_mend_script : Bnd r_mend_script := bnd0 rfl fun _ _ _ _ _ _ us hl => match us, hl with | [_, _, _, _], _ => rfl
theorem b_is_deed : Bnd r_is_deed := bnd0 rfl fun _ _ _ _ _ _ us hl => match us, hl with | [_, _], _ => rfl
theorem b_made_by : Bnd r_made_by := bnd0 rfl fun _ _ _ _ _ _ us hl => match us, hl with | [_, _, _], _ => rfl
theorem b_mended : Bnd r_mended := bnd0 rfl fun _ _ _ _ _ _ us hl => match us, hl with | [_, _, _], _ => rfl
theorem b_is_mend : Bnd r_is_mend := bnd0 rfl fun _ _ _ _ _ _ us hl => match us, hl with | [_, _, _, _, _], _ => rfl
theorem b_need_distance : Bnd r_need_distance := bnd0 rfl fun _ _ _ _ _ _ us hl => match us, hl with | [_, _, _, _], _ => rfl
theorem b_verdict_distance : Bnd r_verdict_distance := bnd0 rfl fun _ _ _ _ _ _ us hl => match us, hl with | [_, _, _, _], _ => rfl
theorem b_distance_paper : Bnd r_distance_paper := bnd0 rfl fun _ _ _ _ _ _ us hl => match us, hl with | [_, _, _, _], _ => rfl
theorem b_is_distance : Bnd r_is_distance := bnd0 rfl fun _ _ _ _ _ _ us hl => match us, hl with | [_, _, _, _, _], _ => rfl
theorem b_tolerance : Bnd r_tolerance := bnd0 rfl fun _ _ _ _ _ _ us hl => match us, hl with | [_, _, _], _ => rfl
theorem b_firmest : Bnd r_firmest := bnd0 rfl fun _ _ _ _ _ _ us hl => match us, hl with | [_, _, _, _], _ => rfl
theorem b_need_bound : Bnd r_need_bound := bnd0 rfl fun _ _ _ _ _ _ us hl => match us, hl with | [_], _ => rfl
theorem b_floor_paper : Bnd r_floor_paper := bnd0 rfl fun _ _ _ _ _ _ us hl => match us, hl with | [_, _, _, _, _], _ => rfl
theorem b_is_floor : Bnd r_is_floor := bnd0 rfl fun _ _ _ _ _ _ us hl => match us, hl with | [_, _, _, _, _, _], _ => rfl
theorem b_need_parts : Bnd r_need_parts := bnd0 rfl fun _ _ _ _ _ _ us hl => match us, hl with | [_, _, _, _], _ => rfl
theorem b_splits : Bnd r_splits := bnd0 rfl fun _ _ _ _ _ _ us hl => match us, hl with | [_, _, _, _, _], _ => rfl
theorem b_joined_watch : Bnd r_joined_watch := bnd0 rfl fun _ _ _ _ _ _ us hl => match us, hl with | [_, _, _, _], _ => rfl
theorem b_thinned_watch : Bnd r_thinned_watch := bnd0 rfl fun _ _ _ _ _ _ us hl => match us, hl with | [_, _], _ => rfl
theorem b_thickened_watch : Bnd r_thickened_watch := bnd0 rfl fun _ _ _ _ _ _ us hl => match us, hl with | [_, _], _ => rfl
theorem b_near_watch : Bnd r_near_watch := bnd0 rfl fun _ _ _ _ _ _ us hl => match us, hl with | [_, _, _], _ => rfl
theorem b_is_name : Bnd r_is_name := bnd0 rfl fun _ _ _ _ _ _ us hl => match us, hl with | [_], _ => rfl
theorem b_are_names : Bnd r_are_names := bnd0 rfl fun _ _ _ _ _ _ us hl => match us, hl with | [_], _ => rfl
theorem b_match_text : Bnd r_match_text := bnd0 rfl fun _ _ _ _ _ _ us hl => match us, hl with | [_, _], _ => rfl
theorem b_counts_to : Bnd r_counts_to := bnd0 rfl fun _ _ _ _ _ _ us hl => match us, hl with | [_, _, _], _ => rfl
theorem b_rank_of : Bnd r_rank_of := bnd0 rfl fun _ _ _ _ _ _ us hl => match us, hl with | [_, _], _ => rfl
theorem b_need_length : Bnd r_need_length := bnd0 rfl fun _ _ _ _ _ _ us hl => match us, hl with | [_], _ => rfl
theorem b_row_at : Bnd r_row_at := bnd0 rfl fun _ _ _ _ _ _ us hl => match us, hl with | [_, _, _, _], _ => rfl
theorem b_next_row : Bnd r_next_row := bnd0 rfl fun _ _ _ _ _ _ us hl => match us, hl with | [_, _], _ => rfl
theorem b_spread : Bnd r_spread := bnd0 rfl fun _ _ _ _ _ _ us hl => match us, hl with | [_, _, _, _], _ => rfl
theorem b_kind_sums : Bnd r_kind_sums := bnd0 rfl fun _ _ _ _ _ _ us hl => match us, hl with | [_, _, _], _ => rfl
theorem b__law_draw : Bnd r__law_draw := bnd0 rfl fun _ _ _ _ _ _ us hl => match us, hl with | [_, _], _ => rfl
theorem b__law_pick : Bnd r__law_pick := bnd0 rfl fun _ _ _ _ _ _ us hl => match us, hl with | [_, _], _ => rfl
theorem b__law_word : Bnd r__law_word := bnd0 rfl fun _ _ _ _ _ _ us hl => match us, hl with | [_], _ => rfl
theorem b__law_of_games : Bnd r__law_of_games := bnd0 rfl fun _ _ _ _ _ _ us hl => match us, hl with | [_, _], _ => rfl
theorem b__law_of_mends : Bnd r__law_of_mends := bnd0 rfl fun _ _ _ _ _ _ us hl => match us, hl with | [_, _], _ => rfl
theorem b__law_of_rows : Bnd r__law_of_rows := bnd0 rfl fun _ _ _ _ _ _ us hl => match us, hl with | [_, _], _ => rfl
theorem b_Watch_kinds : Bnd r_Watch_kinds := bnd0 rfl fun _ _ _ _ _ _ us hl => match us, hl with | [_], _ => rfl
theorem b_Watch_moves : Bnd r_Watch_moves := bnd0 rfl fun _ _ _ _ _ _ us hl => match us, hl with | [_], _ => rfl
theorem b_Watch_words : Bnd r_Watch_words := bnd0 rfl fun _ _ _ _ _ _ us hl => match us, hl with | [_], _ => rfl
theorem b_Watch_init : Bnd r_Watch_init := bnd0 rfl fun _ _ _ _ _ _ us hl => match us, hl with | [_, _, _], _ => rfl
theorem b_Match_init : Bnd r_Match_init := bnd0 rfl fun _ _ _ _ _ _ us hl => match us, hl with | [_, _, _, _, _], _ => rfl
theorem bx_law : Bnd rx_law := bnd0 rfl fun _ _ _ _ _ _ us hl => match us, hl with | [_], _ => rfl
theorem bx__law_begun : Bnd rx__law_begun := bnd0 rfl fun _ _ _ _ _ _ us hl => match us, hl with | [_], _ => rfl
theorem bx__law_blend : Bnd rx__law_blend := bnd0 rfl fun _ _ _ _ _ _ us hl => match us, hl with | [_], _ => rfl
theorem bx__law_caught : Bnd rx__law_caught := bnd0 rfl fun _ _ _ _ _ _ us hl => match us, hl with | [_], _ => rfl
theorem bnds : ∀ d ∈ rs, Bnd d := by
  unfold rs
  simp only [List.forall_mem_cons]
  exact ⟨b_is_number, b_is_between, b_is_list, b_need_verdict, b_is_player, b_need_turns, b_turn_at, b_first_wrong, b_is_short_list, b_is_row, b_need_row, b_need_row_of, b_is_word, b_is_line, b_need_moves, b_need_words, b_need_watch, b_need_forced, b_winners_by, b_forced, b_forced_paper, b_is_forced_paper, b_need_game, b_reach_paper, b_reach_time, b_is_reach_paper, b_visits, b_again_paper, b_is_again_paper, b_need_mend_row, b_need_costs, b_need_mended, b_mend_cost, b_mend_script, b_is_deed, b_made_by, b_mended, b_is_mend, b_need_distance, b_verdict_distance, b_distance_paper, b_is_distance, b_tolerance, b_firmest, b_need_bound, b_floor_paper, b_is_floor, b_need_parts, b_splits, b_joined_watch, b_thinned_watch, b_thickened_watch, b_near_watch, b_is_name, b_are_names, b_match_text, b_counts_to, b_rank_of, b_need_length, b_row_at, b_next_row, b_spread, b_kind_sums, b__law_draw, b__law_pick, b__law_word, b__law_of_games, b__law_of_mends, b__law_of_rows, b_Watch_kinds, b_Watch_moves, b_Watch_words, b_Watch_init, b_Match_init, fun _ h => by cases h⟩
theorem s_PartError : SupR ri_PartError ("part" : Str) := ⟨rfl, rfl, rfl, ⟨⟨_, _, rfl⟩, ⟨_, _, _, _, _, _, _, _, _, _, _, _, rfl, rfl⟩, by kernel_rfl, by kernel_rfl, by kernel_rfl, by kernel_rfl, by decide +kernel, rfl, rfl, rfl, by decide +kernel, by decide +kernel⟩, fun _ _ _ _ _ _ _ us hl => match us, hl with | [_, _], _ => rfl⟩
theorem s_ItemError : SupR ri_ItemError ("index" : Str) := ⟨rfl, rfl, rfl, ⟨⟨_, _, rfl⟩, ⟨_, _, _, _, _, _, _, _, _, _, _, _, rfl, rfl⟩, by kernel_rfl, by kernel_rfl, by kernel_rfl, by kernel_rfl, by decide +kernel, rfl, rfl, rfl, by decide +kernel, by decide +kernel⟩, fun _ _ _ _ _ _ _ us hl => match us, hl with | [_, _], _ => rfl⟩
theorem sup : ∀ e ∈ td.sups, SupR e.2.2 e.2.1 ∧ e.2.2 ∈ xt := by
  unfold td
  simp only [List.forall_mem_cons]
  exact ⟨⟨s_PartError, List.mem_of_getElem? (i := 4) rfl⟩, ⟨s_PartError, List.mem_of_getElem? (i := 4) rfl⟩, ⟨s_ItemError, List.mem_of_getElem? (i := 5) rfl⟩, ⟨s_ItemError, List.mem_of_getElem? (i := 5) rfl⟩, ⟨s_ItemError, List.mem_of_getElem? (i := 5) rfl⟩, fun _ h => by cases h⟩
theorem st_ok : (stB zz td rs).all id = true := by kernel_rfl
theorem fs_ok : fs = rs.map (compR zz) := by kernel_rfl
theorem fns_ok : zz.fns = fnsOf rs 0 := by kernel_rfl
theorem txt : Txt R.prog zz td rs xt fs "WatchError" := ⟨st_ok, fs_ok, fns_ok, rfl, bnds, sup, by kernel_rfl⟩
end Lw

set_option maxRecDepth 100000
set_option maxHeartbeats 0
namespace Lw
open PySem PySem.Spec PyProof.Rows L2 Dl
theorem prims : ∀ d ∈ rs, isPrim d.k = true → d = r__law_draw := by
  unfold rs
  simp only [List.forall_mem_cons]
  exact ⟨(fun h => nomatch (show false = true from h)), (fun h => nomatch (show false = true from h)), (fun h => nomatch (show false = true from h)), (fun h => nomatch (show false = true from h)), (fun h => nomatch (show false = true from h)), (fun h => nomatch (show false = true from h)), (fun h => nomatch (show false = true from h)), (fun h => nomatch (show false = true from h)), (fun h => nomatch (show false = true from h)), (fun h => nomatch (show false = true from h)), (fun h => nomatch (show false = true from h)), (fun h => nomatch (show false = true from h)), (fun h => nomatch (show false = true from h)), (fun h => nomatch (show false = true from h)), (fun h => nomatch (show false = true from h)), (fun h => nomatch (show false = true from h)), (fun h => nomatch (show false = true from h)), (fun h => nomatch (show false = true from h)), (fun h => nomatch (show false = true from h)), (fun h => nomatch (show false = true from h)), (fun h => nomatch (show false = true from h)), (fun h => nomatch (show false = true from h)), (fun h => nomatch (show false = true from h)), (fun h => nomatch (show false = true from h)), (fun h => nomatch (show false = true from h)), (fun h => nomatch (show false = true from h)), (fun h => nomatch (show false = true from h)), (fun h => nomatch (show false = true from h)), (fun h => nomatch (show false = true from h)), (fun h => nomatch (show false = true from h)), (fun h => nomatch (show false = true from h)), (fun h => nomatch (show false = true from h)), (fun h => nomatch (show false = true from h)), (fun h => nomatch (show false = true from h)), (fun h => nomatch (show false = true from h)), (fun h => nomatch (show false = true from h)), (fun h => nomatch (show false = true from h)), (fun h => nomatch (show false = true from h)), (fun h => nomatch (show false = true from h)), (fun h => nomatch (show false = true from h)), (fun h => nomatch (show false = true from h)), (fun h => nomatch (show false = true from h)), (fun h => nomatch (show false = true from h)), (fun h => nomatch (show false = true from h)), (fun h => nomatch (show false = true from h)), (fun h => nomatch (show false = true from h)), (fun h => nomatch (show false = true from h)), (fun h => nomatch (show false = true from h)), (fun h => nomatch (show false = true from h)), (fun h => nomatch (show false = true from h)), (fun h => nomatch (show false = true from h)), (fun h => nomatch (show false = true from h)), (fun h => nomatch (show false = true from h)), (fun h => nomatch (show false = true from h)), (fun h => nomatch (show false = true from h)), (fun h => nomatch (show false = true from h)), (fun h => nomatch (show false = true from h)), (fun h => nomatch (show false = true from h)), (fun h => nomatch (show false = true from h)), (fun h => nomatch (show false = true from h)), (fun h => nomatch (show false = true from h)), (fun h => nomatch (show false = true from h)), (fun h => nomatch (show false = true from h)), (fun _ => trivial), (fun h => nomatch (show false = true from h)), (fun h => nomatch (show false = true from h)), (fun h => nomatch (show false = true from h)), (fun h => nomatch (show false = true from h)), (fun h => nomatch (show false = true from h)), (fun h => nomatch (show false = true from h)), (fun h => nomatch (show false = true from h)), (fun h => nomatch (show false = true from h)), (fun h => nomatch (show false = true from h)), (fun h => nomatch (show false = true from h)), fun _ h => by cases h⟩
def lawB : SXs := (.cons (.set (.cons (.nm 2) (.cons (.nm 3) .nil)) (.cons (.cal 64 (.cons (.var 1) (.cons (.lst (.cons (.con .non) (.cons (.con (.str "x")) (.cons (.tup (.cons (.con .non) .nil)) (.cons (.con (.str "0")) .nil))))) .nil)) []) (.cons (.mak 9 (.cons (.lst (.cons (.tup (.cons (.con (.int 0)) (.cons (.con (.int 1)) .nil))) (.cons (.tup (.cons (.con (.int 0)) (.cons (.con (.int 2)) .nil))) (.cons (.tup (.cons (.con (.int 2)) (.cons (.con (.int 2)) .nil))) .nil)))) (.cons (.lst (.cons (.con (.int 0)) (.cons (.con (.int 0)) (.cons (.con (.int 1)) .nil)))) .nil))) .nil))) (.cons (.asg (.nm 4) (.cal 66 (.cons (.var 3) (.cons (.var 2) .nil)) [])) (.cons (.asg (.nm 5) (.bin .Add (.bin .Mult (.lst (.cons (.tup (.cons (.con (.str "watch")) (.cons (.con .non) .nil))) .nil)) (.con (.int 10))) (.bin .Mult (.lst (.cons (.tup (.cons (.con (.str "verdict")) (.cons (.con .non) .nil))) .nil)) (.con (.int 10))))) (.cons (.ite (.or (.cmp .NotEq (.slc (.var 4) (.con .non) (.con (.int 20))) (.var 5)) (.or (.cmp .NotEq (.lc (.nm 6) (.seq (.slc (.var 4) (.con (.int 20)) (.con (.int 30)))) [6] (.con (.bl true)) (.ix (.var 6) (.con (.int 0)))) (.bin .Mult (.lst (.cons (.con (.str "turns")) .nil)) (.con (.int 10)))) (.or (.cmp .NotEq (.slc (.var 4) (.con (.int 30)) (.con (.int 40))) (.bin .Mult (.lst (.cons (.tup (.cons (.con (.str "turns")) (.cons (.con (.int 1)) .nil))) .nil)) (.con (.int 10)))) (.cmp .NotEq (.slc (.var 4) (.con (.int 40)) (.con .non)) (.bin .Mult (.lst (.cons (.tup (.cons (.con (.str "number")) (.cons (.con (.str "length")) .nil))) .nil)) (.con (.int 4))))))) (.cons (.ret (.con (.bl false))) .nil) .nil) (.cons (.asg (.nm 4) (.cal 67 (.cons (.var 3) (.cons (.var 2) .nil)) [])) (.cons (.asg (.nm 5) (.bin .Add (.bin .Add (.bin .Add (.bin .Add (.bin .Add (.bin .Mult (.lst (.cons (.tup (.cons (.con (.str "watch")) (.cons (.con .non) .nil))) .nil)) (.con (.int 5))) (.bin .Mult (.lst (.cons (.tup (.cons (.con (.str "row")) (.cons (.con .non) .nil))) .nil)) (.con (.int 5)))) (.bin .Mult (.lst (.cons (.tup (.cons (.con (.str "verdict")) (.cons (.con .non) .nil))) .nil)) (.con (.int 5)))) (.bin .Mult (.lst (.cons (.tup (.cons (.con (.str "prices")) (.cons (.con .non) .nil))) .nil)) (.con (.int 5)))) (.bin .Mult (.lst (.cons (.tup (.cons (.con (.str "prices")) (.cons (.con (.int 1)) .nil))) .nil)) (.con (.int 5)))) (.lst (.cons (.tup (.cons (.con (.str "number")) (.cons (.con (.str "bound")) .nil))) .nil)))) (.cons (.asg (.nm 5) (.bin .Add (.bin .Add (.bin .Add (.bin .Add (.var 5) (.lst (.cons (.tup (.cons (.con (.str "watch")) (.cons (.con .non) .nil))) (.cons (.tup (.cons (.con (.str "row")) (.cons (.con .non) .nil))) (.cons (.tup (.cons (.con (.str "script")) (.cons (.con .non) .nil))) .nil))))) (.bin .Mult (.lst (.cons (.tup (.cons (.con (.str "watch")) (.cons (.con .non) .nil))) .nil)) (.con (.int 3)))) (.bin .Mult (.lst (.cons (.tup (.cons (.con (.str "verdict")) (.cons (.con .non) .nil))) .nil)) (.con (.int 6)))) (.bin .Mult (.lst (.cons (.tup (.cons (.con (.str "prices")) (.cons (.con .non) .nil))) .nil)) (.con (.int 3))))) (.cons (.asg (.nm 5) (.bin .Add (.bin .Add (.var 5) (.lst (.cons (.tup (.cons (.con (.str "watch")) (.cons (.con .non) .nil))) (.cons (.tup (.cons (.con (.str "row")) (.cons (.con .non) .nil))) (.cons (.tup (.cons (.con (.str "prices")) (.cons (.con .non) .nil))) .nil))))) (.lst (.cons (.tup (.cons (.con (.str "watch")) (.cons (.con .non) .nil))) (.cons (.tup (.cons (.con (.str "verdict")) (.cons (.con .non) .nil))) (.cons (.tup (.cons (.con (.str "number")) (.cons (.con (.str "length")) .nil))) (.cons (.tup (.cons (.con (.str "prices")) (.cons (.con .non) .nil))) .nil))))))) (.cons (.ite (.cmp .NotEq (.var 4) (.var 5)) (.cons (.ret (.con (.bl false))) .nil) .nil) (.cons (.asg (.nm 4) (.cal 68 (.cons (.var 3) (.cons (.var 2) .nil)) [])) (.cons (.asg (.nm 5) (.bin .Add (.bin .Add (.bin .Add (.bin .Add (.bin .Add (.bin .Mult (.lst (.cons (.tup (.cons (.con (.str "watch")) (.cons (.con .non) .nil))) .nil)) (.con (.int 2))) (.bin .Mult (.lst (.cons (.tup (.cons (.con (.str "row")) (.cons (.con .non) .nil))) .nil)) (.con (.int 2)))) (.bin .Mult (.lst (.cons (.tup (.cons (.con (.str "watch")) (.cons (.con .non) .nil))) .nil)) (.con (.int 3)))) (.bin .Mult (.lst (.cons (.tup (.cons (.con (.str "verdict")) (.cons (.con .non) .nil))) .nil)) (.con (.int 3)))) (.bin .Mult (.lst (.cons (.tup (.cons (.con (.str "number")) (.cons (.con (.str "length")) .nil))) .nil)) (.con (.int 3)))) (.lst (.cons (.tup (.cons (.con (.str "number")) (.cons (.con (.str "number")) .nil))) (.cons (.tup (.cons (.con (.str "number")) (.cons (.con (.str "kind")) .nil))) .nil))))) (.cons (.asg (.nm 5) (.bin .Add (.bin .Add (.bin .Add (.bin .Add (.bin .Add (.var 5) (.bin .Mult (.lst (.cons (.tup (.cons (.con (.str "watch")) (.cons (.con (.str "one")) .nil))) .nil)) (.con (.int 2)))) (.bin .Mult (.lst (.cons (.tup (.cons (.con (.str "verdict")) (.cons (.con .non) .nil))) .nil)) (.con (.int 2)))) (.bin .Mult (.lst (.cons (.tup (.cons (.con (.str "watch")) (.cons (.con (.str "other")) .nil))) .nil)) (.con (.int 2)))) (.bin .Mult (.lst (.cons (.tup (.cons (.con (.str "verdict")) (.cons (.con .non) .nil))) .nil)) (.con (.int 2)))) (.lst (.cons (.tup (.cons (.con (.str "row")) (.cons (.con .non) .nil))) .nil)))) (.cons (.asg (.nm 5) (.bin .Add (.bin .Add (.bin .Add (.var 5) (.bin .Mult (.lst (.cons (.tup (.cons (.con (.str "watch")) (.cons (.con .non) .nil))) .nil)) (.con (.int 3)))) (.bin .Mult (.lst (.cons (.tup (.cons (.con (.str "verdict")) (.cons (.con .non) .nil))) .nil)) (.con (.int 3)))) (.lst (.cons (.tup (.cons (.con (.str "number")) (.cons (.con (.str "most")) .nil))) (.cons (.tup (.cons (.con (.str "match")) (.cons (.con .non) .nil))) (.cons (.tup (.cons (.con (.str "names")) (.cons (.con .non) .nil))) .nil)))))) (.cons (.ret (.cmp .Eq (.var 4) (.var 5))) .nil))))))))))))))
def lawN : List Str := [("script" : Str), ("tape" : Str), ("odd" : Str), ("one" : Str), ("told" : Str), ("due" : Str), ("item" : Str)]
theorem lawB_ok : cSs zz lawN false 60 (defScope (top 188)) ((defBody (top 188)).drop 1) = lawB := by kernel_rfl
def pick4 : List D := [.non, .str "x", .tup [.non], .str "0"]
def oneD : D := .ins 9 [("own_moves", .tup [.tup [.int 0, .int 1], .tup [.int 0, .int 2], .tup [.int 2, .int 2]]), ("own_words", .tup [.int 0, .int 0, .int 1])]
def lawR : SXs := (.cons (.asg (.nm 4) (.cal 66 (.cons (.var 3) (.cons (.var 2) .nil)) [])) (.cons (.asg (.nm 5) (.bin .Add (.bin .Mult (.lst (.cons (.tup (.cons (.con (.str "watch")) (.cons (.con .non) .nil))) .nil)) (.con (.int 10))) (.bin .Mult (.lst (.cons (.tup (.cons (.con (.str "verdict")) (.cons (.con .non) .nil))) .nil)) (.con (.int 10))))) (.cons (.ite (.or (.cmp .NotEq (.slc (.var 4) (.con .non) (.con (.int 20))) (.var 5)) (.or (.cmp .NotEq (.lc (.nm 6) (.seq (.slc (.var 4) (.con (.int 20)) (.con (.int 30)))) [6] (.con (.bl true)) (.ix (.var 6) (.con (.int 0)))) (.bin .Mult (.lst (.cons (.con (.str "turns")) .nil)) (.con (.int 10)))) (.or (.cmp .NotEq (.slc (.var 4) (.con (.int 30)) (.con (.int 40))) (.bin .Mult (.lst (.cons (.tup (.cons (.con (.str "turns")) (.cons (.con (.int 1)) .nil))) .nil)) (.con (.int 10)))) (.cmp .NotEq (.slc (.var 4) (.con (.int 40)) (.con .non)) (.bin .Mult (.lst (.cons (.tup (.cons (.con (.str "number")) (.cons (.con (.str "length")) .nil))) .nil)) (.con (.int 4))))))) (.cons (.ret (.con (.bl false))) .nil) .nil) (.cons (.asg (.nm 4) (.cal 67 (.cons (.var 3) (.cons (.var 2) .nil)) [])) (.cons (.asg (.nm 5) (.bin .Add (.bin .Add (.bin .Add (.bin .Add (.bin .Add (.bin .Mult (.lst (.cons (.tup (.cons (.con (.str "watch")) (.cons (.con .non) .nil))) .nil)) (.con (.int 5))) (.bin .Mult (.lst (.cons (.tup (.cons (.con (.str "row")) (.cons (.con .non) .nil))) .nil)) (.con (.int 5)))) (.bin .Mult (.lst (.cons (.tup (.cons (.con (.str "verdict")) (.cons (.con .non) .nil))) .nil)) (.con (.int 5)))) (.bin .Mult (.lst (.cons (.tup (.cons (.con (.str "prices")) (.cons (.con .non) .nil))) .nil)) (.con (.int 5)))) (.bin .Mult (.lst (.cons (.tup (.cons (.con (.str "prices")) (.cons (.con (.int 1)) .nil))) .nil)) (.con (.int 5)))) (.lst (.cons (.tup (.cons (.con (.str "number")) (.cons (.con (.str "bound")) .nil))) .nil)))) (.cons (.asg (.nm 5) (.bin .Add (.bin .Add (.bin .Add (.bin .Add (.var 5) (.lst (.cons (.tup (.cons (.con (.str "watch")) (.cons (.con .non) .nil))) (.cons (.tup (.cons (.con (.str "row")) (.cons (.con .non) .nil))) (.cons (.tup (.cons (.con (.str "script")) (.cons (.con .non) .nil))) .nil))))) (.bin .Mult (.lst (.cons (.tup (.cons (.con (.str "watch")) (.cons (.con .non) .nil))) .nil)) (.con (.int 3)))) (.bin .Mult (.lst (.cons (.tup (.cons (.con (.str "verdict")) (.cons (.con .non) .nil))) .nil)) (.con (.int 6)))) (.bin .Mult (.lst (.cons (.tup (.cons (.con (.str "prices")) (.cons (.con .non) .nil))) .nil)) (.con (.int 3))))) (.cons (.asg (.nm 5) (.bin .Add (.bin .Add (.var 5) (.lst (.cons (.tup (.cons (.con (.str "watch")) (.cons (.con .non) .nil))) (.cons (.tup (.cons (.con (.str "row")) (.cons (.con .non) .nil))) (.cons (.tup (.cons (.con (.str "prices")) (.cons (.con .non) .nil))) .nil))))) (.lst (.cons (.tup (.cons (.con (.str "watch")) (.cons (.con .non) .nil))) (.cons (.tup (.cons (.con (.str "verdict")) (.cons (.con .non) .nil))) (.cons (.tup (.cons (.con (.str "number")) (.cons (.con (.str "length")) .nil))) (.cons (.tup (.cons (.con (.str "prices")) (.cons (.con .non) .nil))) .nil))))))) (.cons (.ite (.cmp .NotEq (.var 4) (.var 5)) (.cons (.ret (.con (.bl false))) .nil) .nil) (.cons (.asg (.nm 4) (.cal 68 (.cons (.var 3) (.cons (.var 2) .nil)) [])) (.cons (.asg (.nm 5) (.bin .Add (.bin .Add (.bin .Add (.bin .Add (.bin .Add (.bin .Mult (.lst (.cons (.tup (.cons (.con (.str "watch")) (.cons (.con .non) .nil))) .nil)) (.con (.int 2))) (.bin .Mult (.lst (.cons (.tup (.cons (.con (.str "row")) (.cons (.con .non) .nil))) .nil)) (.con (.int 2)))) (.bin .Mult (.lst (.cons (.tup (.cons (.con (.str "watch")) (.cons (.con .non) .nil))) .nil)) (.con (.int 3)))) (.bin .Mult (.lst (.cons (.tup (.cons (.con (.str "verdict")) (.cons (.con .non) .nil))) .nil)) (.con (.int 3)))) (.bin .Mult (.lst (.cons (.tup (.cons (.con (.str "number")) (.cons (.con (.str "length")) .nil))) .nil)) (.con (.int 3)))) (.lst (.cons (.tup (.cons (.con (.str "number")) (.cons (.con (.str "number")) .nil))) (.cons (.tup (.cons (.con (.str "number")) (.cons (.con (.str "kind")) .nil))) .nil))))) (.cons (.asg (.nm 5) (.bin .Add (.bin .Add (.bin .Add (.bin .Add (.bin .Add (.var 5) (.bin .Mult (.lst (.cons (.tup (.cons (.con (.str "watch")) (.cons (.con (.str "one")) .nil))) .nil)) (.con (.int 2)))) (.bin .Mult (.lst (.cons (.tup (.cons (.con (.str "verdict")) (.cons (.con .non) .nil))) .nil)) (.con (.int 2)))) (.bin .Mult (.lst (.cons (.tup (.cons (.con (.str "watch")) (.cons (.con (.str "other")) .nil))) .nil)) (.con (.int 2)))) (.bin .Mult (.lst (.cons (.tup (.cons (.con (.str "verdict")) (.cons (.con .non) .nil))) .nil)) (.con (.int 2)))) (.lst (.cons (.tup (.cons (.con (.str "row")) (.cons (.con .non) .nil))) .nil)))) (.cons (.asg (.nm 5) (.bin .Add (.bin .Add (.bin .Add (.var 5) (.bin .Mult (.lst (.cons (.tup (.cons (.con (.str "watch")) (.cons (.con .non) .nil))) .nil)) (.con (.int 3)))) (.bin .Mult (.lst (.cons (.tup (.cons (.con (.str "verdict")) (.cons (.con .non) .nil))) .nil)) (.con (.int 3)))) (.lst (.cons (.tup (.cons (.con (.str "number")) (.cons (.con (.str "most")) .nil))) (.cons (.tup (.cons (.con (.str "match")) (.cons (.con .non) .nil))) (.cons (.tup (.cons (.con (.str "names")) (.cons (.con .non) .nil))) .nil)))))) (.cons (.ret (.cmp .Eq (.var 4) (.var 5))) .nil)))))))))))))
theorem drw (W : Wd) : callF td.tbl fs 6 63 [.tape, .int 4] W = .ok (.int (drawT 4 W.tp).1) ⟨(drawT 4 W.tp).2⟩ := by kernel_rfl
theorem pck {cf : CF} {W W2 : Wd} {r : Int} {d : D} (h : cf 63 [.tape, .int 4] W = .ok (.int r) W2) (e : atI pick4 r = some d) :
    endF (semSs td.tbl cf (.cons (.ret (.ix (.var 1) (.cal 63 (.cons (.var 0) (.cons (.bl .len (.cons (.var 1) .nil)) .nil)) []))) .nil) (startL 2 [.tape, .lst pick4]) W) = .ok d W2 := by
  have l : (startL 2 [.tape, .lst pick4])[1]? = some (some (.val (.lst pick4))) := rfl
  have l0 : (startL 2 [.tape, .lst pick4])[0]? = some (some (.val .tape)) := rfl
  have b : blD .len [.lst pick4] = some (.int 4, .fr) := rfl
  simp [semSs, semS, semE, semEs, l, l0, b, vals, anyAli, h, ixD, e, endF, Rs.bind, Rs.of, isScal, notAli]
theorem pck7 {W : Wd} {d : D} (e : atI pick4 (drawT 4 W.tp).1 = some d) : callF td.tbl fs 7 64 [.tape, .lst pick4] W = .ok d ⟨(drawT 4 W.tp).2⟩ := pck (cf := callF td.tbl fs 6) (drw W) e
theorem one7 (W : Wd) : callF td.tbl fs 7 72 [.lst [.tup [.int 0, .int 1], .tup [.int 0, .int 2], .tup [.int 2, .int 2]], .lst [.int 0, .int 0, .int 1]] W = .ok oneD W := by kernel_rfl
theorem fst7 {W : Wd} {d : D} (e : atI pick4 (drawT 4 W.tp).1 = some d) : semSs td.tbl (callF td.tbl fs 7) lawB [none, some (.val .tape), none, none, none, none, none] W = semSs td.tbl (callF td.tbl fs 7) lawR [none, some (.val .tape), some (.val d), some (.val oneD), none, none, none] ⟨(drawT 4 W.tp).2⟩ := by
  have h := pck7 e
  unfold pick4 at h
  have m : td.tbl.mak 9 = some 72 := rfl
  have o := one7 ⟨(drawT 4 W.tp).2⟩
  have u : semSs td.tbl (callF td.tbl fs 7) lawB = semSs td.tbl (callF td.tbl fs 7) (.cons (.set (.cons (.nm 2) (.cons (.nm 3) .nil)) (.cons (.cal 64 (.cons (.var 1) (.cons (.lst (.cons (.con .non) (.cons (.con (.str "x")) (.cons (.tup (.cons (.con .non) .nil)) (.cons (.con (.str "0")) .nil))))) .nil)) []) (.cons (.mak 9 (.cons (.lst (.cons (.tup (.cons (.con (.int 0)) (.cons (.con (.int 1)) .nil))) (.cons (.tup (.cons (.con (.int 0)) (.cons (.con (.int 2)) .nil))) (.cons (.tup (.cons (.con (.int 2)) (.cons (.con (.int 2)) .nil))) .nil)))) (.cons (.lst (.cons (.con (.int 0)) (.cons (.con (.int 0)) (.cons (.con (.int 1)) .nil)))) .nil))) .nil))) lawR) := rfl
  have z1 : 1 ≤ sizeLine := by decide
  have z2 : 2 ≤ sizeLine := by decide
  have z3 : 3 ≤ sizeLine := by decide
  have z4 : 4 ≤ sizeLine := by decide
  rw [u]
  simp [z1, z2, z3, z4, semSs, semS, semE, semEs, vals, anyAli, h, m, o, Rs.bind, Rs.of, isScal, notAli, asgT, asgTs, setSl, slOf, TPs.len, isNm, isFr]
theorem rst (d : D) (hd : d ∈ pick4) (W : Wd) : ∃ f, semSs td.tbl (callF td.tbl fs 7) lawR [none, some (.val .tape), some (.val d), some (.val oneD), none, none, none] W = .ok (.rt (.bl true, f)) W := by
  have h : d = .non ∨ d = .str "x" ∨ d = .tup [.non] ∨ d = .str "0" := by simpa [pick4] using hd
  rcases h with rfl | rfl | rfl | rfl <;> exact ⟨.fr, by kernel_rfl⟩
theorem sem (ns : List Int) (hns : ns.length ≤ 63) : ∃ f W', semSs td.tbl (callF td.tbl fs 7) lawB (none :: (List.replicate (lawN.drop 1).length none).set 0 (some (.val .tape))) ⟨tape0 ns⟩ = .ok (.rt (.bl true, f)) W' := by
  have h0 : 0 ≤ (drawT 4 (tape0 ns)).1 := Int.emod_nonneg _ (by decide)
  have h1 : (drawT 4 (tape0 ns)).1 < 4 := Int.emod_lt_of_pos _ (by decide)
  obtain ⟨d, e, hd⟩ : ∃ d, atI pick4 (drawT 4 (tape0 ns)).1 = some d ∧ d ∈ pick4 := by
    have c : (drawT 4 (tape0 ns)).1 = 0 ∨ (drawT 4 (tape0 ns)).1 = 1 ∨ (drawT 4 (tape0 ns)).1 = 2 ∨ (drawT 4 (tape0 ns)).1 = 3 := by omega
    rcases c with c | c | c | c <;> rw [c] <;> exact ⟨_, rfl, by simp [pick4]⟩
  obtain ⟨f, q⟩ := rst d hd ⟨(drawT 4 (tape0 ns)).2⟩
  exact ⟨f, _, (fst7 (W := ⟨tape0 ns⟩) e).trans q⟩
section
variable {w : World} {K : Fg} {mg : Str → Option Value} {base : Heap}
theorem gl {d : FR} {x : Str} (Lx : Lk R.prog zz td rs xt "WatchError" K mg base) (hd : d ∈ rs ++ xt) (e : d.at_ = .glo x) : mg x = some (.ref (He.ga K x)) := by
  have := List.all_eq_true.mp (Lx.c2 1 rfl) d hd
  rw [e] at this
  exact He.glo_ok Lx.X Lx.G this
theorem fr0 {d : FR} {x : Str} (Lx : Lk R.prog zz td rs xt "WatchError" K mg base) (hd : d ∈ rs ++ xt) (D0 : Def0 d x 0) : ∃ fd, FunD K x x (defArgs d.st) (defBody d.st) (defScope d.st) [] [] (He.ga K x) fd ∧ Binds K fd d.ps [] ∧ mg x = some (.ref (He.ga K x)) ∧ PySem.W.keepIn K (.ref (He.ga K x)) = true := by
  obtain ⟨fd, _, _, _, _, F, B, _⟩ := d0_fun D0 (Lx.fr d hd)
  have kp := (Lx.fr d hd).kp
  rw [D0.at_] at kp
  exact ⟨fd, F, B, gl Lx hd D0.at_, kp⟩
theorem beg_tx : BegunTx (defScope rx__law_begun.st) (defBody rx__law_begun.st) := ⟨_, _, _, _, _, _, _, _, _, _, _, _, _, _, _, _, _, _, _, _, _, _, _, _, _, _, _, _, _, _, _, _, _, _, _, _, _, _, _, _, _, _, _, _, _, _, by kernel_rfl, by kernel_rfl, by kernel_rfl, rfl⟩
theorem bld_tx : BlendTx (defScope rx__law_blend.st) (defBody rx__law_blend.st) := ⟨_, _, _, _, _, _, _, _, _, _, _, _, _, _, _, _, _, _, _, _, _, _, _, _, _, _, _, _, _, _, _, _, _, _, _, _, _, _, _, _, _, _, _, _, _, _, _, _, _, _, _, _, _, _, _, _, _, _, _, _, _, _, _, _, _, _, _, _, _, _, _, _, _, _, _, _, _, _, _, _, _, _, by decide +kernel, rfl⟩
theorem drw_tx : DrawTx (defBody r__law_draw.st) := ⟨_, _, _, _, _, _, _, _, _, _, _, _, _, _, _, _, _, _, _, _, _, _, _, _, _, _, _, _, _, _, _, _, _, _, _, _, _, _, _, _, _, _, _, _, _, _, _, _, _, _, _, _, _, _, _, _, rfl, rfl⟩
theorem beg_fn (Lx : Lk R.prog zz td rs xt "WatchError" K mg base) : ∃ fd, FnOk R.prog w K mg base (L2.CX R.prog w) 1 (He.ga K "_law_begun") fd ["script"] (spBegun K) ∧ mg "_law_begun" = some (.ref (He.ga K "_law_begun")) ∧ PySem.W.keepIn K (.ref (He.ga K "_law_begun")) = true ∧ Binds K fd ["script"] [] := by
  obtain ⟨fd, F, B, g, kp⟩ := fr0 (d := rx__law_begun) (x := "_law_begun") Lx (List.mem_append_right _ (List.mem_of_getElem? (i := 1) rfl)) ⟨rfl, rfl, rfl, rfl, rfl, bx__law_begun⟩
  exact ⟨fd, begun_ok F (scB_ok (by kernel_rfl)) (by kernel_rfl) (by kernel_rfl) (by kernel_rfl) (He.free_ok Lx.X Lx.G (He.ba (Lx.c2 17 rfl)).1) beg_tx, g, kp, B⟩
theorem bld_fn (Lx : Lk R.prog zz td rs xt "WatchError" K mg base) : ∃ fd, FnOk R.prog w K mg base (L2.CX R.prog w) 1 (He.ga K "_law_blend") fd ["tape"] spBlend ∧ mg "_law_blend" = some (.ref (He.ga K "_law_blend")) ∧ PySem.W.keepIn K (.ref (He.ga K "_law_blend")) = true ∧ Binds K fd ["tape"] [] := by
  obtain ⟨fd, F, B, g, kp⟩ := fr0 (d := rx__law_blend) (x := "_law_blend") Lx (List.mem_append_right _ (List.mem_of_getElem? (i := 2) rfl)) ⟨rfl, rfl, rfl, rfl, rfl, bx__law_blend⟩
  exact ⟨fd, blend_ok F (scB_ok (by kernel_rfl)) (by kernel_rfl) (by decide +kernel) (by kernel_rfl) (He.free_ok Lx.X Lx.G (He.ba (Lx.c2 17 rfl)).2) bld_tx, g, kp, B⟩
theorem prim_ok (Lx : Lk R.prog zz td rs xt "WatchError" K mg base) : PrimOk R.prog w K mg base (g0Of K td rs (rs ++ xt)) rs := fun i d p hi hk fd F cf k h2 => by
  have e := prims d (List.mem_of_getElem? hi) (by rw [hk]; rfl)
  subst e
  have e2 : (fun _ => drawP) = p := Kd.prim.inj hk
  subst e2
  obtain ⟨fb, FB, mb, kb, bb⟩ := bld_fn (w := w) Lx
  exact draw_ok F (scB_ok (by kernel_rfl)) (by decide +kernel) (by kernel_rfl) (by kernel_rfl) (He.free_ok Lx.X Lx.G (He.ba (Lx.c2 17 rfl)).2) drw_tx FB mb kb bb h2
theorem fw_d (Lx : Lk R.prog zz td rs xt "WatchError" K mg base) : ∀ x, zz.fw = some x → FwDef K mg x := fun x e => by
  have e : (some "first_wrong" : Option Str) = some x := e
  injection e with e
  subst e
  obtain ⟨fd, F, B, g, kp⟩ := fr0 (d := r_first_wrong) (x := "first_wrong") Lx (List.mem_append_left _ (List.mem_of_getElem? (i := 7) rfl)) ⟨rfl, rfl, rfl, rfl, rfl, b_first_wrong⟩
  exact ⟨_, _, fd, ("several" : Str), ("fits" : Str), ("index" : Str), ("item" : Str), fun_of F, g, B, scB_ok (by kernel_rfl), ⟨by kernel_rfl, by kernel_rfl, by kernel_rfl, by kernel_rfl, by kernel_rfl, by decide +kernel, by decide +kernel, ⟨_, _, _, _, _, _, _, _, _, _, _, _, _, _, _, _, _, _, rfl⟩⟩⟩
theorem cau_d (Lx : Lk R.prog zz td rs xt "WatchError" K mg base) : ∀ x, zz.cau = some x → CauDef K mg (clsA K td.cn) td.tbl x := fun x e => by
  have e : (some "_law_caught" : Option Str) = some x := e
  injection e with e
  subst e
  obtain ⟨fd, F, B, g, kp⟩ := fr0 (d := rx__law_caught) (x := "_law_caught") Lx (List.mem_append_right _ (List.mem_of_getElem? (i := 3) rfl)) ⟨rfl, rfl, rfl, rfl, rfl, bx__law_caught⟩
  exact ⟨_, _, fd, ("work" : Str), ("found" : Str), ("error" : Str), "WatchError", He.ga K "WatchError", fun_of F, g, B, scB_ok (by kernel_rfl), ⟨by kernel_rfl, by kernel_rfl, by kernel_rfl, by kernel_rfl, by decide +kernel, by decide +kernel, ⟨_, _, _, _, _, _, _, _, _, _, _, _, _, _, _, rfl⟩⟩,
    He.glo_ok Lx.X Lx.G (Lx.c2 16 rfl), fun cc hc => of_decide_eq_true (List.all_eq_true.mp (Lx.c2 15 rfl) cc (contains_all hc))⟩
theorem prog (Lx : Lk R.prog zz td rs xt "WatchError" K mg base) : Prog R.prog w K mg base td.tbl zz (g0Of K td rs (rs ++ xt)) fs := prog_of txt Lx (prim_ok Lx) (fw_d Lx) (cau_d Lx)
theorem law_fn (Lx : Lk R.prog zz td rs xt "WatchError" K mg base) {fd : FuncData} {oc : Value} {od : Option Addr} {osl : Array (Option Value)} (lk : K.lookup (He.ga K "law") = some ⟨oc, od, .func fd, osl⟩) (F : FunD K "law" "law" (defArgs rx_law.st) (defBody rx_law.st) (defScope rx_law.st) [] [] (He.ga K "law") fd) :
    FnOk R.prog w K mg base (L2.CX R.prog w) 33 (He.ga K "law") fd ["script"] (spLaw K (TBof K (rs ++ xt))) := by
  obtain ⟨fb, FB, mb, kb, bb⟩ := beg_fn (w := w) Lx
  exact law_ok (N := [("script" : Str), ("tape" : Str), ("odd" : Str), ("one" : Str), ("told" : Str), ("due" : Str), ("item" : Str)].drop 1) (sn := "script") (tp := "tape") (bg := "_law_begun") (it := 0) (m := 7) (n := 60) (rest := (defBody (top 188)).drop 1) (l := false) (prog Lx) F (scB_ok (by kernel_rfl)) (by kernel_rfl) (fun h => nomatch (show false = true from h)) rfl (by kernel_rfl) (.inl (by kernel_rfl)) (.inl (by kernel_rfl)) (by kernel_rfl) (by kernel_rfl) (by kernel_rfl) FB mb kb bb fun ns hns => by
    have := sem ns hns
    rw [← lawB_ok] at this
    exact this
theorem law_w {fa : Addr} {h : Heap} (Y : SaysY (rs ++ xt) (tfOf (rs ++ xt)) ex h K) (X : K.In h) (G : h.Ns mainGlobals mg) (hfa : mg "law" = some (.ref fa)) : LamX.LawAtS PySem.Challenge.rw_watchplay_k32_whole_errors_first_due w K (L2.CX PySem.Challenge.rw_watchplay_k32_whole_errors_first_due.prog w) 33 63 "script" mg fa h := by
  have hg : (He.Fa.glo "law").ok K = true := by
    have := List.all_eq_true.mp Y.ex _ (List.mem_of_getElem? (i := 9) rfl)
    exact List.all_eq_true.mp this rx_law (List.mem_append_right _ (List.mem_of_getElem? (i := 0) rfl))
  exact law_at (dl := rx_law) Y X G ⟨rfl, rfl, rfl, rfl, rfl, bx_law⟩ (List.mem_append_right _ (List.mem_of_getElem? (i := 0) rfl)) rfl hg hfa fun fd oc od osl base lk FD hK hN hT => law_fn (w := w) ⟨hK, hN, Y.d, Y.ex, hT⟩ lk FD
end
end Lw

set_option maxRecDepth 100000
set_option maxHeartbeats 0
open PySem PySem.Spec PyProof.Rows L2 Dl
open PySem PySem.W PySem.Calls PyProof.Rows
theorem PySem.Challenge.cw_watchplay_k32_whole_errors_first_due_holds : PySem.Challenge.rw_watchplay_k32_whole_errors_first_due.Holds := by
  w_on; o_law
  refine HandSHeadRun.head_any (r := OpenLaw.row PySem.Challenge.rw_watchplay_k32_whole_errors_first_due) (q := view (OpenLaw.row PySem.Challenge.rw_watchplay_k32_whole_errors_first_due).prog [188]) (H := Lw.hk) (ob := Lw.ob) (M := 40000) (loose := Lw.loose) (d := HandSHeadRun.topDef (OpenLaw.row PySem.Challenge.rw_watchplay_k32_whole_errors_first_due).prog 188) (kwd := []) Lw.ob_eq
    (by kernel_rfl) (fun s => by kernel_rfl) Lw.run (by kernel_rfl) (by kernel_rfl) (by kernel_rfl) (by rfl) (by first | assumption | decide +kernel) (by decide +kernel) ⟨rfl, rfl, rfl, rfl, rfl, by decide +kernel⟩ ?hw ?hc
  case hw => w_witness2
  case hc =>
    refine LamX.walk_ofTsE (l := PySem.Challenge.rw_watchplay_k32_whole_errors_first_due) (n := 63) (k := 33) (x := "script") (CX := fun w => L2.CX PySem.Challenge.rw_watchplay_k32_whole_errors_first_due.prog w) rfl (by decide) (by kernel_rfl) ⟨rfl, by decide, by decide⟩ ?F (fun w H s e s' ⟨_, _, _, _, _, _, _, _, _, _, _, _, z⟩ => z)
    intro w mg fa h Y G hmg0
    obtain ⟨K, KX, c⟩ := Y
    have hmg : mg ("law" : PySem.Str) = some (.ref fa) := by
      have e : (HandSHeadRun.topDef (OpenLaw.row PySem.Challenge.rw_watchplay_k32_whole_errors_first_due).prog 188).name = ("law" : PySem.Str) := by kernel_rfl
      rw [← e]
      exact hmg0
    exact ⟨K, KX, Lw.law_w c KX G hmg⟩


