import PyProof.Rows.All
import Wide.All
import OpenK.AllK
import Wide.FinOn
import KE.KStateDown
import HandS.ForMost
import HandS.ForExc
import HandS.TryMany
import HandS.IsInst
import HandS.TupAny
import HandS.TupMul
import HandS.Deep
import HandS.Zip
import HandS.Defaults
import HandS.CallSlots
import HandS.Flow
import HandS.Head0
import HandS.Head1
import HandS.Head2
import HandS.HeadEnd
import HandS.HeadHook1
import HandS.HeadHook2
import KE.GoesMore
import PySem.Challenge.RW_layerway_k12_nothing_is_kept
set_option Elab.async false
set_option linter.all false
set_option maxRecDepth 100000
set_option maxHeartbeats 0
/-! LwA: a small Python: values, heap, expressions, statements, the interpreter. -/
namespace LW

/-- values: lst is a list that nobody changes any more, fls the script (locked); ref an object of the heap -/
inductive PV where
  | non | bl (b : Bool) | int (i : Int) | str (s : String) | tup (xs : List PV) | lst (xs : List PV) | fls (xs : List PV) | ref (n : Nat)
  deriving Inhabited, Repr

mutual
def PV.beq : PV → PV → Bool
  | .non, .non => true
  | .bl a, .bl b => a == b
  | .int a, .int b => a == b
  | .str a, .str b => a == b
  | .tup a, .tup b => PV.beqs a b
  | .lst a, .lst b => PV.beqs a b
  | .fls a, .fls b => PV.beqs a b
  | .ref a, .ref b => a == b
  | _, _ => false
def PV.beqs : List PV → List PV → Bool
  | [], [] => true
  | a :: as, b :: bs => PV.beq a b && PV.beqs as bs
  | _, _ => false
end
mutual
theorem PV.beq_iff : ∀ a b : PV, PV.beq a b = true ↔ a = b
  | .non, b => by cases b <;> simp [PV.beq]
  | .bl _, b => by cases b <;> simp [PV.beq]
  | .int _, b => by cases b <;> simp [PV.beq]
  | .str _, b => by cases b <;> simp [PV.beq]
  | .tup a, b => by cases b <;> simp [PV.beq]; exact PV.beqs_iff a _
  | .lst a, b => by cases b <;> simp [PV.beq]; exact PV.beqs_iff a _
  | .fls a, b => by cases b <;> simp [PV.beq]; exact PV.beqs_iff a _
  | .ref _, b => by cases b <;> simp [PV.beq]
theorem PV.beqs_iff : ∀ a b : List PV, PV.beqs a b = true ↔ a = b
  | [], b => by cases b <;> simp [PV.beqs]
  | a :: as, b => by
    cases b with
    | nil => simp [PV.beqs]
    | cons b bs => simp [PV.beqs, PV.beq_iff a b, PV.beqs_iff as bs]
end
instance : DecidableEq PV := fun a b => if h : PV.beq a b = true then isTrue ((PV.beq_iff a b).mp h) else isFalse fun e => h ((PV.beq_iff a b).mpr e)

/-- a dict's key -/
abbrev DK := Sum Int String
/-- what stands in the heap -/
inductive MO where
  | lst (xs : List PV) | dct (kvs : List (DK × PV)) | ins (C : String) (fs : List (String × PV)) | dead
  deriving DecidableEq, Inhabited, Repr

abbrev HP := List MO
abbrev Sg := List (Option PV)

inductive R (α : Type) where
  | ok (a : α) (h : HP) | exc (c : String) (h : HP) | bad
  deriving Inhabited, Repr
def R.bind {α β : Type} : R α → (α → HP → R β) → R β
  | .ok a h, k => k a h
  | .exc c h, _ => .exc c h
  | .bad, _ => .bad
@[simp] theorem R.bind_ok {α β : Type} (a : α) (h : HP) (k : α → HP → R β) : (R.ok a h).bind k = k a h := rfl
@[simp] theorem R.bind_exc {α β : Type} (c : String) (h : HP) (k : α → HP → R β) : (R.exc c h).bind k = .exc c h := rfl
@[simp] theorem R.bind_bad {α β : Type} (k : α → HP → R β) : R.bad.bind k = .bad := rfl
/-- an exception is none of ours (a comprehension's block) -/
def R.calm {α : Type} : R α → R α
  | .ok a h => .ok a h
  | _ => .bad
@[simp] theorem R.calm_ok {α : Type} (a : α) (h : HP) : (R.ok a h).calm = .ok a h := rfl
@[simp] theorem R.calm_exc {α : Type} (c : String) (h : HP) : (R.exc c h : R α).calm = .bad := rfl
@[simp] theorem R.calm_bad {α : Type} : (R.bad : R α).calm = .bad := rfl
def R.of {α : Type} (h : HP) : Option α → R α
  | some a => .ok a h
  | none => .bad
@[simp] theorem R.of_some {α : Type} (h : HP) (a : α) : R.of h (some a) = .ok a h := rfl
@[simp] theorem R.of_none {α : Type} (h : HP) : (R.of h none : R α) = .bad := rfl

inductive Fl where
  | nx (σ : Sg) | ret (v : PV) | brk (σ : Sg) | xc (c : String) (σ : Sg)
  deriving Inhabited, Repr
/-- an expression's result in a statement: an exception is told with the slots -/
def R.st {α : Type} (σ : Sg) : R α → (α → HP → R Fl) → R Fl
  | .ok a h, k => k a h
  | .exc c h, _ => .ok (.xc c σ) h
  | .bad, _ => .bad
@[simp] theorem R.st_ok {α : Type} (σ : Sg) (a : α) (h : HP) (k : α → HP → R Fl) : (R.ok a h).st σ k = k a h := rfl
@[simp] theorem R.st_exc {α : Type} (σ : Sg) (c : String) (h : HP) (k : α → HP → R Fl) : (R.exc c h).st σ k = .ok (.xc c σ) h := rfl
@[simp] theorem R.st_bad {α : Type} (σ : Sg) (k : α → HP → R Fl) : R.bad.st σ k = .bad := rfl

inductive Op where
  | add | sub | mul | fdiv | mod | pow
  deriving DecidableEq, Inhabited, Repr
inductive Cmp where
  | eq | ne | lt | le | gt | ge | is_ | isnot | in_ | notin
  deriving DecidableEq, Inhabited, Repr

inductive Bl where
  | len | min | max | int | list | tuple | mlist | str | sum | sorted | set
  deriving DecidableEq, Inhabited, Repr
inductive Bm where
  | append | clear | pop | get | extend | count | join | split
  deriving DecidableEq, Inhabited, Repr
mutual
inductive E where
  | var (i : Nat) (x : String)
  | lit (v : PV)
  | glob (x : String)
  | bin (op : Op) (a b : E)
  | neg (a : E)
  | not (a : E)
  | and (a : E) (es : List E)
  | or (a : E) (es : List E)
  | cmp (op : Cmp) (a b : E)
  | chain (op op' : Cmp) (a b c : E)
  | ife (t a b : E)
  | call (f : String) (args : List E)
  | make (C : String) (args : List E)
  | meth (o : E) (m : String) (args : List E)
  | cmeth (C m : String) (args : List E)
  | blt (f : Bl) (args : List E)
  | isin (x : E) (cs : List String) (many : Bool)
  | bmeth (o : E) (m : Bm) (args : List E)
  | attr (o : E) (f : String)
  | sub (o i : E)
  | slice (o : E) (lo hi : Option E)
  | tup (es : List E)
  | vls (es : List E)
  | mls (es : List E)
  | dict (ks : List String) (vs : List E)
  | comp (m : Bool) (elt : E) (tg : Tg) (it : It) (ifs : List E) (own : List (String × Nat))
  | frz (e : E)
  | any
inductive It where
  | seq (e : E) | enum (e : E) | zip (a b : E) | range (a : E) | range2 (a b : E)
inductive Tg where
  | name (i : Nat) (x : String) | tup (ts : List Tg) | attr (o : E) (f : String) | sub (o i : E)
end
instance : Inhabited E := ⟨.any⟩

inductive S where
  | expr (e : E)
  | asg (t : Tg) (e : E)
  | aug (t : Tg) (op : Op) (e : E)
  | ife (t : E) (a b : List S)
  | for_ (t : Tg) (it : It) (body : List S)
  | while_ (t : E) (body : List S)
  | ret (e : E)
  | retn
  | raise (C msg : String)
  | try_ (body : List S) (hs : List (String × List S))
  | brk
  | pass
  | any
instance : Inhabited S := ⟨.any⟩

structure Def where
  params : List String
  names : List String
  body : List S
  scratch : Bool := false
  deriving Inhabited

/-- the program's tables -/
structure Tb where
  fn : String → Option Def
  /-- a class's method: the def's name -/
  mr : String → String → Option String
  /-- own classes: is the first under the second -/
  sub : String → String → Bool
  /-- the module's constants -/
  gl : String → Option PV
  /-- own exception classes -/
  exc : String → Bool

abbrev CF := String → List PV → HP → R PV

/-! ### values -/
def lineN : Nat := 16777216
/-- a list that can be added -/
def asD (h : HP) : PV → Option (List PV)
  | .lst xs => some xs
  | .ref n => match h[n]? with
    | some (.lst xs) => some xs
    | _ => none
  | _ => none
def asL (h : HP) : PV → Option (List PV)
  | .lst xs => some xs
  | .fls xs => some xs
  | .ref n => match h[n]? with
    | some (.lst xs) => some xs
    | _ => none
  | _ => none
/-- a list or a tuple -/
def asS (h : HP) : PV → Option (List PV)
  | .tup xs => some xs
  | v => asL h v
def mapO {α β : Type} (f : α → Option β) : List α → Option (List β)
  | [] => some []
  | x :: xs => match f x with
    | none => none
    | some y => match mapO f xs with
      | none => none
      | some ys => some (y :: ys)
/-- what a value is worth for ==: references to lists are followed -/
def dr (h : HP) : Nat → PV → Option PV
  | 0, _ => none
  | f + 1, .tup xs => (mapO (dr h f) xs).map .tup
  | f + 1, .lst xs => (mapO (dr h f) xs).map .lst
  | f + 1, .ref n => match h[n]? with
    | some (.lst xs) => (mapO (dr h f) xs).map .lst
    | _ => none
  | _ + 1, .fls _ => none
  | _ + 1, v => some v
mutual
/-- Python's == of data -/
def eqd : PV → PV → Bool
  | .non, .non => true
  | .bl a, .bl b => a == b
  | .bl a, .int j => (if a then 1 else 0) == j
  | .int i, .bl b => i == (if b then 1 else 0)
  | .int i, .int j => i == j
  | .str a, .str b => a == b
  | .tup a, .tup b => eqds a b
  | .lst a, .lst b => eqds a b
  | _, _ => false
def eqds : List PV → List PV → Bool
  | [], [] => true
  | a :: as, b :: bs => eqd a b && eqds as bs
  | _, _ => false
end
def drN : Nat := 40
def eqh (h : HP) (a b : PV) : Option Bool := match dr h drN a, dr h drN b with
  | some x, some y => some (eqd x y)
  | _, _ => none
/-- is it among these -/
def memh (h : HP) (a : PV) (xs : List PV) : Option Bool := match dr h drN a, mapO (dr h drN) xs with
  | some d, some ds => some (ds.any fun z => eqd z d)
  | _, _ => none
def truth (h : HP) : PV → Option Bool
  | .non => some false
  | .bl b => some b
  | .int i => some (i != 0)
  | .str s => if s.length ≤ lineN then some (s.length != 0) else none
  | .tup xs => some (!xs.isEmpty)
  | .lst xs => some (!xs.isEmpty)
  | .fls xs => some (!xs.isEmpty)
  | .ref n => match h[n]? with
    | some (.lst xs) => some (!xs.isEmpty)
    | some (.dct kvs) => some (!kvs.isEmpty)
    | _ => none
def lenh (h : HP) : PV → Option Nat
  | .str s => if s.length ≤ lineN then some s.length else none
  | .tup xs => some xs.length
  | .lst xs => some xs.length
  | .fls xs => some xs.length
  | .ref n => match h[n]? with
    | some (.lst xs) => some xs.length
    | _ => none
  | _ => none
def b64 (i : Int) : Bool := decide (-(2 ^ 64) < i) && decide (i < 2 ^ 64)
def reps {α : Type} (n : Nat) (xs : List α) : List α := match n with
  | 0 => []
  | n + 1 => xs ++ reps n xs
def catL (h : HP) (a b : PV) : Option PV := match asD h a, asD h b with
  | some x, some y => if x.length + y.length ≤ lineN then some (.lst (x ++ y)) else none
  | _, _ => none
def opv (h : HP) : Op → PV → PV → Option PV
  | .add, .int i, .int j => some (.int (i + j))
  | .add, .str a, .str b => if a.length + b.length ≤ lineN then some (.str (a ++ b)) else none
  | .add, .tup a, .tup b => if a.length + b.length ≤ lineN then some (.tup (a ++ b)) else none
  | .add, a, b => catL h a b
  | .sub, .int i, .int j => some (.int (i - j))
  | .mul, .int i, .int j => if b64 i || b64 j then some (.int (i * j)) else none
  | .mul, .tup a, .int j => if decide (2 ≤ j) && decide (j ≤ 1000) && decide (a.length ≤ 1000) && !a.isEmpty then some (.tup (reps j.toNat a)) else none
  | .mul, .lst a, .int j => if decide (0 ≤ j) && decide (a.length * j.toNat ≤ lineN) && decide (j < 2 ^ 62) then some (.lst (reps j.toNat a)) else none
  | .fdiv, .int i, .int j => if decide (0 < j) && decide (j < 1073741824) then some (.int (i / j)) else none
  | .mod, .int i, .int j => if 0 < j then some (.int (i % j)) else none
  | .pow, .int i, .int j => if decide (0 ≤ j) && decide (j ≤ 1000000) && decide (i.natAbs < 2 ^ 64) then some (.int (i ^ j.toNat)) else none
  | _, _, _ => none
/-- op= of ints -/
def augv : Op → PV → PV → Option PV
  | .add, .int i, .int j => some (.int (i + j))
  | .sub, .int i, .int j => some (.int (i - j))
  | .mul, .int i, .int j => if b64 i || b64 j then some (.int (i * j)) else none
  | _, _, _ => none
def dkOf : PV → Option DK
  | .int i => some (.inl i)
  | .str s => some (.inr s)
  | _ => none
def dkV : DK → PV
  | .inl i => .int i
  | .inr s => .str s
def dget (kvs : List (DK × PV)) (k : DK) : Option PV := match kvs with
  | [] => none
  | (a, v) :: r => if a = k then some v else dget r k
def dput (kvs : List (DK × PV)) (k : DK) (v : PV) : List (DK × PV) :=
  if (dget kvs k).isSome then kvs.map fun p => if p.1 = k then (p.1, v) else p else kvs ++ [(k, v)]
def memOf (h : HP) (a b : PV) : Option Bool := match b with
  | .str s => match a with
    | .str c => if c.length = 1 then some (s.toList.any fun d => c.toList == [d]) else none
    | _ => none
  | .ref n => match h[n]? with
    | some (.lst xs) => memh h a xs
    | _ => none
  | .tup xs => memh h a xs
  | .lst xs => memh h a xs
  | _ => none
def cmpv (h : HP) : Cmp → PV → PV → Option Bool
  | .eq, a, b => eqh h a b
  | .ne, a, b => (eqh h a b).map (!·)
  | .lt, .int i, .int j => some (decide (i < j))
  | .le, .int i, .int j => some (decide (i ≤ j))
  | .gt, .int i, .int j => some (decide (j < i))
  | .ge, .int i, .int j => some (decide (j ≤ i))
  | .is_, a, .non => some (decide (a = .non))
  | .isnot, a, .non => some (!decide (a = .non))
  | .in_, a, b => memOf h a b
  | .notin, a, b => (memOf h a b).map (!·)
  | _, _, _ => none
/-- the place of an index -/
def ixP (n : Nat) (i : Int) : Option Nat := if 0 ≤ i then (if i < n then some i.toNat else none) else if -(n : Int) ≤ i then some (i + n).toNat else none
def subv (h : HP) (o i : PV) : Option PV := match o with
  | .tup xs => match i with
    | .int j => (ixP xs.length j).bind fun k => xs[k]?
    | _ => none
  | .lst xs => match i with
    | .int j => (ixP xs.length j).bind fun k => xs[k]?
    | _ => none
  | .fls xs => match i with
    | .int j => (ixP xs.length j).bind fun k => xs[k]?
    | _ => none
  | .ref n => match h[n]? with
    | some (.lst xs) => match i with
      | .int j => (ixP xs.length j).bind fun k => xs[k]?
      | _ => none
    | some (.dct kvs) => match dkOf i with
      | some k => dget kvs k
      | none => none
    | _ => none
  | _ => none
/-- d[k] -/
def subD (h : HP) (o i : PV) : Option PV := match o with
  | .ref n => match h[n]? with
    | some (.dct kvs) => match dkOf i with
      | some k => dget kvs k
      | none => none
    | _ => none
  | _ => none
/-- a slice's bound -/
def bndN (n d : Nat) : Option Int → Nat
  | none => d
  | some v => if v < 0 then (v + (n : Int)).toNat else min v.toNat n
def cutL {α : Type} (xs : List α) (lo hi : Option Int) : List α :=
  (xs.drop (bndN xs.length 0 lo)).take (bndN xs.length xs.length hi - bndN xs.length 0 lo)
def cutv (h : HP) (o : PV) (l r : Option Int) : Option PV := match o with
  | .tup xs => some (.tup (cutL xs l r))
  | v => (asL h v).map fun xs => .lst (cutL xs l r)
/-- isinstance of a value and one class -/
def isk (T : Tb) (h : HP) (v : PV) (c : String) : Bool := match v with
  | .non => false
  | .bl _ => c == "bool" || c == "int"
  | .int _ => c == "int"
  | .str _ => c == "str"
  | .tup _ => c == "tuple"
  | .lst _ => c == "list"
  | .fls _ => c == "list"
  | .ref n => match h[n]? with
    | some (.lst _) => c == "list"
    | some (.dct _) => c == "dict"
    | some (.ins C _) => T.sub C c
    | _ => false
def alive (h : HP) : PV → Bool
  | .ref n => match h[n]? with
    | some .dead => false
    | none => false
    | _ => true
  | .fls _ => false
  | _ => true
def fgetv (fs : List (String × PV)) (f : String) : Option PV := match fs with
  | [] => none
  | (a, v) :: r => if a = f then some v else fgetv r f
def fput (fs : List (String × PV)) (f : String) (v : PV) : List (String × PV) := match fs with
  | [] => [(f, v)]
  | (a, w) :: r => if a = f then (a, v) :: r else (a, w) :: fput r f v
def attrv (h : HP) (o : PV) (f : String) : Option PV := match o with
  | .ref n => match h[n]? with
    | some (.ins _ fs) => fgetv fs f
    | _ => none
  | _ => none
mutual
/-- all references below n -/
def below (n : Nat) : PV → Bool
  | .ref m => decide (m < n)
  | .tup xs => belows n xs
  | .lst xs => belows n xs
  | .fls xs => belows n xs
  | _ => true
def belows (n : Nat) : List PV → Bool
  | [] => true
  | x :: xs => below n x && belows n xs
end
def trim (h h' : HP) : HP := if h'.take h.length = h then h else h'
def frzv (h : HP) : PV → R PV
  | .ref n => match h[n]? with
    | some (.lst xs) => .ok (.lst xs) (h.set n .dead)
    | _ => .bad
  | .lst xs => .ok (.lst xs) h
  | _ => .bad
/-! ### built-ins -/
def bltv (h : HP) : Bl → List PV → Option PV
  | .len, [v] => (lenh h v).map fun n => .int (n : Nat)
  | .min, [.int i, .int j] => some (.int (if j < i then j else i))
  | .max, [.int i, .int j] => some (.int (if j > i then j else i))
  | .int, [.int i] => some (.int i)
  | .int, [.bl b] => some (.int (if b then 1 else 0))
  | .list, [v] => (asS h v).map .lst
  | .tuple, [v] => (asS h v).map .tup
  | _, _ => none
def bltR (h : HP) (f : Bl) (vs : List PV) : R PV := match f with
  | .mlist => match vs with
    | [v] => match asS h v with
      | some xs => .ok (.ref h.length) (h ++ [.lst xs])
      | none => .bad
    | _ => .bad
  | f => .of h (bltv h f vs)
/-- whose method it is -/
def rcv (h : HP) (o : PV) (m : Bm) : Bool := match o with
  | .ref n => match h[n]? with
    | some (.lst _) => match m with
      | .append => true
      | .clear => true
      | .pop => true
      | _ => false
    | some (.dct _) => match m with
      | .get => true
      | _ => false
    | _ => false
  | _ => false
/-- methods of lists, dicts -/
def bmv (h : HP) (o : PV) (m : Bm) (args : List PV) : R PV := match o with
  | .ref n => match h[n]? with
    | some (.lst xs) => match m, args with
      | .append, [v] => if xs.length < lineN then .ok .non (h.set n (.lst (xs ++ [v]))) else .bad
      | .clear, [] => .ok .non (h.set n (.lst []))
      | .pop, [] => match xs.getLast? with
        | some v => .ok v (h.set n (.lst xs.dropLast))
        | none => .bad
      | _, _ => .bad
    | some (.dct kvs) => match m, args with
      | .get, [k, d] => match dkOf k with
        | some k => .ok ((dget kvs k).getD d) h
        | none => .bad
      | _, _ => .bad
    | _ => .bad
  | _ => .bad
def setv (h : HP) (o i v : PV) : Option HP := match o with
  | .ref n => match h[n]? with
    | some (.lst xs) => match i with
      | .int j => (ixP xs.length j).map fun k => h.set n (.lst (xs.set k v))
      | _ => none
    | some (.dct kvs) => match dkOf i with
      | some k => if kvs.length < lineN then some (h.set n (.dct (dput kvs k v))) else none
      | none => none
    | _ => none
  | _ => none
def attrSet (h : HP) (o : PV) (f : String) (v : PV) : Option HP := match o with
  | .ref n => match h[n]? with
    | some (.ins C fs) => if fs.length < 900 then some (h.set n (.ins C (fput fs f v))) else none
    | _ => none
  | _ => none
/-! ### what is walked -/
inductive ItV where
  | seq (v : PV) | enum (v : PV) | zip (a b : PV) | rng (lo : Int) (n : Nat)
  deriving Inhabited, Repr
/-- the i-th item: none: not known; some none: the end -/
def seqAt (h : HP) (v : PV) (i : Nat) : Option (Option PV) := match v with
  | .str s => some (s.toList[i]?.map fun c => .str (String.ofList [c]))
  | v => (asS h v).map fun xs => xs[i]?
/-- two lists, or two tuples -/
def zipOf (h : HP) (a b : PV) : Option (List PV × List PV) := match a with
  | .tup xs => match b with
    | .tup ys => some (xs, ys)
    | _ => none
  | a => match asL h a, asL h b with
    | some xs, some ys => some (xs, ys)
    | _, _ => none
def itAt (h : HP) (it : ItV) (i : Nat) : Option (Option PV) := match it with
  | .seq v => seqAt h v i
  | .enum v => (asS h v).map fun xs => xs[i]?.map fun x => .tup [.int (i : Nat), x]
  | .zip a b => match zipOf h a b with
    | some (xs, ys) => match xs[i]?, ys[i]? with
      | some x, some y => some (some (.tup [x, y]))
      | _, _ => some none
    | none => none
  | .rng lo n => if i < n then some (some (.int (lo + (i : Nat)))) else some none
def itFuel (h : HP) : ItV → Nat
  | .seq (.str s) => s.length + 1
  | .seq v => ((asS h v).getD []).length + 1
  | .enum v => ((asS h v).getD []).length + 1
  | .zip a b => match zipOf h a b with
    | some (xs, _) => xs.length + 1
    | none => 0
  | .rng _ n => n + 1
def wipe (σ : Sg) : List Nat → Sg
  | [] => σ
  | v :: vs => (wipe σ vs).set v none
/-- a loop over items -/
def forG (it : ItV) (step : PV → Sg → HP → R Fl) : Nat → Nat → Sg → HP → R Fl
  | 0, _, _, _ => .bad
  | f + 1, i, σ, h => match itAt h it i with
    | none => .bad
    | some none => .ok (.nx σ) h
    | some (some x) => (step x σ h).bind fun fl h => match fl with
      | .nx σ' => forG it step f (i + 1) σ' h
      | .brk σ' => .ok (.nx σ') h
      | .ret v => .ok (.ret v) h
      | .xc c σ' => .ok (.xc c σ') h
/-- a comprehension's loop; step tells the new item, if any -/
def compG (it : ItV) (step : PV → HP → R (Option PV)) : Nat → Nat → List PV → HP → R (List PV)
  | 0, _, _, _ => .bad
  | f + 1, i, acc, h => match itAt h it i with
    | none => .bad
    | some none => .ok acc h
    | some (some x) => (step x h).bind fun o h => match o with
      | none => compG it step f (i + 1) acc h
      | some y => if acc.length < lineN then compG it step f (i + 1) (acc ++ [y]) h else .bad
/-- .. into a list of the heap, at n -/
def compM (it : ItV) (step : PV → HP → R (Option PV)) (n : Nat) : Nat → Nat → HP → R Unit
  | 0, _, _ => .bad
  | f + 1, i, h => match itAt h it i with
    | none => .bad
    | some none => .ok () h
    | some (some x) => (step x h).bind fun o h => match o with
      | none => compM it step n f (i + 1) h
      | some y => match h[n]? with
        | some (.lst acc) => if acc.length < lineN then compM it step n f (i + 1) (h.set n (.lst (acc ++ [y]))) else .bad
        | _ => .bad
def whileG (test : Sg → HP → R PV) (body : Sg → HP → R Fl) : Nat → Sg → HP → R Fl
  | 0, _, _ => .bad
  | f + 1, σ, h => (test σ h).st σ fun b h => match b with
    | .bl false => .ok (.nx σ) h
    | .bl true => (body σ h).bind fun fl h => match fl with
      | .nx σ' => whileG test body f σ' h
      | .brk σ' => .ok (.nx σ') h
      | .ret v => .ok (.ret v) h
      | .xc c σ' => .ok (.xc c σ') h
    | _ => .bad
def whileN : Nat := 100000

/-- in a test: the truth of a value -/
def tr (t : Bool) (v : PV) (h : HP) : R PV := match t with
  | false => .ok v h
  | true => match truth h v with
    | some b => .ok (.bl b) h
    | none => .bad
/-! ### expressions -/
section
variable (T : Tb) (cf : CF)
mutual
/-- t: as a test (the answer is a bool) -/
def ev : Bool → E → Sg → HP → R PV
  | t, .var i _, σ, h => match σ[i]? with
    | some (some v) => tr t v h
    | _ => .bad
  | t, .lit v, _, h => tr t v h
  | t, .glob x, _, h => (R.of h (T.gl x)).bind (tr t)
  | t, .bin op a b, σ, h => (ev false a σ h).bind fun x h => (ev false b σ h).bind fun y h => (R.of h (opv h op x y)).bind (tr t)
  | t, .neg a, σ, h => (ev false a σ h).bind fun x h => match x with
    | .int i => tr t (.int (-i)) h
    | _ => .bad
  | _, .not a, σ, h => (ev true a σ h).bind fun x h => match x with
    | .bl b => .ok (.bl (!b)) h
    | _ => .bad
  | t, .and a es, σ, h => (ev t a σ h).bind fun x h => evAnd t x es σ h
  | t, .or a es, σ, h => (ev t a σ h).bind fun x h => evOr t x es σ h
  | _, .cmp op a b, σ, h => (ev false a σ h).bind fun x h => (ev false b σ h).bind fun y h => (R.of h (cmpv h op x y)).bind fun b h => .ok (.bl b) h
  | _, .chain op op' a b c, σ, h => (ev false a σ h).bind fun x h => (ev false b σ h).bind fun y h => (R.of h (cmpv h op x y)).bind fun k h => match k with
    | false => .ok (.bl false) h
    | true => (ev false c σ h).bind fun z h => (R.of h (cmpv h op' y z)).bind fun k h => .ok (.bl k) h
  | t, .ife c a b, σ, h => (ev true c σ h).bind fun k h => match k with
    | .bl true => (ev false a σ h).bind (tr t)
    | .bl false => (ev false b σ h).bind (tr t)
    | _ => .bad
  | t, .call f args, σ, h => (evs args σ h).bind fun vs h => (cf f vs h).bind (tr t)
  | t, .make C args, σ, h => (evs args σ h).bind fun vs h => match T.mr C "__init__" with
    | some f => match cf f (.ref h.length :: vs) (h ++ [.ins C []]) with
      | .ok .non h' => tr t (.ref h.length) h'
      | .ok _ _ => .bad
      | .exc c h' => .exc c (trim h h')
      | .bad => .bad
    | none => .bad
  | t, .meth o m args, σ, h => (ev false o σ h).bind fun x h => match x with
    | .ref n => match h[n]? with
      | some (.ins C fs) => match fgetv fs m, T.mr C m with
        | none, some f => (evs args σ h).bind fun vs h => (cf f (.ref n :: vs) h).bind (tr t)
        | _, _ => .bad
      | _ => .bad
    | _ => .bad
  | t, .cmeth C m args, σ, h => match T.mr C m with
    | some f => (evs args σ h).bind fun vs h => (cf f vs h).bind (tr t)
    | none => .bad
  | t, .blt f args, σ, h => (evs args σ h).bind fun vs h => (bltR h f vs).bind (tr t)
  | _, .isin x cs _, σ, h => (ev false x σ h).bind fun v h => match alive h v with
    | true => .ok (.bl (cs.any fun c => isk T h v c)) h
    | false => .bad
  | t, .bmeth o m args, σ, h => (ev false o σ h).bind fun x h => match rcv h x m with
    | true => (evs args σ h).bind fun vs h => (bmv h x m vs).bind (tr t)
    | false => .bad
  | t, .attr o f, σ, h => (ev false o σ h).bind fun x h => (R.of h (attrv h x f)).bind (tr t)
  | t, .sub o i, σ, h => (ev false o σ h).bind fun x h => (ev false i σ h).bind fun y h => (R.of h (subv h x y)).bind (tr t)
  | t, .slice o lo hi, σ, h => (ev false o σ h).bind fun x h => (evo lo σ h).bind fun l h => (evo hi σ h).bind fun r h => (R.of h (cutv h x l r)).bind (tr t)
  | t, .tup es, σ, h => (evs es σ h).bind fun vs h => tr t (.tup vs) h
  | t, .vls es, σ, h => (evs es σ h).bind fun vs h => tr t (.lst vs) h
  | t, .mls es, σ, h => (evs es σ h).bind fun vs h => tr t (.ref h.length) (h ++ [.lst vs])
  | t, .dict ks es, σ, h => (evs es σ h).bind fun vs h => tr t (.ref h.length) (h ++ [.dct (ks.zip vs |>.foldl (fun d p => dput d (.inr p.1) p.2) [])])
  | t, .comp m elt tg it ifs own, σ, h => (evi it σ h).bind fun iv h => match m with
    | false => (compG iv (fun x h => ((asg tg x (wipe σ (own.map (·.2))) h).bind fun σ1 h => (evIfs ifs σ1 h).bind fun b h => match b with
      | .bl false => .ok none h
      | .bl true => (ev false elt σ1 h).bind fun y h => .ok (some y) h
      | _ => .bad).calm) (itFuel h iv) 0 [] h).bind fun ys h => tr t (.lst ys) h
    | true => (compM iv (fun x h => ((asg tg x (wipe σ (own.map (·.2))) h).bind fun σ1 h => (evIfs ifs σ1 h).bind fun b h => match b with
      | .bl false => .ok none h
      | .bl true => (ev false elt σ1 h).bind fun y h => .ok (some y) h
      | _ => .bad).calm) h.length (itFuel h iv) 0 (h ++ [.lst []])).bind fun _ h' => tr t (.ref h.length) h'
  | t, .frz e, σ, h => (ev false e σ h).bind fun v h => (frzv h v).bind (tr t)
  | _, .any, _, _ => .bad
/-- the rest of a chain of and, the value so far x -/
def evAnd : Bool → PV → List E → Sg → HP → R PV
  | _, x, [], _, h => .ok x h
  | t, x, e :: es, σ, h => match x with
    | .bl false => .ok (.bl false) h
    | .bl true => (ev t e σ h).bind fun y h => evAnd t y es σ h
    | _ => .bad
def evOr : Bool → PV → List E → Sg → HP → R PV
  | _, x, [], _, h => .ok x h
  | t, x, e :: es, σ, h => match x with
    | .bl true => .ok (.bl true) h
    | .bl false => (ev t e σ h).bind fun y h => evOr t y es σ h
    | _ => .bad
def evs : List E → Sg → HP → R (List PV)
  | [], _, h => .ok [] h
  | e :: es, σ, h => (ev false e σ h).bind fun v h => (evs es σ h).bind fun vs h => .ok (v :: vs) h
def evo : Option E → Sg → HP → R (Option Int)
  | none, _, h => .ok none h
  | some e, σ, h => (ev false e σ h).bind fun v h => match v with
    | .int i => .ok (some i) h
    | _ => .bad
/-- a comprehension's tests: none or one -/
def evIfs : List E → Sg → HP → R PV
  | [], _, h => .ok (.bl true) h
  | e :: es, σ, h => match es with
    | [] => ev true e σ h
    | _ => .bad
def evi : It → Sg → HP → R ItV
  | .seq e, σ, h => (ev false e σ h).bind fun v h => match v with
    | .str s => .ok (.seq (.str s)) h
    | v => match asS h v with
      | some _ => .ok (.seq v) h
      | none => .bad
  | .enum e, σ, h => (ev false e σ h).bind fun v h => match asS h v with
    | some _ => .ok (.enum v) h
    | none => .bad
  | .zip a b, σ, h => (ev false a σ h).bind fun x h => (ev false b σ h).bind fun y h => match zipOf h x y with
    | some _ => .ok (.zip x y) h
    | none => .bad
  | .range a, σ, h => (ev false a σ h).bind fun x h => match x with
    | .int j => if decide (-(2 ^ 62) ≤ j) && decide (j < 2 ^ 62) then .ok (.rng 0 j.toNat) h else .bad
    | _ => .bad
  | .range2 a b, σ, h => (ev false a σ h).bind fun x h => (ev false b σ h).bind fun y h => match x with
    | .int i => match y with
      | .int j => if decide (-(2 ^ 62) ≤ i) && decide (i < 2 ^ 62) && decide (-(2 ^ 62) ≤ j) && decide (j < 2 ^ 62) then .ok (.rng i (j - i).toNat) h else .bad
      | _ => .bad
    | _ => .bad
/-- a target gets a value -/
def asg : Tg → PV → Sg → HP → R Sg
  | .name i _, v, σ, h => .ok (σ.set i (some v)) h
  | .tup ts, v, σ, h => match asS h v with
    | some xs => if xs.length = ts.length then asgs ts xs σ h else .bad
    | none => .bad
  | .attr o f, v, σ, h => (ev false o σ h).bind fun x h => match attrSet h x f v with
    | some h => .ok σ h
    | none => .bad
  | .sub o i, v, σ, h => (ev false o σ h).bind fun x h => (ev false i σ h).bind fun y h => match setv h x y v with
    | some h => .ok σ h
    | none => .bad
def asgs : List Tg → List PV → Sg → HP → R Sg
  | [], xs, σ, h => match xs with
    | [] => .ok σ h
    | _ => .bad
  | t :: ts, xs, σ, h => match xs with
    | x :: xs => (asg t x σ h).calm.bind fun σ h => asgs ts xs σ h
    | [] => .bad
end

/-! ### statements -/
/-- an own exception class among handlers -/
def pick (c : String) : List (String × List S) → Option (List S)
  | [] => none
  | (x, b) :: r => if T.sub c x then some b else pick c r
mutual
def ex : S → Sg → HP → R Fl
  | .expr e, σ, h => (ev T cf false e σ h).st σ fun _ h => .ok (.nx σ) h
  | .asg t e, σ, h => (ev T cf false e σ h).st σ fun v h => (asg T cf t v σ h).st σ fun σ h => .ok (.nx σ) h
  | .aug t op e, σ, h => match t with
    | .name i _ => match σ[i]? with
      | some (some x) => (ev T cf false e σ h).st σ fun y h => (R.of h (augv op x y)).bind fun z h => .ok (.nx (σ.set i (some z))) h
      | _ => .bad
    | .attr o f => (ev T cf false o σ h).st σ fun ov h => (R.of h (attrv h ov f)).bind fun x h => (ev T cf false e σ h).st σ fun y h => (R.of h (augv op x y)).bind fun z h => match attrSet h ov f z with
      | some h => .ok (.nx σ) h
      | none => .bad
    | .sub o i => (ev T cf false o σ h).st σ fun ov h => (ev T cf false i σ h).st σ fun iv h => (R.of h (subD h ov iv)).bind fun x h => (ev T cf false e σ h).st σ fun y h => (R.of h (augv op x y)).bind fun z h => match setv h ov iv z with
      | some h => .ok (.nx σ) h
      | none => .bad
    | _ => .bad
  | .ife t a b, σ, h => (ev T cf true t σ h).st σ fun k h => match k with
    | .bl true => exs a σ h
    | .bl false => exs b σ h
    | _ => .bad
  | .for_ t it body, σ, h => (evi T cf it σ h).st σ fun iv h => forG iv (fun x σ h => (asg T cf t x σ h).st σ fun σ h => exs body σ h) (itFuel h iv) 0 σ h
  | .while_ t body, σ, h => whileG (fun σ h => ev T cf true t σ h) (fun σ h => exs body σ h) whileN σ h
  | .ret e, σ, h => (ev T cf false e σ h).st σ fun v h => .ok (.ret v) h
  | .retn, _, h => .ok (.ret .non) h
  | .raise c _, σ, h => .ok (.xc c σ) h
  | .try_ body hs, σ, h => (exs body σ h).bind fun fl h => match fl with
    | .xc c σ' => match T.exc c with
      | true => exh c hs σ' h
      | false => .bad
    | fl => .ok fl h
  | .brk, σ, h => .ok (.brk σ) h
  | .pass, σ, h => .ok (.nx σ) h
  | .any, _, _ => .bad
def exs : List S → Sg → HP → R Fl
  | [], σ, h => .ok (.nx σ) h
  | s :: ss, σ, h => (ex s σ h).bind fun fl h => match fl with
    | .nx σ => exs ss σ h
    | .brk σ => .ok (.brk σ) h
    | .ret v => .ok (.ret v) h
    | .xc c σ => .ok (.xc c σ) h
/-- the handlers -/
def exh : String → List (String × List S) → Sg → HP → R Fl
  | c, [], σ, h => .ok (.xc c σ) h
  | c, (x, b) :: r, σ, h => match T.sub c x with
    | true => exs b σ h
    | false => exh c r σ h
end
end

def Def.start (D : Def) (vs : List PV) : Sg := vs.map some ++ List.replicate (D.names.length - vs.length) none
/-- a call's end: a scratch def leaves nothing behind -/
def fin (D : Def) (h : HP) (v : PV) (h' : HP) : R PV := match D.scratch with
  | false => .ok v h'
  | true => if h'.take h.length = h ∧ below h.length v = true then .ok v h else .ok v h'
/-- calls, to a depth -/
def fn (T : Tb) : Nat → String → List PV → HP → R PV
  | 0, _, _, _ => .bad
  | d + 1, f, vs, h => match T.fn f with
    | none => .bad
    | some D => if vs.length = D.params.length then
        match exs T (fn T d) D.body (D.start vs) h with
        | .ok (.ret v) h' => fin D h v h'
        | .ok (.nx _) h' => fin D h .non h'
        | .ok (.xc c _) h' => .exc c (match D.scratch with
          | false => h'
          | true => trim h h')
        | _ => .bad
      else .bad
end LW
/-! LwB: how a value of the small Python stands for one of the model; what stays. -/
namespace LW
open PySem L2

/-- the row's own names, told by lists -/
structure Rw where
  fns : List String
  tops : List String
  clss : List String
  meths : List (String × String)
  flds : List (String × String)
  excs : List String
  globs : List (Str × PV)
  blts : List String

abbrev os (s : String) : Str := Str.ofString s
theorem os_inj {a b : String} (h : os a = os b) : a = b := by
  have h1 : (Str.ofString a).cps.toList = (Str.ofString b).cps.toList := by rw [show Str.ofString a = Str.ofString b from h]
  rw [Str.ofString_eq_toList, Str.ofString_eq_toList] at h1
  have h2 : a.toList.map Char.toNat = b.toList.map Char.toNat := by simpa using h1
  have h3 : ∀ {l m : List Char}, l.map Char.toNat = m.map Char.toNat → l = m := by
    intro l
    induction l with
    | nil => intro m e; cases m with
      | nil => rfl
      | cons _ _ => simp at e
    | cons c l ih => intro m e; cases m with
      | nil => simp at e
      | cons d m =>
        simp only [List.map_cons, List.cons.injEq] at e
        rw [ih e.2, Char.toNat_inj.mp e.1]
  exact String.toList_inj.mp (h3 h2)
theorem os_iff {a b : String} : os a = os b ↔ a = b := ⟨os_inj, fun e => by rw [e]⟩
theorem os_len (s : String) : (os s).length = s.length := by
  show (Str.ofString s).cps.size = _
  rw [Str.ofString_eq_toList]
  simp [String.length_toList]

/-- an object of the heap that is not given up stands at a -/
def Live (ρ : List Addr) (h : HP) (a : Addr) : Prop := ∃ (n : Nat) (o : MO), ρ[n]? = some a ∧ h[n]? = some o ∧ o ≠ .dead

/-- .. or it is reserved (a comprehension's list that is being made) -/
def Lz (Z : Addr → Prop) (ρ : List Addr) (h : HP) (a : Addr) : Prop := Live ρ h a ∨ Z a

/-- a tuple that stands still; a list that stands still -/
def FT (K : PySem.W.Frag) (H : Hp) (L : Addr → Prop) (a : Addr) (ys : List V) : Prop :=
  (H a = some (.tup ys) ∧ ¬ L a) ∨
    ∃ (o : Obj) (its : Array Value) (n : Nat), K.lookup a = some o ∧ o.cls = .type "tuple" ∧ o.data = .seq its n ∧ its.size ≤ sizeLine ∧ Vals ys its.toList
theorem FT.sq {K : PySem.W.Frag} {H : Hp} {L : Addr → Prop} {a : Addr} {ys : List V} (h : FT K H L a ys) : SqT K H a ys := h.elim (fun z => .inl (.inl z.1)) .inr

/-- the script: the walk's own list, or one of the module's -/
def FL (K : PySem.W.Frag) (H : Hp) (L : Addr → Prop) (a : Addr) (ys : List V) : Prop :=
  (∃ o, H a = some (.frz o (.lst ys)) ∧ ¬ L a) ∨
    ∃ (o : Obj) (its : Array Value) (n : Nat), K.lookup a = some o ∧ o.cls = .type "list" ∧ o.dict = none ∧ o.data = .seq its n ∧ its.size ≤ sizeLine ∧ Vals ys its.toList
theorem FL.sq {K : PySem.W.Frag} {H : Hp} {L : Addr → Prop} {a : Addr} {ys : List V} (h : FL K H L a ys) : SqL K H a ys := h.elim (fun ⟨o, z, _⟩ => .inl (.inr ⟨o, z⟩)) .inr

mutual
inductive RV (K : PySem.W.Frag) (H : Hp) (ρ : List Addr) (L : Addr → Prop) : PV → V → Prop
  | non : RV K H ρ L .non .non
  | bl (b : Bool) : RV K H ρ L (.bl b) (.bl b)
  | int (i : Int) : RV K H ρ L (.int i) (.int i)
  | str (s : String) : RV K H ρ L (.str s) (.str (os s))
  | tup {xs : List PV} {a : Addr} {ys : List V} (h : FT K H L a ys) (r : RVs K H ρ L xs ys) : RV K H ρ L (.tup xs) (.ref a)
  | lst {xs : List PV} {a : Addr} {ys : List V} (h : H a = some (.lst ys)) (n : ¬ L a) (r : RVs K H ρ L xs ys) : RV K H ρ L (.lst xs) (.ref a)
  | fls {xs : List PV} {a : Addr} {ys : List V} (h : FL K H L a ys) (r : RVs K H ρ L xs ys) : RV K H ρ L (.fls xs) (.ref a)
  | ref {n : Nat} {a : Addr} (h : ρ[n]? = some a) : RV K H ρ L (.ref n) (.ref a)
inductive RVs (K : PySem.W.Frag) (H : Hp) (ρ : List Addr) (L : Addr → Prop) : List PV → List V → Prop
  | nil : RVs K H ρ L [] []
  | cons {x : PV} {y : V} {xs : List PV} {ys : List V} (h : RV K H ρ L x y) (t : RVs K H ρ L xs ys) : RVs K H ρ L (x :: xs) (y :: ys)
end

/-- what stands is kept, new objects are new -/
structure Ext (ρ : List Addr) (h : HP) (H : Hp) (ρ' : List Addr) (h' : HP) (H' : Hp) : Prop where
  pre : ρ <+: ρ'
  frame : ∀ a o, H a = some o → ¬ Live ρ h a → H' a = some o
  fresh : ∀ a, Live ρ' h' a → Live ρ h a ∨ H a = none
  news : ∀ a, a ∈ ρ' → a ∈ ρ ∨ H a = none
theorem Ext.refl {ρ : List Addr} {h : HP} {H : Hp} : Ext ρ h H ρ h H := ⟨List.prefix_refl _, fun _ _ e _ => e, fun _ l => .inl l, fun _ m => .inl m⟩
theorem Ext.trans {ρ ρ1 ρ2 : List Addr} {h h1 h2 : HP} {H H1 H2 : Hp} (a : Ext ρ h H ρ1 h1 H1) (b : Ext ρ1 h1 H1 ρ2 h2 H2) : Ext ρ h H ρ2 h2 H2 where
  pre := a.pre.trans b.pre
  frame := fun x o e n => b.frame x o (a.frame x o e n) fun l => (a.fresh x l).elim n fun z => by rw [e] at z; cases z
  fresh := fun x l => (b.fresh x l).elim (a.fresh x) fun z => by
    by_cases q : Live ρ h x
    · exact .inl q
    · cases e : H x with
      | none => exact .inr rfl
      | some o => rw [a.frame x o e q] at z; cases z
  news := fun x m => (b.news x m).elim (a.news x) fun z => by
    by_cases q : Live ρ h x
    · obtain ⟨n, _, e, _⟩ := q
      exact .inl (List.mem_of_getElem? e)
    · cases e : H x with
      | none => exact .inr rfl
      | some o => rw [a.frame x o e q] at z; cases z

section
variable {K : PySem.W.Frag}
theorem pre_get {ρ ρ' : List Addr} (p : ρ <+: ρ') {n : Nat} {a : Addr} (e : ρ[n]? = some a) : ρ'[n]? = some a := by
  obtain ⟨t, rfl⟩ := p
  rw [List.getElem?_append_left (List.getElem?_eq_some_iff.mp e).1]
  exact e
theorem Ext.nlz {Z : Addr → Prop} {ρ ρ' : List Addr} {h h' : HP} {H H' : Hp} (x : Ext ρ h H ρ' h' H') {a : Addr} {o : HO} (e : H a = some o) (n : ¬ Lz Z ρ h a) : H' a = some o ∧ ¬ Lz Z ρ' h' a :=
  ⟨x.frame a o e fun l => n (.inl l), fun l => l.elim (fun l => (x.fresh a l).elim (fun l => n (.inl l)) fun z => by rw [e] at z; cases z) fun z => n (.inr z)⟩
mutual
theorem RV.mono {Z : Addr → Prop} {ρ ρ' : List Addr} {h h' : HP} {H H' : Hp} (x : Ext ρ h H ρ' h' H') : ∀ {p : PV} {v : V}, RV K H ρ (Lz Z ρ h) p v → RV K H' ρ' (Lz Z ρ' h') p v
  | .non, _, r => by cases r; exact .non
  | .bl _, _, r => by cases r; exact .bl _
  | .int _, _, r => by cases r; exact .int _
  | .str _, _, r => by cases r; exact .str _
  | .ref _, _, r => by cases r with | ref e => exact .ref (pre_get x.pre e)
  | .tup xs, _, r => by
    cases r with
    | tup e t =>
      refine .tup ?_ (RVs.mono x t)
      rcases e with ⟨e, n⟩ | e
      · exact .inl (x.nlz e n)
      · exact .inr e
  | .lst xs, _, r => by
    cases r with
    | lst e n t => exact .lst (x.nlz e n).1 (x.nlz e n).2 (RVs.mono x t)
  | .fls xs, _, r => by
    cases r with
    | fls e t =>
      refine .fls ?_ (RVs.mono x t)
      rcases e with ⟨o, e, n⟩ | e
      · exact .inl ⟨o, x.nlz e n⟩
      · exact .inr e
theorem RVs.mono {Z : Addr → Prop} {ρ ρ' : List Addr} {h h' : HP} {H H' : Hp} (x : Ext ρ h H ρ' h' H') : ∀ {p : List PV} {v : List V}, RVs K H ρ (Lz Z ρ h) p v → RVs K H' ρ' (Lz Z ρ' h') p v
  | [], _, r => by cases r; exact .nil
  | _ :: _, _, r => by cases r with | cons a t => exact .cons (RV.mono x a) (RVs.mono x t)
end
theorem RVs.length {H : Hp} {ρ : List Addr} {L : Addr → Prop} : ∀ {p : List PV} {v : List V}, RVs K H ρ L p v → p.length = v.length
  | [], _, r => by cases r; rfl
  | _ :: _, _, r => by cases r with | cons _ t => simp [RVs.length t]
theorem RVs.get {H : Hp} {ρ : List Addr} {L : Addr → Prop} : ∀ {p : List PV} {v : List V} {i : Nat} {x : PV}, RVs K H ρ L p v → p[i]? = some x → ∃ y, v[i]? = some y ∧ RV K H ρ L x y
  | [], _, _, _, _, e => by simp at e
  | _ :: _, _, 0, _, r, e => by cases r with | cons a _ => simp at e; subst e; exact ⟨_, rfl, a⟩
  | _ :: _, _, i + 1, _, r, e => by
    cases r with
    | cons _ t =>
      obtain ⟨y, e1, e2⟩ := RVs.get (i := i) t (by simpa using e)
      exact ⟨y, by simpa using e1, e2⟩
theorem RVs.append {H : Hp} {ρ : List Addr} {L : Addr → Prop} : ∀ {p q : List PV} {v w : List V}, RVs K H ρ L p v → RVs K H ρ L q w → RVs K H ρ L (p ++ q) (v ++ w)
  | [], _, _, _, r, s => by cases r; exact s
  | _ :: _, _, _, _, r, s => by cases r with | cons a t => exact .cons a (RVs.append t s)
theorem RVs.set {H : Hp} {ρ : List Addr} {L : Addr → Prop} {x : PV} {y : V} (a : RV K H ρ L x y) : ∀ {p : List PV} {v : List V} (i : Nat), RVs K H ρ L p v → RVs K H ρ L (p.set i x) (v.set i y)
  | [], _, _, r => by cases r; exact .nil
  | _ :: _, _, 0, r => by cases r with | cons _ t => exact .cons a t
  | _ :: _, _, i + 1, r => by cases r with | cons b t => exact .cons b (RVs.set a i t)
theorem RVs.take {H : Hp} {ρ : List Addr} {L : Addr → Prop} : ∀ {p : List PV} {v : List V} (n : Nat), RVs K H ρ L p v → RVs K H ρ L (p.take n) (v.take n)
  | _, _, 0, _ => .nil
  | [], _, _ + 1, r => by cases r; exact .nil
  | _ :: _, _, n + 1, r => by cases r with | cons b t => exact .cons b (RVs.take n t)
theorem RVs.drop {H : Hp} {ρ : List Addr} {L : Addr → Prop} : ∀ {p : List PV} {v : List V} (n : Nat), RVs K H ρ L p v → RVs K H ρ L (p.drop n) (v.drop n)
  | _, _, 0, r => r
  | [], _, _ + 1, r => by cases r; exact .nil
  | _ :: _, _, n + 1, r => by cases r with | cons b t => exact RVs.drop n t
theorem RVs.dropLast {H : Hp} {ρ : List Addr} {L : Addr → Prop} {p : List PV} {v : List V} (r : RVs K H ρ L p v) : RVs K H ρ L p.dropLast v.dropLast := by
  rw [List.dropLast_eq_take, List.dropLast_eq_take, r.length]
  exact r.take _
theorem RVs.reps {H : Hp} {ρ : List Addr} {L : Addr → Prop} {p : List PV} {v : List V} (r : RVs K H ρ L p v) : ∀ n : Nat, RVs K H ρ L (reps n p) (List.replicate n v).flatten
  | 0 => .nil
  | n + 1 => by
    show RVs K H ρ L (p ++ LW.reps n p) _
    rw [List.replicate_succ, List.flatten_cons]
    exact r.append (RVs.reps r n)
end

/-! ### the heap -/
/-- a class of the row, by its name -/
abbrev cAd (K : PySem.W.Frag) (C : String) : Addr := He.ga K (os C)
def RKs (K : PySem.W.Frag) (H : Hp) (ρ : List Addr) (L : Addr → Prop) (kvs : List (DK × PV)) (ys : List (Key × V)) : Prop :=
  kvs.map (fun p => p.1.map id os) = ys.map (·.1) ∧ RVs K H ρ L (kvs.map (·.2)) (ys.map (·.2))
def RFs (K : PySem.W.Frag) (H : Hp) (ρ : List Addr) (L : Addr → Prop) (fs : List (String × PV)) (ys : List (Str × V)) : Prop :=
  fs.map (fun p => os p.1) = ys.map (·.1) ∧ RVs K H ρ L (fs.map (·.2)) (ys.map (·.2))
def ObR (K : PySem.W.Frag) (R : Rw) (H : Hp) (ρ : List Addr) (L : Addr → Prop) (a : Addr) : MO → Prop
  | .lst xs => ∃ ys, H a = some (.lst ys) ∧ RVs K H ρ L xs ys
  | .dct kvs => ∃ ys, H a = some (.dK ys) ∧ RKs K H ρ L kvs ys
  | .ins C fs => C ∈ R.clss ∧ ∃ dx ys, H a = some (.ins (cAd K C) dx ys) ∧ RFs K H ρ L fs ys
  | .dead => ∃ o, H a = some o
/-- the heap stands for H -/
structure Wd (K : PySem.W.Frag) (R : Rw) (Z : Addr → Prop) (ρ : List Addr) (h : HP) (H : Hp) : Prop where
  len : ρ.length = h.length
  nd : ρ.Nodup
  zs : ∀ a, Z a → (∃ o, H a = some o) ∧ a ∉ ρ
  ob : ∀ (n : Nat) (a : Addr) (o : MO), ρ[n]? = some a → h[n]? = some o → ObR K R H ρ (Lz Z ρ h) a o
section
variable {K : PySem.W.Frag} {R : Rw} {Z : Addr → Prop} {ρ : List Addr} {h : HP} {H : Hp}
theorem ObR.some_ {L : Addr → Prop} {a : Addr} {o : MO} (x : ObR K R H ρ L a o) : ∃ u, H a = some u := by
  cases o with
  | lst xs => obtain ⟨ys, e, _⟩ := x; exact ⟨_, e⟩
  | dct kvs => obtain ⟨ys, e, _⟩ := x; exact ⟨_, e⟩
  | ins C fs => obtain ⟨_, dx, ys, e, _⟩ := x; exact ⟨_, e⟩
  | dead => exact x
theorem Wd.at_ (w : Wd K R Z ρ h H) {n : Nat} {o : MO} (e : h[n]? = some o) : ∃ a, ρ[n]? = some a ∧ ObR K R H ρ (Lz Z ρ h) a o := by
  have hn : n < ρ.length := by rw [w.len]; exact (List.getElem?_eq_some_iff.mp e).1
  exact ⟨ρ[n], List.getElem?_eq_getElem hn, w.ob n _ o (List.getElem?_eq_getElem hn) e⟩
theorem Wd.mem (w : Wd K R Z ρ h H) {a : Addr} (m : a ∈ ρ) : ∃ u, H a = some u := by
  obtain ⟨n, hn, rfl⟩ := List.getElem_of_mem m
  have hn' : n < h.length := by rw [← w.len]; exact hn
  exact (w.ob n _ _ (List.getElem?_eq_getElem hn) (List.getElem?_eq_getElem hn')).some_
theorem Wd.free (w : Wd K R Z ρ h H) {p : Addr} (e : H p = none) : p ∉ ρ := fun m => by
  obtain ⟨u, q⟩ := w.mem m
  rw [e] at q; cases q
theorem Wd.nlz (w : Wd K R Z ρ h H) {p : Addr} (e : H p = none) : ¬ Lz Z ρ h p := fun l => l.elim (fun ⟨n, _, q, _⟩ => w.free e (List.mem_of_getElem? q)) fun z => by
  obtain ⟨⟨o, q⟩, _⟩ := w.zs p z
  rw [e] at q; cases q
theorem Live.mem {a : Addr} (l : Live ρ h a) : a ∈ ρ := by
  obtain ⟨n, _, e, _⟩ := l
  exact List.mem_of_getElem? e
/-- what is told of an object stays true where its own place is kept -/
theorem ObR.mono {Z : Addr → Prop} {ρ' : List Addr} {h' : HP} {H' : Hp} (x : Ext ρ h H ρ' h' H') {a : Addr} {o : MO} (e : H' a = H a) (r : ObR K R H ρ (Lz Z ρ h) a o) : ObR K R H' ρ' (Lz Z ρ' h') a o := by
  cases o with
  | lst xs => obtain ⟨ys, q, t⟩ := r; exact ⟨ys, e.trans q, t.mono x⟩
  | dct kvs => obtain ⟨ys, q, k, t⟩ := r; exact ⟨ys, e.trans q, k, t.mono x⟩
  | ins C fs => obtain ⟨c, dx, ys, q, k, t⟩ := r; exact ⟨c, dx, ys, e.trans q, k, t.mono x⟩
  | dead => obtain ⟨u, q⟩ := r; exact ⟨u, e.trans q⟩
/-- something new that is none of ours -/
theorem Ext.alloc {p : Addr} {o : HO} (e : H p = none) : Ext ρ h H ρ h (upd H p o) :=
  ⟨List.prefix_refl _, fun a u q _ => by rw [upd_ne (ne_of_none q e)]; exact q, fun _ l => .inl l, fun _ m => .inl m⟩
theorem Wd.alloc (w : Wd K R Z ρ h H) {p : Addr} {o : HO} (e : H p = none) : Wd K R Z ρ h (upd H p o) :=
  ⟨w.len, w.nd, fun a z => by
    obtain ⟨⟨u, q⟩, m⟩ := w.zs a z
    exact ⟨⟨u, by rw [upd_ne (ne_of_none q e)]; exact q⟩, m⟩, fun n a u q1 q2 => by
    have r := w.ob n a u q1 q2
    obtain ⟨z, qz⟩ := r.some_
    exact r.mono (Ext.alloc e) (upd_ne (ne_of_none qz e))⟩
theorem live_push {p : Addr} {o : MO} (w : Wd K R Z ρ h H) {a : Addr} (l : Live (ρ ++ [p]) (h ++ [o]) a) : Live ρ h a ∨ a = p := by
  obtain ⟨n, u, e1, e2, nd⟩ := l
  by_cases hn : n < ρ.length
  · rw [List.getElem?_append_left hn] at e1
    rw [List.getElem?_append_left (by rw [← w.len]; exact hn)] at e2
    exact .inl ⟨n, u, e1, e2, nd⟩
  · rw [List.getElem?_append_right (by omega)] at e1
    have : n - ρ.length = 0 := by
      have := (List.getElem?_eq_some_iff.mp e1).1
      simp at this; omega
    rw [this] at e1
    simp at e1
    exact .inr e1.symm
/-- a new object of ours -/
theorem Ext.push (w : Wd K R Z ρ h H) {p : Addr} {o : HO} {m : MO} (e : H p = none) : Ext ρ h H (ρ ++ [p]) (h ++ [m]) (upd H p o) :=
  ⟨List.prefix_append _ _, fun a u q _ => by rw [upd_ne (ne_of_none q e)]; exact q, fun a l => (live_push w l).elim .inl fun z => .inr (by rw [z]; exact e), fun a m => (List.mem_append.mp m).elim .inl fun z => .inr (by rw [List.mem_singleton.mp z]; exact e)⟩
theorem Wd.push (w : Wd K R Z ρ h H) {p : Addr} {o : HO} {m : MO} (e : H p = none) (new : ObR K R (upd H p o) (ρ ++ [p]) (Lz Z (ρ ++ [p]) (h ++ [m])) p m) : Wd K R Z (ρ ++ [p]) (h ++ [m]) (upd H p o) := by
  refine ⟨by simp [w.len], ?_, fun a z => ?_, fun n a u q1 q2 => ?_⟩
  rotate_left
  · obtain ⟨⟨u, q⟩, m⟩ := w.zs a z
    refine ⟨⟨u, by rw [upd_ne (ne_of_none q e)]; exact q⟩, fun hm => (List.mem_append.mp hm).elim m fun hp => ?_⟩
    rw [List.mem_singleton.mp hp, e] at q; cases q
  rotate_left
  · rw [List.nodup_append]
    refine ⟨w.nd, by simp, fun a ha b hb => ?_⟩
    simp at hb
    rintro rfl
    exact w.free e (hb ▸ ha)
  · by_cases hn : n < ρ.length
    · rw [List.getElem?_append_left hn] at q1
      rw [List.getElem?_append_left (by rw [← w.len]; exact hn)] at q2
      have r := w.ob n a u q1 q2
      obtain ⟨z, qz⟩ := r.some_
      exact r.mono (Ext.push w e) (upd_ne (ne_of_none qz e))
    · rw [List.getElem?_append_right (by omega)] at q1
      have h0 : n - ρ.length = 0 := by
        have := (List.getElem?_eq_some_iff.mp q1).1
        simp at this; omega
      rw [List.getElem?_append_right (by rw [← w.len]; omega), ← w.len] at q2
      rw [h0] at q1 q2
      simp at q1 q2
      subst q1 q2
      exact new
theorem nodup_get {n m : Nat} {a : Addr} (nd : ρ.Nodup) (e1 : ρ[n]? = some a) (e2 : ρ[m]? = some a) : n = m := by
  obtain ⟨l1, g1⟩ := List.getElem?_eq_some_iff.mp e1
  obtain ⟨l2, g2⟩ := List.getElem?_eq_some_iff.mp e2
  have p := List.pairwise_iff_getElem.mp nd
  rcases Nat.lt_trichotomy n m with z | z | z
  · exact absurd (g1.trans g2.symm) (p n m l1 l2 z)
  · exact z
  · exact absurd (g2.trans g1.symm) (p m n l2 l1 z)
/-- an object of ours is changed -/
theorem live_set {n : Nat} {m old : MO} (eo : h[n]? = some old) (no : old ≠ .dead) {a : Addr} (l : Live ρ (h.set n m) a) : Live ρ h a := by
  obtain ⟨k, u, e1, e2, nd⟩ := l
  by_cases hk : k = n
  · subst hk; exact ⟨k, old, e1, eo, no⟩
  · rw [List.getElem?_set_ne (Ne.symm hk)] at e2
    exact ⟨k, u, e1, e2, nd⟩
theorem Ext.set {n : Nat} {a : Addr} {o : HO} {m old : MO} (ea : ρ[n]? = some a) (eo : h[n]? = some old) (no : old ≠ .dead) : Ext ρ h H ρ (h.set n m) (upd H a o) :=
  ⟨List.prefix_refl _, fun b u q l => by
    have nb : b ≠ a := fun z => l ⟨n, old, by rw [z]; exact ea, eo, no⟩
    rw [upd_ne nb]
    exact q, fun b l => .inl (live_set eo no l), fun _ m => .inl m⟩
theorem Wd.set (w : Wd K R Z ρ h H) {n : Nat} {a : Addr} {o : HO} {m old : MO} (ea : ρ[n]? = some a) (eo : h[n]? = some old) (no : old ≠ .dead)
    (new : ObR K R (upd H a o) ρ (Lz Z ρ (h.set n m)) a m) : Wd K R Z ρ (h.set n m) (upd H a o) := by
  refine ⟨by simp [w.len], w.nd, fun b z => ?_, fun k b u q1 q2 => ?_⟩
  · obtain ⟨⟨u, q⟩, m⟩ := w.zs b z
    have nb : b ≠ a := fun z => m (by rw [z]; exact List.mem_of_getElem? ea)
    exact ⟨⟨u, by rw [upd_ne nb]; exact q⟩, m⟩
  by_cases hk : k = n
  · subst hk
    rw [ea] at q1; cases q1
    rw [List.getElem?_set_self (List.getElem?_eq_some_iff.mp eo).1] at q2
    cases q2
    exact new
  · rw [List.getElem?_set_ne (Ne.symm hk)] at q2
    have r := w.ob k b u q1 q2
    refine r.mono (Ext.set ea eo no) (upd_ne fun z => hk (nodup_get w.nd q1 (z ▸ ea)))
/-- an object of ours is given up -/
theorem Ext.drop {n : Nat} {old : MO} (eo : h[n]? = some old) (no : old ≠ .dead) : Ext ρ h H ρ (h.set n .dead) H :=
  ⟨List.prefix_refl _, fun b u q l => q, fun b l => .inl (live_set eo no l), fun _ m => .inl m⟩
theorem Wd.drop (w : Wd K R Z ρ h H) {n : Nat} {a : Addr} {old : MO} (ea : ρ[n]? = some a) (eo : h[n]? = some old) (no : old ≠ .dead) : Wd K R Z ρ (h.set n .dead) H := by
  refine ⟨by simp [w.len], w.nd, w.zs, fun k b u q1 q2 => ?_⟩
  by_cases hk : k = n
  · subst hk
    rw [ea] at q1; cases q1
    rw [List.getElem?_set_self (List.getElem?_eq_some_iff.mp eo).1] at q2
    cases q2
    exact (w.ob k a old ea eo).some_
  · rw [List.getElem?_set_ne (Ne.symm hk)] at q2
    exact (w.ob k b u q1 q2).mono (Ext.drop eo no) rfl
theorem not_live_drop (w : Wd K R Z ρ h H) {n : Nat} {a : Addr} {old : MO} (ea : ρ[n]? = some a) (eo : h[n]? = some old) : ¬ Lz Z ρ (h.set n .dead) a := fun l => l.elim (fun ⟨k, u, e1, e2, nd⟩ => by
  have := nodup_get w.nd e1 ea
  subst this
  rw [List.getElem?_set_self (List.getElem?_eq_some_iff.mp eo).1] at e2
  cases e2
  exact nd rfl) fun z => (w.zs a z).2 (List.mem_of_getElem? ea)
end

/-! ### slots, results -/
/-- the slots that the small Python knows -/
def RS (K : PySem.W.Frag) (H : Hp) (ρ : List Addr) (L : Addr → Prop) (σ' : Sg) (σ : St) : Prop :=
  ∀ (i : Nat) (v : PV), σ'[i]? = some (some v) → ∃ u, σ[i]? = some (some u) ∧ RV K H ρ L v u
theorem RS.mono {K : PySem.W.Frag} {Z : Addr → Prop} {ρ ρ' : List Addr} {h h' : HP} {H H' : Hp} {σ' : Sg} {σ : St} (r : RS K H ρ (Lz Z ρ h) σ' σ) (x : Ext ρ h H ρ' h' H') : RS K H' ρ' (Lz Z ρ' h') σ' σ := fun i v e => by
  obtain ⟨u, e1, e2⟩ := r i v e
  exact ⟨u, e1, e2.mono x⟩
theorem RS.set {K : PySem.W.Frag} {H : Hp} {ρ : List Addr} {L : Addr → Prop} {σ' : Sg} {σ : St} (r : RS K H ρ L σ' σ) (hl : σ'.length ≤ σ.length) {i : Nat} {v : PV} {u : V} (e : RV K H ρ L v u) : RS K H ρ L (σ'.set i (some v)) (σ.set i (some u)) := fun j x q => by
  by_cases hj : j = i
  · subst hj
    have hlt : j < σ'.length := by
      have := (List.getElem?_eq_some_iff.mp q).1
      simpa using this
    rw [List.getElem?_set_self hlt] at q
    cases q
    exact ⟨u, by rw [List.getElem?_set_self (by omega)], e⟩
  · rw [List.getElem?_set_ne (Ne.symm hj)] at q
    rw [List.getElem?_set_ne (Ne.symm hj)]
    exact r j x q

/-- what is wanted of a result: of a value, of an exception -/
def Po {α β : Type} (K : PySem.W.Frag) (R : Rw) (Z : Addr → Prop) (Rl : Hp → List Addr → (Addr → Prop) → α → β → Prop) (ρ : List Addr) (h : HP) (H : Hp) (r : LW.R α) (Q : β → Hp → Prop) (W : XK) : Prop := match r with
  | .ok a h' => ∀ ρ' H' b, Ext ρ h H ρ' h' H' → Wd K R Z ρ' h' H' → Rl H' ρ' (Lz Z ρ' h') a b → Q b H'
  | .exc c h' => c ∈ R.excs ∧ ∀ ρ' H', Ext ρ h H ρ' h' H' → Wd K R Z ρ' h' H' → W (.ref (cAd K c)) none H'
  | .bad => False
section
variable {K : PySem.W.Frag} {R : Rw} {Z : Addr → Prop} {ρ ρ1 : List Addr} {h h1 : HP} {H H1 : Hp} {α β γ δ : Type} {Rl : Hp → List Addr → (Addr → Prop) → α → β → Prop} {Rl2 : Hp → List Addr → (Addr → Prop) → γ → δ → Prop} {W : XK}
theorem Po.rebase {r : LW.R α} {Q : β → Hp → Prop} (x : Ext ρ h H ρ1 h1 H1) (p : Po K R Z Rl ρ h H r Q W) : Po K R Z Rl ρ1 h1 H1 r Q W := by
  cases r with
  | ok a h' => exact fun ρ' H' b e w z => p ρ' H' b (x.trans e) w z
  | exc c h' => exact ⟨p.1, fun ρ' H' e w => p.2 ρ' H' (x.trans e) w⟩
  | bad => exact p
/-- the first of two steps -/
theorem Po.step {r : LW.R α} {k : α → HP → LW.R γ} {Q : δ → Hp → Prop} {Q1 : β → Hp → Prop} (p : Po K R Z Rl2 ρ h H (r.bind k) Q W)
    (f : ∀ (a : α) (h1 : HP) (ρ1 : List Addr) (H1 : Hp) (b : β), r = .ok a h1 → Ext ρ h H ρ1 h1 H1 → Wd K R Z ρ1 h1 H1 → Rl H1 ρ1 (Lz Z ρ1 h1) a b → Po K R Z Rl2 ρ1 h1 H1 (k a h1) Q W → Q1 b H1) : Po K R Z Rl ρ h H r Q1 W := by
  cases r with
  | ok a h' => exact fun ρ' H' b e w z => f a h' ρ' H' b rfl e w z (Po.rebase e p)
  | exc c h' => exact p
  | bad => exact p
/-- .. a step that raises nothing -/
theorem Po.stepC {r : LW.R α} {k : α → HP → LW.R γ} {Q : δ → Hp → Prop} {Q1 : β → Hp → Prop} {W' : XK} (p : Po K R Z Rl2 ρ h H (r.calm.bind k) Q W)
    (f : ∀ (a : α) (h1 : HP) (ρ1 : List Addr) (H1 : Hp) (b : β), r = .ok a h1 → Ext ρ h H ρ1 h1 H1 → Wd K R Z ρ1 h1 H1 → Rl H1 ρ1 (Lz Z ρ1 h1) a b → Po K R Z Rl2 ρ1 h1 H1 (k a h1) Q W → Q1 b H1) : Po K R Z Rl ρ h H r Q1 W' := by
  cases r with
  | ok a h' => exact fun ρ' H' b e w z => f a h' ρ' H' b rfl e w z (Po.rebase e p)
  | exc c h' => exact p.elim
  | bad => exact p.elim
theorem Po.imp {r : LW.R α} {Q Q' : β → Hp → Prop} (p : Po K R Z Rl ρ h H r Q W) (f : ∀ (a : α) (h1 : HP) (ρ1 : List Addr) (H1 : Hp) (b : β), r = .ok a h1 → Ext ρ h H ρ1 h1 H1 → Wd K R Z ρ1 h1 H1 → Rl H1 ρ1 (Lz Z ρ1 h1) a b → Q b H1 → Q' b H1) : Po K R Z Rl ρ h H r Q' W := by
  cases r with
  | ok a h' => exact fun ρ' H' b e w z => f a h' ρ' H' b rfl e w z (p ρ' H' b e w z)
  | exc c h' => exact p
  | bad => exact p
end
end LW
/-! LwC: operations by values. -/
namespace LW
open PySem L2
/-! ### data -/
mutual
def toD : PV → PyData
  | .non => .none
  | .bl b => .bool b
  | .int i => .int i
  | .str s => .str (os s)
  | .tup xs => .tuple (toDs xs)
  | .lst xs => .list (toDs xs)
  | .fls _ => .none
  | .ref _ => .none
def toDs : List PV → List PyData
  | [] => []
  | x :: xs => toD x :: toDs xs
end
mutual
/-- no references -/
def pur : PV → Bool
  | .tup xs => purs xs
  | .lst xs => purs xs
  | .fls _ => false
  | .ref _ => false
  | _ => true
def purs : List PV → Bool
  | [] => true
  | x :: xs => pur x && purs xs
end
mutual
def dep : PV → Nat
  | .tup xs => deps xs + 1
  | .lst xs => deps xs + 1
  | _ => 0
def deps : List PV → Nat
  | [] => 0
  | x :: xs => max (dep x) (deps xs)
end
mutual
theorem eqd_eqv : ∀ a b : PV, pur a = true → pur b = true → eqd a b = PyData.eqv (toD a) (toD b)
  | .non, b, _, hb => by cases b <;> simp [eqd, toD, PyData.eqv, pur] at *
  | .bl _, b, _, hb => by cases b <;> simp [eqd, toD, PyData.eqv, pur] at *
  | .int _, b, _, hb => by cases b <;> simp [eqd, toD, PyData.eqv, pur] at *
  | .str s, b, _, hb => by
    cases b <;> simp [eqd, toD, PyData.eqv, pur] at *
    rename_i t
    rw [Bool.eq_iff_iff]
    simp [os_iff]
  | .tup xs, b, ha, hb => by
    cases b <;> simp [eqd, toD, PyData.eqv, pur] at *
    exact eqds_eqv xs _ ha hb
  | .lst xs, b, ha, hb => by
    cases b <;> simp [eqd, toD, PyData.eqv, pur] at *
    exact eqds_eqv xs _ ha hb
  | .fls _, _, ha, _ => by simp [pur] at ha
  | .ref _, _, ha, _ => by simp [pur] at ha
theorem eqds_eqv : ∀ a b : List PV, purs a = true → purs b = true → eqds a b = PyData.eqvAll (toDs a) (toDs b)
  | [], b, _, hb => by cases b <;> simp [eqds, toDs, PyData.eqvAll]
  | x :: xs, b, ha, hb => by
    cases b with
    | nil => simp [eqds, toDs, PyData.eqvAll]
    | cons y ys =>
      simp only [purs, Bool.and_eq_true] at ha hb
      simp [eqds, toDs, PyData.eqvAll, eqd_eqv x y ha.1 hb.1, eqds_eqv xs ys ha.2 hb.2]
end
theorem strOk_os (s : String) : PyData.strOk (os s) = true := by
  unfold PyData.strOk
  show (Str.ofString s).cps.all _ = true
  rw [Str.ofString_eq_toList]
  simp only [List.all_toArray, List.all_map, List.all_eq_true]
  intro c _
  have h := c.valid
  simp only [UInt32.isValidChar, Nat.isValidChar] at h
  show decide (c.val.toNat < 1114112) = true
  exact decide_eq_true (by omega)
mutual
theorem toD_lay : ∀ a : PV, (toD a).canLay0 = true
  | .non => by simp [toD, PyData.canLay0]
  | .bl _ => by simp [toD, PyData.canLay0]
  | .int _ => by simp [toD, PyData.canLay0]
  | .str s => by simp [toD, PyData.canLay0, strOk_os]
  | .tup xs => by simp [toD, PyData.canLay0, toDs_lay xs]
  | .lst xs => by simp [toD, PyData.canLay0, toDs_lay xs]
  | .fls _ => by simp [toD, PyData.canLay0]
  | .ref _ => by simp [toD, PyData.canLay0]
theorem toDs_lay : ∀ a : List PV, PyData.canLayAll0 (toDs a) = true
  | [] => by simp [toDs, PyData.canLayAll0]
  | x :: xs => by simp [toDs, PyData.canLayAll0, toD_lay x, toDs_lay xs]
end
mutual
theorem toD_dep : ∀ a : PV, (toD a).depth = dep a
  | .non => by simp [toD, PyData.depth, dep]
  | .bl _ => by simp [toD, PyData.depth, dep]
  | .int _ => by simp [toD, PyData.depth, dep]
  | .str s => by simp [toD, PyData.depth, dep]
  | .tup xs => by simp [toD, PyData.depth, dep, toDs_dep xs]
  | .lst xs => by simp [toD, PyData.depth, dep, toDs_dep xs]
  | .fls _ => by simp [toD, PyData.depth, dep]
  | .ref _ => by simp [toD, PyData.depth, dep]
theorem toDs_dep : ∀ a : List PV, PyData.depthAll (toDs a) = deps a
  | [] => by simp [toDs, PyData.depthAll, deps]
  | x :: xs => by simp [toDs, PyData.depthAll, deps, toD_dep x, toDs_dep xs]
end
theorem toDs_map : ∀ xs : List PV, toDs xs = xs.map toD
  | [] => rfl
  | x :: xs => by simp [toDs, toDs_map xs]
theorem shaped_toD {a : PV} (h : dep a ≤ 64) : SeqAt.shaped (toD a) = true := by
  unfold SeqAt.shaped
  rw [toD_lay, toD_dep, Bool.true_and]
  exact decide_eq_true h

theorem mapO_spec {α β : Type} {f : α → Option β} : ∀ {xs : List α} {ys : List β}, mapO f xs = some ys → ys.length = xs.length ∧ ∀ (i : Nat) (x : α), xs[i]? = some x → ∃ y, ys[i]? = some y ∧ f x = some y
  | [], _, e => by cases e; exact ⟨rfl, fun i x q => by simp at q⟩
  | x :: xs, ys, e => by
    unfold mapO at e
    cases e1 : f x with
    | none => rw [e1] at e; cases e
    | some y =>
      rw [e1] at e
      cases e2 : mapO f xs with
      | none => rw [e2] at e; cases e
      | some zs =>
        rw [e2] at e
        cases e
        obtain ⟨h1, h2⟩ := mapO_spec e2
        refine ⟨by simp [h1], fun i z q => ?_⟩
        cases i with
        | zero => simp at q; subst q; exact ⟨y, by simp, e1⟩
        | succ i => obtain ⟨w, a, b⟩ := h2 i z (by simpa using q); exact ⟨w, by simpa using a, b⟩

section
variable {K : PySem.W.Frag} {R : Rw} {Z : Addr → Prop} {ρ : List Addr} {h : HP} {H : Hp}
/-- what dr tells of a value -/
structure DrOk (K : PySem.W.Frag) (H : Hp) (f : Nat) (v : V) (d : PV) : Prop where
  p : pur d = true
  n : dep d ≤ f
  dp : Dp K H v (toD d)
theorem drs_ok {f : Nat} (ih : ∀ {a : PV} {v : V} {d : PV}, RV K H ρ (Lz Z ρ h) a v → dr h f a = some d → DrOk K H f v d) : ∀ {xs : List PV} {ys : List V} {ds : List PV}, RVs K H ρ (Lz Z ρ h) xs ys → mapO (dr h f) xs = some ds →
    purs ds = true ∧ deps ds ≤ f ∧ DpAll K H ys (toDs ds)
  | [], _, _, r, e => by
    cases r; cases e
    exact ⟨rfl, Nat.zero_le _, .nil⟩
  | x :: xs, _, ds, r, e => by
    cases r with
    | cons r1 r2 =>
      unfold mapO at e
      cases e1 : dr h f x with
      | none => rw [e1] at e; cases e
      | some y =>
        rw [e1] at e
        cases e2 : mapO (dr h f) xs with
        | none => rw [e2] at e; cases e
        | some zs =>
          rw [e2] at e
          cases e
          have a := ih r1 e1
          obtain ⟨b1, b2, b3⟩ := drs_ok ih r2 e2
          have an := a.n
          exact ⟨by simp [purs, a.p, b1], by simp only [deps]; omega, .cons a.dp b3⟩
theorem dr_ok (w : Wd K R Z ρ h H) : ∀ {f : Nat} {a : PV} {v : V} {d : PV}, RV K H ρ (Lz Z ρ h) a v → dr h f a = some d → DrOk K H f v d
  | 0, _, _, _, _, e => by simp [dr] at e
  | f + 1, a, v, d, r, e => by
    cases r with
    | non => simp [dr] at e; subst e; exact ⟨rfl, by simp [dep], .non⟩
    | bl b => simp [dr] at e; subst e; exact ⟨rfl, by simp [dep], .bl _⟩
    | int b => simp [dr] at e; subst e; exact ⟨rfl, by simp [dep], .int _⟩
    | str b => simp [dr] at e; subst e; exact ⟨rfl, by simp [dep], .str _⟩
    | tup hf rs =>
      simp only [dr, Option.map_eq_some_iff] at e
      obtain ⟨ds, e1, rfl⟩ := e
      obtain ⟨b1, b2, b3⟩ := drs_ok (fun r e => dr_ok w r e) rs e1
      exact ⟨b1, by simp only [dep]; omega, .tup hf.sq b3⟩
    | lst hf _ rs =>
      simp only [dr, Option.map_eq_some_iff] at e
      obtain ⟨ds, e1, rfl⟩ := e
      obtain ⟨b1, b2, b3⟩ := drs_ok (fun r e => dr_ok w r e) rs e1
      exact ⟨b1, by simp only [dep]; omega, .lst (SqL.of hf) b3⟩
    | fls _ _ => simp [dr] at e
    | @ref n a en =>
      simp only [dr] at e
      cases eh : h[n]? with
      | none => rw [eh] at e; cases e
      | some o =>
        rw [eh] at e
        cases o with
        | lst xs =>
          simp only [Option.map_eq_some_iff] at e
          obtain ⟨ds, e1, rfl⟩ := e
          obtain ⟨ys, q, rs⟩ := w.ob n a _ en eh
          obtain ⟨b1, b2, b3⟩ := drs_ok (fun r e => dr_ok w r e) rs e1
          exact ⟨b1, by simp only [dep]; omega, .lst (SqL.of q) b3⟩
        | dct _ => cases e
        | ins _ _ => cases e
        | dead => cases e
end

/-! ### lists and tuples read -/
section
variable {K : PySem.W.Frag} {R : Rw} {Z : Addr → Prop} {ρ : List Addr} {h : HP} {H : Hp}
theorem asD_ok (w : Wd K R Z ρ h H) {v : PV} {u : V} {xs : List PV} (r : RV K H ρ (Lz Z ρ h) v u) (e : asD h v = some xs) : ∃ a ys, u = .ref a ∧ H a = some (.lst ys) ∧ RVs K H ρ (Lz Z ρ h) xs ys := by
  cases r with
  | lst hf _ rs => simp only [asD, Option.some.injEq] at e; subst e; exact ⟨_, _, rfl, hf, rs⟩
  | @ref n a en =>
    simp only [asD] at e
    cases eh : h[n]? with
    | none => rw [eh] at e; cases e
    | some o =>
      rw [eh] at e
      cases o with
      | lst zs =>
        simp only [Option.some.injEq] at e
        subst e
        obtain ⟨ys, q, rs⟩ := w.ob n a _ en eh
        exact ⟨_, _, rfl, q, rs⟩
      | _ => cases e
  | _ => simp [asD] at e
theorem asL_ok (w : Wd K R Z ρ h H) {v : PV} {u : V} {xs : List PV} (r : RV K H ρ (Lz Z ρ h) v u) (e : asL h v = some xs) : ∃ a ys, u = .ref a ∧ SqL K H a ys ∧ RVs K H ρ (Lz Z ρ h) xs ys := by
  cases r with
  | lst hf _ rs => simp only [asL, Option.some.injEq] at e; subst e; exact ⟨_, _, rfl, SqL.of hf, rs⟩
  | fls hf rs => simp only [asL, Option.some.injEq] at e; subst e; exact ⟨_, _, rfl, hf.sq, rs⟩
  | @ref n a en =>
    simp only [asL] at e
    cases eh : h[n]? with
    | none => rw [eh] at e; cases e
    | some o =>
      rw [eh] at e
      cases o with
      | lst zs =>
        simp only [Option.some.injEq] at e
        subst e
        obtain ⟨ys, q, rs⟩ := w.ob n a _ en eh
        exact ⟨_, _, rfl, SqL.of q, rs⟩
      | _ => cases e
  | _ => simp [asL] at e
theorem asS_ok (w : Wd K R Z ρ h H) {v : PV} {u : V} {xs : List PV} (r : RV K H ρ (Lz Z ρ h) v u) (e : asS h v = some xs) : ∃ a ys, u = .ref a ∧ (SqL K H a ys ∨ SqT K H a ys) ∧ RVs K H ρ (Lz Z ρ h) xs ys := by
  cases r with
  | tup hf rs => simp only [asS, Option.some.injEq] at e; subst e; exact ⟨_, _, rfl, .inr hf.sq, rs⟩
  | lst hf n rs => obtain ⟨a, ys, q1, q2, q3⟩ := asL_ok w (.lst hf n rs) e; exact ⟨a, ys, q1, .inl q2, q3⟩
  | fls hf rs => obtain ⟨a, ys, q1, q2, q3⟩ := asL_ok w (.fls hf rs) e; exact ⟨a, ys, q1, .inl q2, q3⟩
  | ref en => obtain ⟨a, ys, q1, q2, q3⟩ := asL_ok w (.ref en) e; exact ⟨a, ys, q1, .inl q2, q3⟩
  | _ => simp [asS, asL] at e
end

/-! ### two values -/
/-- a rule by values, over a partial function that leaves our heap as it is -/
def rB (K : PySem.W.Frag) (R : Rw) (f : HP → PV → PV → Option PV) : R2 := fun x y H Q => ∃ (Z : Addr → Prop) (ρ : List Addr) (h : HP) (a b v : PV), Wd K R Z ρ h H ∧ RV K H ρ (Lz Z ρ h) a x ∧ RV K H ρ (Lz Z ρ h) b y ∧ f h a b = some v ∧
  ∀ H' v', Ext ρ h H ρ h H' → Wd K R Z ρ h H' → RV K H' ρ (Lz Z ρ h) v v' → Q v' H'
def opM : Op → Operator
  | .add => .Add | .sub => .Sub | .mul => .Mult | .fdiv => .FloorDiv | .mod => .Mod | .pow => .Pow
theorem line_eq : lineN = sizeLine := by rw [sizeLine_eq]; rfl
theorem b64_ok {i : Int} (h : b64 i = true) : -(2 ^ 64) < i ∧ i < 2 ^ 64 := by
  unfold b64 at h
  simpa [Bool.and_eq_true] using h
section
variable {X : Cx} {R : Rw}
/-- a new thing of the value's own -/
theorem new_tup {Z : Addr → Prop} {ρ : List Addr} {h : HP} {H : Hp} {xs : List PV} {ys : List V} {Q : VK} (w : Wd X.K R Z ρ h H) (rs : RVs X.K H ρ (Lz Z ρ h) xs ys)
    (k : ∀ H' v', Ext ρ h H ρ h H' → Wd X.K R Z ρ h H' → RV X.K H' ρ (Lz Z ρ h) (.tup xs) v' → Q v' H') : ∀ p, H p = none → Q (.ref p) (upd H p (.tup ys)) := fun p e =>
  k _ _ (Ext.alloc e) (w.alloc e) (.tup (.inl ⟨upd_same, w.nlz e⟩) (rs.mono (Ext.alloc e)))
theorem new_lst {Z : Addr → Prop} {ρ : List Addr} {h : HP} {H : Hp} {xs : List PV} {ys : List V} {Q : VK} (w : Wd X.K R Z ρ h H) (rs : RVs X.K H ρ (Lz Z ρ h) xs ys)
    (k : ∀ H' v', Ext ρ h H ρ h H' → Wd X.K R Z ρ h H' → RV X.K H' ρ (Lz Z ρ h) (.lst xs) v' → Q v' H') : ∀ p, H p = none → Q (.ref p) (upd H p (.lst ys)) := fun p e =>
  k _ _ (Ext.alloc e) (w.alloc e) (.lst upd_same (w.nlz e) (rs.mono (Ext.alloc e)))
theorem op_add_ok : OpR X (binaryOp .Add) (rB X.K R fun h a b => opv h .add a b) := by
  intro pins s σ H x y v u Q I rx ry ⟨Z, ρ, h, a, b, c, w, ra, rb, e, k⟩
  have cat : ∀ {a b : PV}, RV X.K H ρ (Lz Z ρ h) a x → RV X.K H ρ (Lz Z ρ h) b y → catL h a b = some c → wpAny (model X.prog X.w) X.A (binaryOp .Add v u) (EP X pins σ Q) X.xe s := fun {a b} ra rb e => by
    unfold catL at e
    cases e1 : asD h a with
    | none => rw [e1] at e; cases e
    | some xs =>
      cases e2 : asD h b with
      | none => rw [e1, e2] at e; cases e
      | some ys =>
        rw [e1, e2] at e
        simp only at e
        split at e
        · rename_i hl
          cases e
          obtain ⟨p, ps, rfl, hp, r1⟩ := asD_ok w ra e1
          obtain ⟨q, qs, rfl, hq, r2⟩ := asD_ok w rb e2
          refine op_cat pins s σ H _ _ v u Q I rx ry ⟨p, q, ps, qs, rfl, rfl, hp, hq, ?_, new_lst w (r1.append r2) k⟩
          rw [← r1.length, ← r2.length, ← line_eq]; exact hl
        · cases e
  cases a with
  | int i =>
    cases b with
    | int j =>
      cases ra; cases rb
      simp only [opv, Option.some.injEq] at e
      subst e
      exact op_add pins s σ H _ _ v u Q I rx ry ⟨i, j, rfl, rfl, k _ _ Ext.refl w (.int _)⟩
    | _ => exact cat ra rb (by simpa [opv] using e)
  | str i =>
    cases b with
    | str j =>
      cases ra; cases rb
      simp only [opv] at e
      split at e
      · rename_i hl
        cases e
        refine op_add_str pins s σ H _ _ v u Q I rx ry ⟨_, _, rfl, rfl, by rw [os_len, os_len, ← line_eq]; exact hl, ?_⟩
        have z : (os i) ++ (os j) = os (i ++ j) := by
          show Str.append _ _ = _
          unfold Str.append os
          rw [Str.ofString_eq_toList, Str.ofString_eq_toList, Str.ofString_eq_toList]
          simp
        rw [z]
        exact k _ _ Ext.refl w (.str _)
      · cases e
    | _ => exact cat ra rb (by simpa [opv] using e)
  | tup i =>
    cases b with
    | tup j =>
      simp only [opv] at e
      split at e
      · rename_i hl
        cases e
        cases ra with
        | @tup _ p ps hp r1 =>
        cases rb with
        | @tup _ q qs hq r2 =>
        refine op_catA pins s σ H _ _ v u Q I rx ry ⟨p, q, ps, qs, rfl, rfl, hp.sq, hq.sq, ?_, fun z => ?_, fun _ z => ?_, fun _ _ => new_tup w (r1.append r2) k⟩
        · rw [← r1.length, ← r2.length, ← line_eq]; exact hl
        · subst z; cases r1
          exact k _ _ Ext.refl w (.tup hq r2)
        · subst z; cases r2
          rw [List.append_nil] at k
          exact k _ _ Ext.refl w (.tup hp r1)
      · cases e
    | _ => exact cat ra rb (by simpa [opv] using e)
  | _ => exact cat ra rb (by cases b <;> simpa [opv] using e)
theorem op_mul_ok : OpR X (binaryOp .Mult) (rB X.K R fun h a b => opv h .mul a b) := by
  intro pins s σ H x y v u Q I rx ry ⟨Z, ρ, h, a, b, c, w, ra, rb, e, k⟩
  cases a with
  | int i =>
    cases b with
    | int j =>
      cases ra; cases rb
      simp only [opv] at e
      split at e
      · rename_i hb
        cases e
        rw [Bool.or_eq_true] at hb
        exact op_mul pins s σ H _ _ v u Q I rx ry ⟨i, j, rfl, rfl, hb.imp b64_ok b64_ok, k _ _ Ext.refl w (.int _)⟩
      · cases e
    | _ => simp [opv] at e
  | lst i =>
    cases b with
    | int j =>
      simp only [opv] at e
      split at e
      · rename_i hb
        cases e
        simp only [Bool.and_eq_true, decide_eq_true_eq] at hb
        cases ra with
        | @lst _ p ps hp nl r1 =>
        cases rb
        refine op_rep pins s σ H _ _ v u Q I rx ry ⟨p, j, ps, rfl, rfl, hp, by omega, by omega, ?_, new_lst w (r1.reps _) k⟩
        rw [← r1.length, ← line_eq]; exact hb.1.2
      · cases e
    | _ => simp [opv] at e
  | tup i =>
    cases b with
    | int j =>
      simp only [opv] at e
      split at e
      · rename_i hb
        cases e
        simp only [Bool.and_eq_true, decide_eq_true_eq] at hb
        cases ra with
        | @tup _ p ps hp r1 =>
        cases rb
        refine op_repT pins s σ H _ _ v u Q I rx ry ⟨p, j, ps, rfl, rfl, hp.sq, ?_, hb.1.1.1, hb.1.1.2, ?_, new_tup w (r1.reps _) k⟩
        · intro z
          subst z
          cases r1
          simp at hb
        · rw [← r1.length]; exact hb.1.2
      · cases e
    | _ => simp [opv] at e
  | _ => cases b <;> simp [opv] at e
theorem op_ok (op : Op) : OpR X (binaryOp (opM op)) (rB X.K R fun h a b => opv h op a b) := by
  cases op with
  | add => exact op_add_ok
  | mul => exact op_mul_ok
  | sub =>
    intro pins s σ H x y v u Q I rx ry ⟨Z, ρ, h, a, b, c, w, ra, rb, e, k⟩
    cases a <;> cases b <;> simp [opv] at e
    cases ra; cases rb; subst e
    exact op_sub pins s σ H _ _ v u Q I rx ry ⟨_, _, rfl, rfl, k _ _ Ext.refl w (.int _)⟩
  | fdiv =>
    intro pins s σ H x y v u Q I rx ry ⟨Z, ρ, h, a, b, c, w, ra, rb, e, k⟩
    cases a <;> cases b <;> simp [opv] at e
    cases ra; cases rb
    obtain ⟨hb, e⟩ := e
    subst e
    exact op_fdiv pins s σ H _ _ v u Q I rx ry ⟨_, _, rfl, rfl, hb, k _ _ Ext.refl w (.int _)⟩
  | mod =>
    intro pins s σ H x y v u Q I rx ry ⟨Z, ρ, h, a, b, c, w, ra, rb, e, k⟩
    cases a <;> cases b <;> simp [opv] at e
    cases ra; cases rb
    obtain ⟨hb, e⟩ := e
    subst e
    exact op_mod pins s σ H _ _ v u Q I rx ry ⟨_, _, rfl, rfl, hb, k _ _ Ext.refl w (.int _)⟩
  | pow =>
    intro pins s σ H x y v u Q I rx ry ⟨Z, ρ, h, a, b, c, w, ra, rb, e, k⟩
    cases a <;> cases b <;> simp [opv] at e
    cases ra; cases rb
    obtain ⟨⟨hb1, hb2⟩, e⟩ := e
    subst e
    exact op_pow pins s σ H _ _ v u Q I rx ry ⟨_, _, rfl, rfl, ⟨hb1.1, hb1.2, hb2⟩, k _ _ Ext.refl w (.int _)⟩
end

/-! ### comparisons -/
def cmpM : Cmp → CmpOp
  | .eq => .Eq | .ne => .NotEq | .lt => .Lt | .le => .LtE | .gt => .Gt | .ge => .GtE | .is_ => .Is | .isnot => .IsNot | .in_ => .In | .notin => .NotIn
def rC (K : PySem.W.Frag) (R : Rw) (op : Cmp) : R2 := fun x y H Q => ∃ (Z : Addr → Prop) (ρ : List Addr) (h : HP) (a b : PV) (k : Bool), Wd K R Z ρ h H ∧ RV K H ρ (Lz Z ρ h) a x ∧ RV K H ρ (Lz Z ρ h) b y ∧ cmpv h op a b = some k ∧ Q (.bl k) H
section
variable {K : PySem.W.Frag} {R : Rw} {Z : Addr → Prop} {ρ : List Addr} {h : HP} {H : Hp}
theorem eqh_ok (w : Wd K R Z ρ h H) {a b : PV} {x y : V} {k : Bool} (ra : RV K H ρ (Lz Z ρ h) a x) (rb : RV K H ρ (Lz Z ρ h) b y) (e : eqh h a b = some k) :
    ∃ d e, Dp K H x d ∧ Dp K H y e ∧ SeqAt.shaped d = true ∧ SeqAt.shaped e = true ∧ k = PyData.eqv d e := by
  unfold eqh at e
  cases e1 : dr h drN a with
  | none => rw [e1] at e; cases e
  | some d =>
    cases e2 : dr h drN b with
    | none => rw [e1, e2] at e; cases e
    | some d2 =>
      rw [e1, e2] at e
      simp only [Option.some.injEq] at e
      have o1 := dr_ok w ra e1
      have o2 := dr_ok w rb e2
      have n1 := o1.n
      have n2 := o2.n
      have z : drN = 40 := rfl
      exact ⟨_, _, o1.dp, o2.dp, shaped_toD (by omega), shaped_toD (by omega), by rw [← e, eqd_eqv _ _ o1.p o2.p]⟩
theorem memh_ok (w : Wd K R Z ρ h H) {a : PV} {xs : List PV} {x : V} {ys : List V} {k : Bool} (ra : RV K H ρ (Lz Z ρ h) a x) (rb : RVs K H ρ (Lz Z ρ h) xs ys) (e : memh h a xs = some k) :
    ∃ d ds, Dp K H x d ∧ DpAll K H ys ds ∧ SeqAt.shaped d = true ∧ PyData.canLayAll0 ds = true ∧ PyData.depthAll ds ≤ 40 ∧ k = ds.any fun z => PyData.eqv z d := by
  unfold memh at e
  cases e1 : dr h drN a with
  | none => rw [e1] at e; cases e
  | some d =>
    cases e2 : mapO (dr h drN) xs with
    | none => rw [e1, e2] at e; cases e
    | some ds =>
      rw [e1, e2] at e
      simp only [Option.some.injEq] at e
      have o1 := dr_ok w ra e1
      obtain ⟨b1, b2, b3⟩ := drs_ok (fun r e => dr_ok w r e) rb e2
      have n1 := o1.n
      have z : drN = 40 := rfl
      refine ⟨_, _, o1.dp, b3, shaped_toD (by omega), toDs_lay _, by rw [toDs_dep]; omega, ?_⟩
      rw [← e, toDs_map, List.any_map]
      clear e e2 b2 b3
      induction ds with
      | nil => rfl
      | cons z zs ih =>
        simp only [purs, Bool.and_eq_true] at b1
        simp only [List.any_cons, Function.comp_apply, eqd_eqv _ _ b1.1 o1.p, ih b1.2]
theorem sign_of {c : String} (h : c.length = 1) : ∃ d : Char, c.toList = [d] ∧ os c = ⟨#[d.toNat]⟩ := by
  have : c.toList.length = 1 := by rw [String.length_toList]; exact h
  match hc : c.toList, this with
  | [d], _ =>
    refine ⟨d, rfl, ?_⟩
    show Str.ofString c = _
    rw [Str.ofString_eq_toList, hc]
    rfl
theorem sign_mem (s : String) (d : Char) : (s.toList.any fun x => [d] == [x]) = decide (d.toNat ∈ (os s).cps.toList) := by
  have z : (os s).cps.toList = s.toList.map Char.toNat := by
    show (Str.ofString s).cps.toList = _
    rw [Str.ofString_eq_toList]
  rw [z]
  induction s.toList with
  | nil => rfl
  | cons x xs ih =>
    rw [List.any_cons, ih, List.map_cons]
    by_cases e : d = x
    · subst e; simp
    · have e' : ¬ d.toNat = x.toNat := fun q => e (Char.toNat_inj.mp q)
      simp [e, e']
end
section
variable {X : Cx} {R : Rw}
theorem cmp_ok (hu : X.A.units + 65 < cLine) (op : Cmp) : OpR X (compareOp (cmpM op)) (rC X.K R op) := by
  have hu1 : X.A.units + 64 < cLine := by omega
  have inn : ∀ {pins s σ H x y v u} {Q : VK} {Z : Addr → Prop} {ρ : List Addr} {h : HP} {a b : PV} {k : Bool}, L2.Inv X pins σ H s → RelV x v → RelV y u → Wd X.K R Z ρ h H → RV X.K H ρ (Lz Z ρ h) a x → RV X.K H ρ (Lz Z ρ h) b y → memOf h a b = some k →
      (Q (.bl k) H → wpAny (model X.prog X.w) X.A (compareOp .In v u) (EP X pins σ Q) X.xe s) ∧ (Q (.bl (!k)) H → wpAny (model X.prog X.w) X.A (compareOp .NotIn v u) (EP X pins σ Q) X.xe s) := by
    intro pins s σ H x y v u Q Z ρ h a b k I rx ry w ra rb e
    have lst : ∀ {xs : List PV} {ys : List V} {p : Addr}, y = .ref p → SqL X.K H p ys → RVs X.K H ρ (Lz Z ρ h) xs ys → memh h a xs = some k →
        (Q (.bl k) H → wpAny (model X.prog X.w) X.A (compareOp .In v u) (EP X pins σ Q) X.xe s) ∧ (Q (.bl (!k)) H → wpAny (model X.prog X.w) X.A (compareOp .NotIn v u) (EP X pins σ Q) X.xe s) := by
      intro xs ys p ey hq rs e
      subst ey
      obtain ⟨d, ds, dx, dl, sd, cl, dd, rfl⟩ := memh_ok w ra rs e
      have sh : SeqAt.shaped (.list ds) = true := by
        unfold SeqAt.shaped
        simp only [PyData.canLay0, cl, PyData.depth, Bool.true_and]
        exact decide_eq_true (by omega)
      exact ⟨fun q => op_inD hu pins s σ H _ _ v u Q I rx ry ⟨d, ds, dx, .lst hq dl, sd, sh, q⟩, fun q => op_notInD hu pins s σ H _ _ v u Q I rx ry ⟨d, ds, dx, .lst hq dl, sd, sh, q⟩⟩
    cases rb with
    | str z =>
      cases ra with
      | str c =>
        simp only [memOf] at e
        split at e
        · rename_i hc
          cases e
          obtain ⟨d, e1, e2⟩ := sign_of hc
          rw [e1, sign_mem]
          exact ⟨fun q => op_in_sign pins s σ H _ _ v u Q I rx ry ⟨d.toNat, os z, by rw [e2], rfl, q⟩, fun q => op_notIn_sign pins s σ H _ _ v u Q I rx ry ⟨d.toNat, os z, by rw [e2], rfl, q⟩⟩
        · cases e
      | _ => simp [memOf] at e
    | @tup xs p ys hf rs =>
      simp only [memOf] at e
      obtain ⟨d, ds, dx, dl, sd, cl, dd, rfl⟩ := memh_ok w ra rs e
      obtain ⟨as, r1⟩ := Dp.reads I d x v dx rx
      obtain ⟨bs, r2⟩ := Dp.reads I (.tuple ds) (.ref p) u (.tup hf.sq dl) ry
      exact ⟨fun q => SeqAt.in_tuple_reads r2 r1 cl (SeqAt.canLay_of_shaped sd) (PyProof.Rows.room_in_shaped sd hu) ⟨.bl _, H, I, rfl, q⟩, fun q => SeqAt.notIn_tuple_reads r2 r1 cl (SeqAt.canLay_of_shaped sd) (PyProof.Rows.room_in_shaped sd hu) ⟨.bl _, H, I, rfl, q⟩⟩
    | lst hf n rs => exact lst rfl (SqL.of hf) rs (by simpa [memOf] using e)
    | @ref n p en =>
      simp only [memOf] at e
      cases eh : h[n]? with
      | none => rw [eh] at e; cases e
      | some o =>
        rw [eh] at e
        cases o with
        | lst zs =>
          obtain ⟨ys, q, rs⟩ := w.ob n p _ en eh
          exact lst rfl (SqL.of q) rs e
        | _ => cases e
    | _ => simp [memOf] at e
  cases op with
  | eq =>
    intro pins s σ H x y v u Q I rx ry ⟨Z, ρ, h, a, b, k, w, ra, rb, e, q⟩
    obtain ⟨d, d2, h1, h2, h3, h4, rfl⟩ := eqh_ok w ra rb e
    exact op_eqD hu1 pins s σ H _ _ v u Q I rx ry ⟨d, d2, h1, h2, h3, h4, q⟩
  | ne =>
    intro pins s σ H x y v u Q I rx ry ⟨Z, ρ, h, a, b, k, w, ra, rb, e, q⟩
    simp only [cmpv, Option.map_eq_some_iff] at e
    obtain ⟨k', e, rfl⟩ := e
    obtain ⟨d, d2, h1, h2, h3, h4, rfl⟩ := eqh_ok w ra rb e
    exact op_neD hu1 pins s σ H _ _ v u Q I rx ry ⟨d, d2, h1, h2, h3, h4, q⟩
  | lt =>
    intro pins s σ H x y v u Q I rx ry ⟨Z, ρ, h, a, b, k, w, ra, rb, e, q⟩
    cases a <;> cases b <;> simp [cmpv] at e
    cases ra; cases rb; subst e
    exact op_lt pins s σ H _ _ v u Q I rx ry ⟨_, _, rfl, rfl, q⟩
  | le =>
    intro pins s σ H x y v u Q I rx ry ⟨Z, ρ, h, a, b, k, w, ra, rb, e, q⟩
    cases a <;> cases b <;> simp [cmpv] at e
    cases ra; cases rb; subst e
    exact op_le pins s σ H _ _ v u Q I rx ry ⟨_, _, rfl, rfl, q⟩
  | gt =>
    intro pins s σ H x y v u Q I rx ry ⟨Z, ρ, h, a, b, k, w, ra, rb, e, q⟩
    cases a <;> cases b <;> simp [cmpv] at e
    cases ra; cases rb; subst e
    exact op_gt pins s σ H _ _ v u Q I rx ry ⟨_, _, rfl, rfl, q⟩
  | ge =>
    intro pins s σ H x y v u Q I rx ry ⟨Z, ρ, h, a, b, k, w, ra, rb, e, q⟩
    cases a <;> cases b <;> simp [cmpv] at e
    cases ra; cases rb; subst e
    exact op_ge pins s σ H _ _ v u Q I rx ry ⟨_, _, rfl, rfl, q⟩
  | is_ =>
    intro pins s σ H x y v u Q I rx ry ⟨Z, ρ, h, a, b, k, w, ra, rb, e, q⟩
    cases b with
    | non =>
      cases rb
      have z : k = decide (x = V.non) := by
        cases ra <;> simp [cmpv] at e <;> simp [← e]
      rw [z] at q
      exact op_isN pins s σ H _ _ v u Q I rx ry ⟨rfl, q⟩
    | _ => cases a <;> simp [cmpv] at e
  | isnot =>
    intro pins s σ H x y v u Q I rx ry ⟨Z, ρ, h, a, b, k, w, ra, rb, e, q⟩
    cases b with
    | non =>
      cases rb
      have z : k = !decide (x = V.non) := by
        cases ra <;> simp [cmpv] at e <;> simp [← e]
      rw [z] at q
      exact op_notN pins s σ H _ _ v u Q I rx ry ⟨rfl, q⟩
    | _ => cases a <;> simp [cmpv] at e
  | in_ =>
    intro pins s σ H x y v u Q I rx ry ⟨Z, ρ, h, a, b, k, w, ra, rb, e, q⟩
    exact (inn I rx ry w ra rb (by simpa [cmpv] using e)).1 q
  | notin =>
    intro pins s σ H x y v u Q I rx ry ⟨Z, ρ, h, a, b, k, w, ra, rb, e, q⟩
    simp only [cmpv, Option.map_eq_some_iff] at e
    obtain ⟨k', e, rfl⟩ := e
    exact (inn I rx ry w ra rb e).2 q
end

/-! ### dicts -/
def dkK (k : DK) : Key := k.map id os
theorem dkK_inj {a b : DK} (h : dkK a = dkK b) : a = b := by
  cases a with
  | inl i => cases b with
    | inl j => exact congrArg Sum.inl (Sum.inl.inj h)
    | inr t => exact nomatch h
  | inr s => cases b with
    | inl j => exact nomatch h
    | inr t => exact congrArg Sum.inr (os_inj (Sum.inr.inj h))
theorem dkOf_ok {K : PySem.W.Frag} {H : Hp} {ρ : List Addr} {L : Addr → Prop} {v : PV} {x : V} {k : DK} (r : RV K H ρ L v x) (e : dkOf v = some k) : x = kV (dkK k) := by
  cases r <;> simp [dkOf] at e
  · subst e; rfl
  · subst e; rfl
section
variable {K : PySem.W.Frag} {H : Hp} {Z : Addr → Prop} {ρ : List Addr} {L : Addr → Prop}
theorem dget_ok (k : DK) : ∀ {kvs : List (DK × PV)} {ys : List (Key × V)}, RKs K H ρ L kvs ys → (∀ v, dget kvs k = some v → ∃ u, valV ys (dkK k) = some u ∧ RV K H ρ L v u) ∧ (dget kvs k = none → valV ys (dkK k) = none)
  | [], [], _ => ⟨fun v e => by simp [dget] at e, fun _ => rfl⟩
  | [], _ :: _, r => by obtain ⟨h1, _⟩ := r; simp at h1
  | _ :: _, [], r => by obtain ⟨h1, _⟩ := r; simp at h1
  | (a, v) :: kvs, (b, u) :: ys, r => by
    obtain ⟨h1, h2⟩ := r
    simp only [List.map_cons, List.cons.injEq] at h1
    simp only [List.map_cons] at h2
    cases h2 with
    | cons r1 r2 =>
      have ih := dget_ok k (kvs := kvs) (ys := ys) ⟨h1.2, r2⟩
      by_cases e : a = k
      · subst e
        have z : valV ((b, u) :: ys) (dkK a) = some u := valV_pos (p := (b, u)) h1.1.symm
        rw [z]
        simp only [dget, if_true]
        exact ⟨fun w q => by cases q; exact ⟨u, rfl, r1⟩, fun q => by cases q⟩
      · have z : valV ((b, u) :: ys) (dkK k) = valV ys (dkK k) := valV_neg (p := (b, u)) fun q => e (dkK_inj (h1.1.trans q))
        rw [z]
        simp only [dget, if_neg e]
        exact ih
theorem dput_ok {kvs : List (DK × PV)} {ys : List (Key × V)} (r : RKs K H ρ L kvs ys) (k : DK) {v : PV} {u : V} (rv : RV K H ρ L v u) : RKs K H ρ L (dput kvs k v) (putK ys (dkK k) u) := by
  obtain ⟨g1, g2⟩ := dget_ok k r
  have hany : (ys.any fun kv => decide (kv.1 = dkK k)) = (dget kvs k).isSome := by
    rw [valV_any]
    cases e : dget kvs k with
    | none => rw [g2 e]; rfl
    | some w => obtain ⟨z, ez, _⟩ := g1 w e; rw [ez]; rfl
  unfold dput putK
  rw [hany]
  obtain ⟨h1, h2⟩ := r
  cases e : (dget kvs k).isSome with
  | false =>
    simp only [Bool.false_eq_true, if_false]
    refine ⟨by rw [List.map_append, List.map_append, h1]; rfl, ?_⟩
    rw [List.map_append, List.map_append]
    exact h2.append (.cons rv .nil)
  | true =>
    simp only [if_true]
    clear hany g1 g2 e
    have go : ∀ {kvs : List (DK × PV)} {ys : List (Key × V)}, RKs K H ρ L kvs ys → RKs K H ρ L (kvs.map fun p => if p.1 = k then (p.1, v) else p) (ys.map fun kv => if kv.1 = dkK k then (kv.1, u) else kv) := by
      intro kvs
      induction kvs with
      | nil => intro ys r; cases ys with
        | nil => exact r
        | cons _ _ => obtain ⟨h1, _⟩ := r; simp at h1
      | cons p kvs ih =>
        intro ys r
        cases ys with
        | nil => obtain ⟨h1, _⟩ := r; simp at h1
        | cons q ys =>
          obtain ⟨h1, h2⟩ := r
          simp only [List.map_cons, List.cons.injEq] at h1
          simp only [List.map_cons] at h2
          cases h2 with
          | cons r1 r2 =>
            obtain ⟨i1, i2⟩ := ih (ys := ys) ⟨h1.2, r2⟩
            by_cases e : p.1 = k
            · have e' : q.1 = dkK k := by rw [← h1.1, e]; rfl
              simp only [List.map_cons, if_pos e, if_pos e']
              exact ⟨by simp only [List.map_cons, i1, h1.1], .cons rv i2⟩
            · have e' : ¬ q.1 = dkK k := fun z => e (dkK_inj (h1.1.trans z))
              simp only [List.map_cons, if_neg e, if_neg e']
              exact ⟨by simp only [List.map_cons, i1, h1.1], .cons r1 i2⟩
    exact go ⟨h1, h2⟩
theorem RKs.len {kvs : List (DK × PV)} {ys : List (Key × V)} (r : RKs K H ρ L kvs ys) : kvs.length = ys.length := by
  have := r.2.length
  simpa using this
end
/-- d[k], by values -/
theorem ix_dict {X : Cx} (hu : X.A.units + 1 < cLine) : IxR X (fun x y H Q => ∃ a v, x = .ref a ∧ DGet H a y (some v) ∧ Q v H) := by
  intro value slice pins s σ H x y v u Q I rx ry ⟨a, z, ex, g, q⟩ hs
  subst ex
  obtain rfl : v = Value.ref a := rx
  have hT := dict_typeIs I g
  unfold PyProof.Rows.subscriptTail
  refine wpAny_bind ?_
  rw [getitemInPython_of_ne hT.not_modules]
  refine wpAny_bind (wpAny_specialOf hT PySem.F.slot_dict_getitem.lookup ?_)
  have fin : wpAny (model X.prog X.w) X.A (subscripted slice false (.ref a) u) (fun r s₃ => wpAny (model X.prog X.w) X.A (letTemporaryGo value (.ref a) r >>= fun _ => pure r) (EP X pins σ Q) X.xe s₃) X.xe s := by
    rw [hs]
    exact wpAny_operating (wpAny_mono (d_getItem (A := X.A) (E := X.xe) (Q := EP X pins σ Q) hu I g ry fun w' s3 I3 rw' => ⟨z, H, I3, rw', q⟩) (fun r s₃ h₃ => wpAny_bind (wpAny_letTemporaryGo (wpAny_pure h₃))) fun _ _ x => x)
  first
    | exact wpAny_pure (wpAny_bind fin)
    | exact wpAny_bind (wpAny_pure (wpAny_bind fin))
    | exact wpAny_bind fin

/-! ### o[i] -/
def rIxP (K : PySem.W.Frag) (R : Rw) : R2 := fun x y H Q => ∃ (Z : Addr → Prop) (ρ : List Addr) (h : HP) (a b v : PV), Wd K R Z ρ h H ∧ RV K H ρ (Lz Z ρ h) a x ∧ RV K H ρ (Lz Z ρ h) b y ∧ subv h a b = some v ∧ ∀ v', RV K H ρ (Lz Z ρ h) v v' → Q v' H
theorem ixP_eq (n : Nat) (i : Int) : ixP n i = L2.ixN n i := rfl
theorem at_of_sub {K : PySem.W.Frag} {H : Hp} {ρ : List Addr} {L : Addr → Prop} {xs : List PV} {ys : List V} {j : Int} {v : PV} (r : RVs K H ρ L xs ys) (e : ((ixP xs.length j).bind fun k => xs[k]?) = some v) : ∃ u, atI ys j = some u ∧ RV K H ρ L v u := by
  cases e1 : ixP xs.length j with
  | none => rw [e1] at e; cases e
  | some k =>
    rw [e1] at e
    obtain ⟨u, h1, h2⟩ := r.get (i := k) e
    refine ⟨u, ?_, h2⟩
    unfold atI
    rw [← r.length, ← ixP_eq, e1]
    exact h1
section
variable {X : Cx} {R : Rw}
theorem ix_ok (hu : X.A.units + 1 < cLine) : IxR X (rIxP X.K R) := by
  intro value slice pins s σ H x y v u Q I rx ry ⟨Z, ρ, h, a, b, c, w, ra, rb, e, k⟩ hs
  have lst : ∀ {xs : List PV} {ys : List V} {p : Addr} {j : Int}, x = .ref p → y = .int j → SqL X.K H p ys → RVs X.K H ρ (Lz Z ρ h) xs ys → ((ixP xs.length j).bind fun k => xs[k]?) = some c →
      wpAny (model X.prog X.w) X.A (PyProof.Rows.subscriptTail value slice v u) (EP X pins σ Q) X.xe s := fun {xs ys p j} e1 e2 hq rs e => by
    obtain ⟨z, h1, h2⟩ := at_of_sub rs e
    exact ix_list value slice pins s σ H x y v u Q I rx ry ⟨p, ys, j, z, e1, e2, hq, h1, k _ h2⟩ hs
  cases ra with
  | @tup xs p ys hf rs =>
    cases b <;> simp only [subv] at e <;> try (cases e; done)
    cases rb
    obtain ⟨z, h1, h2⟩ := at_of_sub rs e
    exact ix_tup value slice pins s σ H _ _ v u Q I rx ry ⟨p, ys, _, z, rfl, rfl, hf.sq, h1, k _ h2⟩ hs
  | lst hf n rs =>
    cases b <;> simp only [subv] at e <;> try (cases e; done)
    cases rb
    exact lst rfl rfl (SqL.of hf) rs e
  | fls hf rs =>
    cases b <;> simp only [subv] at e <;> try (cases e; done)
    cases rb
    exact lst rfl rfl hf.sq rs e
  | @ref n p en =>
    simp only [subv] at e
    cases eh : h[n]? with
    | none => rw [eh] at e; cases e
    | some o =>
      rw [eh] at e
      cases o with
      | lst zs =>
        cases b <;> simp only at e <;> try (cases e; done)
        cases rb
        obtain ⟨ys, q, rs⟩ := w.ob n p _ en eh
        exact lst rfl rfl (SqL.of q) rs e
      | dct kvs =>
        simp only at e
        cases ek : dkOf b with
        | none => rw [ek] at e; cases e
        | some kk =>
          rw [ek] at e
          obtain ⟨ys, q, rs⟩ := w.ob n p _ en eh
          obtain ⟨z, h1, h2⟩ := (dget_ok kk rs).1 c e
          have ey := dkOf_ok rb ek
          refine ix_dict hu value slice pins s σ H _ y v u Q I rx ry ⟨p, z, rfl, ?_, k _ h2⟩ hs
          rw [ey, ← h1]
          exact DGet.k q
      | _ => cases e
  | _ => simp [subv] at e
end

/-! ### o[lo:hi] -/
def rSlP (K : PySem.W.Frag) (R : Rw) : V → Option Int → Option Int → Hp → VK → Prop := fun x lo hi H Q => ∃ (Z : Addr → Prop) (ρ : List Addr) (h : HP) (a v : PV), Wd K R Z ρ h H ∧ RV K H ρ (Lz Z ρ h) a x ∧ cutv h a lo hi = some v ∧
  ∀ H' v', Ext ρ h H ρ h H' → Wd K R Z ρ h H' → RV K H' ρ (Lz Z ρ h) v v' → Q v' H'
theorem bnd_eq (n d : Nat) (o : Option Int) : bndN n d o = HT.sIx n d o := by cases o <;> rfl
theorem cut_rel {K : PySem.W.Frag} {H : Hp} {ρ : List Addr} {L : Addr → Prop} {xs : List PV} {ys : List V} (r : RVs K H ρ L xs ys) (lo hi : Option Int) : RVs K H ρ L (cutL xs lo hi) (cutV ys lo hi) := by
  unfold cutL cutV
  rw [bnd_eq, bnd_eq, r.length]
  exact (r.drop _).take _
section
variable {X : Cx} {R : Rw}
theorem sl_ok : SlR X (rSlP X.K R) := by
  intro pins s σ H x v vl vu lo hi sl Q I rx hs pl pu ⟨Z, ρ, h, a, c, w, ra, e, k⟩
  have lst : ∀ {xs : List PV} {ys : List V} {p : Addr}, x = .ref p → SqL X.K H p ys → RVs X.K H ρ (Lz Z ρ h) xs ys → c = .lst (cutL xs lo hi) →
      ∃ T id, typeLookup (.type T) "__getitem__" = pure (some (.builtin id)) ∧ s.TypeIs v T ∧ wpAny (model X.prog X.w) X.A (getItem v (.ref sl)) (EP X pins σ Q) X.xe s := fun {xs ys p} ex hq rs ec => by
    subst ec
    exact sl_list pins s σ H x v vl vu lo hi sl Q I rx hs pl pu ⟨p, ys, ex, hq, new_lst w (cut_rel rs lo hi) k⟩
  cases ra with
  | @tup xs p ys hf rs =>
    simp only [cutv, Option.some.injEq] at e
    subst e
    refine sl_tupA pins s σ H _ v vl vu lo hi sl Q I rx hs pl pu ⟨p, ys, rfl, hf.sq, fun z => ?_, fun _ => new_tup w (cut_rel rs lo hi) k⟩
    have z2 : cutL xs lo hi = xs := by
      unfold cutL
      rw [bnd_eq, bnd_eq, rs.length, z.1, z.2, List.drop_zero, Nat.sub_zero, ← rs.length, List.take_length]
    rw [z2] at k
    exact k _ _ Ext.refl w (.tup hf rs)
  | lst hf n rs => exact lst rfl (SqL.of hf) rs (by simpa [cutv, asL] using e.symm)
  | fls hf rs => exact lst rfl hf.sq rs (by simpa [cutv, asL] using e.symm)
  | @ref n p en =>
    simp only [cutv, asL] at e
    cases eh : h[n]? with
    | none => rw [eh] at e; cases e
    | some o =>
      rw [eh] at e
      cases o with
      | lst zs =>
        obtain ⟨ys, q, rs⟩ := w.ob n p _ en eh
        exact lst rfl (SqL.of q) rs (by simpa using e.symm)
      | _ => cases e
  | _ => simp [cutv, asL] at e
end

/-! ### truth, len -/
theorem truth_ok {K : PySem.W.Frag} {R : Rw} {Z : Addr → Prop} {ρ : List Addr} {h : HP} {H : Hp} (w : Wd K R Z ρ h H) {a : PV} {x : V} {k : Bool} (r : RV K H ρ (Lz Z ρ h) a x) (e : truth h a = some k) : TruV K x H k := by
  have emp : ∀ {xs : List PV} {ys : List V}, RVs K H ρ (Lz Z ρ h) xs ys → (!xs.isEmpty) = !ys.isEmpty := fun r => by cases r <;> rfl
  cases r with
  | non => exact (show k = false by simpa [truth] using e.symm)
  | bl b => exact (show k = b by simpa [truth] using e.symm)
  | int i => exact (show k = (i != 0) by simpa [truth] using e.symm)
  | str s =>
    simp only [truth] at e
    split at e
    · rename_i hl
      cases e
      refine ⟨by rw [os_len, ← line_eq]; exact hl, ?_⟩
      rw [os_len]
      rw [Bool.eq_iff_iff]
      simp
    · cases e
  | tup hf rs => simp only [truth, Option.some.injEq] at e; exact .inr (.inl ⟨_, hf.sq, by rw [← e, emp rs]⟩)
  | lst hf n rs => simp only [truth, Option.some.injEq] at e; exact .inl ⟨_, SqL.of hf, by rw [← e, emp rs]⟩
  | fls hf rs => simp only [truth, Option.some.injEq] at e; exact .inl ⟨_, hf.sq, by rw [← e, emp rs]⟩
  | @ref n p en =>
    simp only [truth] at e
    cases eh : h[n]? with
    | none => rw [eh] at e; cases e
    | some o =>
      rw [eh] at e
      cases o with
      | lst zs =>
        simp only [Option.some.injEq] at e
        obtain ⟨ys, q, rs⟩ := w.ob n p _ en eh
        exact .inl ⟨_, SqL.of q, by rw [← e, emp rs]⟩
      | dct kvs =>
        simp only [Option.some.injEq] at e
        obtain ⟨ys, q, hk, rs⟩ := w.ob n p _ en eh
        refine .inr (.inr ⟨_, q, ?_⟩)
        rw [← e]
        cases kvs <;> cases ys <;> simp at hk ⊢
      | _ => cases e
theorem len_ok {K : PySem.W.Frag} {R : Rw} {Z : Addr → Prop} {ρ : List Addr} {h : HP} {H : Hp} (w : Wd K R Z ρ h H) {a : PV} {x : V} {k : Nat} (r : RV K H ρ (Lz Z ρ h) a x) (e : lenh h a = some k) : LenV K x H k := by
  cases r with
  | str s =>
    simp only [lenh] at e
    split at e
    · rename_i hl
      cases e
      exact ⟨by rw [os_len, ← line_eq]; exact hl, (os_len s).symm⟩
    · cases e
  | tup hf rs => simp only [lenh, Option.some.injEq] at e; exact .inr ⟨_, hf.sq, by rw [← e, rs.length]⟩
  | lst hf n rs => simp only [lenh, Option.some.injEq] at e; exact .inl ⟨_, SqL.of hf, by rw [← e, rs.length]⟩
  | fls hf rs => simp only [lenh, Option.some.injEq] at e; exact .inl ⟨_, hf.sq, by rw [← e, rs.length]⟩
  | @ref n p en =>
    simp only [lenh] at e
    cases eh : h[n]? with
    | none => rw [eh] at e; cases e
    | some o =>
      rw [eh] at e
      cases o with
      | lst zs =>
        simp only [Option.some.injEq] at e
        obtain ⟨ys, q, rs⟩ := w.ob n p _ en eh
        exact .inl ⟨_, SqL.of q, by rw [← e, rs.length]⟩
      | _ => cases e
  | _ => simp [lenh] at e

/-! ### built-ins by values -/
def rCall (K : PySem.W.Frag) (R : Rw) (f : Bl) : List V → Hp → VK → Prop := fun xs H Q => ∃ (Z : Addr → Prop) (ρ : List Addr) (h : HP) (vs : List PV) (v : PV), Wd K R Z ρ h H ∧ RVs K H ρ (Lz Z ρ h) vs xs ∧ bltv h f vs = some v ∧
  ∀ H' v', Ext ρ h H ρ h H' → Wd K R Z ρ h H' → RV K H' ρ (Lz Z ρ h) v v' → Q v' H'
section
variable {X : Cx} {R : Rw}
theorem blt_len : CallR X (.builtin "len") (rCall X.K R .len) := by
  intro pins s σ H xs us Q I r ⟨Z, ρ, h, vs, v, w, rs, e, k⟩
  cases rs with
  | nil => simp [bltv] at e
  | cons r1 r2 =>
    cases r2 with
    | cons _ _ => simp [bltv] at e
    | nil =>
      simp only [bltv, Option.map_eq_some_iff] at e
      obtain ⟨n, e, rfl⟩ := e
      exact call_len pins s σ H _ us Q I r ⟨_, n, rfl, len_ok w r1 e, k _ _ Ext.refl w (.int _)⟩
theorem blt_min (hc : X.calm = true) : CallR X (.builtin "min") (rCall X.K R .min) := by
  intro pins s σ H xs us Q I r ⟨Z, ρ, h, vs, v, w, rs, e, k⟩
  unfold bltv at e
  split at e <;> try (cases e; done)
  all_goals rename_i hb
  all_goals first | (cases hb; done) | skip
  cases e
  cases rs with
  | cons r1 r2 => cases r2 with
    | cons r3 r4 =>
      cases r1; cases r3; cases r4
      exact call_min2 hc pins s σ H _ us Q I r ⟨_, _, rfl, k _ _ Ext.refl w (.int _)⟩
theorem blt_max (hc : X.calm = true) : CallR X (.builtin "max") (rCall X.K R .max) := by
  intro pins s σ H xs us Q I r ⟨Z, ρ, h, vs, v, w, rs, e, k⟩
  unfold bltv at e
  split at e <;> try (cases e; done)
  all_goals rename_i hb
  all_goals first | (cases hb; done) | skip
  cases e
  cases rs with
  | cons r1 r2 => cases r2 with
    | cons r3 r4 =>
      cases r1; cases r3; cases r4
      exact call_max2 hc pins s σ H _ us Q I r ⟨_, _, rfl, k _ _ Ext.refl w (.int _)⟩
theorem blt_int : CallR X (.type "int") (rCall X.K R .int) := by
  intro pins s σ H xs us Q I r ⟨Z, ρ, h, vs, v, w, rs, e, k⟩
  unfold bltv at e
  split at e <;> try (cases e; done)
  all_goals rename_i hb
  all_goals first | (cases hb; done) | skip
  · cases e
    cases rs with
    | cons r1 r2 =>
      cases r1; cases r2
      exact call_int1 pins s σ H _ us Q I r (.inl ⟨_, rfl, k _ _ Ext.refl w (.int _)⟩)
  · cases e
    cases rs with
    | cons r1 r2 =>
      cases r1; cases r2
      exact call_int1 pins s σ H _ us Q I r (.inr ⟨_, rfl, k _ _ Ext.refl w (.int _)⟩)
theorem blt_list : CallR X (.type "list") (rCall X.K R .list) := by
  intro pins s σ H xs us Q I r ⟨Z, ρ, h, vs, v, w, rs, e, k⟩
  cases rs with
  | nil => simp [bltv] at e
  | cons r1 r2 =>
    cases r2 with
    | cons _ _ => simp [bltv] at e
    | nil =>
      simp only [bltv, Option.map_eq_some_iff] at e
      obtain ⟨n, e, rfl⟩ := e
      obtain ⟨a, ys, rfl, hq, rs⟩ := asS_ok w r1 e
      exact call_list_of pins s σ H _ us Q I r ⟨a, ys, rfl, hq, new_lst w rs k⟩
theorem blt_tuple : CallR X (.type "tuple") (rCall X.K R .tuple) := by
  intro pins s σ H xs us Q I r ⟨Z, ρ, h, vs, v, w, rs, e, k⟩
  cases rs with
  | nil => simp [bltv] at e
  | cons r1 r2 =>
    cases r2 with
    | cons _ _ => simp [bltv] at e
    | nil =>
      simp only [bltv, Option.map_eq_some_iff] at e
      obtain ⟨n, e, rfl⟩ := e
      cases r1 with
      | tup hf rs =>
        simp only [asS, Option.some.injEq] at e
        subst e
        exact call_tuple_of pins s σ H _ us Q I r ⟨_, _, rfl, .inr ⟨hf.sq, k _ _ Ext.refl w (.tup hf rs)⟩⟩
      | lst hf nl rs =>
        obtain ⟨a, ys, q1, q2, q3⟩ := asL_ok w (.lst hf nl rs) (by simpa [asS] using e)
        cases q1
        exact call_tuple_of pins s σ H _ us Q I r ⟨_, _, rfl, .inl ⟨q2, new_tup w q3 k⟩⟩
      | fls hf rs =>
        obtain ⟨a, ys, q1, q2, q3⟩ := asL_ok w (.fls hf rs) (by simpa [asS] using e)
        cases q1
        exact call_tuple_of pins s σ H _ us Q I r ⟨_, _, rfl, .inl ⟨q2, new_tup w q3 k⟩⟩
      | ref en =>
        obtain ⟨a, ys, q1, q2, q3⟩ := asL_ok w (.ref en) (by simpa [asS] using e)
        cases q1
        exact call_tuple_of pins s σ H _ us Q I r ⟨_, _, rfl, .inl ⟨q2, new_tup w q3 k⟩⟩
      | _ => simp [asS, asL] at e
end
end LW
/-! LwD: promises of defs, contexts, expressions. -/
namespace LW
open PySem L2

/-! ### below, trim -/
mutual
theorem RV.bel {K : PySem.W.Frag} {H : Hp} {ρ : List Addr} {L : Addr → Prop} : ∀ {p : PV} {v : V}, RV K H ρ L p v → below ρ.length p = true
  | .non, _, _ => rfl
  | .bl _, _, _ => rfl
  | .int _, _, _ => rfl
  | .str _, _, _ => rfl
  | .ref _, _, r => by cases r with | ref e => exact decide_eq_true (List.getElem?_eq_some_iff.mp e).1
  | .tup _, _, r => by cases r with | tup _ t => exact RVs.bels t
  | .lst _, _, r => by cases r with | lst _ _ t => exact RVs.bels t
  | .fls _, _, r => by cases r with | fls _ t => exact RVs.bels t
theorem RVs.bels {K : PySem.W.Frag} {H : Hp} {ρ : List Addr} {L : Addr → Prop} : ∀ {p : List PV} {v : List V}, RVs K H ρ L p v → belows ρ.length p = true
  | [], _, _ => rfl
  | _ :: _, _, r => by cases r with | cons a t => simp [LW.belows, RV.bel a, RVs.bels t]
end
mutual
theorem RV.restrict {K : PySem.W.Frag} {H : Hp} {ρ ρ' : List Addr} {L L' : Addr → Prop} (hp : ρ <+: ρ') (hL : ∀ a, L a → L' a) : ∀ {p : PV} {v : V}, RV K H ρ' L' p v → below ρ.length p = true → RV K H ρ L p v
  | .non, _, r, _ => by cases r; exact .non
  | .bl _, _, r, _ => by cases r; exact .bl _
  | .int _, _, r, _ => by cases r; exact .int _
  | .str _, _, r, _ => by cases r; exact .str _
  | .ref n, _, r, b => by
    cases r with
    | ref e =>
      have hn : n < ρ.length := of_decide_eq_true b
      obtain ⟨t, rfl⟩ := hp
      rw [List.getElem?_append_left hn] at e
      exact .ref e
  | .tup _, _, r, b => by
    cases r with
    | tup e t =>
      refine .tup ?_ (RVs.restrict hp hL t b)
      rcases e with ⟨e, n⟩ | e
      · exact .inl ⟨e, fun l => n (hL _ l)⟩
      · exact .inr e
  | .lst _, _, r, b => by cases r with | lst e n t => exact .lst e (fun l => n (hL _ l)) (RVs.restrict hp hL t b)
  | .fls _, _, r, b => by 
    cases r with
    | fls e t =>
      refine .fls ?_ (RVs.restrict hp hL t b)
      rcases e with ⟨o, e, n⟩ | e
      · exact .inl ⟨o, e, fun l => n (hL _ l)⟩
      · exact .inr e
theorem RVs.restrict {K : PySem.W.Frag} {H : Hp} {ρ ρ' : List Addr} {L L' : Addr → Prop} (hp : ρ <+: ρ') (hL : ∀ a, L a → L' a) : ∀ {p : List PV} {v : List V}, RVs K H ρ' L' p v → belows ρ.length p = true → RVs K H ρ L p v
  | [], _, r, _ => by cases r; exact .nil
  | _ :: _, _, r, b => by
    cases r with
    | cons a t =>
      simp only [LW.belows, Bool.and_eq_true] at b
      exact .cons (RV.restrict hp hL a b.1) (RVs.restrict hp hL t b.2)
end
section
variable {K : PySem.W.Frag} {R : Rw} {Z : Addr → Prop} {ρ ρ' : List Addr} {h h' : HP} {H H' : Hp}
theorem live_take (hp : ρ <+: ρ') (ht : h'.take h.length = h) {a : Addr} (l : Live ρ h a) : Live ρ' h' a := by
  obtain ⟨n, o, e1, e2, nd⟩ := l
  refine ⟨n, o, pre_get hp e1, ?_, nd⟩
  have hn := (List.getElem?_eq_some_iff.mp e2).1
  rw [← ht, List.getElem?_take_of_lt hn] at e2
  exact e2
/-- new objects are forgotten -/
theorem trim_wd (w : Wd K R Z ρ h H) (w' : Wd K R Z ρ' h' H') (x : Ext ρ h H ρ' h' H') (ht : h'.take h.length = h) : Wd K R Z ρ h H' := by
  refine ⟨w.len, w.nd, fun a z => ⟨(w'.zs a z).1, (w.zs a z).2⟩, fun n a o e1 e2 => ?_⟩
  have hn := (List.getElem?_eq_some_iff.mp e2).1
  have e3 : h'[n]? = some o := by
    have e4 := e2
    rw [← ht, List.getElem?_take_of_lt hn] at e4
    exact e4
  have r := w.ob n a o e1 e2
  have r' := w'.ob n a o (pre_get x.pre e1) e3
  have hL : ∀ a, Lz Z ρ h a → Lz Z ρ' h' a := fun a l => l.imp (fun l => live_take x.pre ht l) id
  cases o with
  | lst xs => obtain ⟨ys, q, t⟩ := r'; obtain ⟨zs, _, t0⟩ := r; exact ⟨ys, q, t.restrict x.pre hL t0.bels⟩
  | dct kvs => obtain ⟨ys, q, k, t⟩ := r'; obtain ⟨zs, _, _, t0⟩ := r; exact ⟨ys, q, k, t.restrict x.pre hL t0.bels⟩
  | ins C fs => obtain ⟨c, dx, ys, q, k, t⟩ := r'; obtain ⟨_, _, zs, _, _, t0⟩ := r; exact ⟨c, dx, ys, q, k, t.restrict x.pre hL t0.bels⟩
  | dead => exact r'
theorem trim_ext (x : Ext ρ h H ρ' h' H') : Ext ρ h H ρ h H' := ⟨List.prefix_refl _, x.frame, fun _ l => .inl l, fun _ m => .inl m⟩
end

/-! ### what the row tells -/
structure Fc (K : PySem.W.Frag) (mg : Str → Option Value) (T : Tb) (R : Rw) (fA : String → Addr) : Prop where
  glob : ∀ (y : Str) (v : PV), R.globs.lookup y = some v → ∃ u x, mg y = some u ∧ RelV x u ∧ ∀ H ρ L, RV K H ρ L v x
  blt : ∀ x ∈ R.blts, mg (os x) = none
  top : ∀ f ∈ R.tops, mg (os f) = some (.ref (fA f))
  cls : ∀ C ∈ R.clss, Cls K (cAd K C) ∧ mg (os C) = some (.ref (cAd K C))
  mkC : ∀ C ∈ R.clss, ∀ f, T.mr C "__init__" = some f → Mk K (cAd K C) (fA f)
  meth : ∀ (C m : String), (C, m) ∈ R.meths → ∀ f, T.mr C m = some f → Meth K (cAd K C) (os m) (fA f)
  fld : ∀ (C f : String), (C, f) ∈ R.flds → NoAttr K (cAd K C) (os f)
  exc : ∀ c ∈ R.excs, mg (os c) = some (.ref (cAd K c)) ∧ PySem.W.excIn K (cAd K c) He.veBase "ValueError.__new__" = true ∧ PySem.W.keepIn K (.ref (cAd K c)) = true ∧ PySem.W.subIn K (.ref (cAd K c)) (.type "BaseException") = some true ∧ PySem.W.typeIn K (.ref (cAd K c)) = some (.type "type")
  excT : ∀ c, T.exc c = true → c ∈ R.excs
  exm : ∀ c ∈ R.excs, ∀ x ∈ R.excs, PySem.W.exmOne K (.ref (cAd K c)) (.ref (cAd K x)) = some (T.sub c x)
  tyI : ∀ C ∈ R.clss, PySem.W.findIn K (.ref (cAd K C)) "__class__" = some (some (.builtin "object.__class__")) ∧ PySem.W.specialIn K (.builtin "object.__class__") "__get__" = some (some (.builtin "getset_descriptor.__get__")) ∧
    PySem.W.takesIn K (.builtin "object.__class__") = some true ∧ PySem.W.mroIn K (cAd K C) (.type "object") = some true
  isO : ∀ C ∈ R.clss, ∀ D ∈ R.clss, PySem.W.kitOne K (.ref (cAd K C)) (.ref (cAd K D)) = some (T.sub C D)
  isB : ∀ C ∈ R.clss, ∀ n ∈ ["NoneType", "bool", "int", "str", "list", "tuple", "dict"], PySem.W.kitOne K (.type n) (.ref (cAd K C)) = some false
  isT : ∀ C ∈ R.clss, ∀ n ∈ ["bool", "int", "str", "list", "tuple", "dict"], PySem.W.kitOne K (.ref (cAd K C)) (.type n) = some false ∧ T.sub C n = false

/-! ### promises -/
def spF (T : Tb) (K : PySem.W.Frag) (R : Rw) (d : Nat) (f : String) : Sp := fun vs H Q E =>
  (∃ D, T.fn f = some D ∧ vs.length = D.params.length) ∧ ∃ (Z : Addr → Prop) (ρ : List Addr) (h : HP) (as : List PV), Wd K R Z ρ h H ∧ RVs K H ρ (Lz Z ρ h) as vs ∧ Po K R Z (RV K) ρ h H (fn T d f as h) Q E
/-- all defs of the row keep their promise, at a depth -/
def Fo (P : Program) (w : World) (K : PySem.W.Frag) (mg : Str → Option Value) (base : Heap) (T : Tb) (R : Rw) (fA : String → Addr) (d : Nat) : Prop :=
  ∀ f ∈ R.fns, ∃ (D : Def) (fd : FuncData), T.fn f = some D ∧ FnOk P w K mg base (L2.CX P w) (2 * d) (fA f) fd (D.params.map os) (spF T K R d f) ∧ Binds K fd (D.params.map os) [] ∧ PySem.W.keepIn K (.ref (fA f)) = true

/-! ### contexts -/
structure CxE (T : Tb) (R : Rw) (fA : String → Addr) (X : Cx) (d : Nat) (W : WX) (blk : Bool) : Prop where
  fc : Fc X.K X.mg T R fA
  fo : Fo X.prog X.w X.K X.mg X.base T R fA d
  nd : X.N.Nodup
  calm : X.calm = true
  room : Room (2 * d + 1) X.A
  tk : Takes X W
  fn : blk = false → ∀ x, X.fn x = true

/-- the slots -/
structure Rs (K : PySem.W.Frag) (R : Rw) (Z : Addr → Prop) (ρ : List Addr) (h : HP) (H : Hp) (σ' : Sg) (σ : St) : Prop where
  wd : Wd K R Z ρ h H
  rs : RS K H ρ (Lz Z ρ h) σ' σ
  len : σ'.length = σ.length
theorem Rs.go {K : PySem.W.Frag} {R : Rw} {Z : Addr → Prop} {ρ ρ' : List Addr} {h h' : HP} {H H' : Hp} {σ' : Sg} {σ : St} (r : Rs K R Z ρ h H σ' σ) (x : Ext ρ h H ρ' h' H') (w : Wd K R Z ρ' h' H') : Rs K R Z ρ' h' H' σ' σ := ⟨w, r.rs.mono x, r.len⟩
abbrev RB : Hp → List Addr → (Addr → Prop) → PV → Bool → Prop := fun _ _ _ a b => a = .bl b

section
variable (T : Tb) (R : Rw) (cf : CF) (W : WX) (K : PySem.W.Frag)
/-- the reading of an expression; of a test; of arguments -/
def tv (e : E) : TE := fun σ H Q => ∃ (Z : Addr → Prop) (ρ : List Addr) (σ' : Sg) (h : HP), Rs K R Z ρ h H σ' σ ∧ Po K R Z (RV K) ρ h H (ev T cf false e σ' h) Q (fun c d H' => W c d σ H')
def tt (e : E) : TT := fun σ H Q => ∃ (Z : Addr → Prop) (ρ : List Addr) (σ' : Sg) (h : HP), Rs K R Z ρ h H σ' σ ∧ Po K R Z RB ρ h H (ev T cf true e σ' h) Q (fun c d H' => W c d σ H')
def ta (es : List E) : TA := fun σ H Q => ∃ (Z : Addr → Prop) (ρ : List Addr) (σ' : Sg) (h : HP), Rs K R Z ρ h H σ' σ ∧ Po K R Z (RVs K) ρ h H (evs T cf es σ' h) Q (fun c d H' => W c d σ H')
end
theorem PE.imp {X : Cx} {e : Expr} {t t' : TE} (h : PE X e t) (f : ∀ σ H Q, t' σ H Q → t σ H Q) : PE X e t' := ⟨fun pins s σ H Q I q => h.run pins s σ H Q I (f σ H Q q)⟩
theorem PT.imp {X : Cx} {e : Expr} {t t' : TT} (h : PT X e t) (f : ∀ σ H Q, t' σ H Q → t σ H Q) : PT X e t' := ⟨fun pins s σ H Q I q => h.run pins s σ H Q I (f σ H Q q)⟩
theorem PW.imp {X : Cx} {e : Expr} {t t' : TT} (h : PW X e t) (f : ∀ σ H Q, t' σ H Q → t σ H Q) : PW X e t' := ⟨fun wh pins s σ H Q I q => h.run wh pins s σ H Q I (f σ H Q q)⟩
theorem PA.imp {X : Cx} {e : List Expr} {t t' : TA} (h : PA X e t) (f : ∀ σ H Q, t' σ H Q → t σ H Q) : PA X e t' := ⟨fun pos pins s σ H Q I q => h.run pos pins s σ H Q I (f σ H Q q)⟩

/-! ### names by kinds -/
def visB (sc : Scope) (x : Str) : Bool := match sc.names.lookup x with
  | some .local => true
  | some .cell => true
  | some .free => true
  | _ => false
theorem visB_ok {sc : Scope} {x : Str} (h : visB sc x = true) : Vis sc x := by
  unfold visB at h
  split at h
  · rename_i e; exact .inl e
  · rename_i e; exact .inr (.inl e)
  · rename_i e; exact .inr (.inr e)
  · cases h
def okN (x : Str) : Bool := !(x == os "__debug__") && !(x == os "__classdict__") && !(x == os "__name__")
theorem okN_ok {x : Str} (h : okN x = true) : (x == os "__debug__") = false ∧ (x == os "__classdict__") = false ∧ x ≠ os "__name__" := by
  unfold okN at h
  simp only [Bool.and_eq_true, Bool.not_eq_true'] at h
  exact ⟨h.1.1, h.1.2, fun e => by rw [e] at h; simp at h⟩
def glB (sc : Scope) (x : Str) : Bool := sc.names.lookup x == some .globalImplicit
theorem glB_ok {X : Cx} {x : Str} (h : glB X.env.scope x = true) : Gl X x := eq_of_beq h
def litB : PV → Const → Bool
  | .non, .none => true
  | .bl b, .bool c => b == c
  | .int i, .int j => decide (i = j)
  | .str s, .str z => decide (os s = z)
  | _, _ => false

/-! ### expressions, one lemma a construct -/
def noStar : Expr → Bool
  | .Starred _ _ => false
  | _ => true
theorem starEach_cons {e : Expr} {es : List Expr} {env : Env} (h : noStar e = true) : starEach (e :: es) env = (false, eval e env) :: starEach es env := by
  cases e <;> first | rfl | (simp [noStar] at h)
theorem starEach_all {env : Env} : ∀ {es : List Expr}, es.all noStar = true → ∀ pos, (backTo pos (starEach es env)).any (·.1) = false ∧ (backTo pos (starEach es env)).all (fun x => !x.1) = true
  | [], _, _ => ⟨rfl, rfl⟩
  | e :: es, h, pos => by
    simp only [List.all_cons, Bool.and_eq_true] at h
    rw [starEach_cons h.1]
    obtain ⟨h1, h2⟩ := starEach_all (env := env) (es := es) h.2 pos
    exact ⟨h1, h2⟩
def attrOk : Expr → Bool
  | .Call (.Name id _) [] [] _ => id != os "super"
  | _ => true
theorem attrOk_ok {o : Expr} {f : Str} {env : Env} {whole : Sem Value} (h : attrOk o = true) : attributeBase o f env whole = whole := by
  unfold attributeBase
  split
  · simp only [attrOk] at h
    rename_i id p pos
    have h2 : (id != os "super" || f == os "__class__" || env.kindOf (os "super") != some .globalImplicit || env.kindOf (os "__class__") != some .free) = true := by rw [h]; rfl
    rw [if_pos h2]
  · rfl
/-- o.m(..): what is evaluated -/
theorem meth_eq {o : Expr} {m : Str} {apos pos : Pos} {args : List Expr} {env : Env} (hb : attrOk o = true) (hs : args.all noStar = true) (hn : args.length < 30) (hl : (apos.endLine == pos.line) = true) :
    eval (.Call (.Attribute o m apos) args [] pos) env = (do
      let ov ← eval o env
      standAt apos.atName
      let (f, first) ← holding [ov] (getMethod ov m (do return (← importBound o env).getD true))
      callWith pos f first (backTo pos (starEach args env)) (backToKw pos (keywordEach [] env))) := by
  have e : eval (.Call (.Attribute o m apos) args [] pos) env = (do
      let ov ← attributeBase o m env (eval o env)
      standAt apos.atName
      methodCall o m apos pos env ov (args.length + ([] : List Keyword).length) (backTo pos (starEach args env)) (backToKw pos (keywordEach [] env))) := by
    simp only [eval]
  rw [e, attrOk_ok hb]
  have hf : methodCallForm (args.length + ([] : List Keyword).length) (backTo pos (starEach args env)) (backToKw pos (keywordEach [] env)) = true := by
    unfold methodCallForm
    rw [(starEach_all hs pos).2]
    simp [keywordEach, backToKw, hn]
  unfold methodCall
  rw [hf]
  unfold calleeOf methodCallPos
  simp only [if_true, Bool.not_true, Bool.false_or, hl]
  rfl

theorem evs_len {T : Tb} {cf : CF} : ∀ {es : List E} {σ : Sg} {h : HP} {vs : List PV} {h' : HP}, evs T cf es σ h = .ok vs h' → vs.length = es.length
  | [], _, _, _, _, e => by simp only [evs] at e; cases e; rfl
  | e1 :: es, σ, h, vs, h', e => by
    simp only [evs] at e
    cases e2 : ev T cf false e1 σ h with
    | ok v h1 =>
      rw [e2] at e
      simp only [LW.R.bind_ok] at e
      cases e3 : evs T cf es σ h1 with
      | ok ws h2 =>
        rw [e3] at e
        simp only [LW.R.bind_ok] at e
        cases e
        simp [evs_len e3]
      | exc c h2 => rw [e3] at e; cases e
      | bad => rw [e3] at e; cases e
    | exc c h2 => rw [e2] at e; cases e
    | bad => rw [e2] at e; cases e
theorem new_ref {K : PySem.W.Frag} {R : Rw} {Z : Addr → Prop} {ρ : List Addr} {h : HP} {H : Hp} {xs : List PV} {ys : List V} {Q : VK} (w : Wd K R Z ρ h H) (rs : RVs K H ρ (Lz Z ρ h) xs ys)
    (k : ∀ ρ' H' v', Ext ρ h H ρ' (h ++ [.lst xs]) H' → Wd K R Z ρ' (h ++ [.lst xs]) H' → RV K H' ρ' (Lz Z ρ' (h ++ [.lst xs])) (.ref h.length) v' → Q v' H') : ∀ p, H p = none → Q (.ref p) (upd H p (.lst ys)) := fun p e => by
  have x : Ext ρ h H (ρ ++ [p]) (h ++ [MO.lst xs]) (upd H p (.lst ys)) := Ext.push w e
  refine k (ρ ++ [p]) _ _ x (w.push e ⟨ys, upd_same, rs.mono x⟩) (.ref ?_)
  rw [List.getElem?_append_right (by rw [w.len]; exact Nat.le_refl _), w.len]
  simp
theorem fget_ok {K : PySem.W.Frag} {H : Hp} {ρ : List Addr} {L : Addr → Prop} {f : String} {v : PV} : ∀ {fs : List (String × PV)} {ys : List (Str × V)}, RFs K H ρ L fs ys → fgetv fs f = some v → ∃ u, ys.lookup (os f) = some u ∧ RV K H ρ L v u
  | [], _, _, e => by simp [fgetv] at e
  | (g, x) :: fs, [], r, e => by obtain ⟨h1, _⟩ := r; simp at h1
  | (g, x) :: fs, (y, u) :: ys, r, e => by
    obtain ⟨h1, h2⟩ := r
    simp only [List.map_cons, List.cons.injEq] at h1
    simp only [List.map_cons] at h2
    cases h2 with
    | cons r1 r2 =>
      unfold fgetv at e
      split at e
      · rename_i q
        cases e
        subst q
        refine ⟨u, ?_, r1⟩
        rw [List.lookup_cons, ← h1.1]
        simp
      · rename_i q
        obtain ⟨z, e1, e2⟩ := fget_ok (fs := fs) (ys := ys) ⟨h1.2, r2⟩ e
        refine ⟨z, ?_, e2⟩
        have : (os f == y) = false := by
          rw [← h1.1]
          exact beq_eq_false_iff_ne.mpr fun z => q (os_inj z).symm
        rw [List.lookup_cons, this]
        exact e1
theorem fnone_ok {K : PySem.W.Frag} {H : Hp} {ρ : List Addr} {L : Addr → Prop} {f : String} : ∀ {fs : List (String × PV)} {ys : List (Str × V)}, RFs K H ρ L fs ys → fgetv fs f = none → ys.lookup (os f) = none
  | [], [], _, _ => rfl
  | [], _ :: _, r, _ => by obtain ⟨h1, _⟩ := r; simp at h1
  | (g, x) :: fs, [], r, e => by obtain ⟨h1, _⟩ := r; simp at h1
  | (g, x) :: fs, (y, u) :: ys, r, e => by
    obtain ⟨h1, h2⟩ := r
    simp only [List.map_cons, List.cons.injEq] at h1
    simp only [List.map_cons] at h2
    cases h2 with
    | cons r1 r2 =>
      unfold fgetv at e
      split at e
      · cases e
      · rename_i q
        have : (os f == y) = false := by
          rw [← h1.1]
          exact beq_eq_false_iff_ne.mpr fun z => q (os_inj z).symm
        rw [List.lookup_cons, this]
        exact fnone_ok (fs := fs) (ys := ys) ⟨h1.2, r2⟩ e
section
variable {T : Tb} {R : Rw} {fA : String → Addr} {X : Cx} {d : Nat} {W : WX} {blk : Bool}
theorem s_var {i : Nat} {x : String} {y : Str} {pos : Pos} (hN : X.N[i]? = some y) (hv : visB X.env.scope y = true) (ho : okN y = true) : PE X (.Name y pos) (tv T R (fn T d) W X.K (.var i x)) := by
  obtain ⟨h1, h2, _⟩ := okN_ok ho
  refine PE.imp (pe_var hN (visB_ok hv) h1 h2) fun σ H Q ⟨Z, ρ, σ', h, r, p⟩ => ?_
  simp only [ev] at p
  cases e : σ'[i]? with
  | none => rw [e] at p; exact p.elim
  | some o =>
    cases o with
    | none => rw [e] at p; exact p.elim
    | some v =>
      rw [e] at p
      obtain ⟨u, e1, e2⟩ := r.rs i v e
      exact ⟨u, e1, p ρ H u Ext.refl r.wd e2⟩
theorem s_lit {v : PV} {c : Const} {j : Nat} {pos : Pos} (h : litB v c = true) : PE X (.Constant c j pos) (tv T R (fn T d) W X.K (.lit v)) := by
  have fin : ∀ {u : V}, PE X (.Constant c j pos) (tC u) → (∀ H ρ L, RV X.K H ρ L v u) → PE X (.Constant c j pos) (tv T R (fn T d) W X.K (.lit v)) := fun h1 h2 => PE.imp h1 fun σ H Q ⟨Z, ρ, σ', h, r, p⟩ => p ρ H _ Ext.refl r.wd (h2 _ _ _)
  unfold litB at h
  split at h
  · exact fin pe_non fun _ _ _ => .non
  · have e := eq_of_beq h
    subst e
    exact fin pe_bl fun _ _ _ => .bl _
  · have e := of_decide_eq_true h
    subst e
    exact fin pe_int fun _ _ _ => .int _
  · have e := of_decide_eq_true h
    subst e
    exact fin pe_str fun _ _ _ => .str _
  · cases h
theorem s_glob (C : CxE T R fA X d W blk) {x : String} {y : Str} {pos : Pos} {v : PV} (hg : glB X.env.scope y = true) (hl : R.globs.lookup y = some v) (hx : T.gl x = some v) (ho : okN y = true) : PE X (.Name y pos) (tv T R (fn T d) W X.K (.glob x)) := by
  obtain ⟨u, z, h1, h2, h3⟩ := C.fc.glob y v hl
  refine PE.imp (pe_glob (glB_ok hg) h1 h2 (okN_ok ho).1) fun σ H Q ⟨Z, ρ, σ', h, r, p⟩ => ?_
  simp only [ev, hx, LW.R.of_some, LW.R.bind_ok] at p
  exact p ρ H _ Ext.refl r.wd (h3 _ _ _)
variable {a b c : E} {l r m : Expr} {pos : Pos}
theorem s_bin {op : Op} (ha : PE X l (tv T R (fn T d) W X.K a)) (hb : PE X r (tv T R (fn T d) W X.K b)) : PE X (.BinOp l (opM op) r pos) (tv T R (fn T d) W X.K (.bin op a b)) := by
  refine PE.imp (pe_op (op_ok (R := R) op) ha hb) fun σ H Q ⟨Z, ρ, σ', h, rs, p⟩ => ⟨Z, ρ, σ', h, rs, ?_⟩
  simp only [ev] at p
  refine p.step fun x h1 ρ1 H1 x' _ e1 w1 r1 p1 => ⟨Z, ρ1, σ', h1, rs.go e1 w1, ?_⟩
  refine p1.step fun y h2 ρ2 H2 y' _ e2 w2 r2 p2 => ?_
  cases eo : opv h2 op x y with
  | none => rw [eo] at p2; exact p2.elim
  | some v =>
    rw [eo] at p2
    exact ⟨Z, ρ2, h2, x, y, v, w2, r1.mono e2, r2, eo, fun H' v' e3 w3 r3 => p2 ρ2 H' v' e3 w3 r3⟩
theorem s_neg (ha : PE X l (tv T R (fn T d) W X.K a)) : PE X (.UnaryOp .USub l pos) (tv T R (fn T d) W X.K (.neg a)) := by
  refine PE.imp (pe_un un_neg ha) fun σ H Q ⟨Z, ρ, σ', h, rs, p⟩ => ⟨Z, ρ, σ', h, rs, ?_⟩
  simp only [ev] at p
  refine p.step fun x h1 ρ1 H1 x' _ e1 w1 r1 p1 => ?_
  cases r1 with
  | int i => exact ⟨i, rfl, p1 ρ1 H1 _ Ext.refl w1 (.int _)⟩
  | _ => exact p1.elim
/-! tests -/
theorem s_truth (ha : PE X l (tv T R (fn T d) W X.K a)) (he : ∀ whole, isTrue l X.env whole = (do let v ← whole; standAt l.pos; holding [v] (truthy v)))
    (hev : ∀ σ h, ev T (fn T d) true a σ h = (ev T (fn T d) false a σ h).bind (tr true)) : PT X l (tt T R (fn T d) W X.K a) := by
  refine PT.imp (pt_truth ha he) fun σ H Q ⟨Z, ρ, σ', h, rs, p⟩ => ⟨Z, ρ, σ', h, rs, ?_⟩
  rw [hev] at p
  refine p.step fun x h1 ρ1 H1 x' _ e1 w1 r1 p1 => ?_
  simp only [tr] at p1
  cases et : truth h1 x with
  | none => rw [et] at p1; exact p1.elim
  | some k =>
    rw [et] at p1
    exact ⟨k, truth_ok w1 r1 et, p1 ρ1 H1 k Ext.refl w1 rfl⟩
theorem s_notT (ha : PT X l (tt T R (fn T d) W X.K a)) : PT X (.UnaryOp .Not l pos) (tt T R (fn T d) W X.K (.not a)) := by
  refine PT.imp (pt_not ha) fun σ H Q ⟨Z, ρ, σ', h, rs, p⟩ => ⟨Z, ρ, σ', h, rs, ?_⟩
  simp only [ev] at p
  refine p.step fun x h1 ρ1 H1 x' _ e1 w1 r1 p1 => ?_
  cases r1
  exact p1 ρ1 H1 _ Ext.refl w1 rfl
theorem s_cmp (C : CxE T R fA X d W blk) {op : Cmp} (ha : PE X l (tv T R (fn T d) W X.K a)) (hb : PE X r (tv T R (fn T d) W X.K b)) (hm : behindInMarks (cmpM op) r = false) :
    PE X (.Compare l [cmpM op] [r] pos) (tv T R (fn T d) W X.K (.cmp op a b)) ∧ PT X (.Compare l [cmpM op] [r] pos) (tt T R (fn T d) W X.K (.cmp op a b)) := by
  have hu : X.A.units + 65 < cLine := by have := C.room.un; omega
  constructor
  · refine PE.imp (pe_cmpR (cmp_ok (R := R) hu op) ha hb hm) fun σ H Q ⟨Z, ρ, σ', h, rs, p⟩ => ⟨Z, ρ, σ', h, rs, ?_⟩
    simp only [ev] at p
    refine p.step fun x h1 ρ1 H1 x' _ e1 w1 r1 p1 => ⟨Z, ρ1, σ', h1, rs.go e1 w1, ?_⟩
    refine p1.step fun y h2 ρ2 H2 y' _ e2 w2 r2 p2 => ?_
    cases eo : cmpv h2 op x y with
    | none => rw [eo] at p2; exact p2.elim
    | some k =>
      rw [eo] at p2
      exact ⟨Z, ρ2, h2, x, y, k, w2, r1.mono e2, r2, eo, p2 ρ2 H2 _ Ext.refl w2 (.bl _)⟩
  · refine PT.imp (pt_cmpR (cmp_ok (R := R) hu op) ha hb hm) fun σ H Q ⟨Z, ρ, σ', h, rs, p⟩ => ⟨Z, ρ, σ', h, rs, ?_⟩
    simp only [ev] at p
    refine p.step fun x h1 ρ1 H1 x' _ e1 w1 r1 p1 => ⟨Z, ρ1, σ', h1, rs.go e1 w1, ?_⟩
    refine p1.step fun y h2 ρ2 H2 y' _ e2 w2 r2 p2 => ?_
    cases eo : cmpv h2 op x y with
    | none => rw [eo] at p2; exact p2.elim
    | some k =>
      rw [eo] at p2
      exact ⟨Z, ρ2, h2, x, y, k, w2, r1.mono e2, r2, eo, k, rfl, p2 ρ2 H2 _ Ext.refl w2 rfl⟩
theorem s_chain (C : CxE T R fA X d W blk) {op op' : Cmp} (ha : PE X l (tv T R (fn T d) W X.K a)) (hb : PE X m (tv T R (fn T d) W X.K b)) (hc : PE X r (tv T R (fn T d) W X.K c)) (hm : lastMarks [cmpM op, cmpM op'] [m, r] = false) :
    PE X (.Compare l [cmpM op, cmpM op'] [m, r] pos) (tv T R (fn T d) W X.K (.chain op op' a b c)) ∧ PT X (.Compare l [cmpM op, cmpM op'] [m, r] pos) (tt T R (fn T d) W X.K (.chain op op' a b c)) := by
  have hu : X.A.units + 65 < cLine := by have := C.room.un; omega
  constructor
  · refine PE.imp (pe_chain (cmp_ok (R := R) hu op) (cmp_ok (R := R) hu op') ha hb hc hm) fun σ H Q ⟨Z, ρ, σ', h, rs, p⟩ => ⟨Z, ρ, σ', h, rs, ?_⟩
    simp only [ev] at p
    refine p.step fun x h1 ρ1 H1 x' _ e1 w1 r1 p1 => ⟨Z, ρ1, σ', h1, rs.go e1 w1, ?_⟩
    refine p1.step fun y h2 ρ2 H2 y' _ e2 w2 r2 p2 => ?_
    cases eo : cmpv h2 op x y with
    | none => rw [eo] at p2; exact p2.elim
    | some k =>
      rw [eo] at p2
      simp only [LW.R.of_some, LW.R.bind_ok] at p2
      refine ⟨Z, ρ2, h2, x, y, k, w2, r1.mono e2, r2, eo, k, rfl, ?_⟩
      cases k with
      | false => exact p2 ρ2 H2 _ Ext.refl w2 (.bl _)
      | true =>
        refine ⟨Z, ρ2, σ', h2, (rs.go e1 w1).go e2 w2, ?_⟩
        refine p2.step fun z h3 ρ3 H3 z' _ e3 w3 r3 p3 => ?_
        cases eo' : cmpv h3 op' y z with
        | none => rw [eo'] at p3; exact p3.elim
        | some k =>
          rw [eo'] at p3
          exact ⟨Z, ρ3, h3, y, z, k, w3, r2.mono e3, r3, eo', p3 ρ3 H3 _ Ext.refl w3 (.bl _)⟩
  · refine PT.imp (pt_chain (cmp_ok (R := R) hu op) (cmp_ok (R := R) hu op') ha hb hc hm) fun σ H Q ⟨Z, ρ, σ', h, rs, p⟩ => ⟨Z, ρ, σ', h, rs, ?_⟩
    simp only [ev] at p
    refine p.step fun x h1 ρ1 H1 x' _ e1 w1 r1 p1 => ⟨Z, ρ1, σ', h1, rs.go e1 w1, ?_⟩
    refine p1.step fun y h2 ρ2 H2 y' _ e2 w2 r2 p2 => ?_
    cases eo : cmpv h2 op x y with
    | none => rw [eo] at p2; exact p2.elim
    | some k =>
      rw [eo] at p2
      simp only [LW.R.of_some, LW.R.bind_ok] at p2
      refine ⟨Z, ρ2, h2, x, y, k, w2, r1.mono e2, r2, eo, k, rfl, ?_⟩
      cases k with
      | false => exact ⟨false, rfl, p2 ρ2 H2 _ Ext.refl w2 rfl⟩
      | true =>
        refine ⟨Z, ρ2, σ', h2, (rs.go e1 w1).go e2 w2, ?_⟩
        refine p2.step fun z h3 ρ3 H3 z' _ e3 w3 r3 p3 => ?_
        cases eo' : cmpv h3 op' y z with
        | none => rw [eo'] at p3; exact p3.elim
        | some k =>
          rw [eo'] at p3
          exact ⟨Z, ρ3, h3, y, z, k, w3, r2.mono e3, r3, eo', k, rfl, p3 ρ3 H3 _ Ext.refl w3 rfl⟩
theorem s_ife (hc : PT X m (tt T R (fn T d) W X.K c)) (ha : PE X l (tv T R (fn T d) W X.K a)) (hb : PE X r (tv T R (fn T d) W X.K b)) : PE X (.IfExp m l r pos) (tv T R (fn T d) W X.K (.ife c a b)) := by
  refine PE.imp (pe_ifExp hc ha hb) fun σ H Q ⟨Z, ρ, σ', h, rs, p⟩ => ⟨Z, ρ, σ', h, rs, ?_⟩
  simp only [ev] at p
  refine p.step fun x h1 ρ1 H1 k _ e1 w1 r1 p1 => ?_
  subst r1
  cases k with
  | true => exact iteT ⟨Z, ρ1, σ', h1, rs.go e1 w1, p1.step fun v h2 ρ2 H2 v' _ e2 w2 r2 p2 => p2 ρ2 H2 v' Ext.refl w2 r2⟩
  | false => exact iteF ⟨Z, ρ1, σ', h1, rs.go e1 w1, p1.step fun v h2 ρ2 H2 v' _ e2 w2 r2 p2 => p2 ρ2 H2 v' Ext.refl w2 r2⟩
/-! and, or -/
variable {es : List E} {rest : List Expr}
theorem s_and1 (ha : PE X l (tv T R (fn T d) W X.K a)) : PE X (.BoolOp .And [l] pos) (tv T R (fn T d) W X.K (.and a [])) := by
  refine PE.imp (pe_one ha) fun σ H Q ⟨Z, ρ, σ', h, rs, p⟩ => ⟨Z, ρ, σ', h, rs, ?_⟩
  simp only [ev, evAnd] at p
  exact p.step fun v h2 ρ2 H2 v' _ e2 w2 r2 p2 => p2 ρ2 H2 v' Ext.refl w2 r2
theorem s_or1 (ha : PE X l (tv T R (fn T d) W X.K a)) : PE X (.BoolOp .Or [l] pos) (tv T R (fn T d) W X.K (.or a [])) := by
  refine PE.imp (pe_one ha) fun σ H Q ⟨Z, ρ, σ', h, rs, p⟩ => ⟨Z, ρ, σ', h, rs, ?_⟩
  simp only [ev, evOr] at p
  exact p.step fun v h2 ρ2 H2 v' _ e2 w2 r2 p2 => p2 ρ2 H2 v' Ext.refl w2 r2
theorem s_and (ha : PE X l (tv T R (fn T d) W X.K a)) (hb : PE X (.BoolOp .And (r :: rest) pos) (tv T R (fn T d) W X.K (.and b es))) : PE X (.BoolOp .And (l :: r :: rest) pos) (tv T R (fn T d) W X.K (.and a (b :: es))) := by
  refine PE.imp (pe_and ha hb) fun σ H Q ⟨Z, ρ, σ', h, rs, p⟩ => ⟨Z, ρ, σ', h, rs, ?_⟩
  simp only [ev, evAnd] at p
  refine p.step fun x h1 ρ1 H1 x' _ e1 w1 r1 p1 => ?_
  cases r1 with
  | bl k =>
    refine ⟨k, rfl, ?_⟩
    cases k with
    | true => exact iteT ⟨Z, ρ1, σ', h1, rs.go e1 w1, by simpa only [ev] using p1⟩
    | false => exact iteF (p1 ρ1 H1 _ Ext.refl w1 (.bl _))
  | _ => exact p1.elim
theorem s_or (ha : PE X l (tv T R (fn T d) W X.K a)) (hb : PE X (.BoolOp .Or (r :: rest) pos) (tv T R (fn T d) W X.K (.or b es))) : PE X (.BoolOp .Or (l :: r :: rest) pos) (tv T R (fn T d) W X.K (.or a (b :: es))) := by
  refine PE.imp (pe_or ha hb) fun σ H Q ⟨Z, ρ, σ', h, rs, p⟩ => ⟨Z, ρ, σ', h, rs, ?_⟩
  simp only [ev, evOr] at p
  refine p.step fun x h1 ρ1 H1 x' _ e1 w1 r1 p1 => ?_
  cases r1 with
  | bl k =>
    refine ⟨k, rfl, ?_⟩
    cases k with
    | false => exact iteF ⟨Z, ρ1, σ', h1, rs.go e1 w1, by simpa only [ev] using p1⟩
    | true => exact iteT (p1 ρ1 H1 _ Ext.refl w1 (.bl _))
  | _ => exact p1.elim
theorem s_and1T (ha : PT X l (tt T R (fn T d) W X.K a)) : PW X (.BoolOp .And [l] pos) (tt T R (fn T d) W X.K (.and a [])) := by
  refine PW.imp (pw_and1 ha) fun σ H Q ⟨Z, ρ, σ', h, rs, p⟩ => ⟨Z, ρ, σ', h, rs, ?_⟩
  simp only [ev, evAnd] at p
  exact p.step fun v h2 ρ2 H2 v' _ e2 w2 r2 p2 => p2 ρ2 H2 v' Ext.refl w2 r2
theorem s_or1T (ha : PT X l (tt T R (fn T d) W X.K a)) : PW X (.BoolOp .Or [l] pos) (tt T R (fn T d) W X.K (.or a [])) := by
  refine PW.imp (pw_or1 ha) fun σ H Q ⟨Z, ρ, σ', h, rs, p⟩ => ⟨Z, ρ, σ', h, rs, ?_⟩
  simp only [ev, evOr] at p
  exact p.step fun v h2 ρ2 H2 v' _ e2 w2 r2 p2 => p2 ρ2 H2 v' Ext.refl w2 r2
theorem s_andT (ha : PT X l (tt T R (fn T d) W X.K a)) (hb : PW X (.BoolOp .And (r :: rest) pos) (tt T R (fn T d) W X.K (.and b es))) : PW X (.BoolOp .And (l :: r :: rest) pos) (tt T R (fn T d) W X.K (.and a (b :: es))) := by
  refine PW.imp (pw_and ha hb) fun σ H Q ⟨Z, ρ, σ', h, rs, p⟩ => ⟨Z, ρ, σ', h, rs, ?_⟩
  simp only [ev, evAnd] at p
  refine p.step fun x h1 ρ1 H1 k _ e1 w1 r1 p1 => ?_
  subst r1
  cases k with
  | true => exact iteT ⟨Z, ρ1, σ', h1, rs.go e1 w1, by simpa only [ev] using p1⟩
  | false => exact iteF (p1 ρ1 H1 _ Ext.refl w1 rfl)
theorem s_orT (ha : PT X l (tt T R (fn T d) W X.K a)) (hb : PW X (.BoolOp .Or (r :: rest) pos) (tt T R (fn T d) W X.K (.or b es))) : PW X (.BoolOp .Or (l :: r :: rest) pos) (tt T R (fn T d) W X.K (.or a (b :: es))) := by
  refine PW.imp (pw_or ha hb) fun σ H Q ⟨Z, ρ, σ', h, rs, p⟩ => ⟨Z, ρ, σ', h, rs, ?_⟩
  simp only [ev, evOr] at p
  refine p.step fun x h1 ρ1 H1 k _ e1 w1 r1 p1 => ?_
  subst r1
  cases k with
  | false => exact iteF ⟨Z, ρ1, σ', h1, rs.go e1 w1, by simpa only [ev] using p1⟩
  | true => exact iteT (p1 ρ1 H1 _ Ext.refl w1 rfl)
/-! arguments, displays -/
theorem s_nil : PA X [] (ta T R (fn T d) W X.K []) := PA.imp pa_nil fun σ H Q ⟨Z, ρ, σ', h, rs, p⟩ => p ρ H _ Ext.refl rs.wd .nil
theorem s_cons (ha : PE X l (tv T R (fn T d) W X.K a)) (hb : PA X rest (ta T R (fn T d) W X.K es)) (hs : noStar l = true) : PA X (l :: rest) (ta T R (fn T d) W X.K (a :: es)) := by
  refine PA.imp (pa_cons ha hb (starEach_cons hs)) fun σ H Q ⟨Z, ρ, σ', h, rs, p⟩ => ⟨Z, ρ, σ', h, rs, ?_⟩
  simp only [evs] at p
  refine p.step fun x h1 ρ1 H1 x' _ e1 w1 r1 p1 => ⟨Z, ρ1, σ', h1, rs.go e1 w1, ?_⟩
  exact p1.step fun y h2 ρ2 H2 y' _ e2 w2 r2 p2 => p2 ρ2 H2 _ Ext.refl w2 (.cons (r1.mono e2) r2)
theorem s_tup {j : Nat} (hb : PA X rest (ta T R (fn T d) W X.K es)) (hl : es.length ≤ 1000) : PE X (.Tuple rest j pos) (tv T R (fn T d) W X.K (.tup es)) := by
  refine PE.imp (pe_tup hb) fun σ H Q ⟨Z, ρ, σ', h, rs, p⟩ => ⟨Z, ρ, σ', h, rs, ?_⟩
  simp only [ev] at p
  refine p.step fun x h1 ρ1 H1 x' ex e1 w1 r1 p1 => ⟨?_, new_tup w1 r1 fun H' v' e2 w2 r2 => p1 ρ1 H' v' e2 w2 r2⟩
  rw [← r1.length, evs_len ex]
  exact Nat.le_trans hl (by decide)
theorem s_vls (hb : PA X rest (ta T R (fn T d) W X.K es)) (hl : es.length ≤ 1000) : PE X (.List rest pos) (tv T R (fn T d) W X.K (.vls es)) := by
  refine PE.imp (pe_lst hb) fun σ H Q ⟨Z, ρ, σ', h, rs, p⟩ => ⟨Z, ρ, σ', h, rs, ?_⟩
  simp only [ev] at p
  refine p.step fun x h1 ρ1 H1 x' ex e1 w1 r1 p1 => ⟨?_, new_lst w1 r1 fun H' v' e2 w2 r2 => p1 ρ1 H' v' e2 w2 r2⟩
  rw [← r1.length, evs_len ex]
  exact Nat.le_trans hl (by decide)
theorem s_mls (hb : PA X rest (ta T R (fn T d) W X.K es)) (hl : es.length ≤ 1000) : PE X (.List rest pos) (tv T R (fn T d) W X.K (.mls es)) := by
  refine PE.imp (pe_lst hb) fun σ H Q ⟨Z, ρ, σ', h, rs, p⟩ => ⟨Z, ρ, σ', h, rs, ?_⟩
  simp only [ev] at p
  refine p.step fun x h1 ρ1 H1 x' ex e1 w1 r1 p1 => ⟨?_, new_ref w1 r1 fun ρ' H' v' e2 w2 r2 => p1 ρ' H' v' e2 w2 r2⟩
  rw [← r1.length, evs_len ex]
  exact Nat.le_trans hl (by decide)
theorem s_sub (C : CxE T R fA X d W blk) (ha : PE X l (tv T R (fn T d) W X.K a)) (hb : PE X r (tv T R (fn T d) W X.K b)) (hp : PlainIx r) : PE X (.Subscript l r pos) (tv T R (fn T d) W X.K (.sub a b)) := by
  refine PE.imp (pe_ix (ix_ok (R := R) (by have := C.room.un; omega)) ha hb hp) fun σ H Q ⟨Z, ρ, σ', h, rs, p⟩ => ⟨Z, ρ, σ', h, rs, ?_⟩
  simp only [ev] at p
  refine p.step fun x h1 ρ1 H1 x' _ e1 w1 r1 p1 => ⟨Z, ρ1, σ', h1, rs.go e1 w1, ?_⟩
  refine p1.step fun y h2 ρ2 H2 y' _ e2 w2 r2 p2 => ?_
  cases eo : subv h2 x y with
  | none => rw [eo] at p2; exact p2.elim
  | some v =>
    rw [eo] at p2
    exact ⟨Z, ρ2, h2, x, y, v, w2, r1.mono e2, r2, eo, fun v' r3 => p2 ρ2 H2 v' Ext.refl w2 r3⟩
theorem s_attr (C : CxE T R fA X d W blk) {f : String} (ha : PE X l (tv T R (fn T d) W X.K a)) (hb : attrOk l = true) (hf : R.clss.all (fun C => R.flds.contains (C, f)) = true) : PE X (.Attribute l (os f) pos) (tv T R (fn T d) W X.K (.attr a f)) := by
  refine PE.imp (pe_fld ha (attrOk_ok hb)) fun σ H Q ⟨Z, ρ, σ', h, rs, p⟩ => ⟨Z, ρ, σ', h, rs, ?_⟩
  simp only [ev] at p
  refine p.step fun x h1 ρ1 H1 x' _ e1 w1 r1 p1 => ?_
  cases r1 with
  | @ref n p en =>
    simp only [attrv] at p1
    cases eh : h1[n]? with
    | none => rw [eh] at p1; exact p1.elim
    | some o =>
      rw [eh] at p1
      cases o with
      | ins C' fs =>
        simp only at p1
        cases eg : fgetv fs f with
        | none => rw [eg] at p1; exact p1.elim
        | some v =>
          rw [eg] at p1
          obtain ⟨hc, dx, ys, q, rf⟩ := w1.ob n p _ en eh
          obtain ⟨u, e2, r2⟩ := fget_ok rf eg
          have hm : (C', f) ∈ R.flds := List.contains_iff_mem.mp (List.all_eq_true.mp hf C' hc)
          exact ⟨p, cAd X.K C', dx, ys, u, rfl, q, (C.fc.cls C' hc).1, C.fc.fld C' f hm, e2, p1 ρ1 H1 u Ext.refl w1 r2⟩
      | _ => exact p1.elim
  | _ => exact p1.elim
end
end LW
/-! LwE: calls, methods, built-ins. -/
namespace LW
open PySem L2

theorem tr_false {r : LW.R PV} : r.bind (tr false) = r := by cases r <;> rfl
theorem fn_len {T : Tb} {d : Nat} {f : String} {as : List PV} {h : HP} {r : LW.R PV} (e : fn T d f as h = r) (n : r ≠ .bad) : ∃ D, T.fn f = some D ∧ as.length = D.params.length := by
  cases d with
  | zero => exact absurd e.symm n
  | succ d =>
    simp only [fn] at e
    cases q : T.fn f with
    | none => rw [q] at e; exact absurd e.symm n
    | some D =>
      rw [q] at e
      simp only at e
      split at e
      · rename_i hl; exact ⟨D, rfl, hl⟩
      · exact absurd e.symm n
theorem po_ne {K : PySem.W.Frag} {R : Rw} {Z : Addr → Prop} {ρ : List Addr} {h : HP} {H : Hp} {α β : Type} {Rl : Hp → List Addr → (Addr → Prop) → α → β → Prop} {W : XK} {r : LW.R α} {Q : β → Hp → Prop} (p : Po K R Z Rl ρ h H r Q W) : r ≠ .bad := fun e => by rw [e] at p; exact p
theorem sp_of {T : Tb} {K : PySem.W.Frag} {R : Rw} {d : Nat} {f : String} {Z : Addr → Prop} {ρ : List Addr} {h : HP} {H : Hp} {as : List PV} {vs : List V} {Q : VK} {E : XK} (w : Wd K R Z ρ h H) (r : RVs K H ρ (Lz Z ρ h) as vs) (p : Po K R Z (RV K) ρ h H (fn T d f as h) Q E) : spF T K R d f vs H Q E := by
  obtain ⟨D, h1, h2⟩ := fn_len rfl (po_ne p)
  exact ⟨⟨D, h1, by rw [← r.length]; exact h2⟩, Z, ρ, h, as, w, r, p⟩

section
variable {T : Tb} {R : Rw} {fA : String → Addr} {X : Cx} {d : Nat} {W : WX} {blk : Bool} {a b c : E} {l r m : Expr} {pos p apos : Pos} {es : List E} {rest : List Expr}
theorem s_notV (ha : PE X l (tv T R (fn T d) W X.K a)) (hev : ∀ σ h, ev T (fn T d) true a σ h = (ev T (fn T d) false a σ h).bind (tr true)) : PE X (.UnaryOp .Not l pos) (tv T R (fn T d) W X.K (.not a)) := by
  refine PE.imp (pe_notT ha) fun σ H Q ⟨Z, ρ, σ', h, rs, p⟩ => ⟨Z, ρ, σ', h, rs, ?_⟩
  simp only [ev, hev] at p
  have p0 : Po X.K R Z (RV X.K) ρ h H ((ev T (fn T d) false a σ' h).bind fun v h => (tr true v h).bind fun x h => match x with
    | .bl b => .ok (.bl (!b)) h
    | _ => .bad) Q (fun c d H' => W c d σ H') := by
    cases q : ev T (fn T d) false a σ' h with
    | ok v h1 => rw [q] at p; exact p
    | exc c h1 => rw [q] at p; exact p
    | bad => rw [q] at p; exact p
  refine p0.step fun x h1 ρ1 H1 x' _ e1 w1 r1 p1 => ?_
  simp only [tr] at p1
  cases et : truth h1 x with
  | none => rw [et] at p1; exact p1.elim
  | some k =>
    rw [et] at p1
    exact ⟨k, truth_ok w1 r1 et, p1 ρ1 H1 _ Ext.refl w1 (.bl _)⟩
/-- a slice's part -/
def tO (T : Tb) (R : Rw) (cf : CF) (W : WX) (K : PySem.W.Frag) (o : Option E) : TO := fun σ H Q => ∃ (Z : Addr → Prop) (ρ : List Addr) (σ' : Sg) (h : HP), Rs K R Z ρ h H σ' σ ∧ Po K R Z (fun _ _ _ (x y : Option Int) => x = y) ρ h H (evo T cf o σ' h) Q (fun c d H' => W c d σ H')
theorem PO.imp {X : Cx} {e : Option Expr} {t t' : TO} (h : PO X e t) (f : ∀ σ H Q, t' σ H Q → t σ H Q) : PO X e t' := ⟨fun pins s σ H Q I q => h.run pins s σ H Q I (f σ H Q q)⟩
theorem s_onone : PO X none (tO T R (fn T d) W X.K none) := PO.imp po_none fun σ H Q ⟨Z, ρ, σ', h, rs, p⟩ => p ρ H _ Ext.refl rs.wd rfl
theorem s_osome (ha : PE X l (tv T R (fn T d) W X.K a)) : PO X (some l) (tO T R (fn T d) W X.K (some a)) := by
  refine PO.imp (po_some ha) fun σ H Q ⟨Z, ρ, σ', h, rs, p⟩ => ⟨Z, ρ, σ', h, rs, ?_⟩
  simp only [evo] at p
  refine p.step fun x h1 ρ1 H1 x' _ e1 w1 r1 p1 => ?_
  cases r1 with
  | int i => exact ⟨i, rfl, p1 ρ1 H1 _ Ext.refl w1 rfl⟩
  | _ => exact p1.elim
theorem s_slice {lo hi : Option E} {lo' hi' : Option Expr} {p2 : Pos} (ha : PE X l (tv T R (fn T d) W X.K a)) (hl : PO X lo' (tO T R (fn T d) W X.K lo)) (hh : PO X hi' (tO T R (fn T d) W X.K hi)) :
    PE X (.Subscript l (.Slice lo' hi' none p2) pos) (tv T R (fn T d) W X.K (.slice a lo hi)) := by
  refine PE.imp (pe_slice (sl_ok (R := R)) ha hl hh) fun σ H Q ⟨Z, ρ, σ', h, rs, p⟩ => ⟨Z, ρ, σ', h, rs, ?_⟩
  simp only [ev] at p
  refine p.step fun x h1 ρ1 H1 x' _ e1 w1 r1 p1 => ⟨Z, ρ1, σ', h1, rs.go e1 w1, ?_⟩
  refine p1.step fun y h2 ρ2 H2 y' _ e2 w2 r2 p2 => ⟨Z, ρ2, σ', h2, (rs.go e1 w1).go e2 w2, ?_⟩
  refine p2.step fun z h3 ρ3 H3 z' _ e3 w3 r3 p3 => ?_
  subst r2 r3
  cases eo : cutv h3 x y z with
  | none => rw [eo] at p3; exact p3.elim
  | some v =>
    rw [eo] at p3
    exact ⟨Z, ρ3, h3, x, v, w3, (r1.mono e2).mono e3, eo, fun H' v' e4 w4 r4 => p3 ρ3 H' v' e4 w4 r4⟩

/-! ### defs -/
theorem s_call (C : CxE T R fA X d W blk) {f : String} (hf : f ∈ R.fns) (ht : f ∈ R.tops) (hg : glB X.env.scope (os f) = true) (ho : okN (os f) = true) (hs : (l :: rest).all noStar = true) (ha : PA X (l :: rest) (ta T R (fn T d) W X.K es)) :
    PE X (.Call (.Name (os f) p) (l :: rest) [] pos) (tv T R (fn T d) W X.K (.call f es)) := by
  obtain ⟨D, fd, hD, F, hb, hk⟩ := C.fo f hf
  simp only [List.all_cons, Bool.and_eq_true] at hs
  refine PE.imp (pe_callS F (C.room.mono (by omega)) (glB_ok hg) (C.fc.top f ht) hk hb (fun σ => passAt C.tk σ) ha (okN_ok ho).1 (starEach_cons hs.1) (starEach_all hs.2 _).1) fun σ H Q ⟨Z, ρ, σ', h, rs, p⟩ => ⟨Z, ρ, σ', h, rs, ?_⟩
  simp only [ev, tr_false] at p
  exact p.step fun x h1 ρ1 H1 x' _ e1 w1 r1 p1 => sp_of w1 r1 p1
theorem s_call0 (C : CxE T R fA X d W blk) {f : String} (hf : f ∈ R.fns) (ht : f ∈ R.tops) (hg : glB X.env.scope (os f) = true) (ho : okN (os f) = true) :
    PE X (.Call (.Name (os f) p) [] [] pos) (tv T R (fn T d) W X.K (.call f [])) := by
  obtain ⟨D, fd, hD, F, hb, hk⟩ := C.fo f hf
  refine ⟨fun pins s σ H Q I ⟨Z, ρ, σ', h, rs, q⟩ => ?_⟩
  simp only [ev, evs, tr_false, LW.R.bind_ok] at q
  refine wpAny_Call_Name_kw (ld_glob I (glB_ok hg) (C.fc.top f ht) ?_ (okN_ok ho).1)
  exact PySem.W.callWith_K0 I.kIn hk (run_fnS (us := []) (E := WE W) F (C.room.mono (by omega)) hb (passAt C.tk σ) I .nil (sp_of rs.wd .nil q))
/-- o.m(e, ..) of an instance whose class the heap tells -/
theorem s_meth (C : CxE T R fA X d W blk) {mn : String} (hlen : es.length = rest.length) (hb : attrOk l = true) (hs : rest.all noStar = true) (hn : rest.length < 30) (hl : (apos.endLine == pos.line) = true)
    (hm : R.clss.all (fun C => match T.mr C mn with
      | some f => R.meths.contains (C, mn) && R.fns.contains f
      | none => true) = true) (ho : PE X l (tv T R (fn T d) W X.K a)) (ha : PA X rest (ta T R (fn T d) W X.K es)) :
    PE X (.Call (.Attribute l (os mn) apos) rest [] pos) (tv T R (fn T d) W X.K (.meth a mn es)) := by
  refine ⟨fun pins s σ H Q I ⟨Z, ρ, σ', h, rs, q⟩ => ?_⟩
  simp only [ev] at q
  refine PySem.W.methodCall_KW (thn (ho.run pins s σ H _ I ⟨Z, ρ, σ', h, rs, q.step (Q1 := fun x H1 => ∃ (n : Nat) (pa : Addr) (ρ1 : List Addr) (h1 : HP), x = .ref pa ∧ ρ1[n]? = some pa ∧ Rs X.K R Z ρ1 h1 H1 σ' σ ∧
      Po X.K R Z (RV X.K) ρ1 h1 H1 (match h1[n]? with
        | some (.ins C fs) => match fgetv fs mn, T.mr C mn with
          | none, some f => (evs T (fn T d) es σ' h1).bind fun vs h => (fn T d f (.ref n :: vs) h).bind (tr false)
          | _, _ => .bad
        | _ => .bad) Q (fun c d H' => W c d σ H')) ?_⟩) ?_) (meth_eq hb hs hn hl)
  · intro x h1 ρ1 H1 x' _ e1 w1 r1 p1
    cases r1 with
    | @ref n pa en => exact ⟨n, pa, ρ1, h1, rfl, en, rs.go e1 w1, p1⟩
    | _ => exact p1.elim
  · rintro v s1 ⟨x, H1, I1, rx, n, pa, ρ1, h1, rfl, en, rs1, p1⟩
    obtain rfl : v = Value.ref pa := rx
    cases eh : h1[n]? with
    | none => rw [eh] at p1; exact p1.elim
    | some o =>
      rw [eh] at p1
      cases o with
      | ins C' fs =>
        simp only at p1
        cases eg : fgetv fs mn with
        | some _ => rw [eg] at p1; exact p1.elim
        | none =>
          cases em : T.mr C' mn with
          | none => rw [eg, em] at p1; exact p1.elim
          | some f =>
            rw [eg, em] at p1
            simp only [tr_false] at p1
            obtain ⟨hc, dx, ys, q, rf⟩ := rs1.wd.ob n pa _ en eh
            have z := List.all_eq_true.mp hm C' hc
            rw [em] at z
            simp only [Bool.and_eq_true] at z
            have M := C.fc.meth C' mn (List.contains_iff_mem.mp z.1) f em
            obtain ⟨D, fd, hD, F, hb, hk⟩ := C.fo f (List.contains_iff_mem.mp z.2)
            refine getmeth_ok I1 q (C.fc.cls C' hc).1 M (fnone_ok rf eg) ?_
            cases rest with
            | nil =>
              have en2 : es = [] := List.eq_nil_of_length_eq_zero hlen
              subst en2
              simp only [evs, LW.R.bind_ok] at p1
              exact PySem.W.callWith_K0 (first := [.ref pa]) I1.kIn M.kp (run_fnS (us := [.ref pa]) (vs := [.ref pa]) (E := WE W) F (C.room.mono (by omega)) hb (passAt C.tk σ) I1 (.cons rfl .nil) (sp_of rs1.wd (.cons (.ref en) .nil) p1))
            | cons e0 er =>
              simp only [List.all_cons, Bool.and_eq_true] at hs
              refine PySem.W.callWith_K (first := [.ref pa]) (h₀ := X.base) I.ok.mod.kin M.kp (thn (ha.run pos pins s1 σ H1 (fun vs H2 => spF T X.K R d f (.ref pa :: vs) H2 Q (WE W σ)) I1 ⟨Z, ρ1, σ', h1, rs1, p1.step fun x h2 ρ2 H2 x' _ e2 w2 r2 p2 => sp_of w2 (.cons ((RV.ref en).mono e2) r2) p2⟩) fun us s2 ⟨vs, H2, I2, rv, q2⟩ => ⟨I2.kIn, ?_⟩) (starEach_cons hs.1) (starEach_all hs.2 _).1
              exact run_fnS (us := .ref pa :: us) (vs := .ref pa :: vs) (E := WE W) F (C.room.mono (by omega)) hb (passAt C.tk σ) I2 (.cons rfl rv) q2
      | _ => exact p1.elim
/-- C(..): as L2.run_make, what is raised wished for at the slots -/
theorem run_makeS {C' f : Addr} {k : Nat} {fd : FuncData} {ps : List Str} {sp : Sp} {E : St → XK} {pins : List (Addr × Obj)} {σ : St} {H : Hp} {s : Shared} {Q : VK} {us : List Value} {vs : List V} (M : Mk X.K C' f) (F : FnOk X.prog X.w X.K X.mg X.base (L2.CX X.prog X.w) k f fd ps sp) (hr : Room (k + 1) X.A) (hb : Binds X.K fd ps [])
    (hx : PassesAt (L2.CX X.prog X.w) X σ (E σ)) (I : L2.Inv X pins σ H s) (r : Vals vs us)
    (h : ∀ x dx, H x = none → H dx = none → dx ≠ x → sp (.ref x :: vs) (upd (upd H dx (.own x)) x (.ins C' dx [])) (fun v H2 => v = .non ∧ Q (.ref x) H2) (E σ)) :
    wpAny (model X.prog X.w) X.A (call (.ref C') us) (EP X pins σ Q) X.xe s := by
  have hq := h (s.heap.objs.size + 1) s.heap.objs.size (I.hok.fresh (Nat.le_succ _)) (I.hok.fresh (Nat.le_refl _)) (Nat.ne_of_lt (Nat.lt_succ_self _))
  have I2 := Inv.made (C := C') I
  have r2 : Vals (V.ref (s.heap.objs.size + 1) :: vs) (Value.ref (s.heap.objs.size + 1) :: us) := .cons rfl r
  have hl : (Value.ref (s.heap.objs.size + 1) :: us).length = ps.length := by
    have e := r2.length
    rw [F.len _ _ _ _ hq] at e
    exact e.symm
  have bb := hb _ (Value.ref (s.heap.objs.size + 1) :: us) I2.kIn (by rw [List.append_nil]; exact hl)
  rw [List.append_nil] at bb
  refine wpAny_call (make_map (f := f) I.kIn M.makes M.init (beq_iff_eq.mp M.fn) (codeAny_mono (F.run _ X.stack _ _ ⟨Value.ref (s.heap.objs.size + 1) :: us, []⟩ (Value.ref (s.heap.objs.size + 1) :: us) _ _ (E σ) (hr.make C' us [])
    (I2.env0.make C' us []) bb r2 hq) fun r s' hq' => ?_))
  cases r with
  | error e => exact hx pins _ _ e s' I2 hq'
  | ok fl =>
    cases fl with
    | ret u =>
      obtain ⟨v, H', I3, rv, ev, q3⟩ := I2.after hq'
      subst ev
      exact ⟨rv, ⟨V.ref (s.heap.objs.size + 1), H', I3, rfl, q3⟩⟩
    | next => exact False.elim hq'
    | brk => exact False.elim hq'
    | cont => exact False.elim hq'
/-- what a new instance asks -/
theorem make_sp {C' f : String} {σ : St} {Z : Addr → Prop} {ρ : List Addr} {h : HP} {H : Hp} {vs : List PV} {us : List V} {Q : VK} {E : XK} (hc : C' ∈ R.clss) (hf : T.mr C' "__init__" = some f) (w : Wd X.K R Z ρ h H) (r : RVs X.K H ρ (Lz Z ρ h) vs us)
    (p : Po X.K R Z (RV X.K) ρ h H (match T.mr C' "__init__" with
      | some f => match fn T d f (.ref h.length :: vs) (h ++ [.ins C' []]) with
        | .ok .non h' => tr false (.ref h.length) h'
        | .ok _ _ => .bad
        | .exc c h' => .exc c (trim h h')
        | .bad => .bad
      | none => .bad) Q E) : ∀ x dx, H x = none → H dx = none → dx ≠ x → spF T X.K R d f (.ref x :: us) (upd (upd H dx (.own x)) x (.ins (cAd X.K C') dx [])) (fun v H2 => v = .non ∧ Q (.ref x) H2) E := by
  intro x dx hx hdx ne
  rw [hf] at p
  simp only at p
  have w1 : Wd X.K R Z ρ h (upd H dx (.own x)) := w.alloc hdx
  have e1 : Ext ρ h H ρ h (upd H dx (.own x)) := Ext.alloc hdx
  have hx1 : upd H dx (.own x) x = none := by rw [upd_ne (Ne.symm ne)]; exact hx
  have e2 : Ext ρ h (upd H dx (.own x)) (ρ ++ [x]) (h ++ [MO.ins C' []]) (upd (upd H dx (.own x)) x (.ins (cAd X.K C') dx [])) := Ext.push w1 hx1
  have w2 : Wd X.K R Z (ρ ++ [x]) (h ++ [MO.ins C' []]) (upd (upd H dx (.own x)) x (.ins (cAd X.K C') dx [])) := w1.push hx1 ⟨hc, dx, [], upd_same, rfl, .nil⟩
  have e12 := e1.trans e2
  have rx : RV X.K (upd (upd H dx (.own x)) x (.ins (cAd X.K C') dx [])) (ρ ++ [x]) (Lz Z (ρ ++ [x]) (h ++ [MO.ins C' []])) (.ref h.length) (.ref x) := .ref (by
    rw [List.getElem?_append_right (by rw [w.len]; exact Nat.le_refl _), w.len]
    simp)
  refine sp_of w2 (.cons rx (r.mono e12)) ?_
  cases q : fn T d f (.ref h.length :: vs) (h ++ [.ins C' []]) with
  | ok v h' =>
    rw [q] at p
    intro ρ' H' b e3 w3 r3
    cases v with
    | non =>
      cases r3
      exact ⟨rfl, p ρ' H' _ (e12.trans e3) w3 (rx.mono e3)⟩
    | _ => exact p.elim
  | exc c h' =>
    rw [q] at p
    refine ⟨p.1, fun ρ' H' e3 w3 => ?_⟩
    unfold trim at p
    by_cases ht : h'.take h.length = h
    · have p2 := p.2
      rw [if_pos ht] at p2
      have e4 := e12.trans e3
      exact p2 ρ H' (trim_ext e4) (trim_wd w w3 e4 ht)
    · have p2 := p.2
      rw [if_neg ht] at p2
      exact p2 ρ' H' (e12.trans e3) w3
  | bad => rw [q] at p; exact p
theorem s_make (C : CxE T R fA X d W blk) {C' f : String} (hc : C' ∈ R.clss) (hf : T.mr C' "__init__" = some f) (hfn : f ∈ R.fns) (hg : glB X.env.scope (os C') = true) (ho : okN (os C') = true) (hs : (l :: rest).all noStar = true) (ha : PA X (l :: rest) (ta T R (fn T d) W X.K es)) :
    PE X (.Call (.Name (os C') p) (l :: rest) [] pos) (tv T R (fn T d) W X.K (.make C' es)) := by
  obtain ⟨D, fd, hD, F, hb, hk⟩ := C.fo f hfn
  have M := C.fc.mkC C' hc f hf
  simp only [List.all_cons, Bool.and_eq_true] at hs
  refine ⟨fun pins s σ H Q I ⟨Z, ρ, σ', h, rs, q⟩ => ?_⟩
  simp only [ev] at q
  refine wpAny_Call_Name_kw (ld_glob I (glB_ok hg) (C.fc.cls C' hc).2 ?_ (okN_ok ho).1)
  refine PySem.W.callWith_K (h₀ := X.base) I.ok.mod.kin M.kp (thn (ha.run pos pins s σ H (fun vs H1 => ∀ x dx, H1 x = none → H1 dx = none → dx ≠ x → spF T X.K R d f (.ref x :: vs) (upd (upd H1 dx (.own x)) x (.ins (cAd X.K C') dx [])) (fun v H2 => v = .non ∧ Q (.ref x) H2) (WE W σ)) I
    ⟨Z, ρ, σ', h, rs, q.step fun x h1 ρ1 H1 x' _ e1 w1 r1 p1 => make_sp (X := X) (σ := σ) hc hf w1 r1 p1⟩) fun us s1 ⟨vs, H1, I1, rv, q1⟩ => ⟨I1.kIn, ?_⟩) (starEach_cons hs.1) (starEach_all hs.2 _).1
  exact run_makeS (E := WE W) M F (C.room.mono (by omega)) hb (passAt C.tk σ) I1 rv q1
/-! ### built-ins -/
/-- a built-in by its name: a function or a type -/
def blName : Bl → String
  | .len => "len" | .min => "min" | .max => "max" | .int => "int" | .list => "list" | .tuple => "tuple" | .mlist => "list" | .str => "str" | .sum => "sum" | .sorted => "sorted" | .set => "set"
theorem s_bltB {f : Bl} {id : String} (C : CxE T R fA X d W blk) (hc : CallR X (.builtin id) (rCall X.K R f)) (hf : f ≠ .mlist) (hb : blName f ∈ R.blts) (hv : bootBuiltins (os (blName f)) = some (.builtin id)) (hg : glB X.env.scope (os (blName f)) = true) (ho : okN (os (blName f)) = true)
    (hs : (l :: rest).all noStar = true) (ha : PA X (l :: rest) (ta T R (fn T d) W X.K es)) : PE X (.Call (.Name (os (blName f)) p) (l :: rest) [] pos) (tv T R (fn T d) W X.K (.blt f es)) := by
  simp only [List.all_cons, Bool.and_eq_true] at hs
  refine PE.imp (pe_callB hc (glB_ok hg) (C.fc.blt _ hb) hv ha (okN_ok ho).2.2 (okN_ok ho).1 (starEach_cons hs.1) (starEach_all hs.2 _).1) fun σ H Q ⟨Z, ρ, σ', h, rs, p⟩ => ⟨Z, ρ, σ', h, rs, ?_⟩
  simp only [ev, tr_false] at p
  refine p.step fun x h1 ρ1 H1 x' _ e1 w1 r1 p1 => ?_
  have p2 : Po X.K R Z (RV X.K) ρ1 h1 H1 (.of h1 (bltv h1 f x)) Q (fun c d H' => W c d σ H') := by cases f <;> first | exact p1 | exact absurd rfl hf
  cases eo : bltv h1 f x with
  | none => rw [eo] at p2; exact p2.elim
  | some v =>
    rw [eo] at p2
    exact ⟨Z, ρ1, h1, x, v, w1, r1, eo, fun H' v' e2 w2 r2 => p2 ρ1 H' v' e2 w2 r2⟩
theorem s_bltT {f : Bl} {id : String} (C : CxE T R fA X d W blk) (hc : CallR X (.type id) (rCall X.K R f)) (hf : f ≠ .mlist) (hb : blName f ∈ R.blts) (hv : bootBuiltins (os (blName f)) = some (.type id)) (hg : glB X.env.scope (os (blName f)) = true) (ho : okN (os (blName f)) = true)
    (hs : (l :: rest).all noStar = true) (ha : PA X (l :: rest) (ta T R (fn T d) W X.K es)) : PE X (.Call (.Name (os (blName f)) p) (l :: rest) [] pos) (tv T R (fn T d) W X.K (.blt f es)) := by
  simp only [List.all_cons, Bool.and_eq_true] at hs
  refine PE.imp (pe_callTy hc (glB_ok hg) (C.fc.blt _ hb) hv ha (okN_ok ho).2.2 (okN_ok ho).1 (starEach_cons hs.1) (starEach_all hs.2 _).1) fun σ H Q ⟨Z, ρ, σ', h, rs, p⟩ => ⟨Z, ρ, σ', h, rs, ?_⟩
  simp only [ev, tr_false] at p
  refine p.step fun x h1 ρ1 H1 x' _ e1 w1 r1 p1 => ?_
  have p2 : Po X.K R Z (RV X.K) ρ1 h1 H1 (.of h1 (bltv h1 f x)) Q (fun c d H' => W c d σ H') := by cases f <;> first | exact p1 | exact absurd rfl hf
  cases eo : bltv h1 f x with
  | none => rw [eo] at p2; exact p2.elim
  | some v =>
    rw [eo] at p2
    exact ⟨Z, ρ1, h1, x, v, w1, r1, eo, fun H' v' e2 w2 r2 => p2 ρ1 H' v' e2 w2 r2⟩
theorem s_mlist (C : CxE T R fA X d W blk) (hb : "list" ∈ R.blts) (hg : glB X.env.scope (os "list") = true) (ho : okN (os "list") = true)
    (hs : (l :: rest).all noStar = true) (ha : PA X (l :: rest) (ta T R (fn T d) W X.K es)) : PE X (.Call (.Name (os "list") p) (l :: rest) [] pos) (tv T R (fn T d) W X.K (.blt .mlist es)) := by
  simp only [List.all_cons, Bool.and_eq_true] at hs
  refine PE.imp (pe_callTy call_list_of (glB_ok hg) (C.fc.blt _ hb) PyProof.Rows.boot_list ha (okN_ok ho).2.2 (okN_ok ho).1 (starEach_cons hs.1) (starEach_all hs.2 _).1) fun σ H Q ⟨Z, ρ, σ', h, rs, p⟩ => ⟨Z, ρ, σ', h, rs, ?_⟩
  simp only [ev, tr_false, bltR] at p
  refine p.step fun x h1 ρ1 H1 x' _ e1 w1 r1 p1 => ?_
  cases r1 with
  | nil => exact p1.elim
  | @cons v y _ _ r2 r3 =>
    cases r3 with
    | cons _ _ => exact p1.elim
    | nil =>
      simp only at p1
      cases eo : asS h1 v with
      | none => rw [eo] at p1; exact p1.elim
      | some xs =>
        rw [eo] at p1
        obtain ⟨a, ys, rfl, hq, r4⟩ := asS_ok w1 r2 eo
        exact ⟨a, ys, rfl, hq, new_ref w1 r4 fun ρ' H' v' e2 w2 r5 => p1 ρ' H' v' e2 w2 r5⟩
theorem s_frz (ha : PE X l (tv T R (fn T d) W X.K a)) : PE X l (tv T R (fn T d) W X.K (.frz a)) := by
  refine PE.imp ha fun σ H Q ⟨Z, ρ, σ', h, rs, p⟩ => ⟨Z, ρ, σ', h, rs, ?_⟩
  simp only [ev, tr_false] at p
  refine p.step fun x h1 ρ1 H1 x' _ e1 w1 r1 p1 => ?_
  cases r1 with
  | lst hf n rs => exact p1 ρ1 H1 _ Ext.refl w1 (.lst hf n rs)
  | @ref n pa en =>
    simp only [frzv] at p1
    cases eh : h1[n]? with
    | none => rw [eh] at p1; exact p1.elim
    | some o =>
      rw [eh] at p1
      cases o with
      | lst xs =>
        obtain ⟨ys, q, r2⟩ := w1.ob n pa _ en eh
        have no : MO.lst xs ≠ .dead := fun z => nomatch z
        exact p1 ρ1 H1 _ (Ext.drop eh no) (w1.drop en eh no) (.lst q (not_live_drop w1 en eh) (r2.mono (Ext.drop eh no)))
      | _ => exact p1.elim
  | _ => exact p1.elim
end
end LW
/-! LwF: isinstance, methods of lists and dicts, what is walked, targets, comprehensions. -/
namespace LW
open PySem L2
def tyNames : List String := ["bool", "int", "str", "list", "tuple", "dict"]
/-- the class that a name stands for -/
def cuV (K : PySem.W.Frag) (c : String) : V := if tyNames.contains c then .ty c else .ref (cAd K c)
def cuU (K : PySem.W.Frag) (c : String) : Value := if tyNames.contains c then .type c else .ref (cAd K c)
theorem cu_cls (K : PySem.W.Frag) (c : String) : ClsV (cuV K c) (cuU K c) := by
  unfold cuV cuU
  split
  · exact .ty c
  · exact .own _
theorem cu_rel (K : PySem.W.Frag) (c : String) : RelV (cuV K c) (cuU K c) := by
  unfold cuV cuU
  split
  · rfl
  · rfl
def kitTab (t c : String) : Bool := match t with
  | "bool" => c == "bool" || c == "int"
  | _ => t == c
theorem kit_tab : ∀ t ∈ ["NoneType", "bool", "int", "str", "list", "tuple", "dict"], ∀ c ∈ tyNames, kitB t c = some (kitTab t c) := by decide +kernel
theorem isk_ok {K : PySem.W.Frag} {mg : Str → Option Value} {T : Tb} {R : Rw} {fA : String → Addr} (F : Fc K mg T R fA) {Z : Addr → Prop} {ρ : List Addr} {h : HP} {H : Hp} (w : Wd K R Z ρ h H) {v : PV} {x : V} (r : RV K H ρ (Lz Z ρ h) v x) (hd : ∀ n, v = .ref n → h[n]? ≠ some .dead) (hfl : ∀ xs, v ≠ .fls xs) :
    ∃ t, TyX K H x t ∧ ∀ c, (c ∈ tyNames ∨ (tyNames.contains c = false ∧ c ∈ R.clss)) → PySem.W.kitOne K t (cuU K c) = some (isk T h v c) := by
  have blt : ∀ {t : String} {c : String} {b : Bool}, t ∈ ["NoneType", "bool", "int", "str", "list", "tuple", "dict"] → (∀ c ∈ tyNames, kitTab t c = b → kitTab t c = b) → (c ∈ tyNames ∨ (tyNames.contains c = false ∧ c ∈ R.clss)) → (c ∈ tyNames → b = kitTab t c) → (c ∉ tyNames → b = false) → PySem.W.kitOne K (.type t) (cuU K c) = some b := fun {t c b} ht _ hc h1 h2 => by
    rcases hc with hc | ⟨hn, hc⟩
    · have : tyNames.contains c = true := List.contains_iff_mem.mpr hc
      unfold cuU
      rw [if_pos this, h1 hc]
      exact kit_ty (kit_tab t ht c hc)
    · have hn' : c ∉ tyNames := fun z => by rw [List.contains_iff_mem.mpr z] at hn; cases hn
      unfold cuU
      rw [if_neg (by rw [hn]; exact Bool.false_ne_true), h2 hn']
      exact F.isB c hc t ht
  have nn : ∀ {c t : String}, c ∉ tyNames → t ∈ tyNames → (c == t) = false := fun h1 h2 => beq_eq_false_iff_ne.mpr fun e => h1 (e ▸ h2)
  have tab : ∀ {t c : String}, t ≠ "bool" → kitTab t c = (t == c) := fun {t c} h => by
    unfold kitTab
    split
    · exact absurd rfl h
    · rfl
  have sym : ∀ {t c : String}, (c == t) = (t == c) := fun {t c} => by
    by_cases e : c = t
    · subst e; rfl
    · rw [beq_eq_false_iff_ne.mpr e, beq_eq_false_iff_ne.mpr (Ne.symm e)]
  have one : ∀ {t : String}, t ∈ ["int", "str", "list", "tuple", "dict"] → ∀ c, (c ∈ tyNames ∨ (tyNames.contains c = false ∧ c ∈ R.clss)) → PySem.W.kitOne K (.type t) (cuU K c) = some (c == t) := fun {t} ht c hc => by
    have h1 : t ∈ tyNames := by simp [tyNames] at ht ⊢; rcases ht with rfl | rfl | rfl | rfl | rfl <;> simp
    have h2 : t ≠ "bool" := fun e => by subst e; simp at ht
    have h3 : t ∈ ["NoneType", "bool", "int", "str", "list", "tuple", "dict"] := List.mem_cons_of_mem _ (by simpa [tyNames] using h1)
    exact blt h3 (fun _ _ e => e) hc (fun _ => by rw [tab h2, sym]) fun hn => nn hn h1
  cases r with
  | non =>
    refine ⟨_, .base .non, fun c hc => blt (t := "NoneType") (by simp) (fun _ _ e => e) hc (fun hm => ?_) fun _ => rfl⟩
    rw [tab (by decide)]
    simp [tyNames] at hm
    rcases hm with rfl | rfl | rfl | rfl | rfl | rfl <;> rfl
  | bl b =>
    refine ⟨_, .base (.bl b), fun c hc => blt (t := "bool") (by simp) (fun _ _ e => e) hc (fun hm => rfl) fun hn => ?_⟩
    show (c == "bool" || c == "int") = false
    rw [nn hn (by simp [tyNames]), nn hn (by simp [tyNames])]
    rfl
  | int i => exact ⟨_, .base (.int i), one (by simp)⟩
  | str i => exact ⟨_, .base (.str _), one (by simp)⟩
  | tup hf rs =>
    refine ⟨.type "tuple", ?_, one (by simp)⟩
    rcases hf with ⟨e, _⟩ | ⟨o, its, n, hk, hc, _⟩
    · exact .base (.tup e)
    · exact .kTuple hk hc
  | lst hf n rs => exact ⟨_, .base (.lst hf), one (by simp)⟩
  | fls _ _ => exact absurd rfl (hfl _)
  | @ref n a en =>
    have hn : n < h.length := by rw [← w.len]; exact (List.getElem?_eq_some_iff.mp en).1
    have eh : h[n]? = some h[n] := List.getElem?_eq_getElem hn
    have q := w.ob n a _ en eh
    cases eo : h[n] with
    | lst xs =>
      rw [eo] at q eh
      obtain ⟨ys, q, _⟩ := q
      exact ⟨_, .base (.lst q), fun c hc => by simp only [isk, eh]; exact one (by simp) c hc⟩
    | dct xs =>
      rw [eo] at q eh
      obtain ⟨ys, q, _⟩ := q
      exact ⟨_, .base (.dK q), fun c hc => by simp only [isk, eh]; exact one (by simp) c hc⟩
    | ins C fs =>
      rw [eo] at q eh
      obtain ⟨hc, dx, ys, q, _⟩ := q
      obtain ⟨t1, t2, t3, t4⟩ := F.tyI C hc
      refine ⟨_, .base (.ins q (F.cls C hc).1 t1 t2 t3 t4), fun c hcc => ?_⟩
      simp only [isk, eh]
      unfold cuU
      rcases hcc with h1 | ⟨h1, h2⟩
      · rw [if_pos (List.contains_iff_mem.mpr h1)]
        obtain ⟨a1, a2⟩ := F.isT C hc c h1
        rw [a1, a2]
      · rw [if_neg (by rw [h1]; exact Bool.false_ne_true)]
        exact F.isO C hc c h2
    | dead => exact absurd (eo ▸ eh) (hd n rfl)

section
variable {T : Tb} {R : Rw} {fA : String → Addr} {X : Cx} {d : Nat} {W : WX} {blk : Bool} {a b c : E} {l r m : Expr} {pos p apos : Pos} {es : List E} {rest : List Expr}
theorem alive_ok {h : HP} {v : PV} (e : alive h v = true) : ∀ n, v = .ref n → h[n]? ≠ some .dead := fun n ev q => by
  subst ev
  simp only [alive, q] at e
  cases e
theorem alive_fls {h : HP} {v : PV} (e : alive h v = true) : ∀ xs, v ≠ .fls xs := fun xs z => by subst z; cases e
/-- a class's name as a value -/
theorem s_cls (C : CxE T R fA X d W blk) {cn : String} (hc : cn ∈ tyNames ∨ (tyNames.contains cn = false ∧ cn ∈ R.clss)) (hb : cn ∈ tyNames → cn ∈ R.blts) (hg : glB X.env.scope (os cn) = true) (ho : okN (os cn) = true) : PE X (.Name (os cn) pos) (tC (cuV X.K cn)) := by
  rcases hc with hc | ⟨hn, hc⟩
  · have e : cuV X.K cn = .ty cn := by unfold cuV; rw [if_pos (List.contains_iff_mem.mpr hc)]
    rw [e]
    have hv : bootBuiltins (os cn) = some (.type cn) := by
      simp [tyNames] at hc
      rcases hc with rfl | rfl | rfl | rfl | rfl | rfl
      · exact PyProof.Rows.boot_bool
      · exact PyProof.Rows.boot_int
      · exact PyProof.Rows.boot_str
      · exact PyProof.Rows.boot_list
      · exact PyProof.Rows.boot_tuple
      · exact PyProof.Rows.boot_dict
    exact pe_bltn (glB_ok hg) (C.fc.blt _ (hb hc)) hv rfl (okN_ok ho).2.2 (okN_ok ho).1
  · have e : cuV X.K cn = .ref (cAd X.K cn) := by unfold cuV; rw [if_neg (by rw [hn]; exact Bool.false_ne_true)]
    rw [e]
    exact pe_glob (glB_ok hg) (C.fc.cls cn hc).2 rfl (okN_ok ho).1
theorem s_isin1 (C : CxE T R fA X d W blk) {cn : String} (hi : "isinstance" ∈ R.blts) (hgi : glB X.env.scope (os "isinstance") = true) (hc : cn ∈ tyNames ∨ (tyNames.contains cn = false ∧ cn ∈ R.clss)) (hb : cn ∈ tyNames → cn ∈ R.blts) (hg : glB X.env.scope (os cn) = true) (ho : okN (os cn) = true)
    (hs : noStar l = true) (ha : PE X l (tv T R (fn T d) W X.K a)) {p2 : Pos} : PE X (.Call (.Name (os "isinstance") p) [l, .Name (os cn) p2] [] pos) (tv T R (fn T d) W X.K (.isin a [cn] false)) := by
  have hs2 : noStar (.Name (os cn) p2) = true := rfl
  refine PE.imp (pe_callB call_isi (glB_ok hgi) (C.fc.blt _ hi) PyProof.Rows.boot_isinstance (pa_cons ha (pa_cons (s_cls C hc hb hg ho) pa_nil (starEach_cons hs2)) (starEach_cons hs)) (by decide) (by decide) (starEach_cons hs) (starEach_all (es := [.Name (os cn) p2]) rfl _).1) fun σ H Q ⟨Z, ρ, σ', h, rs, q⟩ => ⟨Z, ρ, σ', h, rs, ?_⟩
  simp only [ev] at q
  refine q.step fun x h1 ρ1 H1 x' _ e1 w1 r1 p1 => ?_
  cases eal : alive h1 x with
  | false => rw [eal] at p1; exact p1.elim
  | true =>
    rw [eal] at p1
    obtain ⟨t, ty, hk⟩ := isk_ok C.fc w1 r1 (alive_ok eal) (alive_fls eal)
    refine ⟨x', cuV X.K cn, t, cuU X.K cn, isk T h1 x cn, rfl, cu_cls _ _, ty, hk cn hc, ?_⟩
    have z : ([cn].any fun c => isk T h1 x c) = isk T h1 x cn := by simp
    rw [← z]
    exact p1 ρ1 H1 _ Ext.refl w1 (.bl _)
theorem kitAny_of {K : PySem.W.Frag} {t : Value} {g : String → Bool} : ∀ {cs : List String}, (∀ c ∈ cs, PySem.W.kitOne K t (cuU K c) = some (g c)) → PySem.W.kitAny K t (cs.map (cuU K)) = some (cs.any g)
  | [], _ => kitAny_nil
  | c :: cs, h => by
    refine kitAny_cons (h c List.mem_cons_self) (fun e => ?_) fun e => by simp [e]
    rw [List.any_cons, e, Bool.false_or]
    exact kitAny_of fun c hc => h c (List.mem_cons_of_mem _ hc)
theorem paired_cls (K : PySem.W.Frag) : ∀ cs : List String, Paired ClsV (cs.map (cuV K)) (cs.map (cuU K))
  | [] => .nil
  | c :: cs => .cons (cu_cls K c) (paired_cls K cs)
theorem s_clss (C : CxE T R fA X d W blk) : ∀ {cs : List String} {exs : List Expr}, (∀ cn ∈ cs, (cn ∈ tyNames ∨ (tyNames.contains cn = false ∧ cn ∈ R.clss)) ∧ (cn ∈ tyNames → cn ∈ R.blts) ∧ glB X.env.scope (os cn) = true ∧ okN (os cn) = true) →
    Paired (fun cn ex => ∃ p, ex = Expr.Name (os cn) p) cs exs → PA X exs (fun _ H Q => Q (cs.map (cuV X.K)) H)
  | [], _, _, .nil => pa_nil
  | cn :: cs, _, h, .cons ⟨p, e⟩ t => by
    subst e
    obtain ⟨h1, h2, h3, h4⟩ := h cn List.mem_cons_self
    exact PA.imp (pa_cons (s_cls C h1 h2 h3 h4) (s_clss C (fun c hc => h c (List.mem_cons_of_mem _ hc)) t) (starEach_cons rfl)) fun σ H Q q => q
theorem s_isinT (C : CxE T R fA X d W blk) {cs : List String} {exs : List Expr} {j : Nat} {p2 : Pos} (hi : "isinstance" ∈ R.blts) (hgi : glB X.env.scope (os "isinstance") = true)
    (hcs : ∀ cn ∈ cs, (cn ∈ tyNames ∨ (tyNames.contains cn = false ∧ cn ∈ R.clss)) ∧ (cn ∈ tyNames → cn ∈ R.blts) ∧ glB X.env.scope (os cn) = true ∧ okN (os cn) = true) (hp : Paired (fun cn ex => ∃ p, ex = Expr.Name (os cn) p) cs exs) (hlen : cs.length ≤ 1000)
    (hs : noStar l = true) (ha : PE X l (tv T R (fn T d) W X.K a)) : PE X (.Call (.Name (os "isinstance") p) [l, .Tuple exs j p2] [] pos) (tv T R (fn T d) W X.K (.isin a cs true)) := by
  have hs2 : noStar (.Tuple exs j p2) = true := rfl
  refine PE.imp (pe_callB call_isiT (glB_ok hgi) (C.fc.blt _ hi) PyProof.Rows.boot_isinstance (pa_cons ha (pa_cons (pe_tup (s_clss C hcs hp)) pa_nil (starEach_cons hs2)) (starEach_cons hs)) (by decide) (by decide) (starEach_cons hs) (starEach_all (es := [.Tuple exs j p2]) rfl _).1) fun σ H Q ⟨Z, ρ, σ', h, rs, q⟩ => ⟨Z, ρ, σ', h, rs, ?_⟩
  simp only [ev] at q
  refine q.step fun x h1 ρ1 H1 x' _ e1 w1 r1 p1 => ?_
  cases eal : alive h1 x with
  | false => rw [eal] at p1; exact p1.elim
  | true =>
    rw [eal] at p1
    refine ⟨by rw [List.length_map]; exact Nat.le_trans hlen (by decide), fun tp htp => ?_⟩
    have e2 : Ext ρ1 h1 H1 ρ1 h1 (upd H1 tp (.tup (cs.map (cuV X.K)))) := Ext.alloc htp
    have w2 := w1.alloc (o := .tup (cs.map (cuV X.K))) htp
    obtain ⟨t, ty, hk⟩ := isk_ok C.fc w2 (r1.mono e2) (alive_ok eal) (alive_fls eal)
    refine ⟨x', tp, _, t, _, cs.any fun c => isk T h1 x c, rfl, upd_same, paired_cls X.K cs, ty, kitAny_of fun c hc => hk c (hcs c hc).1, ?_⟩
    exact p1 ρ1 _ _ e2 w2 (.bl _)
/-! ### methods of lists -/
def bmName : Bm → String
  | .append => "append" | .clear => "clear" | .pop => "pop" | .get => "get" | .extend => "extend" | .count => "count" | .join => "join" | .split => "split"
theorem few_ok {env : Env} {cpos : Pos} {es : List Expr} (hs : es.all noStar = true) (hn : es.length < 30) : ((backTo cpos (starEach es env)).all (fun x => !x.1) && (backToKw cpos (keywordEach [] env)).all (fun x => x.1.isSome)
      && decide (es.length + ([] : List Keyword).length + (if ([] : List Keyword).isEmpty then 0 else 1) < 30)) = true := by
  rw [(starEach_all hs cpos).2]
  simp [keywordEach, backToKw, hn]
/-- the receiver is a list -/
theorem rcv_lst {K : PySem.W.Frag} {Z : Addr → Prop} {ρ : List Addr} {h : HP} {H : Hp} (w : Wd K R Z ρ h H) {v : PV} {x : V} {bm : Bm} (hb : bm ≠ .get) (r : RV K H ρ (Lz Z ρ h) v x) (e : rcv h v bm = true) : ∃ n pa xs, v = .ref n ∧ x = .ref pa ∧ ρ[n]? = some pa ∧ h[n]? = some (.lst xs) ∧ tyV K "list" x H := by
  cases r with
  | @ref n pa en =>
    simp only [rcv] at e
    cases eh : h[n]? with
    | none => rw [eh] at e; cases e
    | some o =>
      rw [eh] at e
      cases o with
      | lst xs =>
        obtain ⟨ys, q, _⟩ := w.ob n pa _ en eh
        exact ⟨n, pa, xs, rfl, rfl, en, eh, .inl ⟨rfl, ys, SqL.of q⟩⟩
      | dct xs => cases bm <;> first | (cases e; done) | exact absurd rfl hb
      | _ => cases e
  | _ => simp [rcv] at e
/-- what a list's method does to the heap -/
theorem s_append (hb : attrOk l = true) (hs : (r :: rest).all noStar = true) (hn : (r :: rest).length < 30) (hl : (apos.endLine == pos.line) = true) (ho : PE X l (tv T R (fn T d) W X.K a)) (ha : PA X (r :: rest) (ta T R (fn T d) W X.K es)) :
    PE X (.Call (.Attribute l (os "append") apos) (r :: rest) [] pos) (tv T R (fn T d) W X.K (.bmeth a .append es)) := by
  have hs' := hs
  simp only [List.all_cons, Bool.and_eq_true] at hs'
  refine PE.imp (pe_bm PySem.F.plainAttrs_list PySem.F.slot_list_append PySem.F.type_list_append mt_append ho ha (attrOk_ok hb) (few_ok hs hn) hl (starEach_cons hs'.1) (starEach_all hs'.2 _).1) fun σ H Q ⟨Z, ρ, σ', h, rs, q⟩ => ⟨Z, ρ, σ', h, rs, ?_⟩
  simp only [ev, tr_false] at q
  refine q.step fun x h1 ρ1 H1 x' _ e1 w1 r1 p1 => ?_
  cases er : rcv h1 x .append with
  | false => rw [er] at p1; exact p1.elim
  | true =>
    rw [er] at p1
    simp only at p1
    obtain ⟨n, pa, xs, rfl, rfl, en, eh, ty⟩ := rcv_lst w1 (by decide) r1 er
    refine ⟨ty, Z, ρ1, σ', h1, rs.go e1 w1, p1.step fun vs h2 ρ2 H2 vs' _ e2 w2 r2 p2 => ?_⟩
    have en2 := pre_get e2.pre en
    simp only [bmv] at p2
    cases eh2 : h2[n]? with
    | none => rw [eh2] at p2; exact p2.elim
    | some o =>
      rw [eh2] at p2
      cases o with
      | lst zs =>
        simp only at p2
        cases r2 with
        | nil => exact p2.elim
        | @cons v y _ _ r3 r4 =>
          cases r4 with
          | cons _ _ => exact p2.elim
          | nil =>
            simp only at p2
            split at p2
            · rename_i hlt
              obtain ⟨ys, q, r5⟩ := w2.ob n pa _ en2 eh2
              have no : MO.lst zs ≠ .dead := fun z => nomatch z
              refine ⟨pa, ys, y, rfl, rfl, q, by rw [← r5.length, ← line_eq]; exact hlt, ?_⟩
              have e3 : Ext ρ2 h2 H2 ρ2 (h2.set n (.lst (zs ++ [v]))) (upd H2 pa (.lst (ys ++ [y]))) := Ext.set en2 eh2 no
              exact p2 ρ2 _ _ e3 (w2.set en2 eh2 no ⟨_, upd_same, (r5.append (.cons r3 .nil)).mono e3⟩) .non
            · exact p2.elim
      | dct _ => cases vs <;> exact p2.elim
      | _ => exact p2.elim
theorem s_bm0 {bm : Bm} {id : String} {rr : V → List V → Hp → VK → Prop} (C : CxE T R fA X d W blk) (hbm : bm ≠ .get) (hb : attrOk l = true) (hl : (apos.endLine == pos.line) = true) (ho : PE X l (tv T R (fn T d) W X.K a))
    (slot : Slot "list" (os (bmName bm)) id) (hty : typeOf (.builtin id) = pure (.type "method_descriptor")) (hm : MtR X id rr)
    (hr : ∀ {Z : Addr → Prop} {ρ1 : List Addr} {h1 : HP} {H1 : Hp} {n : Nat} {pa : Addr} {xs : List PV} {Q : VK} {E : XK}, Wd X.K R Z ρ1 h1 H1 → ρ1[n]? = some pa → h1[n]? = some (.lst xs) → Po X.K R Z (RV X.K) ρ1 h1 H1 (bmv h1 (.ref n) bm []) Q E → rr (.ref pa) [] H1 Q) :
    PE X (.Call (.Attribute l (os (bmName bm)) apos) [] [] pos) (tv T R (fn T d) W X.K (.bmeth a bm [])) := by
  refine PE.imp (pe_bm0 PySem.F.plainAttrs_list slot hty hm ho (attrOk_ok hb) hl) fun σ H Q ⟨Z, ρ, σ', h, rs, q⟩ => ⟨Z, ρ, σ', h, rs, ?_⟩
  simp only [ev, evs, LW.R.bind_ok, tr_false] at q
  refine q.step fun x h1 ρ1 H1 x' _ e1 w1 r1 p1 => ?_
  cases er : rcv h1 x bm with
  | false => rw [er] at p1; exact p1.elim
  | true =>
    rw [er] at p1
    simp only at p1
    obtain ⟨n, pa, xs, rfl, rfl, en, eh, ty⟩ := rcv_lst w1 hbm r1 er
    exact ⟨ty, hr w1 en eh p1⟩
theorem s_clear (C : CxE T R fA X d W blk) (hb : attrOk l = true) (hl : (apos.endLine == pos.line) = true) (ho : PE X l (tv T R (fn T d) W X.K a)) :
    PE X (.Call (.Attribute l (os "clear") apos) [] [] pos) (tv T R (fn T d) W X.K (.bmeth a .clear [])) := by
  refine s_bm0 (bm := .clear) C (by decide) hb hl ho PySem.F.slot_list_clear PySem.F.type_list_clear mt_clear fun {Z ρ1 h1 H1 n pa xs Q E} w1 en eh p => ?_
  simp only [bmv, eh] at p
  obtain ⟨ys, q, r5⟩ := w1.ob n pa _ en eh
  have no : MO.lst xs ≠ .dead := fun z => nomatch z
  exact ⟨pa, ys, rfl, rfl, q, p ρ1 _ _ (Ext.set en eh no) (w1.set en eh no ⟨_, upd_same, .nil⟩) .non⟩
theorem s_pop (C : CxE T R fA X d W blk) (hb : attrOk l = true) (hl : (apos.endLine == pos.line) = true) (ho : PE X l (tv T R (fn T d) W X.K a)) :
    PE X (.Call (.Attribute l (os "pop") apos) [] [] pos) (tv T R (fn T d) W X.K (.bmeth a .pop [])) := by
  refine s_bm0 (bm := .pop) C (by decide) hb hl ho PySem.F.slot_list_pop PySem.F.type_list_pop mt_pop fun {Z ρ1 h1 H1 n pa xs Q E} w1 en eh p => ?_
  simp only [bmv, eh] at p
  cases el : xs.getLast? with
  | none => rw [el] at p; exact p.elim
  | some v =>
    rw [el] at p
    obtain ⟨ys, q, r5⟩ := w1.ob n pa _ en eh
    have no : MO.lst xs ≠ .dead := fun z => nomatch z
    rw [List.getLast?_eq_getElem?] at el
    obtain ⟨y, ey, ry⟩ := r5.get el
    have e3 : Ext ρ1 h1 H1 ρ1 (h1.set n (.lst xs.dropLast)) (upd H1 pa (.lst ys.dropLast)) := Ext.set en eh no
    exact ⟨pa, ys, y, rfl, rfl, q, by rw [← r5.length]; exact ey, p ρ1 _ _ e3 (w1.set en eh no ⟨_, upd_same, r5.dropLast.mono e3⟩) (ry.mono e3)⟩
end
end LW
/-! LwEn: enumerate over a tuple, for the hand layer. -/
namespace LW
open PySem L2 PyProof.Rows
open Sem (wp)
open AutoSeq1 (wpAny_loadPart')
theorem enum_newT (l : Addr) (items : Array Value) (n : Nat) (dct : Option Addr) (sl : Array (Option Value)) :
    Meets (Builtin.«enumerate.__new__» ⟨[.type "enumerate", .ref l], []⟩) (fun _ R s => s.heap.get? l = some { cls := .type "tuple", dict := dct, data := .seq items n, slots := sl } ∧
      R (.ok (.ret (.ref (s.heap.push { cls := .type "tuple_iterator", data := .fields #[.ref l, .int 0 0] }).objs.size)))
        { s with heap := (s.heap.push { cls := .type "tuple_iterator", data := .fields #[.ref l, .int 0 0] }).push { cls := .type "enumerate", data := .fields #[.none, .bool false, .ref s.heap.objs.size, rawInt 0, .none, .none] } }) :=
  .of_wp fun prog w A R s h => by
    obtain ⟨hp, g, d, tk, oz⟩ := s; obtain ⟨hl, h⟩ := h
    have hsub := sub_enumerate
    have hL : Heap.IsTuple (Shared.heap ⟨hp, g, d, tk, oz⟩) l items := ⟨_, hl, rfl, n, rfl⟩
    wp_walk using wpAny_loadPart' hl
    refine wpAny_stack_any fun st => wpAny_pure ?_
    split
    · rename_i c _ _ _ _ _
      cases (c == Value.type "enumerate")
      · wp_walk using wpAny_loadPart' hl, wpAny_pyIter_tuple hL
        exact ⟨_, rfl, h⟩
      · wp_walk using wpAny_loadPart' hl, wpAny_pyIter_tuple hL
        exact ⟨_, rfl, h⟩
    · wp_walk using wpAny_loadPart' hl, wpAny_pyIter_tuple hL
      exact ⟨_, rfl, h⟩
theorem call_enumT {prog : Program} {w : World} {A : Around} {E : Value → Shared → Prop} {s : Shared} {l : Addr} {items : Array Value} {Q : Value → Shared → Prop} (hL : s.heap.IsTuple l items)
    (h : ∀ h', IsEnum h' (s.heap.objs.size + 1) s.heap.objs.size 0 .none → h'.IsTupleIter s.heap.objs.size l 0 → h'.objs.size = s.heap.objs.size + 2 →
      (∀ b o, s.heap.get? b = some o → h'.get? b = some o) → Q (.ref (s.heap.objs.size + 1)) { s with heap := h' }) :
    wpAny (model prog w) A (call (.type "enumerate") [.ref l]) Q E s := by
  obtain ⟨⟨c, dct, dt, sl⟩, hl, hc, n, hd⟩ := hL
  replace hc : c = .type "tuple" := hc
  replace hd : dt = .seq items n := hd
  subst hc hd
  refine callType_new F.called_enumerate (by decide) (F.typeCall_enumerate_1 _) (F.newCall_enumerate_1 _) (fun obj => F.args_object_init_2 obj _) F.entry_enumerate_new
    (enum_newT l items n dct sl) ⟨hl, ?_⟩
  have hz : (s.heap.push { cls := .type "tuple_iterator", data := .fields #[.ref l, .int 0 0] }).objs.size = s.heap.objs.size + 1 := Heap.size_push ..
  show _ ∧ _
  rw [hz]
  have he : IsEnum ((s.heap.push { cls := .type "tuple_iterator", data := .fields #[.ref l, .int 0 0] }).push
      { cls := .type "enumerate", data := .fields #[.none, .bool false, .ref s.heap.objs.size, rawInt 0, .none, .none] }) (s.heap.objs.size + 1) s.heap.objs.size 0 .none := by
    have := Heap.get?_push_size (s.heap.push { cls := .type "tuple_iterator", data := .fields #[.ref l, .int 0 0] })
      (o := { cls := .type "enumerate", data := .fields #[.none, .bool false, .ref s.heap.objs.size, rawInt 0, .none, .none] }) rfl
    rw [hz] at this; exact this
  refine ⟨⟨_, he, rfl⟩, h _ he ⟨_, Heap.get?_push_of_some _ (Heap.get?_push_size _ rfl), rfl, rfl⟩ (by rw [Heap.size_push, hz]) fun b o x => Heap.get?_push_of_some _ (Heap.get?_push_of_some _ x)⟩
/-- the tuple at a, each item in a new pair -/
def IteT (K : PySem.W.Frag) (a : Addr) : L2.It :=
  ⟨fun i H => ∃ (xs : List V) (x : V), SqT K H a xs ∧ xs[i]? = some x, fun i H v H' => ∃ T x, v = .ref T ∧ H T = none ∧ H' = upd H T (.tup [.int (i : Nat), x]) ∧ ∀ xs, SqT K H a xs → xs[i]? = some x, fun i H => ∃ xs : List V, SqT K H a xs ∧ xs.length ≤ i⟩
theorem turn_enumT {P : Program} {w : World} {K : PySem.W.Frag} {elts : List Expr} {kk : Nat} {tpos : Pos} (a e it : Addr) :
    Turn P w K (.Tuple elts kk tpos) (IteT K a) [e, it] e (fun i h => (∃ old, IsEnum h e it ((i : Nat) : Int) old) ∧ h.IsTupleIter it a i ∧ e ≠ it) where
  mem := by simp
  obj := fun i h st b hb => by
    obtain ⟨⟨old, he⟩, ⟨o, ho, hc, hd⟩, _⟩ := st
    have e' : b = e ∨ b = it := by simpa using hb
    rcases e' with z | z
    · rw [z]; exact ⟨_, he, fun v q => nomatch q⟩
    · rw [z]; exact ⟨o, ho, fun v q => by rw [hd] at q; cases q⟩
  keep := fun i h h' st k => let ⟨⟨old, he⟩, hi, hne⟩ := st; ⟨⟨old, k e (by simp) _ he⟩, hi.at fun o q => k it (by simp) o q, hne⟩
  item := by
    intro X hP hw hK hc i pins s σ H E I hf st hg
    subst hP hw hK
    obtain ⟨⟨old, he⟩, hit, hne⟩ := st
    obtain ⟨xs, x, hq, hx⟩ := hg
    obtain ⟨its, rv, p, hz⟩ := I.tuple hq
    obtain ⟨u, hu, ru⟩ := rv.get hx
    have hel : e < s.heap.objs.size := Heap.lt_size he
    have hil : it < s.heap.objs.size := by obtain ⟨_, q, _⟩ := hit; exact Heap.lt_size q
    have hilen : i < its.toArray.size := by
      have := (List.getElem?_eq_some_iff.mp hu).1
      simpa using this
    have hai : a ≠ it := fun z => by
      obtain ⟨o1, e1, c1, _⟩ := p
      obtain ⟨o2, e2, c2, _⟩ := hit
      rw [← z, e1] at e2; cases e2
      rw [c1] at c2
      exact absurd (Value.type.inj c2) (by decide)
    have hea : e ∉ [it, a] := fun hm => by
      have hm : e = it ∨ e = a := by simpa using hm
      rcases hm with z | z
      · exact hne z
      · obtain ⟨o1, e1, c1, _⟩ := p
        have e2 : s.heap.get? e = some _ := he
        rw [z, e1] at e2; cases e2
        exact absurd (Value.type.inj c1) (by decide)
    refine wpAny_pyNext_enum_itemD (Draws.tuple (A := X.A.in1) (I.ok.hd hc) it a hai its.toArray) he ⟨hit, p⟩ hilen hne hea fun x' h' tk hx' ho hit' hT hsz hk => ?_
    have ex : x' = u := by
      have z : its.toArray[i]? = some u := by simpa using hu
      rw [hx'] at z
      exact Option.some.inj z
    subst ex
    refine ⟨_, rfl, wpAny_letOwnedTupleGo_enum (s := { s with heap := h', toks := tk + 1 }) ho fun h'' he' sb => ?_⟩
    have hT2 : h''.get? s.heap.objs.size = some { cls := .type "tuple", data := .seq #[.int i tk, x'] } := (sb.2 _ (Nat.ne_of_gt hel)).trans hT
    have new : ObjOk X.prog X.w (upd H s.heap.objs.size (.tup [.int (i : Nat), x])) h'' s.heap.objs.size (.tup [.int (i : Nat), x]) :=
      ⟨by show 2 ≤ sizeLine; decide, [.int i tk, x'], .cons ⟨_, rfl⟩ (.cons ru .nil), ⟨_, hT2, rfl, _, rfl⟩⟩
    have I1 : L2.Inv X pins σ (upd H s.heap.objs.size (.tup [.int (i : Nat), x])) { s with heap := h'', toks := tk + 1 } :=
      I.turnedNew (ch := [e, it]) (fun b ob hb q => (sb.2 b (fun z => hb (by simp [z]))).trans (hk b ob (fun z => hb (by simp [z])) (fun z => hb (by simp [z])) q)) hf (Nat.le_refl _) new
    refine ⟨.ref s.heap.objs.size, _, I1, rfl, ⟨_, x, rfl, I.hok.fresh (Nat.le_refl _), rfl, fun ys hy => by rw [I.tuple_inj hy hq]; exact hx⟩, ⟨⟨x', ?_⟩, hit'.1.at fun o q => (sb.2 it (Ne.symm hne)).trans q, hne⟩, fun b hb => ?_⟩
    · have e1 : ((i + 1 : Nat) : Int) = (i : Int) + 1 := by omega
      rw [e1]; exact he'
    · have hb' : b < s.heap.objs.size := by
        have e' : b = e ∨ b = it := by simpa using hb
        rcases e' with z | z
        · rw [z]; exact hel
        · rw [z]; exact hil
      rw [upd_ne (Nat.ne_of_lt hb')]
      exact (hf b hb).1
  done := by
    intro X hP hw hK hc i pins s σ H E I hf st hg
    subst hP hw hK
    obtain ⟨⟨old, he⟩, hit, hne⟩ := st
    obtain ⟨xs, hq, hx⟩ := hg
    obtain ⟨its, rv, p, hz⟩ := I.tuple hq
    obtain ⟨f0, f1, f2, f3, f4, f5⟩ := hf it (by simp)
    have hl := rv.length
    have hT : s.TypeIs (.ref e) "enumerate" := ⟨_, he, rfl⟩
    unfold pyNext
    refine wpAny_bind (wpAny_attempt (wpAny_callSpecial?_slot (name := Str.ofString "__next__") hT F.slot_enumerate_next
      (wpAny_call_entry F.slot_enumerate_next hT F.entry_enumerate_next ?_ (F.args_enumerate_next_1 _))))
    show wpAny _ _ (field (.ref e) 2 >>= _) _ _ _
    refine wpAny_bind (wpAny_field he rfl (x := .ref it) rfl ?_)
    refine wpAny_bind (wpAny_nextOf_tuple_end (I.ok.hd hc) hit p (by simp; omega) fun h' x he' hx' => ?_)
    obtain ⟨o, ho, hcl⟩ := hx'
    refine wpAny_bind (wpAny_isInstance (T := "StopIteration") (b := true) ⟨o, ho, hcl⟩ isSubtype_stop ?_)
    exact wpAny_pure ⟨rfl, I.turned (t' := s.toks) (fun b o hb q => he' b o hb q) f0 f1 f3 f4 f5⟩
  self := fun A i s Q E st h => let ⟨⟨_, he⟩, _⟩ := st; wpAny_pyIter_enum he h
/-- enumerate(xs): of a list or of a tuple -/
def iEnumA (K : PySem.W.Frag) (ta : TA) : TI := fun σ H R => ta σ H fun vs H1 => ∃ a xs, vs = [.ref a] ∧ ((SqL K H1 a xs ∧ R (Ite K a) H1) ∨ (SqT K H1 a xs ∧ R (IteT K a) H1))
theorem pi_enumA {X : Cx} {e : Expr} {ta : TA} {p pos tpos : Pos} {elts : List Expr} {kk : Nat} (hg : Gl X "enumerate") (hm : X.mg "enumerate" = none) (ha : PA X [e] ta) (hs : starEach [e] X.env = [(false, eval e X.env)]) :
    PI X (.Tuple elts kk tpos) (.Call (.Name "enumerate" p) [e] [] pos) (iEnumA X.K ta) := by
  refine ⟨fun pins s σ H R I h => ?_⟩
  refine Call_ (ld_blt I hg hm boot_enumerate (PyProof.Rows.callWith_type1 (thn (ha.run pos pins s σ H _ I h) fun us s1 ⟨vs, H1, I1, r1, q1⟩ => ?_) hs rfl))
  obtain ⟨a, xs, ex, hq⟩ := q1
  subst ex
  cases r1 with
  | cons r rr =>
    cases rr
    cases r
    have hle : ∀ b ∈ [s1.heap.objs.size + 1, s1.heap.objs.size], s1.heap.objs.size ≤ b := fun b hb => by
      have e' : b = s1.heap.objs.size + 1 ∨ b = s1.heap.objs.size := by simpa using hb
      rcases e' with z | z
      · rw [z]; exact Nat.le_add_right _ _
      · rw [z]; exact Nat.le_refl _
    rcases hq with ⟨hq, q⟩ | ⟨hq, q⟩
    · obtain ⟨its, rv, p', hz⟩ := I1.list hq
      refine call_enumerate_list p'.isList fun h' he hit hsz hk => wpAny_pyIter_enum he ?_
      have I2 : L2.Inv X pins σ H1 { s1 with heap := h' } := I1.kept (t' := s1.toks) hk
      exact ⟨s1.heap.objs.size + 1, [s1.heap.objs.size + 1, s1.heap.objs.size], _, _, H1, rfl, I2, turn_enum a (s1.heap.objs.size + 1) s1.heap.objs.size, ⟨⟨.none, he⟩, hit, Nat.succ_ne_self _⟩, fun b hb => I1.fpOk (hle b hb) (I1.hok.fresh (hle b hb)), q⟩
    · obtain ⟨its, rv, p', hz⟩ := I1.tuple hq
      refine call_enumT p' fun h' he hit hsz hk => wpAny_pyIter_enum he ?_
      have I2 : L2.Inv X pins σ H1 { s1 with heap := h' } := I1.kept (t' := s1.toks) hk
      exact ⟨s1.heap.objs.size + 1, [s1.heap.objs.size + 1, s1.heap.objs.size], _, _, H1, rfl, I2, turn_enumT a (s1.heap.objs.size + 1) s1.heap.objs.size, ⟨⟨.none, he⟩, hit, Nat.succ_ne_self _⟩, fun b hb => I1.fpOk (hle b hb) (I1.hok.fresh (hle b hb)), q⟩
end LW
/-! LwG: what is walked, targets, comprehensions. -/
namespace LW
open PySem L2
/-- what a walk of the small Python stands for -/
inductive RI (K : PySem.W.Frag) (H : Hp) (ρ : List Addr) (L : Addr → Prop) : ItV → L2.It → Prop
  | str (s : String) : RI K H ρ L (.seq (.str s)) (Its (os s))
  | tup {xs : List PV} {a : Addr} (r : RV K H ρ L (.tup xs) (.ref a)) : RI K H ρ L (.seq (.tup xs)) (Itt K a)
  | lst {v : PV} {a : Addr} (hv : ∀ xs, v ≠ .tup xs) (hs : ∀ s, v ≠ .str s) (r : RV K H ρ L v (.ref a)) : RI K H ρ L (.seq v) (Itl K a)
  | etup {xs : List PV} {a : Addr} (r : RV K H ρ L (.tup xs) (.ref a)) : RI K H ρ L (.enum (.tup xs)) (IteT K a)
  | elst {v : PV} {a : Addr} (hv : ∀ xs, v ≠ .tup xs) (r : RV K H ρ L v (.ref a)) : RI K H ρ L (.enum v) (Ite K a)
  | ztup {xs ys : List PV} {a b : Addr} (r : RV K H ρ L (.tup xs) (.ref a)) (q : RV K H ρ L (.tup ys) (.ref b)) : RI K H ρ L (.zip (.tup xs) (.tup ys)) (RZ.ItzT K a b)
  | zlst {v u : PV} {a b : Addr} (hv : ∀ xs, v ≠ .tup xs) (r : RV K H ρ L v (.ref a)) (q : RV K H ρ L u (.ref b)) : RI K H ρ L (.zip v u) (Itz K a b)
  | rng (lo : Int) (n : Nat) : RI K H ρ L (.rng lo n) (Itr lo n)
section
variable {K : PySem.W.Frag} {R : Rw} {Z : Addr → Prop} {ρ ρ' : List Addr} {h h' : HP} {H H' : Hp} {iv : ItV} {J : L2.It}
theorem RI.mono (x : Ext ρ h H ρ' h' H') (r : RI K H ρ (Lz Z ρ h) iv J) : RI K H' ρ' (Lz Z ρ' h') iv J := by
  cases r with
  | str s => exact .str s
  | tup r => exact .tup (r.mono x)
  | lst hv hs r => exact .lst hv hs (r.mono x)
  | etup r => exact .etup (r.mono x)
  | elst hv r => exact .elst hv (r.mono x)
  | ztup r q => exact .ztup (r.mono x) (q.mono x)
  | zlst hv r q => exact .zlst hv (r.mono x) (q.mono x)
  | rng lo n => exact .rng lo n
theorem asS_lst {v : PV} (hv : ∀ xs, v ≠ .tup xs) : asS h v = asL h v := by
  cases v <;> first | rfl | exact absurd rfl (hv _)
theorem seqAt_lst {v : PV} (hv : ∀ xs, v ≠ .tup xs) (hs : ∀ s, v ≠ .str s) (i : Nat) : seqAt h v i = (asL h v).map fun xs => xs[i]? := by
  cases v <;> first | rfl | exact absurd rfl (hv _) | exact absurd rfl (hs _)
theorem zipOf_lst {v u : PV} (hv : ∀ xs, v ≠ .tup xs) : zipOf h v u = (match asL h v, asL h u with
    | some xs, some ys => some (xs, ys)
    | _, _ => none) := by
  cases v <;> first | rfl | exact absurd rfl (hv _)
theorem asL_ref (w : Wd K R Z ρ h H) {v : PV} {a : Addr} {xs : List PV} (r : RV K H ρ (Lz Z ρ h) v (.ref a)) (e : asL h v = some xs) : ∃ ys, SqL K H a ys ∧ RVs K H ρ (Lz Z ρ h) xs ys := by
  obtain ⟨b, ys, e1, e2, e3⟩ := asL_ok w r e
  cases e1
  exact ⟨ys, e2, e3⟩
theorem none_of {α : Type} {xs : List α} {i : Nat} (e : xs[i]? = none) : xs.length ≤ i := List.getElem?_eq_none_iff.mp e
theorem RVs.none {xs : List PV} {ys : List V} {i : Nat} (r : RVs K H ρ (Lz Z ρ h) xs ys) (e : xs[i]? = none) : ys.length ≤ i := by rw [← r.length]; exact none_of e
theorem tup_at {xs : List PV} {a : Addr} (r : RV K H ρ (Lz Z ρ h) (.tup xs) (.ref a)) : ∃ ys, SqT K H a ys ∧ RVs K H ρ (Lz Z ρ h) xs ys := by
  cases r with | tup f t => exact ⟨_, f.sq, t⟩
theorem os_at (s : String) (i : Nat) : (os s).cps[i]? = s.toList[i]?.map Char.toNat := by
  show (Str.ofString s).cps[i]? = _
  rw [Str.ofString_eq_toList]
  simp
theorem RI.stop (w : Wd K R Z ρ h H) (r : RI K H ρ (Lz Z ρ h) iv J) {i : Nat} (e : itAt h iv i = some none) : J.stop i H := by
  cases r with
  | str s =>
    simp only [itAt, seqAt, Option.some.injEq, Option.map_eq_none_iff] at e
    show (os s).cps.size ≤ i
    have := none_of e
    rw [show (os s).cps.size = s.length from os_len s]
    rw [String.length_toList] at this
    exact this
  | @tup xs a r =>
    simp only [itAt, seqAt, asS, Option.map_some, Option.some.injEq] at e
    obtain ⟨ys, h1, h2⟩ := tup_at r
    exact ⟨ys, h1, h2.none e⟩
  | @lst v a hv hs r =>
    simp only [itAt, seqAt_lst hv hs] at e
    cases e1 : asL h v with
    | none => rw [e1] at e; cases e
    | some xs =>
      rw [e1] at e
      simp only [Option.map_some, Option.some.injEq] at e
      obtain ⟨ys, h1, h2⟩ := asL_ref w r e1
      exact ⟨ys, h1, h2.none e⟩
  | @etup xs a r =>
    simp only [itAt, asS, Option.map_some, Option.some.injEq, Option.map_eq_none_iff] at e
    obtain ⟨ys, h1, h2⟩ := tup_at r
    exact ⟨ys, h1, h2.none e⟩
  | @elst v a hv r =>
    simp only [itAt, asS_lst hv] at e
    cases e1 : asL h v with
    | none => rw [e1] at e; cases e
    | some xs =>
      rw [e1] at e
      simp only [Option.map_some, Option.some.injEq, Option.map_eq_none_iff] at e
      obtain ⟨ys, h1, h2⟩ := asL_ref w r e1
      exact ⟨ys, h1, h2.none e⟩
  | @ztup xs ys a b r q =>
    simp only [itAt, zipOf] at e
    obtain ⟨us, h1, h2⟩ := tup_at r
    obtain ⟨zs, h3, h4⟩ := tup_at q
    refine ⟨us, zs, h1, h3, ?_⟩
    cases ex : xs[i]? with
    | none => exact .inl (h2.none ex)
    | some x =>
      cases ey : ys[i]? with
      | none => exact .inr (h4.none ey)
      | some y => rw [ex, ey] at e; cases e
  | @zlst v u a b hv r q =>
    simp only [itAt, zipOf_lst hv] at e
    cases e1 : asL h v with
    | none => rw [e1] at e; cases e
    | some xs =>
      cases e2 : asL h u with
      | none => rw [e1, e2] at e; cases e
      | some ys =>
        rw [e1, e2] at e
        simp only at e
        obtain ⟨us, h1, h2⟩ := asL_ref w r e1
        obtain ⟨zs, h3, h4⟩ := asL_ref w q e2
        refine ⟨us, zs, h1, h3, ?_⟩
        cases ex : xs[i]? with
        | none => exact .inl (h2.none ex)
        | some x =>
          cases ey : ys[i]? with
          | none => exact .inr (h4.none ey)
          | some y => rw [ex, ey] at e; cases e
  | rng lo n =>
    simp only [itAt] at e
    split at e
    · cases e
    · rename_i hn; exact Nat.le_of_not_lt hn
theorem pair_new (w : Wd K R Z ρ h H) {T : Addr} {p q : PV} {x y : V} (e : H T = none) (r1 : RV K H ρ (Lz Z ρ h) p x) (r2 : RV K H ρ (Lz Z ρ h) q y) :
    Ext ρ h H ρ h (upd H T (.tup [x, y])) ∧ Wd K R Z ρ h (upd H T (.tup [x, y])) ∧ RV K (upd H T (.tup [x, y])) ρ (Lz Z ρ h) (.tup [p, q]) (.ref T) :=
  ⟨Ext.alloc e, w.alloc e, .tup (.inl ⟨upd_same, w.nlz e⟩) (.cons (r1.mono (Ext.alloc e)) (.cons (r2.mono (Ext.alloc e)) .nil))⟩
theorem RI.go (w : Wd K R Z ρ h H) (r : RI K H ρ (Lz Z ρ h) iv J) {i : Nat} {x : PV} (e : itAt h iv i = some (some x)) :
    J.go i H ∧ ∀ v H', J.yld i H v H' → Ext ρ h H ρ h H' ∧ Wd K R Z ρ h H' ∧ RV K H' ρ (Lz Z ρ h) x v := by
  cases r with
  | str s =>
    simp only [itAt, seqAt, Option.some.injEq, Option.map_eq_some_iff] at e
    obtain ⟨c, e, rfl⟩ := e
    have hc : (os s).cps[i]? = some c.toNat := by rw [os_at, e]; rfl
    refine ⟨?_, fun v H' ⟨eH, c', hc', ev⟩ => ?_⟩
    · show i < (os s).cps.size
      exact (Array.getElem?_eq_some_iff.mp hc).1
    · subst eH ev
      rw [hc] at hc'
      cases hc'
      refine ⟨Ext.refl, w, ?_⟩
      have z : (⟨#[c.toNat]⟩ : Str) = os (String.ofList [c]) := by
        show _ = Str.ofString _
        rw [Str.ofString_eq_toList]
        simp
      rw [z]
      exact .str _
  | @tup xs a r =>
    simp only [itAt, seqAt, asS, Option.map_some, Option.some.injEq] at e
    obtain ⟨ys, h1, h2⟩ := tup_at r
    obtain ⟨y, e1, e2⟩ := h2.get e
    refine ⟨⟨ys, y, h1, e1⟩, fun v H' ⟨eH, hy⟩ => ?_⟩
    subst eH
    have := hy ys h1
    rw [e1] at this; cases this
    exact ⟨Ext.refl, w, e2⟩
  | @lst v a hv hs r =>
    simp only [itAt, seqAt_lst hv hs] at e
    cases e1 : asL h v with
    | none => rw [e1] at e; cases e
    | some xs =>
      rw [e1] at e
      simp only [Option.map_some, Option.some.injEq] at e
      obtain ⟨ys, h1, h2⟩ := asL_ref w r e1
      obtain ⟨y, e2, e3⟩ := h2.get e
      refine ⟨⟨ys, y, h1, e2⟩, fun v H' ⟨eH, hy⟩ => ?_⟩
      subst eH
      have := hy ys h1
      rw [e2] at this; cases this
      exact ⟨Ext.refl, w, e3⟩
  | @etup xs a r =>
    simp only [itAt, asS, Option.map_some, Option.some.injEq, Option.map_eq_some_iff] at e
    obtain ⟨z, e, rfl⟩ := e
    obtain ⟨ys, h1, h2⟩ := tup_at r
    obtain ⟨y, e1, e2⟩ := h2.get e
    refine ⟨⟨ys, y, h1, e1⟩, fun v H' ⟨T, y', ev, hT, eH, hy⟩ => ?_⟩
    subst eH ev
    have := hy ys h1
    rw [e1] at this; cases this
    exact pair_new w hT (.int _) e2
  | @elst v a hv r =>
    simp only [itAt, asS_lst hv] at e
    cases e1 : asL h v with
    | none => rw [e1] at e; cases e
    | some xs =>
      rw [e1] at e
      simp only [Option.map_some, Option.some.injEq, Option.map_eq_some_iff] at e
      obtain ⟨z, e, rfl⟩ := e
      obtain ⟨ys, h1, h2⟩ := asL_ref w r e1
      obtain ⟨y, e2, e3⟩ := h2.get e
      refine ⟨⟨ys, y, h1, e2⟩, fun v H' ⟨T, y', ev, hT, eH, hy⟩ => ?_⟩
      subst eH ev
      have := hy ys h1
      rw [e2] at this; cases this
      exact pair_new w hT (.int _) e3
  | @ztup xs ys a b r q =>
    simp only [itAt, zipOf] at e
    cases ex : xs[i]? with
    | none => rw [ex] at e; cases e
    | some p =>
      cases ey : ys[i]? with
      | none => rw [ex, ey] at e; cases e
      | some q' =>
        rw [ex, ey] at e
        cases e
        obtain ⟨us, h1, h2⟩ := tup_at r
        obtain ⟨zs, h3, h4⟩ := tup_at q
        obtain ⟨u, e2, e3⟩ := h2.get ex
        obtain ⟨z, e4, e5⟩ := h4.get ey
        refine ⟨⟨us, zs, u, z, h1, h3, e2, e4⟩, fun v H' ⟨T, y1, y2, ev, hT, eH, hy1, hy2⟩ => ?_⟩
        subst eH ev
        have a1 := hy1 us h1
        rw [e2] at a1; cases a1
        have a2 := hy2 zs h3
        rw [e4] at a2; cases a2
        exact pair_new w hT e3 e5
  | @zlst v u a b hv r q =>
    simp only [itAt, zipOf_lst hv] at e
    cases e1 : asL h v with
    | none => rw [e1] at e; cases e
    | some xs =>
      cases e0 : asL h u with
      | none => rw [e1, e0] at e; cases e
      | some ys =>
        rw [e1, e0] at e
        simp only at e
        cases ex : xs[i]? with
        | none => rw [ex] at e; cases e
        | some p =>
          cases ey : ys[i]? with
          | none => rw [ex, ey] at e; cases e
          | some q' =>
            rw [ex, ey] at e
            cases e
            obtain ⟨us, h1, h2⟩ := asL_ref w r e1
            obtain ⟨zs, h3, h4⟩ := asL_ref w q e0
            obtain ⟨u', e2, e3⟩ := h2.get ex
            obtain ⟨z, e4, e5⟩ := h4.get ey
            refine ⟨⟨us, zs, u', z, h1, h3, e2, e4⟩, fun v H' ⟨T, y1, y2, ev, hT, eH, hy1, hy2⟩ => ?_⟩
            subst eH ev
            have a1 := hy1 us h1
            rw [e2] at a1; cases a1
            have a2 := hy2 zs h3
            rw [e4] at a2; cases a2
            exact pair_new w hT e3 e5
  | rng lo n =>
    simp only [itAt] at e
    split at e
    · rename_i hn
      cases e
      refine ⟨hn, fun v H' ⟨eH, ev⟩ => ?_⟩
      subst eH ev
      exact ⟨Ext.refl, w, .int _⟩
    · cases e
end

/-! ### PI -/
def tI (T : Tb) (R : Rw) (cf : CF) (W : WX) (K : PySem.W.Frag) (it : It) : TI := fun σ H Q => ∃ (Z : Addr → Prop) (ρ : List Addr) (σ' : Sg) (h : HP), Rs K R Z ρ h H σ' σ ∧ Po K R Z (RI K) ρ h H (evi T cf it σ' h) Q (fun c d H' => W c d σ H')
theorem PI.imp {X : Cx} {tg e : Expr} {t t' : TI} (h : PI X tg e t) (f : ∀ σ H Q, t' σ H Q → t σ H Q) : PI X tg e t' := ⟨fun pins s σ H Q I q => h.run pins s σ H Q I (f σ H Q q)⟩
section
variable {T : Tb} {R : Rw} {fA : String → Addr} {X : Cx} {d : Nat} {W : WX} {blk : Bool} {a b c : E} {l r m tg : Expr} {pos p apos : Pos} {es : List E} {rest : List Expr}
theorem i_seq (ha : PE X l (tv T R (fn T d) W X.K a)) : PI X tg l (tI T R (fn T d) W X.K (.seq a)) := by
  refine ⟨fun pins s σ H Q I ⟨Z, ρ, σ', h, rs, q⟩ => ?_⟩
  simp only [evi] at q
  cases e : ev T (fn T d) false a σ' h with
  | bad => rw [e] at q; exact q.elim
  | exc c h1 =>
    rw [e] at q
    exact (pi_list ha).run pins s σ H Q I ⟨Z, ρ, σ', h, rs, by rw [e]; exact q⟩
  | ok v h1 =>
    rw [e] at q
    simp only [LW.R.bind_ok] at q
    cases v with
    | str z =>
      refine (pi_str ha).run pins s σ H Q I ⟨Z, ρ, σ', h, rs, ?_⟩
      rw [e]
      intro ρ1 H1 x e1 w1 r1
      cases r1
      exact ⟨_, rfl, q ρ1 H1 _ e1 w1 (.str z)⟩
    | tup xs =>
      refine (pi_tup ha).run pins s σ H Q I ⟨Z, ρ, σ', h, rs, ?_⟩
      rw [e]
      intro ρ1 H1 x e1 w1 r1
      simp only [asS] at q
      cases r1 with
      | tup hf rr => exact ⟨_, rfl, ⟨_, hf.sq⟩, q ρ1 H1 _ e1 w1 (.tup (.tup hf rr))⟩
    | _ =>
      refine (pi_list ha).run pins s σ H Q I ⟨Z, ρ, σ', h, rs, ?_⟩
      rw [e]
      intro ρ1 H1 x e1 w1 r1
      simp only [asS] at q
      split at q
      · rename_i hx
        obtain ⟨b, ys, rfl, h2, h3⟩ := asL_ok w1 r1 hx
        exact ⟨_, rfl, ⟨_, h2⟩, q ρ1 H1 _ e1 w1 (.lst (fun _ z => nomatch z) (fun _ z => nomatch z) r1)⟩
      · exact q.elim
theorem i_range (C : CxE T R fA X d W blk) (hb : "range" ∈ R.blts) (hg : glB X.env.scope (os "range") = true) (hs : noStar l = true) (ha : PE X l (tv T R (fn T d) W X.K a)) : PI X tg (.Call (.Name (os "range") p) [l] [] pos) (tI T R (fn T d) W X.K (.range a)) := by
  refine PI.imp (pi_range1 (glB_ok hg) (C.fc.blt _ hb) (pa_cons ha pa_nil (starEach_cons hs)) (starEach_cons hs)) fun σ H Q ⟨Z, ρ, σ', h, rs, q⟩ => ⟨Z, ρ, σ', h, rs, ?_⟩
  simp only [evi] at q
  refine q.step fun x h1 ρ1 H1 x' _ e1 w1 r1 p1 => ?_
  cases r1 with
  | int j =>
    simp only at p1
    split at p1
    · rename_i hj
      simp only [Bool.and_eq_true, decide_eq_true_eq] at hj
      exact ⟨j, rfl, hj.1, hj.2, p1 ρ1 H1 _ Ext.refl w1 (.rng 0 _)⟩
    · exact p1.elim
  | _ => exact p1.elim
theorem i_range2 (C : CxE T R fA X d W blk) (hb : "range" ∈ R.blts) (hg : glB X.env.scope (os "range") = true) (hs : noStar l = true) (hs2 : noStar r = true) (ha : PE X l (tv T R (fn T d) W X.K a)) (hb' : PE X r (tv T R (fn T d) W X.K b)) :
    PI X tg (.Call (.Name (os "range") p) [l, r] [] pos) (tI T R (fn T d) W X.K (.range2 a b)) := by
  refine PI.imp (pi_range2 (glB_ok hg) (C.fc.blt _ hb) (pa_cons ha (pa_cons hb' pa_nil (starEach_cons hs2)) (starEach_cons hs)) (by rw [starEach_cons hs, starEach_cons hs2]; rfl) (starEach_cons hs2)) fun σ H Q ⟨Z, ρ, σ', h, rs, q⟩ => ⟨Z, ρ, σ', h, rs, ?_⟩
  simp only [evi] at q
  refine q.step fun x h1 ρ1 H1 x' _ e1 w1 r1 p1 => ⟨Z, ρ1, σ', h1, rs.go e1 w1, ?_⟩
  refine p1.step fun y h2 ρ2 H2 y' _ e2 w2 r2 p2 => ?_
  cases r1 with
  | int i =>
    cases r2 with
    | int j =>
      simp only at p2
      split at p2
      · rename_i hj
        simp only [Bool.and_eq_true, decide_eq_true_eq] at hj
        exact ⟨i, j, rfl, ⟨hj.1.1.1, hj.1.1.2, hj.1.2, hj.2⟩, p2 ρ2 H2 _ Ext.refl w2 (.rng i _)⟩
      · exact p2.elim
    | _ => exact p2.elim
  | _ => exact p2.elim
theorem i_enum (C : CxE T R fA X d W blk) {elts : List Expr} {kk : Nat} {tpos : Pos} (hb : "enumerate" ∈ R.blts) (hg : glB X.env.scope (os "enumerate") = true) (hs : noStar l = true) (ha : PE X l (tv T R (fn T d) W X.K a)) :
    PI X (.Tuple elts kk tpos) (.Call (.Name (os "enumerate") p) [l] [] pos) (tI T R (fn T d) W X.K (.enum a)) := by
  refine PI.imp (pi_enumA (glB_ok hg) (C.fc.blt _ hb) (pa_cons ha pa_nil (starEach_cons hs)) (starEach_cons hs)) fun σ H Q ⟨Z, ρ, σ', h, rs, q⟩ => ⟨Z, ρ, σ', h, rs, ?_⟩
  simp only [evi] at q
  refine q.step fun x h1 ρ1 H1 x' _ e1 w1 r1 p1 => ?_
  by_cases ht : ∃ xs, x = .tup xs
  · obtain ⟨xs, rfl⟩ := ht
    simp only [asS] at p1
    cases r1 with
    | tup hf rr => exact ⟨_, _, rfl, .inr ⟨hf.sq, p1 ρ1 H1 _ Ext.refl w1 (.etup (.tup hf rr))⟩⟩
  · have hv : ∀ xs, x ≠ .tup xs := fun xs z => ht ⟨xs, z⟩
    rw [asS_lst hv] at p1
    cases ea : asL h1 x with
    | none => rw [ea] at p1; exact p1.elim
    | some xs =>
      rw [ea] at p1
      obtain ⟨b, ys, rfl, h2, h3⟩ := asL_ok w1 r1 ea
      exact ⟨_, _, rfl, .inl ⟨h2, p1 ρ1 H1 _ Ext.refl w1 (.elst hv r1)⟩⟩
theorem i_zip (C : CxE T R fA X d W blk) {elts : List Expr} {kk : Nat} {tpos : Pos} (hb : "zip" ∈ R.blts) (hg : glB X.env.scope (os "zip") = true) (hs : noStar l = true) (hs2 : noStar r = true) (ha : PE X l (tv T R (fn T d) W X.K a)) (hb' : PE X r (tv T R (fn T d) W X.K b)) :
    PI X (.Tuple elts kk tpos) (.Call (.Name (os "zip") p) [l, r] [] pos) (tI T R (fn T d) W X.K (.zip a b)) := by
  refine PI.imp (RZ.pi_zipA (glB_ok hg) (C.fc.blt _ hb) (pa_cons ha (pa_cons hb' pa_nil (starEach_cons hs2)) (starEach_cons hs)) (starEach_cons hs) (starEach_all (es := [r]) (by simp [hs2]) _).1) fun σ H Q ⟨Z, ρ, σ', h, rs, q⟩ => ⟨Z, ρ, σ', h, rs, ?_⟩
  simp only [evi] at q
  refine q.step fun x h1 ρ1 H1 x' _ e1 w1 r1 p1 => ⟨Z, ρ1, σ', h1, rs.go e1 w1, ?_⟩
  refine p1.step fun y h2 ρ2 H2 y' _ e2 w2 r2 p2 => ?_
  have r1' := r1.mono e2
  by_cases ht : ∃ xs, x = .tup xs
  · obtain ⟨xs, rfl⟩ := ht
    cases y with
    | tup ys =>
      simp only [zipOf] at p2
      cases r1' with
      | tup hf rr =>
        cases r2 with
        | tup hf2 rr2 => exact ⟨_, _, _, _, rfl, .inr ⟨hf.sq, hf2.sq, p2 ρ2 H2 _ Ext.refl w2 (.ztup (.tup hf rr) (.tup hf2 rr2))⟩⟩
    | _ => simp only [zipOf] at p2; exact p2.elim
  · have hv : ∀ xs, x ≠ .tup xs := fun xs z => ht ⟨xs, z⟩
    rw [zipOf_lst hv] at p2
    cases ea : asL h2 x with
    | none => rw [ea] at p2; exact p2.elim
    | some xs =>
      cases eb : asL h2 y with
      | none => rw [ea, eb] at p2; exact p2.elim
      | some ys =>
        rw [ea, eb] at p2
        obtain ⟨b1, us, rfl, h3, h4⟩ := asL_ok w2 r1' ea
        obtain ⟨b2, zs, rfl, h5, h6⟩ := asL_ok w2 r2 eb
        exact ⟨_, _, _, _, rfl, .inl ⟨h3, h5, p2 ρ2 H2 _ Ext.refl w2 (.zlst hv r1' r2)⟩⟩
end
end LW
/-! LwH: targets, comprehensions. -/
namespace LW
open PySem L2
mutual
/-- the slots that a target stores to -/
def slots : Tg → List Nat
  | .name i _ => [i]
  | .tup ts => slotss ts
  | .attr _ _ => []
  | .sub _ _ => []
def slotss : List Tg → List Nat
  | [] => []
  | t :: ts => slots t ++ slotss ts
end
/-- the slots behind a store -/
def RG (K : PySem.W.Frag) (js : List Nat) (σ : St) : Hp → List Addr → (Addr → Prop) → Sg → St → Prop := fun H ρ L σ1' σ1 => RS K H ρ L σ1' σ1 ∧ σ1'.length = σ1.length ∧ σ1.length = σ.length ∧ ∀ j, j ∉ js → σ1[j]? = σ[j]?
def tG (T : Tb) (R : Rw) (cf : CF) (W : WX) (K : PySem.W.Frag) (tg : Tg) : TG := fun v σ H Q => ∃ (Z : Addr → Prop) (ρ : List Addr) (σ' : Sg) (h : HP) (pv : PV), Rs K R Z ρ h H σ' σ ∧ RV K H ρ (Lz Z ρ h) pv v ∧ Po K R Z (RG K (slots tg) σ) ρ h H (asg T cf tg pv σ' h) Q (fun c d H' => W c d σ H')
def tGs (T : Tb) (R : Rw) (cf : CF) (W : WX) (K : PySem.W.Frag) (ts : List Tg) : TGs := fun vs σ H Q => ∃ (Z : Addr → Prop) (ρ : List Addr) (σ' : Sg) (h : HP) (pvs : List PV), Rs K R Z ρ h H σ' σ ∧ RVs K H ρ (Lz Z ρ h) pvs vs ∧ Po K R Z (RG K (slotss ts) σ) ρ h H (asgs T cf ts pvs σ' h) Q (fun c d H' => W c d σ H')
theorem PG.imp {X : Cx} {e : Expr} {t t' : TG} (h : PG X e t) (f : ∀ v σ H Q, t' v σ H Q → t v σ H Q) : PG X e t' := ⟨fun pins s σ H v u Q I r q => h.run pins s σ H v u Q I r (f v σ H Q q)⟩
theorem PGs.imp {X : Cx} {e : List Expr} {t t' : TGs} (h : PGs X e t) (f : ∀ v σ H Q, t' v σ H Q → t v σ H Q) : PGs X e t' := ⟨fun pins s σ H v u Q I r q => h.run pins s σ H v u Q I r (f v σ H Q q)⟩
def locB (blk : Bool) (sc : Scope) (x : Str) : Bool := match sc.names.lookup x with
  | some .local => true
  | some .cell => !blk
  | _ => false
theorem locB_ok {T : Tb} {R : Rw} {fA : String → Addr} {X : Cx} {d : Nat} {W : WX} {blk : Bool} (C : CxE T R fA X d W blk) {x : Str} (h : locB blk X.env.scope x = true) : Loc X.env.scope x ∧ (X.fn x = true ∨ X.env.scope.names.lookup x = some .local) := by
  unfold locB at h
  split at h
  · rename_i e; exact ⟨.inl e, .inr e⟩
  · rename_i e; exact ⟨.inr e, .inl (C.fn (by simpa using h) x)⟩
  · cases h
theorem assignEach_cons {e : Expr} {es : List Expr} {env : Env} (h : noStar e = true) : assignEach (e :: es) env = (false, assign e env) :: assignEach es env := by
  cases e <;> first | rfl | (simp [noStar] at h)
theorem assignEach_all {env : Env} : ∀ {es : List Expr}, es.all noStar = true → (assignEach es env).length = es.length ∧ (assignEach es env).findIdx? (·.1) = none
  | [], _ => ⟨rfl, rfl⟩
  | e :: es, h => by
    simp only [List.all_cons, Bool.and_eq_true] at h
    rw [assignEach_cons h.1]
    obtain ⟨h1, h2⟩ := assignEach_all (env := env) (es := es) h.2
    refine ⟨by simp [h1], ?_⟩
    rw [List.findIdx?_cons]
    simp [h2]
theorem RG.refl {K : PySem.W.Frag} {R : Rw} {js : List Nat} {Z : Addr → Prop} {ρ : List Addr} {h : HP} {H : Hp} {σ' : Sg} {σ : St} (r : Rs K R Z ρ h H σ' σ) : RG K js σ H ρ (Lz Z ρ h) σ' σ := ⟨r.rs, r.len, rfl, fun _ _ => rfl⟩
section
variable {T : Tb} {R : Rw} {fA : String → Addr} {X : Cx} {d : Nat} {W : WX} {blk : Bool} {a b c : E} {l r m tg : Expr} {pos p apos : Pos} {es : List E} {rest : List Expr}
theorem g_name (C : CxE T R fA X d W blk) {i : Nat} {x : String} {y : Str} (hi : X.N[i]? = some y) (hx : locB blk X.env.scope y = true) : PG X (.Name y pos) (tG T R (fn T d) W X.K (.name i x)) := by
  obtain ⟨h1, h2⟩ := locB_ok C hx
  refine PG.imp (pg_name C.nd hi h1 h2) fun v σ H Q ⟨Z, ρ, σ', h, pv, rs, rv, p⟩ => ?_
  simp only [asg] at p
  refine p ρ H (σ.set i (some v)) Ext.refl rs.wd ⟨rs.rs.set (Nat.le_of_eq rs.len) rv, by simp [rs.len], by simp, fun j hj => ?_⟩
  simp only [slots, List.mem_singleton] at hj
  rw [List.getElem?_set_ne (Ne.symm hj)]
theorem asgs_calm {T : Tb} {cf : CF} {c : String} : ∀ {ts : List Tg} {xs : List PV} {σ : Sg} {h h' : HP}, asgs T cf ts xs σ h ≠ .exc c h'
  | [], xs, _, _, _, e => by simp only [asgs] at e; cases xs <;> cases e
  | t :: ts, xs, σ, h, h', e => by
    simp only [asgs] at e
    cases xs with
    | nil => cases e
    | cons x xs =>
      simp only at e
      cases ea : asg T cf t x σ h with
      | ok s1 h1 => rw [ea] at e; exact asgs_calm e
      | exc c1 h1 => rw [ea] at e; cases e
      | bad => rw [ea] at e; cases e
theorem g_nil : PGs X [] (tGs T R (fn T d) W X.K []) := by
  refine PGs.imp pgs_nil fun v σ H Q ⟨Z, ρ, σ', h, pvs, rs, rv, p⟩ => ?_
  simp only [asgs] at p
  cases rv with
  | cons _ _ => exact p.elim
  | nil => exact ⟨rfl, p ρ H σ Ext.refl rs.wd (RG.refl rs)⟩
theorem g_cons {t : Tg} {ts : List Tg} (h1 : PG X l (tG T R (fn T d) W X.K t)) (h2 : PGs X rest (tGs T R (fn T d) W X.K ts)) (hs : noStar l = true) : PGs X (l :: rest) (tGs T R (fn T d) W X.K (t :: ts)) := by
  refine PGs.imp (pgs_cons h1 h2 (by rw [assignEach_cons hs]; rfl)) fun v σ H Q ⟨Z, ρ, σ', h, pvs, rs, rv, p⟩ => ?_
  simp only [asgs] at p
  cases rv with
  | nil => exact p.elim
  | @cons x y xs ys r1 r2 =>
    simp only at p
    refine ⟨y, ys, rfl, Z, ρ, σ', h, x, rs, r1, ?_⟩
    refine p.stepC fun s1 h1 ρ1 H1 s1' _ e1 w1 q1 p1 => ?_
    obtain ⟨q1, q2, q3, q4⟩ := q1
    refine ⟨Z, ρ1, s1, h1, xs, ⟨w1, q1, q2⟩, r2.mono e1, ?_⟩
    cases ea : asgs T (fn T d) ts xs s1 h1 with
    | bad => rw [ea] at p1; exact p1.elim
    | exc c h2 => exact absurd ea asgs_calm
    | ok s2 h2 =>
      rw [ea] at p1
      intro ρ' H' b e w ⟨g1, g2, g3, g4⟩
      refine p1 ρ' H' b e w ⟨g1, g2, g3.trans q3, fun j hj => ?_⟩
      simp only [slotss, List.mem_append, not_or] at hj
      rw [g4 j hj.2, q4 j hj.1]
theorem g_tup (C : CxE T R fA X d W blk) {ts : List Tg} {k : Nat} (h : PGs X rest (tGs T R (fn T d) W X.K ts)) (hs : rest.all noStar = true) (hn : rest.length = ts.length) : PG X (.Tuple rest k pos) (tG T R (fn T d) W X.K (.tup ts)) := by
  obtain ⟨a1, a2⟩ := assignEach_all (env := X.env) hs
  refine ⟨fun pins s σ H v u Q I rv ⟨Z, ρ, σ', hh, pv, rs, rp, p⟩ => ?_⟩
  simp only [asg] at p
  cases ea : asS hh pv with
  | none => rw [ea] at p; exact p.elim
  | some xs =>
    rw [ea] at p
    simp only at p
    split at p
    case isFalse => exact p.elim
    rename_i hlen
    obtain ⟨ad, ys, rfl, hq, r2⟩ := asS_ok rs.wd rp ea
    have hl : ys.length = rest.length := by rw [hn, ← r2.length]; exact hlen
    rcases hq with hq | hq
    · exact (pg_lst C.calm h a1 a2).run pins s σ H _ u Q I rv ⟨ad, ys, rfl, hq, hl, Z, ρ, σ', hh, xs, rs, r2, p⟩
    · exact (pg_tup C.calm h a1 a2).run pins s σ H _ u Q I rv ⟨ad, ys, rfl, hq, hl, Z, ρ, σ', hh, xs, rs, r2, p⟩
/-! ### o[i] = v -/
theorem set_ok (hu : X.A.units + 1 < cLine) : PSet X (fun o i v H Q => ∃ (Z : Addr → Prop) (ρ : List Addr) (h : HP) (po pi pv : PV) (h' : HP), Wd X.K R Z ρ h H ∧ RV X.K H ρ (Lz Z ρ h) po o ∧ RV X.K H ρ (Lz Z ρ h) pi i ∧ RV X.K H ρ (Lz Z ρ h) pv v ∧ setv h po pi pv = some h' ∧ ∀ H', Ext ρ h H ρ h' H' → Wd X.K R Z ρ h' H' → Q H') := by
  intro pins s σ H o i v ov iv u Q I ro ri rv ⟨Z, ρ, h, po, pi, pv, h', w, r1, r2, r3, e, k⟩
  cases r1 with
  | @ref n pa en =>
    simp only [setv] at e
    cases eh : h[n]? with
    | none => rw [eh] at e; cases e
    | some ob =>
      rw [eh] at e
      cases ob with
      | lst xs =>
        cases r2 with
        | int j =>
          simp only [Option.map_eq_some_iff] at e
          obtain ⟨q, e1, rfl⟩ := e
          obtain ⟨ys, hy, r4⟩ := w.ob n pa _ en eh
          have no : MO.lst xs ≠ .dead := fun z => nomatch z
          have e3 : Ext ρ h H ρ (h.set n (.lst (xs.set q pv))) (upd H pa (.lst (ys.set q v))) := Ext.set en eh no
          exact set_list pins s σ H _ _ v ov iv u Q I ro ri rv ⟨pa, ys, j, q, rfl, rfl, hy, by rw [← r4.length, ← ixP_eq]; exact e1, k _ e3 (w.set en eh no ⟨_, upd_same, (r4.set r3 q).mono e3⟩)⟩
        | _ => cases e
      | dct kvs =>
        simp only at e
        cases ek : dkOf pi with
        | none => rw [ek] at e; cases e
        | some kk =>
          rw [ek] at e
          simp only at e
          split at e
          · rename_i hlt
            cases e
            obtain ⟨ys, hy, r4⟩ := w.ob n pa _ en eh
            have no : MO.dct kvs ≠ .dead := fun z => nomatch z
            have e3 : Ext ρ h H ρ (h.set n (.dct (dput kvs kk pv))) (upd H pa (.dK (putK ys (dkK kk) v))) := Ext.set en eh no
            have ey := dkOf_ok r2 ek
            subst ey
            obtain rfl : ov = Value.ref pa := ro
            obtain ⟨d1, d2⟩ := dput_ok r4 kk r3
            refine d_setItem hu I (DPut.k (k := dkK kk) (v := v) hy (by rw [← r4.len, ← line_eq]; exact hlt)) ri rv fun s4 I4 => ⟨_, I4, k _ e3 (w.set en eh no ⟨_, upd_same, d1, d2.mono e3⟩)⟩
          · cases e
      | _ => cases e
  | _ => simp [setv] at e
theorem g_sub (C : CxE T R fA X d W blk) (ha : PE X l (tv T R (fn T d) W X.K a)) (hb : PE X r (tv T R (fn T d) W X.K b)) (hp : ∀ v, assign (.Subscript l r pos) X.env v = (do
      let ov ← holding [v] (eval l X.env)
      let iv ← holding [v, ov] (eval r X.env)
      standAt pos
      holding [v, ov, iv] (setItem ov iv v)
      release [v, ov, iv] [])) : PG X (.Subscript l r pos) (tG T R (fn T d) W X.K (.sub a b)) := by
  refine PG.imp (pg_sub ha hb (set_ok (R := R) (by have := C.room.un; omega)) hp) fun v σ H Q ⟨Z, ρ, σ', h, pv, rs, rv, p⟩ => ⟨Z, ρ, σ', h, rs, ?_⟩
  simp only [asg] at p
  refine p.step fun x h1 ρ1 H1 x' _ e1 w1 r1 p1 => ⟨Z, ρ1, σ', h1, rs.go e1 w1, ?_⟩
  refine p1.step fun y h2 ρ2 H2 y' _ e2 w2 r2 p2 => ?_
  cases es : setv h2 x y pv with
  | none => rw [es] at p2; exact p2.elim
  | some h3 =>
    rw [es] at p2
    refine ⟨Z, ρ2, h2, x, y, pv, h3, w2, r1.mono e2, r2, (rv.mono e1).mono e2, es, fun H' e3 w3 => ?_⟩
    have rs3 := ((rs.go e1 w1).go e2 w2).go e3 w3
    exact p2 ρ2 H' σ e3 w3 (RG.refl rs3)
/-! ### a comprehension -/
theorem calm_bind {α β : Type} {x : LW.R α} {k : α → HP → LW.R β} : (x.bind k).calm = x.calm.bind fun a h => (k a h).calm := by cases x <;> rfl
theorem bind_assoc {α β γ : Type} {x : LW.R α} {k : α → HP → LW.R β} {g : β → HP → LW.R γ} : (x.bind k).bind g = x.bind fun a h => (k a h).bind g := by cases x <;> rfl
def tIfs (T : Tb) (R : Rw) (cf : CF) (W : WX) (K : PySem.W.Frag) (es : List E) : TT := fun σ H Q => ∃ (Z : Addr → Prop) (ρ : List Addr) (σ' : Sg) (h : HP), Rs K R Z ρ h H σ' σ ∧ Po K R Z RB ρ h H (evIfs T cf es σ' h) Q (fun c d H' => W c d σ H')
theorem PTs.imp {X : Cx} {e : List Expr} {t t' : TT} (h : PTs X e t) (f : ∀ σ H Q, t' σ H Q → t σ H Q) : PTs X e t' := ⟨fun pins s σ H Q I q => h.run pins s σ H Q I (f σ H Q q)⟩
theorem ifs_nil : PTs X [] (tIfs T R (fn T d) W X.K []) := PTs.imp pts_nil fun σ H Q ⟨Z, ρ, σ', h, rs, p⟩ => p ρ H true Ext.refl rs.wd rfl
theorem ifs_one (ha : PT X l (tt T R (fn T d) W X.K a)) : PTs X [l] (tIfs T R (fn T d) W X.K [a]) := PTs.imp (pts_one ha) fun σ H Q ⟨Z, ρ, σ', h, rs, p⟩ => ⟨Z, ρ, σ', h, rs, by simpa only [evIfs] using p⟩
theorem wipe_at : ∀ (vs : List Nat) (σ : St) (j : Nat), (L2.wipe σ vs)[j]? = if j ∈ vs then σ[j]?.map fun _ => none else σ[j]?
  | [], σ, j => by simp [L2.wipe]
  | v :: vs, σ, j => by
    unfold L2.wipe
    by_cases hj : j = v
    · subst hj
      by_cases hlt : j < (L2.wipe σ vs).length
      · rw [List.getElem?_set_self hlt, if_pos List.mem_cons_self]
        rw [L2.wipe_length] at hlt
        rw [List.getElem?_eq_getElem hlt]
        rfl
      · rw [L2.wipe_length] at hlt
        rw [List.getElem?_eq_none (by rw [List.length_set, L2.wipe_length]; omega), if_pos List.mem_cons_self, List.getElem?_eq_none (by omega)]
        rfl
    · rw [List.getElem?_set_ne (Ne.symm hj), wipe_at vs σ j]
      simp [hj]
theorem wipe_eq {vs : List Nat} {σ σ1 : St} (hl : σ1.length = σ.length) (h : ∀ j, j ∉ vs → σ1[j]? = σ[j]?) : L2.wipe σ1 vs = L2.wipe σ vs := by
  apply List.ext_getElem?
  intro j
  rw [wipe_at, wipe_at]
  by_cases hj : j ∈ vs
  · rw [if_pos hj, if_pos hj]
    by_cases hlt : j < σ.length
    · rw [List.getElem?_eq_getElem hlt, List.getElem?_eq_getElem (by omega)]; rfl
    · rw [List.getElem?_eq_none (by omega), List.getElem?_eq_none (by omega)]
  · rw [if_neg hj, if_neg hj, h j hj]
theorem wipe_len : ∀ (vs : List Nat) (σ : Sg), (LW.wipe σ vs).length = σ.length
  | [], _ => rfl
  | v :: vs, σ => by unfold LW.wipe; rw [List.length_set, wipe_len vs σ]
theorem wipe_get : ∀ (vs : List Nat) {σ : Sg} {j : Nat} {x : PV}, (LW.wipe σ vs)[j]? = some (some x) → σ[j]? = some (some x) ∧ j ∉ vs
  | [], _, _, _, e => ⟨e, by simp⟩
  | v :: vs, σ, j, x, e => by
    unfold LW.wipe at e
    by_cases hj : j = v
    · subst hj
      by_cases hlt : j < (LW.wipe σ vs).length
      · rw [List.getElem?_set_self hlt] at e; cases e
      · rw [List.getElem?_eq_none (by rw [List.length_set]; omega)] at e; cases e
    · rw [List.getElem?_set_ne (Ne.symm hj)] at e
      obtain ⟨h1, h2⟩ := wipe_get vs e
      exact ⟨h1, by simp [hj, h2]⟩
theorem Rs.wipe {K : PySem.W.Frag} {R : Rw} {Z : Addr → Prop} {ρ : List Addr} {h : HP} {H : Hp} {σ' : Sg} {σ : St} (r : Rs K R Z ρ h H σ' σ) (vs : List Nat) : Rs K R Z ρ h H (LW.wipe σ' vs) (L2.wipe σ vs) := by
  refine ⟨r.wd, fun i v e => ?_, by rw [wipe_len, L2.wipe_length]; exact r.len⟩
  obtain ⟨e1, e2⟩ := wipe_get vs e
  obtain ⟨u, e3, e4⟩ := r.rs i v e1
  exact ⟨u, by rw [wipe_at, if_neg e2]; exact e3, e4⟩
/-- nothing is raised in a block -/
abbrev WF : WX := fun _ _ _ _ => False
/-- one turn, as the small Python has it -/
def stepC (T : Tb) (cf : CF) (tgt : Tg) (ifs : List E) (a : E) (σ : Sg) (x : PV) (h : HP) : LW.R (Option PV) :=
  ((asg T cf tgt x σ h).bind fun σ1 h => (evIfs T cf ifs σ1 h).bind fun b h => match b with
      | .bl false => .ok none h
      | .bl true => (ev T cf false a σ1 h).bind fun y h => .ok (some y) h
      | _ => .bad).calm
/-- .. to the layer's turn -/
theorem turn_read {σ : St} {σ' : Sg} {Z : Addr → Prop} {ρ : List Addr} {h : HP} {H : Hp} {vs : List Nat} {tgt : Tg} {ifs : List E} {x : PV} {xv : V} {Y : V → Hp → Prop} {Nn : Hp → Prop}
    (rs : Rs X.K R Z ρ h H σ' σ) (rx : RV X.K H ρ (Lz Z ρ h) x xv) (hsl : ∀ j ∈ slots tgt, j ∈ vs) (hne : stepC T (fn T d) tgt ifs a (LW.wipe σ' vs) x h ≠ .bad)
    (hy : ∀ y yv ρ1 h1 H1, stepC T (fn T d) tgt ifs a (LW.wipe σ' vs) x h = .ok (some y) h1 → Ext ρ h H ρ1 h1 H1 → Wd X.K R Z ρ1 h1 H1 → RV X.K H1 ρ1 (Lz Z ρ1 h1) y yv → Y yv H1)
    (hn : ∀ ρ1 h1 H1, stepC T (fn T d) tgt ifs a (LW.wipe σ' vs) x h = .ok none h1 → Ext ρ h H ρ1 h1 H1 → Wd X.K R Z ρ1 h1 H1 → Nn H1) :
    tG T R (fn T d) WF X.K tgt xv (L2.wipe σ vs) H fun σ2 H2 => L2.wipe σ2 vs = L2.wipe σ vs ∧ tIfs T R (fn T d) WF X.K ifs σ2 H2 fun b H3 => if b = true then tv T R (fn T d) WF X.K a σ2 H3 Y else Nn H3 := by
  refine ⟨Z, ρ, LW.wipe σ' vs, h, x, rs.wipe vs, rx, ?_⟩
  unfold stepC at hne hy hn
  cases ea : asg T (fn T d) tgt x (LW.wipe σ' vs) h with
  | bad => rw [ea] at hne; exact absurd rfl hne
  | exc c h1 => rw [ea] at hne; exact absurd rfl hne
  | ok s1 h1 =>
    rw [ea] at hne hy hn
    simp only [LW.R.bind_ok] at hne hy hn
    intro ρ1 H1 σ2 e1 w1 ⟨g1, g2, g3, g4⟩
    refine ⟨?_, Z, ρ1, s1, h1, ⟨w1, g1, g2⟩, ?_⟩
    · have z : L2.wipe σ2 vs = L2.wipe (L2.wipe σ vs) vs := wipe_eq g3 fun j hj => g4 j fun hm => hj (hsl j hm)
      rw [z]
      refine wipe_eq (L2.wipe_length _ _) fun j hj => ?_
      rw [wipe_at, if_neg hj]
    · cases ei : evIfs T (fn T d) ifs s1 h1 with
      | bad => rw [ei] at hne; exact absurd rfl hne
      | exc c h2 => rw [ei] at hne; exact absurd rfl hne
      | ok b h2 =>
        rw [ei] at hne hy hn
        simp only [LW.R.bind_ok] at hne hy hn
        intro ρ2 H2 b' e2 w2 r2
        subst r2
        cases b' with
        | false => exact iteF (hn ρ2 h2 H2 rfl (e1.trans e2) w2)
        | true =>
          refine iteT ⟨Z, ρ2, s1, h2, (Rs.mk w1 g1 g2).go e2 w2, ?_⟩
          simp only at hne hy hn
          cases ee : ev T (fn T d) false a s1 h2 with
          | bad => rw [ee] at hne; exact absurd rfl hne
          | exc c h3 => rw [ee] at hne; exact absurd rfl hne
          | ok y h3 =>
            rw [ee] at hy
            intro ρ3 H3 y' e3 w3 r3
            exact hy y y' ρ3 h3 H3 rfl ((e1.trans e2).trans e3) w3 r3
/-! the list that is being made is reserved -/
section
variable {K : PySem.W.Frag} {Z : Addr → Prop} {ρ : List Addr} {h : HP} {H : Hp} {D : Addr}
def Zd (Z : Addr → Prop) (D : Addr) : Addr → Prop := fun a => Z a ∨ a = D
theorem nlz_zd {a : Addr} {o : HO} (hD : H D = none) (e : H a = some o) (n : ¬ Lz Z ρ h a) : ¬ Lz (Zd Z D) ρ h a := fun l => l.elim (fun l => n (.inl l)) fun z => z.elim (fun z => n (.inr z)) fun z => by rw [z, hD] at e; cases e
mutual
theorem RV.res (hD : H D = none) (o : HO) : ∀ {p : PV} {v : V}, RV K H ρ (Lz Z ρ h) p v → RV K (upd H D o) ρ (Lz (Zd Z D) ρ h) p v
  | .non, _, r => by cases r; exact .non
  | .bl _, _, r => by cases r; exact .bl _
  | .int _, _, r => by cases r; exact .int _
  | .str _, _, r => by cases r; exact .str _
  | .ref _, _, r => by cases r with | ref e => exact .ref e
  | .tup xs, _, r => by
    cases r with
    | tup e t =>
      refine .tup ?_ (RVs.res hD o t)
      rcases e with ⟨e, n⟩ | e
      · exact .inl ⟨by rw [upd_ne (ne_of_none e hD)]; exact e, nlz_zd hD e n⟩
      · exact .inr e
  | .lst xs, _, r => by
    cases r with
    | lst e n t => exact .lst (by rw [upd_ne (ne_of_none e hD)]; exact e) (nlz_zd hD e n) (RVs.res hD o t)
  | .fls xs, _, r => by
    cases r with
    | fls e t =>
      refine .fls ?_ (RVs.res hD o t)
      rcases e with ⟨u, e, n⟩ | e
      · exact .inl ⟨u, by rw [upd_ne (ne_of_none e hD)]; exact e, nlz_zd hD e n⟩
      · exact .inr e
theorem RVs.res (hD : H D = none) (o : HO) : ∀ {p : List PV} {v : List V}, RVs K H ρ (Lz Z ρ h) p v → RVs K (upd H D o) ρ (Lz (Zd Z D) ρ h) p v
  | [], _, r => by cases r; exact .nil
  | _ :: _, _, r => by cases r with | cons a t => exact .cons (RV.res hD o a) (RVs.res hD o t)
end
theorem Wd.res (w : Wd K R Z ρ h H) (hD : H D = none) (o : HO) : Wd K R (Zd Z D) ρ h (upd H D o) := by
  refine ⟨w.len, w.nd, fun a z => ?_, fun n a ob q1 q2 => ?_⟩
  · rcases z with z | z
    · obtain ⟨⟨u, q⟩, m⟩ := w.zs a z
      exact ⟨⟨u, by rw [upd_ne (ne_of_none q hD)]; exact q⟩, m⟩
    · subst z
      exact ⟨⟨o, upd_same⟩, w.free hD⟩
  · have r := w.ob n a ob q1 q2
    obtain ⟨z, qz⟩ := r.some_
    have e : upd H D o a = H a := upd_ne (ne_of_none qz hD)
    cases ob with
    | lst xs => obtain ⟨ys, q, t⟩ := r; exact ⟨ys, e.trans q, t.res hD o⟩
    | dct kvs => obtain ⟨ys, q, k, t⟩ := r; exact ⟨ys, e.trans q, k, t.res hD o⟩
    | ins C fs => obtain ⟨c, dx, ys, q, k, t⟩ := r; exact ⟨c, dx, ys, e.trans q, k, t.res hD o⟩
    | dead => obtain ⟨u, q⟩ := r; exact ⟨u, e.trans q⟩
theorem ne_res {L : Addr → Prop} {a D : Addr} (hL : L D) (n : ¬ L a) : a ≠ D := fun z => n (by rw [z]; exact hL)
mutual
theorem RV.grow {L : Addr → Prop} (hL : L D) (o : HO) : ∀ {p : PV} {v : V}, RV K H ρ L p v → RV K (upd H D o) ρ L p v
  | .non, _, r => by cases r; exact .non
  | .bl _, _, r => by cases r; exact .bl _
  | .int _, _, r => by cases r; exact .int _
  | .str _, _, r => by cases r; exact .str _
  | .ref _, _, r => by cases r with | ref e => exact .ref e
  | .tup xs, _, r => by
    cases r with
    | tup e t =>
      refine .tup ?_ (RVs.grow hL o t)
      rcases e with ⟨e, n⟩ | e
      · exact .inl ⟨by rw [upd_ne (ne_res hL n)]; exact e, n⟩
      · exact .inr e
  | .lst xs, _, r => by cases r with | lst e n t => exact .lst (by rw [upd_ne (ne_res hL n)]; exact e) n (RVs.grow hL o t)
  | .fls xs, _, r => by
    cases r with
    | fls e t =>
      refine .fls ?_ (RVs.grow hL o t)
      rcases e with ⟨u, e, n⟩ | e
      · exact .inl ⟨u, by rw [upd_ne (ne_res hL n)]; exact e, n⟩
      · exact .inr e
theorem RVs.grow {L : Addr → Prop} (hL : L D) (o : HO) : ∀ {p : List PV} {v : List V}, RVs K H ρ L p v → RVs K (upd H D o) ρ L p v
  | [], _, r => by cases r; exact .nil
  | _ :: _, _, r => by cases r with | cons a t => exact .cons (RV.grow hL o a) (RVs.grow hL o t)
end
theorem Wd.grow (w : Wd K R Z ρ h H) (hZ : Z D) (o : HO) : Wd K R Z ρ h (upd H D o) := by
  refine ⟨w.len, w.nd, fun a z => ?_, fun n a ob q1 q2 => ?_⟩
  · obtain ⟨⟨u, q⟩, m⟩ := w.zs a z
    by_cases e : a = D
    · subst e; exact ⟨⟨o, upd_same⟩, m⟩
    · exact ⟨⟨u, by rw [upd_ne e]; exact q⟩, m⟩
  · have r := w.ob n a ob q1 q2
    have ne : a ≠ D := fun z => (w.zs D hZ).2 (by rw [← z]; exact List.mem_of_getElem? q1)
    have e : upd H D o a = H a := upd_ne ne
    have hL : Lz Z ρ h D := .inr hZ
    cases ob with
    | lst xs => obtain ⟨ys, q, t⟩ := r; exact ⟨ys, e.trans q, t.grow hL o⟩
    | dct kvs => obtain ⟨ys, q, k, t⟩ := r; exact ⟨ys, e.trans q, k, t.grow hL o⟩
    | ins C fs => obtain ⟨c, dx, ys, q, k, t⟩ := r; exact ⟨c, dx, ys, e.trans q, k, t.grow hL o⟩
    | dead => obtain ⟨u, q⟩ := r; exact ⟨u, e.trans q⟩
/-- it is done: no longer reserved -/
theorem Wd.unres (w : Wd K R (Zd Z D) ρ h H) : Wd K R Z ρ h H := by
  have hL : ∀ a, Lz Z ρ h a → Lz (Zd Z D) ρ h a := fun a l => l.imp id .inl
  have bl : ∀ {xs : List PV} {ys : List V}, RVs K H ρ (Lz (Zd Z D) ρ h) xs ys → RVs K H ρ (Lz Z ρ h) xs ys := fun r => r.restrict (List.prefix_refl _) hL r.bels
  refine ⟨w.len, w.nd, fun a z => w.zs a (.inl z), fun n a ob q1 q2 => ?_⟩
  have r := w.ob n a ob q1 q2
  cases ob with
  | lst xs => obtain ⟨ys, q, t⟩ := r; exact ⟨ys, q, bl t⟩
  | dct kvs => obtain ⟨ys, q, k, t⟩ := r; exact ⟨ys, q, k, bl t⟩
  | ins C fs => obtain ⟨c, dx, ys, q, k, t⟩ := r; exact ⟨c, dx, ys, q, k, bl t⟩
  | dead => exact r
end
theorem lc_read0 {σ : St} {H : Hp} {Q : VK} {tgt : Tg} {it : It} {ifs : List E} {own : List (String × Nat)} {vs : List Nat} (hvs : vs = own.map (·.2)) (hsl : ∀ j ∈ slots tgt, j ∈ vs)
    (h0 : tv T R (fn T d) W X.K (.comp false a tgt it ifs own) σ H Q) : tLc (tI T R (fn T d) W X.K it) (tG T R (fn T d) WF X.K tgt) (tIfs T R (fn T d) WF X.K ifs) (tv T R (fn T d) WF X.K a) vs σ H Q := by
  subst hvs
  obtain ⟨Z, ρ, σ', h, rs, p⟩ := h0
  refine ⟨Z, ρ, σ', h, rs, ?_⟩
  simp only [ev] at p
  refine p.step fun iv h1 ρ1 H1 J _ e1 w1 r1 p1 => ?_
  intro D hD
  have rs1 := rs.go e1 w1
  -- what holds between two turns
  let Wn : Nat → Nat → Hp → Prop := fun i m H2 => ∃ (ρ2 : List Addr) (h2 : HP) (acc : List PV) (ac : List V), Ext ρ1 h1 H1 ρ2 h2 H2 ∧ Wd X.K R (Zd Z D) ρ2 h2 H2 ∧ H2 D = some (.lst ac) ∧ ¬ Live ρ2 h2 D ∧ RVs X.K H2 ρ2 (Lz (Zd Z D) ρ2 h2) acc ac ∧ RS X.K H2 ρ2 (Lz (Zd Z D) ρ2 h2) σ' σ ∧ RI X.K H2 ρ2 (Lz (Zd Z D) ρ2 h2) iv J ∧
      Po X.K R Z (RV X.K) ρ1 h1 H1 ((compG iv (stepC T (fn T d) tgt ifs a (LW.wipe σ' (own.map (·.2)))) m i acc h2).bind fun ys h => tr false (.lst ys) h) Q (fun c d H' => W c d σ H')
  have RIres : RI X.K (upd H1 D (.lst [])) ρ1 (Lz (Zd Z D) ρ1 h1) iv J := by
    cases r1 with
    | str s => exact .str s
    | tup r => exact .tup (r.res hD _)
    | lst hv hs r => exact .lst hv hs (r.res hD _)
    | etup r => exact .etup (r.res hD _)
    | elst hv r => exact .elst hv (r.res hD _)
    | ztup r q => exact .ztup (r.res hD _) (q.res hD _)
    | zlst hv r q => exact .zlst hv (r.res hD _) (q.res hD _)
    | rng lo n => exact .rng lo n
  refine ⟨Wn, ⟨_, ρ1, h1, [], [], Ext.alloc hD, w1.res hD _, upd_same, fun l => w1.free hD l.mem, .nil, fun i v e => ?_, RIres, p1⟩, ?_⟩
  · obtain ⟨u, q1, q2⟩ := rs1.rs i v e
    exact ⟨u, q1, q2.res hD _⟩
  rintro i m H2 ⟨ρ2, h2, acc, ac, x2, w2, eD, nL, ra, rss, ri, p2⟩
  cases m with
  | zero => simp only [compG] at p2; exact p2.elim
  | succ m =>
    simp only [compG] at p2
    cases ei : itAt h2 iv i with
    | none => rw [ei] at p2; exact p2.elim
    | some o =>
      rw [ei] at p2
      cases o with
      | none =>
        simp only [LW.R.bind_ok, tr] at p2
        refine .inl ⟨ri.stop w2 ei, p2 ρ2 H2 _ x2 w2.unres (.lst eD (fun l => l.elim nL fun z => ?_) (ra.restrict (List.prefix_refl _) (fun a l => l.imp id .inl) ra.bels))⟩
        obtain ⟨⟨o, q⟩, _⟩ := w1.zs D z
        rw [hD] at q; cases q
      | some x =>
        simp only at p2
        rw [bind_assoc] at p2
        obtain ⟨g1, g2⟩ := ri.go w2 ei
        refine .inr ⟨g1, Wn (i + 1) m, fun H' z => ⟨m, Nat.lt_succ_self _, z⟩, fun xv H3 yl => ?_⟩
        obtain ⟨e3, w3, r3⟩ := g2 xv H3 yl
        have keepD : ∀ {ρ4 : List Addr} {h4 : HP} {H4 : Hp}, Ext ρ2 h2 H3 ρ4 h4 H4 → H4 D = some (.lst ac) ∧ ¬ Live ρ4 h4 D := fun {ρ4 h4 H4} e4 => by
          have e34 := e3.trans e4
          exact ⟨e34.frame D _ eD nL, fun l => (e34.fresh D l).elim nL fun z => by rw [eD] at z; cases z⟩
        have ne : stepC T (fn T d) tgt ifs a (LW.wipe σ' (own.map (·.2))) x h2 ≠ .bad := fun z => by rw [z] at p2; exact p2
        have rs3 : Rs X.K R (Zd Z D) ρ2 h2 H3 σ' σ := ⟨w3, rss.mono e3, rs.len⟩
        refine turn_read (X := X) (a := a) rs3 r3 hsl ne (fun y yv ρ4 h4 H4 es e4 w4 r4 => ?_) fun ρ4 h4 H4 es e4 w4 => ?_
        · obtain ⟨k1, k2⟩ := keepD e4
          rw [es] at p2
          simp only [LW.R.bind_ok] at p2
          split at p2
          case isFalse => exact p2.elim
          rename_i hlt
          refine ⟨ac, k1, by rw [← ra.length, ← line_eq]; exact hlt, ?_⟩
          have hZ : Zd Z D D := .inr rfl
          have hL : Lz (Zd Z D) ρ4 h4 D := .inr hZ
          have e24 := e3.trans e4
          have ri4 := ri.mono e24
          refine ⟨ρ4, h4, acc ++ [y], ac ++ [yv], ⟨(x2.trans e24).pre, fun b o q l => ?_, (x2.trans e24).fresh, (x2.trans e24).news⟩, w4.grow hZ _, upd_same, k2, (((ra.mono e24)).append (.cons r4 .nil)).grow hL _, fun j v ej => ?_, ?_, p2⟩
          · rw [upd_ne (ne_of_none q hD)]
            exact (x2.trans e24).frame b o q l
          · obtain ⟨u, q1, q2⟩ := rss j v ej
            exact ⟨u, q1, (q2.mono e24).grow hL _⟩
          · cases ri4 with
            | str s => exact .str s
            | tup r => exact .tup (r.grow hL _)
            | lst hv hs r => exact .lst hv hs (r.grow hL _)
            | etup r => exact .etup (r.grow hL _)
            | elst hv r => exact .elst hv (r.grow hL _)
            | ztup r q => exact .ztup (r.grow hL _) (q.grow hL _)
            | zlst hv r q => exact .zlst hv (r.grow hL _) (q.grow hL _)
            | rng lo n => exact .rng lo n
        · obtain ⟨k1, k2⟩ := keepD e4
          rw [es] at p2
          simp only [LW.R.bind_ok] at p2
          have e24 := e3.trans e4
          exact ⟨ρ4, h4, acc, ac, x2.trans e24, w4, k1, k2, ra.mono e24, rss.mono e24, ri.mono e24, p2⟩
theorem lc_read1 {σ : St} {H : Hp} {Q : VK} {tgt : Tg} {it : It} {ifs : List E} {own : List (String × Nat)} {vs : List Nat} (hvs : vs = own.map (·.2)) (hsl : ∀ j ∈ slots tgt, j ∈ vs)
    (h0 : tv T R (fn T d) W X.K (.comp true a tgt it ifs own) σ H Q) : tLc (tI T R (fn T d) W X.K it) (tG T R (fn T d) WF X.K tgt) (tIfs T R (fn T d) WF X.K ifs) (tv T R (fn T d) WF X.K a) vs σ H Q := by
  subst hvs
  obtain ⟨Z, ρ, σ', h, rs, p⟩ := h0
  refine ⟨Z, ρ, σ', h, rs, ?_⟩
  simp only [ev] at p
  refine p.step fun iv h1 ρ1 H1 J _ e1 w1 r1 p1 => ?_
  intro D hD
  have rs1 := rs.go e1 w1
  have ex : Ext ρ1 h1 H1 (ρ1 ++ [D]) (h1 ++ [MO.lst []]) (upd H1 D (.lst [])) := Ext.push w1 hD
  have hDn : (ρ1 ++ [D])[h1.length]? = some D := by
    rw [List.getElem?_append_right (by rw [w1.len]; exact Nat.le_refl _), w1.len]
    simp
  let Wn : Nat → Nat → Hp → Prop := fun i m H2 => ∃ (ρ2 : List Addr) (h2 : HP), Ext (ρ1 ++ [D]) (h1 ++ [MO.lst []]) (upd H1 D (.lst [])) ρ2 h2 H2 ∧ Wd X.K R Z ρ2 h2 H2 ∧
      Po X.K R Z (RV X.K) ρ2 h2 H2 ((compM iv (stepC T (fn T d) tgt ifs a (LW.wipe σ' (own.map (·.2)))) h1.length m i h2).bind fun _ h' => tr false (.ref h1.length) h') Q (fun c d H' => W c d σ H')
  refine ⟨Wn, ⟨_, ρ1 ++ [D], h1 ++ [MO.lst []], Ext.refl, w1.push hD ⟨[], upd_same, .nil⟩, Po.rebase ex p1⟩, ?_⟩
  rintro i m H2 ⟨ρ2, h2, x2, w2, p2⟩
  have dn2 := pre_get x2.pre hDn
  cases m with
  | zero => simp only [compM] at p2; exact p2.elim
  | succ m =>
    simp only [compM] at p2
    have ri := r1.mono (ex.trans x2)
    cases ei : itAt h2 iv i with
    | none => rw [ei] at p2; exact p2.elim
    | some o =>
      rw [ei] at p2
      cases o with
      | none =>
        simp only [LW.R.bind_ok, tr] at p2
        exact .inl ⟨ri.stop w2 ei, p2 ρ2 H2 _ Ext.refl w2 (.ref dn2)⟩
      | some x =>
        simp only at p2
        rw [bind_assoc] at p2
        obtain ⟨g1, g2⟩ := ri.go w2 ei
        refine .inr ⟨g1, Wn (i + 1) m, fun H' z => ⟨m, Nat.lt_succ_self _, z⟩, fun xv H3 yl => ?_⟩
        obtain ⟨e3, w3, r3⟩ := g2 xv H3 yl
        have p3 := Po.rebase e3 p2
        have ne : stepC T (fn T d) tgt ifs a (LW.wipe σ' (own.map (·.2))) x h2 ≠ .bad := fun z => by rw [z] at p2; exact p2
        refine turn_read (X := X) (a := a) ((rs1.go (ex.trans x2) w2).go e3 w3) r3 hsl ne (fun y yv ρ4 h4 H4 es e4 w4 r4 => ?_) fun ρ4 h4 H4 es e4 w4 => ?_
        · rw [es] at p3
          simp only [LW.R.bind_ok] at p3
          have dn4 := pre_get e4.pre dn2
          cases eh : h4[h1.length]? with
          | none => rw [eh] at p3; exact p3.elim
          | some ob =>
            rw [eh] at p3
            cases ob with
            | lst acc =>
              simp only at p3
              split at p3
              case isFalse => exact p3.elim
              rename_i hlt
              obtain ⟨ac, q, ra⟩ := w4.ob _ D _ dn4 eh
              have no : MO.lst acc ≠ .dead := fun z => nomatch z
              have e5 : Ext ρ4 h4 H4 ρ4 (h4.set h1.length (.lst (acc ++ [y]))) (upd H4 D (.lst (ac ++ [yv]))) := Ext.set dn4 eh no
              exact ⟨ac, q, by rw [← ra.length, ← line_eq]; exact hlt, ρ4, _, (x2.trans (e3.trans e4)).trans e5, w4.set dn4 eh no ⟨_, upd_same, (ra.append (.cons r4 .nil)).mono e5⟩, Po.rebase (e4.trans e5) p3⟩
            | _ => exact p3.elim
        · rw [es] at p3
          simp only [LW.R.bind_ok] at p3
          exact ⟨ρ4, h4, x2.trans (e3.trans e4), w4, Po.rebase e4 p3⟩
theorem lc_read {σ : St} {H : Hp} {Q : VK} {mf : Bool} {tgt : Tg} {it : It} {ifs : List E} {own : List (String × Nat)} {vs : List Nat} (hvs : vs = own.map (·.2)) (hsl : ∀ j ∈ slots tgt, j ∈ vs)
    (h0 : tv T R (fn T d) W X.K (.comp mf a tgt it ifs own) σ H Q) : tLc (tI T R (fn T d) W X.K it) (tG T R (fn T d) WF X.K tgt) (tIfs T R (fn T d) WF X.K ifs) (tv T R (fn T d) WF X.K a) vs σ H Q := by
  cases mf with
  | false => exact lc_read0 hvs hsl h0
  | true => exact lc_read1 hvs hsl h0
end
end LW
/-! LwI: a text of the small Python held against a text of the row; every expression is read right. -/
namespace LW
open PySem L2
def plainT : Expr → Bool
  | .UnaryOp .Not _ _ => false
  | .BoolOp _ _ _ => false
  | .IfExp _ _ _ _ => false
  | .Compare _ _ _ _ => false
  | _ => true
theorem plainT_ok {e : Expr} {env : Env} (h : plainT e = true) : ∀ whole, isTrue e env whole = (do let v ← whole; standAt e.pos; holding [v] (truthy v)) := by
  intro whole
  cases e with
  | UnaryOp op x p => cases op <;> first | rfl | (simp [plainT] at h)
  | BoolOp _ _ _ => simp [plainT] at h
  | IfExp _ _ _ _ => simp [plainT] at h
  | Compare _ _ _ _ => simp [plainT] at h
  | _ => rfl
/-- forms whose truth is that of their value -/
def simpT : E → Bool
  | .var _ _ => true
  | .lit _ => true
  | .glob _ => true
  | .call _ _ => true
  | .isin _ _ _ => true
  | .comp _ _ _ _ _ _ => true
  | .attr _ _ => true
  | .sub _ _ => true
  | _ => false
theorem tr_tr {r : LW.R PV} : (r.bind (tr false)).bind (tr true) = r.bind (tr true) := by cases r <;> rfl
theorem simpT_ok {T : Tb} {cf : CF} {e : E} (h : simpT e = true) (σ : Sg) (hp : HP) : ev T cf true e σ hp = (ev T cf false e σ hp).bind (tr true) := by
  cases e with
  | var i x =>
    simp only [ev]
    split
    · rfl
    · rfl
  | lit v => rfl
  | glob x => simp only [ev, tr_tr]
  | call f args => simp only [ev, bind_assoc, tr_tr]; cases evs T cf args σ hp <;> simp [tr_tr, ← bind_assoc]
  | isin x cs m =>
    simp only [ev]
    cases ev T cf false x σ hp with
    | ok v h1 =>
      simp only [LW.R.bind_ok]
      cases alive h1 v <;> rfl
    | exc c h1 => rfl
    | bad => rfl
  | comp m elt tg it ifs own =>
    simp only [ev]
    cases evi T cf it σ hp with
    | ok iv h1 =>
      simp only [LW.R.bind_ok]
      cases m with
      | false => simp only [bind_assoc]; rfl
      | true => simp only [bind_assoc]; rfl
    | exc c h1 => rfl
    | bad => rfl
  | attr o f =>
    simp only [ev]
    cases ev T cf false o σ hp with
    | ok v h1 => simp only [LW.R.bind_ok, tr_tr]
    | exc c h1 => rfl
    | bad => rfl
  | sub o i =>
    simp only [ev]
    cases ev T cf false o σ hp with
    | ok v h1 =>
      simp only [LW.R.bind_ok]
      cases ev T cf false i σ h1 with
      | ok w h2 => simp only [LW.R.bind_ok, tr_tr]
      | exc c h2 => rfl
      | bad => rfl
    | exc c h1 => rfl
    | bad => rfl
  | _ => simp [simpT] at h
def notSlice : Expr → Bool
  | .Slice _ _ _ _ => false
  | _ => true
theorem notSlice_ok {b : Expr} (h : notSlice b = true) : PlainIx b := fun o i => by
  cases b <;> first | rfl | (simp [notSlice] at h)
theorem notSlice_set {l r : Expr} {pos : Pos} {env : Env} (h : notSlice r = true) : ∀ v, assign (.Subscript l r pos) env v = (do
      let ov ← holding [v] (eval l env)
      let iv ← holding [v, ov] (eval r env)
      standAt pos
      holding [v, ov, iv] (setItem ov iv v)
      release [v, ov, iv] []) := fun v => by
  cases r <;> first | rfl | (simp [notSlice] at h)
def notSet : Expr → Bool
  | .Set _ _ _ => false
  | _ => true
theorem notSet_ok {e : Expr} {env : Env} (h : notSet e = true) : ∀ x, foldedSetIterable e env x = pure x := fun x => by
  cases e <;> first | rfl | (simp [notSet] at h)
def isTupE : Expr → Bool
  | .Tuple _ _ _ => true
  | _ => false
/-- the built-ins that are read -/
def bltOk : Bl → Bool
  | .len => true | .min => true | .max => true | .int => true | .list => true | .tuple => true | .mlist => true
  | _ => false
def namesB (R : Rw) (sc : Scope) : List String → List Expr → Bool
  | [], [] => true
  | c :: cs, ex :: exs => (match ex with
    | .Name z _ => decide (z = os c) && (tyNames.contains c || R.clss.contains c) && (!(tyNames.contains c) || R.blts.contains c) && glB sc (os c) && okN (os c)
    | _ => false) && namesB R sc cs exs
  | _, _ => false
section
variable (R : Rw) (T : Tb) (N : List Str)
mutual
def chkE : Bool → Scope → Bool → E → Expr → Bool
  | blk, sc, t, .var i _, ex => match ex with
    | .Name y _ => decide (N[i]? = some y) && visB sc y && okN y
    | _ => false
  | blk, sc, t, .lit v, ex => match ex with
    | .Constant c _ _ => litB v c
    | _ => false
  | blk, sc, t, .glob x, ex => match ex with
    | .Name y _ => glB sc y && okN y && (match T.gl x with
      | some v => decide (R.globs.lookup y = some v)
      | none => false)
    | _ => false
  | blk, sc, t, .bin op a b, ex => !t && match ex with
    | .BinOp l o r _ => decide (o = opM op) && chkE blk sc false a l && chkE blk sc false b r
    | _ => false
  | blk, sc, t, .neg a, ex => !t && match ex with
    | .UnaryOp .USub l _ => chkE blk sc false a l
    | _ => false
  | blk, sc, t, .not a, ex => match ex with
    | .UnaryOp .Not l _ => match t with
      | true => chkE blk sc true a l
      | false => chkE blk sc false a l && simpT a
    | _ => false
  | blk, sc, t, .and a es, ex => match ex with
    | .BoolOp .And (x :: xs) _ => chkE blk sc t a x && chkEs blk sc t es xs
    | _ => false
  | blk, sc, t, .or a es, ex => match ex with
    | .BoolOp .Or (x :: xs) _ => chkE blk sc t a x && chkEs blk sc t es xs
    | _ => false
  | blk, sc, t, .cmp op a b, ex => match ex with
    | .Compare l [o] [r] _ => decide (o = cmpM op) && !behindInMarks (cmpM op) r && chkE blk sc false a l && chkE blk sc false b r
    | _ => false
  | blk, sc, t, .chain op op' a b c, ex => match ex with
    | .Compare l [o, o'] [m, r] _ => decide (o = cmpM op) && decide (o' = cmpM op') && !lastMarks [cmpM op, cmpM op'] [m, r] && chkE blk sc false a l && chkE blk sc false b m && chkE blk sc false c r
    | _ => false
  | blk, sc, t, .ife c a b, ex => !t && match ex with
    | .IfExp m l r _ => chkE blk sc true c m && chkE blk sc false a l && chkE blk sc false b r
    | _ => false
  | blk, sc, t, .call f args, ex => match ex with
    | .Call (.Name y _) as [] _ => decide (y = os f) && R.fns.contains f && R.tops.contains f && glB sc y && okN y && as.all noStar && chkEs blk sc false args as
    | _ => false
  | blk, sc, t, .make C args, ex => !t && match ex with
    | .Call (.Name y _) as [] _ => decide (y = os C) && R.clss.contains C && (match T.mr C "__init__" with
      | some f => R.fns.contains f
      | none => false) && glB sc y && okN y && as.all noStar && !as.isEmpty && chkEs blk sc false args as
    | _ => false
  | blk, sc, t, .meth o m args, ex => !t && match ex with
    | .Call (.Attribute l y apos) as [] pos => decide (y = os m) && attrOk l && as.all noStar && decide (as.length < 30) && (apos.endLine == pos.line) && R.clss.all (fun C => match T.mr C m with
      | some f => R.meths.contains (C, m) && R.fns.contains f
      | none => true) && chkE blk sc false o l && chkEs blk sc false args as
    | _ => false
  | blk, sc, t, .cmeth _ _ _, ex => false
  | blk, sc, t, .blt f args, ex => !t && match ex with
    | .Call (.Name y _) as [] _ => decide (y = os (blName f)) && bltOk f && R.blts.contains (blName f) && glB sc y && okN y && as.all noStar && !as.isEmpty && chkEs blk sc false args as
    | _ => false
  | blk, sc, t, .isin x cs many, ex => match ex with
    | .Call (.Name y _) [l, c] [] _ => decide (y = os "isinstance") && R.blts.contains "isinstance" && glB sc (os "isinstance") && noStar l && decide (cs.length ≤ 1000) && (match many with
      | false => decide (cs.length = 1) && namesB R sc cs [c]
      | true => match c with
        | .Tuple zs _ _ => namesB R sc cs zs
        | _ => false) && chkE blk sc false x l
    | _ => false
  | blk, sc, t, .bmeth o m args, ex => !t && match ex with
    | .Call (.Attribute l y apos) as [] pos => decide (y = os (bmName m)) && attrOk l && as.all noStar && decide (as.length < 30) && (apos.endLine == pos.line) && chkE blk sc false o l && chkEs blk sc false args as && (match m with
      | .append => !as.isEmpty
      | .clear => as.isEmpty
      | .pop => as.isEmpty
      | _ => false)
    | _ => false
  | blk, sc, t, .attr o f, ex => match ex with
    | .Attribute l y _ => decide (y = os f) && attrOk l && R.clss.all (fun C => R.flds.contains (C, f)) && chkE blk sc false o l
    | _ => false
  | blk, sc, t, .sub o i, ex => match ex with
    | .Subscript l r _ => notSlice r && chkE blk sc false o l && chkE blk sc false i r
    | _ => false
  | blk, sc, t, .slice o lo hi, ex => !t && match ex with
    | .Subscript l (.Slice lo' hi' none _) _ => chkE blk sc false o l && chkO blk sc lo lo' && chkO blk sc hi hi'
    | _ => false
  | blk, sc, t, .tup es, ex => !t && match ex with
    | .Tuple xs _ _ => decide (es.length ≤ 1000) && xs.all noStar && chkEs blk sc false es xs
    | _ => false
  | blk, sc, t, .vls es, ex => !t && match ex with
    | .List xs _ => decide (es.length ≤ 1000) && xs.all noStar && chkEs blk sc false es xs
    | _ => false
  | blk, sc, t, .mls es, ex => !t && match ex with
    | .List xs _ => decide (es.length ≤ 1000) && xs.all noStar && chkEs blk sc false es xs
    | _ => false
  | blk, sc, t, .dict _ _, ex => false
  | blk, sc, t, .comp m elt tg it ifs own, ex => match ex with
    | .ListComp x [⟨g, i, fs, asy⟩] scope _ => decide (asy = 0) && blkC N sc scope (own.map fun p => (os p.1, p.2)) && notSet i && (slots tg).all (fun j => (own.map (·.2)).contains j) && chkI blk sc it g i && chkG true (relS scope sc) tg g &&
      (match fs with
        | [] => ifs.isEmpty
        | [_] => true
        | _ => false) && chkEs true (relS scope sc) true ifs fs && chkE true (relS scope sc) false elt x
    | _ => false
  | blk, sc, t, .frz e, ex => !t && chkE blk sc false e ex
  | _, _, _, .any, _ => false
def chkEs : Bool → Scope → Bool → List E → List Expr → Bool
  | _, _, _, [], xs => xs.isEmpty
  | blk, sc, t, e :: es, xs => match xs with
    | x :: xs => chkE blk sc t e x && chkEs blk sc t es xs
    | [] => false
def chkO : Bool → Scope → Option E → Option Expr → Bool
  | _, _, none, o => o.isNone
  | blk, sc, some e, o => match o with
    | some x => chkE blk sc false e x
    | none => false
def chkI : Bool → Scope → It → Expr → Expr → Bool
  | blk, sc, .seq e, _, x => chkE blk sc false e x
  | blk, sc, .enum e, g, x => isTupE g && match x with
    | .Call (.Name y _) [l] [] _ => decide (y = os "enumerate") && R.blts.contains "enumerate" && glB sc (os "enumerate") && noStar l && chkE blk sc false e l
    | _ => false
  | blk, sc, .zip a b, g, x => isTupE g && match x with
    | .Call (.Name y _) [l, r] [] _ => decide (y = os "zip") && R.blts.contains "zip" && glB sc (os "zip") && noStar l && noStar r && chkE blk sc false a l && chkE blk sc false b r
    | _ => false
  | blk, sc, .range a, _, x => match x with
    | .Call (.Name y _) [l] [] _ => decide (y = os "range") && R.blts.contains "range" && glB sc (os "range") && noStar l && chkE blk sc false a l
    | _ => false
  | blk, sc, .range2 a b, _, x => match x with
    | .Call (.Name y _) [l, r] [] _ => decide (y = os "range") && R.blts.contains "range" && glB sc (os "range") && noStar l && noStar r && chkE blk sc false a l && chkE blk sc false b r
    | _ => false
def chkG : Bool → Scope → Tg → Expr → Bool
  | blk, sc, .name i _, x => match x with
    | .Name y _ => decide (N[i]? = some y) && locB blk sc y
    | _ => false
  | blk, sc, .tup ts, x => match x with
    | .Tuple xs _ _ => xs.all noStar && chkGs blk sc ts xs
    | _ => false
  | _, _, .attr _ _, _ => false
  | blk, sc, .sub o i, x => match x with
    | .Subscript l r _ => notSlice r && chkE blk sc false o l && chkE blk sc false i r
    | _ => false
def chkGs : Bool → Scope → List Tg → List Expr → Bool
  | _, _, [], xs => xs.isEmpty
  | blk, sc, t :: ts, xs => match xs with
    | x :: xs => noStar x && chkG blk sc t x && chkGs blk sc ts xs
    | [] => false
end
end

/-! ### lists of expressions -/
def Snd (T : Tb) (R : Rw) (d : Nat) (W : WX) (X : Cx) (t : Bool) (e : E) (ex : Expr) : Prop := match t with
  | false => PE X ex (tv T R (fn T d) W X.K e)
  | true => PT X ex (tt T R (fn T d) W X.K e)
inductive AllS (T : Tb) (R : Rw) (d : Nat) (W : WX) (X : Cx) (t : Bool) : List E → List Expr → Prop
  | nil : AllS T R d W X t [] []
  | cons {e : E} {ex : Expr} {es : List E} {xs : List Expr} (h : Snd T R d W X t e ex) (r : AllS T R d W X t es xs) : AllS T R d W X t (e :: es) (ex :: xs)
section
variable {T : Tb} {R : Rw} {fA : String → Addr} {X : Cx} {d : Nat} {W : WX} {blk t : Bool} {a b c : E} {l r m tg : Expr} {pos p apos : Pos} {es : List E} {rest : List Expr}
theorem AllS.len (h : AllS T R d W X t es rest) : es.length = rest.length := by
  induction h with
  | nil => rfl
  | cons _ _ ih => simp [ih]
theorem AllS.pa (h : AllS T R d W X false es rest) (hs : rest.all noStar = true) : PA X rest (ta T R (fn T d) W X.K es) := by
  induction h with
  | nil => exact s_nil
  | cons h _ ih =>
    simp only [List.all_cons, Bool.and_eq_true] at hs
    exact s_cons h (ih hs.2) hs.1
theorem AllS.andV (ha : PE X l (tv T R (fn T d) W X.K a)) (h : AllS T R d W X false es rest) : PE X (.BoolOp .And (l :: rest) pos) (tv T R (fn T d) W X.K (.and a es)) := by
  induction h generalizing a l with
  | nil => exact s_and1 ha
  | cons h _ ih => exact s_and ha (ih h)
theorem AllS.orV (ha : PE X l (tv T R (fn T d) W X.K a)) (h : AllS T R d W X false es rest) : PE X (.BoolOp .Or (l :: rest) pos) (tv T R (fn T d) W X.K (.or a es)) := by
  induction h generalizing a l with
  | nil => exact s_or1 ha
  | cons h _ ih => exact s_or ha (ih h)
theorem AllS.andT (ha : PT X l (tt T R (fn T d) W X.K a)) (h : AllS T R d W X true es rest) : PW X (.BoolOp .And (l :: rest) pos) (tt T R (fn T d) W X.K (.and a es)) := by
  induction h generalizing a l with
  | nil => exact s_and1T ha
  | cons h _ ih => exact s_andT ha (ih h)
theorem AllS.orT (ha : PT X l (tt T R (fn T d) W X.K a)) (h : AllS T R d W X true es rest) : PW X (.BoolOp .Or (l :: rest) pos) (tt T R (fn T d) W X.K (.or a es)) := by
  induction h generalizing a l with
  | nil => exact s_or1T ha
  | cons h _ ih => exact s_orT ha (ih h)
/-- a value's rule in both modes -/
theorem both (h : PE X l (tv T R (fn T d) W X.K a)) (hp : t = true → plainT l = true) (hs : t = true → simpT a = true) : Snd T R d W X t a l := by
  cases t with
  | false => exact h
  | true => exact s_truth h (plainT_ok (hp rfl)) (simpT_ok (hs rfl))
theorem both0 (h : PE X l (tv T R (fn T d) W X.K a)) (ht : (!t) = true) : Snd T R d W X t a l := by
  cases t with
  | false => exact h
  | true => cases ht
theorem namesB_ok {sc : Scope} : ∀ {cs : List String} {exs : List Expr}, namesB R sc cs exs = true → (∀ cn ∈ cs, (cn ∈ tyNames ∨ (tyNames.contains cn = false ∧ cn ∈ R.clss)) ∧ (cn ∈ tyNames → cn ∈ R.blts) ∧ glB sc (os cn) = true ∧ okN (os cn) = true) ∧ Paired (fun cn ex => ∃ p, ex = Expr.Name (os cn) p) cs exs
  | [], [], _ => ⟨fun _ h => (by cases h), Paired.nil⟩
  | [], _ :: _, h => by simp [namesB] at h
  | _ :: _, [], h => by simp [namesB] at h
  | c :: cs, ex :: exs, h => by
    unfold namesB at h
    rw [Bool.and_eq_true] at h
    obtain ⟨h1, h2⟩ := h
    obtain ⟨i1, i2⟩ := namesB_ok h2
    split at h1
    · rename_i z p
      simp only [Bool.and_eq_true, decide_eq_true_eq, Bool.or_eq_true, Bool.not_eq_true'] at h1
      obtain ⟨⟨⟨⟨e, h3⟩, h4⟩, h5⟩, h6⟩ := h1
      subst e
      refine ⟨fun cn hm => ?_, .cons ⟨p, rfl⟩ i2⟩
      rcases List.mem_cons.mp hm with rfl | hm
      · refine ⟨?_, fun hc => ?_, h5, h6⟩
        · cases q : tyNames.contains cn with
          | true => exact .inl (List.contains_iff_mem.mp q)
          | false =>
            rcases h3 with h3 | h3
            · rw [q] at h3; cases h3
            · exact .inr ⟨rfl, List.contains_iff_mem.mp h3⟩
        · rcases h4 with h4 | h4
          · rw [List.contains_iff_mem.mpr hc] at h4; cases h4
          · exact List.contains_iff_mem.mp h4
      · exact i1 cn hm
    · cases h1
end
section
variable {T : Tb} {R : Rw} {fA : String → Addr}
theorem both2 {X : Cx} {d : Nat} {W : WX} {t : Bool} {a : E} {l : Expr} (h : PE X l (tv T R (fn T d) W X.K a) ∧ PT X l (tt T R (fn T d) W X.K a)) : Snd T R d W X t a l := by
  cases t with
  | false => exact h.1
  | true => exact h.2
theorem CxE.blk {X : Cx} {d : Nat} {W : WX} {b : Bool} (C : CxE T R fA X d W b) (s : Shared) (H : Hp) (scope : Scope) (cenv : Env) (fp : List Addr) : CxE T R fA (X.blk s H scope cenv fp) d WF true :=
  ⟨C.fc, C.fo, C.nd, C.calm, C.room, takes0, fun h => nomatch h⟩
mutual
theorem sE : ∀ (e : E) {X : Cx} {d : Nat} {W : WX} {blk t : Bool} {ex : Expr}, CxE T R fA X d W blk → chkE R T X.N blk X.env.scope t e ex = true → Snd T R d W X t e ex
  | .var i x, X, d, W, blk, t, ex, C, h => by
    unfold chkE at h
    split at h
    · simp only [Bool.and_eq_true, decide_eq_true_eq] at h
      exact both (s_var h.1.1 h.1.2 h.2) (fun _ => rfl) fun _ => rfl
    · cases h
  | .lit v, X, d, W, blk, t, ex, C, h => by
    unfold chkE at h
    split at h
    · exact both (s_lit h) (fun _ => rfl) fun _ => rfl
    · cases h
  | .glob x, X, d, W, blk, t, ex, C, h => by
    unfold chkE at h
    split at h
    · rw [Bool.and_eq_true, Bool.and_eq_true] at h
      obtain ⟨⟨h1, h2⟩, h3⟩ := h
      split at h3
      · rename_i v e
        exact both (s_glob C h1 (of_decide_eq_true h3) e h2) (fun _ => rfl) fun _ => rfl
      · cases h3
    · cases h
  | .bin op a b, X, d, W, blk, t, ex, C, h => by
    unfold chkE at h
    rw [Bool.and_eq_true] at h
    obtain ⟨ht, h⟩ := h
    split at h
    · simp only [Bool.and_eq_true, decide_eq_true_eq] at h
      obtain ⟨⟨rfl, h1⟩, h2⟩ := h
      exact both0 (s_bin (sE a C h1) (sE b C h2)) ht
    · cases h
  | .neg a, X, d, W, blk, t, ex, C, h => by
    unfold chkE at h
    rw [Bool.and_eq_true] at h
    obtain ⟨ht, h⟩ := h
    split at h
    · exact both0 (s_neg (sE a C h)) ht
    · cases h
  | .not a, X, d, W, blk, t, ex, C, h => by
    unfold chkE at h
    split at h
    · split at h
      · exact s_notT (sE a C h)
      · rw [Bool.and_eq_true] at h
        exact s_notV (sE a C h.1) (simpT_ok h.2)
    · cases h
  | .and a es, X, d, W, blk, t, ex, C, h => by
    unfold chkE at h
    split at h
    · rw [Bool.and_eq_true] at h
      have h1 := sE a C h.1
      have h2 := sEs es C h.2
      cases t with
      | false => exact AllS.andV h1 h2
      | true => exact (AllS.andT h1 h2).pt
    · cases h
  | .or a es, X, d, W, blk, t, ex, C, h => by
    unfold chkE at h
    split at h
    · rw [Bool.and_eq_true] at h
      have h1 := sE a C h.1
      have h2 := sEs es C h.2
      cases t with
      | false => exact AllS.orV h1 h2
      | true => exact (AllS.orT h1 h2).pt
    · cases h
  | .cmp op a b, X, d, W, blk, t, ex, C, h => by
    unfold chkE at h
    split at h
    · simp only [Bool.and_eq_true, decide_eq_true_eq, Bool.not_eq_true'] at h
      obtain ⟨⟨⟨rfl, hm⟩, h1⟩, h2⟩ := h
      exact both2 (s_cmp C (sE a C h1) (sE b C h2) hm)
    · cases h
  | .chain op op' a b c, X, d, W, blk, t, ex, C, h => by
    unfold chkE at h
    split at h
    · simp only [Bool.and_eq_true, decide_eq_true_eq, Bool.not_eq_true'] at h
      obtain ⟨⟨⟨⟨⟨rfl, rfl⟩, hm⟩, h1⟩, h2⟩, h3⟩ := h
      exact both2 (s_chain C (sE a C h1) (sE b C h2) (sE c C h3) hm)
    · cases h
  | .ife c a b, X, d, W, blk, t, ex, C, h => by
    unfold chkE at h
    rw [Bool.and_eq_true] at h
    obtain ⟨ht, h⟩ := h
    split at h
    · simp only [Bool.and_eq_true] at h
      exact both0 (s_ife (sE c C h.1.1) (sE a C h.1.2) (sE b C h.2)) ht
    · cases h
  | .call f args, X, d, W, blk, t, ex, C, h => by
    unfold chkE at h
    split at h
    · rename_i y p as pos
      simp only [Bool.and_eq_true, decide_eq_true_eq, List.contains_iff_mem] at h
      obtain ⟨⟨⟨⟨⟨⟨rfl, h1⟩, h2⟩, h3⟩, h4⟩, h5⟩, h6⟩ := h
      have ha := sEs args C h6
      refine both ?_ (fun _ => rfl) fun _ => rfl
      cases ha with
      | nil => exact s_call0 C h1 h2 h3 h4
      | cons q r => exact s_call C h1 h2 h3 h4 h5 (AllS.pa (.cons q r) h5)
    · cases h
  | .make C' args, X, d, W, blk, t, ex, C, h => by
    unfold chkE at h
    rw [Bool.and_eq_true] at h
    obtain ⟨ht, h⟩ := h
    split at h
    · rename_i y p as pos
      simp only [Bool.and_eq_true, decide_eq_true_eq, List.contains_iff_mem, Bool.not_eq_true'] at h
      obtain ⟨⟨⟨⟨⟨⟨⟨rfl, h1⟩, h2⟩, h3⟩, h4⟩, h5⟩, h7⟩, h6⟩ := h
      have ha := sEs args C h6
      refine both0 ?_ ht
      split at h2
      · rename_i f e
        cases ha with
        | nil => cases h7
        | cons q r => exact s_make C h1 e (List.contains_iff_mem.mp h2) h3 h4 h5 (AllS.pa (.cons q r) h5)
      · cases h2
    · cases h
  | .meth o m args, X, d, W, blk, t, ex, C, h => by
    unfold chkE at h
    rw [Bool.and_eq_true] at h
    obtain ⟨ht, h⟩ := h
    split at h
    · rename_i l y apos as pos
      rw [Bool.and_eq_true, Bool.and_eq_true, Bool.and_eq_true, Bool.and_eq_true, Bool.and_eq_true, Bool.and_eq_true, Bool.and_eq_true] at h
      obtain ⟨⟨⟨⟨⟨⟨⟨h0, h1⟩, h2⟩, h3⟩, h4⟩, h5⟩, h6⟩, h7⟩ := h
      have h0 := of_decide_eq_true h0
      have h3 := of_decide_eq_true h3
      subst h0
      have ha := sEs args C h7
      exact both0 (s_meth C ha.len h1 h2 h3 h4 h5 (sE o C h6) (ha.pa h2)) ht
    · cases h
  | .cmeth c m args, X, d, W, blk, t, ex, C, h => by
    unfold chkE at h
    cases h
  | .blt f args, X, d, W, blk, t, ex, C, h => by
    unfold chkE at h
    rw [Bool.and_eq_true] at h
    obtain ⟨ht, h⟩ := h
    split at h
    · rename_i y p as pos
      simp only [Bool.and_eq_true, decide_eq_true_eq, List.contains_iff_mem, Bool.not_eq_true'] at h
      obtain ⟨⟨⟨⟨⟨⟨⟨rfl, h1⟩, h2⟩, h3⟩, h4⟩, h5⟩, h7⟩, h6⟩ := h
      have ha := sEs args C h6
      refine both0 ?_ ht
      cases ha with
      | nil => cases h7
      | cons q r =>
        have hp := AllS.pa (.cons q r) h5
        cases f with
        | len => exact s_bltB C blt_len (by decide) h2 PySem.boot_len h3 h4 h5 hp
        | min => exact s_bltB C (blt_min C.calm) (by decide) h2 PyProof.Rows.boot_min h3 h4 h5 hp
        | max => exact s_bltB C (blt_max C.calm) (by decide) h2 PyProof.Rows.boot_max h3 h4 h5 hp
        | int => exact s_bltT C blt_int (by decide) h2 PyProof.Rows.boot_int h3 h4 h5 hp
        | list => exact s_bltT C blt_list (by decide) h2 PyProof.Rows.boot_list h3 h4 h5 hp
        | tuple => exact s_bltT C blt_tuple (by decide) h2 PyProof.Rows.boot_tuple h3 h4 h5 hp
        | mlist => exact s_mlist C h2 h3 h4 h5 hp
        | _ => cases h1
    · cases h
  | .isin x cs many, X, d, W, blk, t, ex, C, h => by
    unfold chkE at h
    split at h
    · rename_i y p l c pos
      rw [Bool.and_eq_true, Bool.and_eq_true, Bool.and_eq_true, Bool.and_eq_true, Bool.and_eq_true, Bool.and_eq_true] at h
      obtain ⟨⟨⟨⟨⟨⟨h0, h1⟩, h2⟩, h3⟩, h4⟩, h5⟩, h6⟩ := h
      have h0 := of_decide_eq_true h0
      have h4 := of_decide_eq_true h4
      have h1 := List.contains_iff_mem.mp h1
      subst h0
      refine both ?_ (fun _ => rfl) fun _ => rfl
      split at h5
      · rw [Bool.and_eq_true] at h5
        obtain ⟨hl, hn⟩ := h5
        obtain ⟨n1, n2⟩ := namesB_ok hn
        match cs, n2, n1, hl with
        | [cn], .cons ⟨p, q⟩ _, n1, _ =>
          subst q
          obtain ⟨k1, k2, k3, k4⟩ := n1 cn List.mem_cons_self
          exact s_isin1 C h1 h2 k1 k2 k3 k4 h3 (sE x C h6)
      · split at h5
        · obtain ⟨n1, n2⟩ := namesB_ok h5
          exact s_isinT C h1 h2 n1 n2 h4 h3 (sE x C h6)
        · cases h5
    · cases h
  | .bmeth o m args, X, d, W, blk, t, ex, C, h => by
    unfold chkE at h
    rw [Bool.and_eq_true] at h
    obtain ⟨ht, h⟩ := h
    split at h
    · rename_i l y apos as pos
      rw [Bool.and_eq_true, Bool.and_eq_true, Bool.and_eq_true, Bool.and_eq_true, Bool.and_eq_true, Bool.and_eq_true, Bool.and_eq_true] at h
      obtain ⟨⟨⟨⟨⟨⟨⟨h0, h1⟩, h2⟩, h3⟩, h4⟩, h5⟩, h6⟩, h7⟩ := h
      have h0 := of_decide_eq_true h0
      have h3 := of_decide_eq_true h3
      subst h0
      have ha := sEs args C h6
      refine both0 ?_ ht
      cases m with
      | append =>
        cases ha with
        | nil => cases h7
        | cons q r => exact s_append h1 h2 h3 h4 (sE o C h5) (AllS.pa (.cons q r) h2)
      | clear =>
        cases ha with
        | nil => exact s_clear C h1 h4 (sE o C h5)
        | cons q r => cases h7
      | pop =>
        cases ha with
        | nil => exact s_pop C h1 h4 (sE o C h5)
        | cons q r => cases h7
      | _ => cases h7
    · cases h
  | .attr o f, X, d, W, blk, t, ex, C, h => by
    unfold chkE at h
    split at h
    · rw [Bool.and_eq_true, Bool.and_eq_true, Bool.and_eq_true] at h
      obtain ⟨⟨⟨h0, h1⟩, h2⟩, h3⟩ := h
      have h0 := of_decide_eq_true h0
      subst h0
      exact both (s_attr C (sE o C h3) h1 h2) (fun _ => rfl) fun _ => rfl
    · cases h
  | .sub o i, X, d, W, blk, t, ex, C, h => by
    unfold chkE at h
    split at h
    · rw [Bool.and_eq_true, Bool.and_eq_true] at h
      obtain ⟨⟨h0, h1⟩, h2⟩ := h
      exact both (s_sub C (sE o C h1) (sE i C h2) (notSlice_ok h0)) (fun _ => rfl) fun _ => rfl
    · cases h
  | .slice o lo hi, X, d, W, blk, t, ex, C, h => by
    unfold chkE at h
    rw [Bool.and_eq_true] at h
    obtain ⟨ht, h⟩ := h
    split at h
    · rw [Bool.and_eq_true, Bool.and_eq_true] at h
      obtain ⟨⟨h0, h1⟩, h2⟩ := h
      exact both0 (s_slice (sE o C h0) (sO lo C h1) (sO hi C h2)) ht
    · cases h
  | .tup es, X, d, W, blk, t, ex, C, h => by
    unfold chkE at h
    rw [Bool.and_eq_true] at h
    obtain ⟨ht, h⟩ := h
    split at h
    · rw [Bool.and_eq_true, Bool.and_eq_true] at h
      obtain ⟨⟨h0, h1⟩, h2⟩ := h
      exact both0 (s_tup ((sEs es C h2).pa h1) (of_decide_eq_true h0)) ht
    · cases h
  | .vls es, X, d, W, blk, t, ex, C, h => by
    unfold chkE at h
    rw [Bool.and_eq_true] at h
    obtain ⟨ht, h⟩ := h
    split at h
    · rw [Bool.and_eq_true, Bool.and_eq_true] at h
      obtain ⟨⟨h0, h1⟩, h2⟩ := h
      exact both0 (s_vls ((sEs es C h2).pa h1) (of_decide_eq_true h0)) ht
    · cases h
  | .mls es, X, d, W, blk, t, ex, C, h => by
    unfold chkE at h
    rw [Bool.and_eq_true] at h
    obtain ⟨ht, h⟩ := h
    split at h
    · rw [Bool.and_eq_true, Bool.and_eq_true] at h
      obtain ⟨⟨h0, h1⟩, h2⟩ := h
      exact both0 (s_mls ((sEs es C h2).pa h1) (of_decide_eq_true h0)) ht
    · cases h
  | .dict _ _, X, d, W, blk, t, ex, C, h => by
    unfold chkE at h
    cases h
  | .comp m elt tg it ifs own, X, d, W, blk, t, ex, C, h => by
    unfold chkE at h
    split at h
    · rename_i x g i fs asy scope pos
      rw [Bool.and_eq_true, Bool.and_eq_true, Bool.and_eq_true, Bool.and_eq_true, Bool.and_eq_true, Bool.and_eq_true, Bool.and_eq_true, Bool.and_eq_true] at h
      obtain ⟨⟨⟨⟨⟨⟨⟨⟨h0, h1⟩, h2⟩, h3⟩, h4⟩, h5⟩, h6⟩, h7⟩, h8⟩ := h
      have h0 := of_decide_eq_true h0
      subst h0
      refine both ?_ (fun _ => rfl) fun _ => rfl
      have hI := sI it C h4
      refine PE.imp (pe_lc (own := own.map fun p => (os p.1, p.2)) (g := tG T R (fn T d) WF X.K tg) (tt := tIfs T R (fn T d) WF X.K ifs) (te := tv T R (fn T d) WF X.K elt) C.calm C.nd hI (blkOk_by h1) (fun s H A cl fp => ?_) (fun s H A cl fp => ?_) (fun s H A cl fp => ?_) (notSet_ok h2)) fun σ H Q q => lc_read (mf := m) (by rw [List.map_map]; rfl) (fun j hj => ?_) q
      · exact sG (X := X.blk s H scope (compEnvC scope cl A X.env) fp) tg (C.blk s H scope _ fp) h5
      · have hh := sEs (X := X.blk s H scope (compEnvC scope cl A X.env) fp) ifs (C.blk s H scope _ fp) h7
        cases hh with
        | nil => exact ifs_nil
        | cons q r =>
          cases r with
          | nil => exact ifs_one q
          | cons _ _ => cases h6
      · exact sE (X := X.blk s H scope (compEnvC scope cl A X.env) fp) elt (C.blk s H scope _ fp) h8
      · rw [List.map_map]
        exact List.contains_iff_mem.mp (List.all_eq_true.mp h3 j hj)
    · cases h
  | .frz e, X, d, W, blk, t, ex, C, h => by
    unfold chkE at h
    rw [Bool.and_eq_true] at h
    exact both0 (s_frz (sE e C h.2)) h.1
  | .any, X, d, W, blk, t, ex, C, h => by
    unfold chkE at h
    cases h
theorem sEs : ∀ (es : List E) {X : Cx} {d : Nat} {W : WX} {blk t : Bool} {xs : List Expr}, CxE T R fA X d W blk → chkEs R T X.N blk X.env.scope t es xs = true → AllS T R d W X t es xs
  | [], X, d, W, blk, t, xs, C, h => by
    unfold chkEs at h
    cases xs with
    | nil => exact .nil
    | cons _ _ => cases h
  | e :: es, X, d, W, blk, t, xs, C, h => by
    unfold chkEs at h
    split at h
    · rw [Bool.and_eq_true] at h
      exact .cons (sE e C h.1) (sEs es C h.2)
    · cases h
theorem sO : ∀ (o : Option E) {X : Cx} {d : Nat} {W : WX} {blk : Bool} {ex : Option Expr}, CxE T R fA X d W blk → chkO R T X.N blk X.env.scope o ex = true → PO X ex (tO T R (fn T d) W X.K o)
  | none, X, d, W, blk, ex, C, h => by
    unfold chkO at h
    cases ex with
    | none => exact s_onone
    | some _ => cases h
  | some e, X, d, W, blk, ex, C, h => by
    unfold chkO at h
    split at h
    · exact s_osome (sE e C h)
    · cases h
theorem sI : ∀ (it : It) {X : Cx} {d : Nat} {W : WX} {blk : Bool} {g x : Expr}, CxE T R fA X d W blk → chkI R T X.N blk X.env.scope it g x = true → PI X g x (tI T R (fn T d) W X.K it)
  | .seq e, X, d, W, blk, g, x, C, h => by
    unfold chkI at h
    exact i_seq (sE e C h)
  | .enum e, X, d, W, blk, g, x, C, h => by
    unfold chkI at h
    rw [Bool.and_eq_true] at h
    obtain ⟨hg, h⟩ := h
    split at h
    · simp only [Bool.and_eq_true, decide_eq_true_eq, List.contains_iff_mem] at h
      obtain ⟨⟨⟨⟨rfl, h1⟩, h2⟩, h3⟩, h4⟩ := h
      cases g <;> first | exact i_enum C h1 h2 h3 (sE e C h4) | cases hg
    · cases h
  | .zip a b, X, d, W, blk, g, x, C, h => by
    unfold chkI at h
    rw [Bool.and_eq_true] at h
    obtain ⟨hg, h⟩ := h
    split at h
    · simp only [Bool.and_eq_true, decide_eq_true_eq, List.contains_iff_mem] at h
      obtain ⟨⟨⟨⟨⟨⟨rfl, h1⟩, h2⟩, h3⟩, h4⟩, h5⟩, h6⟩ := h
      cases g <;> first | exact i_zip C h1 h2 h3 h4 (sE a C h5) (sE b C h6) | cases hg
    · cases h
  | .range a, X, d, W, blk, g, x, C, h => by
    unfold chkI at h
    split at h
    · simp only [Bool.and_eq_true, decide_eq_true_eq, List.contains_iff_mem] at h
      obtain ⟨⟨⟨⟨rfl, h1⟩, h2⟩, h3⟩, h4⟩ := h
      exact i_range C h1 h2 h3 (sE a C h4)
    · cases h
  | .range2 a b, X, d, W, blk, g, x, C, h => by
    unfold chkI at h
    split at h
    · simp only [Bool.and_eq_true, decide_eq_true_eq, List.contains_iff_mem] at h
      obtain ⟨⟨⟨⟨⟨⟨rfl, h1⟩, h2⟩, h3⟩, h4⟩, h5⟩, h6⟩ := h
      exact i_range2 C h1 h2 h3 h4 (sE a C h5) (sE b C h6)
    · cases h
theorem sG : ∀ (t : Tg) {X : Cx} {d : Nat} {W : WX} {blk : Bool} {x : Expr}, CxE T R fA X d W blk → chkG R T X.N blk X.env.scope t x = true → PG X x (tG T R (fn T d) W X.K t)
  | .name i n, X, d, W, blk, x, C, h => by
    unfold chkG at h
    split at h
    · simp only [Bool.and_eq_true, decide_eq_true_eq] at h
      exact g_name C h.1 h.2
    · cases h
  | .tup ts, X, d, W, blk, x, C, h => by
    unfold chkG at h
    split at h
    · rw [Bool.and_eq_true] at h
      obtain ⟨h1, h2⟩ := sGs ts C h.2
      exact g_tup C h1 h.1 h2
    · cases h
  | .attr _ _, X, d, W, blk, x, C, h => by
    unfold chkG at h
    cases h
  | .sub o i, X, d, W, blk, x, C, h => by
    unfold chkG at h
    split at h
    · rw [Bool.and_eq_true, Bool.and_eq_true] at h
      obtain ⟨⟨h0, h1⟩, h2⟩ := h
      exact g_sub C (sE o C h1) (sE i C h2) (notSlice_set h0)
    · cases h
theorem sGs : ∀ (ts : List Tg) {X : Cx} {d : Nat} {W : WX} {blk : Bool} {xs : List Expr}, CxE T R fA X d W blk → chkGs R T X.N blk X.env.scope ts xs = true → PGs X xs (tGs T R (fn T d) W X.K ts) ∧ xs.length = ts.length
  | [], X, d, W, blk, xs, C, h => by
    unfold chkGs at h
    cases xs with
    | nil => exact ⟨g_nil, rfl⟩
    | cons _ _ => cases h
  | t :: ts, X, d, W, blk, xs, C, h => by
    unfold chkGs at h
    split at h
    · rename_i x xs
      rw [Bool.and_eq_true, Bool.and_eq_true] at h
      obtain ⟨h1, h2⟩ := sGs ts C h.2
      exact ⟨g_cons (sG t C h.1.2) h1 h.1.1, by simp [h2]⟩
    · cases h
end
end
end LW
/-! LwJ: statements. -/
namespace LW
open PySem L2
/-- what is wanted behind a statement -/
def PoS (K : PySem.W.Frag) (R : Rw) (Z : Addr → Prop) (ρ : List Addr) (h : HP) (H : Hp) (r : LW.R Fl) (D : Ends) (W : WX) : Prop := match r with
  | .ok (.nx s1) h1 => ∀ ρ' H' s2, Ext ρ h H ρ' h1 H' → Rs K R Z ρ' h1 H' s1 s2 → D.nx s2 H'
  | .ok (.brk s1) h1 => ∀ ρ' H' s2, Ext ρ h H ρ' h1 H' → Rs K R Z ρ' h1 H' s1 s2 → D.bk s2 H'
  | .ok (.ret v) h1 => ∀ ρ' H' u, Ext ρ h H ρ' h1 H' → Wd K R Z ρ' h1 H' → RV K H' ρ' (Lz Z ρ' h1) v u → D.rt u H'
  | .ok (.xc c s1) h1 => c ∈ R.excs ∧ ∀ ρ' H' s2, Ext ρ h H ρ' h1 H' → Rs K R Z ρ' h1 H' s1 s2 → W (.ref (cAd K c)) none s2 H'
  | _ => False
section
variable {K : PySem.W.Frag} {R : Rw} {Z : Addr → Prop} {ρ ρ1 : List Addr} {h h1 : HP} {H H1 : Hp} {α β γ δ : Type} {Rl : Hp → List Addr → (Addr → Prop) → α → β → Prop} {W : WX} {D : Ends} {σ' : Sg} {σ : St}
theorem PoS.rebase {r : LW.R Fl} (x : Ext ρ h H ρ1 h1 H1) (p : PoS K R Z ρ h H r D W) : PoS K R Z ρ1 h1 H1 r D W := by
  cases r with
  | ok a h' =>
    cases a with
    | nx s1 => exact fun ρ' H' b e w => p ρ' H' b (x.trans e) w
    | brk s1 => exact fun ρ' H' b e w => p ρ' H' b (x.trans e) w
    | ret v => exact fun ρ' H' b e w z => p ρ' H' b (x.trans e) w z
    | xc c s1 => exact ⟨p.1, fun ρ' H' b e w => p.2 ρ' H' b (x.trans e) w⟩
  | exc c h' => exact p.elim
  | bad => exact p.elim
theorem PoS.st {r : LW.R α} {k : α → HP → LW.R Fl} {Q1 : β → Hp → Prop} (rs : Rs K R Z ρ h H σ' σ) (p : PoS K R Z ρ h H (r.st σ' k) D W)
    (f : ∀ (a : α) (h1 : HP) (ρ1 : List Addr) (H1 : Hp) (b : β), r = .ok a h1 → Ext ρ h H ρ1 h1 H1 → Wd K R Z ρ1 h1 H1 → Rl H1 ρ1 (Lz Z ρ1 h1) a b → PoS K R Z ρ1 h1 H1 (k a h1) D W → Q1 b H1) : Po K R Z Rl ρ h H r Q1 (fun c d H' => W c d σ H') := by
  cases r with
  | ok a h' => exact fun ρ' H' b e w z => f a h' ρ' H' b rfl e w z (PoS.rebase e p)
  | exc c h' => exact ⟨p.1, fun ρ' H' e w => p.2 ρ' H' σ e (rs.go e w)⟩
  | bad => exact p.elim
theorem PoS.imp {r : LW.R Fl} {D' : Ends} {W' : WX} (p : PoS K R Z ρ h H r D W) (f1 : ∀ s1 h1 ρ1 H1 s2, r = .ok (.nx s1) h1 → Ext ρ h H ρ1 h1 H1 → Rs K R Z ρ1 h1 H1 s1 s2 → D.nx s2 H1 → D'.nx s2 H1)
    (f2 : ∀ s1 h1 ρ1 H1 s2, r = .ok (.brk s1) h1 → Ext ρ h H ρ1 h1 H1 → Rs K R Z ρ1 h1 H1 s1 s2 → D.bk s2 H1 → D'.bk s2 H1)
    (f3 : ∀ v h1 ρ1 H1 u, r = .ok (.ret v) h1 → Ext ρ h H ρ1 h1 H1 → Wd K R Z ρ1 h1 H1 → RV K H1 ρ1 (Lz Z ρ1 h1) v u → D.rt u H1 → D'.rt u H1)
    (f4 : ∀ c s1 h1 ρ1 H1 s2, r = .ok (.xc c s1) h1 → c ∈ R.excs → Ext ρ h H ρ1 h1 H1 → Rs K R Z ρ1 h1 H1 s1 s2 → W (.ref (cAd K c)) none s2 H1 → W' (.ref (cAd K c)) none s2 H1) : PoS K R Z ρ h H r D' W' := by
  cases r with
  | ok a h' =>
    cases a with
    | nx s1 => exact fun ρ' H' b e w => f1 _ _ _ _ _ rfl e w (p ρ' H' b e w)
    | brk s1 => exact fun ρ' H' b e w => f2 _ _ _ _ _ rfl e w (p ρ' H' b e w)
    | ret v => exact fun ρ' H' b e w z => f3 _ _ _ _ _ rfl e w z (p ρ' H' b e w z)
    | xc c s1 => exact ⟨p.1, fun ρ' H' b e w => f4 _ _ _ _ _ _ rfl p.1 e w (p.2 ρ' H' b e w)⟩
  | exc c h' => exact p.elim
  | bad => exact p.elim
/-- the first of two steps -/
theorem PoS.step {r : LW.R Fl} {k : Fl → HP → LW.R Fl} {D' : Ends} {W' : WX} (p : PoS K R Z ρ h H (r.bind k) D W)
    (f1 : ∀ s1 h1 ρ1 H1 s2, r = .ok (.nx s1) h1 → Ext ρ h H ρ1 h1 H1 → Rs K R Z ρ1 h1 H1 s1 s2 → PoS K R Z ρ1 h1 H1 (k (.nx s1) h1) D W → D'.nx s2 H1)
    (f2 : ∀ s1 h1 ρ1 H1 s2, r = .ok (.brk s1) h1 → Ext ρ h H ρ1 h1 H1 → Rs K R Z ρ1 h1 H1 s1 s2 → PoS K R Z ρ1 h1 H1 (k (.brk s1) h1) D W → D'.bk s2 H1)
    (f3 : ∀ v h1 ρ1 H1 u, r = .ok (.ret v) h1 → Ext ρ h H ρ1 h1 H1 → Wd K R Z ρ1 h1 H1 → RV K H1 ρ1 (Lz Z ρ1 h1) v u → PoS K R Z ρ1 h1 H1 (k (.ret v) h1) D W → D'.rt u H1)
    (f4 : ∀ c s1 h1, r = .ok (.xc c s1) h1 → c ∈ R.excs ∧ ∀ ρ1 H1 s2, Ext ρ h H ρ1 h1 H1 → Rs K R Z ρ1 h1 H1 s1 s2 → W' (.ref (cAd K c)) none s2 H1) : PoS K R Z ρ h H r D' W' := by
  cases r with
  | ok a h' =>
    cases a with
    | nx s1 => exact fun ρ' H' b e w => f1 _ _ _ _ _ rfl e w (PoS.rebase e p)
    | brk s1 => exact fun ρ' H' b e w => f2 _ _ _ _ _ rfl e w (PoS.rebase e p)
    | ret v => exact fun ρ' H' b e w z => f3 _ _ _ _ _ rfl e w z (PoS.rebase e p)
    | xc c s1 => exact f4 c s1 h' rfl
  | exc c h' => exact p.elim
  | bad => exact p.elim
end
def tS (T : Tb) (R : Rw) (cf : CF) (W : WX) (K : PySem.W.Frag) (s : S) : TS := fun D σ H => ∃ (Z : Addr → Prop) (ρ : List Addr) (σ' : Sg) (h : HP), Rs K R Z ρ h H σ' σ ∧ PoS K R Z ρ h H (ex T cf s σ' h) D W
def tSs (T : Tb) (R : Rw) (cf : CF) (W : WX) (K : PySem.W.Frag) (ss : List S) : TS := fun D σ H => ∃ (Z : Addr → Prop) (ρ : List Addr) (σ' : Sg) (h : HP), Rs K R Z ρ h H σ' σ ∧ PoS K R Z ρ h H (exs T cf ss σ' h) D W
theorem PS.imp {X : Cx} {s : Stmt} {t t' : TS} (h : PS X s t) (f : ∀ D σ H, t' D σ H → t D σ H) : PS X s t' := ⟨fun pins s σ H D I q => h.run pins s σ H D I (f D σ H q)⟩
theorem PSs.imp {X : Cx} {s : List Stmt} {t t' : TS} (h : PSs X s t) (f : ∀ D σ H, t' D σ H → t D σ H) : PSs X s t' := ⟨fun pins s σ H D I q => h.run pins s σ H D I (f D σ H q)⟩
def notComp : Expr → Bool
  | .ListComp _ _ _ _ => false
  | .SetComp _ _ _ _ => false
  | .DictComp _ _ _ _ _ => false
  | _ => true
theorem notComp_ok {e : Expr} (h : notComp e = true) (t : Option Expr) (l : Nat) (env : Env) : swapsWith e t l env = pure false := by
  cases e <;> first | rfl | (simp [notComp] at h)
def notTup : Expr → Bool
  | .Tuple _ _ _ => false
  | _ => true
theorem notTup_ok {e t : Expr} (h : notTup e = true) (env : Env) : swappedStores [t] e env = pure none := by
  cases e <;> first | (cases t <;> rfl) | (simp [notTup] at h)
theorem notTup_ok2 {e t : Expr} (h : notTup t = true) (hl : ∀ xs p, t ≠ .List xs p) (env : Env) : swappedStores [t] e env = pure none := by
  cases t <;> first | exact absurd rfl (hl _ _) | (cases e <;> rfl) | (simp [notTup] at h)
theorem locB_loc {sc : Scope} {x : Str} {b : Bool} (h : locB b sc x = true) : Loc sc x := by
  unfold locB at h
  split at h
  · rename_i e; exact .inl e
  · rename_i e; exact .inr e
  · cases h
theorem notSlice_aug {r : Expr} (h : notSlice r = true) : ∀ ov iv new, augStore r ov iv new = (do holding [new, ov, iv] (setItem ov iv new); release [new, ov, iv] []; pure .next) := fun ov iv new => by
  cases r <;> first | rfl | (simp [notSlice] at h)
structure CxS (T : Tb) (R : Rw) (fA : String → Addr) (X : Cx) (d : Nat) (W : WX) : Prop extends CxE T R fA X d W false where
  own : PassesOwn (model X.prog X.w) X.A X.env X.xe
  stk : X.stack = X.env :: X.outer
  frm : X.env.frame = some X.env.locals
  knd : X.env.scope.kind = .function
section
variable {T : Tb} {R : Rw} {fA : String → Addr} {X : Cx} {d : Nat} {W : WX} {a b c : E} {l r m tg : Expr} {pos p apos : Pos} {es : List E} {rest : List Expr} {s : S} {ss : List S} {st : Stmt} {sts : List Stmt}
theorem t_nil : PSs X [] (tSs T R (fn T d) W X.K []) := PSs.imp pss_nil fun D σ H ⟨Z, ρ, σ', h, rs, q⟩ => by
  simp only [exs] at q
  exact q ρ H σ Ext.refl rs
theorem t_cons (h1 : PS X st (tS T R (fn T d) W X.K s)) (h2 : PSs X sts (tSs T R (fn T d) W X.K ss)) : PSs X (st :: sts) (tSs T R (fn T d) W X.K (s :: ss)) := by
  refine PSs.imp (pss_cons h1 h2) fun D σ H ⟨Z, ρ, σ', h, rs, q⟩ => ⟨Z, ρ, σ', h, rs, ?_⟩
  simp only [exs] at q
  refine q.step (fun s1 h1 ρ1 H1 s2 _ e1 r1 p1 => ⟨Z, ρ1, s1, h1, r1, p1⟩) (fun s1 h1 ρ1 H1 s2 _ e1 r1 p1 => p1 ρ1 H1 s2 Ext.refl r1) (fun v h1 ρ1 H1 u _ e1 w1 r1 p1 => p1 ρ1 H1 u Ext.refl w1 r1) fun c s1 h1 e => ?_
  rw [e] at q
  exact q
theorem t_pass : PS X (.Pass pos) (tS T R (fn T d) W X.K .pass) := PS.imp ps_pass fun D σ H ⟨Z, ρ, σ', h, rs, q⟩ => by
  simp only [ex] at q
  exact q ρ H σ Ext.refl rs
theorem t_brk : PS X (.Break pos) (tS T R (fn T d) W X.K .brk) := PS.imp ps_break fun D σ H ⟨Z, ρ, σ', h, rs, q⟩ => by
  simp only [ex] at q
  exact q ρ H σ Ext.refl rs
theorem t_retn : PS X (.Return none pos) (tS T R (fn T d) W X.K .retn) := PS.imp ps_retN fun D σ H ⟨Z, ρ, σ', h, rs, q⟩ => by
  simp only [ex] at q
  exact q ρ H _ Ext.refl rs.wd .non
theorem t_ret (ha : PE X l (tv T R (fn T d) W X.K a)) : PS X (.Return (some l) pos) (tS T R (fn T d) W X.K (.ret a)) := PS.imp (ps_ret ha) fun D σ H ⟨Z, ρ, σ', h, rs, q⟩ => by
  simp only [ex] at q
  exact ⟨Z, ρ, σ', h, rs, PoS.st rs q fun v h1 ρ1 H1 u _ e1 w1 r1 p1 => p1 ρ1 H1 u Ext.refl w1 r1⟩
theorem t_expr (ha : PE X l (tv T R (fn T d) W X.K a)) (hn : notComp l = true) : PS X (.Expr l pos) (tS T R (fn T d) W X.K (.expr a)) := PS.imp (ps_expr ha (notComp_ok hn _ _ _)) fun D σ H ⟨Z, ρ, σ', h, rs, q⟩ => by
  simp only [ex] at q
  exact ⟨Z, ρ, σ', h, rs, PoS.st rs q fun v h1 ρ1 H1 u _ e1 w1 r1 p1 => p1 ρ1 H1 σ Ext.refl (rs.go e1 w1)⟩
theorem t_if {ss' : List S} {sts' : List Stmt} (hc : PT X m (tt T R (fn T d) W X.K c)) (ha : PSs X sts (tSs T R (fn T d) W X.K ss)) (hb : PSs X sts' (tSs T R (fn T d) W X.K ss')) : PS X (.If m sts sts' pos) (tS T R (fn T d) W X.K (.ife c ss ss')) := PS.imp (ps_if hc ha hb) fun D σ H ⟨Z, ρ, σ', h, rs, q⟩ => by
  simp only [ex] at q
  refine ⟨Z, ρ, σ', h, rs, PoS.st rs q fun v h1 ρ1 H1 u _ e1 w1 r1 p1 => ?_⟩
  subst r1
  cases u with
  | true => exact iteT ⟨Z, ρ1, σ', h1, rs.go e1 w1, p1⟩
  | false => exact iteF ⟨Z, ρ1, σ', h1, rs.go e1 w1, p1⟩
theorem t_while (C : CxS T R fA X d W) (hc : PT X m (tt T R (fn T d) W X.K c)) (ha : PSs X sts (tSs T R (fn T d) W X.K ss)) : PS X (.While m sts [] pos) (tS T R (fn T d) W X.K (.while_ c ss)) := PS.imp (ps_while C.own hc ha) fun D σ H ⟨Z, ρ, σ', h, rs, q⟩ => by
  simp only [ex] at q
  refine ⟨fun m σ H => ∃ (Z : Addr → Prop) (ρ : List Addr) (σ' : Sg) (h : HP), Rs X.K R Z ρ h H σ' σ ∧ PoS X.K R Z ρ h H (whileG (fun σ h => ev T (fn T d) true c σ h) (fun σ h => exs T (fn T d) ss σ h) m σ' h) D W, ⟨_, Z, ρ, σ', h, rs, q⟩, ?_⟩
  rintro m σ H ⟨Z, ρ, σ', h, rs, q⟩
  cases m with
  | zero => simp only [whileG] at q; exact q.elim
  | succ m =>
    simp only [whileG] at q
    refine ⟨Z, ρ, σ', h, rs, PoS.st rs q fun v h1 ρ1 H1 u _ e1 w1 r1 p1 => ?_⟩
    subst r1
    cases u with
    | false => exact iteF (p1 ρ1 H1 σ Ext.refl (rs.go e1 w1))
    | true =>
      refine iteT ⟨fun σ' H' => ∃ (Z : Addr → Prop) (ρ : List Addr) (σ'' : Sg) (h : HP), Rs X.K R Z ρ h H' σ'' σ' ∧ PoS X.K R Z ρ h H' (whileG (fun σ h => ev T (fn T d) true c σ h) (fun σ h => exs T (fn T d) ss σ h) m σ'' h) D W, fun σ' H' z => ⟨m, Nat.lt_succ_self _, z⟩, Z, ρ1, σ', h1, rs.go e1 w1, ?_⟩
      simp only at p1
      refine p1.step (fun s1 h1 ρ1 H1 s2 _ e1 r1 p1 => ⟨Z, ρ1, s1, h1, r1, p1⟩) (fun s1 h1 ρ1 H1 s2 _ e1 r1 p1 => p1 ρ1 H1 s2 Ext.refl r1) (fun v h1 ρ1 H1 u _ e1 w1 r1 p1 => p1 ρ1 H1 u Ext.refl w1 r1) fun c s1 h1 e => ?_
      rw [e] at p1
      exact p1
theorem st_bind {α β : Type} {σ : Sg} {x : LW.R α} {k : α → HP → LW.R Fl} {g : Fl → HP → LW.R Fl} (hg : ∀ c s h, g (.xc c s) h = .ok (.xc c s) h) : (x.st σ k).bind g = x.st σ fun a h => (k a h).bind g := by
  cases x with
  | ok a h => rfl
  | exc c h => exact hg c σ h
  | bad => rfl
theorem t_for {t : Tg} {it : It} (C : CxS T R fA X d W) (hi : PI X tg l (tI T R (fn T d) W X.K it)) (hg : PG X tg (tG T R (fn T d) W X.K t)) (ha : PSs X sts (tSs T R (fn T d) W X.K ss)) (hs : notSet l = true) : PS X (.For tg l sts [] pos) (tS T R (fn T d) W X.K (.for_ t it ss)) := PS.imp (ps_for C.own C.calm hi hg ha (notSet_ok hs)) fun D σ H ⟨Z, ρ, σ', h, rs, q⟩ => by
  simp only [ex] at q
  refine ⟨Z, ρ, σ', h, rs, PoS.st rs q fun iv h1 ρ1 H1 J _ e1 w1 r1 p1 => ?_⟩
  let step : PV → Sg → HP → LW.R Fl := fun x σ h => (asg T (fn T d) t x σ h).st σ fun σ h => exs T (fn T d) ss σ h
  have p1 : PoS X.K R Z ρ1 h1 H1 (forG iv step (itFuel h1 iv) 0 σ' h1) D W := p1
  refine ⟨fun i m σ H => ∃ (ρ2 : List Addr) (σ' : Sg) (h2 : HP), Ext ρ1 h1 H1 ρ2 h2 H ∧ Rs X.K R Z ρ2 h2 H σ' σ ∧ PoS X.K R Z ρ2 h2 H (forG iv step m i σ' h2) D W, ⟨_, ρ1, σ', h1, Ext.refl, rs.go e1 w1, p1⟩, ?_⟩
  rintro i m σ H ⟨ρ2, σ', h2, x2, rs2, q2⟩
  cases m with
  | zero => simp only [forG] at q2; exact q2.elim
  | succ m =>
    simp only [forG] at q2
    have ri := r1.mono x2
    cases ei : itAt h2 iv i with
    | none => rw [ei] at q2; exact q2.elim
    | some o =>
      rw [ei] at q2
      cases o with
      | none => exact .inl ⟨ri.stop rs2.wd ei, q2 ρ2 H σ Ext.refl rs2⟩
      | some x =>
        simp only at q2
        obtain ⟨g1, g2⟩ := ri.go rs2.wd ei
        refine .inr ⟨g1, fun σ H => ∃ (ρ2 : List Addr) (σ' : Sg) (h2 : HP), Ext ρ1 h1 H1 ρ2 h2 H ∧ Rs X.K R Z ρ2 h2 H σ' σ ∧ PoS X.K R Z ρ2 h2 H (forG iv step m (i + 1) σ' h2) D W, fun σ' H' z => ⟨m, Nat.lt_succ_self _, z⟩, fun xv H3 yl => ?_⟩
        obtain ⟨e3, w3, r3⟩ := g2 xv H3 yl
        have rs3 := rs2.go e3 w3
        refine ⟨Z, ρ2, σ', h2, x, rs3, r3, ?_⟩
        have q3 := PoS.rebase e3 q2
        have q4 : PoS X.K R Z ρ2 h2 H3 ((asg T (fn T d) t x σ' h2).st σ' fun σ h => (exs T (fn T d) ss σ h).bind fun fl h => match fl with
          | .nx σ' => forG iv step m (i + 1) σ' h
          | .brk σ' => .ok (.nx σ') h
          | .ret v => .ok (.ret v) h
          | .xc c σ' => .ok (.xc c σ') h) D W := by
          have q3' : PoS X.K R Z ρ2 h2 H3 (((asg T (fn T d) t x σ' h2).st σ' fun σ h => exs T (fn T d) ss σ h).bind _) D W := q3
          cases ea : asg T (fn T d) t x σ' h2 <;> (rw [ea] at q3'; exact q3')
        refine PoS.st rs3 q4 fun s1 h4 ρ4 H4 s2 _ e4 w4 g4 p4 => ⟨Z, ρ4, s1, h4, ⟨w4, g4.1, g4.2.1⟩, ?_⟩
        refine p4.step (fun s1 h5 ρ5 H5 s2 _ e5 r5 p5 => ⟨ρ5, s1, h5, ((x2.trans e3).trans e4).trans e5, r5, p5⟩) (fun s1 h1 ρ1 H1 s2 _ e1 r1 p1 => p1 ρ1 H1 s2 Ext.refl r1) (fun v h1 ρ1 H1 u _ e1 w1 r1 p1 => p1 ρ1 H1 u Ext.refl w1 r1) fun c s1 h1 e => ?_
        rw [e] at p4
        exact p4
/-! ### assignments -/
theorem asg_read {te : TE} {t : Tg} {D : Ends} {σ : St} {H : Hp} (h0 : tS T R (fn T d) W X.K (.asg t a) D σ H) : tAsg (tv T R (fn T d) W X.K a) (tG T R (fn T d) W X.K t) D σ H := by
  obtain ⟨Z, ρ, σ', h, rs, q⟩ := h0
  simp only [ex] at q
  refine ⟨Z, ρ, σ', h, rs, PoS.st rs q fun v h1 ρ1 H1 u _ e1 w1 r1 p1 => ⟨Z, ρ1, σ', h1, v, rs.go e1 w1, r1, ?_⟩⟩
  exact PoS.st (rs.go e1 w1) p1 fun s1 h2 ρ2 H2 s2 _ e2 w2 g2 p2 => p2 ρ2 H2 s2 Ext.refl ⟨w2, g2.1, g2.2.1⟩
theorem t_asg {t : Tg} (ha : PE X l (tv T R (fn T d) W X.K a)) (hg : PG X tg (tG T R (fn T d) W X.K t)) (hn : swapsWithSole [tg] l pos.line X.env = pure false) (hw : swappedStores [tg] l X.env = pure none) (hs : noStar tg = true) : PS X (.Assign [tg] l pos) (tS T R (fn T d) W X.K (.asg t a)) :=
  PS.imp (ps_asg ha hg hn hw (by rw [assignEach_cons hs]; rfl)) fun D σ H h0 => asg_read (te := fun _ _ _ => True) h0
theorem t_set {i : Nat} {x : String} {y : Str} (ha : PE X l (tv T R (fn T d) W X.K a)) (hN : X.N.Nodup) (hi : X.N[i]? = some y) (h1 : Loc X.env.scope y) (h2 : X.fn y = true ∨ X.env.scope.names.lookup y = some .local) (hs : swapsWith l (some (.Name y p)) pos.line X.env = pure false) : PS X (.Assign [.Name y p] l pos) (tS T R (fn T d) W X.K (.asg (.name i x) a)) :=
  PS.imp (ps_set hN hi h1 ha hs h2) fun D σ H ⟨Z, ρ, σ', h, rs, q⟩ => by
    simp only [ex, asg] at q
    refine ⟨Z, ρ, σ', h, rs, PoS.st rs q fun v h1 ρ1 H1 u _ e1 w1 r1 p1 => ?_⟩
    have rs1 := rs.go e1 w1
    exact p1 ρ1 H1 (σ.set i (some u)) Ext.refl ⟨w1, rs1.rs.set (Nat.le_of_eq rs1.len) r1, by simp [rs.len]⟩
theorem RFs.put {K : PySem.W.Frag} {H : Hp} {ρ : List Addr} {L : Addr → Prop} {f : String} {v : PV} {u : V} (r1 : RV K H ρ L v u) : ∀ {fs : List (String × PV)} {ys : List (Str × V)}, RFs K H ρ L fs ys → RFs K H ρ L (fput fs f v) (putF (os f) u ys)
  | [], [], _ => ⟨rfl, .cons r1 .nil⟩
  | [], _ :: _, r => by obtain ⟨h1, _⟩ := r; simp at h1
  | (g, x) :: fs, [], r => by obtain ⟨h1, _⟩ := r; simp at h1
  | (g, x) :: fs, (y, w) :: ys, r => by
    obtain ⟨h1, h2⟩ := r
    simp only [List.map_cons, List.cons.injEq] at h1
    simp only [List.map_cons] at h2
    cases h2 with
    | cons r2 r3 =>
      unfold fput putF
      by_cases e : g = f
      · subst e
        rw [if_pos rfl, if_pos h1.1.symm]
        exact ⟨by simp [h1.1, h1.2], .cons r1 r3⟩
      · rw [if_neg e, if_neg (by rw [← h1.1]; exact fun z => e (os_inj z))]
        obtain ⟨i1, i2⟩ := RFs.put (f := f) r1 (fs := fs) (ys := ys) ⟨h1.2, r3⟩
        exact ⟨by simp [h1.1, i1], .cons r2 i2⟩
theorem RFs.mono {K : PySem.W.Frag} {Z : Addr → Prop} {ρ ρ' : List Addr} {h h' : HP} {H H' : Hp} (x : Ext ρ h H ρ' h' H') {fs : List (String × PV)} {ys : List (Str × V)} (r : RFs K H ρ (Lz Z ρ h) fs ys) : RFs K H' ρ' (Lz Z ρ' h') fs ys := ⟨r.1, r.2.mono x⟩
theorem RFs.len {K : PySem.W.Frag} {H : Hp} {ρ : List Addr} {L : Addr → Prop} {fs : List (String × PV)} {ys : List (Str × V)} (r : RFs K H ρ L fs ys) : fs.length = ys.length := by
  have := congrArg List.length r.1
  simpa using this
theorem attrSet_ok {Z : Addr → Prop} {ρ : List Addr} {h h' : HP} {H : Hp} {x v : PV} {x' u : V} {f : String} (F : Fc X.K X.mg T R fA) (hf : R.clss.all (fun C => R.flds.contains (C, f)) = true) (w : Wd X.K R Z ρ h H) (r : RV X.K H ρ (Lz Z ρ h) x x') (rv : RV X.K H ρ (Lz Z ρ h) v u) (e : attrSet h x f v = some h') :
    ∃ pa C dx ys, x' = .ref pa ∧ H pa = some (.ins (cAd X.K C) dx ys) ∧ Cls X.K (cAd X.K C) ∧ NoAttr X.K (cAd X.K C) (os f) ∧ ys.length < 1000 ∧ Ext ρ h H ρ h' (upd H pa (.ins (cAd X.K C) dx (putF (os f) u ys))) ∧ Wd X.K R Z ρ h' (upd H pa (.ins (cAd X.K C) dx (putF (os f) u ys))) := by
  cases r with
  | @ref n pa en =>
    simp only [attrSet] at e
    cases eh : h[n]? with
    | none => rw [eh] at e; cases e
    | some o =>
      rw [eh] at e
      cases o with
      | ins C fs =>
        simp only at e
        split at e
        · rename_i hlt
          cases e
          obtain ⟨hc, dx, ys, q, rf⟩ := w.ob n pa _ en eh
          have hm : (C, f) ∈ R.flds := List.contains_iff_mem.mp (List.all_eq_true.mp hf C hc)
          have no : MO.ins C fs ≠ .dead := fun z => nomatch z
          have e3 : Ext ρ h H ρ (h.set n (.ins C (fput fs f v))) (upd H pa (.ins (cAd X.K C) dx (putF (os f) u ys))) := Ext.set en eh no
          have hl := rf.len
          exact ⟨pa, C, dx, ys, rfl, q, (F.cls C hc).1, F.fld C f hm, by omega, e3, w.set en eh no ⟨hc, dx, _, upd_same, (rf.put rv).mono e3⟩⟩
        · cases e
      | _ => cases e
  | _ => simp [attrSet] at e
theorem t_fld {f : String} (C : CxS T R fA X d W) (ho : PE X r (tv T R (fn T d) W X.K b)) (ha : PE X l (tv T R (fn T d) W X.K a)) (hn : notComp l = true ∨ True) (hs : swapsWith l (some (.Attribute r (os f) p)) pos.line X.env = pure false) (hf : R.clss.all (fun C => R.flds.contains (C, f)) = true) : PS X (.Assign [.Attribute r (os f) p] l pos) (tS T R (fn T d) W X.K (.asg (.attr b f) a)) :=
  PS.imp (ps_fld ho ha hs) fun D σ H ⟨Z, ρ, σ', h, rs, q⟩ => by
    simp only [ex, asg] at q
    refine ⟨Z, ρ, σ', h, rs, PoS.st rs q fun v h1 ρ1 H1 u _ e1 w1 r1 p1 => ⟨Z, ρ1, σ', h1, rs.go e1 w1, ?_⟩⟩
    have rs1 := rs.go e1 w1
    have p2 : PoS X.K R Z ρ1 h1 H1 ((ev T (fn T d) false b σ' h1).st σ' fun x h => match attrSet h x f v with
      | some h => .ok (.nx σ') h
      | none => .bad) D W := by
      cases eb : ev T (fn T d) false b σ' h1 with
      | ok x h2 =>
        rw [eb] at p1
        simp only [LW.R.bind_ok, LW.R.st_ok] at p1 ⊢
        cases es : attrSet h2 x f v with
        | none => rw [es] at p1; exact p1.elim
        | some h3 => rw [es] at p1; exact p1
      | exc c h2 => rw [eb] at p1; exact p1
      | bad => rw [eb] at p1; exact p1
    refine PoS.st rs1 p2 fun x h2 ρ2 H2 x' _ e2 w2 r2 p3 => ?_
    cases es : attrSet h2 x f v with
    | none => rw [es] at p3; exact p3.elim
    | some h3 =>
      rw [es] at p3
      obtain ⟨pa, C', dx, ys, k1, k2, k3, k4, k5, k6, k7⟩ := attrSet_ok C.fc hf w2 r2 (r1.mono e2) es
      exact ⟨pa, _, dx, ys, k1, k2, k3, k4, k5, p3 ρ2 _ σ k6 ((rs1.go e2 w2).go k6 k7)⟩
/-! ### op= -/
def tIpA (op : Op) : TIp := fun x y H Q => ∃ i j v, x = .int i ∧ y = .int j ∧ augv op (.int i) (.int j) = some (.int v) ∧ Q (.int v) H
theorem ip_ok (op : Op) : PIp X (opM op) (tIpA op) := by
  intro pins s σ H x y v u Q I r1 r2 ⟨i, j, z, e1, e2, e3, q⟩
  subst e1; subst e2
  cases op with
  | add => cases e3; exact ip_add pins s σ H _ _ v u Q I r1 r2 ⟨i, j, rfl, rfl, q⟩
  | sub => cases e3; exact ip_sub pins s σ H _ _ v u Q I r1 r2 ⟨i, j, rfl, rfl, q⟩
  | mul =>
    simp only [augv] at e3
    split at e3
    · rename_i hb
      cases e3
      rw [Bool.or_eq_true] at hb
      obtain ⟨t, rfl⟩ := r1
      obtain ⟨t', rfl⟩ := r2
      exact PyProof.Rows.imul_int ⟨.int _, H, I.tok _, ⟨_, rfl⟩, q⟩ (CMul.ok (hb.imp b64_ok b64_ok))
    · cases e3
  | _ => simp [augv] at e3
theorem augv_int {op : Op} {x y z : PV} (e : augv op x y = some z) : ∃ i j v, x = .int i ∧ y = .int j ∧ z = .int v := by
  unfold augv at e
  split at e
  · cases e; exact ⟨_, _, _, rfl, rfl, rfl⟩
  · cases e; exact ⟨_, _, _, rfl, rfl, rfl⟩
  · split at e
    · cases e; exact ⟨_, _, _, rfl, rfl, rfl⟩
    · cases e
  · cases e
theorem t_aug {i : Nat} {x : String} {y : Str} {op : Op} (ha : PE X l (tv T R (fn T d) W X.K a)) (hN : X.N.Nodup) (hi : X.N[i]? = some y) (h1 : Loc X.env.scope y) (h2 : X.fn y = true ∨ X.env.scope.names.lookup y = some .local) : PS X (.AugAssign (.Name y p) (opM op) l pos) (tS T R (fn T d) W X.K (.aug (.name i x) op a)) :=
  PS.imp (ps_aug hN hi h1 ha (ip_ok op) h2) fun D σ H ⟨Z, ρ, σ', h, rs, q⟩ => by
    simp only [ex] at q
    cases es : σ'[i]? with
    | none => rw [es] at q; exact q.elim
    | some o =>
      rw [es] at q
      cases o with
      | none => exact q.elim
      | some v =>
        obtain ⟨u, e0, r1⟩ := rs.rs i v es
        simp only at q
        refine ⟨u, e0, Z, ρ, σ', h, rs, PoS.st rs q fun w h1 ρ1 H1 w' _ e1 w1 r2 p1 => ?_⟩
        cases ea : augv op v w with
        | none => rw [ea] at p1; exact p1.elim
        | some z =>
          rw [ea] at p1
          obtain ⟨i', j', v', rfl, rfl, rfl⟩ := augv_int ea
          cases r1; cases r2
          have rs1 := rs.go e1 w1
          exact ⟨i', j', v', rfl, rfl, ea, p1 ρ1 H1 _ Ext.refl ⟨w1, rs1.rs.set (Nat.le_of_eq rs1.len) (.int _), by simp [rs.len]⟩⟩
theorem t_fldaug {f : String} {op : Op} {k : Int} {j : Nat} (C : CxS T R fA X d W) (ho : PE X r (tv T R (fn T d) W X.K b)) (hf : R.clss.all (fun C => R.flds.contains (C, f)) = true) : PS X (.AugAssign (.Attribute r (os f) p) (opM op) (.Constant (.int k) j apos) pos) (tS T R (fn T d) W X.K (.aug (.attr b f) op (.lit (.int k)))) :=
  PS.imp (ps_fldaug ho pe_int (ip_ok op)) fun D σ H ⟨Z, ρ, σ', h, rs, q⟩ => by
    simp only [ex] at q
    refine ⟨Z, ρ, σ', h, rs, PoS.st rs q fun o h1 ρ1 H1 o' _ e1 w1 r1 p1 => ?_⟩
    cases ea : attrv h1 o f with
    | none => rw [ea] at p1; exact p1.elim
    | some x =>
      rw [ea] at p1
      simp only [LW.R.of_some, LW.R.bind_ok, ev, tr, LW.R.st_ok] at p1
      cases eg : augv op x (.int k) with
      | none => rw [eg] at p1; exact p1.elim
      | some z =>
        rw [eg] at p1
        simp only [LW.R.of_some, LW.R.bind_ok] at p1
        cases es : attrSet h1 o f z with
        | none => rw [es] at p1; exact p1.elim
        | some h2 =>
          rw [es] at p1
          obtain ⟨i', j', v', rfl, ej, rfl⟩ := augv_int eg
          cases ej
          obtain ⟨pa, C', dx, ys, k1, k2, k3, k4, k5, k6, k7⟩ := attrSet_ok C.fc hf w1 r1 (.int v') es
          cases r1 with
          | @ref n pa' en =>
            cases k1
            simp only [attrv] at ea
            cases eh : h1[n]? with
            | none => rw [eh] at ea; cases ea
            | some ob =>
              rw [eh] at ea
              cases ob with
              | ins C2 fs =>
                simp only at ea
                obtain ⟨hc, dx2, ys2, q2, rf⟩ := w1.ob n _ _ en eh
                have z2 := q2
                rw [k2] at z2
                obtain ⟨z3, z4, z5⟩ := HO.ins.inj (Option.some.inj z2)
                subst z5
                obtain ⟨u, f1, f2⟩ := fget_ok rf ea
                cases f2
                exact ⟨pa, _, dx, ys, _, rfl, k2, k3, k4, f1, i', k, v', rfl, rfl, eg, dx, ys, k2, k5, p1 ρ1 _ σ k6 ((rs.go e1 w1).go k6 k7)⟩
              | _ => cases ea
          | _ => simp [attrv] at ea
theorem t_daug {op : Op} {k : Int} {j : Nat} (C : CxS T R fA X d W) (ho : PE X l (tv T R (fn T d) W X.K a)) (hi : PE X r (tv T R (fn T d) W X.K b)) (hp : ∀ ov iv new, augStore r ov iv new = (do holding [new, ov, iv] (setItem ov iv new); release [new, ov, iv] []; pure .next)) :
    PS X (.AugAssign (.Subscript l r p) (opM op) (.Constant (.int k) j apos) pos) (tS T R (fn T d) W X.K (.aug (.sub a b) op (.lit (.int k)))) :=
  PS.imp (ps_daug (by have := C.room.un; omega) ho hi pe_int (ip_ok op) hp) fun D σ H ⟨Z, ρ, σ', h, rs, q⟩ => by
    simp only [ex] at q
    refine ⟨Z, ρ, σ', h, rs, PoS.st rs q fun o h1 ρ1 H1 o' _ e1 w1 r1 p1 => ⟨Z, ρ1, σ', h1, rs.go e1 w1, PoS.st (rs.go e1 w1) p1 fun i h2 ρ2 H2 i' _ e2 w2 r2 p2 => ?_⟩⟩
    have rs2 := (rs.go e1 w1).go e2 w2
    cases ea : subD h2 o i with
    | none => rw [ea] at p2; exact p2.elim
    | some x =>
      rw [ea] at p2
      simp only [LW.R.of_some, LW.R.bind_ok, ev, tr, LW.R.st_ok] at p2
      cases eg : augv op x (.int k) with
      | none => rw [eg] at p2; exact p2.elim
      | some z =>
        rw [eg] at p2
        simp only [LW.R.of_some, LW.R.bind_ok] at p2
        cases es : setv h2 o i z with
        | none => rw [es] at p2; exact p2.elim
        | some h3 =>
          rw [es] at p2
          obtain ⟨x', j', v', rfl, ej, rfl⟩ := augv_int eg
          cases ej
          cases r1 with
          | @ref n pa en =>
            have en2 := pre_get e2.pre en
            simp only [subD] at ea
            simp only [setv] at es
            cases eh : h2[n]? with
            | none => rw [eh] at ea; cases ea
            | some ob =>
              rw [eh] at ea es
              cases ob with
              | dct kvs =>
                simp only at ea es
                cases ek : dkOf i with
                | none => rw [ek] at ea; cases ea
                | some kk =>
                  rw [ek] at ea es
                  simp only at ea es
                  split at es
                  · rename_i hlt
                    cases es
                    have ey := dkOf_ok r2 ek
                    subst ey
                    obtain ⟨ys, hy, r4⟩ := w2.ob n pa _ en2 eh
                    obtain ⟨u, d1, d2⟩ := (dget_ok kk r4).1 _ ea
                    cases d2
                    have no : MO.dct kvs ≠ .dead := fun z => nomatch z
                    have e3 : Ext ρ2 h2 H2 ρ2 (h2.set n (.dct (dput kvs kk (.int v')))) (upd H2 pa (.dK (putK ys (dkK kk) (.int v')))) := Ext.set en2 eh no
                    obtain ⟨d3, d4⟩ := dput_ok r4 kk (RV.int v')
                    have g := DGet.k (k := dkK kk) hy
                    rw [d1] at g
                    refine ⟨pa, _, rfl, g, x', k, v', rfl, rfl, eg, _, DPut.k (k := dkK kk) (v := .int v') hy (by rw [← r4.len, ← line_eq]; exact hlt), ?_⟩
                    exact p2 ρ2 _ σ e3 (rs2.go e3 (w2.set en2 eh no ⟨_, upd_same, d3, d4.mono e3⟩))
                  · cases es
              | _ => cases ea
          | _ => simp [subD] at ea
/-! ### name = [..] -/
theorem t_setLc {i : Nat} {x : String} {y : Str} {mf : Bool} {elt : Expr} {it : It} {t : Tg} {ifs : List E} {fs : List Expr} {scope : Scope} {own : List (String × Nat)} (C : CxS T R fA X d W) (hi : X.N[i]? = some y) (hl : X.env.scope.names.lookup y = some .local)
    (hln : (p.line == pos.line) = true) (hno : (scope.names.any fun (n, k) => n == y && (k == .local || k == .cell)) = false) {spos : Pos} (hk : blkC X.N X.env.scope scope (own.map fun p => (os p.1, p.2)) = true) (hs : notSet l = true) (hsl : ∀ j ∈ slots t, j ∈ own.map (·.2))
    (h4 : PI X tg l (tI T R (fn T d) W X.K it)) (h5 : ∀ (s : Shared) (H : Hp) (A : Addr) (cl : List (Str × Addr)) (fp : List Addr), PG (X.blk s H scope (compEnvC scope cl A X.env) fp) tg (tG T R (fn T d) WF X.K t))
    (h6 : ∀ (s : Shared) (H : Hp) (A : Addr) (cl : List (Str × Addr)) (fp : List Addr), PTs (X.blk s H scope (compEnvC scope cl A X.env) fp) fs (tIfs T R (fn T d) WF X.K ifs)) (h7 : ∀ (s : Shared) (H : Hp) (A : Addr) (cl : List (Str × Addr)) (fp : List Addr), PE (X.blk s H scope (compEnvC scope cl A X.env) fp) elt (tv T R (fn T d) WF X.K a)) :
    PS X (.Assign [.Name y p] (.ListComp elt [⟨tg, l, fs, 0⟩] scope pos) spos) (tS T R (fn T d) W X.K (.asg (.name i x) (.comp mf a t it ifs own))) := by
  refine PS.imp (ps_setLc (own := own.map fun p => (os p.1, p.2)) C.calm C.nd hi hl (sw_true C.knd hl hln hno) h4 (blkOk_by hk) h5 h6 h7 (notSet_ok hs)) fun D σ H h0 => ?_
  refine lc_read (mf := mf) (by rw [List.map_map]; rfl) (fun j hj => by rw [List.map_map]; exact hsl j hj) ?_
  obtain ⟨Z, ρ, σ', h, rs, q⟩ := h0
  simp only [ex, asg] at q
  refine ⟨Z, ρ, σ', h, rs, PoS.st rs q fun v h1 ρ1 H1 u _ e1 w1 r1 p1 => ?_⟩
  have rs1 := rs.go e1 w1
  exact p1 ρ1 H1 (σ.set i (some u)) Ext.refl ⟨w1, rs1.rs.set (Nat.le_of_eq rs1.len) r1, by simp [rs.len]⟩
/-! ### a, b = x, y -/
theorem t_par {i j : Nat} {x y : String} {x' y' : Str} {a1 a2 : E} {l1 l2 : Expr} {px py pt : Pos} {kt k2 : Nat} {pt2 : Pos} (C : CxS T R fA X d W) (hi : X.N[i]? = some x') (hj : X.N[j]? = some y') (hij : i ≠ j) (hx : X.env.scope.names.lookup x' = some .local) (hy : X.env.scope.names.lookup y' = some .local)
    (ha : PA X [l1, l2] (ta T R (fn T d) W X.K [a1, a2])) (hw : swappedStores [.Tuple [.Name x' px, .Name y' py] kt pt] (.Tuple [l1, l2] k2 pt2) X.env = pure (some [x', y'])) :
    PS X (.Assign [.Tuple [.Name x' px, .Name y' py] kt pt] (.Tuple [l1, l2] k2 pt2) pos) (tS T R (fn T d) W X.K (.asg (.tup [.name i x, .name j y]) (.tup [a1, a2]))) := by
  refine PS.imp (ps_par C.calm C.nd hi hj hij hx hy ha hw) fun D σ H ⟨Z, ρ, σ', h, rs, q⟩ => ⟨Z, ρ, σ', h, rs, ?_⟩
  simp only [ex, ev] at q
  cases ee : evs T (fn T d) [a1, a2] σ' h with
  | bad => rw [ee] at q; exact q.elim
  | exc c h1 => rw [ee] at q; exact ⟨q.1, fun ρ' H' e w => q.2 ρ' H' σ e (rs.go e w)⟩
  | ok vs h1 =>
    rw [ee] at q
    intro ρ1 H1 us e1 w1 r1
    have hl := evs_len ee
    have rs1 := rs.go e1 w1
    match vs, r1, hl with
    | [v, w], .cons r2 (.cons r3 .nil), _ =>
      refine ⟨_, _, rfl, ?_⟩
      simp only [tr, LW.R.bind_ok, LW.R.st_ok, asg, asS, asgs, List.length_cons, List.length_nil, if_pos, LW.R.calm_ok] at q
      refine q ρ1 H1 _ e1 ⟨w1, (rs1.rs.set (Nat.le_of_eq rs1.len) r2).set (by simp [rs.len]) r3, by simp [rs.len]⟩
theorem any2 {f : Expr → Bool} {l1 l2 : Expr} (h1 : f l1 = false) (h2 : f l2 = false) : ¬ ([l1, l2].any f = true) := by simp [h1, h2]
theorem sw_par {env : Env} {x' y' : Str} {l1 l2 : Expr} {px py pt : Pos} {kt k2 : Nat} {pt2 : Pos} (hk : env.scope.kind = .function) (hx : env.scope.names.lookup x' = some .local) (hy : env.scope.names.lookup y' = some .local) (hl : (py.line == px.line) = true) (hne : (y' == x') = false)
    (h1 : noStar l1 = true) (h2 : noStar l2 = true) (h3 : [l1, l2].all (foldedForSure 8) = false) (h4 : [l1, l2].all (constantsAlone 8) = false) : swappedStores [.Tuple [.Name x' px, .Name y' py] kt pt] (.Tuple [l1, l2] k2 pt2) env = pure (some [x', y']) := by
  have kx : env.kindOf x' = some .local := hx
  have ky : env.kindOf y' = some .local := hy
  have hb : env.blockKind = .function := by unfold Env.blockKind; rw [hk]; rfl
  have e1 : (px.line == px.line) = true := beq_self_eq_true _
  have e2 : (some NameKind.local == some NameKind.local) = true := rfl
  have hd : ([x', y'].length != 0 + 1 + 1 || [x', y'].eraseDups.length != [x', y'].length) = false := by
    simp [List.eraseDups_cons, hne]
  unfold swappedStores
  simp only [hb, List.length_cons, List.length_nil, List.head?_cons, Option.map_some, Option.getD_some, Expr.pos, h3, h4, List.filterMap_cons, List.filterMap_nil, kx, ky, hl, e1, e2, Bool.and_self, if_true]
  rw [if_neg (by decide), if_neg ?h1, if_neg ?h2, if_neg (by decide), if_neg (by decide)]
  case h1 => exact any2 (by cases l1 <;> first | rfl | (simp [noStar] at h1)) (by cases l2 <;> first | rfl | (simp [noStar] at h2))
  case h2 =>
    intro z
    have z2 := z.symm.trans hd
    cases z2
/-! ### raise, try -/
theorem t_raise {cn msg : String} {m' : Str} {j : Nat} {p2 pos' : Pos} (C : CxS T R fA X d W) (hc : cn ∈ R.excs) (hg : glB X.env.scope (os cn) = true) (ho : okN (os cn) = true) : PS X (.Raise (some (.Call (.Name (os cn) p) [.Constant (.str m') j p2] [] pos')) none pos) (tS T R (fn T d) W X.K (.raise cn msg)) := by
  obtain ⟨h1, h2, h3, h4, h5⟩ := C.fc.exc cn hc
  refine PS.imp (ps_raise C.calm C.tk (pmk_own PySem.F.excBase_ValueError h2 h1 h3 (raises_own h4 h5) (glB_ok hg) (okN_ok ho).1)) fun D σ H ⟨Z, ρ, σ', h, rs, q⟩ => ?_
  simp only [ex] at q
  exact q.2 ρ H σ Ext.refl rs
theorem CxS.tr (C : CxS T R fA X d W) {W' : WX} {pn : List (Addr × Obj)} {xe : Value → Shared → Prop} (tk : Takes (X.tr pn xe) W') (po : PassesOwn (model X.prog X.w) X.A X.env xe) : CxS T R fA (X.tr pn xe) d W' :=
  ⟨⟨C.fc, C.fo, C.nd, C.calm, C.room, tk, C.fn⟩, po, C.stk, C.frm, C.knd⟩
/-- the clauses -/
inductive HdR (T : Tb) (R : Rw) (d : Nat) (W : WX) (K : PySem.W.Frag) : List (String × List S) → List (Value × (Addr → Value → Option Addr → TS)) → Prop
  | nil : HdR T R d W K [] []
  | cons {x : String} {b : List S} {r : List (String × List S)} {l : List (Value × (Addr → Value → Option Addr → TS))} (hx : x ∈ R.excs) (t : HdR T R d W K r l) : HdR T R d W K ((x, b) :: r) ((.ref (cAd K x), fun _ _ _ => tSs T R (fn T d) W K b) :: l)
theorem hd_read {K : PySem.W.Frag} {mg : Str → Option Value} (F : Fc K mg T R fA) {D : Ends} {c : String} (hc : c ∈ R.excs) {Z : Addr → Prop} {s1 : Sg} {h1 : HP} {ρ1 : List Addr} {H1 : Hp} {s2 : St} (rs : Rs K R Z ρ1 h1 H1 s1 s2) : ∀ {hs : List (String × List S)} {l : List (Value × (Addr → Value → Option Addr → TS))}, HdR T R d W K hs l → PoS K R Z ρ1 h1 H1 (exh T (fn T d) c hs s1 h1) D W → wMany K W D l (.ref (cAd K c)) none s2 H1
  | _, _, .nil, q => by
    simp only [exh] at q
    exact q.2 ρ1 H1 s2 Ext.refl rs
  | _, _, .cons (x := x) hx t, q => by
    simp only [exh] at q
    refine ⟨T.sub c x, F.exm c hc x hx, fun e a _ => ?_, fun e => ?_⟩
    · rw [e] at q
      exact ⟨Z, ρ1, s1, h1, rs, q⟩
    · rw [e] at q
      exact hd_read F hc rs t q
theorem t_try {hs : List (String × List S)} {lx : List (Value × (Addr → Value → Option Addr → TS))} {h₀ : ExceptHandler} {hds : List ExceptHandler} (C : CxS T R fA X d W) (hb : ∀ (W' : WX) (pn : List (Addr × Obj)) (xe : Value → Shared → Prop), CxS T R fA (X.tr pn xe) d W' → PSs (X.tr pn xe) sts (tSs T R (fn T d) W' X.K ss))
    (hh : HdsOk X (h₀ :: hds) lx) (hr : HdR T R d W X.K hs lx) : PS X (.Try sts (h₀ :: hds) [] [] pos) (tS T R (fn T d) W X.K (.try_ ss hs)) := by
  refine PS.imp (ps_try_many (tb := fun W' => tSs T R (fn T d) W' X.K ss) C.stk C.frm C.tk (fun W' pn xe tk po => hb W' pn xe (C.tr tk po)) hh) fun D σ H ⟨Z, ρ, σ', h, rs, q⟩ => ⟨Z, ρ, σ', h, rs, ?_⟩
  simp only [ex] at q
  refine q.step (fun s1 h1 ρ1 H1 s2 _ e1 r1 p1 => p1 ρ1 H1 s2 Ext.refl r1) (fun s1 h1 ρ1 H1 s2 _ e1 r1 p1 => p1 ρ1 H1 s2 Ext.refl r1) (fun v h1 ρ1 H1 u _ e1 w1 r1 p1 => p1 ρ1 H1 u Ext.refl w1 r1) fun c s1 h1 e => ?_
  rw [e] at q
  simp only [LW.R.bind_ok] at q
  cases ex : T.exc c with
  | false => rw [ex] at q; exact q.elim
  | true =>
    rw [ex] at q
    simp only at q
    have hc := C.fc.excT c ex
    exact ⟨hc, fun ρ1 H1 s2 e1 r1 => hd_read C.fc hc r1 hr (PoS.rebase e1 q)⟩
end
/-! ### the check -/
def cellB (sc : Scope) (y : Str) : Bool := sc.names.lookup y == some .cell
def lcOk (sc : Scope) (y : Str) (p : Pos) : Expr → Bool
  | .ListComp _ _ scope lpos => decide (sc.names.lookup y = some .local) && (p.line == lpos.line) && !(scope.names.any fun (n, k) => n == y && (k == .local || k == .cell))
  | _ => false
theorem sw_cell {l : Expr} {y : Str} {p : Pos} {ln : Nat} {env : Env} (h : cellB env.scope y = true) : swapsWith l (some (.Name y p)) ln env = pure false := by
  have ky : env.kindOf y = some .cell := eq_of_beq h
  have e : (some NameKind.cell == some NameKind.local) = false := rfl
  cases l <;> first | rfl | (unfold swapsWith; simp only [ky, e, Bool.and_false, Bool.false_and])
theorem sw_attr {l o : Expr} {f : Str} {p : Pos} {ln : Nat} {env : Env} : swapsWith l (some (.Attribute o f p)) ln env = pure false := by cases l <;> rfl
theorem sw_sub {l o i : Expr} {p : Pos} {ln : Nat} {env : Env} : swapsWith l (some (.Subscript o i p)) ln env = pure false := by cases l <;> rfl
section
variable (R : Rw) (T : Tb) (N : List Str)
/-- one statement of an except clause -/
def chkH1 (sc : Scope) : S → Stmt → Bool
  | .asg t e, st => match st with
    | .Assign [.Name y _] (.Constant c _ _) _ => match t with
      | .name i _ => decide (N[i]? = some y) && locB false sc y && (match e with
        | .lit v => litB v c
        | _ => false)
      | _ => false
    | _ => false
  | .aug t op e, st => match st with
    | .AugAssign (.Name y _) o (.Constant c _ _) _ => match t with
      | .name i _ => decide (o = opM op) && decide (N[i]? = some y) && locB false sc y && (match e with
        | .lit v => litB v c
        | _ => false)
      | _ => false
    | _ => false
  | .ret e, st => match st with
    | .Return (some (.Constant c _ _)) _ => match e with
      | .lit v => litB v c
      | _ => false
    | _ => false
  | .expr e, st => match st with
    | .Expr (.Call (.Attribute (.Name y _) f apos) [.Constant c _ _] [] pos) _ => match e with
      | .bmeth (.var i _) .append [.lit v] => decide (f = os "append") && decide (N[i]? = some y) && visB sc y && okN y && (apos.endLine == pos.line) && litB v c
      | _ => false
    | _ => false
  | .pass, st => match st with
    | .Pass _ => true
    | _ => false
  | _, _ => false
def chkH (sc : Scope) : List S → List Stmt → Bool
  | [], sts => sts.isEmpty
  | s :: ss, sts => match sts with
    | st :: sts => chkH1 N sc s st && chkH sc ss sts
    | [] => false
def chkHs (sc : Scope) : List (String × List S) → List ExceptHandler → Bool
  | [], hds => hds.isEmpty
  | (x, b) :: r, hds => match hds with
    | .ExceptHandler (some (.Name y _)) none (b₀ :: suite) _ :: hds => decide (y = os x) && R.excs.contains x && glB sc y && okN y && chkH N sc b (b₀ :: suite) && chkHs sc r hds
    | _ => false
mutual
def chkS (sc : Scope) : S → Stmt → Bool
  | .expr e, st => match st with
    | .Expr l _ => notComp l && chkE R T N false sc false e l
    | _ => false
  | .asg t e, st => match st with
    | .Assign [tx] l pos => match t with
      | .name i _ => match tx with
        | .Name y p => decide (N[i]? = some y) && locB false sc y && chkE R T N false sc false e l && (notComp l || cellB sc y || (lcOk sc y p l && match e with
          | .comp _ _ _ _ _ _ => true
          | _ => false))
        | _ => false
      | .tup ts => match l with
        | .Tuple ls _ _ => match ls with
          | [l1, l2] => match tx with
            | .Tuple [.Name x px, .Name y py] _ _ => match ts with
              | [.name i _, .name j _] => match e with
                | .tup [e1, e2] => decide (N[i]? = some x) && decide (N[j]? = some y) && decide (i ≠ j) && decide (sc.names.lookup x = some .local) && decide (sc.names.lookup y = some .local) && (py.line == px.line) && !(y == x) && noStar l1 && noStar l2 && !([l1, l2].all (foldedForSure 8)) && !([l1, l2].all (constantsAlone 8)) && chkE R T N false sc false e1 l1 && chkE R T N false sc false e2 l2
                | _ => false
              | _ => false
            | _ => false
          | _ => false
        | _ => notTup l && notComp l && noStar tx && chkE R T N false sc false e l && chkG R T N false sc (.tup ts) tx
      | .attr o f => match tx with
        | .Attribute r y _ => decide (y = os f) && R.clss.all (fun C => R.flds.contains (C, f)) && chkE R T N false sc false o r && chkE R T N false sc false e l
        | _ => false
      | .sub o i => match tx with
        | .Subscript r k _ => notSlice k && chkE R T N false sc false o r && chkE R T N false sc false i k && chkE R T N false sc false e l
        | _ => false
    | _ => false
  | .aug t op e, st => match st with
    | .AugAssign tx o l _ => decide (o = opM op) && match t with
      | .name i _ => match tx with
        | .Name y _ => decide (N[i]? = some y) && locB false sc y && chkE R T N false sc false e l
        | _ => false
      | .attr ob f => match tx with
        | .Attribute r y _ => decide (y = os f) && R.clss.all (fun C => R.flds.contains (C, f)) && chkE R T N false sc false ob r && (match l with
          | .Constant (.int k) _ _ => match e with
            | .lit (.int k') => decide (k = k')
            | _ => false
          | _ => false)
        | _ => false
      | .sub ob i => match tx with
        | .Subscript r k _ => notSlice k && chkE R T N false sc false ob r && chkE R T N false sc false i k && (match l with
          | .Constant (.int k) _ _ => match e with
            | .lit (.int k') => decide (k = k')
            | _ => false
          | _ => false)
        | _ => false
      | _ => false
    | _ => false
  | .ife t a b, st => match st with
    | .If c x y _ => chkE R T N false sc true t c && chkSs sc a x && chkSs sc b y
    | _ => false
  | .for_ t it body, st => match st with
    | .For g i x [] _ => notSet i && chkI R T N false sc it g i && chkG R T N false sc t g && chkSs sc body x
    | _ => false
  | .while_ t body, st => match st with
    | .While c x [] _ => chkE R T N false sc true t c && chkSs sc body x
    | _ => false
  | .ret e, st => match st with
    | .Return (some l) _ => chkE R T N false sc false e l
    | _ => false
  | .retn, st => match st with
    | .Return none _ => true
    | _ => false
  | .raise c _, st => match st with
    | .Raise (some (.Call (.Name y _) [.Constant (.str _) _ _] [] _)) none _ => decide (y = os c) && R.excs.contains c && glB sc y && okN y
    | _ => false
  | .try_ body hs, st => match st with
    | .Try x (h0 :: hds) [] [] _ => chkSs sc body x && chkHs R N sc hs (h0 :: hds)
    | _ => false
  | .brk, st => match st with
    | .Break _ => true
    | _ => false
  | .pass, st => match st with
    | .Pass _ => true
    | _ => false
  | .any, _ => false
def chkSs (sc : Scope) : List S → List Stmt → Bool
  | [], sts => sts.isEmpty
  | s :: ss, sts => match sts with
    | st :: sts => chkS sc s st && chkSs sc ss sts
    | [] => false
end
end
end LW
/-! LwK: every statement is read right. -/
namespace LW
open PySem L2
section
variable {T : Tb} {R : Rw} {fA : String → Addr}
/-- an except clause's statement -/
theorem sH1 {X : Cx} {d : Nat} {W : WX} (hN : X.N.Nodup) (hfn : ∀ x, X.fn x = true) : ∀ (s : S) {st : Stmt}, chkH1 X.N X.env.scope s st = true → PS X st (tS T R (fn T d) W X.K s)
  | .asg t e, st, h => by
    simp only [chkH1] at h
    split at h
    · split at h
      · rw [Bool.and_eq_true, Bool.and_eq_true] at h
        obtain ⟨⟨h1, h2⟩, h3⟩ := h
        split at h3
        · have hl : Loc X.env.scope _ := (locB_loc h2)
          exact t_set (s_lit h3) hN (of_decide_eq_true h1) hl (.inl (hfn _)) (notComp_ok rfl _ _ _)
        · cases h3
      · cases h
    · cases h
  | .aug t op e, st, h => by
    simp only [chkH1] at h
    split at h
    · split at h
      · rw [Bool.and_eq_true, Bool.and_eq_true, Bool.and_eq_true] at h
        obtain ⟨⟨⟨h0, h1⟩, h2⟩, h3⟩ := h
        have h0 := of_decide_eq_true h0
        subst h0
        split at h3
        · exact t_aug (s_lit h3) hN (of_decide_eq_true h1) (locB_loc h2) (.inl (hfn _))
        · cases h3
      · cases h
    · cases h
  | .ret e, st, h => by
    simp only [chkH1] at h
    split at h
    · split at h
      · exact t_ret (s_lit h)
      · cases h
    · cases h
  | .expr e, st, h => by
    simp only [chkH1] at h
    split at h
    · split at h
      · rw [Bool.and_eq_true, Bool.and_eq_true, Bool.and_eq_true, Bool.and_eq_true, Bool.and_eq_true] at h
        obtain ⟨⟨⟨⟨⟨h0, h1⟩, h2⟩, h3⟩, h4⟩, h5⟩ := h
        have h0 := of_decide_eq_true h0
        subst h0
        exact t_expr (s_append rfl rfl (by simp) h4 (s_var (of_decide_eq_true h1) h2 h3) (s_cons (s_lit h5) s_nil rfl)) rfl
      · cases h
    · cases h
  | .pass, st, h => by
    simp only [chkH1] at h
    split at h
    · exact t_pass
    · cases h
  | .ife _ _ _, _, h => by simp [chkH1] at h
  | .for_ _ _ _, _, h => by simp [chkH1] at h
  | .while_ _ _, _, h => by simp [chkH1] at h
  | .retn, _, h => by simp [chkH1] at h
  | .raise _ _, _, h => by simp [chkH1] at h
  | .try_ _ _, _, h => by simp [chkH1] at h
  | .brk, _, h => by simp [chkH1] at h
  | .any, _, h => by simp [chkH1] at h
theorem sH {X : Cx} {d : Nat} {W : WX} (hN : X.N.Nodup) (hfn : ∀ x, X.fn x = true) : ∀ (ss : List S) {sts : List Stmt}, chkH X.N X.env.scope ss sts = true → PSs X sts (tSs T R (fn T d) W X.K ss)
  | [], sts, h => by
    unfold chkH at h
    cases sts with
    | nil => exact t_nil
    | cons _ _ => cases h
  | s :: ss, sts, h => by
    unfold chkH at h
    split at h
    · rw [Bool.and_eq_true] at h
      exact t_cons (sH1 hN hfn s h.1) (sH hN hfn ss h.2)
    · cases h
theorem sHs {X : Cx} {d : Nat} {W : WX} (C : CxS T R fA X d W) : ∀ (hs : List (String × List S)) {hds : List ExceptHandler}, chkHs R X.N X.env.scope hs hds = true → ∃ lx, HdsOk X hds lx ∧ HdR T R d W X.K hs lx
  | [], hds, h => by
    unfold chkHs at h
    cases hds with
    | nil => exact ⟨[], .nil, .nil⟩
    | cons _ _ => cases h
  | (x, b) :: r, hds, h => by
    unfold chkHs at h
    split at h
    · rename_i y np b₀ suite pos' hds
      rw [Bool.and_eq_true, Bool.and_eq_true, Bool.and_eq_true, Bool.and_eq_true, Bool.and_eq_true] at h
      obtain ⟨⟨⟨⟨⟨h0, h1⟩, h2⟩, h3⟩, h4⟩, h5⟩ := h
      have h0 := of_decide_eq_true h0
      subst h0
      have h1 := List.contains_iff_mem.mp h1
      obtain ⟨lx, k1, k2⟩ := sHs C r h5
      exact ⟨_, .cons ⟨glB_ok h2, (okN_ok h3).1, .inl (C.fc.exc x h1).1⟩ (fun a oe cls dd pn _ _ => sH (X := X.suite a ((a, oe) :: pn)) C.nd (fun x => C.fn rfl x) b h4) k1, .cons h1 k2⟩
    · cases h
mutual
theorem sS : ∀ (s : S) {X : Cx} {d : Nat} {W : WX} {st : Stmt}, CxS T R fA X d W → chkS R T X.N X.env.scope s st = true → PS X st (tS T R (fn T d) W X.K s)
  | .expr e, X, d, W, st, C, h => by
    unfold chkS at h
    split at h
    · rw [Bool.and_eq_true] at h
      exact t_expr (sE e C.toCxE h.2) h.1
    · cases h
  | .asg t e, X, d, W, st, C, h => by
    unfold chkS at h
    split at h
    · rename_i tx l pos
      split at h
      · -- a name
        split at h
        · rename_i i _ y p
          rw [Bool.and_eq_true, Bool.and_eq_true, Bool.and_eq_true] at h
          obtain ⟨⟨⟨h0, h1⟩, h2⟩, h3⟩ := h
          have h0 := of_decide_eq_true h0
          obtain ⟨k1, k2⟩ := locB_ok C.toCxE h1
          rw [Bool.or_eq_true, Bool.or_eq_true] at h3
          rcases h3 with (h3 | h3) | h3
          · exact t_set (sE e C.toCxE h2) C.nd h0 k1 k2 (notComp_ok h3 _ _ _)
          · exact t_set (sE e C.toCxE h2) C.nd h0 k1 k2 (sw_cell h3)
          · rw [Bool.and_eq_true] at h3
            obtain ⟨h3, h4⟩ := h3
            split at h4
            · rename_i m elt tg it ifs own
              unfold chkE at h2
              split at h2
              · rename_i x g i' fs asy scope lpos
                rw [Bool.and_eq_true, Bool.and_eq_true, Bool.and_eq_true, Bool.and_eq_true, Bool.and_eq_true, Bool.and_eq_true, Bool.and_eq_true, Bool.and_eq_true] at h2
                obtain ⟨⟨⟨⟨⟨⟨⟨⟨g0, g1⟩, g2⟩, g3⟩, g4⟩, g5⟩, g6⟩, g7⟩, g8⟩ := h2
                have g0 := of_decide_eq_true g0
                subst g0
                simp only [lcOk, Bool.and_eq_true, decide_eq_true_eq, Bool.not_eq_true'] at h3
                refine t_setLc C h0 h3.1.1 h3.1.2 h3.2 g1 g2 (fun j hj => List.contains_iff_mem.mp (List.all_eq_true.mp g3 j hj)) (sI it C.toCxE g4) (fun s H A cl fp => ?_) (fun s H A cl fp => ?_) (fun s H A cl fp => ?_)
                · exact sG (X := X.blk s H scope (compEnvC scope cl A X.env) fp) tg (C.toCxE.blk s H scope _ fp) g5
                · have hh := sEs (X := X.blk s H scope (compEnvC scope cl A X.env) fp) ifs (C.toCxE.blk s H scope _ fp) g7
                  cases hh with
                  | nil => exact ifs_nil
                  | cons q r =>
                    cases r with
                    | nil => exact ifs_one q
                    | cons _ _ => cases g6
                · exact sE (X := X.blk s H scope (compEnvC scope cl A X.env) fp) elt (C.toCxE.blk s H scope _ fp) g8
              · cases h2
            · cases h4
        · cases h
      · -- a tuple
        split at h
        · split at h
          · split at h
            · split at h
              · split at h
                · simp only [Bool.and_eq_true, decide_eq_true_eq, Bool.not_eq_true'] at h
                  obtain ⟨⟨⟨⟨⟨⟨⟨⟨⟨⟨⟨⟨h0, h1⟩, h2⟩, h3⟩, h4⟩, h5⟩, h6⟩, h7⟩, h8⟩, h9⟩, h10⟩, h11⟩, h12⟩ := h
                  exact t_par C h0 h1 h2 h3 h4 (s_cons (sE _ C.toCxE h11) (s_cons (sE _ C.toCxE h12) s_nil h8) h7) (sw_par C.knd h3 h4 h5 h6 h7 h8 h9 h10)
                · cases h
              · cases h
            · cases h
          · cases h
        · rw [Bool.and_eq_true, Bool.and_eq_true, Bool.and_eq_true, Bool.and_eq_true] at h
          obtain ⟨⟨⟨⟨h0, h1⟩, h2⟩, h3⟩, h4⟩ := h
          exact t_asg (sE e C.toCxE h3) (sG _ C.toCxE h4) (notComp_ok h1 _ _ _) (notTup_ok h0 _) h2
      · -- o.f
        split at h
        · simp only [Bool.and_eq_true] at h
          obtain ⟨⟨⟨h0, h1⟩, h2⟩, h3⟩ := h
          have h0 := of_decide_eq_true h0
          subst h0
          exact t_fld C (sE _ C.toCxE h2) (sE e C.toCxE h3) (.inr trivial) sw_attr h1
        · cases h
      · -- o[i]
        split at h
        · rename_i r1 k1 p1
          simp only [Bool.and_eq_true] at h
          obtain ⟨⟨⟨h0, h1⟩, h2⟩, h3⟩ := h
          exact t_asg (sE e C.toCxE h3) (g_sub C.toCxE (sE _ C.toCxE h1) (sE _ C.toCxE h2) (notSlice_set h0)) (sw_sub (ln := pos.line) (env := X.env) (p := p1) (o := r1) (i := k1)) (notTup_ok2 rfl (by intro _ _ z; cases z) _) rfl
        · cases h
    · cases h
  | .aug t op e, X, d, W, st, C, h => by
    unfold chkS at h
    split at h
    · rw [Bool.and_eq_true] at h
      obtain ⟨hop, h⟩ := h
      have hop := of_decide_eq_true hop
      subst hop
      split at h
      · split at h
        · simp only [Bool.and_eq_true, decide_eq_true_eq] at h
          obtain ⟨⟨h0, h1⟩, h2⟩ := h
          obtain ⟨k1, k2⟩ := locB_ok C.toCxE h1
          exact t_aug (sE e C.toCxE h2) C.nd h0 k1 k2
        · cases h
      · split at h
        · rw [Bool.and_eq_true, Bool.and_eq_true, Bool.and_eq_true] at h
          obtain ⟨⟨⟨h0, h1⟩, h2⟩, h3⟩ := h
          have h0 := of_decide_eq_true h0
          subst h0
          split at h3
          · split at h3
            · have h3 := of_decide_eq_true h3
              subst h3
              exact t_fldaug C (sE _ C.toCxE h2) h1
            · cases h3
          · cases h3
        · cases h
      · split at h
        · rw [Bool.and_eq_true, Bool.and_eq_true, Bool.and_eq_true] at h
          obtain ⟨⟨⟨h0, h1⟩, h2⟩, h3⟩ := h
          split at h3
          · split at h3
            · have h3 := of_decide_eq_true h3
              subst h3
              exact t_daug C (sE _ C.toCxE h1) (sE _ C.toCxE h2) (notSlice_aug h0)
            · cases h3
          · cases h3
        · cases h
      · cases h
    · cases h
  | .ife t a b, X, d, W, st, C, h => by
    unfold chkS at h
    split at h
    · rw [Bool.and_eq_true, Bool.and_eq_true] at h
      exact t_if (sE t C.toCxE h.1.1) (sSs a C h.1.2) (sSs b C h.2)
    · cases h
  | .for_ t it body, X, d, W, st, C, h => by
    unfold chkS at h
    split at h
    · rw [Bool.and_eq_true, Bool.and_eq_true, Bool.and_eq_true] at h
      obtain ⟨⟨⟨h0, h1⟩, h2⟩, h3⟩ := h
      exact t_for C (sI it C.toCxE h1) (sG t C.toCxE h2) (sSs body C h3) h0
    · cases h
  | .while_ t body, X, d, W, st, C, h => by
    unfold chkS at h
    split at h
    · rw [Bool.and_eq_true] at h
      exact t_while C (sE t C.toCxE h.1) (sSs body C h.2)
    · cases h
  | .ret e, X, d, W, st, C, h => by
    unfold chkS at h
    split at h
    · exact t_ret (sE e C.toCxE h)
    · cases h
  | .retn, X, d, W, st, C, h => by
    unfold chkS at h
    split at h
    · exact t_retn
    · cases h
  | .raise c msg, X, d, W, st, C, h => by
    unfold chkS at h
    split at h
    · rw [Bool.and_eq_true, Bool.and_eq_true, Bool.and_eq_true] at h
      obtain ⟨⟨⟨h0, h1⟩, h2⟩, h3⟩ := h
      have h0 := of_decide_eq_true h0
      subst h0
      exact t_raise C (List.contains_iff_mem.mp h1) h2 h3
    · cases h
  | .try_ body hs, X, d, W, st, C, h => by
    unfold chkS at h
    split at h
    · rw [Bool.and_eq_true] at h
      obtain ⟨lx, k1, k2⟩ := sHs C hs h.2
      exact t_try C (fun W' pn xe C' => sSs (X := X.tr pn xe) body C' h.1) k1 k2
    · cases h
  | .brk, X, d, W, st, C, h => by
    unfold chkS at h
    split at h
    · exact t_brk
    · cases h
  | .pass, X, d, W, st, C, h => by
    unfold chkS at h
    split at h
    · exact t_pass
    · cases h
  | .any, X, d, W, st, C, h => by
    unfold chkS at h
    cases h
theorem sSs : ∀ (ss : List S) {X : Cx} {d : Nat} {W : WX} {sts : List Stmt}, CxS T R fA X d W → chkSs R T X.N X.env.scope ss sts = true → PSs X sts (tSs T R (fn T d) W X.K ss)
  | [], X, d, W, sts, C, h => by
    unfold chkSs at h
    cases sts with
    | nil => exact t_nil
    | cons _ _ => cases h
  | s :: ss, X, d, W, sts, C, h => by
    unfold chkSs at h
    split at h
    · rw [Bool.and_eq_true] at h
      exact t_cons (sS s C h.1) (sSs ss C h.2)
    · cases h
end
end
end LW
/-! LwL: defs. -/
namespace LW
open PySem L2
theorem zip_lookup {ps : List Str} : ∀ {us : List Value}, us.length = ps.length → ∀ n ∈ ps, ((ps.zip us).lookup n).isNone = false := by
  induction ps with
  | nil => intro us _ n h; cases h
  | cons p ps ih =>
    intro us hl n hn
    cases us with
    | nil => cases hl
    | cons u us =>
      rw [List.zip_cons_cons, List.lookup_cons]
      cases e : n == p with
      | true => rfl
      | false =>
        rcases List.mem_cons.mp hn with rfl | hn
        · simp at e
        · exact ih (by simpa using hl) n hn
theorem fm_congr {α β : Type} {f g : α → Option β} : ∀ {l : List α}, (∀ a ∈ l, f a = g a) → l.filterMap f = l.filterMap g
  | [], _ => rfl
  | a :: l, h => by rw [List.filterMap_cons, List.filterMap_cons, h a List.mem_cons_self, fm_congr fun b hb => h b (List.mem_cons_of_mem _ hb)]
theorem zip_filterMap {ps : List Str} : ∀ {us : List Value}, ps.Nodup → us.length = ps.length → ps.filterMap (fun n => ((ps.zip us).lookup n).map (n, ·)) = ps.zip us := by
  induction ps with
  | nil => intro us _ _; rfl
  | cons p ps ih =>
    intro us nd hl
    cases us with
    | nil => cases hl
    | cons u us =>
      have hn := List.nodup_cons.mp nd
      rw [List.zip_cons_cons, List.filterMap_cons]
      have e1 : List.lookup p ((p, u) :: ps.zip us) = some u := by simp [List.lookup_cons]
      rw [e1]
      simp only [Option.map_some]
      rw [List.cons.injEq]
      refine ⟨rfl, ?_⟩
      refine Eq.trans (fm_congr fun n hm => ?_) (ih hn.2 (by simpa using hl))
      have : (n == p) = false := beq_eq_false_iff_ne.mpr fun z => hn.1 (by rw [← z]; exact hm)
      rw [List.lookup_cons, this]
theorem bind_plain {x qual : Str} {params : Arguments} {body : List Stmt} {scope : Scope} {kV doc pm : Value} {an : Option Addr} {cdv ct : Value} {ps : List Str} {us : List Value} (h1 : params.posonlyargs = []) (h2 : params.args.map (·.arg) = ps) (h3 : params.vararg = none) (h4 : params.kwonlyargs = []) (h5 : params.kwarg = none) (nd : ps.Nodup) (hl : us.length = ps.length) :
    bindArgs (PySem.W.fnOf x qual params body scope .none kV doc pm an cdv ct) ⟨us, []⟩ = pure (ps.zip us) := by
  have hm : (ps.filter fun n => ((ps.zip us).lookup n).isNone) = [] := by
    rw [List.filter_eq_nil_iff]
    intro n hn
    rw [zip_lookup hl n hn]
    decide
  unfold bindArgs PySem.W.fnOf
  simp only [h1, h2, h3, h4, h5, List.map_nil, List.nil_append, List.append_nil, hl]
  have e0 : seqItems? Value.none = pure none := rfl
  simp only [List.forIn_nil, pure_bind, e0]
  have e1 : (decide (ps.length > ps.length) && (none : Option Arg).isNone) = false := by simp
  rw [if_neg (by rw [e1]; decide)]
  have e2 : ((none : Option (Array Value)).getD #[]).toList = [] := rfl
  simp only [e2, List.length_nil, Nat.zero_sub, List.drop_nil, Nat.sub_zero, List.take_length, hm]
  rw [if_neg (by decide)]
  simp only [List.zip_nil_right, List.forIn_nil, pure_bind]
  rw [if_neg (by decide)]
  rw [zip_filterMap nd hl]
/-- a def of the row, held against its small form -/
structure DefOk (T : Tb) (R : Rw) (K : PySem.W.Frag) (fA : String → Addr) (f : String) : Prop where
  ex : ∃ (D : Def) (fd : FuncData) (x q : Str) (params : Arguments) (body : List Stmt) (scope : Scope), T.fn f = some D ∧ FunD K x q params body scope [] [] (fA f) fd ∧ FnScope (D.names.map os) (D.params.map os) scope ∧
    chkSs R T (D.names.map os) scope D.body body = true ∧ params.posonlyargs = [] ∧ params.args.map (·.arg) = D.params.map os ∧ params.vararg = none ∧ params.kwonlyargs = [] ∧ params.kwarg = none ∧ D.params.length ≤ D.names.length
theorem rvs_slots {K : PySem.W.Frag} {H : Hp} {ρ : List Addr} {L : Addr → Prop} : ∀ {as : List PV} {vs : List V} (n : Nat), RVs K H ρ L as vs → RS K H ρ L (as.map some ++ List.replicate n Option.none) (vs.map some ++ List.replicate n Option.none)
  | [], [], n, _ => fun i v e => by
    simp only [List.map_nil, List.nil_append] at e
    have := List.getElem?_replicate (n := n) (a := (Option.none : Option PV)) (i := i)
    rw [this] at e
    split at e <;> cases e
  | a :: as, v :: vs, n, .cons h t => fun i x e => by
    cases i with
    | zero =>
      simp only [List.map_cons, List.cons_append, List.getElem?_cons_zero, Option.some.injEq] at e
      subst e
      exact ⟨v, rfl, h⟩
    | succ i =>
      simp only [List.map_cons, List.cons_append, List.getElem?_cons_succ] at e
      obtain ⟨u, e1, e2⟩ := rvs_slots n t i x e
      exact ⟨u, by simpa using e1, e2⟩
theorem fo_step {P : Program} {w : World} {K : PySem.W.Frag} {mg : Str → Option Value} {base : Heap} {T : Tb} {R : Rw} {fA : String → Addr} (F : Fc K mg T R fA) {d : Nat} (FO : Fo P w K mg base T R fA d) {f : String} {D : Def} {fd : FuncData} {x q : Str} {params : Arguments} {body : List Stmt} {scope : Scope} (h1 : T.fn f = some D) (h2 : FunD K x q params body scope [] [] (fA f) fd) (h3 : FnScope (D.names.map os) (D.params.map os) scope)
    (h4 : chkSs R T (D.names.map os) scope D.body body = true) : FnOk P w K mg base (L2.CX P w) (2 * (d + 1)) (fA f) fd (D.params.map os) (spF T K R (d + 1) f) := by
  have len : ∀ vs H Q E, spF T K R (d + 1) f vs H Q E → vs.length = (D.params.map os).length := fun vs H Q E h => by
    obtain ⟨⟨D', e, hl⟩, _⟩ := h
    rw [h1] at e
    cases e
    simpa using hl
  refine FunD.ok (k := 2 * d + 1) h2 h3 len fun cdv A outer s H vs Q E hr hsp => ?_
  have C : CxS T R fA (cxOf (L2.CX P w) P w K mg base (D.names.map os) q scope (fA f) cdv A outer s H E) d (fun cls dd _ H => E cls dd H) :=
    ⟨⟨F, FO, h3.nd, rfl, hr, takes_of rfl rfl rfl rfl, fun _ _ => rfl⟩, passes_of rfl, rfl, rfl, h3.kind⟩
  refine ⟨_, sSs D.body C h4, ?_⟩
  have hl := len vs H Q E hsp
  obtain ⟨_, Z, ρ, h, as, w0, ra, p⟩ := hsp
  have hla : as.length = D.params.length := by rw [ra.length, hl]; simp
  simp only [fn, h1, hla, if_true] at p
  refine ⟨Z, ρ, D.start as, h, ⟨w0, ?_, ?_⟩, ?_⟩
  · have e1 : L2.start (D.names.map os) vs = vs.map some ++ List.replicate (D.names.length - as.length) none := by
      unfold L2.start
      rw [List.length_map, ← ra.length]
    rw [e1]
    exact rvs_slots _ ra
  · unfold Def.start L2.start
    simp only [List.length_append, List.length_map, List.length_replicate]
    rw [ra.length]
  · have done : ∀ {v : PV} {h' : HP}, Po K R Z (RV K) ρ h H (fin D h v h') Q E → ∀ ρ' H' u, Ext ρ h H ρ' h' H' → Wd K R Z ρ' h' H' → RV K H' ρ' (Lz Z ρ' h') v u → Q u H' := fun {v h'} p ρ' H' u e w' r => by
      unfold fin at p
      split at p
      · exact p ρ' H' u e w' r
      · split at p
        · rename_i hc
          obtain ⟨c1, c2⟩ := hc
          refine p ρ H' u (trim_ext e) (trim_wd w0 w' e c1) ?_
          exact r.restrict e.pre (fun a l => l.imp (fun l => live_take e.pre c1 l) id) (by rw [w0.len]; exact c2)
        · exact p ρ' H' u e w' r
    cases er : exs T (fn T d) D.body (D.start as) h with
    | bad => rw [er] at p; exact p.elim
    | exc c h' => rw [er] at p; exact p.elim
    | ok fl h' =>
      rw [er] at p
      cases fl with
      | nx s1 => exact fun ρ' H' s2 e rs => done p ρ' H' .non e rs.wd .non
      | ret v => exact fun ρ' H' u e w' r => done p ρ' H' u e w' r
      | brk s1 => exact p.elim
      | xc c s1 =>
        refine ⟨p.1, fun ρ' H' s2 e rs => ?_⟩
        have p2 := p.2
        cases hs : D.scratch with
        | false => rw [hs] at p2; exact p2 ρ' H' e rs.wd
        | true =>
          rw [hs] at p2
          simp only [trim] at p2
          split at p2
          · rename_i hc
            exact p2 ρ H' (trim_ext e) (trim_wd w0 rs.wd e hc)
          · exact p2 ρ' H' e rs.wd
theorem fo_all {P : Program} {w : World} {K : PySem.W.Frag} {mg : Str → Option Value} {base : Heap} {T : Tb} {R : Rw} {fA : String → Addr} (F : Fc K mg T R fA) (B : ∀ f ∈ R.fns, DefOk T R K fA f) : ∀ d, Fo P w K mg base T R fA d
  | 0 => fun f hf => by
    obtain ⟨D, fd, x, q, params, body, scope, h1, h2, h3, h4, h5, h6, h7, h8, h9, h10⟩ := (B f hf).ex
    refine ⟨D, fd, h1, ⟨fun vs H Q E h => ?_, fun A outer s H args us vs Q E hr e0 hb r hsp => ?_⟩, h2.bindsN fun _ _ _ _ _ _ us hl => bind_plain h5 h6 h7 h8 h9 ?_ hl, h2.kp⟩
    · obtain ⟨⟨D', e, hl⟩, _⟩ := h
      rw [h1] at e
      cases e
      simpa using hl
    · obtain ⟨_, Z, ρ, h, as, _, _, p⟩ := hsp
      exact p.elim
    · have := h3.nd
      rw [← h3.pre]
      exact this.sublist (List.take_sublist _ _)
  | d + 1 => fun f hf => by
    obtain ⟨D, fd, x, q, params, body, scope, h1, h2, h3, h4, h5, h6, h7, h8, h9, h10⟩ := (B f hf).ex
    refine ⟨D, fd, h1, fo_step F (fo_all F B d) h1 h2 h3 h4, h2.bindsN fun _ _ _ _ _ _ us hl => bind_plain h5 h6 h7 h8 h9 ?_ hl, h2.kp⟩
    have := h3.nd
    rw [← h3.pre]
    exact this.sublist (List.take_sublist _ _)
end LW
/-! LwM: the row's own facts, told by one check; the row's end. -/
namespace LW
open PySem L2
abbrev Dfs := List (String × He.DefD)
def fAt (ds : Dfs) (K : PySem.W.Frag) (f : String) : Addr := match ds.lookup f with
  | some d => He.fAd K d.at_
  | none => 0
mutual
/-- a constant of the module -/
def relK (K : PySem.W.Frag) : PV → Value → Option V
  | .non, u => match u with
    | .none => some .non
    | _ => none
  | .bl b, u => match u with
    | .bool c => if b = c then some (.bl b) else none
    | _ => none
  | .int i, u => match u with
    | .int j _ => if i = j then some (.int i) else none
    | _ => none
  | .str s, u => match u with
    | .str z _ => if os s = z then some (.str (os s)) else none
    | _ => none
  | .tup xs, u => match u with
    | .ref a => match K.lookup a with
      | some ⟨.type c, _, .seq its _, _⟩ => match decide (c = "tuple") && decide (its.size ≤ sizeLine) with
        | true => match relKs K xs its.toList with
          | some _ => some (.ref a)
          | none => none
        | false => none
      | _ => none
    | _ => none
  | _, _ => none
def relKs (K : PySem.W.Frag) : List PV → List Value → Option (List V)
  | [], us => match us with
    | [] => some []
    | _ => none
  | x :: xs, us => match us with
    | u :: us => match relK K x u with
      | some v => match relKs K xs us with
        | some vs => some (v :: vs)
        | none => none
      | none => none
    | [] => none
end
mutual
theorem relK_ok {K : PySem.W.Frag} : ∀ {p : PV} {u : Value} {v : V}, relK K p u = some v → RelV v u ∧ ∀ H ρ L, RV K H ρ L p v
  | .non, u, v, h => by
    unfold relK at h
    split at h
    · cases h; exact ⟨rfl, fun _ _ _ => .non⟩
    · cases h
  | .bl b, u, v, h => by
    unfold relK at h
    split at h
    · split at h
      · rename_i e; subst e; cases h; exact ⟨rfl, fun _ _ _ => .bl _⟩
      · cases h
    · cases h
  | .int b, u, v, h => by
    unfold relK at h
    split at h
    · split at h
      · rename_i e; subst e; cases h; exact ⟨⟨_, rfl⟩, fun _ _ _ => .int _⟩
      · cases h
    · cases h
  | .str b, u, v, h => by
    unfold relK at h
    split at h
    · split at h
      · rename_i e; subst e; cases h; exact ⟨⟨_, rfl⟩, fun _ _ _ => .str _⟩
      · cases h
    · cases h
  | .tup xs, u, v, h => by
    unfold relK at h
    split at h
    · split at h
      · rename_i a cc od its nn osl q
        split at h
        · rename_i hb
          rw [Bool.and_eq_true] at hb
          have h1 := of_decide_eq_true hb.1
          have h2 := of_decide_eq_true hb.2
          subst h1
          split at h
          · rename_i vs e
            cases h
            obtain ⟨k1, k2⟩ := relKs_ok e
            exact ⟨rfl, fun H ρ L => .tup (.inr ⟨_, its, nn, q, rfl, rfl, h2, k1⟩) (k2 H ρ L)⟩
          · cases h
        · cases h
      · cases h
    · cases h
  | .lst _, u, v, h => by simp [relK] at h
  | .fls _, u, v, h => by simp [relK] at h
  | .ref _, u, v, h => by simp [relK] at h
theorem relKs_ok {K : PySem.W.Frag} : ∀ {p : List PV} {u : List Value} {v : List V}, relKs K p u = some v → Vals v u ∧ ∀ H ρ L, RVs K H ρ L p v
  | [], u, v, h => by
    unfold relKs at h
    split at h
    · cases h; exact ⟨.nil, fun _ _ _ => .nil⟩
    · cases h
  | x :: xs, u, v, h => by
    unfold relKs at h
    split at h
    · split at h
      · rename_i e
        split at h
        · rename_i e2
          cases h
          obtain ⟨k1, k2⟩ := relK_ok e
          obtain ⟨k3, k4⟩ := relKs_ok e2
          exact ⟨.cons k1 k3, fun H ρ L => .cons (k2 H ρ L) (k4 H ρ L)⟩
        · cases h
      · cases h
    · cases h
end
def tyN : List String := ["NoneType", "bool", "int", "str", "list", "tuple", "dict"]
def tyM : List String := ["bool", "int", "str", "list", "tuple", "dict"]
section
variable (T : Tb) (R : Rw) (ds : Dfs) (K : PySem.W.Frag)
def cGlob : Bool := R.globs.all fun p => match PySem.W.nsIn K mainGlobals p.1 with
  | some (some u) => (relK K p.2 u).isSome
  | _ => false
def cBlt : Bool := R.blts.all fun x => He.eqO (PySem.W.nsIn K mainGlobals (os x)) (some none)
def cTop : Bool := R.tops.all fun f => He.eqO (PySem.W.nsIn K mainGlobals (os f)) (some (some (.ref (fAt ds K f))))
def cCls : Bool := R.clss.all fun C => (He.Fa.cls (os C)).ok K && He.eqO (PySem.W.nsIn K mainGlobals (os C)) (some (some (.ref (cAd K C)))) &&
  (match T.mr C "__init__" with
    | some f => PySem.W.makesIn K (cAd K C) && He.eqO (PySem.W.findIn K (.ref (cAd K C)) "__init__") (some (some (.ref (fAt ds K f)))) && PySem.W.isFn K (.ref (fAt ds K f)) && PySem.W.keepIn K (.ref (cAd K C))
    | none => true) &&
  He.eqO (PySem.W.findIn K (.ref (cAd K C)) "__class__") (some (some (.builtin "object.__class__"))) && He.eqO (PySem.W.specialIn K (.builtin "object.__class__") "__get__") (some (some (.builtin "getset_descriptor.__get__"))) &&
  decide (PySem.W.takesIn K (.builtin "object.__class__") = some true) && decide (PySem.W.mroIn K (cAd K C) (.type "object") = some true) &&
  (tyN.all fun n => decide (PySem.W.kitOne K (.type n) (.ref (cAd K C)) = some false)) && (tyM.all fun n => decide (PySem.W.kitOne K (.ref (cAd K C)) (.type n) = some false) && !(T.sub C n)) &&
  (R.clss.all fun D => decide (PySem.W.kitOne K (.ref (cAd K C)) (.ref (cAd K D)) = some (T.sub C D)))
def cMeth : Bool := R.meths.all fun p => match T.mr p.1 p.2 with
  | some f => He.eqO (PySem.W.findIn K (.ref (cAd K p.1)) (os p.2)) (some (some (.ref (fAt ds K f)))) && PySem.W.isFn K (.ref (fAt ds K f)) && PySem.W.keepIn K (.ref (fAt ds K f))
  | none => true
def cFld : Bool := R.flds.all fun p => He.eqO (PySem.W.findIn K (.ref (cAd K p.1)) (os p.2)) (some none)
def cExc : Bool := R.excs.all fun c => He.eqO (PySem.W.nsIn K mainGlobals (os c)) (some (some (.ref (cAd K c)))) && (He.Fa.exc (os c)).ok K && (R.excs.all fun x => decide (PySem.W.exmOne K (.ref (cAd K c)) (.ref (cAd K x)) = some (T.sub c x)))
def chkK : Bool := cGlob R K && cBlt R K && cTop R ds K && cCls T R ds K && cMeth T R ds K && cFld R K && cExc T R K
end
theorem lookup_mem {β : Type} : ∀ {l : List (Str × β)} {y : Str} {v : β}, l.lookup y = some v → (y, v) ∈ l
  | (k, u) :: l, y, v, h => by
    rw [List.lookup_cons] at h
    cases e : y == k with
    | true =>
      rw [e] at h
      cases h
      rw [eq_of_beq e]
      exact List.mem_cons_self
    | false =>
      rw [e] at h
      exact List.mem_cons_of_mem _ (lookup_mem h)
theorem chkK_ok {T : Tb} {R : Rw} {ds : Dfs} {K : PySem.W.Frag} {h : Heap} {mg : Str → Option Value} (X : K.In h) (G : h.Ns mainGlobals mg) (hx : ∀ c, T.exc c = true → c ∈ R.excs) (c : chkK T R ds K = true) : Fc K mg T R (fAt ds K) := by
  simp only [chkK, Bool.and_eq_true] at c
  obtain ⟨⟨⟨⟨⟨⟨c1, c2⟩, c3⟩, c4⟩, c5⟩, c6⟩, c7⟩ := c
  have hc : ∀ C ∈ R.clss, _ := fun C hC => List.all_eq_true.mp c4 C hC
  refine { glob := fun y v e => ?_, blt := fun x hx => ?_, top := fun f hf => ?_, cls := fun C hC => ?_, mkC := fun C hC f e => ?_, meth := fun C m hm f e => ?_, fld := fun C f hf => ?_, exc := fun c hc => ?_, excT := hx, exm := fun c hc x hx => ?_, tyI := fun C hC => ?_, isO := fun C hC D hD => ?_, isB := fun C hC n hn => ?_, isT := fun C hC n hn => ?_ }
  · have hm : (y, v) ∈ R.globs := lookup_mem e
    have q := List.all_eq_true.mp c1 _ hm
    simp only at q
    split at q
    · rename_i u eu
      obtain ⟨x, ex⟩ := Option.isSome_iff_exists.mp q
      obtain ⟨k1, k2⟩ := relK_ok ex
      exact ⟨u, x, PySem.W.mg_of X G eu, k1, k2⟩
    · cases q
  · exact PySem.W.mg_none_of X G (He.eqO_ok (List.all_eq_true.mp c2 x hx))
  · exact PySem.W.mg_of X G (He.eqO_ok (List.all_eq_true.mp c3 f hf))
  · have q := hc C hC
    simp only [Bool.and_eq_true] at q
    obtain ⟨⟨⟨⟨⟨⟨⟨⟨⟨q1, q2⟩, q3⟩, q4⟩, q5⟩, q6⟩, q7⟩, q8⟩, q9⟩, q10⟩ := q
    exact ⟨He.cls_ok q1, PySem.W.mg_of X G (He.eqO_ok q2)⟩
  · have q := hc C hC
    simp only [Bool.and_eq_true] at q
    obtain ⟨⟨⟨⟨⟨⟨⟨⟨⟨q1, q2⟩, q3⟩, q4⟩, q5⟩, q6⟩, q7⟩, q8⟩, q9⟩, q10⟩ := q
    rw [e] at q3
    simp only [Bool.and_eq_true] at q3
    exact ⟨q3.1.1.1, He.eqO_ok q3.1.1.2, q3.1.2, q3.2⟩
  · have q := List.all_eq_true.mp c5 _ hm
    simp only [e, Bool.and_eq_true] at q
    exact ⟨He.eqO_ok q.1.1, q.1.2, q.2⟩
  · exact He.eqO_ok (List.all_eq_true.mp c6 _ hf)
  · have q := List.all_eq_true.mp c7 c hc
    simp only [Bool.and_eq_true] at q
    obtain ⟨k1, k2, k3, k4⟩ := He.exc_ok q.1.2
    exact ⟨PySem.W.mg_of X G (He.eqO_ok q.1.1), k1, k2, k3, k4⟩
  · have q := List.all_eq_true.mp c7 c hc
    simp only [Bool.and_eq_true] at q
    exact of_decide_eq_true (List.all_eq_true.mp q.2 x hx)
  · have q := hc C hC
    simp only [Bool.and_eq_true] at q
    obtain ⟨⟨⟨⟨⟨⟨⟨⟨⟨q1, q2⟩, q3⟩, q4⟩, q5⟩, q6⟩, q7⟩, q8⟩, q9⟩, q10⟩ := q
    exact ⟨He.eqO_ok q4, He.eqO_ok q5, of_decide_eq_true q6, of_decide_eq_true q7⟩
  · have q := hc C hC
    simp only [Bool.and_eq_true] at q
    obtain ⟨⟨⟨⟨⟨⟨⟨⟨⟨q1, q2⟩, q3⟩, q4⟩, q5⟩, q6⟩, q7⟩, q8⟩, q9⟩, q10⟩ := q
    exact of_decide_eq_true (List.all_eq_true.mp q10 D hD)
  · have q := hc C hC
    simp only [Bool.and_eq_true] at q
    obtain ⟨⟨⟨⟨⟨⟨⟨⟨⟨q1, q2⟩, q3⟩, q4⟩, q5⟩, q6⟩, q7⟩, q8⟩, q9⟩, q10⟩ := q
    exact of_decide_eq_true (List.all_eq_true.mp q8 n hn)
  · have q := hc C hC
    simp only [Bool.and_eq_true] at q
    obtain ⟨⟨⟨⟨⟨⟨⟨⟨⟨q1, q2⟩, q3⟩, q4⟩, q5⟩, q6⟩, q7⟩, q8⟩, q9⟩, q10⟩ := q
    have z := List.all_eq_true.mp q9 n hn
    simp only [Bool.and_eq_true, Bool.not_eq_true'] at z
    exact ⟨of_decide_eq_true z.1, z.2⟩
/-! ### the defs' texts -/
def fscB (N P : List Str) (sc : Scope) : Bool := (match sc.kind with
  | .function => true
  | _ => false) && !sc.isCoroutine && !sc.isGenerator && decide N.Nodup && decide (N.take P.length = P) && (P.all fun x => match sc.names.lookup x with
    | some .local => true
    | some .cell => true
    | _ => false) && sc.names.all fun y => match y.2 with
      | .free => false
      | _ => true
theorem fscB_ok {N P : List Str} {sc : Scope} (h : fscB N P sc = true) : FnScope N P sc := by
  simp only [fscB, Bool.and_eq_true, Bool.not_eq_true', decide_eq_true_eq, List.all_eq_true] at h
  obtain ⟨⟨⟨⟨⟨⟨h1, h2⟩, h3⟩, h4⟩, h5⟩, h6⟩, h7⟩ := h
  refine ⟨?_, h2, h3, h4, h5, fun x hx => ?_, fun y hy e => ?_⟩
  · split at h1
    · assumption
    · cases h1
  · have q := h6 x hx
    split at q
    · rename_i e; exact .inl e
    · rename_i e; exact .inr e
    · cases q
  · have q := h7 y hy
    rw [e] at q
    cases q
def defB (T : Tb) (R : Rw) (p : String × He.DefD) : Bool := match T.fn p.1 with
  | some D => fscB (D.names.map os) (D.params.map os) p.2.scope && chkSs R T (D.names.map os) p.2.scope D.body p.2.body && p.2.params.posonlyargs.isEmpty && decide (p.2.params.args.map (·.arg) = D.params.map os) && p.2.params.vararg.isNone && p.2.params.kwonlyargs.isEmpty && p.2.params.kwarg.isNone && p.2.dfl.isEmpty && p.2.kwd.isEmpty && decide (D.params.length ≤ D.names.length)
  | none => false
/-! ### the Hook -/
def obsW (T : Tb) (R : Rw) (ds : Dfs) (K : PySem.W.Frag) : He.AlD := (chkK T R ds K && ds.all fun d => d.2.ok K, ds.map fun d => He.fnW K d.2.at_)
def valW (ds : Dfs) : He.AlD := (true, ds.map fun d => d.2.val)
def obsWG (n : Nat) (T : Tb) (R : Rw) (ds : Dfs) (g : Addr → Option Obj) : He.AlD := obsW T R ds (He.frG g (He.asD g n))
def hookW (n : Nat) (T : Tb) (R : Rw) (ds : Dfs) : PySem.W.Hook where
  α := He.AlD
  obs := fun s => obsWG n T R ds s.heap.get?
  val := fun _ => valW ds
  says := fun _ h => ∃ K : PySem.W.Frag, K.In h ∧ obsW T R ds K = valW ds
  of := fun _ _ e => ⟨_, He.frG_in, e⟩
  keeps := fun _ _ _ ⟨K, hK, c⟩ k => ⟨K, PySem.W.Frag.In.keeps hK k, c⟩
theorem obsWG_eq {n : Nat} {T : Tb} {R : Rw} {ds : Dfs} {g : Addr → Option Obj} {s : Shared} (h : ∀ a, g a = s.heap.get? a) : obsWG n T R ds g = (hookW n T R ds).obs s := by
  have e : g = s.heap.get? := funext h
  rw [e] <;> rfl
theorem rvInts {K : PySem.W.Frag} {H : Hp} {ρ : List Addr} {L : Addr → Prop} : ∀ ns : List Int, RVs K H ρ L (ns.map PV.int) (ns.map V.int)
  | [] => .nil
  | n :: ns => .cons (.int n) (rvInts ns)
theorem lookup_of_nodup : ∀ {ds : Dfs} {f : String} {d : He.DefD}, (ds.map (·.1)).Nodup → (f, d) ∈ ds → ds.lookup f = some d
  | (g, e) :: ds, f, d, nd, h => by
    rw [List.lookup_cons]
    have nd' := List.nodup_cons.mp nd
    rcases List.mem_cons.mp h with q | q
    · cases q; simp
    · have : (f == g) = false := beq_eq_false_iff_ne.mpr fun z => nd'.1 (by rw [← z]; exact List.mem_map.mpr ⟨(f, d), q, rfl⟩)
      rw [this]
      exact lookup_of_nodup nd'.2 q
theorem row_defs {T : Tb} {R : Rw} {ds : Dfs} {K : PySem.W.Frag} (hfn : R.fns = ds.map (·.1)) (nd : (ds.map (·.1)).Nodup) (hd : (ds.all fun p => defB T R p) = true) (c : obsW T R ds K = valW ds) : ∀ f ∈ R.fns, DefOk T R K (fAt ds K) f := fun f hf => by
  have c1 : (chkK T R ds K && ds.all fun d => d.2.ok K) = true := congrArg (fun z : He.AlD => z.1) c
  have c2 : (ds.map fun d => He.fnW K d.2.at_) = ds.map fun d => d.2.val := congrArg (fun z : He.AlD => z.2) c
  rw [Bool.and_eq_true] at c1
  rw [hfn] at hf
  obtain ⟨⟨g, dd⟩, hm, rfl⟩ := List.mem_map.mp hf
  obtain ⟨i, hi⟩ := List.mem_iff_getElem?.mp hm
  have e2 := congrArg (fun l => l[i]?) c2
  simp only [List.getElem?_map, hi, Option.map_some, Option.some.injEq] at e2
  obtain ⟨fd, F⟩ := He.DefD.funD e2 (List.all_eq_true.mp c1.2 _ hm)
  have q := List.all_eq_true.mp hd _ hm
  unfold defB at q
  simp only at q
  split at q
  · rename_i D eD
    simp only [Bool.and_eq_true, List.isEmpty_iff, decide_eq_true_eq, Option.isNone_iff_eq_none] at q
    obtain ⟨⟨⟨⟨⟨⟨⟨⟨⟨q1, q2⟩, q3⟩, q4⟩, q5⟩, q6⟩, q7⟩, q8⟩, q9⟩, q10⟩ := q
    have e3 : fAt ds K g = He.fAd K dd.at_ := by
      unfold fAt
      rw [lookup_of_nodup nd hm]
    refine ⟨D, fd, dd.name, dd.qual, dd.params, dd.body, dd.scope, eD, ?_, fscB_ok q1, q2, q3, q4, q5, q6, q7, q10⟩
    have F2 := F
    unfold He.DefD.dvs He.DefD.kws at F2
    rw [q8, q9] at F2
    rw [e3]
    exact F2
  · cases q
/-! ### the end -/
theorem row_end {l : PySem.W.OpenLaw} {n d : Nat} {q : Program} {loose : List Str} {XP : (Str → Option Value) → Heap → Prop} {D : DefRec} {T : Tb} {R : Rw} {ds : Dfs} {m : Nat}
    (hn : l.most = some n) (hn2 : n ≤ sizeLine) (hdf : D.params.defaults = []) (hr : Room (2 * (d + 1)) callerA) (hD : D.name = os "law") (hfn : R.fns = ds.map (·.1)) (nd : (ds.map (·.1)).Nodup) (hd : (ds.all fun p => defB T R p) = true) (hx : ∀ c, T.exc c = true → c ∈ R.excs)
    (hl : "law" ∈ R.fns) (ht : "law" ∈ R.tops) (hlp : (T.fn "law").map (·.params) = some ["script"])
    (H : ∀ ns : List Int, ns.length ≤ n → ∃ h, fn T (d + 1) "law" [.fls (ns.map .int)] [] = .ok (.bl true) h) :
    PySem.W.WalkO q loose XP (hookW m T R ds).says l.row.toRowW D [] (fun f vs => PySem.call f vs) := by
  refine Att.attach_call hn hdf fun w s₀ s₁ mg mb fa o pm cd doc a vs ns G Y ho hdd hcd hmg hobj hints hlen hg => ?_
  obtain ⟨K, KX, c⟩ := Y
  have c1 : (chkK T R ds K && ds.all fun d => d.2.ok K) = true := congrArg (fun z : He.AlD => z.1) c
  rw [Bool.and_eq_true] at c1
  have FC := chkK_ok KX G.T.g hx c1.1
  have B := row_defs hfn nd hd c
  have e3 : fa = fAt ds K "law" := by
    have z := FC.top "law" ht
    rw [hD] at hmg
    rw [hmg] at z
    cases z
    rfl
  subst e3
  obtain ⟨DD, fd, x, qq, params, body, scope, h1, h2, h3, h4, h5, h6, h7, h8, h9, h10⟩ := (B "law" hl).ex
  have e2 : DD.params = ["script"] := by
    rw [h1] at hlp
    exact Option.some.inj hlp
  refine law_call (x := os "script") (sp := spF T K R (d + 1) "law") (CX := L2.CX l.prog w) KX G.T.g G.T.b G.T.builtins G.T.nolimit hg hobj hints (Nat.le_trans hlen hn2) hr (fd := fd) (fun base _ _ => ?_) (fun s u => ?_) (fun HH hO hS => ?_) fun HH e s' z => ?_
  · have z := fo_step (P := l.prog) (w := w) (base := base) FC (fo_all FC B d) h1 h2 h3 h4
    rw [e2] at z
    exact z
  · have nd2 : (DD.params.map os).Nodup := by
      rw [← h3.pre]
      exact h3.nd.sublist (List.take_sublist _ _)
    have b := FunD.bindsA (ps := DD.params.map os) h2 (fun _ _ _ _ _ _ us hl => bind_plain h5 h6 h7 h8 h9 nd2 hl) s [u] (by rw [e2]; rfl)
    rw [e2] at b
    exact b
  · obtain ⟨hh, e⟩ := H ns hlen
    have rv : RVs K HH [] (Lz (fun _ => False) [] []) (ns.map PV.int) (ns.map V.int) := rvInts ns
    have wd : Wd K R (fun _ => False) [] [] HH := ⟨rfl, List.nodup_nil, fun _ z => z.elim, fun n a ob z => by simp at z⟩
    have nl : ¬ Lz (fun _ => False) [] [] a := fun z => z.elim (fun ⟨n, o, e, _⟩ => by simp at e) id
    refine ⟨⟨DD, h1, by rw [e2]; rfl⟩, fun _ => False, [], [], [.fls (ns.map .int)], wd, .cons (.fls ?_ rv) .nil, ?_⟩
    · rcases hS with (z | ⟨o, z⟩) | z
      · rcases hO a with k | ⟨o, xs, k⟩
        · rw [k] at z; cases z
        · rw [k] at z; cases z
      · exact .inl ⟨o, z, nl⟩
      · exact .inr z
    · rw [e]
      intro ρ' H' b _ _ r
      cases r
      rfl
  · obtain ⟨_, _, _, _, _, _, _, _, _, _, _, _, z⟩ := z
    exact z
end LW
/-! LwP: the defs of the program and of the laws, printed by gen/ast2lw.py -/
namespace LW
def d_Bench_init : Def :=
  { params := ["self", "layers", "step", "broken"], names := ["self", "layers", "step", "broken"], scratch := false, body :=
   [.expr (.call "checked" [(.var 1 "layers")]),
    .expr (.make "Core" [(.var 2 "step"), (.var 3 "broken")]),
    .asg (.attr (.var 0 "self") "layers") (.var 1 "layers"),
    .asg (.attr (.var 0 "self") "step") (.var 2 "step"),
    .asg (.attr (.var 0 "self") "broken") (.var 3 "broken"),
    .asg (.attr (.var 0 "self") "deeds") (.mls [])] }
def d_Bench_ask : Def :=
  { params := ["self", "value"], names := ["self", "value"], scratch := false, body :=
   [.expr (.call "look_value" [(.var 1 "value")]),
    .expr (.bmeth (.attr (.var 0 "self") "deeds") .append [(.var 1 "value")]),
    .ret (.sub (.sub (.sub (.meth (.var 0 "self") "played" []) (.lit (.int 1))) (.neg (.lit (.int 1)))) (.lit (.int 1)))] }
def d_Bench_asked : Def :=
  { params := ["self"], names := ["self"], scratch := false, body :=
   [.ret (.meth (.sub (.meth (.var 0 "self") "played" []) (.lit (.int 0))) "asked" [])] }
def d_Bench_back : Def :=
  { params := ["self"], names := ["self"], scratch := false, body :=
   [.ife (.not (.attr (.var 0 "self") "deeds"))
     [.raise "Nothing" "nothing was done"]
     [],
    .ret (.bmeth (.attr (.var 0 "self") "deeds") .pop [])] }
def d_Bench_forget : Def :=
  { params := ["self"], names := ["self"], scratch := false, body :=
   [.expr (.bmeth (.attr (.var 0 "self") "deeds") .append [(.lit .non)])] }
def d_Bench_notes : Def :=
  { params := ["self"], names := ["self"], scratch := false, body :=
   [.ret (.frz (.meth (.sub (.meth (.var 0 "self") "played" []) (.lit (.int 0))) "notes" []))] }
def d_Bench_played : Def :=
  { params := ["self"], names := ["self", "way", "rows", "value"], scratch := false, body :=
   [.asg (.name 1 "way") (.make "Way" [(.attr (.var 0 "self") "layers"), (.make "Core" [(.attr (.var 0 "self") "step"), (.attr (.var 0 "self") "broken")])]),
    .asg (.name 2 "rows") (.mls []),
    .for_ (.name 3 "value") (.seq (.attr (.var 0 "self") "deeds"))
     [.ife (.cmp .is_ (.var 3 "value") (.lit .non))
      [.expr (.meth (.var 1 "way") "forget" [])]
      [.expr (.bmeth (.var 2 "rows") .append [(.tup [(.var 3 "value"), (.meth (.var 1 "way") "ask" [(.var 3 "value")])])])]],
    .ret (.tup [(.var 1 "way"), (.var 2 "rows")])] }
def d_Bench_told : Def :=
  { params := ["self"], names := ["self"], scratch := false, body :=
   [.ret (.sub (.meth (.var 0 "self") "played" []) (.lit (.int 1)))] }
def d_Bench_twin : Def :=
  { params := ["self"], names := ["self", "other"], scratch := false, body :=
   [.asg (.name 1 "other") (.make "Bench" [(.attr (.var 0 "self") "layers"), (.attr (.var 0 "self") "step"), (.attr (.var 0 "self") "broken")]),
    .asg (.attr (.var 1 "other") "deeds") (.blt .mlist [(.attr (.var 0 "self") "deeds")]),
    .ret (.var 1 "other")] }
def d_Core_init : Def :=
  { params := ["self", "step", "broken"], names := ["self", "step", "broken", "one"], scratch := false, body :=
   [.ife (.or (.not (.call "is_value" [(.var 1 "step")])) [(.not (.isin (.var 2 "broken") ["tuple"] false))])
     [.raise "BadCore" "no core"]
     [],
    .ife (.or (.cmp .gt (.blt .len [(.var 2 "broken")]) (.glob "MOST_FAILS")) [(.comp false (.var 3 "one") (.name 3 "one") (.seq (.var 2 "broken")) [(.not (.call "is_within" [(.var 3 "one"), (.lit (.int 0)), (.lit (.int 99999))]))] [("one", 3)])])
     [.raise "BadCore" "no numbers of asks"]
     [],
    .asg (.attr (.var 0 "self") "step") (.var 1 "step"),
    .asg (.attr (.var 0 "self") "broken") (.var 2 "broken"),
    .asg (.attr (.var 0 "self") "many") (.lit (.int 0))] }
def d_Core_ask : Def :=
  { params := ["self", "value"], names := ["self", "value"], scratch := false, body :=
   [.expr (.call "look_value" [(.var 1 "value")]),
    .aug (.attr (.var 0 "self") "many") .add (.lit (.int 1)),
    .ife (.cmp .in_ (.bin .sub (.attr (.var 0 "self") "many") (.lit (.int 1))) (.attr (.var 0 "self") "broken"))
     [.ret (.tup [(.lit (.str "bad")), (.lit (.str "core"))])]
     [],
    .ret (.tup [(.lit (.str "ok")), (.bin .mod (.bin .add (.var 1 "value") (.attr (.var 0 "self") "step")) (.glob "ROUND"))])] }
def d_Core_asked : Def :=
  { params := ["self"], names := ["self"], scratch := false, body :=
   [.ret (.attr (.var 0 "self") "many")] }
def d_TracedWay_init : Def :=
  { params := ["self", "layers", "core"], names := ["self", "layers", "core"], scratch := false, body :=
   [.expr (.cmeth "Way" "__init__" [(.var 0 "self"), (.var 1 "layers"), (.var 2 "core")]),
    .asg (.attr (.var 0 "self") "places") (.mls [])] }
def d_TracedWay_go : Def :=
  { params := ["self", "at", "value"], names := ["self", "at", "value"], scratch := false, body :=
   [.expr (.bmeth (.attr (.var 0 "self") "places") .append [(.var 1 "at")]),
    .ret (.cmeth "Way" "go" [(.var 0 "self"), (.var 1 "at"), (.var 2 "value")])] }
def d_Way_init : Def :=
  { params := ["self", "layers", "core"], names := ["self", "layers", "core", "layer"], scratch := false, body :=
   [.expr (.call "checked" [(.var 1 "layers")]),
    .ife (.not (.isin (.var 2 "core") ["Core", "Way"] true))
     [.raise "BadCore" "no core, and no way"]
     [],
    .asg (.attr (.var 0 "self") "layers") (.var 1 "layers"),
    .asg (.attr (.var 0 "self") "core") (.var 2 "core"),
    .asg (.attr (.var 0 "self") "rows") (.mls []),
    .asg (.attr (.var 0 "self") "states") (.comp true (.mls []) (.name 3 "layer") (.seq (.var 1 "layers")) [] [("layer", 3)])] }
def d_Way_ask : Def :=
  { params := ["self", "value"], names := ["self", "value"], scratch := false, body :=
   [.expr (.call "look_value" [(.var 1 "value")]),
    .ret (.meth (.var 0 "self") "go" [(.lit (.int 0)), (.var 1 "value")])] }
def d_Way_asked : Def :=
  { params := ["self"], names := ["self"], scratch := false, body :=
   [.ret (.meth (.attr (.var 0 "self") "core") "asked" [])] }
def d_Way_changed : Def :=
  { params := ["self", "at", "value"], names := ["self", "at", "value", "word", "number", "answer", "left"], scratch := false, body :=
   [.asg (.tup [(.name 3 "word"), (.name 4 "number")]) (.sub (.attr (.var 0 "self") "layers") (.var 1 "at")),
    .asg (.name 5 "answer") (.meth (.var 0 "self") "go" [(.bin .add (.var 1 "at") (.lit (.int 1))), (.var 2 "value")]),
    .ife (.cmp .eq (.var 3 "word") (.lit (.str "again")))
     [.asg (.name 6 "left") (.var 4 "number"),
     .while_ (.and (.cmp .eq (.sub (.var 5 "answer") (.lit (.int 0))) (.lit (.str "bad"))) [(.cmp .gt (.var 6 "left") (.lit (.int 0)))])
      [.asg (.name 5 "answer") (.meth (.var 0 "self") "go" [(.bin .add (.var 1 "at") (.lit (.int 1))), (.var 2 "value")]),
      .aug (.name 6 "left") .sub (.lit (.int 1))]]
     [],
    .ife (.and (.cmp .eq (.var 3 "word") (.lit (.str "out"))) [(.cmp .eq (.sub (.var 5 "answer") (.lit (.int 0))) (.lit (.str "ok")))])
     [.asg (.name 5 "answer") (.tup [(.lit (.str "ok")), (.bin .mod (.bin .add (.sub (.var 5 "answer") (.lit (.int 1))) (.var 4 "number")) (.glob "ROUND"))])]
     [],
    .ife (.and (.cmp .eq (.var 3 "word") (.lit (.str "instead"))) [(.cmp .eq (.sub (.var 5 "answer") (.lit (.int 0))) (.lit (.str "bad")))])
     [.asg (.name 5 "answer") (.tup [(.lit (.str "ok")), (.var 4 "number")])]
     [],
    .ret (.var 5 "answer")] }
def d_Way_few : Def :=
  { params := ["self", "at", "value"], names := ["self", "at", "value"], scratch := false, body :=
   [.ife (.cmp .eq (.blt .len [(.sub (.attr (.var 0 "self") "states") (.var 1 "at"))]) (.sub (.sub (.attr (.var 0 "self") "layers") (.var 1 "at")) (.lit (.int 1))))
     [.ret (.tup [(.lit (.str "bad")), (.lit (.str "few"))])]
     [],
    .expr (.bmeth (.sub (.attr (.var 0 "self") "states") (.var 1 "at")) .append [(.var 2 "value")]),
    .ret (.meth (.var 0 "self") "go" [(.bin .add (.var 1 "at") (.lit (.int 1))), (.var 2 "value")])] }
def d_Way_forget : Def :=
  { params := ["self"], names := ["self", "layer"], scratch := false, body :=
   [.asg (.attr (.var 0 "self") "rows") (.mls []),
    .asg (.attr (.var 0 "self") "states") (.comp true (.mls []) (.name 1 "layer") (.seq (.attr (.var 0 "self") "layers")) [] [("layer", 1)])] }
def d_Way_go : Def :=
  { params := ["self", "at", "value"], names := ["self", "at", "value", "word"], scratch := false, body :=
   [.ife (.cmp .eq (.var 1 "at") (.blt .len [(.attr (.var 0 "self") "layers")]))
     [.ret (.meth (.attr (.var 0 "self") "core") "ask" [(.var 2 "value")])]
     [],
    .asg (.name 3 "word") (.sub (.sub (.attr (.var 0 "self") "layers") (.var 1 "at")) (.lit (.int 0))),
    .ife (.cmp .eq (.var 3 "word") (.lit (.str "in")))
     [.ret (.meth (.var 0 "self") "go" [(.bin .add (.var 1 "at") (.lit (.int 1))), (.bin .mod (.bin .add (.var 2 "value") (.sub (.sub (.attr (.var 0 "self") "layers") (.var 1 "at")) (.lit (.int 1)))) (.glob "ROUND"))])]
     [],
    .ife (.cmp .eq (.var 3 "word") (.lit (.str "gate")))
     [.ife (.not (.chain .le .le (.sub (.sub (.attr (.var 0 "self") "layers") (.var 1 "at")) (.lit (.int 1))) (.var 2 "value") (.sub (.sub (.attr (.var 0 "self") "layers") (.var 1 "at")) (.lit (.int 2)))))
      [.ret (.tup [(.lit (.str "bad")), (.lit (.str "gate"))])]
      [],
     .ret (.meth (.var 0 "self") "go" [(.bin .add (.var 1 "at") (.lit (.int 1))), (.var 2 "value")])]
     [],
    .ife (.cmp .eq (.var 3 "word") (.lit (.str "keep")))
     [.ret (.meth (.var 0 "self") "keep" [(.var 1 "at"), (.var 2 "value")])]
     [],
    .ife (.cmp .eq (.var 3 "word") (.lit (.str "few")))
     [.ret (.meth (.var 0 "self") "few" [(.var 1 "at"), (.var 2 "value")])]
     [],
    .ife (.cmp .eq (.var 3 "word") (.lit (.str "note")))
     [.ret (.meth (.var 0 "self") "note" [(.var 1 "at"), (.var 2 "value")])]
     [],
    .ret (.meth (.var 0 "self") "changed" [(.var 1 "at"), (.var 2 "value")])] }
def d_Way_keep : Def :=
  { params := ["self", "at", "value"], names := ["self", "at", "value", "known", "place", "other", "answer", "many"], scratch := false, body :=
   [.asg (.name 3 "known") (.sub (.attr (.var 0 "self") "states") (.var 1 "at")),
    .for_ (.tup [(.name 4 "place"), (.tup [(.name 5 "other"), (.name 6 "answer")])]) (.enum (.var 3 "known"))
     [.ife (.cmp .eq (.var 5 "other") (.var 2 "value"))
      [.asg (.sub (.attr (.var 0 "self") "states") (.var 1 "at")) (.bin .add (.bin .add (.slice (.var 3 "known") none (some (.var 4 "place"))) (.slice (.var 3 "known") (some (.bin .add (.var 4 "place") (.lit (.int 1)))) none)) (.vls [(.tup [(.var 2 "value"), (.var 6 "answer")])])),
      .ret (.var 6 "answer")]
      []],
    .asg (.name 6 "answer") (.meth (.var 0 "self") "go" [(.bin .add (.var 1 "at") (.lit (.int 1))), (.var 2 "value")]),
    .asg (.name 7 "many") (.sub (.sub (.attr (.var 0 "self") "layers") (.var 1 "at")) (.lit (.int 1))),
    .ife (.and (.cmp .eq (.sub (.var 6 "answer") (.lit (.int 0))) (.lit (.str "ok"))) [(.cmp .gt (.var 7 "many") (.lit (.int 0)))])
     [.asg (.sub (.attr (.var 0 "self") "states") (.var 1 "at")) (.slice (.bin .add (.sub (.attr (.var 0 "self") "states") (.var 1 "at")) (.vls [(.tup [(.var 2 "value"), (.var 6 "answer")])])) (some (.neg (.var 7 "many"))) none)]
     [],
    .ret (.var 6 "answer")] }
def d_Way_note : Def :=
  { params := ["self", "at", "value"], names := ["self", "at", "value", "word", "answer"], scratch := false, body :=
   [.asg (.name 3 "word") (.sub (.sub (.attr (.var 0 "self") "layers") (.var 1 "at")) (.lit (.int 1))),
    .expr (.bmeth (.attr (.var 0 "self") "rows") .append [(.tup [(.var 3 "word"), (.lit (.str "in")), (.var 2 "value")])]),
    .asg (.name 4 "answer") (.meth (.var 0 "self") "go" [(.bin .add (.var 1 "at") (.lit (.int 1))), (.var 2 "value")]),
    .expr (.bmeth (.attr (.var 0 "self") "rows") .append [(.tup [(.var 3 "word"), (.lit (.str "out")), (.var 4 "answer")])]),
    .ret (.var 4 "answer")] }
def d_Way_notes : Def :=
  { params := ["self"], names := ["self"], scratch := false, body :=
   [.ret (.blt .mlist [(.attr (.var 0 "self") "rows")])] }
def d__law_all_orders : Def :=
  { params := ["layers"], names := ["layers", "found", "seen", "at", "here", "spot", "other"], scratch := false, body :=
   [.asg (.name 1 "found") (.mls [(.var 0 "layers")]),
    .asg (.name 2 "seen") .any,
    .asg (.name 3 "at") (.lit (.int 0)),
    .while_ (.chain .lt .le (.var 3 "at") (.blt .len [(.var 1 "found")]) (.lit (.int 200)))
     [.asg (.name 4 "here") (.sub (.var 1 "found") (.var 3 "at")),
     .aug (.name 3 "at") .add (.lit (.int 1)),
     .for_ (.name 5 "spot") (.range (.bin .sub (.blt .len [(.var 4 "here")]) (.lit (.int 1))))
      [.ife (.call "_law_free" [(.sub (.var 4 "here") (.var 5 "spot")), (.sub (.var 4 "here") (.bin .add (.var 5 "spot") (.lit (.int 1))))])
       [.asg (.name 6 "other") (.bin .add (.bin .add (.slice (.var 4 "here") none (some (.var 5 "spot"))) (.tup [(.sub (.var 4 "here") (.bin .add (.var 5 "spot") (.lit (.int 1)))), (.sub (.var 4 "here") (.var 5 "spot"))])) (.slice (.var 4 "here") (some (.bin .add (.var 5 "spot") (.lit (.int 2)))) none)),
       .ife (.cmp .notin (.var 6 "other") (.var 2 "seen"))
        [.asg (.sub (.var 2 "seen") (.var 6 "other")) (.lit (.bl true)),
        .expr (.bmeth (.var 1 "found") .append [(.var 6 "other")])]
        []]
       []]],
    .ret (.ife (.cmp .le (.blt .len [(.var 1 "found")]) (.lit (.int 200))) (.var 1 "found") (.lit .non))] }
def d__law_answers : Def :=
  { params := ["layers", "step", "broken", "values"], names := ["layers", "step", "broken", "values", "state", "value"], scratch := false, body :=
   [.asg (.name 4 "state") (.call "_law_begun" [(.var 0 "layers"), (.var 1 "step"), (.var 2 "broken")]),
    .ret (.comp false (.call "_law_traced" [(.var 4 "state"), (.lit (.int 0)), (.var 5 "value"), (.vls [])]) (.name 5 "value") (.seq (.var 3 "values")) [] [("value", 5)])] }
def d__law_apart : Def :=
  { params := ["layers", "other", "step", "broken", "values"], names := ["layers", "other", "step", "broken", "values", "mine", "theirs", "at", "value"], scratch := false, body :=
   [.asg (.tup [(.name 5 "mine"), (.name 6 "theirs")]) (.tup [(.call "_law_begun" [(.var 0 "layers"), (.var 2 "step"), (.var 3 "broken")]), (.call "_law_begun" [(.var 1 "other"), (.var 2 "step"), (.var 3 "broken")])]),
    .for_ (.tup [(.name 7 "at"), (.name 8 "value")]) (.enum (.var 4 "values"))
     [.ife (.or (.cmp .ne (.call "_law_traced" [(.var 5 "mine"), (.lit (.int 0)), (.var 8 "value"), (.vls [])]) (.call "_law_traced" [(.var 6 "theirs"), (.lit (.int 0)), (.var 8 "value"), (.vls [])])) [(.cmp .ne (.sub (.var 5 "mine") (.lit (.str "many"))) (.sub (.var 6 "theirs") (.lit (.str "many"))))])
      [.ret (.var 7 "at")]
      []],
    .ret (.lit .non)] }
def d__law_back : Def :=
  { params := ["state", "layer", "answer"], names := ["state", "layer", "answer"], scratch := false, body :=
   [.ife (.cmp .eq (.sub (.var 1 "layer") (.lit (.int 0))) (.lit (.str "note")))
     [.expr (.bmeth (.sub (.var 0 "state") (.lit (.str "notes"))) .append [(.tup [(.sub (.var 1 "layer") (.lit (.int 1))), (.lit (.str "out")), (.var 2 "answer")])])]
     [],
    .ife (.and (.cmp .eq (.sub (.var 1 "layer") (.lit (.int 0))) (.lit (.str "out"))) [(.cmp .eq (.sub (.var 2 "answer") (.lit (.int 0))) (.lit (.str "ok")))])
     [.ret (.tup [(.lit (.str "ok")), (.bin .mod (.bin .add (.sub (.var 2 "answer") (.lit (.int 1))) (.sub (.var 1 "layer") (.lit (.int 1)))) (.lit (.int 10000)))])]
     [],
    .ife (.and (.cmp .eq (.sub (.var 1 "layer") (.lit (.int 0))) (.lit (.str "instead"))) [(.cmp .eq (.sub (.var 2 "answer") (.lit (.int 0))) (.lit (.str "bad")))])
     [.ret (.tup [(.lit (.str "ok")), (.sub (.var 1 "layer") (.lit (.int 1)))])]
     [],
    .ret (.var 2 "answer")] }
def d__law_bad : Def :=
  { params := ["part", "at"], names := ["part", "at", "some"], scratch := false, body :=
   [.asg (.name 2 "some") (.dict ["step", "broken"] [(.mls [(.neg (.lit (.int 1))), (.lit (.int 10000)), (.lit .non), (.lit (.bl true))]), (.mls [(.lit .non), (.vls [(.lit (.int 1))]), (.tup [(.neg (.lit (.int 1)))]), (.tup [(.lit (.int 100000))])])]),
    .asg (.sub (.var 2 "some") (.lit (.str "values"))) (.vls [(.lit .non), (.tup [(.lit (.int 1))]), (.vls [(.lit (.int 10000))]), (.bin .mul (.vls [(.lit (.int 0))]) (.lit (.int 61)))]),
    .asg (.sub (.var 2 "some") (.lit (.str "some"))) (.vls [(.tup []), (.tup [(.lit (.int 1)), (.lit (.int 1))]), (.vls [(.lit (.int 1))]), (.tup [(.lit (.int 0)), (.lit (.int 1)), (.lit (.int 2)), (.lit (.int 3))])]),
    .asg (.sub (.var 2 "some") (.lit (.str "four"))) (.vls [(.lit (.int 5)), (.neg (.lit (.int 1))), (.lit .non), (.lit (.bl true))]),
    .asg (.sub (.var 2 "some") (.lit (.str "three"))) (.vls [(.lit (.int 4)), (.neg (.lit (.int 1))), (.lit .non), (.lit (.bl true))]),
    .asg (.sub (.var 2 "some") (.lit (.str "answers"))) (.vls [(.lit .non), (.bin .mul (.vls [(.tup [(.lit (.str "ok")), (.lit (.int 1))])]) (.lit (.int 61))), (.tup []), (.bin .mul (.vls [(.lit .non)]) (.lit (.int 61)))]),
    .asg (.sub (.var 2 "some") (.lit (.str "choice"))) (.vls [(.lit .non), (.vls []), (.bin .mul (.vls [(.tup [(.lit (.str "in")), (.lit (.int 1))])]) (.lit (.int 2))), (.vls [(.tup [(.lit (.str "in"))])])]),
    .asg (.sub (.var 2 "some") (.lit (.str "layer"))) (.vls [(.lit .non), (.tup [(.lit (.str "in")), (.lit (.bl true))]), (.tup [(.lit (.str "gate")), (.lit (.int 5)), (.lit (.int 4))]), (.vls [(.lit (.str "in")), (.lit (.int 1))])]),
    .asg (.sub (.var 2 "some") (.lit (.str "other"))) (.vls [(.tup [(.lit (.str "keep")), (.lit (.int 10))]), (.tup [(.lit (.str "note")), (.lit (.str "A"))]), (.tup [(.lit (.str "few")), (.neg (.lit (.int 1)))]), (.tup [])]),
    .asg (.sub (.var 2 "some") (.lit (.str "layers"))) (.vls [(.lit .non), (.vls [(.tup [(.lit (.str "in")), (.lit (.int 1))])]), (.bin .mul (.tup [(.tup [(.lit (.str "in")), (.lit (.int 1))])]) (.lit (.int 9))), (.tup [(.tup [(.lit (.str "on")), (.lit (.int 1))])])]),
    .asg (.sub (.var 2 "some") (.lit (.str "second"))) (.vls [(.lit .non), (.tup [(.tup [(.lit (.str "again")), (.lit (.int 100))])]), (.tup [(.lit (.str "in")), (.lit (.int 1))]), (.lit (.str "in"))]),
    .ret (.sub (.sub (.var 2 "some") (.var 0 "part")) (.var 1 "at"))] }
def d__law_begun : Def :=
  { params := ["layers", "step", "broken"], names := ["layers", "step", "broken"], scratch := false, body :=
   [.ret (.dict ["layers", "step", "broken", "many", "notes", "kept", "counts"] [(.var 0 "layers"), (.var 1 "step"), (.var 2 "broken"), (.lit (.int 0)), (.mls []), (.dict [] []), (.dict [] [])])] }
def d__law_bench : Def :=
  { params := ["one", "deed"], names := ["one", "deed", "found"], scratch := false, body :=
   [.asg (.name 2 "found") (.lit .non),
    .try_ [.ife (.cmp .eq (.sub (.var 1 "deed") (.lit (.int 0))) (.lit (.str "ask")))
      [.asg (.name 2 "found") (.meth (.var 0 "one") "ask" [(.sub (.var 1 "deed") (.lit (.int 1)))])]
      [.asg (.name 2 "found") (.ife (.cmp .eq (.sub (.var 1 "deed") (.lit (.int 0))) (.lit (.str "forget"))) (.meth (.var 0 "one") "forget" []) (.meth (.var 0 "one") "back" []))]]
     [("BadValue", [.asg (.name 2 "found") (.lit (.str "value"))]), ("Nothing", [.asg (.name 2 "found") (.lit (.str "nothing"))])],
    .ret (.var 2 "found")] }
def d__law_benched : Def :=
  { params := ["layers", "step", "broken", "deeds"], names := ["layers", "step", "broken", "deeds", "state", "rows", "deed"], scratch := false, body :=
   [.asg (.name 4 "state") (.call "_law_begun" [(.var 0 "layers"), (.var 1 "step"), (.var 2 "broken")]),
    .asg (.name 5 "rows") (.mls []),
    .for_ (.name 6 "deed") (.seq (.var 3 "deeds"))
     [.ife (.cmp .eq (.sub (.var 6 "deed") (.lit (.int 0))) (.lit (.str "ask")))
      [.expr (.bmeth (.var 5 "rows") .append [(.tup [(.sub (.var 6 "deed") (.lit (.int 1))), (.call "_law_go" [(.var 4 "state"), (.lit (.int 0)), (.sub (.var 6 "deed") (.lit (.int 1)))])])])]
      [.asg (.tup [(.sub (.var 4 "state") (.lit (.str "notes"))), (.sub (.var 4 "state") (.lit (.str "kept"))), (.sub (.var 4 "state") (.lit (.str "counts")))]) (.tup [(.vls []), (.dict [] []), (.dict [] [])])]],
    .ret (.tup [(.var 5 "rows"), (.sub (.var 4 "state") (.lit (.str "notes"))), (.sub (.var 4 "state") (.lit (.str "many")))])] }
def d__law_broken : Def :=
  { params := ["script", "at"], names := ["script", "at", "cell", "found", "k"], scratch := true, body :=
   [.asg (.name 2 "cell") (.call "_law_cell" [(.var 0 "script"), (.var 1 "at")]),
    .asg (.name 3 "found") (.mls []),
    .for_ (.name 4 "k") (.range (.sub (.vls [(.lit (.int 0)), (.lit (.int 3)), (.lit (.int 12)), (.lit (.int 60))]) (.bin .mod (.var 2 "cell") (.lit (.int 4)))))
     [.ife (.cmp .gt (.call "_law_pick" [(.call "_law_seed" [(.var 2 "cell"), (.var 4 "k")]), (.sub (.vls [(.lit (.int 2)), (.lit (.int 3)), (.lit (.int 4))]) (.bin .mod (.bin .fdiv (.var 2 "cell") (.lit (.int 4))) (.lit (.int 3))))]) (.lit (.int 0)))
      [.expr (.bmeth (.var 3 "found") .append [(.var 4 "k")])]
      []],
    .ret (.blt .tuple [(.bin .add (.var 3 "found") (.bin .mul (.vls [(.lit (.int 99999))]) (.blt .int [(.cmp .eq (.bin .mod (.bin .fdiv (.var 2 "cell") (.lit (.int 7))) (.lit (.int 3))) (.lit (.int 0)))])))])] }
def d__law_called : Def :=
  { params := ["which", "a"], names := ["which", "a"], scratch := false, body :=
   [.ife (.cmp .lt (.var 0 "which") (.lit (.int 3)))
     [.ife (.cmp .eq (.var 0 "which") (.lit (.int 0)))
      [.ret (.call "paths" [(.sub (.var 1 "a") (.lit (.int 0))), (.sub (.var 1 "a") (.lit (.int 1))), (.sub (.var 1 "a") (.lit (.int 2))), (.sub (.var 1 "a") (.lit (.int 3)))])]
      [],
     .ret (.ife (.cmp .eq (.var 0 "which") (.lit (.int 1))) (.call "costs" [(.sub (.var 1 "a") (.lit (.int 0))), (.sub (.var 1 "a") (.lit (.int 1))), (.sub (.var 1 "a") (.lit (.int 2))), (.sub (.var 1 "a") (.lit (.int 3)))]) (.call "first_bad" [(.sub (.var 1 "a") (.lit (.int 0))), (.sub (.var 1 "a") (.lit (.int 1))), (.sub (.var 1 "a") (.lit (.int 2))), (.sub (.var 1 "a") (.lit (.int 3)))]))]
     [],
    .ife (.cmp .lt (.var 0 "which") (.lit (.int 7)))
     [.ife (.cmp .lt (.var 0 "which") (.lit (.int 5)))
      [.ret (.ife (.cmp .eq (.var 0 "which") (.lit (.int 3))) (.call "may_swap" [(.sub (.var 1 "a") (.lit (.int 0))), (.sub (.var 1 "a") (.lit (.int 1)))]) (.call "swap_places" [(.sub (.var 1 "a") (.lit (.int 0)))]))]
      [],
     .ret (.ife (.cmp .eq (.var 0 "which") (.lit (.int 5))) (.call "least_order" [(.sub (.var 1 "a") (.lit (.int 0)))]) (.call "same_order" [(.sub (.var 1 "a") (.lit (.int 0))), (.sub (.var 1 "a") (.lit (.int 1)))]))]
     [],
    .ife (.cmp .lt (.var 0 "which") (.lit (.int 9)))
     [.ife (.cmp .eq (.var 0 "which") (.lit (.int 7)))
      [.ret (.call "parting" [(.sub (.var 1 "a") (.lit (.int 0))), (.sub (.var 1 "a") (.lit (.int 1))), (.sub (.var 1 "a") (.lit (.int 2))), (.sub (.var 1 "a") (.lit (.int 3))), (.sub (.var 1 "a") (.lit (.int 4)))])]
      [],
     .ret (.call "parted_by" [(.sub (.var 1 "a") (.lit (.int 0))), (.sub (.var 1 "a") (.lit (.int 1))), (.sub (.var 1 "a") (.lit (.int 2))), (.sub (.var 1 "a") (.lit (.int 3))), (.sub (.var 1 "a") (.lit (.int 4))), (.sub (.var 1 "a") (.lit (.int 5)))])]
     [],
    .ret (.ife (.cmp .eq (.var 0 "which") (.lit (.int 9))) (.call "fitting" [(.sub (.var 1 "a") (.lit (.int 0))), (.sub (.var 1 "a") (.lit (.int 1))), (.sub (.var 1 "a") (.lit (.int 2))), (.sub (.var 1 "a") (.lit (.int 3))), (.sub (.var 1 "a") (.lit (.int 4))), (.sub (.var 1 "a") (.lit (.int 5)))]) (.make "Bench" [(.sub (.var 1 "a") (.lit (.int 0))), (.sub (.var 1 "a") (.lit (.int 1))), (.sub (.var 1 "a") (.lit (.int 2)))]))] }
def d__law_caught : Def :=
  { params := ["which", "a"], names := ["which", "a", "caught"], scratch := false, body :=
   [.asg (.name 2 "caught") (.lit (.str "")),
    .try_ [.expr (.call "_law_called" [(.var 0 "which"), (.var 1 "a")])]
     [("BadLayers", [.asg (.name 2 "caught") (.lit (.str "layers"))]), ("BadValue", [.asg (.name 2 "caught") (.lit (.str "value"))]), ("BadCore", [.asg (.name 2 "caught") (.lit (.str "core"))]), ("BadCount", [.asg (.name 2 "caught") (.lit (.str "count"))])],
    .ret (.var 2 "caught")] }
def d__law_cell : Def :=
  { params := ["script", "k"], names := ["script", "k"], scratch := false, body :=
   [.ife (.cmp .lt (.var 1 "k") (.blt .len [(.var 0 "script")]))
     [.ret (.sub (.var 0 "script") (.var 1 "k"))]
     [],
    .ret (.lit (.int 0))] }
def d__law_choice : Def :=
  { params := ["script", "at", "most"], names := ["script", "at", "most", "found", "k", "layer"], scratch := true, body :=
   [.asg (.name 3 "found") (.mls []),
    .for_ (.name 4 "k") (.range (.bin .add (.lit (.int 1)) (.bin .mod (.call "_law_cell" [(.var 0 "script"), (.var 1 "at")]) (.var 2 "most"))))
     [.asg (.name 5 "layer") (.call "_law_layer" [(.call "_law_seed" [(.bin .add (.call "_law_cell" [(.var 0 "script"), (.bin .add (.var 1 "at") (.lit (.int 1)))]) (.bin .mul (.lit (.int 41)) (.var 4 "k"))), (.var 4 "k")]), (.call "_law_small_kinds" [])]),
     .asg (.name 5 "layer") (.sub (.call "_law_few_agains" [(.tup [(.var 5 "layer")])]) (.lit (.int 0))),
     .ife (.cmp .notin (.var 5 "layer") (.var 3 "found"))
      [.expr (.bmeth (.var 3 "found") .append [(.var 5 "layer")])]
      []],
    .ret (.frz (.var 3 "found"))] }
def d__law_deeds_of : Def :=
  { params := ["way"], names := ["way"], scratch := false, body :=
   [.ife (.cmp .eq (.var 0 "way") (.lit (.int 0)))
     [.ret (.call "simpler" [(.lit .non)])]
     [],
    .ife (.cmp .eq (.var 0 "way") (.lit (.int 1)))
     [.ret (.meth (.make "Core" [(.lit (.int 0)), (.tup [])]) "ask" [(.lit .non)])]
     [],
    .ife (.cmp .eq (.var 0 "way") (.lit (.int 2)))
     [.ret (.make "Core" [(.lit (.int 0)), (.lit .non)])]
     [],
    .ret (.call "read" [(.lit .non)])] }
def d__law_edge : Def :=
  { params := ["way", "layers", "broken", "values"], names := ["way", "layers", "broken", "values", "caught"], scratch := false, body :=
   [.asg (.name 4 "caught") (.lit (.str "")),
    .try_ [.ife (.cmp .eq (.var 0 "way") (.lit (.int 0)))
      [.expr (.make "Core" [(.lit (.int 0)), (.bin .add (.var 2 "broken") (.tup [(.lit (.int 1))]))])]
      [.ife (.cmp .eq (.var 0 "way") (.lit (.int 1)))
       [.expr (.call "simpler" [(.bin .add (.var 1 "layers") (.tup [(.tup [(.lit (.str "in")), (.lit (.int 1))])]))])]
       [.ife (.cmp .eq (.var 0 "way") (.lit (.int 2)))
        [.expr (.call "simpler" [(.tup [(.tup [(.lit (.str "gate")), (.lit (.int 5)), (.lit (.int 4))])])])]
        [.expr (.call "run" [(.var 1 "layers"), (.lit (.int 0)), (.var 2 "broken"), (.bin .add (.var 3 "values") (.vls [(.lit (.int 0))]))])]]]]
     [("BadCore", [.asg (.name 4 "caught") (.lit (.str "core"))]), ("BadLayers", [.asg (.name 4 "caught") (.lit (.str "layers"))]), ("BadValue", [.asg (.name 4 "caught") (.lit (.str "value"))])],
    .ret (.var 4 "caught")] }
def d__law_emptied : Def :=
  { params := ["thing"], names := ["thing", "one"], scratch := false, body :=
   [.ife (.isin (.var 0 "thing") ["list"] false)
     [.for_ (.name 1 "one") (.seq (.blt .list [(.var 0 "thing")]))
      [.expr (.call "_law_emptied" [(.var 1 "one")])],
     .expr (.bmeth (.var 0 "thing") .clear [])]
     []] }
def d__law_few_agains : Def :=
  { params := ["layers"], names := ["layers", "found", "times", "layer"], scratch := true, body :=
   [.asg (.tup [(.name 1 "found"), (.name 2 "times")]) (.tup [(.mls []), (.lit (.int 1))]),
    .for_ (.name 3 "layer") (.seq (.var 0 "layers"))
     [.ife (.cmp .eq (.sub (.var 3 "layer") (.lit (.int 0))) (.lit (.str "again")))
      [.asg (.name 3 "layer") (.tup [(.lit (.str "again")), (.ife (.cmp .lt (.var 2 "times") (.lit (.int 60))) (.blt .min [(.sub (.var 3 "layer") (.lit (.int 1))), (.lit (.int 3))]) (.lit (.int 0)))]),
      .aug (.name 2 "times") .mul (.bin .add (.sub (.var 3 "layer") (.lit (.int 1))) (.lit (.int 1)))]
      [],
     .expr (.bmeth (.var 1 "found") .append [(.var 3 "layer")])],
    .ret (.blt .tuple [(.var 1 "found")])] }
def d__law_free : Def :=
  { params := ["one", "other"], names := ["one", "other", "words", "word"], scratch := false, body :=
   [.ife (.cmp .eq (.var 0 "one") (.var 1 "other"))
     [.ret (.lit (.bl true))]
     [],
    .asg (.name 2 "words") (.blt .sorted [(.vls [(.sub (.var 0 "one") (.lit (.int 0))), (.sub (.var 1 "other") (.lit (.int 0)))])]),
    .ife (.cmp .eq (.var 2 "words") (.vls [(.lit (.str "keep")), (.lit (.str "keep"))]))
     [.ret (.lit (.bl false))]
     [],
    .ife (.cmp .eq (.comp false (.var 3 "word") (.name 3 "word") (.seq (.var 2 "words")) [(.cmp .notin (.var 3 "word") (.tup [(.lit (.str "in")), (.lit (.str "out")), (.lit (.str "again")), (.lit (.str "keep"))]))] [("word", 3)]) (.vls []))
     [.ret (.lit (.bl true))]
     [],
    .ife (.and (.cmp .in_ (.lit (.str "few")) (.var 2 "words")) [(.cmp .eq (.comp false (.var 3 "word") (.name 3 "word") (.seq (.var 2 "words")) [(.cmp .notin (.var 3 "word") (.tup [(.lit (.str "in")), (.lit (.str "out")), (.lit (.str "few"))]))] [("word", 3)]) (.vls []))])
     [.ret (.lit (.bl true))]
     [],
    .ife (.cmp .in_ (.lit (.str "gate")) (.var 2 "words"))
     [.ret (.cmp .eq (.comp false (.var 3 "word") (.name 3 "word") (.seq (.var 2 "words")) [(.cmp .notin (.var 3 "word") (.tup [(.lit (.str "out")), (.lit (.str "gate")), (.lit (.str "again")), (.lit (.str "keep"))]))] [("word", 3)]) (.vls []))]
     [],
    .ret (.cmp .eq (.var 2 "words") (.vls [(.lit (.str "in")), (.lit (.str "instead"))]))] }
def d__law_go : Def :=
  { params := ["state", "at", "value"], names := ["state", "at", "value", "layer", "shift", "answer", "time"], scratch := false, body :=
   [.ife (.cmp .eq (.var 1 "at") (.blt .len [(.sub (.var 0 "state") (.lit (.str "layers")))]))
     [.aug (.sub (.var 0 "state") (.lit (.str "many"))) .add (.lit (.int 1)),
     .ife (.cmp .in_ (.bin .sub (.sub (.var 0 "state") (.lit (.str "many"))) (.lit (.int 1))) (.sub (.var 0 "state") (.lit (.str "broken"))))
      [.ret (.tup [(.lit (.str "bad")), (.lit (.str "core"))])]
      [],
     .ret (.tup [(.lit (.str "ok")), (.bin .mod (.bin .add (.var 2 "value") (.sub (.var 0 "state") (.lit (.str "step")))) (.lit (.int 10000)))])]
     [],
    .asg (.name 3 "layer") (.sub (.sub (.var 0 "state") (.lit (.str "layers"))) (.var 1 "at")),
    .ife (.cmp .eq (.sub (.var 3 "layer") (.lit (.int 0))) (.lit (.str "keep")))
     [.ret (.call "_law_keep" [(.var 0 "state"), (.var 1 "at"), (.var 2 "value")])]
     [],
    .ife (.cmp .eq (.sub (.var 3 "layer") (.lit (.int 0))) (.lit (.str "few")))
     [.asg (.sub (.sub (.var 0 "state") (.lit (.str "counts"))) (.var 1 "at")) (.bin .add (.bmeth (.sub (.var 0 "state") (.lit (.str "counts"))) .get [(.var 1 "at"), (.lit (.int 0))]) (.lit (.int 1))),
     .ife (.cmp .gt (.sub (.sub (.var 0 "state") (.lit (.str "counts"))) (.var 1 "at")) (.sub (.var 3 "layer") (.lit (.int 1))))
      [.ret (.tup [(.lit (.str "bad")), (.lit (.str "few"))])]
      []]
     [],
    .ife (.and (.cmp .eq (.sub (.var 3 "layer") (.lit (.int 0))) (.lit (.str "gate"))) [(.or (.cmp .lt (.var 2 "value") (.sub (.var 3 "layer") (.lit (.int 1)))) [(.cmp .gt (.var 2 "value") (.sub (.var 3 "layer") (.lit (.int 2))))])])
     [.ret (.tup [(.lit (.str "bad")), (.lit (.str "gate"))])]
     [],
    .ife (.cmp .eq (.sub (.var 3 "layer") (.lit (.int 0))) (.lit (.str "note")))
     [.expr (.bmeth (.sub (.var 0 "state") (.lit (.str "notes"))) .append [(.tup [(.sub (.var 3 "layer") (.lit (.int 1))), (.lit (.str "in")), (.var 2 "value")])])]
     [],
    .asg (.name 4 "shift") (.ife (.cmp .eq (.sub (.var 3 "layer") (.lit (.int 0))) (.lit (.str "in"))) (.sub (.var 3 "layer") (.lit (.int 1))) (.lit (.int 0))),
    .asg (.name 5 "answer") (.call "_law_go" [(.var 0 "state"), (.bin .add (.var 1 "at") (.lit (.int 1))), (.bin .mod (.bin .add (.var 2 "value") (.var 4 "shift")) (.lit (.int 10000)))]),
    .ife (.cmp .eq (.sub (.var 3 "layer") (.lit (.int 0))) (.lit (.str "again")))
     [.for_ (.name 6 "time") (.range (.sub (.var 3 "layer") (.lit (.int 1))))
      [.ife (.cmp .eq (.sub (.var 5 "answer") (.lit (.int 0))) (.lit (.str "bad")))
       [.asg (.name 5 "answer") (.call "_law_go" [(.var 0 "state"), (.bin .add (.var 1 "at") (.lit (.int 1))), (.var 2 "value")])]
       []]]
     [],
    .ret (.call "_law_back" [(.var 0 "state"), (.var 3 "layer"), (.var 5 "answer")])] }
def d__law_handed : Def :=
  { params := ["which"], names := ["which", "some"], scratch := false, body :=
   [.asg (.name 1 "some") (.bin .add (.bin .mul (.vls [(.lit (.str "layers step broken values"))]) (.lit (.int 3))) (.vls [(.lit (.str "layer other")), (.lit (.str "layers")), (.lit (.str "layers")), (.lit (.str "layers second"))])),
    .asg (.name 1 "some") (.bin .add (.var 1 "some") (.vls [(.lit (.str "layers second step broken values")), (.lit (.str "layers second step broken some four"))])),
    .asg (.name 1 "some") (.bin .add (.var 1 "some") (.vls [(.lit (.str "choice three step broken values answers")), (.lit (.str "layers step broken"))])),
    .ret (.bmeth (.sub (.var 1 "some") (.var 0 "which")) .split [(.lit (.str " "))])] }
def d__law_keep : Def :=
  { params := ["state", "at", "value"], names := ["state", "at", "value", "rows", "mine", "row", "rest", "answer"], scratch := false, body :=
   [.asg (.name 3 "rows") (.bmeth (.sub (.var 0 "state") (.lit (.str "kept"))) .get [(.var 1 "at"), (.vls [])]),
    .asg (.name 4 "mine") (.comp false (.var 5 "row") (.name 5 "row") (.seq (.var 3 "rows")) [(.cmp .eq (.sub (.var 5 "row") (.lit (.int 0))) (.var 2 "value"))] [("row", 5)]),
    .asg (.name 6 "rest") (.comp false (.var 5 "row") (.name 5 "row") (.seq (.var 3 "rows")) [(.cmp .ne (.sub (.var 5 "row") (.lit (.int 0))) (.var 2 "value"))] [("row", 5)]),
    .ife (.cmp .eq (.var 4 "mine") (.vls []))
     [.asg (.name 7 "answer") (.call "_law_go" [(.var 0 "state"), (.bin .add (.var 1 "at") (.lit (.int 1))), (.var 2 "value")]),
     .ife (.cmp .eq (.sub (.var 7 "answer") (.lit (.int 0))) (.lit (.str "bad")))
      [.ret (.var 7 "answer")]
      [],
     .asg (.name 4 "mine") (.vls [(.tup [(.var 2 "value"), (.var 7 "answer")])])]
     [],
    .asg (.sub (.sub (.var 0 "state") (.lit (.str "kept"))) (.var 1 "at")) (.slice (.bin .add (.var 4 "mine") (.var 6 "rest")) none (some (.sub (.sub (.sub (.var 0 "state") (.lit (.str "layers"))) (.var 1 "at")) (.lit (.int 1))))),
    .ret (.sub (.sub (.var 4 "mine") (.lit (.int 0))) (.lit (.int 1)))] }
def d__law_kinds : Def :=
  { params := [], names := [], scratch := false, body :=
   [.ret (.vls [(.lit (.str "in")), (.lit (.str "out")), (.lit (.str "gate")), (.lit (.str "again")), (.lit (.str "instead")), (.lit (.str "keep")), (.lit (.str "few")), (.lit (.str "note"))])] }
def d__law_kinds_of : Def :=
  { params := ["way"], names := ["way", "some"], scratch := false, body :=
   [.asg (.name 1 "some") (.mls []),
    .any,
    .ret (.frz (.var 1 "some"))] }
def d__law_layer : Def :=
  { params := ["seed", "kinds"], names := ["seed", "kinds", "word", "low"], scratch := false, body :=
   [.asg (.name 2 "word") (.sub (.var 1 "kinds") (.call "_law_pick" [(.var 0 "seed"), (.blt .len [(.var 1 "kinds")])])),
    .ife (.cmp .eq (.var 2 "word") (.lit (.str "gate")))
     [.asg (.name 3 "low") (.sub (.vls [(.lit (.int 0)), (.bin .mod (.bin .fdiv (.var 0 "seed") (.lit (.int 7))) (.lit (.int 10000))), (.bin .mod (.bin .fdiv (.var 0 "seed") (.lit (.int 7))) (.lit (.int 30)))]) (.bin .mod (.bin .fdiv (.var 0 "seed") (.lit (.int 11))) (.lit (.int 3)))),
     .ret (.tup [(.lit (.str "gate")), (.var 3 "low"), (.sub (.vls [(.lit (.int 9999)), (.bin .add (.var 3 "low") (.bin .mod (.bin .fdiv (.var 0 "seed") (.lit (.int 13))) (.bin .sub (.lit (.int 10000)) (.var 3 "low")))), (.blt .min [(.lit (.int 9999)), (.bin .add (.var 3 "low") (.lit (.int 20)))])]) (.bin .mod (.bin .fdiv (.var 0 "seed") (.lit (.int 17))) (.lit (.int 3))))])]
     [],
    .ife (.cmp .eq (.var 2 "word") (.lit (.str "again")))
     [.ret (.tup [(.lit (.str "again")), (.sub (.vls [(.bin .mod (.bin .fdiv (.var 0 "seed") (.lit (.int 7))) (.lit (.int 4))), (.bin .mod (.bin .fdiv (.var 0 "seed") (.lit (.int 7))) (.lit (.int 4))), (.bin .mod (.bin .fdiv (.var 0 "seed") (.lit (.int 7))) (.lit (.int 100)))]) (.bin .mod (.bin .fdiv (.var 0 "seed") (.lit (.int 11))) (.lit (.int 3))))])]
     [],
    .ife (.cmp .eq (.var 2 "word") (.lit (.str "note")))
     [.ret (.tup [(.lit (.str "note")), (.sub (.vls [(.lit (.str "a")), (.lit (.str "b")), (.lit (.str "cdefgh"))]) (.bin .mod (.bin .fdiv (.var 0 "seed") (.lit (.int 7))) (.lit (.int 3))))])]
     [],
    .ife (.cmp .in_ (.var 2 "word") (.tup [(.lit (.str "keep")), (.lit (.str "few"))]))
     [.ret (.tup [(.var 2 "word"), (.ife (.cmp .eq (.bin .mod (.bin .fdiv (.var 0 "seed") (.lit (.int 11))) (.lit (.int 2))) (.lit (.int 0))) (.bin .mod (.bin .fdiv (.var 0 "seed") (.lit (.int 7))) (.lit (.int 10))) (.bin .mod (.bin .fdiv (.var 0 "seed") (.lit (.int 7))) (.lit (.int 4))))])]
     [],
    .ret (.tup [(.var 2 "word"), (.sub (.vls [(.lit (.int 0)), (.bin .mod (.bin .fdiv (.var 0 "seed") (.lit (.int 7))) (.lit (.int 10000))), (.bin .mod (.bin .fdiv (.var 0 "seed") (.lit (.int 7))) (.lit (.int 20)))]) (.bin .mod (.bin .fdiv (.var 0 "seed") (.lit (.int 11))) (.lit (.int 3))))])] }
def d__law_layers : Def :=
  { params := ["script", "at", "most", "kinds"], names := ["script", "at", "most", "kinds", "found", "k"], scratch := true, body :=
   [.asg (.name 4 "found") (.mls []),
    .for_ (.name 5 "k") (.range (.call "_law_mix" [(.call "_law_cell" [(.var 0 "script"), (.var 1 "at")]), (.lit (.int 9949)), (.bin .add (.var 2 "most") (.lit (.int 1)))]))
     [.expr (.bmeth (.var 4 "found") .append [(.call "_law_layer" [(.call "_law_seed" [(.bin .add (.call "_law_cell" [(.var 0 "script"), (.bin .add (.bin .add (.var 1 "at") (.lit (.int 1))) (.bin .mod (.var 5 "k") (.lit (.int 4))))]) (.bin .mul (.lit (.int 37)) (.var 5 "k"))), (.var 5 "k")]), (.var 3 "kinds")])])],
    .ret (.blt .tuple [(.var 4 "found")])] }
def d__law_mix : Def :=
  { params := ["cell", "prime", "many"], names := ["cell", "prime", "many"], scratch := false, body :=
   [.ret (.bin .mod (.bin .mod (.bin .pow (.bin .mod (.bin .mul (.var 0 "cell") (.lit (.int 48271))) (.var 1 "prime")) (.lit (.int 3))) (.var 1 "prime")) (.var 2 "many"))] }
def d__law_of_layers : Def :=
  { params := ["way", "layers"], names := ["way", "layers"], scratch := false, body :=
   [.ife (.cmp .eq (.var 0 "way") (.lit (.int 0)))
     [.ret (.call "checked" [(.var 1 "layers")])]
     [],
    .ife (.cmp .eq (.var 0 "way") (.lit (.int 1)))
     [.ret (.call "fails" [(.var 1 "layers")])]
     [],
    .ife (.cmp .eq (.var 0 "way") (.lit (.int 2)))
     [.ret (.call "most_asks" [(.var 1 "layers")])]
     [],
    .ife (.cmp .eq (.var 0 "way") (.lit (.int 3)))
     [.ret (.make "Way" [(.var 1 "layers"), (.lit .non)])]
     [],
    .ife (.cmp .eq (.var 0 "way") (.lit (.int 4)))
     [.ret (.call "simpler" [(.var 1 "layers")])]
     [],
    .ret (.ife (.cmp .eq (.var 0 "way") (.lit (.int 5))) (.call "run" [(.var 1 "layers"), (.lit .non), (.lit .non), (.lit .non)]) (.call "shown" [(.var 1 "layers")]))] }
def d__law_once : Def :=
  { params := ["script"], names := ["script", "some", "long", "broken", "values", "step", "every", "row", "layers", "answers", "at", "due", "one"], scratch := false, body :=
   [.asg (.name 1 "some") (.call "_law_choice" [(.var 0 "script"), (.lit (.int 0)), (.lit (.int 4))]),
    .asg (.name 2 "long") (.bin .mod (.call "_law_cell" [(.var 0 "script"), (.lit (.int 2))]) (.lit (.int 4))),
    .asg (.name 3 "broken") (.call "_law_broken" [(.var 0 "script"), (.lit (.int 3))]),
    .asg (.name 4 "values") (.call "_law_values" [(.var 0 "script"), (.lit (.int 4)), (.lit (.int 12))]),
    .asg (.name 5 "step") (.bin .mod (.call "_law_cell" [(.var 0 "script"), (.lit (.int 8))]) (.lit (.int 10000))),
    .asg (.name 6 "every") (.comp false (.blt .tuple [(.var 7 "row")]) (.name 7 "row") (.seq (.call "_law_rows" [(.blt .sorted [(.var 1 "some")]), (.var 2 "long")])) [] [("row", 7)]),
    .asg (.name 8 "layers") (.sub (.var 6 "every") (.call "_law_mix" [(.call "_law_cell" [(.var 0 "script"), (.lit (.int 9))]), (.lit (.int 9949)), (.blt .len [(.var 6 "every")])])),
    .asg (.name 9 "answers") (.call "_law_answers" [(.var 8 "layers"), (.var 5 "step"), (.var 3 "broken"), (.var 4 "values")]),
    .ife (.and (.cmp .ne (.var 9 "answers") (.vls [])) [(.cmp .eq (.bin .mod (.call "_law_cell" [(.var 0 "script"), (.lit (.int 10))]) (.lit (.int 3))) (.lit (.int 0)))])
     [.asg (.name 10 "at") (.bin .mod (.call "_law_cell" [(.var 0 "script"), (.lit (.int 11))]) (.blt .len [(.var 9 "answers")])),
     .asg (.sub (.var 9 "answers") (.var 10 "at")) (.sub (.vls [(.tup [(.lit (.str "ok")), (.lit (.int 5))]), (.tup [(.lit (.str "bad")), (.lit (.str "core"))]), (.tup [(.lit (.str "bad")), (.lit (.str "x"))]), (.tup [(.lit (.str "ok")), (.var 5 "step")])]) (.bin .mod (.call "_law_cell" [(.var 0 "script"), (.lit (.int 12))]) (.lit (.int 4))))]
     [],
    .asg (.name 11 "due") (.comp false (.var 12 "one") (.name 12 "one") (.seq (.var 6 "every")) [(.cmp .eq (.call "_law_answers" [(.var 12 "one"), (.var 5 "step"), (.var 3 "broken"), (.var 4 "values")]) (.var 9 "answers"))] [("one", 12)]),
    .ife (.cmp .ne (.call "fitting" [(.blt .list [(.var 1 "some")]), (.var 2 "long"), (.var 5 "step"), (.var 3 "broken"), (.blt .list [(.var 4 "values")]), (.blt .list [(.var 9 "answers")])]) (.var 11 "due"))
     [.ret (.lit (.bl false))]
     [],
    .ret (.cmp .eq (.call "least_fitting" [(.blt .list [(.var 1 "some")]), (.var 2 "long"), (.var 5 "step"), (.var 3 "broken"), (.blt .list [(.var 4 "values")]), (.blt .list [(.var 9 "answers")])]) (.sub (.bin .add (.var 11 "due") (.vls [(.lit .non)])) (.lit (.int 0))))] }
def d__law_other_layers : Def :=
  { params := ["script", "at", "layers"], names := ["script", "at", "layers", "seed", "spot", "new", "some"], scratch := false, body :=
   [.asg (.name 3 "seed") (.call "_law_seed" [(.call "_law_cell" [(.var 0 "script"), (.var 1 "at")]), (.lit (.int 3))]),
    .ife (.or (.cmp .eq (.var 2 "layers") (.tup [])) [(.cmp .eq (.call "_law_pick" [(.call "_law_seed" [(.var 3 "seed"), (.lit (.int 1))]), (.lit (.int 4))]) (.lit (.int 0)))])
     [.ret (.call "_law_few_agains" [(.call "_law_layers" [(.var 0 "script"), (.var 1 "at"), (.lit (.int 4)), (.call "_law_kinds" [])])])]
     [],
    .asg (.name 4 "spot") (.call "_law_pick" [(.call "_law_seed" [(.var 3 "seed"), (.lit (.int 2))]), (.blt .len [(.var 2 "layers")])]),
    .asg (.name 5 "new") (.call "_law_few_agains" [(.tup [(.call "_law_layer" [(.call "_law_seed" [(.var 3 "seed"), (.lit (.int 3))]), (.call "_law_kinds" [])])])]),
    .asg (.name 6 "some") (.vls [(.bin .add (.bin .add (.slice (.var 2 "layers") none (some (.var 4 "spot"))) (.var 5 "new")) (.slice (.var 2 "layers") (some (.bin .add (.var 4 "spot") (.lit (.int 1)))) none)), (.bin .add (.slice (.var 2 "layers") none (some (.var 4 "spot"))) (.slice (.var 2 "layers") (some (.bin .add (.var 4 "spot") (.lit (.int 1)))) none)), (.bin .add (.slice (.var 2 "layers") (some (.lit (.int 1))) none) (.slice (.var 2 "layers") none (some (.lit (.int 1)))))]),
    .ret (.sub (.var 6 "some") (.call "_law_pick" [(.call "_law_seed" [(.var 3 "seed"), (.lit (.int 4))]), (.lit (.int 3))]))] }
def d__law_pick : Def :=
  { params := ["seed", "many"], names := ["seed", "many"], scratch := false, body :=
   [.ret (.bin .mod (.bin .fdiv (.var 0 "seed") (.lit (.int 97))) (.var 1 "many"))] }
def d__law_refuses : Def :=
  { params := ["part"], names := ["part", "words"], scratch := false, body :=
   [.asg (.name 1 "words") (.dict ["step", "broken", "values", "some", "four", "three"] [(.lit (.str "core")), (.lit (.str "core")), (.lit (.str "value")), (.lit (.str "value")), (.lit (.str "count")), (.lit (.str "count"))]),
    .asg (.sub (.var 1 "words") (.lit (.str "answers"))) (.lit (.str "count")),
    .ret (.bmeth (.var 1 "words") .get [(.var 0 "part"), (.lit (.str "layers"))])] }
def d__law_rows : Def :=
  { params := ["some", "long"], names := ["some", "long", "found", "row", "k", "longer", "one", "thing"], scratch := false, body :=
   [.asg (.tup [(.name 2 "found"), (.name 3 "row")]) (.tup [(.vls [(.vls [])]), (.vls [(.vls [])])]),
    .for_ (.name 4 "k") (.range (.var 1 "long"))
     [.asg (.name 5 "longer") (.vls []),
     .for_ (.name 6 "one") (.seq (.var 3 "row"))
      [.asg (.name 5 "longer") (.bin .add (.var 5 "longer") (.comp false (.bin .add (.var 6 "one") (.vls [(.var 7 "thing")])) (.name 7 "thing") (.seq (.var 0 "some")) [] [("thing", 7)]))],
     .asg (.name 3 "row") (.var 5 "longer"),
     .asg (.name 2 "found") (.bin .add (.var 2 "found") (.var 3 "row"))],
    .ret (.var 2 "found")] }
def d__law_seed : Def :=
  { params := ["seed", "k"], names := ["seed", "k"], scratch := false, body :=
   [.ret (.bin .mod (.bin .pow (.bin .mod (.bin .add (.bin .add (.bin .mul (.var 0 "seed") (.lit (.int 1103515245))) (.bin .mul (.lit (.int 7919)) (.var 1 "k"))) (.lit (.int 12345))) (.lit (.int 2147483647))) (.lit (.int 5))) (.lit (.int 2147483647)))] }
def d__law_small_kinds : Def :=
  { params := [], names := [], scratch := false, body :=
   [.ret (.vls [(.lit (.str "in")), (.lit (.str "out")), (.lit (.str "gate")), (.lit (.str "again")), (.lit (.str "instead")), (.lit (.str "keep")), (.lit (.str "few"))])] }
def d__law_traced : Def :=
  { params := ["state", "at", "value", "path"], names := ["state", "at", "value", "path", "word", "number", "kept", "row", "answer", "there", "left"], scratch := false, body :=
   [.expr (.bmeth (.var 3 "path") .append [(.var 1 "at")]),
    .ife (.cmp .eq (.var 1 "at") (.blt .len [(.sub (.var 0 "state") (.lit (.str "layers")))]))
     [.aug (.sub (.var 0 "state") (.lit (.str "many"))) .add (.lit (.int 1)),
     .ife (.cmp .in_ (.bin .sub (.sub (.var 0 "state") (.lit (.str "many"))) (.lit (.int 1))) (.sub (.var 0 "state") (.lit (.str "broken"))))
      [.ret (.tup [(.lit (.str "bad")), (.lit (.str "core"))])]
      [],
     .ret (.tup [(.lit (.str "ok")), (.bin .mod (.bin .add (.var 2 "value") (.sub (.var 0 "state") (.lit (.str "step")))) (.lit (.int 10000)))])]
     [],
    .asg (.tup [(.name 4 "word"), (.name 5 "number")]) (.slice (.sub (.sub (.var 0 "state") (.lit (.str "layers"))) (.var 1 "at")) none (some (.lit (.int 2)))),
    .asg (.name 6 "kept") (.bmeth (.sub (.var 0 "state") (.lit (.str "kept"))) .get [(.var 1 "at"), (.vls [])]),
    .ife (.and (.cmp .eq (.var 4 "word") (.lit (.str "keep"))) [(.cmp .ne (.comp false (.var 7 "row") (.name 7 "row") (.seq (.var 6 "kept")) [(.cmp .eq (.sub (.var 7 "row") (.lit (.int 0))) (.var 2 "value"))] [("row", 7)]) (.vls []))])
     [.asg (.name 8 "answer") (.sub (.sub (.comp false (.var 7 "row") (.name 7 "row") (.seq (.var 6 "kept")) [(.cmp .eq (.sub (.var 7 "row") (.lit (.int 0))) (.var 2 "value"))] [("row", 7)]) (.lit (.int 0))) (.lit (.int 1))),
     .asg (.sub (.sub (.var 0 "state") (.lit (.str "kept"))) (.var 1 "at")) (.bin .add (.vls [(.tup [(.var 2 "value"), (.var 8 "answer")])]) (.comp false (.var 7 "row") (.name 7 "row") (.seq (.var 6 "kept")) [(.cmp .ne (.sub (.var 7 "row") (.lit (.int 0))) (.var 2 "value"))] [("row", 7)])),
     .ret (.var 8 "answer")]
     [],
    .ife (.cmp .eq (.var 4 "word") (.lit (.str "few")))
     [.asg (.sub (.sub (.var 0 "state") (.lit (.str "counts"))) (.var 1 "at")) (.bin .add (.bmeth (.sub (.var 0 "state") (.lit (.str "counts"))) .get [(.var 1 "at"), (.lit (.int 0))]) (.lit (.int 1))),
     .ife (.cmp .gt (.sub (.sub (.var 0 "state") (.lit (.str "counts"))) (.var 1 "at")) (.var 5 "number"))
      [.ret (.tup [(.lit (.str "bad")), (.lit (.str "few"))])]
      []]
     [],
    .ife (.and (.cmp .eq (.var 4 "word") (.lit (.str "gate"))) [(.not (.chain .le .le (.var 5 "number") (.var 2 "value") (.sub (.sub (.sub (.var 0 "state") (.lit (.str "layers"))) (.var 1 "at")) (.lit (.int 2)))))])
     [.ret (.tup [(.lit (.str "bad")), (.lit (.str "gate"))])]
     [],
    .asg (.name 9 "there") (.ife (.cmp .eq (.var 4 "word") (.lit (.str "in"))) (.bin .mod (.bin .add (.var 2 "value") (.var 5 "number")) (.lit (.int 10000))) (.var 2 "value")),
    .asg (.name 8 "answer") (.call "_law_traced" [(.var 0 "state"), (.bin .add (.var 1 "at") (.lit (.int 1))), (.var 9 "there"), (.var 3 "path")]),
    .asg (.name 10 "left") (.ife (.cmp .eq (.var 4 "word") (.lit (.str "again"))) (.var 5 "number") (.lit (.int 0))),
    .while_ (.and (.cmp .eq (.sub (.var 8 "answer") (.lit (.int 0))) (.lit (.str "bad"))) [(.cmp .gt (.var 10 "left") (.lit (.int 0)))])
     [.asg (.name 8 "answer") (.call "_law_traced" [(.var 0 "state"), (.bin .add (.var 1 "at") (.lit (.int 1))), (.var 9 "there"), (.var 3 "path")]),
     .aug (.name 10 "left") .sub (.lit (.int 1))],
    .ife (.and (.cmp .eq (.var 4 "word") (.lit (.str "keep"))) [(.cmp .eq (.sub (.var 8 "answer") (.lit (.int 0))) (.lit (.str "ok")))])
     [.asg (.sub (.sub (.var 0 "state") (.lit (.str "kept"))) (.var 1 "at")) (.slice (.bin .add (.vls [(.tup [(.var 2 "value"), (.var 8 "answer")])]) (.bmeth (.sub (.var 0 "state") (.lit (.str "kept"))) .get [(.var 1 "at"), (.vls [])])) none (some (.var 5 "number")))]
     [],
    .ife (.and (.cmp .eq (.var 4 "word") (.lit (.str "out"))) [(.cmp .eq (.sub (.var 8 "answer") (.lit (.int 0))) (.lit (.str "ok")))])
     [.ret (.tup [(.lit (.str "ok")), (.bin .mod (.bin .add (.sub (.var 8 "answer") (.lit (.int 1))) (.var 5 "number")) (.lit (.int 10000)))])]
     [],
    .ret (.ife (.and (.cmp .eq (.var 4 "word") (.lit (.str "instead"))) [(.cmp .eq (.sub (.var 8 "answer") (.lit (.int 0))) (.lit (.str "bad")))]) (.tup [(.lit (.str "ok")), (.var 5 "number")]) (.var 8 "answer"))] }
def d__law_twin : Def :=
  { params := ["thing"], names := ["thing", "one"], scratch := false, body :=
   [.ife (.not (.isin (.var 0 "thing") ["list"] false))
     [.ret (.var 0 "thing")]
     [],
    .ret (.comp false (.call "_law_twin" [(.var 1 "one")]) (.name 1 "one") (.seq (.var 0 "thing")) [] [("one", 1)])] }
def d__law_values : Def :=
  { params := ["script", "at", "most"], names := ["script", "at", "most", "found", "k", "seed"], scratch := true, body :=
   [.asg (.name 3 "found") (.mls []),
    .for_ (.name 4 "k") (.range (.call "_law_mix" [(.call "_law_cell" [(.var 0 "script"), (.var 1 "at")]), (.lit (.int 9941)), (.bin .add (.var 2 "most") (.lit (.int 1)))]))
     [.asg (.name 5 "seed") (.call "_law_seed" [(.bin .add (.call "_law_cell" [(.var 0 "script"), (.bin .add (.bin .add (.var 1 "at") (.lit (.int 1))) (.bin .mod (.var 4 "k") (.lit (.int 3))))]) (.bin .mul (.lit (.int 41)) (.var 4 "k"))), (.var 4 "k")]),
     .expr (.bmeth (.var 3 "found") .append [(.sub (.vls [(.bin .mod (.bin .fdiv (.var 5 "seed") (.lit (.int 7))) (.lit (.int 6))), (.bin .mod (.bin .fdiv (.var 5 "seed") (.lit (.int 7))) (.lit (.int 6))), (.bin .mod (.bin .fdiv (.var 5 "seed") (.lit (.int 7))) (.lit (.int 40))), (.bin .mod (.bin .fdiv (.var 5 "seed") (.lit (.int 7))) (.lit (.int 10000)))]) (.call "_law_pick" [(.var 5 "seed"), (.lit (.int 4))]))])],
    .ret (.frz (.var 3 "found"))] }
def d__law_whole : Def :=
  { params := ["found"], names := ["found"], scratch := false, body :=
   [.ret (.and (.isin (.var 0 "found") ["int"] false) [(.not (.isin (.var 0 "found") ["bool"] false))])] }
def d_all_layers : Def :=
  { params := ["some", "long"], names := ["some", "long", "found", "row", "turn", "longer", "one", "layer"], scratch := true, body :=
   [.asg (.name 2 "found") (.mls [(.tup [])]),
    .asg (.name 3 "row") (.vls [(.tup [])]),
    .for_ (.name 4 "turn") (.range (.var 1 "long"))
     [.asg (.name 5 "longer") (.mls []),
     .for_ (.name 6 "one") (.seq (.var 3 "row"))
      [.expr (.bmeth (.var 5 "longer") .extend [(.comp false (.bin .add (.var 6 "one") (.tup [(.var 7 "layer")])) (.name 7 "layer") (.seq (.blt .sorted [(.var 0 "some")])) [] [("layer", 7)])])],
     .asg (.name 3 "row") (.var 5 "longer"),
     .expr (.bmeth (.var 2 "found") .extend [(.var 3 "row")])],
    .ret (.frz (.var 2 "found"))] }
def d_both : Def :=
  { params := ["one", "other"], names := ["one", "other", "times"], scratch := false, body :=
   [.ife (.and (.cmp .eq (.sub (.var 0 "one") (.lit (.int 0))) (.lit (.str "again"))) [(.cmp .eq (.sub (.var 1 "other") (.lit (.int 0))) (.lit (.str "instead")))])
     [.ret (.var 1 "other")]
     [],
    .ife (.cmp .ne (.sub (.var 0 "one") (.lit (.int 0))) (.sub (.var 1 "other") (.lit (.int 0))))
     [.ret (.lit .non)]
     [],
    .ife (.cmp .in_ (.sub (.var 0 "one") (.lit (.int 0))) (.tup [(.lit (.str "in")), (.lit (.str "out"))]))
     [.ret (.tup [(.sub (.var 0 "one") (.lit (.int 0))), (.bin .mod (.bin .add (.sub (.var 0 "one") (.lit (.int 1))) (.sub (.var 1 "other") (.lit (.int 1)))) (.glob "ROUND"))])]
     [],
    .ife (.cmp .eq (.sub (.var 0 "one") (.lit (.int 0))) (.lit (.str "instead")))
     [.ret (.var 1 "other")]
     [],
    .ife (.cmp .eq (.sub (.var 0 "one") (.lit (.int 0))) (.lit (.str "few")))
     [.ret (.tup [(.lit (.str "few")), (.blt .min [(.sub (.var 0 "one") (.lit (.int 1))), (.sub (.var 1 "other") (.lit (.int 1)))])])]
     [],
    .ife (.cmp .eq (.sub (.var 0 "one") (.lit (.int 0))) (.lit (.str "again")))
     [.asg (.name 2 "times") (.bin .sub (.bin .mul (.bin .add (.sub (.var 0 "one") (.lit (.int 1))) (.lit (.int 1))) (.bin .add (.sub (.var 1 "other") (.lit (.int 1))) (.lit (.int 1)))) (.lit (.int 1))),
     .ret (.ife (.cmp .le (.var 2 "times") (.glob "MOST_AGAIN")) (.tup [(.lit (.str "again")), (.var 2 "times")]) (.lit .non))]
     [],
    .ife (.and (.cmp .eq (.sub (.var 0 "one") (.lit (.int 0))) (.lit (.str "gate"))) [(.cmp .le (.blt .max [(.sub (.var 0 "one") (.lit (.int 1))), (.sub (.var 1 "other") (.lit (.int 1)))]) (.blt .min [(.sub (.var 0 "one") (.lit (.int 2))), (.sub (.var 1 "other") (.lit (.int 2)))]))])
     [.ret (.tup [(.lit (.str "gate")), (.blt .max [(.sub (.var 0 "one") (.lit (.int 1))), (.sub (.var 1 "other") (.lit (.int 1)))]), (.blt .min [(.sub (.var 0 "one") (.lit (.int 2))), (.sub (.var 1 "other") (.lit (.int 2)))])])]
     [],
    .ret (.lit .non)] }
def d_can_fail : Def :=
  { params := ["layers"], names := ["layers", "layer"], scratch := false, body :=
   [.for_ (.name 1 "layer") (.seq (.var 0 "layers"))
     [.ife (.cmp .in_ (.sub (.var 1 "layer") (.lit (.int 0))) (.tup [(.lit (.str "instead")), (.lit (.str "gate")), (.lit (.str "few"))]))
      [.ret (.cmp .ne (.sub (.var 1 "layer") (.lit (.int 0))) (.lit (.str "instead")))]
      []],
    .ret (.lit (.bl true))] }
def d_checked : Def :=
  { params := ["layers"], names := ["layers", "one"], scratch := false, body :=
   [.ife (.or (.not (.isin (.var 0 "layers") ["tuple"] false)) [(.cmp .gt (.blt .len [(.var 0 "layers")]) (.glob "MOST_LAYERS")), (.comp false (.var 1 "one") (.name 1 "one") (.seq (.var 0 "layers")) [(.not (.call "is_layer" [(.var 1 "one")]))] [("one", 1)])])
     [.raise "BadLayers" "no layers"]
     [],
    .ret (.var 0 "layers")] }
def d_costs : Def :=
  { params := ["layers", "step", "broken", "values"], names := ["layers", "step", "broken", "values", "path"], scratch := true, body :=
   [.ret (.comp false (.bmeth (.var 4 "path") .count [(.blt .len [(.var 0 "layers")])]) (.name 4 "path") (.seq (.call "paths" [(.var 0 "layers"), (.var 1 "step"), (.var 2 "broken"), (.var 3 "values")])) [] [("path", 4)])] }
def d_fails : Def :=
  { params := ["layers"], names := ["layers"], scratch := false, body :=
   [.ret (.call "can_fail" [(.call "checked" [(.var 0 "layers")])])] }
def d_first_apart : Def :=
  { params := ["layers", "other", "step", "broken", "values"], names := ["layers", "other", "step", "broken", "values", "mine", "theirs", "at", "value"], scratch := true, body :=
   [.asg (.name 5 "mine") (.make "Way" [(.var 0 "layers"), (.make "Core" [(.var 2 "step"), (.var 3 "broken")])]),
    .asg (.name 6 "theirs") (.make "Way" [(.var 1 "other"), (.make "Core" [(.var 2 "step"), (.var 3 "broken")])]),
    .for_ (.tup [(.name 7 "at"), (.name 8 "value")]) (.enum (.var 4 "values"))
     [.ife (.or (.cmp .ne (.meth (.var 5 "mine") "ask" [(.var 8 "value")]) (.meth (.var 6 "theirs") "ask" [(.var 8 "value")])) [(.cmp .ne (.meth (.var 5 "mine") "asked" []) (.meth (.var 6 "theirs") "asked" []))])
      [.ret (.var 7 "at")]
      []],
    .ret (.lit .non)] }
def d_first_bad : Def :=
  { params := ["layers", "step", "broken", "values"], names := ["layers", "step", "broken", "values", "way", "at", "value"], scratch := true, body :=
   [.asg (.name 4 "way") (.call "traced" [(.var 0 "layers"), (.var 1 "step"), (.var 2 "broken"), (.var 3 "values")]),
    .for_ (.tup [(.name 5 "at"), (.name 6 "value")]) (.enum (.var 3 "values"))
     [.ife (.cmp .eq (.sub (.meth (.var 4 "way") "ask" [(.var 6 "value")]) (.lit (.int 0))) (.lit (.str "bad")))
      [.ret (.var 5 "at")]
      []],
    .ret (.lit .non)] }
def d_fitting : Def :=
  { params := ["some", "long", "step", "broken", "values", "answers"], names := ["some", "long", "step", "broken", "values", "answers", "one", "found", "layers", "way", "at"], scratch := true, body :=
   [.expr (.call "look_choice" [(.var 0 "some")]),
    .ife (.not (.call "is_within" [(.var 1 "long"), (.lit (.int 0)), (.lit (.int 3))]))
     [.raise "BadCount" "no length"]
     [],
    .expr (.call "traced" [(.tup []), (.var 2 "step"), (.var 3 "broken"), (.var 4 "values")]),
    .ife (.or (.not (.isin (.var 5 "answers") ["list"] false)) [(.cmp .ne (.blt .len [(.var 5 "answers")]) (.blt .len [(.var 4 "values")])), (.comp false (.var 6 "one") (.name 6 "one") (.seq (.var 5 "answers")) [(.not (.call "is_answer" [(.var 6 "one")]))] [("one", 6)])])
     [.raise "BadCount" "no answers"]
     [],
    .asg (.name 7 "found") (.mls []),
    .for_ (.name 8 "layers") (.seq (.call "all_layers" [(.var 0 "some"), (.var 1 "long")]))
     [.asg (.name 9 "way") (.call "traced" [(.var 8 "layers"), (.var 2 "step"), (.var 3 "broken"), (.var 4 "values")]),
     .ife (.not (.comp false (.var 10 "at") (.name 10 "at") (.range (.blt .len [(.var 4 "values")])) [(.cmp .ne (.meth (.var 9 "way") "ask" [(.sub (.var 4 "values") (.var 10 "at"))]) (.sub (.var 5 "answers") (.var 10 "at")))] [("at", 10)]))
      [.expr (.bmeth (.var 7 "found") .append [(.var 8 "layers")])]
      []],
    .ret (.frz (.var 7 "found"))] }
def d_is_answer : Def :=
  { params := ["thing"], names := ["thing"], scratch := false, body :=
   [.ife (.or (.not (.isin (.var 0 "thing") ["tuple"] false)) [(.cmp .ne (.blt .len [(.var 0 "thing")]) (.lit (.int 2))), (.not (.isin (.sub (.var 0 "thing") (.lit (.int 0))) ["str"] false))])
     [.ret (.lit (.bl false))]
     [],
    .ife (.cmp .eq (.sub (.var 0 "thing") (.lit (.int 0))) (.lit (.str "ok")))
     [.ret (.call "is_value" [(.sub (.var 0 "thing") (.lit (.int 1)))])]
     [],
    .ret (.and (.cmp .eq (.sub (.var 0 "thing") (.lit (.int 0))) (.lit (.str "bad"))) [(.isin (.sub (.var 0 "thing") (.lit (.int 1))) ["str"] false)])] }
def d_is_free : Def :=
  { params := ["one", "other"], names := ["one", "other"], scratch := false, body :=
   [.ret (.or (.cmp .eq (.var 0 "one") (.var 1 "other")) [(.cmp .in_ (.sub (.var 1 "other") (.lit (.int 0))) (.sub (.glob "FREE") (.sub (.var 0 "one") (.lit (.int 0)))))])] }
def d_is_layer : Def :=
  { params := ["thing"], names := ["thing"], scratch := false, body :=
   [.ife (.or (.not (.isin (.var 0 "thing") ["tuple"] false)) [(.not (.var 0 "thing")), (.not (.isin (.sub (.var 0 "thing") (.lit (.int 0))) ["str"] false))])
     [.ret (.lit (.bl false))]
     [],
    .ife (.cmp .eq (.sub (.var 0 "thing") (.lit (.int 0))) (.lit (.str "gate")))
     [.ret (.and (.cmp .eq (.blt .len [(.var 0 "thing")]) (.lit (.int 3))) [(.call "is_value" [(.sub (.var 0 "thing") (.lit (.int 1)))]), (.call "is_value" [(.sub (.var 0 "thing") (.lit (.int 2)))]), (.cmp .le (.sub (.var 0 "thing") (.lit (.int 1))) (.sub (.var 0 "thing") (.lit (.int 2))))])]
     [],
    .ife (.cmp .ne (.blt .len [(.var 0 "thing")]) (.lit (.int 2)))
     [.ret (.lit (.bl false))]
     [],
    .ife (.cmp .in_ (.sub (.var 0 "thing") (.lit (.int 0))) (.tup [(.lit (.str "in")), (.lit (.str "out")), (.lit (.str "instead"))]))
     [.ret (.call "is_value" [(.sub (.var 0 "thing") (.lit (.int 1)))])]
     [],
    .ife (.cmp .eq (.sub (.var 0 "thing") (.lit (.int 0))) (.lit (.str "again")))
     [.ret (.call "is_within" [(.sub (.var 0 "thing") (.lit (.int 1))), (.lit (.int 0)), (.glob "MOST_AGAIN")])]
     [],
    .ife (.cmp .in_ (.sub (.var 0 "thing") (.lit (.int 0))) (.tup [(.lit (.str "keep")), (.lit (.str "few"))]))
     [.ret (.call "is_within" [(.sub (.var 0 "thing") (.lit (.int 1))), (.lit (.int 0)), (.lit (.int 9))])]
     [],
    .ret (.and (.cmp .eq (.sub (.var 0 "thing") (.lit (.int 0))) (.lit (.str "note"))) [(.call "is_word" [(.sub (.var 0 "thing") (.lit (.int 1)))])])] }
def d_is_nothing : Def :=
  { params := ["layer"], names := ["layer"], scratch := false, body :=
   [.ret (.cmp .in_ (.var 0 "layer") (.tup [(.tup [(.lit (.str "in")), (.lit (.int 0))]), (.tup [(.lit (.str "out")), (.lit (.int 0))]), (.tup [(.lit (.str "again")), (.lit (.int 0))]), (.tup [(.lit (.str "keep")), (.lit (.int 0))]), (.tup [(.lit (.str "gate")), (.lit (.int 0)), (.bin .sub (.glob "ROUND") (.lit (.int 1)))])]))] }
def d_is_value : Def :=
  { params := ["thing"], names := ["thing"], scratch := false, body :=
   [.ret (.call "is_within" [(.var 0 "thing"), (.lit (.int 0)), (.bin .sub (.glob "ROUND") (.lit (.int 1)))])] }
def d_is_within : Def :=
  { params := ["thing", "low", "high"], names := ["thing", "low", "high"], scratch := false, body :=
   [.ret (.and (.isin (.var 0 "thing") ["int"] false) [(.not (.isin (.var 0 "thing") ["bool"] false)), (.chain .le .le (.var 1 "low") (.var 0 "thing") (.var 2 "high"))])] }
def d_is_word : Def :=
  { params := ["thing"], names := ["thing", "sign"], scratch := false, body :=
   [.ife (.or (.not (.isin (.var 0 "thing") ["str"] false)) [(.not (.chain .le .le (.lit (.int 1)) (.blt .len [(.var 0 "thing")]) (.lit (.int 6))))])
     [.ret (.lit (.bl false))]
     [],
    .ret (.not (.comp false (.var 1 "sign") (.name 1 "sign") (.seq (.var 0 "thing")) [(.cmp .notin (.var 1 "sign") (.glob "SMALL"))] [("sign", 1)]))] }
def d_least_fitting : Def :=
  { params := ["some", "long", "step", "broken", "values", "answers"], names := ["some", "long", "step", "broken", "values", "answers", "found"], scratch := true, body :=
   [.asg (.name 6 "found") (.call "fitting" [(.var 0 "some"), (.var 1 "long"), (.var 2 "step"), (.var 3 "broken"), (.var 4 "values"), (.var 5 "answers")]),
    .ret (.ife (.var 6 "found") (.sub (.var 6 "found") (.lit (.int 0))) (.lit .non))] }
def d_least_order : Def :=
  { params := ["layers"], names := ["layers", "left", "found", "ways", "at", "layer", "one"], scratch := true, body :=
   [.asg (.name 1 "left") (.blt .list [(.call "checked" [(.var 0 "layers")])]),
    .asg (.name 2 "found") (.mls []),
    .while_ (.var 1 "left")
     [.asg (.name 3 "ways") (.mls []),
     .for_ (.tup [(.name 4 "at"), (.name 5 "layer")]) (.enum (.var 1 "left"))
      [.ife (.not (.comp false (.var 6 "one") (.name 6 "one") (.seq (.slice (.var 1 "left") none (some (.var 4 "at")))) [(.not (.call "is_free" [(.var 6 "one"), (.var 5 "layer")]))] [("one", 6)]))
       [.expr (.bmeth (.var 3 "ways") .append [(.tup [(.var 5 "layer"), (.var 4 "at")])])]
       []],
     .asg (.tup [(.name 5 "layer"), (.name 4 "at")]) (.blt .min [(.var 3 "ways")]),
     .expr (.bmeth (.var 2 "found") .append [(.var 5 "layer")]),
     .asg (.name 1 "left") (.bin .add (.slice (.var 1 "left") none (some (.var 4 "at"))) (.slice (.var 1 "left") (some (.bin .add (.var 4 "at") (.lit (.int 1)))) none))],
    .ret (.blt .tuple [(.var 2 "found")])] }
def d_look_choice : Def :=
  { params := ["some"], names := ["some", "one"], scratch := false, body :=
   [.ife (.or (.not (.isin (.var 0 "some") ["list"] false)) [(.not (.chain .le .le (.lit (.int 1)) (.blt .len [(.var 0 "some")]) (.glob "MOST_CHOICE"))), (.comp false (.var 1 "one") (.name 1 "one") (.seq (.var 0 "some")) [(.not (.call "is_layer" [(.var 1 "one")]))] [("one", 1)])])
     [.raise "BadLayers" "no choice"]
     [],
    .ife (.cmp .ne (.blt .len [(.blt .set [(.var 0 "some")])]) (.blt .len [(.var 0 "some")]))
     [.raise "BadLayers" "one twice"]
     []] }
def d_look_value : Def :=
  { params := ["value"], names := ["value"], scratch := false, body :=
   [.ife (.not (.call "is_value" [(.var 0 "value")]))
     [.raise "BadValue" "no value"]
     []] }
def d_may_swap : Def :=
  { params := ["one", "other"], names := ["one", "other"], scratch := false, body :=
   [.ife (.or (.not (.call "is_layer" [(.var 0 "one")])) [(.not (.call "is_layer" [(.var 1 "other")]))])
     [.raise "BadLayers" "no layer"]
     [],
    .ret (.call "is_free" [(.var 0 "one"), (.var 1 "other")])] }
def d_most_asks : Def :=
  { params := ["layers"], names := ["layers", "found", "at", "layer"], scratch := false, body :=
   [.expr (.call "checked" [(.var 0 "layers")]),
    .asg (.name 1 "found") (.lit (.int 1)),
    .for_ (.tup [(.name 2 "at"), (.name 3 "layer")]) (.enum (.var 0 "layers"))
     [.ife (.and (.cmp .eq (.sub (.var 3 "layer") (.lit (.int 0))) (.lit (.str "again"))) [(.call "can_fail" [(.slice (.var 0 "layers") (some (.bin .add (.var 2 "at") (.lit (.int 1)))) none)])])
      [.asg (.name 1 "found") (.bin .mul (.var 1 "found") (.bin .add (.sub (.var 3 "layer") (.lit (.int 1))) (.lit (.int 1))))]
      []],
    .ret (.var 1 "found")] }
def d_once : Def :=
  { params := ["layers"], names := ["layers", "at", "layer", "found"], scratch := false, body :=
   [.for_ (.tup [(.name 1 "at"), (.name 2 "layer")]) (.enum (.var 0 "layers"))
     [.ife (.call "is_nothing" [(.var 2 "layer")])
      [.ret (.bin .add (.slice (.var 0 "layers") none (some (.var 1 "at"))) (.slice (.var 0 "layers") (some (.bin .add (.var 1 "at") (.lit (.int 1)))) none))]
      [],
     .ife (.cmp .lt (.bin .add (.var 1 "at") (.lit (.int 1))) (.blt .len [(.var 0 "layers")]))
      [.asg (.name 3 "found") (.call "both" [(.var 2 "layer"), (.sub (.var 0 "layers") (.bin .add (.var 1 "at") (.lit (.int 1))))]),
      .ife (.cmp .isnot (.var 3 "found") (.lit .non))
       [.ret (.bin .add (.bin .add (.slice (.var 0 "layers") none (some (.var 1 "at"))) (.tup [(.var 3 "found")])) (.slice (.var 0 "layers") (some (.bin .add (.var 1 "at") (.lit (.int 2)))) none))]
       []]
      []],
    .ret (.var 0 "layers")] }
def d_part_of : Def :=
  { params := ["word"], names := ["word", "sign"], scratch := false, body :=
   [.ife (.and (.cmp .ne (.var 0 "word") (.lit (.str ""))) [(.cmp .lt (.blt .len [(.var 0 "word")]) (.lit (.int 5))), (.not (.comp false (.var 1 "sign") (.name 1 "sign") (.seq (.var 0 "word")) [(.cmp .notin (.var 1 "sign") (.glob "FIGURES"))] [("sign", 1)]))])
     [.ret (.blt .int [(.var 0 "word")])]
     [],
    .ret (.var 0 "word")] }
def d_parted_by : Def :=
  { params := ["layers", "other", "step", "broken", "some", "long"], names := ["layers", "other", "step", "broken", "some", "long", "one", "more", "row"], scratch := true, body :=
   [.expr (.call "checked" [(.var 0 "layers")]),
    .expr (.call "checked" [(.var 1 "other")]),
    .expr (.make "Core" [(.var 2 "step"), (.var 3 "broken")]),
    .ife (.or (.not (.isin (.var 4 "some") ["tuple"] false)) [(.not (.chain .le .le (.lit (.int 1)) (.blt .len [(.var 4 "some")]) (.lit (.int 3)))), (.comp false (.var 6 "one") (.name 6 "one") (.seq (.var 4 "some")) [(.not (.call "is_value" [(.var 6 "one")]))] [("one", 6)])])
     [.raise "BadValue" "no values"]
     [],
    .ife (.comp false (.lit (.int 1)) (.tup [(.name 6 "one"), (.name 7 "more")]) (.zip (.var 4 "some") (.slice (.var 4 "some") (some (.lit (.int 1))) none)) [(.cmp .ge (.var 6 "one") (.var 7 "more"))] [("one", 6), ("more", 7)])
     [.raise "BadValue" "not rising"]
     [],
    .ife (.not (.call "is_within" [(.var 5 "long"), (.lit (.int 0)), (.lit (.int 4))]))
     [.raise "BadCount" "no length"]
     [],
    .for_ (.name 8 "row") (.seq (.call "rows_of" [(.var 4 "some"), (.var 5 "long")]))
     [.ife (.cmp .isnot (.call "first_apart" [(.var 0 "layers"), (.var 1 "other"), (.var 2 "step"), (.var 3 "broken"), (.var 8 "row")]) (.lit .non))
      [.ret (.var 8 "row")]
      []],
    .ret (.lit .non)] }
def d_parting : Def :=
  { params := ["layers", "other", "step", "broken", "values"], names := ["layers", "other", "step", "broken", "values"], scratch := true, body :=
   [.expr (.call "checked" [(.var 0 "layers")]),
    .expr (.call "checked" [(.var 1 "other")]),
    .expr (.call "traced" [(.var 0 "layers"), (.var 2 "step"), (.var 3 "broken"), (.var 4 "values")]),
    .ret (.call "first_apart" [(.var 0 "layers"), (.var 1 "other"), (.var 2 "step"), (.var 3 "broken"), (.var 4 "values")])] }
def d_paths : Def :=
  { params := ["layers", "step", "broken", "values"], names := ["layers", "step", "broken", "values", "way", "found", "value"], scratch := true, body :=
   [.asg (.name 4 "way") (.call "traced" [(.var 0 "layers"), (.var 1 "step"), (.var 2 "broken"), (.var 3 "values")]),
    .asg (.name 5 "found") (.mls []),
    .for_ (.name 6 "value") (.seq (.var 3 "values"))
     [.asg (.attr (.var 4 "way") "places") (.mls []),
     .expr (.meth (.var 4 "way") "ask" [(.var 6 "value")]),
     .expr (.bmeth (.var 5 "found") .append [(.attr (.var 4 "way") "places")])],
    .ret (.frz (.var 5 "found"))] }
def d_read : Def :=
  { params := ["text"], names := ["text", "found", "row", "words", "word", "one"], scratch := true, body :=
   [.ife (.not (.isin (.var 0 "text") ["str"] false))
     [.raise "BadText" "no text"]
     [],
    .ife (.cmp .eq (.var 0 "text") (.lit (.str "")))
     [.ret (.tup [])]
     [],
    .asg (.name 1 "found") (.mls []),
    .for_ (.name 2 "row") (.seq (.bmeth (.var 0 "text") .split [(.lit (.str "; "))]))
     [.asg (.name 3 "words") (.bmeth (.var 2 "row") .split [(.lit (.str " "))]),
     .expr (.bmeth (.var 1 "found") .append [(.blt .tuple [(.bin .add (.slice (.var 3 "words") none (some (.lit (.int 1)))) (.comp false (.call "part_of" [(.var 4 "word")]) (.name 4 "word") (.seq (.slice (.var 3 "words") (some (.lit (.int 1))) none)) [] [("word", 4)]))])])],
    .ife (.or (.cmp .gt (.blt .len [(.var 1 "found")]) (.glob "MOST_LAYERS")) [(.comp false (.var 5 "one") (.name 5 "one") (.seq (.var 1 "found")) [(.not (.call "is_layer" [(.var 5 "one")]))] [("one", 5)]), (.cmp .ne (.call "shown" [(.blt .tuple [(.var 1 "found")])]) (.var 0 "text"))])
     [.raise "BadText" "no layers"]
     [],
    .ret (.blt .tuple [(.var 1 "found")])] }
def d_rows_of : Def :=
  { params := ["some", "long"], names := ["some", "long", "found", "row", "turn", "longer", "one", "value"], scratch := true, body :=
   [.asg (.name 2 "found") (.mls [(.vls [])]),
    .asg (.name 3 "row") (.vls [(.vls [])]),
    .for_ (.name 4 "turn") (.range (.var 1 "long"))
     [.asg (.name 5 "longer") (.mls []),
     .for_ (.name 6 "one") (.seq (.var 3 "row"))
      [.expr (.bmeth (.var 5 "longer") .extend [(.comp false (.bin .add (.var 6 "one") (.vls [(.var 7 "value")])) (.name 7 "value") (.seq (.var 0 "some")) [] [("value", 7)])])],
     .asg (.name 3 "row") (.var 5 "longer"),
     .expr (.bmeth (.var 2 "found") .extend [(.var 3 "row")])],
    .ret (.frz (.var 2 "found"))] }
def d_run : Def :=
  { params := ["layers", "step", "broken", "values"], names := ["layers", "step", "broken", "values", "way", "one", "answers", "value"], scratch := true, body :=
   [.expr (.call "checked" [(.var 0 "layers")]),
    .asg (.name 4 "way") (.make "Way" [(.var 0 "layers"), (.make "Core" [(.var 1 "step"), (.var 2 "broken")])]),
    .ife (.or (.not (.isin (.var 3 "values") ["list"] false)) [(.cmp .gt (.blt .len [(.var 3 "values")]) (.glob "MOST_VALUES")), (.comp false (.var 5 "one") (.name 5 "one") (.seq (.var 3 "values")) [(.not (.call "is_value" [(.var 5 "one")]))] [("one", 5)])])
     [.raise "BadValue" "no values"]
     [],
    .asg (.name 6 "answers") (.comp false (.meth (.var 4 "way") "ask" [(.var 7 "value")]) (.name 7 "value") (.seq (.var 3 "values")) [] [("value", 7)]),
    .ret (.tup [(.var 6 "answers"), (.frz (.meth (.var 4 "way") "notes" [])), (.meth (.var 4 "way") "asked" [])])] }
def d_same_order : Def :=
  { params := ["layers", "other"], names := ["layers", "other"], scratch := false, body :=
   [.ret (.cmp .eq (.call "least_order" [(.var 0 "layers")]) (.call "least_order" [(.var 1 "other")]))] }
def d_shown : Def :=
  { params := ["layers"], names := ["layers", "part", "layer"], scratch := false, body :=
   [.ret (.bmeth (.lit (.str "; ")) .join [(.comp false (.bmeth (.lit (.str " ")) .join [(.comp false (.blt .str [(.var 1 "part")]) (.name 1 "part") (.seq (.var 2 "layer")) [] [("part", 1)])]) (.name 2 "layer") (.seq (.call "checked" [(.var 0 "layers")])) [] [("layer", 2)])])] }
def d_simpler : Def :=
  { params := ["layers"], names := ["layers", "found"], scratch := false, body :=
   [.expr (.call "checked" [(.var 0 "layers")]),
    .asg (.name 1 "found") (.call "once" [(.var 0 "layers")]),
    .while_ (.cmp .ne (.var 1 "found") (.var 0 "layers"))
     [.asg (.name 0 "layers") (.var 1 "found"),
     .asg (.name 1 "found") (.call "once" [(.var 0 "layers")])],
    .ret (.var 0 "layers")] }
def d_swap_places : Def :=
  { params := ["layers"], names := ["layers", "at"], scratch := false, body :=
   [.expr (.call "checked" [(.var 0 "layers")]),
    .ret (.comp false (.var 1 "at") (.name 1 "at") (.range (.bin .sub (.blt .len [(.var 0 "layers")]) (.lit (.int 1)))) [(.call "is_free" [(.sub (.var 0 "layers") (.var 1 "at")), (.sub (.var 0 "layers") (.bin .add (.var 1 "at") (.lit (.int 1))))])] [("at", 1)])] }
def d_traced : Def :=
  { params := ["layers", "step", "broken", "values"], names := ["layers", "step", "broken", "values", "way", "one"], scratch := false, body :=
   [.expr (.call "checked" [(.var 0 "layers")]),
    .asg (.name 4 "way") (.make "TracedWay" [(.var 0 "layers"), (.make "Core" [(.var 1 "step"), (.var 2 "broken")])]),
    .ife (.or (.not (.isin (.var 3 "values") ["list"] false)) [(.cmp .gt (.blt .len [(.var 3 "values")]) (.glob "MOST_VALUES")), (.comp false (.var 5 "one") (.name 5 "one") (.seq (.var 3 "values")) [(.not (.call "is_value" [(.var 5 "one")]))] [("one", 5)])])
     [.raise "BadValue" "no values"]
     [],
    .ret (.var 4 "way")] }
def fnTab : List (String × Def) := [("Bench.__init__", d_Bench_init),
  ("Bench.ask", d_Bench_ask),
  ("Bench.asked", d_Bench_asked),
  ("Bench.back", d_Bench_back),
  ("Bench.forget", d_Bench_forget),
  ("Bench.notes", d_Bench_notes),
  ("Bench.played", d_Bench_played),
  ("Bench.told", d_Bench_told),
  ("Bench.twin", d_Bench_twin),
  ("Core.__init__", d_Core_init),
  ("Core.ask", d_Core_ask),
  ("Core.asked", d_Core_asked),
  ("TracedWay.__init__", d_TracedWay_init),
  ("TracedWay.go", d_TracedWay_go),
  ("Way.__init__", d_Way_init),
  ("Way.ask", d_Way_ask),
  ("Way.asked", d_Way_asked),
  ("Way.changed", d_Way_changed),
  ("Way.few", d_Way_few),
  ("Way.forget", d_Way_forget),
  ("Way.go", d_Way_go),
  ("Way.keep", d_Way_keep),
  ("Way.note", d_Way_note),
  ("Way.notes", d_Way_notes),
  ("_law_all_orders", d__law_all_orders),
  ("_law_answers", d__law_answers),
  ("_law_apart", d__law_apart),
  ("_law_back", d__law_back),
  ("_law_bad", d__law_bad),
  ("_law_begun", d__law_begun),
  ("_law_bench", d__law_bench),
  ("_law_benched", d__law_benched),
  ("_law_broken", d__law_broken),
  ("_law_called", d__law_called),
  ("_law_caught", d__law_caught),
  ("_law_cell", d__law_cell),
  ("_law_choice", d__law_choice),
  ("_law_deeds_of", d__law_deeds_of),
  ("_law_edge", d__law_edge),
  ("_law_emptied", d__law_emptied),
  ("_law_few_agains", d__law_few_agains),
  ("_law_free", d__law_free),
  ("_law_go", d__law_go),
  ("_law_handed", d__law_handed),
  ("_law_keep", d__law_keep),
  ("_law_kinds", d__law_kinds),
  ("_law_kinds_of", d__law_kinds_of),
  ("_law_layer", d__law_layer),
  ("_law_layers", d__law_layers),
  ("_law_mix", d__law_mix),
  ("_law_of_layers", d__law_of_layers),
  ("_law_once", d__law_once),
  ("_law_other_layers", d__law_other_layers),
  ("_law_pick", d__law_pick),
  ("_law_refuses", d__law_refuses),
  ("_law_rows", d__law_rows),
  ("_law_seed", d__law_seed),
  ("_law_small_kinds", d__law_small_kinds),
  ("_law_traced", d__law_traced),
  ("_law_twin", d__law_twin),
  ("_law_values", d__law_values),
  ("_law_whole", d__law_whole),
  ("all_layers", d_all_layers),
  ("both", d_both),
  ("can_fail", d_can_fail),
  ("checked", d_checked),
  ("costs", d_costs),
  ("fails", d_fails),
  ("first_apart", d_first_apart),
  ("first_bad", d_first_bad),
  ("fitting", d_fitting),
  ("is_answer", d_is_answer),
  ("is_free", d_is_free),
  ("is_layer", d_is_layer),
  ("is_nothing", d_is_nothing),
  ("is_value", d_is_value),
  ("is_within", d_is_within),
  ("is_word", d_is_word),
  ("least_fitting", d_least_fitting),
  ("least_order", d_least_order),
  ("look_choice", d_look_choice),
  ("look_value", d_look_value),
  ("may_swap", d_may_swap),
  ("most_asks", d_most_asks),
  ("once", d_once),
  ("part_of", d_part_of),
  ("parted_by", d_parted_by),
  ("parting", d_parting),
  ("paths", d_paths),
  ("read", d_read),
  ("rows_of", d_rows_of),
  ("run", d_run),
  ("same_order", d_same_order),
  ("shown", d_shown),
  ("simpler", d_simpler),
  ("swap_places", d_swap_places),
  ("traced", d_traced)]
def mrTab : List ((String × String) × String) := [(("Core", "__init__"), "Core.__init__"),
  (("Core", "ask"), "Core.ask"),
  (("Core", "asked"), "Core.asked"),
  (("Way", "__init__"), "Way.__init__"),
  (("Way", "ask"), "Way.ask"),
  (("Way", "asked"), "Way.asked"),
  (("Way", "changed"), "Way.changed"),
  (("Way", "few"), "Way.few"),
  (("Way", "forget"), "Way.forget"),
  (("Way", "go"), "Way.go"),
  (("Way", "keep"), "Way.keep"),
  (("Way", "note"), "Way.note"),
  (("Way", "notes"), "Way.notes"),
  (("TracedWay", "__init__"), "TracedWay.__init__"),
  (("TracedWay", "go"), "TracedWay.go"),
  (("TracedWay", "ask"), "Way.ask"),
  (("TracedWay", "asked"), "Way.asked"),
  (("TracedWay", "changed"), "Way.changed"),
  (("TracedWay", "few"), "Way.few"),
  (("TracedWay", "forget"), "Way.forget"),
  (("TracedWay", "keep"), "Way.keep"),
  (("TracedWay", "note"), "Way.note"),
  (("TracedWay", "notes"), "Way.notes"),
  (("Bench", "__init__"), "Bench.__init__"),
  (("Bench", "ask"), "Bench.ask"),
  (("Bench", "asked"), "Bench.asked"),
  (("Bench", "back"), "Bench.back"),
  (("Bench", "forget"), "Bench.forget"),
  (("Bench", "notes"), "Bench.notes"),
  (("Bench", "played"), "Bench.played"),
  (("Bench", "told"), "Bench.told"),
  (("Bench", "twin"), "Bench.twin")]
def subTab : List (String × String) := [("LayerError", "LayerError"), ("BadLayers", "BadLayers"), ("BadLayers", "LayerError"), ("BadValue", "BadValue"), ("BadValue", "LayerError"), ("BadCore", "BadCore"), ("BadCore", "LayerError"), ("Core", "Core"), ("Way", "Way"), ("BadText", "BadText"), ("BadText", "LayerError"), ("TracedWay", "TracedWay"), ("TracedWay", "Way"), ("BadCount", "BadCount"), ("BadCount", "LayerError"), ("Nothing", "Nothing"), ("Nothing", "LayerError"), ("Bench", "Bench")]
def glTab : List (String × PV) := [("ROUND", .int 10000), ("MOST_LAYERS", .int 8), ("MOST_AGAIN", .int 99), ("SMALL", .str "abcdefghijklmnopqrstuvwxyz"), ("MOST_FAILS", .int 200), ("MOST_VALUES", .int 60), ("FIGURES", .str "0123456789"), ("MOST_CHOICE", .int 6)]
/-- the tables: the law's def, the row's exception classes -/
def tb (L : Def) (xs : List String) : Tb where
  fn := fun f => if f = "law" then some L else fnTab.lookup f
  mr := fun C m => mrTab.lookup (C, m)
  sub := fun a b => subTab.contains (a, b)
  gl := fun x => glTab.lookup x
  exc := fun c => xs.contains c
end LW
/-! LwT: the tables, entry by entry (printed by gen). -/
namespace LW
section
variable {L : Def} {xs : List String}
@[simp] theorem T_d_Bench_init : (tb L xs).fn "Bench.__init__" = some d_Bench_init := by kernel_rfl
@[simp] theorem T_d_Bench_ask : (tb L xs).fn "Bench.ask" = some d_Bench_ask := by kernel_rfl
@[simp] theorem T_d_Bench_asked : (tb L xs).fn "Bench.asked" = some d_Bench_asked := by kernel_rfl
@[simp] theorem T_d_Bench_back : (tb L xs).fn "Bench.back" = some d_Bench_back := by kernel_rfl
@[simp] theorem T_d_Bench_forget : (tb L xs).fn "Bench.forget" = some d_Bench_forget := by kernel_rfl
@[simp] theorem T_d_Bench_notes : (tb L xs).fn "Bench.notes" = some d_Bench_notes := by kernel_rfl
@[simp] theorem T_d_Bench_played : (tb L xs).fn "Bench.played" = some d_Bench_played := by kernel_rfl
@[simp] theorem T_d_Bench_told : (tb L xs).fn "Bench.told" = some d_Bench_told := by kernel_rfl
@[simp] theorem T_d_Bench_twin : (tb L xs).fn "Bench.twin" = some d_Bench_twin := by kernel_rfl
@[simp] theorem T_d_Core_init : (tb L xs).fn "Core.__init__" = some d_Core_init := by kernel_rfl
@[simp] theorem T_d_Core_ask : (tb L xs).fn "Core.ask" = some d_Core_ask := by kernel_rfl
@[simp] theorem T_d_Core_asked : (tb L xs).fn "Core.asked" = some d_Core_asked := by kernel_rfl
@[simp] theorem T_d_TracedWay_init : (tb L xs).fn "TracedWay.__init__" = some d_TracedWay_init := by kernel_rfl
@[simp] theorem T_d_TracedWay_go : (tb L xs).fn "TracedWay.go" = some d_TracedWay_go := by kernel_rfl
@[simp] theorem T_d_Way_init : (tb L xs).fn "Way.__init__" = some d_Way_init := by kernel_rfl
@[simp] theorem T_d_Way_ask : (tb L xs).fn "Way.ask" = some d_Way_ask := by kernel_rfl
@[simp] theorem T_d_Way_asked : (tb L xs).fn "Way.asked" = some d_Way_asked := by kernel_rfl
@[simp] theorem T_d_Way_changed : (tb L xs).fn "Way.changed" = some d_Way_changed := by kernel_rfl
@[simp] theorem T_d_Way_few : (tb L xs).fn "Way.few" = some d_Way_few := by kernel_rfl
@[simp] theorem T_d_Way_forget : (tb L xs).fn "Way.forget" = some d_Way_forget := by kernel_rfl
@[simp] theorem T_d_Way_go : (tb L xs).fn "Way.go" = some d_Way_go := by kernel_rfl
@[simp] theorem T_d_Way_keep : (tb L xs).fn "Way.keep" = some d_Way_keep := by kernel_rfl
@[simp] theorem T_d_Way_note : (tb L xs).fn "Way.note" = some d_Way_note := by kernel_rfl
@[simp] theorem T_d_Way_notes : (tb L xs).fn "Way.notes" = some d_Way_notes := by kernel_rfl
@[simp] theorem T_d__law_all_orders : (tb L xs).fn "_law_all_orders" = some d__law_all_orders := by kernel_rfl
@[simp] theorem T_d__law_answers : (tb L xs).fn "_law_answers" = some d__law_answers := by kernel_rfl
@[simp] theorem T_d__law_apart : (tb L xs).fn "_law_apart" = some d__law_apart := by kernel_rfl
@[simp] theorem T_d__law_back : (tb L xs).fn "_law_back" = some d__law_back := by kernel_rfl
@[simp] theorem T_d__law_bad : (tb L xs).fn "_law_bad" = some d__law_bad := by kernel_rfl
@[simp] theorem T_d__law_begun : (tb L xs).fn "_law_begun" = some d__law_begun := by kernel_rfl
@[simp] theorem T_d__law_bench : (tb L xs).fn "_law_bench" = some d__law_bench := by kernel_rfl
@[simp] theorem T_d__law_benched : (tb L xs).fn "_law_benched" = some d__law_benched := by kernel_rfl
@[simp] theorem T_d__law_broken : (tb L xs).fn "_law_broken" = some d__law_broken := by kernel_rfl
@[simp] theorem T_d__law_called : (tb L xs).fn "_law_called" = some d__law_called := by kernel_rfl
@[simp] theorem T_d__law_caught : (tb L xs).fn "_law_caught" = some d__law_caught := by kernel_rfl
@[simp] theorem T_d__law_cell : (tb L xs).fn "_law_cell" = some d__law_cell := by kernel_rfl
@[simp] theorem T_d__law_choice : (tb L xs).fn "_law_choice" = some d__law_choice := by kernel_rfl
@[simp] theorem T_d__law_deeds_of : (tb L xs).fn "_law_deeds_of" = some d__law_deeds_of := by kernel_rfl
@[simp] theorem T_d__law_edge : (tb L xs).fn "_law_edge" = some d__law_edge := by kernel_rfl
@[simp] theorem T_d__law_emptied : (tb L xs).fn "_law_emptied" = some d__law_emptied := by kernel_rfl
@[simp] theorem T_d__law_few_agains : (tb L xs).fn "_law_few_agains" = some d__law_few_agains := by kernel_rfl
@[simp] theorem T_d__law_free : (tb L xs).fn "_law_free" = some d__law_free := by kernel_rfl
@[simp] theorem T_d__law_go : (tb L xs).fn "_law_go" = some d__law_go := by kernel_rfl
@[simp] theorem T_d__law_handed : (tb L xs).fn "_law_handed" = some d__law_handed := by kernel_rfl
@[simp] theorem T_d__law_keep : (tb L xs).fn "_law_keep" = some d__law_keep := by kernel_rfl
@[simp] theorem T_d__law_kinds : (tb L xs).fn "_law_kinds" = some d__law_kinds := by kernel_rfl
@[simp] theorem T_d__law_kinds_of : (tb L xs).fn "_law_kinds_of" = some d__law_kinds_of := by kernel_rfl
@[simp] theorem T_d__law_layer : (tb L xs).fn "_law_layer" = some d__law_layer := by kernel_rfl
@[simp] theorem T_d__law_layers : (tb L xs).fn "_law_layers" = some d__law_layers := by kernel_rfl
@[simp] theorem T_d__law_mix : (tb L xs).fn "_law_mix" = some d__law_mix := by kernel_rfl
@[simp] theorem T_d__law_of_layers : (tb L xs).fn "_law_of_layers" = some d__law_of_layers := by kernel_rfl
@[simp] theorem T_d__law_once : (tb L xs).fn "_law_once" = some d__law_once := by kernel_rfl
@[simp] theorem T_d__law_other_layers : (tb L xs).fn "_law_other_layers" = some d__law_other_layers := by kernel_rfl
@[simp] theorem T_d__law_pick : (tb L xs).fn "_law_pick" = some d__law_pick := by kernel_rfl
@[simp] theorem T_d__law_refuses : (tb L xs).fn "_law_refuses" = some d__law_refuses := by kernel_rfl
@[simp] theorem T_d__law_rows : (tb L xs).fn "_law_rows" = some d__law_rows := by kernel_rfl
@[simp] theorem T_d__law_seed : (tb L xs).fn "_law_seed" = some d__law_seed := by kernel_rfl
@[simp] theorem T_d__law_small_kinds : (tb L xs).fn "_law_small_kinds" = some d__law_small_kinds := by kernel_rfl
@[simp] theorem T_d__law_traced : (tb L xs).fn "_law_traced" = some d__law_traced := by kernel_rfl
@[simp] theorem T_d__law_twin : (tb L xs).fn "_law_twin" = some d__law_twin := by kernel_rfl
@[simp] theorem T_d__law_values : (tb L xs).fn "_law_values" = some d__law_values := by kernel_rfl
@[simp] theorem T_d__law_whole : (tb L xs).fn "_law_whole" = some d__law_whole := by kernel_rfl
@[simp] theorem T_d_all_layers : (tb L xs).fn "all_layers" = some d_all_layers := by kernel_rfl
@[simp] theorem T_d_both : (tb L xs).fn "both" = some d_both := by kernel_rfl
@[simp] theorem T_d_can_fail : (tb L xs).fn "can_fail" = some d_can_fail := by kernel_rfl
@[simp] theorem T_d_checked : (tb L xs).fn "checked" = some d_checked := by kernel_rfl
@[simp] theorem T_d_costs : (tb L xs).fn "costs" = some d_costs := by kernel_rfl
@[simp] theorem T_d_fails : (tb L xs).fn "fails" = some d_fails := by kernel_rfl
@[simp] theorem T_d_first_apart : (tb L xs).fn "first_apart" = some d_first_apart := by kernel_rfl
@[simp] theorem T_d_first_bad : (tb L xs).fn "first_bad" = some d_first_bad := by kernel_rfl
@[simp] theorem T_d_fitting : (tb L xs).fn "fitting" = some d_fitting := by kernel_rfl
@[simp] theorem T_d_is_answer : (tb L xs).fn "is_answer" = some d_is_answer := by kernel_rfl
@[simp] theorem T_d_is_free : (tb L xs).fn "is_free" = some d_is_free := by kernel_rfl
@[simp] theorem T_d_is_layer : (tb L xs).fn "is_layer" = some d_is_layer := by kernel_rfl
@[simp] theorem T_d_is_nothing : (tb L xs).fn "is_nothing" = some d_is_nothing := by kernel_rfl
@[simp] theorem T_d_is_value : (tb L xs).fn "is_value" = some d_is_value := by kernel_rfl
@[simp] theorem T_d_is_within : (tb L xs).fn "is_within" = some d_is_within := by kernel_rfl
@[simp] theorem T_d_is_word : (tb L xs).fn "is_word" = some d_is_word := by kernel_rfl
@[simp] theorem T_d_least_fitting : (tb L xs).fn "least_fitting" = some d_least_fitting := by kernel_rfl
@[simp] theorem T_d_least_order : (tb L xs).fn "least_order" = some d_least_order := by kernel_rfl
@[simp] theorem T_d_look_choice : (tb L xs).fn "look_choice" = some d_look_choice := by kernel_rfl
@[simp] theorem T_d_look_value : (tb L xs).fn "look_value" = some d_look_value := by kernel_rfl
@[simp] theorem T_d_may_swap : (tb L xs).fn "may_swap" = some d_may_swap := by kernel_rfl
@[simp] theorem T_d_most_asks : (tb L xs).fn "most_asks" = some d_most_asks := by kernel_rfl
@[simp] theorem T_d_once : (tb L xs).fn "once" = some d_once := by kernel_rfl
@[simp] theorem T_d_part_of : (tb L xs).fn "part_of" = some d_part_of := by kernel_rfl
@[simp] theorem T_d_parted_by : (tb L xs).fn "parted_by" = some d_parted_by := by kernel_rfl
@[simp] theorem T_d_parting : (tb L xs).fn "parting" = some d_parting := by kernel_rfl
@[simp] theorem T_d_paths : (tb L xs).fn "paths" = some d_paths := by kernel_rfl
@[simp] theorem T_d_read : (tb L xs).fn "read" = some d_read := by kernel_rfl
@[simp] theorem T_d_rows_of : (tb L xs).fn "rows_of" = some d_rows_of := by kernel_rfl
@[simp] theorem T_d_run : (tb L xs).fn "run" = some d_run := by kernel_rfl
@[simp] theorem T_d_same_order : (tb L xs).fn "same_order" = some d_same_order := by kernel_rfl
@[simp] theorem T_d_shown : (tb L xs).fn "shown" = some d_shown := by kernel_rfl
@[simp] theorem T_d_simpler : (tb L xs).fn "simpler" = some d_simpler := by kernel_rfl
@[simp] theorem T_d_swap_places : (tb L xs).fn "swap_places" = some d_swap_places := by kernel_rfl
@[simp] theorem T_d_traced : (tb L xs).fn "traced" = some d_traced := by kernel_rfl
@[simp] theorem T_law : (tb L xs).fn "law" = some L := by kernel_rfl
@[simp] theorem M_Core___init__ : (tb L xs).mr "Core" "__init__" = some "Core.__init__" := by kernel_rfl
@[simp] theorem M_Core_ask : (tb L xs).mr "Core" "ask" = some "Core.ask" := by kernel_rfl
@[simp] theorem M_Core_asked : (tb L xs).mr "Core" "asked" = some "Core.asked" := by kernel_rfl
@[simp] theorem M_Way___init__ : (tb L xs).mr "Way" "__init__" = some "Way.__init__" := by kernel_rfl
@[simp] theorem M_Way_ask : (tb L xs).mr "Way" "ask" = some "Way.ask" := by kernel_rfl
@[simp] theorem M_Way_asked : (tb L xs).mr "Way" "asked" = some "Way.asked" := by kernel_rfl
@[simp] theorem M_Way_changed : (tb L xs).mr "Way" "changed" = some "Way.changed" := by kernel_rfl
@[simp] theorem M_Way_few : (tb L xs).mr "Way" "few" = some "Way.few" := by kernel_rfl
@[simp] theorem M_Way_forget : (tb L xs).mr "Way" "forget" = some "Way.forget" := by kernel_rfl
@[simp] theorem M_Way_go : (tb L xs).mr "Way" "go" = some "Way.go" := by kernel_rfl
@[simp] theorem M_Way_keep : (tb L xs).mr "Way" "keep" = some "Way.keep" := by kernel_rfl
@[simp] theorem M_Way_note : (tb L xs).mr "Way" "note" = some "Way.note" := by kernel_rfl
@[simp] theorem M_Way_notes : (tb L xs).mr "Way" "notes" = some "Way.notes" := by kernel_rfl
@[simp] theorem M_TracedWay___init__ : (tb L xs).mr "TracedWay" "__init__" = some "TracedWay.__init__" := by kernel_rfl
@[simp] theorem M_TracedWay_go : (tb L xs).mr "TracedWay" "go" = some "TracedWay.go" := by kernel_rfl
@[simp] theorem M_TracedWay_ask : (tb L xs).mr "TracedWay" "ask" = some "Way.ask" := by kernel_rfl
@[simp] theorem M_TracedWay_asked : (tb L xs).mr "TracedWay" "asked" = some "Way.asked" := by kernel_rfl
@[simp] theorem M_TracedWay_changed : (tb L xs).mr "TracedWay" "changed" = some "Way.changed" := by kernel_rfl
@[simp] theorem M_TracedWay_few : (tb L xs).mr "TracedWay" "few" = some "Way.few" := by kernel_rfl
@[simp] theorem M_TracedWay_forget : (tb L xs).mr "TracedWay" "forget" = some "Way.forget" := by kernel_rfl
@[simp] theorem M_TracedWay_keep : (tb L xs).mr "TracedWay" "keep" = some "Way.keep" := by kernel_rfl
@[simp] theorem M_TracedWay_note : (tb L xs).mr "TracedWay" "note" = some "Way.note" := by kernel_rfl
@[simp] theorem M_TracedWay_notes : (tb L xs).mr "TracedWay" "notes" = some "Way.notes" := by kernel_rfl
@[simp] theorem M_Bench___init__ : (tb L xs).mr "Bench" "__init__" = some "Bench.__init__" := by kernel_rfl
@[simp] theorem M_Bench_ask : (tb L xs).mr "Bench" "ask" = some "Bench.ask" := by kernel_rfl
@[simp] theorem M_Bench_asked : (tb L xs).mr "Bench" "asked" = some "Bench.asked" := by kernel_rfl
@[simp] theorem M_Bench_back : (tb L xs).mr "Bench" "back" = some "Bench.back" := by kernel_rfl
@[simp] theorem M_Bench_forget : (tb L xs).mr "Bench" "forget" = some "Bench.forget" := by kernel_rfl
@[simp] theorem M_Bench_notes : (tb L xs).mr "Bench" "notes" = some "Bench.notes" := by kernel_rfl
@[simp] theorem M_Bench_played : (tb L xs).mr "Bench" "played" = some "Bench.played" := by kernel_rfl
@[simp] theorem M_Bench_told : (tb L xs).mr "Bench" "told" = some "Bench.told" := by kernel_rfl
@[simp] theorem M_Bench_twin : (tb L xs).mr "Bench" "twin" = some "Bench.twin" := by kernel_rfl
@[simp] theorem G_ROUND : (tb L xs).gl "ROUND" = some (.int 10000) := by kernel_rfl
@[simp] theorem G_MOST_LAYERS : (tb L xs).gl "MOST_LAYERS" = some (.int 8) := by kernel_rfl
@[simp] theorem G_MOST_AGAIN : (tb L xs).gl "MOST_AGAIN" = some (.int 99) := by kernel_rfl
@[simp] theorem G_SMALL : (tb L xs).gl "SMALL" = some (.str "abcdefghijklmnopqrstuvwxyz") := by kernel_rfl
@[simp] theorem G_MOST_FAILS : (tb L xs).gl "MOST_FAILS" = some (.int 200) := by kernel_rfl
@[simp] theorem G_MOST_VALUES : (tb L xs).gl "MOST_VALUES" = some (.int 60) := by kernel_rfl
@[simp] theorem G_FIGURES : (tb L xs).gl "FIGURES" = some (.str "0123456789") := by kernel_rfl
@[simp] theorem G_MOST_CHOICE : (tb L xs).gl "MOST_CHOICE" = some (.int 6) := by kernel_rfl
@[simp] theorem S_LayerError_LayerError : (tb L xs).sub "LayerError" "LayerError" = true := by kernel_rfl
@[simp] theorem S_LayerError_BadLayers : (tb L xs).sub "LayerError" "BadLayers" = false := by kernel_rfl
@[simp] theorem S_LayerError_BadValue : (tb L xs).sub "LayerError" "BadValue" = false := by kernel_rfl
@[simp] theorem S_LayerError_BadCore : (tb L xs).sub "LayerError" "BadCore" = false := by kernel_rfl
@[simp] theorem S_LayerError_Core : (tb L xs).sub "LayerError" "Core" = false := by kernel_rfl
@[simp] theorem S_LayerError_Way : (tb L xs).sub "LayerError" "Way" = false := by kernel_rfl
@[simp] theorem S_LayerError_BadText : (tb L xs).sub "LayerError" "BadText" = false := by kernel_rfl
@[simp] theorem S_LayerError_TracedWay : (tb L xs).sub "LayerError" "TracedWay" = false := by kernel_rfl
@[simp] theorem S_LayerError_BadCount : (tb L xs).sub "LayerError" "BadCount" = false := by kernel_rfl
@[simp] theorem S_LayerError_Nothing : (tb L xs).sub "LayerError" "Nothing" = false := by kernel_rfl
@[simp] theorem S_LayerError_Bench : (tb L xs).sub "LayerError" "Bench" = false := by kernel_rfl
@[simp] theorem S_LayerError_int : (tb L xs).sub "LayerError" "int" = false := by kernel_rfl
@[simp] theorem S_LayerError_bool : (tb L xs).sub "LayerError" "bool" = false := by kernel_rfl
@[simp] theorem S_LayerError_str : (tb L xs).sub "LayerError" "str" = false := by kernel_rfl
@[simp] theorem S_LayerError_tuple : (tb L xs).sub "LayerError" "tuple" = false := by kernel_rfl
@[simp] theorem S_LayerError_list : (tb L xs).sub "LayerError" "list" = false := by kernel_rfl
@[simp] theorem S_LayerError_dict : (tb L xs).sub "LayerError" "dict" = false := by kernel_rfl
@[simp] theorem S_BadLayers_LayerError : (tb L xs).sub "BadLayers" "LayerError" = true := by kernel_rfl
@[simp] theorem S_BadLayers_BadLayers : (tb L xs).sub "BadLayers" "BadLayers" = true := by kernel_rfl
@[simp] theorem S_BadLayers_BadValue : (tb L xs).sub "BadLayers" "BadValue" = false := by kernel_rfl
@[simp] theorem S_BadLayers_BadCore : (tb L xs).sub "BadLayers" "BadCore" = false := by kernel_rfl
@[simp] theorem S_BadLayers_Core : (tb L xs).sub "BadLayers" "Core" = false := by kernel_rfl
@[simp] theorem S_BadLayers_Way : (tb L xs).sub "BadLayers" "Way" = false := by kernel_rfl
@[simp] theorem S_BadLayers_BadText : (tb L xs).sub "BadLayers" "BadText" = false := by kernel_rfl
@[simp] theorem S_BadLayers_TracedWay : (tb L xs).sub "BadLayers" "TracedWay" = false := by kernel_rfl
@[simp] theorem S_BadLayers_BadCount : (tb L xs).sub "BadLayers" "BadCount" = false := by kernel_rfl
@[simp] theorem S_BadLayers_Nothing : (tb L xs).sub "BadLayers" "Nothing" = false := by kernel_rfl
@[simp] theorem S_BadLayers_Bench : (tb L xs).sub "BadLayers" "Bench" = false := by kernel_rfl
@[simp] theorem S_BadLayers_int : (tb L xs).sub "BadLayers" "int" = false := by kernel_rfl
@[simp] theorem S_BadLayers_bool : (tb L xs).sub "BadLayers" "bool" = false := by kernel_rfl
@[simp] theorem S_BadLayers_str : (tb L xs).sub "BadLayers" "str" = false := by kernel_rfl
@[simp] theorem S_BadLayers_tuple : (tb L xs).sub "BadLayers" "tuple" = false := by kernel_rfl
@[simp] theorem S_BadLayers_list : (tb L xs).sub "BadLayers" "list" = false := by kernel_rfl
@[simp] theorem S_BadLayers_dict : (tb L xs).sub "BadLayers" "dict" = false := by kernel_rfl
@[simp] theorem S_BadValue_LayerError : (tb L xs).sub "BadValue" "LayerError" = true := by kernel_rfl
@[simp] theorem S_BadValue_BadLayers : (tb L xs).sub "BadValue" "BadLayers" = false := by kernel_rfl
@[simp] theorem S_BadValue_BadValue : (tb L xs).sub "BadValue" "BadValue" = true := by kernel_rfl
@[simp] theorem S_BadValue_BadCore : (tb L xs).sub "BadValue" "BadCore" = false := by kernel_rfl
@[simp] theorem S_BadValue_Core : (tb L xs).sub "BadValue" "Core" = false := by kernel_rfl
@[simp] theorem S_BadValue_Way : (tb L xs).sub "BadValue" "Way" = false := by kernel_rfl
@[simp] theorem S_BadValue_BadText : (tb L xs).sub "BadValue" "BadText" = false := by kernel_rfl
@[simp] theorem S_BadValue_TracedWay : (tb L xs).sub "BadValue" "TracedWay" = false := by kernel_rfl
@[simp] theorem S_BadValue_BadCount : (tb L xs).sub "BadValue" "BadCount" = false := by kernel_rfl
@[simp] theorem S_BadValue_Nothing : (tb L xs).sub "BadValue" "Nothing" = false := by kernel_rfl
@[simp] theorem S_BadValue_Bench : (tb L xs).sub "BadValue" "Bench" = false := by kernel_rfl
@[simp] theorem S_BadValue_int : (tb L xs).sub "BadValue" "int" = false := by kernel_rfl
@[simp] theorem S_BadValue_bool : (tb L xs).sub "BadValue" "bool" = false := by kernel_rfl
@[simp] theorem S_BadValue_str : (tb L xs).sub "BadValue" "str" = false := by kernel_rfl
@[simp] theorem S_BadValue_tuple : (tb L xs).sub "BadValue" "tuple" = false := by kernel_rfl
@[simp] theorem S_BadValue_list : (tb L xs).sub "BadValue" "list" = false := by kernel_rfl
@[simp] theorem S_BadValue_dict : (tb L xs).sub "BadValue" "dict" = false := by kernel_rfl
@[simp] theorem S_BadCore_LayerError : (tb L xs).sub "BadCore" "LayerError" = true := by kernel_rfl
@[simp] theorem S_BadCore_BadLayers : (tb L xs).sub "BadCore" "BadLayers" = false := by kernel_rfl
@[simp] theorem S_BadCore_BadValue : (tb L xs).sub "BadCore" "BadValue" = false := by kernel_rfl
@[simp] theorem S_BadCore_BadCore : (tb L xs).sub "BadCore" "BadCore" = true := by kernel_rfl
@[simp] theorem S_BadCore_Core : (tb L xs).sub "BadCore" "Core" = false := by kernel_rfl
@[simp] theorem S_BadCore_Way : (tb L xs).sub "BadCore" "Way" = false := by kernel_rfl
@[simp] theorem S_BadCore_BadText : (tb L xs).sub "BadCore" "BadText" = false := by kernel_rfl
@[simp] theorem S_BadCore_TracedWay : (tb L xs).sub "BadCore" "TracedWay" = false := by kernel_rfl
@[simp] theorem S_BadCore_BadCount : (tb L xs).sub "BadCore" "BadCount" = false := by kernel_rfl
@[simp] theorem S_BadCore_Nothing : (tb L xs).sub "BadCore" "Nothing" = false := by kernel_rfl
@[simp] theorem S_BadCore_Bench : (tb L xs).sub "BadCore" "Bench" = false := by kernel_rfl
@[simp] theorem S_BadCore_int : (tb L xs).sub "BadCore" "int" = false := by kernel_rfl
@[simp] theorem S_BadCore_bool : (tb L xs).sub "BadCore" "bool" = false := by kernel_rfl
@[simp] theorem S_BadCore_str : (tb L xs).sub "BadCore" "str" = false := by kernel_rfl
@[simp] theorem S_BadCore_tuple : (tb L xs).sub "BadCore" "tuple" = false := by kernel_rfl
@[simp] theorem S_BadCore_list : (tb L xs).sub "BadCore" "list" = false := by kernel_rfl
@[simp] theorem S_BadCore_dict : (tb L xs).sub "BadCore" "dict" = false := by kernel_rfl
@[simp] theorem S_Core_LayerError : (tb L xs).sub "Core" "LayerError" = false := by kernel_rfl
@[simp] theorem S_Core_BadLayers : (tb L xs).sub "Core" "BadLayers" = false := by kernel_rfl
@[simp] theorem S_Core_BadValue : (tb L xs).sub "Core" "BadValue" = false := by kernel_rfl
@[simp] theorem S_Core_BadCore : (tb L xs).sub "Core" "BadCore" = false := by kernel_rfl
@[simp] theorem S_Core_Core : (tb L xs).sub "Core" "Core" = true := by kernel_rfl
@[simp] theorem S_Core_Way : (tb L xs).sub "Core" "Way" = false := by kernel_rfl
@[simp] theorem S_Core_BadText : (tb L xs).sub "Core" "BadText" = false := by kernel_rfl
@[simp] theorem S_Core_TracedWay : (tb L xs).sub "Core" "TracedWay" = false := by kernel_rfl
@[simp] theorem S_Core_BadCount : (tb L xs).sub "Core" "BadCount" = false := by kernel_rfl
@[simp] theorem S_Core_Nothing : (tb L xs).sub "Core" "Nothing" = false := by kernel_rfl
@[simp] theorem S_Core_Bench : (tb L xs).sub "Core" "Bench" = false := by kernel_rfl
@[simp] theorem S_Core_int : (tb L xs).sub "Core" "int" = false := by kernel_rfl
@[simp] theorem S_Core_bool : (tb L xs).sub "Core" "bool" = false := by kernel_rfl
@[simp] theorem S_Core_str : (tb L xs).sub "Core" "str" = false := by kernel_rfl
@[simp] theorem S_Core_tuple : (tb L xs).sub "Core" "tuple" = false := by kernel_rfl
@[simp] theorem S_Core_list : (tb L xs).sub "Core" "list" = false := by kernel_rfl
@[simp] theorem S_Core_dict : (tb L xs).sub "Core" "dict" = false := by kernel_rfl
@[simp] theorem S_Way_LayerError : (tb L xs).sub "Way" "LayerError" = false := by kernel_rfl
@[simp] theorem S_Way_BadLayers : (tb L xs).sub "Way" "BadLayers" = false := by kernel_rfl
@[simp] theorem S_Way_BadValue : (tb L xs).sub "Way" "BadValue" = false := by kernel_rfl
@[simp] theorem S_Way_BadCore : (tb L xs).sub "Way" "BadCore" = false := by kernel_rfl
@[simp] theorem S_Way_Core : (tb L xs).sub "Way" "Core" = false := by kernel_rfl
@[simp] theorem S_Way_Way : (tb L xs).sub "Way" "Way" = true := by kernel_rfl
@[simp] theorem S_Way_BadText : (tb L xs).sub "Way" "BadText" = false := by kernel_rfl
@[simp] theorem S_Way_TracedWay : (tb L xs).sub "Way" "TracedWay" = false := by kernel_rfl
@[simp] theorem S_Way_BadCount : (tb L xs).sub "Way" "BadCount" = false := by kernel_rfl
@[simp] theorem S_Way_Nothing : (tb L xs).sub "Way" "Nothing" = false := by kernel_rfl
@[simp] theorem S_Way_Bench : (tb L xs).sub "Way" "Bench" = false := by kernel_rfl
@[simp] theorem S_Way_int : (tb L xs).sub "Way" "int" = false := by kernel_rfl
@[simp] theorem S_Way_bool : (tb L xs).sub "Way" "bool" = false := by kernel_rfl
@[simp] theorem S_Way_str : (tb L xs).sub "Way" "str" = false := by kernel_rfl
@[simp] theorem S_Way_tuple : (tb L xs).sub "Way" "tuple" = false := by kernel_rfl
@[simp] theorem S_Way_list : (tb L xs).sub "Way" "list" = false := by kernel_rfl
@[simp] theorem S_Way_dict : (tb L xs).sub "Way" "dict" = false := by kernel_rfl
@[simp] theorem S_BadText_LayerError : (tb L xs).sub "BadText" "LayerError" = true := by kernel_rfl
@[simp] theorem S_BadText_BadLayers : (tb L xs).sub "BadText" "BadLayers" = false := by kernel_rfl
@[simp] theorem S_BadText_BadValue : (tb L xs).sub "BadText" "BadValue" = false := by kernel_rfl
@[simp] theorem S_BadText_BadCore : (tb L xs).sub "BadText" "BadCore" = false := by kernel_rfl
@[simp] theorem S_BadText_Core : (tb L xs).sub "BadText" "Core" = false := by kernel_rfl
@[simp] theorem S_BadText_Way : (tb L xs).sub "BadText" "Way" = false := by kernel_rfl
@[simp] theorem S_BadText_BadText : (tb L xs).sub "BadText" "BadText" = true := by kernel_rfl
@[simp] theorem S_BadText_TracedWay : (tb L xs).sub "BadText" "TracedWay" = false := by kernel_rfl
@[simp] theorem S_BadText_BadCount : (tb L xs).sub "BadText" "BadCount" = false := by kernel_rfl
@[simp] theorem S_BadText_Nothing : (tb L xs).sub "BadText" "Nothing" = false := by kernel_rfl
@[simp] theorem S_BadText_Bench : (tb L xs).sub "BadText" "Bench" = false := by kernel_rfl
@[simp] theorem S_BadText_int : (tb L xs).sub "BadText" "int" = false := by kernel_rfl
@[simp] theorem S_BadText_bool : (tb L xs).sub "BadText" "bool" = false := by kernel_rfl
@[simp] theorem S_BadText_str : (tb L xs).sub "BadText" "str" = false := by kernel_rfl
@[simp] theorem S_BadText_tuple : (tb L xs).sub "BadText" "tuple" = false := by kernel_rfl
@[simp] theorem S_BadText_list : (tb L xs).sub "BadText" "list" = false := by kernel_rfl
@[simp] theorem S_BadText_dict : (tb L xs).sub "BadText" "dict" = false := by kernel_rfl
@[simp] theorem S_TracedWay_LayerError : (tb L xs).sub "TracedWay" "LayerError" = false := by kernel_rfl
@[simp] theorem S_TracedWay_BadLayers : (tb L xs).sub "TracedWay" "BadLayers" = false := by kernel_rfl
@[simp] theorem S_TracedWay_BadValue : (tb L xs).sub "TracedWay" "BadValue" = false := by kernel_rfl
@[simp] theorem S_TracedWay_BadCore : (tb L xs).sub "TracedWay" "BadCore" = false := by kernel_rfl
@[simp] theorem S_TracedWay_Core : (tb L xs).sub "TracedWay" "Core" = false := by kernel_rfl
@[simp] theorem S_TracedWay_Way : (tb L xs).sub "TracedWay" "Way" = true := by kernel_rfl
@[simp] theorem S_TracedWay_BadText : (tb L xs).sub "TracedWay" "BadText" = false := by kernel_rfl
@[simp] theorem S_TracedWay_TracedWay : (tb L xs).sub "TracedWay" "TracedWay" = true := by kernel_rfl
@[simp] theorem S_TracedWay_BadCount : (tb L xs).sub "TracedWay" "BadCount" = false := by kernel_rfl
@[simp] theorem S_TracedWay_Nothing : (tb L xs).sub "TracedWay" "Nothing" = false := by kernel_rfl
@[simp] theorem S_TracedWay_Bench : (tb L xs).sub "TracedWay" "Bench" = false := by kernel_rfl
@[simp] theorem S_TracedWay_int : (tb L xs).sub "TracedWay" "int" = false := by kernel_rfl
@[simp] theorem S_TracedWay_bool : (tb L xs).sub "TracedWay" "bool" = false := by kernel_rfl
@[simp] theorem S_TracedWay_str : (tb L xs).sub "TracedWay" "str" = false := by kernel_rfl
@[simp] theorem S_TracedWay_tuple : (tb L xs).sub "TracedWay" "tuple" = false := by kernel_rfl
@[simp] theorem S_TracedWay_list : (tb L xs).sub "TracedWay" "list" = false := by kernel_rfl
@[simp] theorem S_TracedWay_dict : (tb L xs).sub "TracedWay" "dict" = false := by kernel_rfl
@[simp] theorem S_BadCount_LayerError : (tb L xs).sub "BadCount" "LayerError" = true := by kernel_rfl
@[simp] theorem S_BadCount_BadLayers : (tb L xs).sub "BadCount" "BadLayers" = false := by kernel_rfl
@[simp] theorem S_BadCount_BadValue : (tb L xs).sub "BadCount" "BadValue" = false := by kernel_rfl
@[simp] theorem S_BadCount_BadCore : (tb L xs).sub "BadCount" "BadCore" = false := by kernel_rfl
@[simp] theorem S_BadCount_Core : (tb L xs).sub "BadCount" "Core" = false := by kernel_rfl
@[simp] theorem S_BadCount_Way : (tb L xs).sub "BadCount" "Way" = false := by kernel_rfl
@[simp] theorem S_BadCount_BadText : (tb L xs).sub "BadCount" "BadText" = false := by kernel_rfl
@[simp] theorem S_BadCount_TracedWay : (tb L xs).sub "BadCount" "TracedWay" = false := by kernel_rfl
@[simp] theorem S_BadCount_BadCount : (tb L xs).sub "BadCount" "BadCount" = true := by kernel_rfl
@[simp] theorem S_BadCount_Nothing : (tb L xs).sub "BadCount" "Nothing" = false := by kernel_rfl
@[simp] theorem S_BadCount_Bench : (tb L xs).sub "BadCount" "Bench" = false := by kernel_rfl
@[simp] theorem S_BadCount_int : (tb L xs).sub "BadCount" "int" = false := by kernel_rfl
@[simp] theorem S_BadCount_bool : (tb L xs).sub "BadCount" "bool" = false := by kernel_rfl
@[simp] theorem S_BadCount_str : (tb L xs).sub "BadCount" "str" = false := by kernel_rfl
@[simp] theorem S_BadCount_tuple : (tb L xs).sub "BadCount" "tuple" = false := by kernel_rfl
@[simp] theorem S_BadCount_list : (tb L xs).sub "BadCount" "list" = false := by kernel_rfl
@[simp] theorem S_BadCount_dict : (tb L xs).sub "BadCount" "dict" = false := by kernel_rfl
@[simp] theorem S_Nothing_LayerError : (tb L xs).sub "Nothing" "LayerError" = true := by kernel_rfl
@[simp] theorem S_Nothing_BadLayers : (tb L xs).sub "Nothing" "BadLayers" = false := by kernel_rfl
@[simp] theorem S_Nothing_BadValue : (tb L xs).sub "Nothing" "BadValue" = false := by kernel_rfl
@[simp] theorem S_Nothing_BadCore : (tb L xs).sub "Nothing" "BadCore" = false := by kernel_rfl
@[simp] theorem S_Nothing_Core : (tb L xs).sub "Nothing" "Core" = false := by kernel_rfl
@[simp] theorem S_Nothing_Way : (tb L xs).sub "Nothing" "Way" = false := by kernel_rfl
@[simp] theorem S_Nothing_BadText : (tb L xs).sub "Nothing" "BadText" = false := by kernel_rfl
@[simp] theorem S_Nothing_TracedWay : (tb L xs).sub "Nothing" "TracedWay" = false := by kernel_rfl
@[simp] theorem S_Nothing_BadCount : (tb L xs).sub "Nothing" "BadCount" = false := by kernel_rfl
@[simp] theorem S_Nothing_Nothing : (tb L xs).sub "Nothing" "Nothing" = true := by kernel_rfl
@[simp] theorem S_Nothing_Bench : (tb L xs).sub "Nothing" "Bench" = false := by kernel_rfl
@[simp] theorem S_Nothing_int : (tb L xs).sub "Nothing" "int" = false := by kernel_rfl
@[simp] theorem S_Nothing_bool : (tb L xs).sub "Nothing" "bool" = false := by kernel_rfl
@[simp] theorem S_Nothing_str : (tb L xs).sub "Nothing" "str" = false := by kernel_rfl
@[simp] theorem S_Nothing_tuple : (tb L xs).sub "Nothing" "tuple" = false := by kernel_rfl
@[simp] theorem S_Nothing_list : (tb L xs).sub "Nothing" "list" = false := by kernel_rfl
@[simp] theorem S_Nothing_dict : (tb L xs).sub "Nothing" "dict" = false := by kernel_rfl
@[simp] theorem S_Bench_LayerError : (tb L xs).sub "Bench" "LayerError" = false := by kernel_rfl
@[simp] theorem S_Bench_BadLayers : (tb L xs).sub "Bench" "BadLayers" = false := by kernel_rfl
@[simp] theorem S_Bench_BadValue : (tb L xs).sub "Bench" "BadValue" = false := by kernel_rfl
@[simp] theorem S_Bench_BadCore : (tb L xs).sub "Bench" "BadCore" = false := by kernel_rfl
@[simp] theorem S_Bench_Core : (tb L xs).sub "Bench" "Core" = false := by kernel_rfl
@[simp] theorem S_Bench_Way : (tb L xs).sub "Bench" "Way" = false := by kernel_rfl
@[simp] theorem S_Bench_BadText : (tb L xs).sub "Bench" "BadText" = false := by kernel_rfl
@[simp] theorem S_Bench_TracedWay : (tb L xs).sub "Bench" "TracedWay" = false := by kernel_rfl
@[simp] theorem S_Bench_BadCount : (tb L xs).sub "Bench" "BadCount" = false := by kernel_rfl
@[simp] theorem S_Bench_Nothing : (tb L xs).sub "Bench" "Nothing" = false := by kernel_rfl
@[simp] theorem S_Bench_Bench : (tb L xs).sub "Bench" "Bench" = true := by kernel_rfl
@[simp] theorem S_Bench_int : (tb L xs).sub "Bench" "int" = false := by kernel_rfl
@[simp] theorem S_Bench_bool : (tb L xs).sub "Bench" "bool" = false := by kernel_rfl
@[simp] theorem S_Bench_str : (tb L xs).sub "Bench" "str" = false := by kernel_rfl
@[simp] theorem S_Bench_tuple : (tb L xs).sub "Bench" "tuple" = false := by kernel_rfl
@[simp] theorem S_Bench_list : (tb L xs).sub "Bench" "list" = false := by kernel_rfl
@[simp] theorem S_Bench_dict : (tb L xs).sub "Bench" "dict" = false := by kernel_rfl
@[simp] theorem T_exc {c : String} : (tb L xs).exc c = xs.contains c := rfl
end
end LW
/-! LwQ: running the small Python by simp; the first specs. -/
namespace LW
/-- what a call makes of its body's result -/
def fnEnd (D : Def) (h : HP) : R Fl → R PV
  | .ok (.ret v) h' => fin D h v h'
  | .ok (.nx _) h' => fin D h .non h'
  | .ok (.xc c _) h' => .exc c (match D.scratch with
    | false => h'
    | true => trim h h')
  | _ => .bad
theorem fn_run {T : Tb} {d : Nat} {f : String} {D : Def} {vs : List PV} {h : HP} (e : T.fn f = some D) (hl : vs.length = D.params.length) : fn T (d + 1) f vs h = fnEnd D h (exs T (fn T d) D.body (D.start vs) h) := by
  simp only [fn, e, hl, if_true]
  rfl
section
variable {L : Def} {xs : List String} {d : Nat} {h : HP} {v : PV}
theorem sub_ty {C n : String} (hn : n ∈ ["int", "bool", "str", "tuple", "list", "dict"]) : (tb L xs).sub C n = false := by
  simp only [List.mem_cons, List.not_mem_nil, or_false] at hn
  rcases hn with rfl | rfl | rfl | rfl | rfl | rfl <;> simp [tb, subTab]
def isInt : PV → Bool
  | .int _ => true
  | .bl _ => true
  | _ => false
def isBool : PV → Bool
  | .bl _ => true
  | _ => false
def isStr : PV → Bool
  | .str _ => true
  | _ => false
def isTup : PV → Bool
  | .tup _ => true
  | _ => false
def isLst (h : HP) : PV → Bool
  | .lst _ => true
  | .fls _ => true
  | .ref n => match h[n]? with
    | some (.lst _) => true
    | _ => false
  | _ => false
theorem isk_ref {n : Nat} {c : String} (hc : c ∈ ["int", "bool", "str", "tuple", "list", "dict"]) (h1 : c ≠ "list") (h2 : c ≠ "dict") : isk (tb L xs) h (.ref n) c = false := by
  simp only [isk]
  cases e : h[n]? with
  | none => rfl
  | some o =>
    cases o with
    | lst _ => simpa using h1
    | dct _ => simpa using h2
    | ins C fs => exact sub_ty hc
    | dead => rfl
@[simp] theorem isk_int : isk (tb L xs) h v "int" = isInt v := by
  cases v <;> first | rfl | (simp [isk, isInt]; done) | exact isk_ref (by simp) (by simp) (by simp)
@[simp] theorem isk_bool : isk (tb L xs) h v "bool" = isBool v := by
  cases v <;> first | rfl | (simp [isk, isBool]; done) | exact isk_ref (by simp) (by simp) (by simp)
@[simp] theorem isk_str : isk (tb L xs) h v "str" = isStr v := by
  cases v <;> first | rfl | (simp [isk, isStr]; done) | exact isk_ref (by simp) (by simp) (by simp)
@[simp] theorem isk_tuple : isk (tb L xs) h v "tuple" = isTup v := by
  cases v <;> first | rfl | (simp [isk, isTup]; done) | exact isk_ref (by simp) (by simp) (by simp)
@[simp] theorem isk_list : isk (tb L xs) h v "list" = isLst h v := by
  cases v with
  | ref n =>
    simp only [isk, isLst]
    cases e : h[n]? with
    | none => rfl
    | some o =>
      cases o with
      | ins C fs => exact sub_ty (by simp)
      | _ => simp
  | _ => simp [isk, isLst]
/-! values -/
def within (lo hi : Int) : PV → Bool
  | .int i => decide (lo ≤ i) && decide (i ≤ hi)
  | _ => false
theorem sp_is_within {lo hi : Int} (ha : alive h v = true) : fn (tb L xs) (d + 1) "is_within" [v, .int lo, .int hi] h = .ok (.bl (within lo hi v)) h := by
  rw [fn_run T_d_is_within rfl]
  simp only [d_is_within, Def.start, exs, ex, ev, evs, evAnd, evOr, tr, List.map, List.length, List.getElem?_cons_zero, List.getElem?_cons_succ, List.replicate, List.append_nil, List.cons_append, List.nil_append, R.bind_ok, R.st_ok, ha, List.any, isk_int, isk_bool]
  cases v with
  | int i => by_cases h1 : lo ≤ i <;> simp [isInt, isBool, within, cmpv, fnEnd, fin, h1, R.of]
  | _ => simp [isInt, isBool, within, fnEnd, fin]
theorem sp_is_value (ha : alive h v = true) : fn (tb L xs) (d + 2) "is_value" [v] h = .ok (.bl (within 0 9999 v)) h := by
  rw [fn_run T_d_is_value rfl]
  simp [d_is_value, Def.start, exs, ex, ev, evs, tr, opv, R.of, sp_is_within ha, fnEnd, fin]
theorem sp_look_value (ha : alive h v = true) : fn (tb L xs) (d + 3) "look_value" [v] h = if within 0 9999 v then .ok .non h else .exc "BadValue" h := by
  rw [fn_run T_d_look_value rfl]
  cases hw : within 0 9999 v <;> simp [d_look_value, Def.start, exs, ex, ev, evs, tr, truth, sp_is_value ha, fnEnd, fin, hw]
end
end LW
/-! LwR: loops; what the laws draw from their script. -/
namespace LW
/-! ### loops -/
theorem forG_go {it : ItV} {step : PV → Sg → HP → R Fl} {vs : List PV} (inv : Nat → Sg → HP → Prop)
    (hit : ∀ i σ h, inv i σ h → itAt h it i = some vs[i]?)
    (hs : ∀ i x σ h, vs[i]? = some x → inv i σ h → ∃ σ' h', step x σ h = .ok (.nx σ') h' ∧ inv (i + 1) σ' h') :
    ∀ k i σ h, i + k = vs.length → inv i σ h → ∃ σ' h', forG it step (k + 1) i σ h = .ok (.nx σ') h' ∧ inv vs.length σ' h'
  | 0, i, σ, h, e, p => by
    have e1 : vs[i]? = none := List.getElem?_eq_none (by omega)
    refine ⟨σ, h, ?_, by rw [← e]; exact p⟩
    simp only [forG, hit i σ h p, e1]
  | k + 1, i, σ, h, e, p => by
    have hi : i < vs.length := by omega
    have e1 : vs[i]? = some vs[i] := List.getElem?_eq_getElem hi
    obtain ⟨σ1, h1, q1, p1⟩ := hs i vs[i] σ h e1 p
    obtain ⟨σ2, h2, q2, p2⟩ := forG_go inv hit hs k (i + 1) σ1 h1 (by omega) p1
    refine ⟨σ2, h2, ?_, p2⟩
    rw [forG]
    simp only [hit i σ h p, e1, q1, R.bind_ok]
    exact q2
/-- over a range -/
theorem forG_range {lo : Int} {n : Nat} {step : PV → Sg → HP → R Fl} (inv : Nat → Sg → HP → Prop)
    (hs : ∀ i σ h, i < n → inv i σ h → ∃ σ' h', step (.int (lo + (i : Nat))) σ h = .ok (.nx σ') h' ∧ inv (i + 1) σ' h') {σ : Sg} {h : HP} (p : inv 0 σ h) :
    ∃ σ' h', forG (.rng lo n) step (n + 1) 0 σ h = .ok (.nx σ') h' ∧ inv n σ' h' := by
  have hl : ((List.range n).map fun i => PV.int (lo + (i : Nat))).length = n := by simp
  have z := forG_go (it := .rng lo n) (step := step) (vs := (List.range n).map fun i => PV.int (lo + (i : Nat))) inv (fun i σ h _ => ?_) (fun i x σ h e q => ?_) n 0 σ h (by simp) p
  · rw [hl] at z; exact z
  · simp only [itAt, List.getElem?_map]
    by_cases hi : i < n
    · rw [if_pos hi, List.getElem?_range hi]; rfl
    · rw [if_neg hi, List.getElem?_eq_none (by simpa using hi)]; rfl
  · rw [List.getElem?_map] at e
    by_cases hi : i < n
    · rw [List.getElem?_range hi] at e
      cases e
      exact hs i σ h hi q
    · rw [List.getElem?_eq_none (by simpa using hi)] at e; cases e
/-- a value whose items do not depend on the heap -/
def still : PV → Option (List PV)
  | .tup xs => some xs
  | .lst xs => some xs
  | .fls xs => some xs
  | _ => none
theorem still_asS {v : PV} {vs : List PV} (e : still v = some vs) (h : HP) : asS h v = some vs := by
  cases v <;> first | (cases e; rfl) | (cases e)
theorem still_seq {v : PV} {vs : List PV} (e : still v = some vs) (h : HP) (i : Nat) : itAt h (.seq v) i = some vs[i]? := by
  cases v <;> first | (cases e; rfl) | (cases e)
theorem still_enum {v : PV} {vs : List PV} (e : still v = some vs) (h : HP) (i : Nat) : itAt h (.enum v) i = some (vs[i]?.map fun x => .tup [.int (i : Nat), x]) := by
  simp only [itAt, still_asS e, Option.map_some]
theorem still_fuel {v : PV} {vs : List PV} (e : still v = some vs) (h : HP) : itFuel h (.seq v) = vs.length + 1 := by
  cases v <;> first | (cases e; rfl) | (cases e)
theorem still_fuelE {v : PV} {vs : List PV} (e : still v = some vs) (h : HP) : itFuel h (.enum v) = vs.length + 1 := by
  simp only [itFuel, still_asS e, Option.getD_some]
theorem forG_seq {v : PV} {vs : List PV} {step : PV → Sg → HP → R Fl} (e : still v = some vs) (inv : Nat → Sg → HP → Prop)
    (hs : ∀ i x σ h, vs[i]? = some x → inv i σ h → ∃ σ' h', step x σ h = .ok (.nx σ') h' ∧ inv (i + 1) σ' h') {σ : Sg} {h h0 : HP} (p : inv 0 σ h) :
    ∃ σ' h', forG (.seq v) step (itFuel h0 (.seq v)) 0 σ h = .ok (.nx σ') h' ∧ inv vs.length σ' h' := by
  rw [still_fuel e]
  exact forG_go inv (fun i σ h _ => still_seq e h i) hs vs.length 0 σ h (by simp) p
theorem forG_enum {v : PV} {vs : List PV} {step : PV → Sg → HP → R Fl} (e : still v = some vs) (inv : Nat → Sg → HP → Prop)
    (hs : ∀ (i : Nat) x σ h, vs[i]? = some x → inv i σ h → ∃ σ' h', step (.tup [.int i, x]) σ h = .ok (.nx σ') h' ∧ inv (i + 1) σ' h') {σ : Sg} {h h0 : HP} (p : inv 0 σ h) :
    ∃ σ' h', forG (.enum v) step (itFuel h0 (.enum v)) 0 σ h = .ok (.nx σ') h' ∧ inv vs.length σ' h' := by
  rw [still_fuelE e]
  have hl : (vs.zipIdx.map fun p => PV.tup [.int (p.2 : Nat), p.1]).length = vs.length := by simp
  have z := forG_go (it := .enum v) (step := step) (vs := vs.zipIdx.map fun p => PV.tup [.int (p.2 : Nat), p.1]) inv (fun i σ h _ => ?_) (fun i x σ h e q => ?_) vs.length 0 σ h (by simp) p
  · rw [hl] at z; exact z
  · rw [still_enum e, List.getElem?_map, List.getElem?_zipIdx]
    cases vs[i]? <;> simp
  · rw [List.getElem?_map, List.getElem?_zipIdx] at e
    cases ev : vs[i]? with
    | none => rw [ev] at e; cases e
    | some y =>
      rw [ev] at e
      simp only [Option.map_some, Option.some.injEq, Nat.zero_add] at e
      subst e
      exact hs i y σ h ev q
theorem range_run {lo : Int} {n f : Nat} {step : PV → Sg → HP → R Fl} {σ : Sg} {h : HP} {z : R Fl} (hz : forG (.rng lo n) step f 0 σ h = z) (inv : Nat → Sg → HP → Prop) (p : inv 0 σ h)
    (hs : ∀ i σ h, i < n → inv i σ h → ∃ σ' h', step (.int (lo + (i : Nat))) σ h = .ok (.nx σ') h' ∧ inv (i + 1) σ' h') (hf : f = n + 1 := by rfl) : ∃ σ' h', z = .ok (.nx σ') h' ∧ inv n σ' h' := by
  subst hz hf
  exact forG_range inv hs p
theorem range0_run {n f : Nat} {step : PV → Sg → HP → R Fl} {σ : Sg} {h : HP} {z : R Fl} (hz : forG (.rng 0 n) step f 0 σ h = z) (inv : Nat → Sg → HP → Prop) (p : inv 0 σ h)
    (hs : ∀ (i : Nat) σ h, i < n → inv i σ h → ∃ σ' h', step (.int (i : Nat)) σ h = .ok (.nx σ') h' ∧ inv (i + 1) σ' h') (hf : f = n + 1 := by rfl) : ∃ σ' h', z = .ok (.nx σ') h' ∧ inv n σ' h' :=
  range_run hz inv p (fun i σ h hi q => by rw [Int.zero_add]; exact hs i σ h hi q) hf
theorem seq_run {v : PV} {vs : List PV} {f : Nat} {step : PV → Sg → HP → R Fl} {σ : Sg} {h : HP} {z : R Fl} (hz : forG (.seq v) step f 0 σ h = z) (e : still v = some vs) (inv : Nat → Sg → HP → Prop) (p : inv 0 σ h)
    (hs : ∀ i x σ h, vs[i]? = some x → inv i σ h → ∃ σ' h', step x σ h = .ok (.nx σ') h' ∧ inv (i + 1) σ' h') (hf : f = vs.length + 1 := by rfl) : ∃ σ' h', z = .ok (.nx σ') h' ∧ inv vs.length σ' h' := by
  subst hz hf
  have := forG_seq (h0 := h) e inv hs p
  rw [still_fuel e] at this
  exact this
theorem enum_run {v : PV} {vs : List PV} {f : Nat} {step : PV → Sg → HP → R Fl} {σ : Sg} {h : HP} {z : R Fl} (hz : forG (.enum v) step f 0 σ h = z) (e : still v = some vs) (inv : Nat → Sg → HP → Prop) (p : inv 0 σ h)
    (hs : ∀ (i : Nat) x σ h, vs[i]? = some x → inv i σ h → ∃ σ' h', step (.tup [.int i, x]) σ h = .ok (.nx σ') h' ∧ inv (i + 1) σ' h') (hf : f = vs.length + 1 := by rfl) : ∃ σ' h', z = .ok (.nx σ') h' ∧ inv vs.length σ' h' := by
  subst hz hf
  have := forG_enum (h0 := h) e inv hs p
  rw [still_fuelE e] at this
  exact this
/-- a comprehension that only looks: every item gives something or nothing -/
theorem compG_go {it : ItV} {step : PV → HP → R (Option PV)} {vs : List PV} {f : PV → Option PV} {h : HP} (hit : ∀ i, itAt h it i = some vs[i]?) (hs : ∀ x ∈ vs, step x h = .ok (f x) h) (hn : vs.length ≤ lineN) :
    ∀ k i acc, i + k = vs.length → acc.length ≤ i → compG it step (k + 1) i acc h = .ok (acc ++ (vs.drop i).filterMap f) h
  | 0, i, acc, e, hl => by
    have e1 : vs[i]? = none := List.getElem?_eq_none (by omega)
    simp only [compG, hit i, e1]
    rw [List.drop_eq_nil_of_le (by omega)]
    simp
  | k + 1, i, acc, e, hl => by
    have hi : i < vs.length := by omega
    have e1 : vs[i]? = some vs[i] := List.getElem?_eq_getElem hi
    rw [compG]
    simp only [hit i, e1, hs vs[i] (List.getElem_mem hi), R.bind_ok]
    have ed : vs.drop i = vs[i] :: vs.drop (i + 1) := List.drop_eq_getElem_cons hi
    cases ef : f vs[i] with
    | none =>
      simp only
      rw [compG_go hit hs hn k (i + 1) acc (by omega) (by omega), ed, List.filterMap_cons, ef]
    | some y =>
      simp only
      rw [if_pos (by omega), compG_go hit hs hn k (i + 1) (acc ++ [y]) (by omega) (by simp; omega), ed, List.filterMap_cons, ef]
      simp
theorem compG_seq {v : PV} {vs : List PV} {step : PV → HP → R (Option PV)} {f : PV → Option PV} {h : HP} (e : still v = some vs) (hs : ∀ x ∈ vs, step x h = .ok (f x) h) (hn : vs.length ≤ lineN) : compG (.seq v) step (itFuel h (.seq v)) 0 [] h = .ok (vs.filterMap f) h := by
  rw [still_fuel e, compG_go (vs := vs) (f := f) (fun i => still_seq e h i) hs hn vs.length 0 [] (by simp) (Nat.le_refl _)]
  simp
theorem compG_range {lo : Int} {n : Nat} {step : PV → HP → R (Option PV)} {f : PV → Option PV} {h : HP} (hs : ∀ i < n, step (.int (lo + (i : Nat))) h = .ok (f (.int (lo + (i : Nat)))) h) (hn : n ≤ lineN) : compG (.rng lo n) step (n + 1) 0 [] h = .ok (((List.range n).map fun i => PV.int (lo + (i : Nat))).filterMap f) h := by
  have hl : ((List.range n).map fun i => PV.int (lo + (i : Nat))).length = n := by simp
  have z := compG_go (it := .rng lo n) (step := step) (vs := (List.range n).map fun i => PV.int (lo + (i : Nat))) (f := f) (h := h) (fun i => ?_) (fun x hx => ?_) (by rw [hl]; exact hn) n 0 [] (by simp) (Nat.le_refl _)
  · rw [z]; simp
  · simp only [itAt, List.getElem?_map]
    by_cases hi : i < n
    · rw [if_pos hi, List.getElem?_range hi]; rfl
    · rw [if_neg hi, List.getElem?_eq_none (by simpa using hi)]; rfl
  · obtain ⟨i, hi, rfl⟩ := List.mem_map.mp hx
    exact hs i (by simpa using hi)
/-! ### heaps -/
@[simp] theorem get_last {h : HP} {o : MO} : (h ++ [o])[h.length]? = some o := by simp
@[simp] theorem set_last {h : HP} {o o' : MO} : (h ++ [o]).set h.length o' = h ++ [o'] := by simp
@[simp] theorem take_last {h t : HP} : (h ++ t).take h.length = h := by simp
theorem belows_map {α : Type} {n : Nat} {f : α → PV} (hf : ∀ a, below n (f a) = true) : ∀ l : List α, belows n (l.map f) = true
  | [] => rfl
  | a :: l => by simp [belows, hf a, belows_map hf l]
@[simp] theorem belows_int {n : Nat} (l : List Int) : belows n (l.map .int) = true := belows_map (fun _ => rfl) l
@[simp] theorem tr_f {v : PV} {h : HP} : tr false v h = .ok v h := rfl
@[simp] theorem tr_b {b : Bool} {h : HP} : tr true (.bl b) h = .ok (.bl b) h := rfl
@[simp] theorem tr_l {vs : List PV} {h : HP} : tr true (.lst vs) h = .ok (.bl !vs.isEmpty) h := rfl
@[simp] theorem tr_u {vs : List PV} {h : HP} : tr true (.tup vs) h = .ok (.bl !vs.isEmpty) h := rfl
/-! ### operators -/
section
variable {h : HP} {i j : Int}
@[simp] theorem opv_add : opv h .add (.int i) (.int j) = some (.int (i + j)) := rfl
@[simp] theorem opv_sub : opv h .sub (.int i) (.int j) = some (.int (i - j)) := rfl
theorem opv_mul (hb : b64 i = true ∨ b64 j = true) : opv h .mul (.int i) (.int j) = some (.int (i * j)) := by simp [opv, hb]
@[simp] theorem opv_mod (hj : 0 < j) : opv h .mod (.int i) (.int j) = some (.int (i % j)) := by simp [opv, hj]
@[simp] theorem opv_fdiv (hj : 0 < j) (hj2 : j < 1073741824) : opv h .fdiv (.int i) (.int j) = some (.int (i / j)) := by simp [opv, hj, hj2]
theorem opv_pow (h1 : 0 ≤ j) (h2 : j ≤ 1000000) (h3 : i.natAbs < 2 ^ 64) : opv h .pow (.int i) (.int j) = some (.int (i ^ j.toNat)) := by
  have e : opv h .pow (.int i) (.int j) = if decide (0 ≤ j) && decide (j ≤ 1000000) && decide (i.natAbs < 2 ^ 64) then some (.int (i ^ j.toNat)) else none := rfl
  rw [e, if_pos (by simp [h1, h2]; simpa using h3)]
@[simp] theorem opv_tup {a b : List PV} (hl : a.length + b.length ≤ lineN) : opv h .add (.tup a) (.tup b) = some (.tup (a ++ b)) := by simp [opv, hl]
@[simp] theorem bltR_len {v : PV} : bltR h .len [v] = R.of h ((lenh h v).map fun n => .int (n : Nat)) := rfl
@[simp] theorem bltR_tuple {v : PV} : bltR h .tuple [v] = R.of h ((asS h v).map .tup) := rfl
@[simp] theorem bltR_list {v : PV} : bltR h .list [v] = R.of h ((asS h v).map .lst) := rfl
@[simp] theorem bltR_int : bltR h .int [.int i] = .ok (.int i) h := rfl
@[simp] theorem bltR_intb {b : Bool} : bltR h .int [.bl b] = .ok (.int (if b then 1 else 0)) h := rfl
@[simp] theorem bltR_min : bltR h .min [.int i, .int j] = .ok (.int (if j < i then j else i)) h := rfl
@[simp] theorem bltR_max : bltR h .max [.int i, .int j] = .ok (.int (if j > i then j else i)) h := rfl
@[simp] theorem asS_tup {vs : List PV} : asS h (.tup vs) = some vs := rfl
@[simp] theorem asS_lst' {vs : List PV} : asS h (.lst vs) = some vs := rfl
@[simp] theorem asS_fls {vs : List PV} : asS h (.fls vs) = some vs := rfl
@[simp] theorem lenh_tup {vs : List PV} : lenh h (.tup vs) = some vs.length := rfl
@[simp] theorem lenh_lst {vs : List PV} : lenh h (.lst vs) = some vs.length := rfl
@[simp] theorem lenh_fls {vs : List PV} : lenh h (.fls vs) = some vs.length := rfl
@[simp] theorem sub_t0 {a : PV} {r : List PV} : subv h (.tup (a :: r)) (.int 0) = some a := by
  have : (0 : Int) < ((a :: r).length : Nat) := by simp only [List.length_cons]; omega
  simp only [subv, ixP, this]; rfl
@[simp] theorem sub_t1 {a b : PV} {r : List PV} : subv h (.tup (a :: b :: r)) (.int 1) = some b := by
  have : (1 : Int) < ((a :: b :: r).length : Nat) := by simp only [List.length_cons]; omega
  simp only [subv, ixP, this]; rfl
@[simp] theorem sub_t2 {a b c : PV} {r : List PV} : subv h (.tup (a :: b :: c :: r)) (.int 2) = some c := by
  have : (2 : Int) < ((a :: b :: c :: r).length : Nat) := by simp only [List.length_cons]; omega
  simp only [subv, ixP, this]; rfl
@[simp] theorem sub_l0 {a : PV} {r : List PV} : subv h (.lst (a :: r)) (.int 0) = some a := by
  have : (0 : Int) < ((a :: r).length : Nat) := by simp only [List.length_cons]; omega
  simp only [subv, ixP, this]; rfl
@[simp] theorem alive_tup {vs : List PV} : alive h (.tup vs) = true := rfl
@[simp] theorem alive_lst {vs : List PV} : alive h (.lst vs) = true := rfl
@[simp] theorem alive_str {z : String} : alive h (.str z) = true := rfl
@[simp] theorem alive_int : alive h (.int i) = true := rfl
@[simp] theorem alive_bl {b : Bool} : alive h (.bl b) = true := rfl
@[simp] theorem alive_non : alive h .non = true := rfl
@[simp] theorem trim_app {t : HP} : trim h (h ++ t) = h := by simp [trim]
theorem fin_scratch {D : Def} {v : PV} {t : HP} (hs : D.scratch = true) (hb : below h.length v = true) : fin D h v (h ++ t) = .ok v h := by
  unfold fin
  rw [hs]
  simp [hb]
theorem lineN_eq : lineN = 16777216 := rfl
@[simp] theorem cmpv_lt : cmpv h .lt (.int i) (.int j) = some (decide (i < j)) := rfl
@[simp] theorem cmpv_le : cmpv h .le (.int i) (.int j) = some (decide (i ≤ j)) := rfl
@[simp] theorem cmpv_gt : cmpv h .gt (.int i) (.int j) = some (decide (j < i)) := rfl
@[simp] theorem cmpv_ge : cmpv h .ge (.int i) (.int j) = some (decide (j ≤ i)) := rfl
@[simp] theorem cmpv_eqi : cmpv h .eq (.int i) (.int j) = some (decide (i = j)) := rfl
@[simp] theorem cmpv_nei : cmpv h .ne (.int i) (.int j) = some (!decide (i = j)) := rfl
@[simp] theorem cmpv_eqs {a b : String} : cmpv h .eq (.str a) (.str b) = some (decide (a = b)) := rfl
@[simp] theorem cmpv_nes {a b : String} : cmpv h .ne (.str a) (.str b) = some (!decide (a = b)) := rfl
@[simp] theorem cmpv_is {a : PV} : cmpv h .is_ a .non = some (decide (a = .non)) := rfl
@[simp] theorem cmpv_isnot {a : PV} : cmpv h .isnot a .non = some (!decide (a = .non)) := rfl
end
/-! ### the script -/
def cellM (ns : List Int) (k : Nat) : Int := ns.getD k 0
def mixM (c p m : Int) : Int := (c * 48271 % p) ^ 3 % p % m
def seedM (s k : Int) : Int := ((s * 1103515245 + 7919 * k + 12345) % 2147483647) ^ 5 % 2147483647
def pickM (s m : Int) : Int := s / 97 % m
/-- a list of ints that stands still: the script -/
def isScr (v : PV) (ns : List Int) : Prop := v = .fls (ns.map .int) ∨ v = .lst (ns.map .int)
section
variable {L : Def} {xs : List String} {d : Nat} {h : HP} {v : PV} {ns : List Int}
theorem sp_cell {sc : PV} (hs : isScr sc ns) (k : Nat) : fn (tb L xs) (d + 1) "_law_cell" [sc, .int k] h = .ok (.int (cellM ns k)) h := by
  rw [fn_run T_d__law_cell rfl]
  rcases hs with rfl | rfl <;>
  · by_cases hk : k < ns.length
    · simp [d__law_cell, Def.start, exs, ex, ev, evs, tr, truth, bltR, bltv, lenh, hk, subv, ixP, fnEnd, fin, cellM]
    · simp [d__law_cell, Def.start, exs, ex, ev, evs, tr, truth, bltR, bltv, lenh, hk, fnEnd, fin, cellM]
theorem sp_mix {c p m : Int} (hp : 0 < p) (hp2 : p < 2 ^ 64) (hm : 0 < m) : fn (tb L xs) (d + 1) "_law_mix" [.int c, .int p, .int m] h = .ok (.int (mixM c p m)) h := by
  rw [fn_run T_d__law_mix rfl]
  have h1 := Int.emod_nonneg (c * 48271) (show p ≠ 0 by omega)
  have h2 := Int.emod_lt_of_pos (c * 48271) hp
  have h3 : (c * 48271 % p).natAbs < 2 ^ 64 := by omega
  have e1 : ∀ h, opv h .mul (.int c) (.int 48271) = some (.int (c * 48271)) := fun h => opv_mul (.inr (by decide))
  have e2 : ∀ h, opv h .pow (.int (c * 48271 % p)) (.int 3) = some (.int ((c * 48271 % p) ^ 3)) := fun h => opv_pow (by decide) (by decide) h3
  simp [d__law_mix, Def.start, exs, ex, ev, evs, tr, e1, e2, hp, hm, fnEnd, fin, mixM]
theorem sp_seed {s k : Int} : fn (tb L xs) (d + 1) "_law_seed" [.int s, .int k] h = .ok (.int (seedM s k)) h := by
  rw [fn_run T_d__law_seed rfl]
  have h1 := Int.emod_nonneg (s * 1103515245 + 7919 * k + 12345) (show (2147483647 : Int) ≠ 0 by omega)
  have h2 := Int.emod_lt_of_pos (s * 1103515245 + 7919 * k + 12345) (show (0 : Int) < 2147483647 by omega)
  have h3 : ((s * 1103515245 + 7919 * k + 12345) % 2147483647).natAbs < 2 ^ 64 := by omega
  have e1 : ∀ h, opv h .mul (.int s) (.int 1103515245) = some (.int (s * 1103515245)) := fun h => opv_mul (.inr (by decide))
  have e2 : ∀ h, opv h .mul (.int 7919) (.int k) = some (.int (7919 * k)) := fun h => opv_mul (.inl (by decide))
  have e3 : ∀ h, opv h .pow (.int ((s * 1103515245 + 7919 * k + 12345) % 2147483647)) (.int 5) = some (.int (((s * 1103515245 + 7919 * k + 12345) % 2147483647) ^ 5)) := fun h => opv_pow (by decide) (by decide) h3
  simp [d__law_seed, Def.start, exs, ex, ev, evs, tr, e1, e2, e3, fnEnd, fin, seedM]
theorem sp_pick {s m : Int} (hm : 0 < m) : fn (tb L xs) (d + 1) "_law_pick" [.int s, .int m] h = .ok (.int (pickM s m)) h := by
  rw [fn_run T_d__law_pick rfl]
  simp [d__law_pick, Def.start, exs, ex, ev, evs, tr, hm, fnEnd, fin, pickM]
/-! the asks that fail -/
def brokenM (c : Int) : List Int :=
  (((List.range ([0, 3, 12, 60].getD (c % 4).toNat 0)).map fun k => ((k : Nat) : Int)).filter fun k => decide (0 < pickM (seedM c k) ([2, 3, 4].getD (c / 4 % 3).toNat 0))) ++ if c / 7 % 3 = 0 then [99999] else []
theorem sub_lst {vs : List PV} {i : Int} (h0 : 0 ≤ i) (h1 : i < vs.length) : subv h (.lst vs) (.int i) = vs[i.toNat]? := by
  simp [subv, ixP, h0, h1]
theorem sp_broken {sc : PV} (hs : isScr sc ns) (k : Nat) : fn (tb L xs) (d + 2) "_law_broken" [sc, .int k] h = .ok (.tup ((brokenM (cellM ns k)).map .int)) h := by
  rw [fn_run T_d__law_broken rfl]
  generalize hc : cellM ns k = c
  have ec : ∀ (d : Nat) (h : HP), fn (tb L xs) (d + 1) "_law_cell" [sc, .int k] h = .ok (.int c) h := fun d h => by rw [sp_cell hs k, hc]
  obtain ⟨m, hm, hm2⟩ : ∃ m : Nat, ([PV.int 0, .int 3, .int 12, .int 60])[(c % 4).toNat]? = some (.int m) ∧ [0, 3, 12, 60].getD (c % 4).toNat 0 = m ∧ m ≤ 60 := by
    have h1 : 0 ≤ c % 4 := Int.emod_nonneg c (by omega)
    have h2 : c % 4 < 4 := Int.emod_lt_of_pos c (by omega)
    have h3 : (c % 4).toNat = 0 ∨ (c % 4).toNat = 1 ∨ (c % 4).toNat = 2 ∨ (c % 4).toNat = 3 := by omega
    rcases h3 with e | e | e | e <;> rw [e]
    · exact ⟨0, rfl, rfl, by omega⟩
    · exact ⟨3, rfl, rfl, by omega⟩
    · exact ⟨12, rfl, rfl, by omega⟩
    · exact ⟨60, rfl, rfl, by omega⟩
  obtain ⟨p, hp, hp2⟩ : ∃ p : Int, ([PV.int 2, .int 3, .int 4])[(c / 4 % 3).toNat]? = some (.int p) ∧ [2, 3, 4].getD (c / 4 % 3).toNat 0 = p ∧ 0 < p := by
    have h1 : 0 ≤ c / 4 % 3 := Int.emod_nonneg _ (by omega)
    have h2 : c / 4 % 3 < 3 := Int.emod_lt_of_pos _ (by omega)
    have h3 : (c / 4 % 3).toNat = 0 ∨ (c / 4 % 3).toNat = 1 ∨ (c / 4 % 3).toNat = 2 := by omega
    rcases h3 with e | e | e <;> rw [e]
    · exact ⟨2, rfl, rfl, by omega⟩
    · exact ⟨3, rfl, rfl, by omega⟩
    · exact ⟨4, rfl, rfl, by omega⟩
  have s1 : ∀ h, subv h (.lst [PV.int 0, .int 3, .int 12, .int 60]) (.int (c % 4)) = some (.int m) := fun h => by
    exact (sub_lst (Int.emod_nonneg c (by omega)) (show c % 4 < 4 from Int.emod_lt_of_pos c (by decide))).trans hm
  have s2 : ∀ h, subv h (.lst [PV.int 2, .int 3, .int 4]) (.int (c / 4 % 3)) = some (.int p) := fun h => by
    exact (sub_lst (Int.emod_nonneg _ (by omega)) (show c / 4 % 3 < 3 from Int.emod_lt_of_pos _ (by decide))).trans hp
  let g : Int → Bool := fun k => decide (0 < pickM (seedM c k) p)
  let acc : Nat → List Int := fun i => ((List.range i).map fun k => ((k : Nat) : Int)).filter g
  have acc1 : ∀ i, acc (i + 1) = acc i ++ if g (i : Nat) then [((i : Nat) : Int)] else [] := fun i => by
    simp only [acc, List.range_succ, List.map_append, List.filter_append, List.map_cons, List.map_nil, List.filter_cons, List.filter_nil]
  have accL : ∀ i, (acc i).length ≤ i := fun i => by
    have := List.length_filter_le g ((List.range i).map fun k => ((k : Nat) : Int))
    simpa using this
  have m1 : -4611686018427387904 ≤ (m : Int) := by omega
  have m2 : (m : Int) < 4611686018427387904 := by omega
  simp -implicitDefEqProofs only [d__law_broken, Def.start, exs, ex, ev, evs, evi, tr, asg, ec, R.bind_ok, R.st_ok, R.of_some, s1, List.map, List.length, List.set, List.getElem?_cons_zero, List.getElem?_cons_succ, List.replicate, List.append_nil, List.cons_append, List.nil_append, opv_mod (show (0 : Int) < 4 by decide), Int.reducePow, Int.reduceNeg, m1, m2, decide_true, Bool.and_self, if_true, Int.toNat_natCast, itFuel]
  generalize hz : forG _ _ _ _ _ _ = z
  obtain ⟨σ1, h1, rfl, o, rfl, rfl⟩ := range_run hz (fun i σ' h' => ∃ o, σ' = [some sc, some (.int k), some (.int c), some (.ref h.length), o] ∧ h' = h ++ [.lst ((acc i).map .int)]) ⟨none, rfl, rfl⟩ (fun i σ' h' hi ⟨o, e1, e2⟩ => by
      subst e1 e2
      have hlt : (acc i).length < lineN := by have := accL i; rw [lineN_eq]; omega
      cases hg : g (i : Nat) with
      | true =>
        have hg' : 0 < pickM (seedM c i) p := of_decide_eq_true hg
        refine ⟨_, _, ?_, some (.int (i : Nat)), rfl, rfl⟩
        simp [sp_seed, s2, sp_pick hp2.2, hg', rcv, bmv, hlt, acc1, hg]
      | false =>
        have hg' : ¬ 0 < pickM (seedM c i) p := of_decide_eq_false hg
        refine ⟨_, _, ?_, some (.int (i : Nat)), rfl, rfl⟩
        simp [sp_seed, s2, sp_pick hp2.2, hg', acc1, hg])
  have hlt : (acc m).length + 1 ≤ lineN := by have := accL m; rw [lineN_eq]; omega
  have hadd : ∀ t : List PV, t.length ≤ 1 → opv (h ++ [.lst ((acc m).map .int)]) .add (.ref h.length) (.lst t) = some (.lst ((acc m).map .int ++ t)) := fun t ht => by
    show catL _ _ _ = _
    simp only [catL, asD, get_last]
    rw [if_pos (by rw [List.length_map]; omega)]
  have hmul : ∀ (h : HP), opv h .mul (.lst [.int 99999]) (.int (if c / 7 % 3 = 0 then 1 else 0)) = some (.lst ((if c / 7 % 3 = 0 then [(99999 : Int)] else []).map .int)) := fun h => by
    by_cases h7 : c / 7 % 3 = 0
    · simp only [h7, if_true]; rfl
    · simp only [h7, if_false]; rfl
  have hb : below h.length (.tup (((acc m) ++ if c / 7 % 3 = 0 then [99999] else []).map .int)) = true := belows_int _
  have hres : brokenM c = acc m ++ if c / 7 % 3 = 0 then [99999] else [] := by
    unfold brokenM
    rw [hm2.1, hp2.1]
  have hl1 : ((if c / 7 % 3 = 0 then [(99999 : Int)] else []).map PV.int).length ≤ 1 := by
    by_cases h7 : c / 7 % 3 = 0 <;> simp [h7]
  simp -implicitDefEqProofs only [hmul, hadd _ hl1, fnEnd, hres, tr_f, opv_fdiv, opv_mod, R.of_some, R.bind_ok, R.st_ok, cmpv_eqi, List.getElem?_cons_zero, List.getElem?_cons_succ, bltR_intb, decide_eq_true_eq, bltR_tuple, asS_lst', Option.map_some, opv_fdiv (show (0 : Int) < 7 by decide) (show (7 : Int) < 1073741824 by decide), opv_mod (show (0 : Int) < 3 by decide)]
  rw [← List.map_append]
  exact fin_scratch rfl hb
theorem brokenM_ok {c x : Int} (hx : x ∈ brokenM c) : 0 ≤ x ∧ x ≤ 99999 := by
  unfold brokenM at hx
  rcases List.mem_append.mp hx with hx | hx
  · have h1 := (List.mem_filter.mp hx).1
    obtain ⟨k, hk, rfl⟩ := List.mem_map.mp h1
    have hk := List.mem_range.mp hk
    have : [0, 3, 12, 60].getD (c % 4).toNat 0 ≤ 60 := by
      match (c % 4).toNat with
      | 0 => decide
      | 1 => decide
      | 2 => decide
      | 3 => decide
      | n + 4 => simp
    omega
  · split at hx
    · simp at hx; omega
    · simp at hx
theorem brokenM_len {c : Int} : (brokenM c).length ≤ 61 := by
  unfold brokenM
  have : [0, 3, 12, 60].getD (c % 4).toNat 0 ≤ 60 := by
    match (c % 4).toNat with
    | 0 => decide
    | 1 => decide
    | 2 => decide
    | 3 => decide
    | n + 4 => simp
  rw [List.length_append]
  have h1 := List.length_filter_le (fun k => decide (0 < pickM (seedM c k) ([2, 3, 4].getD (c / 4 % 3).toNat 0))) ((List.range ([0, 3, 12, 60].getD (c % 4).toNat 0)).map fun k => ((k : Nat) : Int))
  rw [List.length_map, List.length_range] at h1
  split
  · simp only [List.length_cons, List.length_nil]; omega
  · simp only [List.length_nil]; omega
/-! what is asked -/
def valM (ns : List Int) (at_ k : Nat) : Int := [seedM (cellM ns (at_ + 1 + k % 3) + 41 * k) k / 7 % 6, seedM (cellM ns (at_ + 1 + k % 3) + 41 * k) k / 7 % 6, seedM (cellM ns (at_ + 1 + k % 3) + 41 * k) k / 7 % 40, seedM (cellM ns (at_ + 1 + k % 3) + 41 * k) k / 7 % 10000].getD (pickM (seedM (cellM ns (at_ + 1 + k % 3) + 41 * k) k) 4).toNat 0
def valuesM (ns : List Int) (at_ most : Nat) : List Int := (List.range (mixM (cellM ns at_) 9941 (most + 1)).toNat).map fun k => valM ns at_ k
theorem valM_ok (ns : List Int) (at_ k : Nat) : 0 ≤ valM ns at_ k ∧ valM ns at_ k ≤ 9999 := by
  unfold valM
  generalize seedM (cellM ns (at_ + 1 + k % 3) + 41 * k) k = s
  match (pickM s 4).toNat with
  | 0 => simp; omega
  | 1 => simp; omega
  | 2 => simp; omega
  | 3 => simp; omega
  | n + 4 => simp
theorem valuesM_ok {ns : List Int} {at_ most : Nat} {x : Int} (hx : x ∈ valuesM ns at_ most) : 0 ≤ x ∧ x ≤ 9999 := by
  obtain ⟨k, _, rfl⟩ := List.mem_map.mp hx
  exact valM_ok ns at_ k
theorem valuesM_len (ns : List Int) (at_ most : Nat) : (valuesM ns at_ most).length ≤ most := by
  unfold valuesM
  rw [List.length_map, List.length_range]
  have h1 : mixM (cellM ns at_) 9941 (most + 1) < most + 1 := Int.emod_lt_of_pos _ (by omega)
  omega
theorem sub_pick {a b c e s : Int} : subv h (.lst [.int a, .int b, .int c, .int e]) (.int (pickM s 4)) = some (.int ([a, b, c, e].getD (pickM s 4).toNat 0)) := by
  have h0 : 0 ≤ pickM s 4 := Int.emod_nonneg _ (by omega)
  have h1 : pickM s 4 < 4 := Int.emod_lt_of_pos _ (by omega)
  rw [sub_lst h0 (by simpa using h1)]
  have h3 : (pickM s 4).toNat = 0 ∨ (pickM s 4).toNat = 1 ∨ (pickM s 4).toNat = 2 ∨ (pickM s 4).toNat = 3 := by omega
  rcases h3 with q | q | q | q <;> rw [q] <;> rfl
theorem sp_values {sc : PV} (hs : isScr sc ns) (k most : Nat) (hm : most < 1000) : fn (tb L xs) (d + 2) "_law_values" [sc, .int k, .int most] h = .ok (.lst ((valuesM ns k most).map .int)) h := by
  rw [fn_run T_d__law_values rfl]
  have ec : ∀ (d : Nat) (j : Nat) (h : HP), fn (tb L xs) (d + 1) "_law_cell" [sc, .int j] h = .ok (.int (cellM ns j)) h := fun d j h => sp_cell hs j
  have em : ∀ (d : Nat) (h : HP), fn (tb L xs) (d + 1) "_law_mix" [.int (cellM ns k), .int 9941, .int (most + 1)] h = .ok (.int (mixM (cellM ns k) 9941 (most + 1))) h := fun d h => sp_mix (by decide) (by decide) (by omega)
  have h0 : 0 ≤ mixM (cellM ns k) 9941 (most + 1) := Int.emod_nonneg _ (by omega)
  have h1 : mixM (cellM ns k) 9941 (most + 1) < most + 1 := Int.emod_lt_of_pos _ (by omega)
  have m1 : -4611686018427387904 ≤ mixM (cellM ns k) 9941 (most + 1) := by omega
  have m2 : mixM (cellM ns k) 9941 (most + 1) < 4611686018427387904 := by omega
  have hn : (mixM (cellM ns k) 9941 (most + 1)).toNat ≤ 1000 := by omega
  have hres : valuesM ns k most = (List.range (mixM (cellM ns k) 9941 (most + 1)).toNat).map fun j => valM ns k j := rfl
  rw [hres]
  generalize (mixM (cellM ns k) 9941 (most + 1)) = m at *
  simp -implicitDefEqProofs only [d__law_values, Def.start, exs, ex, ev, evs, evi, asg, ec, em, tr_f, opv_add, R.bind_ok, R.st_ok, R.of_some, List.map, List.length, List.set, List.getElem?_cons_zero, List.getElem?_cons_succ, List.replicate, List.append_nil, List.cons_append, List.nil_append, Int.reducePow, Int.reduceNeg, m1, m2, decide_true, Bool.and_self, if_true, itFuel]
  generalize hz : forG _ _ _ _ _ _ = z
  obtain ⟨σ1, h1, rfl, o1, o2, rfl, rfl⟩ := range0_run hz (fun i σ' h' => ∃ o1 o2, σ' = [some sc, some (.int k), some (.int most), some (.ref h.length), o1, o2] ∧ h' = h ++ [.lst ((List.range i).map fun j => .int (valM ns k j))]) ⟨none, none, rfl, rfl⟩ (fun i σ' h' hi ⟨o1, o2, e1, e2⟩ => by
      subst e1 e2
      have hlt : i < lineN := by rw [lineN_eq]; omega
      have ei : ((k : Int) + 1 + (i : Int) % 3) = ((k + 1 + i % 3 : Nat) : Int) := by omega
      have ec2 : ∀ h, fn (tb L xs) (d + 1) "_law_cell" [sc, .int ((k : Int) + 1 + (i : Int) % 3)] h = .ok (.int (cellM ns (k + 1 + i % 3))) h := fun h => by rw [ei]; exact ec d _ h
      have e41 : ∀ h, opv h .mul (.int 41) (.int (i : Int)) = some (.int (41 * (i : Int))) := fun h => opv_mul (.inl (by decide))
      refine ⟨_, _, ?_, some (.int (i : Nat)), some (.int (seedM (cellM ns (k + 1 + i % 3) + 41 * i) i)), rfl, rfl⟩
      simp -implicitDefEqProofs [ec2, e41, sp_seed, sp_pick, sub_pick, rcv, bmv, hlt, List.range_succ, valM])
  have hb : below h.length (.lst ((List.range m.toNat).map fun j => .int (valM ns k j))) = true := belows_map (fun _ => rfl) _
  simp -implicitDefEqProofs only [fnEnd, tr_f, R.bind_ok, R.st_ok, List.getElem?_cons_zero, List.getElem?_cons_succ, frzv, get_last, set_last, List.map_map]
  exact fin_scratch rfl hb
end
end LW
/-! LwS: cores. -/
namespace LW
theorem comp_run {v : PV} {vs : List PV} {f : Nat} {step : PV → HP → R (Option PV)} {h : HP} {z : R (List PV)} (hz : compG (.seq v) step f 0 [] h = z) (e : still v = some vs) (g : PV → Option PV) (hs : ∀ x ∈ vs, step x h = .ok (g x) h) (hn : vs.length ≤ lineN) (hf : f = vs.length + 1 := by rfl) : z = .ok (vs.filterMap g) h := by
  subst hz hf
  have := compG_seq (h := h) e hs hn
  rw [still_fuel e] at this
  exact this
theorem fm_filter {p : PV → Bool} : ∀ vs : List PV, vs.filterMap (fun x => if p x then some x else none) = vs.filter p
  | [] => rfl
  | v :: vs => by
    rw [List.filterMap_cons, List.filter_cons, fm_filter vs]
    cases p v <;> rfl
theorem isEmpty_filter {p : PV → Bool} (vs : List PV) : (vs.filter p).isEmpty = vs.all fun x => !p x := by
  induction vs with
  | nil => rfl
  | cons v vs ih => rw [List.filter_cons]; cases h : p v <;> simp [h, ih]
section
variable {L : Def} {xs : List String} {d : Nat} {h : HP} {v : PV}
/-! ### == -/
theorem mapO_ints {h : HP} {f : Nat} : ∀ l : List Int, mapO (dr h (f + 1)) (l.map .int) = some (l.map .int)
  | [] => rfl
  | i :: l => by simp only [List.map_cons, mapO, dr, mapO_ints l]
theorem any_ints {i : Int} : ∀ l : List Int, ((l.map PV.int).any fun z => eqd z (.int i)) = l.contains i
  | [] => rfl
  | j :: l => by
    rw [List.map_cons, List.any_cons, any_ints l, List.contains_cons]
    have : (j == i) = (i == j) := by rw [Bool.eq_iff_iff, beq_iff_eq, beq_iff_eq]; exact eq_comm
    simp only [eqd, this]
theorem mem_ints {i : Int} {l : List Int} : memOf h (.int i) (.tup (l.map .int)) = some (l.contains i) := by
  simp only [memOf, memh, drN, dr, mapO_ints, any_ints]
/-! ### Core -/
def okBroken : PV → Bool
  | .tup vs => decide (vs.length ≤ 200) && vs.all (within 0 99999)
  | _ => false
def okCore (st br : PV) : Bool := within 0 9999 st && okBroken br
/-- nothing of the heap within -/
def plain : PV → Bool
  | .ref _ => false
  | .fls _ => false
  | .tup vs => vs.all fun x => match x with
    | .ref _ => false
    | .fls _ => false
    | _ => true
  | _ => true
theorem plain_alive {h : HP} (hp : plain v = true) : alive h v = true := by cases v <;> first | rfl | (cases hp)
theorem plain_items {vs : List PV} (hp : plain (.tup vs) = true) {x : PV} (hx : x ∈ vs) : alive h x = true := by
  have := List.all_eq_true.mp hp x hx
  cases x <;> first | rfl | (cases this)
theorem sp_core_init {st br : PV} (hl : ∀ vs, br = .tup vs → vs.length ≤ 1000) (h1 : plain st = true) (h2 : plain br = true) : fn (tb L xs) (d + 3) "Core.__init__" [.ref h.length, st, br] (h ++ [.ins "Core" []]) =
    if okCore st br then .ok .non (h ++ [.ins "Core" [("step", st), ("broken", br), ("many", .int 0)]]) else .exc "BadCore" (h ++ [.ins "Core" []]) := by
  rw [fn_run T_d_Core_init rfl]
  have a1 := fun h => sp_is_value (L := L) (xs := xs) (d := d) (h := h) (plain_alive (h := h) h1)
  have a2 := fun h => plain_alive (h := h) h2
  simp -implicitDefEqProofs only [Def.start, exs, ex, ev, evs, evi, evo, evIfs, evAnd, evOr, asg, asgs, exh, tr_f, tr_b, tr_l, tr_u, R.bind_ok, R.bind_exc, R.st_ok, R.st_exc, R.calm_ok, R.of_some, Option.map_some, List.map, List.length, List.set, List.getElem?_cons_zero, List.getElem?_cons_succ, List.replicate, List.append_nil, List.cons_append, List.nil_append, List.any, Bool.or_false, Bool.not_true, Bool.not_false, isk_int, isk_bool, isk_str, isk_tuple, isk_list, isInt, isBool, isStr, isTup, asS_tup, asS_lst', asS_fls, lenh_tup, lenh_lst, lenh_fls, bltR_len, bltR_tuple, bltR_list, bltR_int, bltR_intb, bltR_min, bltR_max, opv_add, opv_sub, cmpv_lt, cmpv_le, cmpv_gt, cmpv_ge, cmpv_eqi, cmpv_nei, cmpv_eqs, cmpv_nes, cmpv_is, cmpv_isnot, G_ROUND, G_MOST_LAYERS, G_MOST_AGAIN, G_SMALL, G_MOST_FAILS, G_MOST_VALUES, G_FIGURES, G_MOST_CHOICE, fnEnd, decide_true, decide_false, if_true, itFuel, LW.wipe, opv_mod, opv_fdiv, alive_tup, alive_lst, alive_str, alive_int, alive_bl, alive_non, or_self, or_false, false_or, or_true, true_or, and_self, and_true, true_and, and_false, false_and, sub_t0, sub_t1, sub_t2, sub_l0, Int.reducePow, Int.reduceNeg, Int.reduceLE, Int.reduceLT, Int.reduceToNat, Int.reduceEq, Nat.reduceLT, Nat.reduceLeDiff, Nat.reduceAdd, Nat.reduceSub, Int.cast_ofNat_Int, Int.natCast_zero, Int.natCast_one, Int.reduceAdd, Int.reduceSub, Bool.and_self, Bool.and_true, Bool.true_and, Bool.and_false, Bool.false_and, Bool.or_true, Bool.true_or, Bool.or_self, Bool.false_or, reduceIte, reduceCtorEq, String.reduceEq, ne_eq, not_false_eq_true, not_true_eq_false, d_Core_init, a1, a2]
  cases hst : within 0 9999 st with
  | false => simp [okCore, hst]
  | true =>
    cases br with
    | tup vs =>
      have hl' := hl vs rfl
      simp -implicitDefEqProofs only [Def.start, exs, ex, ev, evs, evi, evo, evIfs, evAnd, evOr, asg, asgs, exh, tr_f, tr_b, tr_l, tr_u, R.bind_ok, R.bind_exc, R.st_ok, R.st_exc, R.calm_ok, R.of_some, Option.map_some, List.map, List.length, List.set, List.getElem?_cons_zero, List.getElem?_cons_succ, List.replicate, List.append_nil, List.cons_append, List.nil_append, List.any, Bool.or_false, Bool.not_true, Bool.not_false, isk_int, isk_bool, isk_str, isk_tuple, isk_list, isInt, isBool, isStr, isTup, asS_tup, asS_lst', asS_fls, lenh_tup, lenh_lst, lenh_fls, bltR_len, bltR_tuple, bltR_list, bltR_int, bltR_intb, bltR_min, bltR_max, opv_add, opv_sub, cmpv_lt, cmpv_le, cmpv_gt, cmpv_ge, cmpv_eqi, cmpv_nei, cmpv_eqs, cmpv_nes, cmpv_is, cmpv_isnot, G_ROUND, G_MOST_LAYERS, G_MOST_AGAIN, G_SMALL, G_MOST_FAILS, G_MOST_VALUES, G_FIGURES, G_MOST_CHOICE, fnEnd, decide_true, decide_false, if_true, itFuel, LW.wipe, opv_mod, opv_fdiv, alive_tup, alive_lst, alive_str, alive_int, alive_bl, alive_non, or_self, or_false, false_or, or_true, true_or, and_self, and_true, true_and, and_false, false_and, sub_t0, sub_t1, sub_t2, sub_l0, Int.reducePow, Int.reduceNeg, Int.reduceLE, Int.reduceLT, Int.reduceToNat, Int.reduceEq, Nat.reduceLT, Nat.reduceLeDiff, Nat.reduceAdd, Nat.reduceSub, Int.cast_ofNat_Int, Int.natCast_zero, Int.natCast_one, Int.reduceAdd, Int.reduceSub, Bool.and_self, Bool.and_true, Bool.true_and, Bool.and_false, Bool.false_and, Bool.or_true, Bool.true_or, Bool.or_self, Bool.false_or, reduceIte, reduceCtorEq, String.reduceEq, ne_eq, not_false_eq_true, not_true_eq_false]
      by_cases hlen : (200 : Int) < (vs.length : Nat)
      · have : ¬ vs.length ≤ 200 := by omega
        simp [hlen, okCore, okBroken, this]
      · have h200 : vs.length ≤ 200 := by omega
        simp -implicitDefEqProofs only [Def.start, exs, ex, ev, evs, evi, evo, evIfs, evAnd, evOr, asg, asgs, exh, tr_f, tr_b, tr_l, tr_u, R.bind_ok, R.bind_exc, R.st_ok, R.st_exc, R.calm_ok, R.of_some, Option.map_some, List.map, List.length, List.set, List.getElem?_cons_zero, List.getElem?_cons_succ, List.replicate, List.append_nil, List.cons_append, List.nil_append, List.any, Bool.or_false, Bool.not_true, Bool.not_false, isk_int, isk_bool, isk_str, isk_tuple, isk_list, isInt, isBool, isStr, isTup, asS_tup, asS_lst', asS_fls, lenh_tup, lenh_lst, lenh_fls, bltR_len, bltR_tuple, bltR_list, bltR_int, bltR_intb, bltR_min, bltR_max, opv_add, opv_sub, cmpv_lt, cmpv_le, cmpv_gt, cmpv_ge, cmpv_eqi, cmpv_nei, cmpv_eqs, cmpv_nes, cmpv_is, cmpv_isnot, G_ROUND, G_MOST_LAYERS, G_MOST_AGAIN, G_SMALL, G_MOST_FAILS, G_MOST_VALUES, G_FIGURES, G_MOST_CHOICE, fnEnd, decide_true, decide_false, if_true, itFuel, LW.wipe, opv_mod, opv_fdiv, alive_tup, alive_lst, alive_str, alive_int, alive_bl, alive_non, or_self, or_false, false_or, or_true, true_or, and_self, and_true, true_and, and_false, false_and, sub_t0, sub_t1, sub_t2, sub_l0, Int.reducePow, Int.reduceNeg, Int.reduceLE, Int.reduceLT, Int.reduceToNat, Int.reduceEq, Nat.reduceLT, Nat.reduceLeDiff, Nat.reduceAdd, Nat.reduceSub, Int.cast_ofNat_Int, Int.natCast_zero, Int.natCast_one, Int.reduceAdd, Int.reduceSub, Bool.and_self, Bool.and_true, Bool.true_and, Bool.and_false, Bool.false_and, Bool.or_true, Bool.true_or, Bool.or_self, Bool.false_or, reduceIte, reduceCtorEq, String.reduceEq, ne_eq, not_false_eq_true, not_true_eq_false, hlen]
        generalize hz : compG _ _ _ _ _ _ = z
        have e := comp_run hz (vs := vs) rfl (fun x => if !within 0 99999 x then some x else none) (fun x hx => by
          have ha := sp_is_within (L := L) (xs := xs) (d := d + 1) (lo := 0) (hi := 99999) (plain_items (h := h ++ [.ins "Core" []]) h2 hx)
          cases hw : within 0 99999 x <;> simp -implicitDefEqProofs [ha, hw]) (by rw [lineN_eq]; omega)
        subst e
        rw [fm_filter]
        simp -implicitDefEqProofs only [Def.start, exs, ex, ev, evs, evi, evo, evIfs, evAnd, evOr, asg, asgs, exh, tr_f, tr_b, tr_l, tr_u, R.bind_ok, R.bind_exc, R.st_ok, R.st_exc, R.calm_ok, R.of_some, Option.map_some, List.map, List.length, List.set, List.getElem?_cons_zero, List.getElem?_cons_succ, List.replicate, List.append_nil, List.cons_append, List.nil_append, List.any, Bool.or_false, Bool.not_true, Bool.not_false, isk_int, isk_bool, isk_str, isk_tuple, isk_list, isInt, isBool, isStr, isTup, asS_tup, asS_lst', asS_fls, lenh_tup, lenh_lst, lenh_fls, bltR_len, bltR_tuple, bltR_list, bltR_int, bltR_intb, bltR_min, bltR_max, opv_add, opv_sub, cmpv_lt, cmpv_le, cmpv_gt, cmpv_ge, cmpv_eqi, cmpv_nei, cmpv_eqs, cmpv_nes, cmpv_is, cmpv_isnot, G_ROUND, G_MOST_LAYERS, G_MOST_AGAIN, G_SMALL, G_MOST_FAILS, G_MOST_VALUES, G_FIGURES, G_MOST_CHOICE, fnEnd, decide_true, decide_false, if_true, itFuel, LW.wipe, opv_mod, opv_fdiv, alive_tup, alive_lst, alive_str, alive_int, alive_bl, alive_non, or_self, or_false, false_or, or_true, true_or, and_self, and_true, true_and, and_false, false_and, sub_t0, sub_t1, sub_t2, sub_l0, Int.reducePow, Int.reduceNeg, Int.reduceLE, Int.reduceLT, Int.reduceToNat, Int.reduceEq, Nat.reduceLT, Nat.reduceLeDiff, Nat.reduceAdd, Nat.reduceSub, Int.cast_ofNat_Int, Int.natCast_zero, Int.natCast_one, Int.reduceAdd, Int.reduceSub, Bool.and_self, Bool.and_true, Bool.true_and, Bool.and_false, Bool.false_and, Bool.or_true, Bool.true_or, Bool.or_self, Bool.false_or, reduceIte, reduceCtorEq, String.reduceEq, ne_eq, not_false_eq_true, not_true_eq_false, isEmpty_filter, Bool.not_not]
        cases hall : (vs.all fun x => within 0 99999 x) with
        | false => simp [okCore, okBroken, hall]
        | true => simp -implicitDefEqProofs [okCore, okBroken, hall, hst, h200, fin, d_Core_init, attrSet, fput]
    | _ => simp [okCore, okBroken, isTup]
/-- a core in the heap -/
def coreO (s : Int) (bs : List Int) (m : Int) : MO := .ins "Core" [("step", .int s), ("broken", .tup (bs.map .int)), ("many", .int m)]
inductive An where
  | ok (v : Int) | bad (s : String)
  deriving DecidableEq, Inhabited
def An.pv : An → PV
  | .ok v => .tup [.str "ok", .int v]
  | .bad s => .tup [.str "bad", .str s]
def coreAns (s : Int) (bs : List Int) (m v : Int) : An := if bs.contains m then .bad "core" else .ok ((v + s) % 10000)
theorem sp_core_ask_bad {n : Nat} (ha : alive h v = true) (hv : within 0 9999 v = false) : fn (tb L xs) (d + 4) "Core.ask" [.ref n, v] h = .exc "BadValue" h := by
  rw [fn_run T_d_Core_ask rfl]
  simp -implicitDefEqProofs only [Def.start, exs, ex, ev, evs, evi, evo, evIfs, evAnd, evOr, asg, asgs, exh, tr_f, tr_b, tr_l, tr_u, R.bind_ok, R.bind_exc, R.st_ok, R.st_exc, R.calm_ok, R.of_some, Option.map_some, List.map, List.length, List.set, List.getElem?_cons_zero, List.getElem?_cons_succ, List.replicate, List.append_nil, List.cons_append, List.nil_append, List.any, Bool.or_false, Bool.not_true, Bool.not_false, isk_int, isk_bool, isk_str, isk_tuple, isk_list, isInt, isBool, isStr, isTup, asS_tup, asS_lst', asS_fls, lenh_tup, lenh_lst, lenh_fls, bltR_len, bltR_tuple, bltR_list, bltR_int, bltR_intb, bltR_min, bltR_max, opv_add, opv_sub, cmpv_lt, cmpv_le, cmpv_gt, cmpv_ge, cmpv_eqi, cmpv_nei, cmpv_eqs, cmpv_nes, cmpv_is, cmpv_isnot, G_ROUND, G_MOST_LAYERS, G_MOST_AGAIN, G_SMALL, G_MOST_FAILS, G_MOST_VALUES, G_FIGURES, G_MOST_CHOICE, fnEnd, decide_true, decide_false, if_true, itFuel, LW.wipe, opv_mod, opv_fdiv, alive_tup, alive_lst, alive_str, alive_int, alive_bl, alive_non, or_self, or_false, false_or, or_true, true_or, and_self, and_true, true_and, and_false, false_and, sub_t0, sub_t1, sub_t2, sub_l0, Int.reducePow, Int.reduceNeg, Int.reduceLE, Int.reduceLT, Int.reduceToNat, Int.reduceEq, Nat.reduceLT, Nat.reduceLeDiff, Nat.reduceAdd, Nat.reduceSub, Int.cast_ofNat_Int, Int.natCast_zero, Int.natCast_one, Int.reduceAdd, Int.reduceSub, Bool.and_self, Bool.and_true, Bool.true_and, Bool.and_false, Bool.false_and, Bool.or_true, Bool.true_or, Bool.or_self, Bool.false_or, reduceIte, reduceCtorEq, String.reduceEq, ne_eq, not_false_eq_true, not_true_eq_false, d_Core_ask, sp_look_value ha, hv]
theorem attrv_ins {n : Nat} {C f : String} {fs : List (String × PV)} (hn : h[n]? = some (.ins C fs)) : attrv h (.ref n) f = fgetv fs f := by simp only [attrv, hn]
theorem attrSet_ins {n : Nat} {C f : String} {fs : List (String × PV)} {v : PV} (hn : h[n]? = some (.ins C fs)) (hl : fs.length < 900) : attrSet h (.ref n) f v = some (h.set n (.ins C (fput fs f v))) := by simp only [attrSet, hn, hl, if_true]
theorem get_set {n : Nat} {o o' : MO} (hn : h[n]? = some o) : (h.set n o')[n]? = some o' := List.getElem?_set_self (List.getElem?_eq_some_iff.mp hn).1
theorem get_set_ne {n k : Nat} {o' : MO} (hk : n ≠ k) : (h.set n o')[k]? = h[k]? := List.getElem?_set_ne hk
theorem sp_core_ask {n : Nat} {s m v : Int} {bs : List Int} (hn : h[n]? = some (coreO s bs m)) (h0 : 0 ≤ v) (h1 : v ≤ 9999) : fn (tb L xs) (d + 4) "Core.ask" [.ref n, .int v] h = .ok (coreAns s bs m v).pv (h.set n (coreO s bs (m + 1))) := by
  rw [fn_run T_d_Core_ask rfl]
  have hw : within 0 9999 (.int v) = true := by simp [within, h0, h1]
  have hn' : (h.set n (coreO s bs (m + 1)))[n]? = some (coreO s bs (m + 1)) := get_set hn
  have a1 : attrv h (.ref n) "many" = some (.int m) := attrv_ins hn
  have a2 : attrSet h (.ref n) "many" (.int (m + 1)) = some (h.set n (coreO s bs (m + 1))) := attrSet_ins hn (by simp)
  have a3 : attrv (h.set n (coreO s bs (m + 1))) (.ref n) "many" = some (.int (m + 1)) := attrv_ins hn'
  have a4 : attrv (h.set n (coreO s bs (m + 1))) (.ref n) "broken" = some (.tup (bs.map .int)) := attrv_ins hn'
  have a5 : attrv (h.set n (coreO s bs (m + 1))) (.ref n) "step" = some (.int s) := attrv_ins hn'
  have e1 : m + 1 - 1 = m := by omega
  simp -implicitDefEqProofs only [Def.start, exs, ex, ev, evs, evi, evo, evIfs, evAnd, evOr, asg, asgs, exh, tr_f, tr_b, tr_l, tr_u, R.bind_ok, R.bind_exc, R.st_ok, R.st_exc, R.calm_ok, R.of_some, Option.map_some, List.map, List.length, List.set, List.getElem?_cons_zero, List.getElem?_cons_succ, List.replicate, List.append_nil, List.cons_append, List.nil_append, List.any, Bool.or_false, Bool.not_true, Bool.not_false, isk_int, isk_bool, isk_str, isk_tuple, isk_list, isInt, isBool, isStr, isTup, asS_tup, asS_lst', asS_fls, lenh_tup, lenh_lst, lenh_fls, bltR_len, bltR_tuple, bltR_list, bltR_int, bltR_intb, bltR_min, bltR_max, opv_add, opv_sub, cmpv_lt, cmpv_le, cmpv_gt, cmpv_ge, cmpv_eqi, cmpv_nei, cmpv_eqs, cmpv_nes, cmpv_is, cmpv_isnot, G_ROUND, G_MOST_LAYERS, G_MOST_AGAIN, G_SMALL, G_MOST_FAILS, G_MOST_VALUES, G_FIGURES, G_MOST_CHOICE, fnEnd, decide_true, decide_false, if_true, itFuel, LW.wipe, opv_mod, opv_fdiv, alive_tup, alive_lst, alive_str, alive_int, alive_bl, alive_non, or_self, or_false, false_or, or_true, true_or, and_self, and_true, true_and, and_false, false_and, sub_t0, sub_t1, sub_t2, sub_l0, Int.reducePow, Int.reduceNeg, Int.reduceLE, Int.reduceLT, Int.reduceToNat, Int.reduceEq, Nat.reduceLT, Nat.reduceLeDiff, Nat.reduceAdd, Nat.reduceSub, Int.cast_ofNat_Int, Int.natCast_zero, Int.natCast_one, Int.reduceAdd, Int.reduceSub, Bool.and_self, Bool.and_true, Bool.true_and, Bool.and_false, Bool.false_and, Bool.or_true, Bool.true_or, Bool.or_self, Bool.false_or, reduceIte, reduceCtorEq, String.reduceEq, ne_eq, not_false_eq_true, not_true_eq_false, d_Core_ask, sp_look_value (show alive h (.int v) = true from rfl), hw, a1, a2, a3, a4, a5, augv, cmpv, e1, mem_ints, opv_mod (show (0 : Int) < 10000 by decide)]
  cases hc : bs.contains m with
  | true =>
    have hc' : m ∈ bs := by simpa using hc
    simp -implicitDefEqProofs [hc', coreAns, An.pv, fin]
  | false =>
    have hc' : m ∉ bs := by simpa using hc
    simp -implicitDefEqProofs [hc', coreAns, An.pv, fin, a5]
theorem sp_core_asked {n : Nat} {s m : Int} {bs : List Int} (hn : h[n]? = some (coreO s bs m)) : fn (tb L xs) (d + 1) "Core.asked" [.ref n] h = .ok (.int m) h := by
  rw [fn_run T_d_Core_asked rfl]
  have a1 : attrv h (.ref n) "many" = some (.int m) := attrv_ins hn
  simp -implicitDefEqProofs only [Def.start, exs, ex, ev, evs, evi, evo, evIfs, evAnd, evOr, asg, asgs, exh, tr_f, tr_b, tr_l, tr_u, R.bind_ok, R.bind_exc, R.st_ok, R.st_exc, R.calm_ok, R.of_some, Option.map_some, List.map, List.length, List.set, List.getElem?_cons_zero, List.getElem?_cons_succ, List.replicate, List.append_nil, List.cons_append, List.nil_append, List.any, Bool.or_false, Bool.not_true, Bool.not_false, isk_int, isk_bool, isk_str, isk_tuple, isk_list, isInt, isBool, isStr, isTup, asS_tup, asS_lst', asS_fls, lenh_tup, lenh_lst, lenh_fls, bltR_len, bltR_tuple, bltR_list, bltR_int, bltR_intb, bltR_min, bltR_max, opv_add, opv_sub, cmpv_lt, cmpv_le, cmpv_gt, cmpv_ge, cmpv_eqi, cmpv_nei, cmpv_eqs, cmpv_nes, cmpv_is, cmpv_isnot, G_ROUND, G_MOST_LAYERS, G_MOST_AGAIN, G_SMALL, G_MOST_FAILS, G_MOST_VALUES, G_FIGURES, G_MOST_CHOICE, fnEnd, decide_true, decide_false, if_true, itFuel, LW.wipe, opv_mod, opv_fdiv, alive_tup, alive_lst, alive_str, alive_int, alive_bl, alive_non, or_self, or_false, false_or, or_true, true_or, and_self, and_true, true_and, and_false, false_and, sub_t0, sub_t1, sub_t2, sub_l0, Int.reducePow, Int.reduceNeg, Int.reduceLE, Int.reduceLT, Int.reduceToNat, Int.reduceEq, Nat.reduceLT, Nat.reduceLeDiff, Nat.reduceAdd, Nat.reduceSub, Int.cast_ofNat_Int, Int.natCast_zero, Int.natCast_one, Int.reduceAdd, Int.reduceSub, Bool.and_self, Bool.and_true, Bool.true_and, Bool.and_false, Bool.false_and, Bool.or_true, Bool.true_or, Bool.or_self, Bool.false_or, reduceIte, reduceCtorEq, String.reduceEq, ne_eq, not_false_eq_true, not_true_eq_false, d_Core_asked, a1, fin]
theorem sp_checked_nil : fn (tb L xs) (d + 1) "checked" [.tup []] h = .ok (.tup []) h := by
  rw [fn_run T_d_checked rfl]
  simp -implicitDefEqProofs only [Def.start, exs, ex, ev, evs, evi, evo, evIfs, evAnd, evOr, asg, asgs, exh, tr_f, tr_b, tr_l, tr_u, R.bind_ok, R.bind_exc, R.st_ok, R.st_exc, R.calm_ok, R.of_some, Option.map_some, List.map, List.length, List.set, List.getElem?_cons_zero, List.getElem?_cons_succ, List.replicate, List.append_nil, List.cons_append, List.nil_append, List.any, Bool.or_false, Bool.not_true, Bool.not_false, isk_int, isk_bool, isk_str, isk_tuple, isk_list, isInt, isBool, isStr, isTup, asS_tup, asS_lst', asS_fls, lenh_tup, lenh_lst, lenh_fls, bltR_len, bltR_tuple, bltR_list, bltR_int, bltR_intb, bltR_min, bltR_max, opv_add, opv_sub, cmpv_lt, cmpv_le, cmpv_gt, cmpv_ge, cmpv_eqi, cmpv_nei, cmpv_eqs, cmpv_nes, cmpv_is, cmpv_isnot, G_ROUND, G_MOST_LAYERS, G_MOST_AGAIN, G_SMALL, G_MOST_FAILS, G_MOST_VALUES, G_FIGURES, G_MOST_CHOICE, fnEnd, decide_true, decide_false, if_true, itFuel, LW.wipe, opv_mod, opv_fdiv, alive_tup, alive_lst, alive_str, alive_int, alive_bl, alive_non, or_self, or_false, false_or, or_true, true_or, and_self, and_true, true_and, and_false, false_and, sub_t0, sub_t1, sub_t2, sub_l0, Int.reducePow, Int.reduceNeg, Int.reduceLE, Int.reduceLT, Int.reduceToNat, Int.reduceEq, Nat.reduceLT, Nat.reduceLeDiff, Nat.reduceAdd, Nat.reduceSub, Int.cast_ofNat_Int, Int.natCast_zero, Int.natCast_one, Int.reduceAdd, Int.reduceSub, Bool.and_self, Bool.and_true, Bool.true_and, Bool.and_false, Bool.false_and, Bool.or_true, Bool.true_or, Bool.or_self, Bool.false_or, reduceIte, reduceCtorEq, String.reduceEq, ne_eq, not_false_eq_true, not_true_eq_false, d_checked]
  simp -implicitDefEqProofs [alive, compG, itAt, seqAt, fin, d_checked]
theorem sp_way_bad {n : Nat} (hp : plain v = true) : fn (tb L xs) (d + 2) "Way.__init__" [.ref n, .tup [], v] h = .exc "BadCore" h := by
  rw [fn_run T_d_Way_init rfl]
  have a := plain_alive (h := h) hp
  have k1 : isk (tb L xs) h v "Core" = false := by
    cases v <;> first | rfl | (cases hp; done) | (simp [isk])
  have k2 : isk (tb L xs) h v "Way" = false := by
    cases v <;> first | rfl | (cases hp; done) | (simp [isk])
  simp -implicitDefEqProofs only [Def.start, exs, ex, ev, evs, evi, evo, evIfs, evAnd, evOr, asg, asgs, exh, tr_f, tr_b, tr_l, tr_u, R.bind_ok, R.bind_exc, R.st_ok, R.st_exc, R.calm_ok, R.of_some, Option.map_some, List.map, List.length, List.set, List.getElem?_cons_zero, List.getElem?_cons_succ, List.replicate, List.append_nil, List.cons_append, List.nil_append, List.any, Bool.or_false, Bool.not_true, Bool.not_false, isk_int, isk_bool, isk_str, isk_tuple, isk_list, isInt, isBool, isStr, isTup, asS_tup, asS_lst', asS_fls, lenh_tup, lenh_lst, lenh_fls, bltR_len, bltR_tuple, bltR_list, bltR_int, bltR_intb, bltR_min, bltR_max, opv_add, opv_sub, cmpv_lt, cmpv_le, cmpv_gt, cmpv_ge, cmpv_eqi, cmpv_nei, cmpv_eqs, cmpv_nes, cmpv_is, cmpv_isnot, G_ROUND, G_MOST_LAYERS, G_MOST_AGAIN, G_SMALL, G_MOST_FAILS, G_MOST_VALUES, G_FIGURES, G_MOST_CHOICE, fnEnd, decide_true, decide_false, if_true, itFuel, LW.wipe, opv_mod, opv_fdiv, alive_tup, alive_lst, alive_str, alive_int, alive_bl, alive_non, or_self, or_false, false_or, or_true, true_or, and_self, and_true, true_and, and_false, false_and, sub_t0, sub_t1, sub_t2, sub_l0, Int.reducePow, Int.reduceNeg, Int.reduceLE, Int.reduceLT, Int.reduceToNat, Int.reduceEq, Nat.reduceLT, Nat.reduceLeDiff, Nat.reduceAdd, Nat.reduceSub, Int.cast_ofNat_Int, Int.natCast_zero, Int.natCast_one, Int.reduceAdd, Int.reduceSub, Bool.and_self, Bool.and_true, Bool.true_and, Bool.and_false, Bool.false_and, Bool.or_true, Bool.true_or, Bool.or_self, Bool.false_or, reduceIte, reduceCtorEq, String.reduceEq, ne_eq, not_false_eq_true, not_true_eq_false, d_Way_init, sp_checked_nil, a, k1, k2]
end
end LW
/-! LwU: layers. -/
namespace LW
theorem mod_ok {x n : Int} (hn : 0 < n) : 0 ≤ x % n ∧ x % n < n := ⟨Int.emod_nonneg _ (by omega), Int.emod_lt_of_pos _ hn⟩
theorem ne_an {h : HP} {a b : An} : cmpv h .ne a.pv b.pv = some (!decide (a = b)) := by
  cases a <;> cases b <;> simp [cmpv, eqh, drN, dr, An.pv, mapO, eqd, eqds] <;> rfl
theorem eq_an {h : HP} {a b : An} : cmpv h .eq a.pv b.pv = some (decide (a = b)) := by
  cases a <;> cases b <;> simp [cmpv, eqh, drN, dr, An.pv, mapO, eqd, eqds] <;> rfl
theorem sub_mod_all {P : PV → Prop} {vs : List PV} {x n : Int} (hn : (vs.length : Int) = n) (h0 : 0 < n) (hP : ∀ y ∈ vs, P y) : ∃ y, (∀ h, subv h (.lst vs) (.int (x % n)) = some y) ∧ P y := by
  obtain ⟨k0, k1⟩ := mod_ok (x := x) h0
  have hi : (x % n).toNat < vs.length := by omega
  refine ⟨vs[(x % n).toNat], fun h => ?_, hP _ (List.getElem_mem hi)⟩
  rw [sub_lst k0 (by omega), List.getElem?_eq_getElem hi]
def smallS : String := "abcdefghijklmnopqrstuvwxyz"
def isWordM : PV → Bool
  | .str s => decide (1 ≤ s.length) && decide (s.length ≤ 6) && s.toList.all fun c => smallS.toList.contains c
  | _ => false
section
variable {L : Def} {xs : List String} {d : Nat} {h : HP} {v : PV}
theorem comp_str {s : String} {f : Nat} {step : PV → HP → R (Option PV)} {z : R (List PV)} (hz : compG (.seq (.str s)) step f 0 [] h = z) (g : PV → Option PV) (hs : ∀ c ∈ s.toList, step (.str (String.ofList [c])) h = .ok (g (.str (String.ofList [c]))) h) (hn : s.length ≤ lineN) (hf : f = s.length + 1 := by rfl) : z = .ok ((s.toList.map fun c => PV.str (String.ofList [c])).filterMap g) h := by
  subst hz hf
  have hl : (s.toList.map fun c => PV.str (String.ofList [c])).length = s.length := by rw [List.length_map, String.length_toList]
  have z := compG_go (it := .seq (.str s)) (step := step) (vs := s.toList.map fun c => PV.str (String.ofList [c])) (f := g) (h := h) (fun i => ?_) (fun x hx => ?_) (by rw [hl]; exact hn) s.length 0 [] (by rw [hl]; simp) (Nat.le_refl _)
  · rw [z]; simp
  · simp only [itAt, seqAt, List.getElem?_map]
  · obtain ⟨c, hc, rfl⟩ := List.mem_map.mp hx
    exact hs c hc
theorem str_in {s : String} {c : Char} : memOf h (.str (String.ofList [c])) (.str s) = some (s.toList.contains c) := by
  simp only [memOf]
  rw [if_pos (by simp)]
  congr 1
  induction s.toList with
  | nil => rfl
  | cons a l ih =>
    rw [List.any_cons, List.contains_cons, ih]
    congr 1
    rw [Bool.eq_iff_iff]
    simp
theorem fm_str {p : Char → Bool} {g : PV → Option PV} (hg : ∀ c, g (.str (String.ofList [c])) = if p c then some (.str (String.ofList [c])) else none) : ∀ l : List Char, ((l.map fun c => PV.str (String.ofList [c])).filterMap g).isEmpty = l.all fun c => !p c
  | [] => rfl
  | c :: l => by
    rw [List.map_cons, List.filterMap_cons, hg, List.all_cons]
    cases p c with
    | true => rfl
    | false => simpa using fm_str hg l
theorem sp_is_word (ha : alive h v = true) (hl : ∀ s, v = .str s → s.length ≤ lineN) : fn (tb L xs) (d + 1) "is_word" [v] h = .ok (.bl (isWordM v)) h := by
  rw [fn_run T_d_is_word rfl]
  cases v with
  | str s =>
    have hl := hl s rfl
    have e1 : ∀ h, lenh h (.str s) = some s.length := fun h => by simp only [lenh, hl, if_true]
    simp -implicitDefEqProofs only [Def.start, exs, ex, ev, evs, evi, evo, evIfs, evAnd, evOr, asg, asgs, exh, tr_f, tr_b, tr_l, tr_u, R.bind_ok, R.bind_exc, R.st_ok, R.st_exc, R.calm_ok, R.of_some, Option.map_some, List.map, List.length, List.set, List.getElem?_cons_zero, List.getElem?_cons_succ, List.replicate, List.append_nil, List.cons_append, List.nil_append, List.any, Bool.or_false, Bool.not_true, Bool.not_false, isk_int, isk_bool, isk_str, isk_tuple, isk_list, isInt, isBool, isStr, isTup, asS_tup, asS_lst', asS_fls, lenh_tup, lenh_lst, lenh_fls, bltR_len, bltR_tuple, bltR_list, bltR_int, bltR_intb, bltR_min, bltR_max, opv_add, opv_sub, cmpv_lt, cmpv_le, cmpv_gt, cmpv_ge, cmpv_eqi, cmpv_nei, cmpv_eqs, cmpv_nes, cmpv_is, cmpv_isnot, G_ROUND, G_MOST_LAYERS, G_MOST_AGAIN, G_SMALL, G_MOST_FAILS, G_MOST_VALUES, G_FIGURES, G_MOST_CHOICE, fnEnd, decide_true, decide_false, if_true, itFuel, LW.wipe, opv_mod, opv_fdiv, alive_tup, alive_lst, alive_str, alive_int, alive_bl, alive_non, or_self, or_false, false_or, or_true, true_or, and_self, and_true, true_and, and_false, false_and, sub_t0, sub_t1, sub_t2, sub_l0, Int.reducePow, Int.reduceNeg, Int.reduceLE, Int.reduceLT, Int.reduceToNat, Int.reduceEq, Nat.reduceLT, Nat.reduceLeDiff, Nat.reduceAdd, Nat.reduceSub, Int.cast_ofNat_Int, Int.natCast_zero, Int.natCast_one, Int.reduceAdd, Int.reduceSub, Bool.and_self, Bool.and_true, Bool.true_and, Bool.and_false, Bool.false_and, Bool.or_true, Bool.true_or, Bool.or_self, Bool.false_or, reduceIte, reduceCtorEq, String.reduceEq, ne_eq, not_false_eq_true, not_true_eq_false, d_is_word, ha, e1]
    by_cases h1 : 1 ≤ s.length
    · by_cases h6 : s.length ≤ 6
      · have h1' : (1 : Int) ≤ (s.length : Nat) := by omega
        have h6' : ((s.length : Nat) : Int) ≤ 6 := by omega
        simp -implicitDefEqProofs only [Def.start, exs, ex, ev, evs, evi, evo, evIfs, evAnd, evOr, asg, asgs, exh, tr_f, tr_b, tr_l, tr_u, R.bind_ok, R.bind_exc, R.st_ok, R.st_exc, R.calm_ok, R.of_some, Option.map_some, List.map, List.length, List.set, List.getElem?_cons_zero, List.getElem?_cons_succ, List.replicate, List.append_nil, List.cons_append, List.nil_append, List.any, Bool.or_false, Bool.not_true, Bool.not_false, isk_int, isk_bool, isk_str, isk_tuple, isk_list, isInt, isBool, isStr, isTup, asS_tup, asS_lst', asS_fls, lenh_tup, lenh_lst, lenh_fls, bltR_len, bltR_tuple, bltR_list, bltR_int, bltR_intb, bltR_min, bltR_max, opv_add, opv_sub, cmpv_lt, cmpv_le, cmpv_gt, cmpv_ge, cmpv_eqi, cmpv_nei, cmpv_eqs, cmpv_nes, cmpv_is, cmpv_isnot, G_ROUND, G_MOST_LAYERS, G_MOST_AGAIN, G_SMALL, G_MOST_FAILS, G_MOST_VALUES, G_FIGURES, G_MOST_CHOICE, fnEnd, decide_true, decide_false, if_true, itFuel, LW.wipe, opv_mod, opv_fdiv, alive_tup, alive_lst, alive_str, alive_int, alive_bl, alive_non, or_self, or_false, false_or, or_true, true_or, and_self, and_true, true_and, and_false, false_and, sub_t0, sub_t1, sub_t2, sub_l0, Int.reducePow, Int.reduceNeg, Int.reduceLE, Int.reduceLT, Int.reduceToNat, Int.reduceEq, Nat.reduceLT, Nat.reduceLeDiff, Nat.reduceAdd, Nat.reduceSub, Int.cast_ofNat_Int, Int.natCast_zero, Int.natCast_one, Int.reduceAdd, Int.reduceSub, Bool.and_self, Bool.and_true, Bool.true_and, Bool.and_false, Bool.false_and, Bool.or_true, Bool.true_or, Bool.or_self, Bool.false_or, reduceIte, reduceCtorEq, String.reduceEq, ne_eq, not_false_eq_true, not_true_eq_false, h1', h6']
        generalize hz : compG _ _ _ _ _ _ = z
        have e := comp_str hz (fun x => match memOf h x (.str smallS) with
          | some false => some x
          | _ => none) (fun c hc => by
            have e2 : cmpv h .notin (.str (String.ofList [c])) (.str "abcdefghijklmnopqrstuvwxyz") = some (!smallS.toList.contains c) := by
              show (memOf h _ (.str smallS)).map (!·) = _
              rw [str_in]
              rfl
            cases hm : smallS.toList.contains c <;> simp -implicitDefEqProofs only [Def.start, exs, ex, ev, evs, evi, evo, evIfs, evAnd, evOr, asg, asgs, exh, tr_f, tr_b, tr_l, tr_u, R.bind_ok, R.bind_exc, R.st_ok, R.st_exc, R.calm_ok, R.of_some, Option.map_some, List.map, List.length, List.set, List.getElem?_cons_zero, List.getElem?_cons_succ, List.replicate, List.append_nil, List.cons_append, List.nil_append, List.any, Bool.or_false, Bool.not_true, Bool.not_false, isk_int, isk_bool, isk_str, isk_tuple, isk_list, isInt, isBool, isStr, isTup, asS_tup, asS_lst', asS_fls, lenh_tup, lenh_lst, lenh_fls, bltR_len, bltR_tuple, bltR_list, bltR_int, bltR_intb, bltR_min, bltR_max, opv_add, opv_sub, cmpv_lt, cmpv_le, cmpv_gt, cmpv_ge, cmpv_eqi, cmpv_nei, cmpv_eqs, cmpv_nes, cmpv_is, cmpv_isnot, G_ROUND, G_MOST_LAYERS, G_MOST_AGAIN, G_SMALL, G_MOST_FAILS, G_MOST_VALUES, G_FIGURES, G_MOST_CHOICE, fnEnd, decide_true, decide_false, if_true, itFuel, LW.wipe, opv_mod, opv_fdiv, alive_tup, alive_lst, alive_str, alive_int, alive_bl, alive_non, or_self, or_false, false_or, or_true, true_or, and_self, and_true, true_and, and_false, false_and, sub_t0, sub_t1, sub_t2, sub_l0, Int.reducePow, Int.reduceNeg, Int.reduceLE, Int.reduceLT, Int.reduceToNat, Int.reduceEq, Nat.reduceLT, Nat.reduceLeDiff, Nat.reduceAdd, Nat.reduceSub, Int.cast_ofNat_Int, Int.natCast_zero, Int.natCast_one, Int.reduceAdd, Int.reduceSub, Bool.and_self, Bool.and_true, Bool.true_and, Bool.and_false, Bool.false_and, Bool.or_true, Bool.true_or, Bool.or_self, Bool.false_or, reduceIte, reduceCtorEq, String.reduceEq, ne_eq, not_false_eq_true, not_true_eq_false, e2, hm, str_in]) hl
        subst e
        have e3 := fm_str (p := fun c => !smallS.toList.contains c) (g := fun x => match memOf h x (.str smallS) with
          | some false => some x
          | _ => none) (fun c => by
            simp only [str_in]
            cases smallS.toList.contains c <;> rfl) s.toList
        simp only [Bool.not_not] at e3
        have e4 : isWordM (.str s) = s.toList.all fun c => smallS.toList.contains c := by simp [isWordM, h1, h6]
        simp -implicitDefEqProofs only [Def.start, exs, ex, ev, evs, evi, evo, evIfs, evAnd, evOr, asg, asgs, exh, tr_f, tr_b, tr_l, tr_u, R.bind_ok, R.bind_exc, R.st_ok, R.st_exc, R.calm_ok, R.of_some, Option.map_some, List.map, List.length, List.set, List.getElem?_cons_zero, List.getElem?_cons_succ, List.replicate, List.append_nil, List.cons_append, List.nil_append, List.any, Bool.or_false, Bool.not_true, Bool.not_false, isk_int, isk_bool, isk_str, isk_tuple, isk_list, isInt, isBool, isStr, isTup, asS_tup, asS_lst', asS_fls, lenh_tup, lenh_lst, lenh_fls, bltR_len, bltR_tuple, bltR_list, bltR_int, bltR_intb, bltR_min, bltR_max, opv_add, opv_sub, cmpv_lt, cmpv_le, cmpv_gt, cmpv_ge, cmpv_eqi, cmpv_nei, cmpv_eqs, cmpv_nes, cmpv_is, cmpv_isnot, G_ROUND, G_MOST_LAYERS, G_MOST_AGAIN, G_SMALL, G_MOST_FAILS, G_MOST_VALUES, G_FIGURES, G_MOST_CHOICE, fnEnd, decide_true, decide_false, if_true, itFuel, LW.wipe, opv_mod, opv_fdiv, alive_tup, alive_lst, alive_str, alive_int, alive_bl, alive_non, or_self, or_false, false_or, or_true, true_or, and_self, and_true, true_and, and_false, false_and, sub_t0, sub_t1, sub_t2, sub_l0, Int.reducePow, Int.reduceNeg, Int.reduceLE, Int.reduceLT, Int.reduceToNat, Int.reduceEq, Nat.reduceLT, Nat.reduceLeDiff, Nat.reduceAdd, Nat.reduceSub, Int.cast_ofNat_Int, Int.natCast_zero, Int.natCast_one, Int.reduceAdd, Int.reduceSub, Bool.and_self, Bool.and_true, Bool.true_and, Bool.and_false, Bool.false_and, Bool.or_true, Bool.true_or, Bool.or_self, Bool.false_or, reduceIte, reduceCtorEq, String.reduceEq, ne_eq, not_false_eq_true, not_true_eq_false, fin, e3, e4, Bool.not_not]
      · have h1' : (1 : Int) ≤ (s.length : Nat) := by omega
        have h6' : ¬ ((s.length : Nat) : Int) ≤ 6 := by omega
        simp -implicitDefEqProofs only [Def.start, exs, ex, ev, evs, evi, evo, evIfs, evAnd, evOr, asg, asgs, exh, tr_f, tr_b, tr_l, tr_u, R.bind_ok, R.bind_exc, R.st_ok, R.st_exc, R.calm_ok, R.of_some, Option.map_some, List.map, List.length, List.set, List.getElem?_cons_zero, List.getElem?_cons_succ, List.replicate, List.append_nil, List.cons_append, List.nil_append, List.any, Bool.or_false, Bool.not_true, Bool.not_false, isk_int, isk_bool, isk_str, isk_tuple, isk_list, isInt, isBool, isStr, isTup, asS_tup, asS_lst', asS_fls, lenh_tup, lenh_lst, lenh_fls, bltR_len, bltR_tuple, bltR_list, bltR_int, bltR_intb, bltR_min, bltR_max, opv_add, opv_sub, cmpv_lt, cmpv_le, cmpv_gt, cmpv_ge, cmpv_eqi, cmpv_nei, cmpv_eqs, cmpv_nes, cmpv_is, cmpv_isnot, G_ROUND, G_MOST_LAYERS, G_MOST_AGAIN, G_SMALL, G_MOST_FAILS, G_MOST_VALUES, G_FIGURES, G_MOST_CHOICE, fnEnd, decide_true, decide_false, if_true, itFuel, LW.wipe, opv_mod, opv_fdiv, alive_tup, alive_lst, alive_str, alive_int, alive_bl, alive_non, or_self, or_false, false_or, or_true, true_or, and_self, and_true, true_and, and_false, false_and, sub_t0, sub_t1, sub_t2, sub_l0, Int.reducePow, Int.reduceNeg, Int.reduceLE, Int.reduceLT, Int.reduceToNat, Int.reduceEq, Nat.reduceLT, Nat.reduceLeDiff, Nat.reduceAdd, Nat.reduceSub, Int.cast_ofNat_Int, Int.natCast_zero, Int.natCast_one, Int.reduceAdd, Int.reduceSub, Bool.and_self, Bool.and_true, Bool.true_and, Bool.and_false, Bool.false_and, Bool.or_true, Bool.true_or, Bool.or_self, Bool.false_or, reduceIte, reduceCtorEq, String.reduceEq, ne_eq, not_false_eq_true, not_true_eq_false, h1', h6', isWordM, h6, fin]
    · have h1' : ¬ (1 : Int) ≤ (s.length : Nat) := by omega
      simp -implicitDefEqProofs only [Def.start, exs, ex, ev, evs, evi, evo, evIfs, evAnd, evOr, asg, asgs, exh, tr_f, tr_b, tr_l, tr_u, R.bind_ok, R.bind_exc, R.st_ok, R.st_exc, R.calm_ok, R.of_some, Option.map_some, List.map, List.length, List.set, List.getElem?_cons_zero, List.getElem?_cons_succ, List.replicate, List.append_nil, List.cons_append, List.nil_append, List.any, Bool.or_false, Bool.not_true, Bool.not_false, isk_int, isk_bool, isk_str, isk_tuple, isk_list, isInt, isBool, isStr, isTup, asS_tup, asS_lst', asS_fls, lenh_tup, lenh_lst, lenh_fls, bltR_len, bltR_tuple, bltR_list, bltR_int, bltR_intb, bltR_min, bltR_max, opv_add, opv_sub, cmpv_lt, cmpv_le, cmpv_gt, cmpv_ge, cmpv_eqi, cmpv_nei, cmpv_eqs, cmpv_nes, cmpv_is, cmpv_isnot, G_ROUND, G_MOST_LAYERS, G_MOST_AGAIN, G_SMALL, G_MOST_FAILS, G_MOST_VALUES, G_FIGURES, G_MOST_CHOICE, fnEnd, decide_true, decide_false, if_true, itFuel, LW.wipe, opv_mod, opv_fdiv, alive_tup, alive_lst, alive_str, alive_int, alive_bl, alive_non, or_self, or_false, false_or, or_true, true_or, and_self, and_true, true_and, and_false, false_and, sub_t0, sub_t1, sub_t2, sub_l0, Int.reducePow, Int.reduceNeg, Int.reduceLE, Int.reduceLT, Int.reduceToNat, Int.reduceEq, Nat.reduceLT, Nat.reduceLeDiff, Nat.reduceAdd, Nat.reduceSub, Int.cast_ofNat_Int, Int.natCast_zero, Int.natCast_one, Int.reduceAdd, Int.reduceSub, Bool.and_self, Bool.and_true, Bool.true_and, Bool.and_false, Bool.false_and, Bool.or_true, Bool.true_or, Bool.or_self, Bool.false_or, reduceIte, reduceCtorEq, String.reduceEq, ne_eq, not_false_eq_true, not_true_eq_false, h1', isWordM, h1, fin]
  | _ => simp -implicitDefEqProofs only [Def.start, exs, ex, ev, evs, evi, evo, evIfs, evAnd, evOr, asg, asgs, exh, tr_f, tr_b, tr_l, tr_u, R.bind_ok, R.bind_exc, R.st_ok, R.st_exc, R.calm_ok, R.of_some, Option.map_some, List.map, List.length, List.set, List.getElem?_cons_zero, List.getElem?_cons_succ, List.replicate, List.append_nil, List.cons_append, List.nil_append, List.any, Bool.or_false, Bool.not_true, Bool.not_false, isk_int, isk_bool, isk_str, isk_tuple, isk_list, isInt, isBool, isStr, isTup, asS_tup, asS_lst', asS_fls, lenh_tup, lenh_lst, lenh_fls, bltR_len, bltR_tuple, bltR_list, bltR_int, bltR_intb, bltR_min, bltR_max, opv_add, opv_sub, cmpv_lt, cmpv_le, cmpv_gt, cmpv_ge, cmpv_eqi, cmpv_nei, cmpv_eqs, cmpv_nes, cmpv_is, cmpv_isnot, G_ROUND, G_MOST_LAYERS, G_MOST_AGAIN, G_SMALL, G_MOST_FAILS, G_MOST_VALUES, G_FIGURES, G_MOST_CHOICE, fnEnd, decide_true, decide_false, if_true, itFuel, LW.wipe, opv_mod, opv_fdiv, alive_tup, alive_lst, alive_str, alive_int, alive_bl, alive_non, or_self, or_false, false_or, or_true, true_or, and_self, and_true, true_and, and_false, false_and, sub_t0, sub_t1, sub_t2, sub_l0, Int.reducePow, Int.reduceNeg, Int.reduceLE, Int.reduceLT, Int.reduceToNat, Int.reduceEq, Nat.reduceLT, Nat.reduceLeDiff, Nat.reduceAdd, Nat.reduceSub, Int.cast_ofNat_Int, Int.natCast_zero, Int.natCast_one, Int.reduceAdd, Int.reduceSub, Bool.and_self, Bool.and_true, Bool.true_and, Bool.and_false, Bool.false_and, Bool.or_true, Bool.true_or, Bool.or_self, Bool.false_or, reduceIte, reduceCtorEq, String.reduceEq, ne_eq, not_false_eq_true, not_true_eq_false, d_is_word, ha, isWordM, fin]
/-- what a layer is -/
def isLayerM : PV → Bool
  | .tup (.str w :: r) => if w = "gate" then (match r with
      | [a, b] => within 0 9999 a && within 0 9999 b && (match a, b with
        | .int i, .int j => decide (i ≤ j)
        | _, _ => false)
      | _ => false) else (match r with
      | [a] => if w = "in" ∨ w = "out" ∨ w = "instead" then within 0 9999 a else if w = "again" then within 0 99 a else if w = "keep" ∨ w = "few" then within 0 9 a else decide (w = "note") && isWordM a
      | _ => false)
  | _ => false
/-- small enough to be looked at -/
def lookable : PV → Prop
  | .tup vs => ∀ x ∈ vs, (match x with
    | .ref _ => False
    | .fls _ => False
    | .str s => s.length ≤ lineN
    | _ => True)
  | .ref _ => False
  | .fls _ => False
  | _ => True
theorem look_alive {h : HP} (hp : lookable v) : alive h v = true := by cases v <;> first | rfl | exact hp.elim
theorem look_item {h : HP} {vs : List PV} (hp : lookable (.tup vs)) {x : PV} (hx : x ∈ vs) : alive h x = true ∧ ∀ s, x = .str s → s.length ≤ lineN := by
  have := hp x hx
  cases x with
  | ref _ => exact this.elim
  | fls _ => exact this.elim
  | str s => exact ⟨rfl, fun t e => by cases e; exact this⟩
  | _ => exact ⟨rfl, fun t e => by cases e⟩
theorem mem3 {w a b c : String} : cmpv h .in_ (.str w) (.tup [.str a, .str b, .str c]) = some (decide (w = a ∨ w = b ∨ w = c)) := by
  have e : ∀ p q : String, (p == q) = decide (q = p) := fun p q => by rw [Bool.eq_iff_iff, beq_iff_eq, decide_eq_true_eq]; exact eq_comm
  simp only [cmpv, memOf, memh, drN, dr, mapO, List.any_cons, List.any_nil, eqd, e, Bool.or_false, Bool.decide_or]
theorem mem2 {w a b : String} : cmpv h .in_ (.str w) (.tup [.str a, .str b]) = some (decide (w = a ∨ w = b)) := by
  have e : ∀ p q : String, (p == q) = decide (q = p) := fun p q => by rw [Bool.eq_iff_iff, beq_iff_eq, decide_eq_true_eq]; exact eq_comm
  simp only [cmpv, memOf, memh, drN, dr, mapO, List.any_cons, List.any_nil, eqd, e, Bool.or_false, Bool.decide_or]
theorem within_int {lo hi : Int} (hw : within lo hi v = true) : ∃ i, v = .int i ∧ lo ≤ i ∧ i ≤ hi := by
  cases v with
  | int i => exact ⟨i, rfl, by simpa [within] using hw⟩
  | _ => cases hw
theorem sp_is_layer (hp : lookable v) : fn (tb L xs) (d + 3) "is_layer" [v] h = .ok (.bl (isLayerM v)) h := by
  rw [fn_run T_d_is_layer rfl]
  have ha := look_alive (h := h) hp
  cases v with
  | tup vs =>
    cases vs with
    | nil => simp -implicitDefEqProofs only [Def.start, exs, ex, ev, evs, evi, evo, evIfs, evAnd, evOr, asg, asgs, exh, tr_f, tr_b, tr_l, tr_u, R.bind_ok, R.bind_exc, R.st_ok, R.st_exc, R.calm_ok, R.of_some, Option.map_some, List.map, List.length, List.set, List.getElem?_cons_zero, List.getElem?_cons_succ, List.replicate, List.append_nil, List.cons_append, List.nil_append, List.any, Bool.or_false, Bool.not_true, Bool.not_false, isk_int, isk_bool, isk_str, isk_tuple, isk_list, isInt, isBool, isStr, isTup, asS_tup, asS_lst', asS_fls, lenh_tup, lenh_lst, lenh_fls, bltR_len, bltR_tuple, bltR_list, bltR_int, bltR_intb, bltR_min, bltR_max, opv_add, opv_sub, cmpv_lt, cmpv_le, cmpv_gt, cmpv_ge, cmpv_eqi, cmpv_nei, cmpv_eqs, cmpv_nes, cmpv_is, cmpv_isnot, G_ROUND, G_MOST_LAYERS, G_MOST_AGAIN, G_SMALL, G_MOST_FAILS, G_MOST_VALUES, G_FIGURES, G_MOST_CHOICE, fnEnd, decide_true, decide_false, if_true, itFuel, LW.wipe, opv_mod, opv_fdiv, alive_tup, alive_lst, alive_str, alive_int, alive_bl, alive_non, or_self, or_false, false_or, or_true, true_or, and_self, and_true, true_and, and_false, false_and, sub_t0, sub_t1, sub_t2, sub_l0, Int.reducePow, Int.reduceNeg, Int.reduceLE, Int.reduceLT, Int.reduceToNat, Int.reduceEq, Nat.reduceLT, Nat.reduceLeDiff, Nat.reduceAdd, Nat.reduceSub, Int.cast_ofNat_Int, Int.natCast_zero, Int.natCast_one, Int.reduceAdd, Int.reduceSub, Bool.and_self, Bool.and_true, Bool.true_and, Bool.and_false, Bool.false_and, Bool.or_true, Bool.true_or, Bool.or_self, Bool.false_or, reduceIte, reduceCtorEq, String.reduceEq, ne_eq, not_false_eq_true, not_true_eq_false, d_is_layer, ha, isLayerM, fin, List.isEmpty_nil]
    | cons x r =>
      have hx := look_item (h := h) hp List.mem_cons_self
      cases x with
      | str w =>
        by_cases hg : w = "gate"
        · subst hg
          match r, hp with
          | [], _ => simp -implicitDefEqProofs only [Def.start, exs, ex, ev, evs, evi, evo, evIfs, evAnd, evOr, asg, asgs, exh, tr_f, tr_b, tr_l, tr_u, R.bind_ok, R.bind_exc, R.st_ok, R.st_exc, R.calm_ok, R.of_some, Option.map_some, List.map, List.length, List.set, List.getElem?_cons_zero, List.getElem?_cons_succ, List.replicate, List.append_nil, List.cons_append, List.nil_append, List.any, Bool.or_false, Bool.not_true, Bool.not_false, isk_int, isk_bool, isk_str, isk_tuple, isk_list, isInt, isBool, isStr, isTup, asS_tup, asS_lst', asS_fls, lenh_tup, lenh_lst, lenh_fls, bltR_len, bltR_tuple, bltR_list, bltR_int, bltR_intb, bltR_min, bltR_max, opv_add, opv_sub, cmpv_lt, cmpv_le, cmpv_gt, cmpv_ge, cmpv_eqi, cmpv_nei, cmpv_eqs, cmpv_nes, cmpv_is, cmpv_isnot, G_ROUND, G_MOST_LAYERS, G_MOST_AGAIN, G_SMALL, G_MOST_FAILS, G_MOST_VALUES, G_FIGURES, G_MOST_CHOICE, fnEnd, decide_true, decide_false, if_true, itFuel, LW.wipe, opv_mod, opv_fdiv, alive_tup, alive_lst, alive_str, alive_int, alive_bl, alive_non, or_self, or_false, false_or, or_true, true_or, and_self, and_true, true_and, and_false, false_and, sub_t0, sub_t1, sub_t2, sub_l0, Int.reducePow, Int.reduceNeg, Int.reduceLE, Int.reduceLT, Int.reduceToNat, Int.reduceEq, Nat.reduceLT, Nat.reduceLeDiff, Nat.reduceAdd, Nat.reduceSub, Int.cast_ofNat_Int, Int.natCast_zero, Int.natCast_one, Int.reduceAdd, Int.reduceSub, Bool.and_self, Bool.and_true, Bool.true_and, Bool.and_false, Bool.false_and, Bool.or_true, Bool.true_or, Bool.or_self, Bool.false_or, reduceIte, reduceCtorEq, String.reduceEq, ne_eq, not_false_eq_true, not_true_eq_false, d_is_layer, ha, isLayerM, fin, List.isEmpty_cons, hx.1]
          | [a], _ => simp -implicitDefEqProofs only [Def.start, exs, ex, ev, evs, evi, evo, evIfs, evAnd, evOr, asg, asgs, exh, tr_f, tr_b, tr_l, tr_u, R.bind_ok, R.bind_exc, R.st_ok, R.st_exc, R.calm_ok, R.of_some, Option.map_some, List.map, List.length, List.set, List.getElem?_cons_zero, List.getElem?_cons_succ, List.replicate, List.append_nil, List.cons_append, List.nil_append, List.any, Bool.or_false, Bool.not_true, Bool.not_false, isk_int, isk_bool, isk_str, isk_tuple, isk_list, isInt, isBool, isStr, isTup, asS_tup, asS_lst', asS_fls, lenh_tup, lenh_lst, lenh_fls, bltR_len, bltR_tuple, bltR_list, bltR_int, bltR_intb, bltR_min, bltR_max, opv_add, opv_sub, cmpv_lt, cmpv_le, cmpv_gt, cmpv_ge, cmpv_eqi, cmpv_nei, cmpv_eqs, cmpv_nes, cmpv_is, cmpv_isnot, G_ROUND, G_MOST_LAYERS, G_MOST_AGAIN, G_SMALL, G_MOST_FAILS, G_MOST_VALUES, G_FIGURES, G_MOST_CHOICE, fnEnd, decide_true, decide_false, if_true, itFuel, LW.wipe, opv_mod, opv_fdiv, alive_tup, alive_lst, alive_str, alive_int, alive_bl, alive_non, or_self, or_false, false_or, or_true, true_or, and_self, and_true, true_and, and_false, false_and, sub_t0, sub_t1, sub_t2, sub_l0, Int.reducePow, Int.reduceNeg, Int.reduceLE, Int.reduceLT, Int.reduceToNat, Int.reduceEq, Nat.reduceLT, Nat.reduceLeDiff, Nat.reduceAdd, Nat.reduceSub, Int.cast_ofNat_Int, Int.natCast_zero, Int.natCast_one, Int.reduceAdd, Int.reduceSub, Bool.and_self, Bool.and_true, Bool.true_and, Bool.and_false, Bool.false_and, Bool.or_true, Bool.true_or, Bool.or_self, Bool.false_or, reduceIte, reduceCtorEq, String.reduceEq, ne_eq, not_false_eq_true, not_true_eq_false, d_is_layer, ha, isLayerM, fin, List.isEmpty_cons, hx.1]
          | a :: b :: c :: r, _ =>
            have hl : ¬ (((r.length + 1 + 1 + 1 + 1 : Nat)) : Int) = 3 := by omega
            simp -implicitDefEqProofs only [Def.start, exs, ex, ev, evs, evi, evo, evIfs, evAnd, evOr, asg, asgs, exh, tr_f, tr_b, tr_l, tr_u, R.bind_ok, R.bind_exc, R.st_ok, R.st_exc, R.calm_ok, R.of_some, Option.map_some, List.map, List.length, List.set, List.getElem?_cons_zero, List.getElem?_cons_succ, List.replicate, List.append_nil, List.cons_append, List.nil_append, List.any, Bool.or_false, Bool.not_true, Bool.not_false, isk_int, isk_bool, isk_str, isk_tuple, isk_list, isInt, isBool, isStr, isTup, asS_tup, asS_lst', asS_fls, lenh_tup, lenh_lst, lenh_fls, bltR_len, bltR_tuple, bltR_list, bltR_int, bltR_intb, bltR_min, bltR_max, opv_add, opv_sub, cmpv_lt, cmpv_le, cmpv_gt, cmpv_ge, cmpv_eqi, cmpv_nei, cmpv_eqs, cmpv_nes, cmpv_is, cmpv_isnot, G_ROUND, G_MOST_LAYERS, G_MOST_AGAIN, G_SMALL, G_MOST_FAILS, G_MOST_VALUES, G_FIGURES, G_MOST_CHOICE, fnEnd, decide_true, decide_false, if_true, itFuel, LW.wipe, opv_mod, opv_fdiv, alive_tup, alive_lst, alive_str, alive_int, alive_bl, alive_non, or_self, or_false, false_or, or_true, true_or, and_self, and_true, true_and, and_false, false_and, sub_t0, sub_t1, sub_t2, sub_l0, Int.reducePow, Int.reduceNeg, Int.reduceLE, Int.reduceLT, Int.reduceToNat, Int.reduceEq, Nat.reduceLT, Nat.reduceLeDiff, Nat.reduceAdd, Nat.reduceSub, Int.cast_ofNat_Int, Int.natCast_zero, Int.natCast_one, Int.reduceAdd, Int.reduceSub, Bool.and_self, Bool.and_true, Bool.true_and, Bool.and_false, Bool.false_and, Bool.or_true, Bool.true_or, Bool.or_self, Bool.false_or, reduceIte, reduceCtorEq, String.reduceEq, ne_eq, not_false_eq_true, not_true_eq_false, d_is_layer, ha, isLayerM, fin, List.isEmpty_cons, hx.1, List.length_cons, hl]
          | [a, b], hp =>
            have h1 := look_item (h := h) hp (show a ∈ [PV.str "gate", a, b] by simp)
            have h2 := look_item (h := h) hp (show b ∈ [PV.str "gate", a, b] by simp)
            have e1 := sp_is_value (L := L) (xs := xs) (d := d) h1.1
            have e2 := sp_is_value (L := L) (xs := xs) (d := d) h2.1
            cases w1 : within 0 9999 a with
            | false => simp -implicitDefEqProofs only [Def.start, exs, ex, ev, evs, evi, evo, evIfs, evAnd, evOr, asg, asgs, exh, tr_f, tr_b, tr_l, tr_u, R.bind_ok, R.bind_exc, R.st_ok, R.st_exc, R.calm_ok, R.of_some, Option.map_some, List.map, List.length, List.set, List.getElem?_cons_zero, List.getElem?_cons_succ, List.replicate, List.append_nil, List.cons_append, List.nil_append, List.any, Bool.or_false, Bool.not_true, Bool.not_false, isk_int, isk_bool, isk_str, isk_tuple, isk_list, isInt, isBool, isStr, isTup, asS_tup, asS_lst', asS_fls, lenh_tup, lenh_lst, lenh_fls, bltR_len, bltR_tuple, bltR_list, bltR_int, bltR_intb, bltR_min, bltR_max, opv_add, opv_sub, cmpv_lt, cmpv_le, cmpv_gt, cmpv_ge, cmpv_eqi, cmpv_nei, cmpv_eqs, cmpv_nes, cmpv_is, cmpv_isnot, G_ROUND, G_MOST_LAYERS, G_MOST_AGAIN, G_SMALL, G_MOST_FAILS, G_MOST_VALUES, G_FIGURES, G_MOST_CHOICE, fnEnd, decide_true, decide_false, if_true, itFuel, LW.wipe, opv_mod, opv_fdiv, alive_tup, alive_lst, alive_str, alive_int, alive_bl, alive_non, or_self, or_false, false_or, or_true, true_or, and_self, and_true, true_and, and_false, false_and, sub_t0, sub_t1, sub_t2, sub_l0, Int.reducePow, Int.reduceNeg, Int.reduceLE, Int.reduceLT, Int.reduceToNat, Int.reduceEq, Nat.reduceLT, Nat.reduceLeDiff, Nat.reduceAdd, Nat.reduceSub, Int.cast_ofNat_Int, Int.natCast_zero, Int.natCast_one, Int.reduceAdd, Int.reduceSub, Bool.and_self, Bool.and_true, Bool.true_and, Bool.and_false, Bool.false_and, Bool.or_true, Bool.true_or, Bool.or_self, Bool.false_or, reduceIte, reduceCtorEq, String.reduceEq, ne_eq, not_false_eq_true, not_true_eq_false, d_is_layer, ha, isLayerM, fin, List.isEmpty_cons, hx.1, e1, w1]
            | true =>
              cases w2 : within 0 9999 b with
              | false => simp -implicitDefEqProofs only [Def.start, exs, ex, ev, evs, evi, evo, evIfs, evAnd, evOr, asg, asgs, exh, tr_f, tr_b, tr_l, tr_u, R.bind_ok, R.bind_exc, R.st_ok, R.st_exc, R.calm_ok, R.of_some, Option.map_some, List.map, List.length, List.set, List.getElem?_cons_zero, List.getElem?_cons_succ, List.replicate, List.append_nil, List.cons_append, List.nil_append, List.any, Bool.or_false, Bool.not_true, Bool.not_false, isk_int, isk_bool, isk_str, isk_tuple, isk_list, isInt, isBool, isStr, isTup, asS_tup, asS_lst', asS_fls, lenh_tup, lenh_lst, lenh_fls, bltR_len, bltR_tuple, bltR_list, bltR_int, bltR_intb, bltR_min, bltR_max, opv_add, opv_sub, cmpv_lt, cmpv_le, cmpv_gt, cmpv_ge, cmpv_eqi, cmpv_nei, cmpv_eqs, cmpv_nes, cmpv_is, cmpv_isnot, G_ROUND, G_MOST_LAYERS, G_MOST_AGAIN, G_SMALL, G_MOST_FAILS, G_MOST_VALUES, G_FIGURES, G_MOST_CHOICE, fnEnd, decide_true, decide_false, if_true, itFuel, LW.wipe, opv_mod, opv_fdiv, alive_tup, alive_lst, alive_str, alive_int, alive_bl, alive_non, or_self, or_false, false_or, or_true, true_or, and_self, and_true, true_and, and_false, false_and, sub_t0, sub_t1, sub_t2, sub_l0, Int.reducePow, Int.reduceNeg, Int.reduceLE, Int.reduceLT, Int.reduceToNat, Int.reduceEq, Nat.reduceLT, Nat.reduceLeDiff, Nat.reduceAdd, Nat.reduceSub, Int.cast_ofNat_Int, Int.natCast_zero, Int.natCast_one, Int.reduceAdd, Int.reduceSub, Bool.and_self, Bool.and_true, Bool.true_and, Bool.and_false, Bool.false_and, Bool.or_true, Bool.true_or, Bool.or_self, Bool.false_or, reduceIte, reduceCtorEq, String.reduceEq, ne_eq, not_false_eq_true, not_true_eq_false, d_is_layer, ha, isLayerM, fin, List.isEmpty_cons, hx.1, e1, e2, w1, w2]
              | true =>
                obtain ⟨i, rfl, _⟩ := within_int w1
                obtain ⟨j, rfl, _⟩ := within_int w2
                simp -implicitDefEqProofs only [Def.start, exs, ex, ev, evs, evi, evo, evIfs, evAnd, evOr, asg, asgs, exh, tr_f, tr_b, tr_l, tr_u, R.bind_ok, R.bind_exc, R.st_ok, R.st_exc, R.calm_ok, R.of_some, Option.map_some, List.map, List.length, List.set, List.getElem?_cons_zero, List.getElem?_cons_succ, List.replicate, List.append_nil, List.cons_append, List.nil_append, List.any, Bool.or_false, Bool.not_true, Bool.not_false, isk_int, isk_bool, isk_str, isk_tuple, isk_list, isInt, isBool, isStr, isTup, asS_tup, asS_lst', asS_fls, lenh_tup, lenh_lst, lenh_fls, bltR_len, bltR_tuple, bltR_list, bltR_int, bltR_intb, bltR_min, bltR_max, opv_add, opv_sub, cmpv_lt, cmpv_le, cmpv_gt, cmpv_ge, cmpv_eqi, cmpv_nei, cmpv_eqs, cmpv_nes, cmpv_is, cmpv_isnot, G_ROUND, G_MOST_LAYERS, G_MOST_AGAIN, G_SMALL, G_MOST_FAILS, G_MOST_VALUES, G_FIGURES, G_MOST_CHOICE, fnEnd, decide_true, decide_false, if_true, itFuel, LW.wipe, opv_mod, opv_fdiv, alive_tup, alive_lst, alive_str, alive_int, alive_bl, alive_non, or_self, or_false, false_or, or_true, true_or, and_self, and_true, true_and, and_false, false_and, sub_t0, sub_t1, sub_t2, sub_l0, Int.reducePow, Int.reduceNeg, Int.reduceLE, Int.reduceLT, Int.reduceToNat, Int.reduceEq, Nat.reduceLT, Nat.reduceLeDiff, Nat.reduceAdd, Nat.reduceSub, Int.cast_ofNat_Int, Int.natCast_zero, Int.natCast_one, Int.reduceAdd, Int.reduceSub, Bool.and_self, Bool.and_true, Bool.true_and, Bool.and_false, Bool.false_and, Bool.or_true, Bool.true_or, Bool.or_self, Bool.false_or, reduceIte, reduceCtorEq, String.reduceEq, ne_eq, not_false_eq_true, not_true_eq_false, d_is_layer, ha, isLayerM, fin, List.isEmpty_cons, hx.1, e1, e2, w1, w2]
        · match r, hp with
          | [], _ => simp -implicitDefEqProofs only [Def.start, exs, ex, ev, evs, evi, evo, evIfs, evAnd, evOr, asg, asgs, exh, tr_f, tr_b, tr_l, tr_u, R.bind_ok, R.bind_exc, R.st_ok, R.st_exc, R.calm_ok, R.of_some, Option.map_some, List.map, List.length, List.set, List.getElem?_cons_zero, List.getElem?_cons_succ, List.replicate, List.append_nil, List.cons_append, List.nil_append, List.any, Bool.or_false, Bool.not_true, Bool.not_false, isk_int, isk_bool, isk_str, isk_tuple, isk_list, isInt, isBool, isStr, isTup, asS_tup, asS_lst', asS_fls, lenh_tup, lenh_lst, lenh_fls, bltR_len, bltR_tuple, bltR_list, bltR_int, bltR_intb, bltR_min, bltR_max, opv_add, opv_sub, cmpv_lt, cmpv_le, cmpv_gt, cmpv_ge, cmpv_eqi, cmpv_nei, cmpv_eqs, cmpv_nes, cmpv_is, cmpv_isnot, G_ROUND, G_MOST_LAYERS, G_MOST_AGAIN, G_SMALL, G_MOST_FAILS, G_MOST_VALUES, G_FIGURES, G_MOST_CHOICE, fnEnd, decide_true, decide_false, if_true, itFuel, LW.wipe, opv_mod, opv_fdiv, alive_tup, alive_lst, alive_str, alive_int, alive_bl, alive_non, or_self, or_false, false_or, or_true, true_or, and_self, and_true, true_and, and_false, false_and, sub_t0, sub_t1, sub_t2, sub_l0, Int.reducePow, Int.reduceNeg, Int.reduceLE, Int.reduceLT, Int.reduceToNat, Int.reduceEq, Nat.reduceLT, Nat.reduceLeDiff, Nat.reduceAdd, Nat.reduceSub, Int.cast_ofNat_Int, Int.natCast_zero, Int.natCast_one, Int.reduceAdd, Int.reduceSub, Bool.and_self, Bool.and_true, Bool.true_and, Bool.and_false, Bool.false_and, Bool.or_true, Bool.true_or, Bool.or_self, Bool.false_or, reduceIte, reduceCtorEq, String.reduceEq, ne_eq, not_false_eq_true, not_true_eq_false, d_is_layer, ha, isLayerM, fin, List.isEmpty_cons, hx.1, hg]
          | a :: b :: r, _ =>
            have hl : ¬ (((r.length + 1 + 1 + 1 : Nat)) : Int) = 2 := by omega
            simp -implicitDefEqProofs only [Def.start, exs, ex, ev, evs, evi, evo, evIfs, evAnd, evOr, asg, asgs, exh, tr_f, tr_b, tr_l, tr_u, R.bind_ok, R.bind_exc, R.st_ok, R.st_exc, R.calm_ok, R.of_some, Option.map_some, List.map, List.length, List.set, List.getElem?_cons_zero, List.getElem?_cons_succ, List.replicate, List.append_nil, List.cons_append, List.nil_append, List.any, Bool.or_false, Bool.not_true, Bool.not_false, isk_int, isk_bool, isk_str, isk_tuple, isk_list, isInt, isBool, isStr, isTup, asS_tup, asS_lst', asS_fls, lenh_tup, lenh_lst, lenh_fls, bltR_len, bltR_tuple, bltR_list, bltR_int, bltR_intb, bltR_min, bltR_max, opv_add, opv_sub, cmpv_lt, cmpv_le, cmpv_gt, cmpv_ge, cmpv_eqi, cmpv_nei, cmpv_eqs, cmpv_nes, cmpv_is, cmpv_isnot, G_ROUND, G_MOST_LAYERS, G_MOST_AGAIN, G_SMALL, G_MOST_FAILS, G_MOST_VALUES, G_FIGURES, G_MOST_CHOICE, fnEnd, decide_true, decide_false, if_true, itFuel, LW.wipe, opv_mod, opv_fdiv, alive_tup, alive_lst, alive_str, alive_int, alive_bl, alive_non, or_self, or_false, false_or, or_true, true_or, and_self, and_true, true_and, and_false, false_and, sub_t0, sub_t1, sub_t2, sub_l0, Int.reducePow, Int.reduceNeg, Int.reduceLE, Int.reduceLT, Int.reduceToNat, Int.reduceEq, Nat.reduceLT, Nat.reduceLeDiff, Nat.reduceAdd, Nat.reduceSub, Int.cast_ofNat_Int, Int.natCast_zero, Int.natCast_one, Int.reduceAdd, Int.reduceSub, Bool.and_self, Bool.and_true, Bool.true_and, Bool.and_false, Bool.false_and, Bool.or_true, Bool.true_or, Bool.or_self, Bool.false_or, reduceIte, reduceCtorEq, String.reduceEq, ne_eq, not_false_eq_true, not_true_eq_false, d_is_layer, ha, isLayerM, fin, List.isEmpty_cons, hx.1, hg, List.length_cons, hl]
          | [a], hp =>
            have h1 := look_item (h := h) hp (show a ∈ [PV.str w, a] by simp)
            have e1 := sp_is_value (L := L) (xs := xs) (d := d) h1.1
            have e2 : ∀ lo hi : Int, _ := fun lo hi => sp_is_within (L := L) (xs := xs) (d := d + 1) (lo := lo) (hi := hi) h1.1
            have e3 := sp_is_word (L := L) (xs := xs) (d := d + 1) h1.1 h1.2
            by_cases c1 : w = "in" ∨ w = "out" ∨ w = "instead"
            · simp -implicitDefEqProofs only [Def.start, exs, ex, ev, evs, evi, evo, evIfs, evAnd, evOr, asg, asgs, exh, tr_f, tr_b, tr_l, tr_u, R.bind_ok, R.bind_exc, R.st_ok, R.st_exc, R.calm_ok, R.of_some, Option.map_some, List.map, List.length, List.set, List.getElem?_cons_zero, List.getElem?_cons_succ, List.replicate, List.append_nil, List.cons_append, List.nil_append, List.any, Bool.or_false, Bool.not_true, Bool.not_false, isk_int, isk_bool, isk_str, isk_tuple, isk_list, isInt, isBool, isStr, isTup, asS_tup, asS_lst', asS_fls, lenh_tup, lenh_lst, lenh_fls, bltR_len, bltR_tuple, bltR_list, bltR_int, bltR_intb, bltR_min, bltR_max, opv_add, opv_sub, cmpv_lt, cmpv_le, cmpv_gt, cmpv_ge, cmpv_eqi, cmpv_nei, cmpv_eqs, cmpv_nes, cmpv_is, cmpv_isnot, G_ROUND, G_MOST_LAYERS, G_MOST_AGAIN, G_SMALL, G_MOST_FAILS, G_MOST_VALUES, G_FIGURES, G_MOST_CHOICE, fnEnd, decide_true, decide_false, if_true, itFuel, LW.wipe, opv_mod, opv_fdiv, alive_tup, alive_lst, alive_str, alive_int, alive_bl, alive_non, or_self, or_false, false_or, or_true, true_or, and_self, and_true, true_and, and_false, false_and, sub_t0, sub_t1, sub_t2, sub_l0, Int.reducePow, Int.reduceNeg, Int.reduceLE, Int.reduceLT, Int.reduceToNat, Int.reduceEq, Nat.reduceLT, Nat.reduceLeDiff, Nat.reduceAdd, Nat.reduceSub, Int.cast_ofNat_Int, Int.natCast_zero, Int.natCast_one, Int.reduceAdd, Int.reduceSub, Bool.and_self, Bool.and_true, Bool.true_and, Bool.and_false, Bool.false_and, Bool.or_true, Bool.true_or, Bool.or_self, Bool.false_or, reduceIte, reduceCtorEq, String.reduceEq, ne_eq, not_false_eq_true, not_true_eq_false, d_is_layer, ha, isLayerM, fin, List.isEmpty_cons, hx.1, hg, mem3, c1, e1]
            · by_cases c2 : w = "again"
              · subst c2
                simp -implicitDefEqProofs only [Def.start, exs, ex, ev, evs, evi, evo, evIfs, evAnd, evOr, asg, asgs, exh, tr_f, tr_b, tr_l, tr_u, R.bind_ok, R.bind_exc, R.st_ok, R.st_exc, R.calm_ok, R.of_some, Option.map_some, List.map, List.length, List.set, List.getElem?_cons_zero, List.getElem?_cons_succ, List.replicate, List.append_nil, List.cons_append, List.nil_append, List.any, Bool.or_false, Bool.not_true, Bool.not_false, isk_int, isk_bool, isk_str, isk_tuple, isk_list, isInt, isBool, isStr, isTup, asS_tup, asS_lst', asS_fls, lenh_tup, lenh_lst, lenh_fls, bltR_len, bltR_tuple, bltR_list, bltR_int, bltR_intb, bltR_min, bltR_max, opv_add, opv_sub, cmpv_lt, cmpv_le, cmpv_gt, cmpv_ge, cmpv_eqi, cmpv_nei, cmpv_eqs, cmpv_nes, cmpv_is, cmpv_isnot, G_ROUND, G_MOST_LAYERS, G_MOST_AGAIN, G_SMALL, G_MOST_FAILS, G_MOST_VALUES, G_FIGURES, G_MOST_CHOICE, fnEnd, decide_true, decide_false, if_true, itFuel, LW.wipe, opv_mod, opv_fdiv, alive_tup, alive_lst, alive_str, alive_int, alive_bl, alive_non, or_self, or_false, false_or, or_true, true_or, and_self, and_true, true_and, and_false, false_and, sub_t0, sub_t1, sub_t2, sub_l0, Int.reducePow, Int.reduceNeg, Int.reduceLE, Int.reduceLT, Int.reduceToNat, Int.reduceEq, Nat.reduceLT, Nat.reduceLeDiff, Nat.reduceAdd, Nat.reduceSub, Int.cast_ofNat_Int, Int.natCast_zero, Int.natCast_one, Int.reduceAdd, Int.reduceSub, Bool.and_self, Bool.and_true, Bool.true_and, Bool.and_false, Bool.false_and, Bool.or_true, Bool.true_or, Bool.or_self, Bool.false_or, reduceIte, reduceCtorEq, String.reduceEq, ne_eq, not_false_eq_true, not_true_eq_false, d_is_layer, isLayerM, fin, List.isEmpty_cons, mem3, e2]
              · by_cases c3 : w = "keep" ∨ w = "few"
                · simp -implicitDefEqProofs only [Def.start, exs, ex, ev, evs, evi, evo, evIfs, evAnd, evOr, asg, asgs, exh, tr_f, tr_b, tr_l, tr_u, R.bind_ok, R.bind_exc, R.st_ok, R.st_exc, R.calm_ok, R.of_some, Option.map_some, List.map, List.length, List.set, List.getElem?_cons_zero, List.getElem?_cons_succ, List.replicate, List.append_nil, List.cons_append, List.nil_append, List.any, Bool.or_false, Bool.not_true, Bool.not_false, isk_int, isk_bool, isk_str, isk_tuple, isk_list, isInt, isBool, isStr, isTup, asS_tup, asS_lst', asS_fls, lenh_tup, lenh_lst, lenh_fls, bltR_len, bltR_tuple, bltR_list, bltR_int, bltR_intb, bltR_min, bltR_max, opv_add, opv_sub, cmpv_lt, cmpv_le, cmpv_gt, cmpv_ge, cmpv_eqi, cmpv_nei, cmpv_eqs, cmpv_nes, cmpv_is, cmpv_isnot, G_ROUND, G_MOST_LAYERS, G_MOST_AGAIN, G_SMALL, G_MOST_FAILS, G_MOST_VALUES, G_FIGURES, G_MOST_CHOICE, fnEnd, decide_true, decide_false, if_true, itFuel, LW.wipe, opv_mod, opv_fdiv, alive_tup, alive_lst, alive_str, alive_int, alive_bl, alive_non, or_self, or_false, false_or, or_true, true_or, and_self, and_true, true_and, and_false, false_and, sub_t0, sub_t1, sub_t2, sub_l0, Int.reducePow, Int.reduceNeg, Int.reduceLE, Int.reduceLT, Int.reduceToNat, Int.reduceEq, Nat.reduceLT, Nat.reduceLeDiff, Nat.reduceAdd, Nat.reduceSub, Int.cast_ofNat_Int, Int.natCast_zero, Int.natCast_one, Int.reduceAdd, Int.reduceSub, Bool.and_self, Bool.and_true, Bool.true_and, Bool.and_false, Bool.false_and, Bool.or_true, Bool.true_or, Bool.or_self, Bool.false_or, reduceIte, reduceCtorEq, String.reduceEq, ne_eq, not_false_eq_true, not_true_eq_false, d_is_layer, ha, isLayerM, fin, List.isEmpty_cons, hx.1, hg, mem3, mem2, c1, c2, c3, e2]
                · by_cases c4 : w = "note"
                  · subst c4
                    simp -implicitDefEqProofs only [Def.start, exs, ex, ev, evs, evi, evo, evIfs, evAnd, evOr, asg, asgs, exh, tr_f, tr_b, tr_l, tr_u, R.bind_ok, R.bind_exc, R.st_ok, R.st_exc, R.calm_ok, R.of_some, Option.map_some, List.map, List.length, List.set, List.getElem?_cons_zero, List.getElem?_cons_succ, List.replicate, List.append_nil, List.cons_append, List.nil_append, List.any, Bool.or_false, Bool.not_true, Bool.not_false, isk_int, isk_bool, isk_str, isk_tuple, isk_list, isInt, isBool, isStr, isTup, asS_tup, asS_lst', asS_fls, lenh_tup, lenh_lst, lenh_fls, bltR_len, bltR_tuple, bltR_list, bltR_int, bltR_intb, bltR_min, bltR_max, opv_add, opv_sub, cmpv_lt, cmpv_le, cmpv_gt, cmpv_ge, cmpv_eqi, cmpv_nei, cmpv_eqs, cmpv_nes, cmpv_is, cmpv_isnot, G_ROUND, G_MOST_LAYERS, G_MOST_AGAIN, G_SMALL, G_MOST_FAILS, G_MOST_VALUES, G_FIGURES, G_MOST_CHOICE, fnEnd, decide_true, decide_false, if_true, itFuel, LW.wipe, opv_mod, opv_fdiv, alive_tup, alive_lst, alive_str, alive_int, alive_bl, alive_non, or_self, or_false, false_or, or_true, true_or, and_self, and_true, true_and, and_false, false_and, sub_t0, sub_t1, sub_t2, sub_l0, Int.reducePow, Int.reduceNeg, Int.reduceLE, Int.reduceLT, Int.reduceToNat, Int.reduceEq, Nat.reduceLT, Nat.reduceLeDiff, Nat.reduceAdd, Nat.reduceSub, Int.cast_ofNat_Int, Int.natCast_zero, Int.natCast_one, Int.reduceAdd, Int.reduceSub, Bool.and_self, Bool.and_true, Bool.true_and, Bool.and_false, Bool.false_and, Bool.or_true, Bool.true_or, Bool.or_self, Bool.false_or, reduceIte, reduceCtorEq, String.reduceEq, ne_eq, not_false_eq_true, not_true_eq_false, d_is_layer, isLayerM, fin, List.isEmpty_cons, mem3, mem2, e3]
                  · simp -implicitDefEqProofs only [Def.start, exs, ex, ev, evs, evi, evo, evIfs, evAnd, evOr, asg, asgs, exh, tr_f, tr_b, tr_l, tr_u, R.bind_ok, R.bind_exc, R.st_ok, R.st_exc, R.calm_ok, R.of_some, Option.map_some, List.map, List.length, List.set, List.getElem?_cons_zero, List.getElem?_cons_succ, List.replicate, List.append_nil, List.cons_append, List.nil_append, List.any, Bool.or_false, Bool.not_true, Bool.not_false, isk_int, isk_bool, isk_str, isk_tuple, isk_list, isInt, isBool, isStr, isTup, asS_tup, asS_lst', asS_fls, lenh_tup, lenh_lst, lenh_fls, bltR_len, bltR_tuple, bltR_list, bltR_int, bltR_intb, bltR_min, bltR_max, opv_add, opv_sub, cmpv_lt, cmpv_le, cmpv_gt, cmpv_ge, cmpv_eqi, cmpv_nei, cmpv_eqs, cmpv_nes, cmpv_is, cmpv_isnot, G_ROUND, G_MOST_LAYERS, G_MOST_AGAIN, G_SMALL, G_MOST_FAILS, G_MOST_VALUES, G_FIGURES, G_MOST_CHOICE, fnEnd, decide_true, decide_false, if_true, itFuel, LW.wipe, opv_mod, opv_fdiv, alive_tup, alive_lst, alive_str, alive_int, alive_bl, alive_non, or_self, or_false, false_or, or_true, true_or, and_self, and_true, true_and, and_false, false_and, sub_t0, sub_t1, sub_t2, sub_l0, Int.reducePow, Int.reduceNeg, Int.reduceLE, Int.reduceLT, Int.reduceToNat, Int.reduceEq, Nat.reduceLT, Nat.reduceLeDiff, Nat.reduceAdd, Nat.reduceSub, Int.cast_ofNat_Int, Int.natCast_zero, Int.natCast_one, Int.reduceAdd, Int.reduceSub, Bool.and_self, Bool.and_true, Bool.true_and, Bool.and_false, Bool.false_and, Bool.or_true, Bool.true_or, Bool.or_self, Bool.false_or, reduceIte, reduceCtorEq, String.reduceEq, ne_eq, not_false_eq_true, not_true_eq_false, d_is_layer, ha, isLayerM, fin, List.isEmpty_cons, hx.1, hg, mem3, mem2, c1, c2, c3, c4]
      | _ => simp -implicitDefEqProofs only [Def.start, exs, ex, ev, evs, evi, evo, evIfs, evAnd, evOr, asg, asgs, exh, tr_f, tr_b, tr_l, tr_u, R.bind_ok, R.bind_exc, R.st_ok, R.st_exc, R.calm_ok, R.of_some, Option.map_some, List.map, List.length, List.set, List.getElem?_cons_zero, List.getElem?_cons_succ, List.replicate, List.append_nil, List.cons_append, List.nil_append, List.any, Bool.or_false, Bool.not_true, Bool.not_false, isk_int, isk_bool, isk_str, isk_tuple, isk_list, isInt, isBool, isStr, isTup, asS_tup, asS_lst', asS_fls, lenh_tup, lenh_lst, lenh_fls, bltR_len, bltR_tuple, bltR_list, bltR_int, bltR_intb, bltR_min, bltR_max, opv_add, opv_sub, cmpv_lt, cmpv_le, cmpv_gt, cmpv_ge, cmpv_eqi, cmpv_nei, cmpv_eqs, cmpv_nes, cmpv_is, cmpv_isnot, G_ROUND, G_MOST_LAYERS, G_MOST_AGAIN, G_SMALL, G_MOST_FAILS, G_MOST_VALUES, G_FIGURES, G_MOST_CHOICE, fnEnd, decide_true, decide_false, if_true, itFuel, LW.wipe, opv_mod, opv_fdiv, alive_tup, alive_lst, alive_str, alive_int, alive_bl, alive_non, or_self, or_false, false_or, or_true, true_or, and_self, and_true, true_and, and_false, false_and, sub_t0, sub_t1, sub_t2, sub_l0, Int.reducePow, Int.reduceNeg, Int.reduceLE, Int.reduceLT, Int.reduceToNat, Int.reduceEq, Nat.reduceLT, Nat.reduceLeDiff, Nat.reduceAdd, Nat.reduceSub, Int.cast_ofNat_Int, Int.natCast_zero, Int.natCast_one, Int.reduceAdd, Int.reduceSub, Bool.and_self, Bool.and_true, Bool.true_and, Bool.and_false, Bool.false_and, Bool.or_true, Bool.true_or, Bool.or_self, Bool.false_or, reduceIte, reduceCtorEq, String.reduceEq, ne_eq, not_false_eq_true, not_true_eq_false, d_is_layer, ha, isLayerM, fin, List.isEmpty_cons, hx.1]
  | _ => simp -implicitDefEqProofs only [Def.start, exs, ex, ev, evs, evi, evo, evIfs, evAnd, evOr, asg, asgs, exh, tr_f, tr_b, tr_l, tr_u, R.bind_ok, R.bind_exc, R.st_ok, R.st_exc, R.calm_ok, R.of_some, Option.map_some, List.map, List.length, List.set, List.getElem?_cons_zero, List.getElem?_cons_succ, List.replicate, List.append_nil, List.cons_append, List.nil_append, List.any, Bool.or_false, Bool.not_true, Bool.not_false, isk_int, isk_bool, isk_str, isk_tuple, isk_list, isInt, isBool, isStr, isTup, asS_tup, asS_lst', asS_fls, lenh_tup, lenh_lst, lenh_fls, bltR_len, bltR_tuple, bltR_list, bltR_int, bltR_intb, bltR_min, bltR_max, opv_add, opv_sub, cmpv_lt, cmpv_le, cmpv_gt, cmpv_ge, cmpv_eqi, cmpv_nei, cmpv_eqs, cmpv_nes, cmpv_is, cmpv_isnot, G_ROUND, G_MOST_LAYERS, G_MOST_AGAIN, G_SMALL, G_MOST_FAILS, G_MOST_VALUES, G_FIGURES, G_MOST_CHOICE, fnEnd, decide_true, decide_false, if_true, itFuel, LW.wipe, opv_mod, opv_fdiv, alive_tup, alive_lst, alive_str, alive_int, alive_bl, alive_non, or_self, or_false, false_or, or_true, true_or, and_self, and_true, true_and, and_false, false_and, sub_t0, sub_t1, sub_t2, sub_l0, Int.reducePow, Int.reduceNeg, Int.reduceLE, Int.reduceLT, Int.reduceToNat, Int.reduceEq, Nat.reduceLT, Nat.reduceLeDiff, Nat.reduceAdd, Nat.reduceSub, Int.cast_ofNat_Int, Int.natCast_zero, Int.natCast_one, Int.reduceAdd, Int.reduceSub, Bool.and_self, Bool.and_true, Bool.true_and, Bool.and_false, Bool.false_and, Bool.or_true, Bool.true_or, Bool.or_self, Bool.false_or, reduceIte, reduceCtorEq, String.reduceEq, ne_eq, not_false_eq_true, not_true_eq_false, d_is_layer, ha, isLayerM, fin]
def okLayers : PV → Bool
  | .tup vs => decide (vs.length ≤ 8) && vs.all isLayerM
  | _ => false
/-- a value that `checked` may look at -/
def lookables : PV → Prop
  | .tup vs => ∀ x ∈ vs, lookable x
  | .ref _ => False
  | .fls _ => False
  | _ => True
theorem sp_checked (hp : lookables v) : fn (tb L xs) (d + 4) "checked" [v] h = if okLayers v then .ok v h else .exc "BadLayers" h := by
  rw [fn_run T_d_checked rfl]
  have ha : alive h v = true := by cases v <;> first | rfl | exact hp.elim
  cases v with
  | tup vs =>
    by_cases hl : (8 : Int) < (vs.length : Nat)
    · have : ¬ vs.length ≤ 8 := by omega
      simp -implicitDefEqProofs only [Def.start, exs, ex, ev, evs, evi, evo, evIfs, evAnd, evOr, asg, asgs, exh, tr_f, tr_b, tr_l, tr_u, R.bind_ok, R.bind_exc, R.st_ok, R.st_exc, R.calm_ok, R.of_some, Option.map_some, List.map, List.length, List.set, List.getElem?_cons_zero, List.getElem?_cons_succ, List.replicate, List.append_nil, List.cons_append, List.nil_append, List.any, Bool.or_false, Bool.not_true, Bool.not_false, isk_int, isk_bool, isk_str, isk_tuple, isk_list, isInt, isBool, isStr, isTup, asS_tup, asS_lst', asS_fls, lenh_tup, lenh_lst, lenh_fls, bltR_len, bltR_tuple, bltR_list, bltR_int, bltR_intb, bltR_min, bltR_max, opv_add, opv_sub, cmpv_lt, cmpv_le, cmpv_gt, cmpv_ge, cmpv_eqi, cmpv_nei, cmpv_eqs, cmpv_nes, cmpv_is, cmpv_isnot, G_ROUND, G_MOST_LAYERS, G_MOST_AGAIN, G_SMALL, G_MOST_FAILS, G_MOST_VALUES, G_FIGURES, G_MOST_CHOICE, fnEnd, decide_true, decide_false, if_true, itFuel, LW.wipe, opv_mod, opv_fdiv, alive_tup, alive_lst, alive_str, alive_int, alive_bl, alive_non, or_self, or_false, false_or, or_true, true_or, and_self, and_true, true_and, and_false, false_and, sub_t0, sub_t1, sub_t2, sub_l0, Int.reducePow, Int.reduceNeg, Int.reduceLE, Int.reduceLT, Int.reduceToNat, Int.reduceEq, Nat.reduceLT, Nat.reduceLeDiff, Nat.reduceAdd, Nat.reduceSub, Int.cast_ofNat_Int, Int.natCast_zero, Int.natCast_one, Int.reduceAdd, Int.reduceSub, Bool.and_self, Bool.and_true, Bool.true_and, Bool.and_false, Bool.false_and, Bool.or_true, Bool.true_or, Bool.or_self, Bool.false_or, reduceIte, reduceCtorEq, String.reduceEq, ne_eq, not_false_eq_true, not_true_eq_false, d_checked, hl, okLayers, this]
    · have h8 : vs.length ≤ 8 := by omega
      simp -implicitDefEqProofs only [Def.start, exs, ex, ev, evs, evi, evo, evIfs, evAnd, evOr, asg, asgs, exh, tr_f, tr_b, tr_l, tr_u, R.bind_ok, R.bind_exc, R.st_ok, R.st_exc, R.calm_ok, R.of_some, Option.map_some, List.map, List.length, List.set, List.getElem?_cons_zero, List.getElem?_cons_succ, List.replicate, List.append_nil, List.cons_append, List.nil_append, List.any, Bool.or_false, Bool.not_true, Bool.not_false, isk_int, isk_bool, isk_str, isk_tuple, isk_list, isInt, isBool, isStr, isTup, asS_tup, asS_lst', asS_fls, lenh_tup, lenh_lst, lenh_fls, bltR_len, bltR_tuple, bltR_list, bltR_int, bltR_intb, bltR_min, bltR_max, opv_add, opv_sub, cmpv_lt, cmpv_le, cmpv_gt, cmpv_ge, cmpv_eqi, cmpv_nei, cmpv_eqs, cmpv_nes, cmpv_is, cmpv_isnot, G_ROUND, G_MOST_LAYERS, G_MOST_AGAIN, G_SMALL, G_MOST_FAILS, G_MOST_VALUES, G_FIGURES, G_MOST_CHOICE, fnEnd, decide_true, decide_false, if_true, itFuel, LW.wipe, opv_mod, opv_fdiv, alive_tup, alive_lst, alive_str, alive_int, alive_bl, alive_non, or_self, or_false, false_or, or_true, true_or, and_self, and_true, true_and, and_false, false_and, sub_t0, sub_t1, sub_t2, sub_l0, Int.reducePow, Int.reduceNeg, Int.reduceLE, Int.reduceLT, Int.reduceToNat, Int.reduceEq, Nat.reduceLT, Nat.reduceLeDiff, Nat.reduceAdd, Nat.reduceSub, Int.cast_ofNat_Int, Int.natCast_zero, Int.natCast_one, Int.reduceAdd, Int.reduceSub, Bool.and_self, Bool.and_true, Bool.true_and, Bool.and_false, Bool.false_and, Bool.or_true, Bool.true_or, Bool.or_self, Bool.false_or, reduceIte, reduceCtorEq, String.reduceEq, ne_eq, not_false_eq_true, not_true_eq_false, d_checked, hl]
      generalize hz : compG _ _ _ _ _ _ = z
      have e := comp_run hz (vs := vs) rfl (fun x => if !isLayerM x then some x else none) (fun x hx => by
          have e1 := sp_is_layer (L := L) (xs := xs) (d := d) (h := h) (hp x hx)
          cases hw : isLayerM x <;> simp -implicitDefEqProofs [e1, hw]) (by rw [lineN_eq]; omega)
      subst e
      rw [fm_filter]
      simp -implicitDefEqProofs only [Def.start, exs, ex, ev, evs, evi, evo, evIfs, evAnd, evOr, asg, asgs, exh, tr_f, tr_b, tr_l, tr_u, R.bind_ok, R.bind_exc, R.st_ok, R.st_exc, R.calm_ok, R.of_some, Option.map_some, List.map, List.length, List.set, List.getElem?_cons_zero, List.getElem?_cons_succ, List.replicate, List.append_nil, List.cons_append, List.nil_append, List.any, Bool.or_false, Bool.not_true, Bool.not_false, isk_int, isk_bool, isk_str, isk_tuple, isk_list, isInt, isBool, isStr, isTup, asS_tup, asS_lst', asS_fls, lenh_tup, lenh_lst, lenh_fls, bltR_len, bltR_tuple, bltR_list, bltR_int, bltR_intb, bltR_min, bltR_max, opv_add, opv_sub, cmpv_lt, cmpv_le, cmpv_gt, cmpv_ge, cmpv_eqi, cmpv_nei, cmpv_eqs, cmpv_nes, cmpv_is, cmpv_isnot, G_ROUND, G_MOST_LAYERS, G_MOST_AGAIN, G_SMALL, G_MOST_FAILS, G_MOST_VALUES, G_FIGURES, G_MOST_CHOICE, fnEnd, decide_true, decide_false, if_true, itFuel, LW.wipe, opv_mod, opv_fdiv, alive_tup, alive_lst, alive_str, alive_int, alive_bl, alive_non, or_self, or_false, false_or, or_true, true_or, and_self, and_true, true_and, and_false, false_and, sub_t0, sub_t1, sub_t2, sub_l0, Int.reducePow, Int.reduceNeg, Int.reduceLE, Int.reduceLT, Int.reduceToNat, Int.reduceEq, Nat.reduceLT, Nat.reduceLeDiff, Nat.reduceAdd, Nat.reduceSub, Int.cast_ofNat_Int, Int.natCast_zero, Int.natCast_one, Int.reduceAdd, Int.reduceSub, Bool.and_self, Bool.and_true, Bool.true_and, Bool.and_false, Bool.false_and, Bool.or_true, Bool.true_or, Bool.or_self, Bool.false_or, reduceIte, reduceCtorEq, String.reduceEq, ne_eq, not_false_eq_true, not_true_eq_false, isEmpty_filter, Bool.not_not]
      cases hall : vs.all isLayerM with
      | false => simp -implicitDefEqProofs only [Def.start, exs, ex, ev, evs, evi, evo, evIfs, evAnd, evOr, asg, asgs, exh, tr_f, tr_b, tr_l, tr_u, R.bind_ok, R.bind_exc, R.st_ok, R.st_exc, R.calm_ok, R.of_some, Option.map_some, List.map, List.length, List.set, List.getElem?_cons_zero, List.getElem?_cons_succ, List.replicate, List.append_nil, List.cons_append, List.nil_append, List.any, Bool.or_false, Bool.not_true, Bool.not_false, isk_int, isk_bool, isk_str, isk_tuple, isk_list, isInt, isBool, isStr, isTup, asS_tup, asS_lst', asS_fls, lenh_tup, lenh_lst, lenh_fls, bltR_len, bltR_tuple, bltR_list, bltR_int, bltR_intb, bltR_min, bltR_max, opv_add, opv_sub, cmpv_lt, cmpv_le, cmpv_gt, cmpv_ge, cmpv_eqi, cmpv_nei, cmpv_eqs, cmpv_nes, cmpv_is, cmpv_isnot, G_ROUND, G_MOST_LAYERS, G_MOST_AGAIN, G_SMALL, G_MOST_FAILS, G_MOST_VALUES, G_FIGURES, G_MOST_CHOICE, fnEnd, decide_true, decide_false, if_true, itFuel, LW.wipe, opv_mod, opv_fdiv, alive_tup, alive_lst, alive_str, alive_int, alive_bl, alive_non, or_self, or_false, false_or, or_true, true_or, and_self, and_true, true_and, and_false, false_and, sub_t0, sub_t1, sub_t2, sub_l0, Int.reducePow, Int.reduceNeg, Int.reduceLE, Int.reduceLT, Int.reduceToNat, Int.reduceEq, Nat.reduceLT, Nat.reduceLeDiff, Nat.reduceAdd, Nat.reduceSub, Int.cast_ofNat_Int, Int.natCast_zero, Int.natCast_one, Int.reduceAdd, Int.reduceSub, Bool.and_self, Bool.and_true, Bool.true_and, Bool.and_false, Bool.false_and, Bool.or_true, Bool.true_or, Bool.or_self, Bool.false_or, reduceIte, reduceCtorEq, String.reduceEq, ne_eq, not_false_eq_true, not_true_eq_false, okLayers, hall, h8]
      | true => simp -implicitDefEqProofs only [Def.start, exs, ex, ev, evs, evi, evo, evIfs, evAnd, evOr, asg, asgs, exh, tr_f, tr_b, tr_l, tr_u, R.bind_ok, R.bind_exc, R.st_ok, R.st_exc, R.calm_ok, R.of_some, Option.map_some, List.map, List.length, List.set, List.getElem?_cons_zero, List.getElem?_cons_succ, List.replicate, List.append_nil, List.cons_append, List.nil_append, List.any, Bool.or_false, Bool.not_true, Bool.not_false, isk_int, isk_bool, isk_str, isk_tuple, isk_list, isInt, isBool, isStr, isTup, asS_tup, asS_lst', asS_fls, lenh_tup, lenh_lst, lenh_fls, bltR_len, bltR_tuple, bltR_list, bltR_int, bltR_intb, bltR_min, bltR_max, opv_add, opv_sub, cmpv_lt, cmpv_le, cmpv_gt, cmpv_ge, cmpv_eqi, cmpv_nei, cmpv_eqs, cmpv_nes, cmpv_is, cmpv_isnot, G_ROUND, G_MOST_LAYERS, G_MOST_AGAIN, G_SMALL, G_MOST_FAILS, G_MOST_VALUES, G_FIGURES, G_MOST_CHOICE, fnEnd, decide_true, decide_false, if_true, itFuel, LW.wipe, opv_mod, opv_fdiv, alive_tup, alive_lst, alive_str, alive_int, alive_bl, alive_non, or_self, or_false, false_or, or_true, true_or, and_self, and_true, true_and, and_false, false_and, sub_t0, sub_t1, sub_t2, sub_l0, Int.reducePow, Int.reduceNeg, Int.reduceLE, Int.reduceLT, Int.reduceToNat, Int.reduceEq, Nat.reduceLT, Nat.reduceLeDiff, Nat.reduceAdd, Nat.reduceSub, Int.cast_ofNat_Int, Int.natCast_zero, Int.natCast_one, Int.reduceAdd, Int.reduceSub, Bool.and_self, Bool.and_true, Bool.true_and, Bool.and_false, Bool.false_and, Bool.or_true, Bool.true_or, Bool.or_self, Bool.false_or, reduceIte, reduceCtorEq, String.reduceEq, ne_eq, not_false_eq_true, not_true_eq_false, okLayers, hall, h8, fin]
  | _ => simp -implicitDefEqProofs only [Def.start, exs, ex, ev, evs, evi, evo, evIfs, evAnd, evOr, asg, asgs, exh, tr_f, tr_b, tr_l, tr_u, R.bind_ok, R.bind_exc, R.st_ok, R.st_exc, R.calm_ok, R.of_some, Option.map_some, List.map, List.length, List.set, List.getElem?_cons_zero, List.getElem?_cons_succ, List.replicate, List.append_nil, List.cons_append, List.nil_append, List.any, Bool.or_false, Bool.not_true, Bool.not_false, isk_int, isk_bool, isk_str, isk_tuple, isk_list, isInt, isBool, isStr, isTup, asS_tup, asS_lst', asS_fls, lenh_tup, lenh_lst, lenh_fls, bltR_len, bltR_tuple, bltR_list, bltR_int, bltR_intb, bltR_min, bltR_max, opv_add, opv_sub, cmpv_lt, cmpv_le, cmpv_gt, cmpv_ge, cmpv_eqi, cmpv_nei, cmpv_eqs, cmpv_nes, cmpv_is, cmpv_isnot, G_ROUND, G_MOST_LAYERS, G_MOST_AGAIN, G_SMALL, G_MOST_FAILS, G_MOST_VALUES, G_FIGURES, G_MOST_CHOICE, fnEnd, decide_true, decide_false, if_true, itFuel, LW.wipe, opv_mod, opv_fdiv, alive_tup, alive_lst, alive_str, alive_int, alive_bl, alive_non, or_self, or_false, false_or, or_true, true_or, and_self, and_true, true_and, and_false, false_and, sub_t0, sub_t1, sub_t2, sub_l0, Int.reducePow, Int.reduceNeg, Int.reduceLE, Int.reduceLT, Int.reduceToNat, Int.reduceEq, Nat.reduceLT, Nat.reduceLeDiff, Nat.reduceAdd, Nat.reduceSub, Int.cast_ofNat_Int, Int.natCast_zero, Int.natCast_one, Int.reduceAdd, Int.reduceSub, Bool.and_self, Bool.and_true, Bool.true_and, Bool.and_false, Bool.false_and, Bool.or_true, Bool.true_or, Bool.or_self, Bool.false_or, reduceIte, reduceCtorEq, String.reduceEq, ne_eq, not_false_eq_true, not_true_eq_false, d_checked, ha, okLayers]
end
end LW
/-! LwV: layers as data; what the laws draw. -/
namespace LW
inductive Ly where
  | inn (n : Int) | out (n : Int) | gate (lo hi : Int) | again (n : Nat) | instead (n : Int) | keep (n : Nat) | few (n : Nat) | note (w : String)
  deriving DecidableEq, Inhabited
namespace Ly
def word : Ly → String
  | .inn _ => "in"
  | .out _ => "out"
  | .gate _ _ => "gate"
  | .again _ => "again"
  | .instead _ => "instead"
  | .keep _ => "keep"
  | .few _ => "few"
  | .note _ => "note"
def pv : Ly → PV
  | .inn n => .tup [.str "in", .int n]
  | .out n => .tup [.str "out", .int n]
  | .gate lo hi => .tup [.str "gate", .int lo, .int hi]
  | .again n => .tup [.str "again", .int n]
  | .instead n => .tup [.str "instead", .int n]
  | .keep n => .tup [.str "keep", .int n]
  | .few n => .tup [.str "few", .int n]
  | .note w => .tup [.str "note", .str w]
def val (n : Int) : Bool := decide (0 ≤ n) && decide (n ≤ 9999)
def ok : Ly → Bool
  | .inn n => val n
  | .out n => val n
  | .gate lo hi => val lo && val hi && decide (lo ≤ hi)
  | .again n => decide (n ≤ 99)
  | .instead n => val n
  | .keep n => decide (n ≤ 9)
  | .few n => decide (n ≤ 9)
  | .note w => isWordM (.str w)
end Ly
theorem isLayer_pv (l : Ly) : isLayerM l.pv = l.ok := by
  cases l <;> simp [Ly.pv, isLayerM, Ly.ok, Ly.val, within] <;> first | omega | skip
theorem isLayer_ex {v : PV} (hv : isLayerM v = true) : ∃ l : Ly, v = l.pv ∧ l.ok = true := by
  suffices ∃ l : Ly, v = l.pv by
    obtain ⟨l, rfl⟩ := this
    exact ⟨l, rfl, by rw [← isLayer_pv]; exact hv⟩
  unfold isLayerM at hv
  split at hv
  · rename_i w r
    split at hv
    · subst w
      split at hv
      · rename_i a b
        simp only [Bool.and_eq_true] at hv
        obtain ⟨i, rfl, _⟩ := within_int hv.1.1
        obtain ⟨j, rfl, _⟩ := within_int hv.1.2
        exact ⟨.gate i j, rfl⟩
      · cases hv
    · split at hv
      · rename_i a
        split at hv
        · rename_i hw
          obtain ⟨i, rfl, _⟩ := within_int hv
          rcases hw with rfl | rfl | rfl
          · exact ⟨.inn i, rfl⟩
          · exact ⟨.out i, rfl⟩
          · exact ⟨.instead i, rfl⟩
        · split at hv
          · subst w
            obtain ⟨i, rfl, h0, _⟩ := within_int hv
            exact ⟨.again i.toNat, by simp [Ly.pv]; omega⟩
          · split at hv
            · rename_i hw
              obtain ⟨i, rfl, h0, _⟩ := within_int hv
              rcases hw with rfl | rfl
              · exact ⟨.keep i.toNat, by simp [Ly.pv]; omega⟩
              · exact ⟨.few i.toNat, by simp [Ly.pv]; omega⟩
            · simp only [Bool.and_eq_true, decide_eq_true_eq] at hv
              obtain ⟨rfl, hv⟩ := hv
              cases a with
              | str s => exact ⟨.note s, rfl⟩
              | _ => cases hv
      · cases hv
  · cases hv
/-- layers written -/
def lpv (ls : List Ly) : PV := .tup (ls.map Ly.pv)
def lok (ls : List Ly) : Bool := ls.all Ly.ok
theorem okLayers_pv (ls : List Ly) : okLayers (lpv ls) = (decide (ls.length ≤ 8) && lok ls) := by
  simp only [okLayers, lpv, List.length_map, lok, List.all_map]
  congr 2
  funext l
  exact isLayer_pv l
theorem okLayers_ex {v : PV} (hv : okLayers v = true) : ∃ ls : List Ly, v = lpv ls ∧ ls.length ≤ 8 ∧ lok ls = true := by
  cases v with
  | tup vs =>
    simp only [okLayers, Bool.and_eq_true, decide_eq_true_eq] at hv
    obtain ⟨h8, hv⟩ := hv
    have : ∃ ls : List Ly, vs = ls.map Ly.pv := by
      clear h8
      induction vs with
      | nil => exact ⟨[], rfl⟩
      | cons v vs ih =>
        simp only [List.all_cons, Bool.and_eq_true] at hv
        obtain ⟨l, rfl, _⟩ := isLayer_ex hv.1
        obtain ⟨ls, rfl⟩ := ih hv.2
        exact ⟨l :: ls, rfl⟩
    obtain ⟨ls, rfl⟩ := this
    have := okLayers_pv ls
    simp only [okLayers, lpv] at this
    have h2 : lok ls = true := by
      rw [List.length_map] at h8
      rw [List.length_map, hv] at this
      simpa [h8] using this.symm
    exact ⟨ls, rfl, by simpa using h8, h2⟩
  | _ => cases hv
theorem pv_look (l : Ly) (hl : l.ok = true) : lookable l.pv := by
  cases l with
  | note w =>
    simp only [Ly.ok, isWordM, Bool.and_eq_true, decide_eq_true_eq] at hl
    intro x hx
    simp only [List.mem_cons, List.not_mem_nil, or_false] at hx
    rcases hx with rfl | rfl
    · show _ ≤ lineN
      rw [lineN_eq]; decide
    · show _ ≤ lineN
      rw [lineN_eq]; omega
  | _ =>
    intro x hx
    simp only [Ly.pv, List.mem_cons, List.not_mem_nil, or_false] at hx
    first
    | (rcases hx with rfl | rfl | rfl
       · show _ ≤ lineN
         rw [lineN_eq]; decide
       · trivial
       · trivial)
    | (rcases hx with rfl | rfl
       · show _ ≤ lineN
         rw [lineN_eq]; decide
       · trivial)
theorem lpv_look {ls : List Ly} (hl : lok ls = true) : lookables (lpv ls) := by
  intro x hx
  obtain ⟨l, h1, rfl⟩ := List.mem_map.mp hx
  exact pv_look l (List.all_eq_true.mp hl l h1)
section
variable {L : Def} {xs : List String} {d : Nat} {h : HP} {v : PV}
theorem sp_checked_ok {ls : List Ly} (hl : lok ls = true) (h8 : ls.length ≤ 8) : fn (tb L xs) (d + 4) "checked" [lpv ls] h = .ok (lpv ls) h := by
  rw [sp_checked (lpv_look hl), okLayers_pv, hl, decide_eq_true h8]
  rfl
/-! ### what is drawn -/
theorem sub3 {a b c : PV} {x : Int} : subv h (.lst [a, b, c]) (.int (x % 3)) = some ([a, b, c].getD (x % 3).toNat .non) := by
  obtain ⟨k0, k1⟩ := mod_ok (x := x) (n := 3) (by decide)
  rw [sub_lst k0 (by simpa using k1)]
  have h3 : (x % 3).toNat = 0 ∨ (x % 3).toNat = 1 ∨ (x % 3).toNat = 2 := by omega
  rcases h3 with q | q | q <;> rw [q] <;> rfl
theorem get3i {a b c : Int} {n : Nat} (hn : n < 3) : [PV.int a, .int b, .int c].getD n .non = .int ([a, b, c].getD n 0) := by
  have : n = 0 ∨ n = 1 ∨ n = 2 := by omega
  rcases this with rfl | rfl | rfl <;> rfl
theorem get3s {a b c : String} {n : Nat} (hn : n < 3) : [PV.str a, .str b, .str c].getD n .non = .str ([a, b, c].getD n "") := by
  have : n = 0 ∨ n = 1 ∨ n = 2 := by omega
  rcases this with rfl | rfl | rfl <;> rfl
theorem sub3i {a b c x : Int} : subv h (.lst [.int a, .int b, .int c]) (.int (x % 3)) = some (.int ([a, b, c].getD (x % 3).toNat 0)) := by
  rw [sub3, get3i]
  obtain ⟨k0, k1⟩ := mod_ok (x := x) (n := 3) (by decide)
  omega
theorem sub3s {a b c : String} {x : Int} : subv h (.lst [.str a, .str b, .str c]) (.int (x % 3)) = some (.str ([a, b, c].getD (x % 3).toNat "")) := by
  rw [sub3, get3s]
  obtain ⟨k0, k1⟩ := mod_ok (x := x) (n := 3) (by decide)
  omega
theorem get3P {α : Type} {P : α → Prop} {a b c e : α} {n : Nat} (hn : n < 3) (h1 : P a) (h2 : P b) (h3 : P c) : P ([a, b, c].getD n e) := by
  have : n = 0 ∨ n = 1 ∨ n = 2 := by omega
  rcases this with rfl | rfl | rfl <;> assumption
def words8 : List String := ["in", "out", "gate", "again", "instead", "keep", "few", "note"]
def gloM (s : Int) : Int := [0, s / 7 % 10000, s / 7 % 30].getD (s / 11 % 3).toNat 0
def layerW (s : Int) (w : String) : Ly :=
  if w = "gate" then .gate (gloM s) ([9999, gloM s + s / 13 % (10000 - gloM s), if gloM s + 20 < 9999 then gloM s + 20 else 9999].getD (s / 17 % 3).toNat 0)
  else if w = "again" then .again ([s / 7 % 4, s / 7 % 4, s / 7 % 100].getD (s / 11 % 3).toNat 0).toNat
  else if w = "note" then .note (["a", "b", "cdefgh"].getD (s / 7 % 3).toNat "")
  else if w = "keep" then .keep (if s / 11 % 2 = 0 then s / 7 % 10 else s / 7 % 4).toNat
  else if w = "few" then .few (if s / 11 % 2 = 0 then s / 7 % 10 else s / 7 % 4).toNat
  else if w = "in" then .inn ([0, s / 7 % 10000, s / 7 % 20].getD (s / 11 % 3).toNat 0)
  else if w = "out" then .out ([0, s / 7 % 10000, s / 7 % 20].getD (s / 11 % 3).toNat 0)
  else .instead ([0, s / 7 % 10000, s / 7 % 20].getD (s / 11 % 3).toNat 0)
def layerM (s : Int) (ks : List String) : Ly := layerW s (ks.getD (pickM s ks.length).toNat "")
theorem gloM_ok (s : Int) : 0 ≤ gloM s ∧ gloM s ≤ 9999 := by
  obtain ⟨k0, k1⟩ := mod_ok (x := s / 11) (n := 3) (by decide)
  exact get3P (P := fun x => 0 ≤ x ∧ x ≤ 9999) (by omega) (by omega) (by omega) (by omega)
theorem layerW_ok (s : Int) (w : String) : (layerW s w).ok = true := by
  have g := gloM_ok s
  have k3 : ∀ x : Int, (x % 3).toNat < 3 := fun x => by omega
  unfold layerW
  split
  · simp only [Ly.ok, Ly.val, Bool.and_eq_true, decide_eq_true_eq]
    have : gloM s ≤ _ ∧ _ ≤ (9999 : Int) := get3P (P := fun x => gloM s ≤ x ∧ x ≤ 9999) (a := 9999) (b := gloM s + s / 13 % (10000 - gloM s)) (c := if gloM s + 20 < 9999 then gloM s + 20 else 9999) (e := 0) (k3 (s / 17)) (by omega) (by
      obtain ⟨k0, k1⟩ := mod_ok (x := s / 13) (n := 10000 - gloM s) (by omega)
      omega) (by split <;> omega)
    omega
  split
  · simp only [Ly.ok, decide_eq_true_eq]
    have := get3P (P := fun x : Int => x ≤ 99) (a := s / 7 % 4) (b := s / 7 % 4) (c := s / 7 % 100) (e := 0) (k3 (s / 11)) (by omega) (by omega) (by omega)
    omega
  split
  · exact get3P (P := fun x => Ly.ok (.note x) = true) (k3 _) (by decide) (by decide) (by decide)
  split
  · simp only [Ly.ok, decide_eq_true_eq]
    split <;> omega
  split
  · simp only [Ly.ok, decide_eq_true_eq]
    split <;> omega
  have := get3P (P := fun x : Int => 0 ≤ x ∧ x ≤ 9999) (a := 0) (b := s / 7 % 10000) (c := s / 7 % 20) (e := 0) (k3 (s / 11)) (by omega) (by omega) (by omega)
  split
  · simp only [Ly.ok, Ly.val, Bool.and_eq_true, decide_eq_true_eq]; exact this
  split
  · simp only [Ly.ok, Ly.val, Bool.and_eq_true, decide_eq_true_eq]; exact this
  · simp only [Ly.ok, Ly.val, Bool.and_eq_true, decide_eq_true_eq]; exact this
theorem layerW_word (s : Int) (w : String) (hw : w ∈ words8) : (layerW s w).word = w := by
  simp only [words8, List.mem_cons, List.not_mem_nil, or_false] at hw
  rcases hw with rfl | rfl | rfl | rfl | rfl | rfl | rfl | rfl <;> simp [layerW, Ly.word]
theorem sp_layer {s : Int} {ks : List String} (hk : ∀ w ∈ ks, w ∈ words8) (h0 : 0 < ks.length) : fn (tb L xs) (d + 2) "_law_layer" [.int s, .lst (ks.map .str)] h = .ok (layerM s ks).pv h := by
  rw [fn_run T_d__law_layer rfl]
  have hn : (0 : Int) < ((ks.map PV.str).length : Nat) := by simp; omega
  have ep := sp_pick (L := L) (xs := xs) (d := d) (h := h) (s := s) hn
  have kk : 0 ≤ pickM s ((ks.map PV.str).length : Nat) ∧ pickM s ((ks.map PV.str).length : Nat) < ((ks.map PV.str).length : Nat) := mod_ok (x := s / 97) hn
  obtain ⟨k0, k1⟩ := kk
  have e1 : subv h (.lst (ks.map .str)) (.int (pickM s ((ks.map PV.str).length : Nat))) = some (.str (ks.getD (pickM s ks.length).toNat "")) := by
    rw [sub_lst k0 k1, List.getElem?_map, List.length_map]
    rw [List.length_map] at k0 k1
    have hi : (pickM s ks.length).toNat < ks.length := by omega
    rw [List.getElem?_eq_getElem hi]
    simp [List.getD, List.getElem?_eq_getElem hi]
  have hw : ks.getD (pickM s ks.length).toNat "" ∈ words8 := by
    apply hk
    rw [List.length_map] at k0 k1
    have hi : (pickM s ks.length).toNat < ks.length := by omega
    simp [List.getD, List.getElem?_eq_getElem hi]
  unfold layerM
  generalize ks.getD (pickM s ks.length).toNat "" = w at *
  simp -implicitDefEqProofs only [Def.start, exs, ex, ev, evs, evi, evo, evIfs, evAnd, evOr, asg, asgs, exh, tr_f, tr_b, tr_l, tr_u, R.bind_ok, R.bind_exc, R.st_ok, R.st_exc, R.calm_ok, R.of_some, Option.map_some, List.map, List.length, List.set, List.getElem?_cons_zero, List.getElem?_cons_succ, List.replicate, List.append_nil, List.cons_append, List.nil_append, List.any, Bool.or_false, Bool.not_true, Bool.not_false, isk_int, isk_bool, isk_str, isk_tuple, isk_list, isInt, isBool, isStr, isTup, asS_tup, asS_lst', asS_fls, lenh_tup, lenh_lst, lenh_fls, bltR_len, bltR_tuple, bltR_list, bltR_int, bltR_intb, bltR_min, bltR_max, opv_add, opv_sub, cmpv_lt, cmpv_le, cmpv_gt, cmpv_ge, cmpv_eqi, cmpv_nei, cmpv_eqs, cmpv_nes, cmpv_is, cmpv_isnot, G_ROUND, G_MOST_LAYERS, G_MOST_AGAIN, G_SMALL, G_MOST_FAILS, G_MOST_VALUES, G_FIGURES, G_MOST_CHOICE, fnEnd, decide_true, decide_false, if_true, itFuel, LW.wipe, opv_mod, opv_fdiv, alive_tup, alive_lst, alive_str, alive_int, alive_bl, alive_non, or_self, or_false, false_or, or_true, true_or, and_self, and_true, true_and, and_false, false_and, sub_t0, sub_t1, sub_t2, sub_l0, Int.reducePow, Int.reduceNeg, Int.reduceLE, Int.reduceLT, Int.reduceToNat, Int.reduceEq, Nat.reduceLT, Nat.reduceLeDiff, Nat.reduceAdd, Nat.reduceSub, Int.cast_ofNat_Int, Int.natCast_zero, Int.natCast_one, Int.reduceAdd, Int.reduceSub, Bool.and_self, Bool.and_true, Bool.true_and, Bool.and_false, Bool.false_and, Bool.or_true, Bool.true_or, Bool.or_self, Bool.false_or, reduceIte, reduceCtorEq, String.reduceEq, ne_eq, not_false_eq_true, not_true_eq_false, d__law_layer, ep, e1]
  have g := gloM_ok s
  have m7 : ∀ (x : Int) (h : HP), opv h .fdiv (.int x) (.int 7) = some (.int (x / 7)) := fun x h => opv_fdiv (by decide) (by decide)
  have m11 : ∀ (x : Int) (h : HP), opv h .fdiv (.int x) (.int 11) = some (.int (x / 11)) := fun x h => opv_fdiv (by decide) (by decide)
  have m13 : ∀ (x : Int) (h : HP), opv h .fdiv (.int x) (.int 13) = some (.int (x / 13)) := fun x h => opv_fdiv (by decide) (by decide)
  have m17 : ∀ (x : Int) (h : HP), opv h .fdiv (.int x) (.int 17) = some (.int (x / 17)) := fun x h => opv_fdiv (by decide) (by decide)
  have r3 : ∀ (x : Int) (h : HP), opv h .mod (.int x) (.int 3) = some (.int (x % 3)) := fun x h => opv_mod (by decide)
  have r2 : ∀ (x : Int) (h : HP), opv h .mod (.int x) (.int 2) = some (.int (x % 2)) := fun x h => opv_mod (by decide)
  have r4 : ∀ (x : Int) (h : HP), opv h .mod (.int x) (.int 4) = some (.int (x % 4)) := fun x h => opv_mod (by decide)
  have r10 : ∀ (x : Int) (h : HP), opv h .mod (.int x) (.int 10) = some (.int (x % 10)) := fun x h => opv_mod (by decide)
  have r20 : ∀ (x : Int) (h : HP), opv h .mod (.int x) (.int 20) = some (.int (x % 20)) := fun x h => opv_mod (by decide)
  have r30 : ∀ (x : Int) (h : HP), opv h .mod (.int x) (.int 30) = some (.int (x % 30)) := fun x h => opv_mod (by decide)
  have r100 : ∀ (x : Int) (h : HP), opv h .mod (.int x) (.int 100) = some (.int (x % 100)) := fun x h => opv_mod (by decide)
  have rT : ∀ (x : Int) (h : HP), opv h .mod (.int x) (.int 10000) = some (.int (x % 10000)) := fun x h => opv_mod (by decide)
  have rg : ∀ (x : Int) (h : HP), opv h .mod (.int x) (.int (10000 - gloM s)) = some (.int (x % (10000 - gloM s))) := fun x h => opv_mod (by omega)
  have eg : [0, s / 7 % 10000, s / 7 % 30].getD (s / 11 % 3).toNat 0 = gloM s := rfl
  have et : ∀ x : Int, 0 ≤ x → ((x.toNat : Nat) : Int) = x := fun x hx => Int.toNat_of_nonneg hx
  have eT : ∀ x : Int, ((x % 3).toNat : Nat) < 3 := fun x => by omega
  simp only [words8, List.mem_cons, List.not_mem_nil, or_false] at hw
  have m2a : ∀ a b c : String, cmpv h .in_ (.str a) (.tup [.str b, .str c]) = some (decide (a = b ∨ a = c)) := fun a b c => mem2
  rcases hw with rfl | rfl | rfl | rfl | rfl | rfl | rfl | rfl
  · simp -implicitDefEqProofs only [Def.start, exs, ex, ev, evs, evi, evo, evIfs, evAnd, evOr, asg, asgs, exh, tr_f, tr_b, tr_l, tr_u, R.bind_ok, R.bind_exc, R.st_ok, R.st_exc, R.calm_ok, R.of_some, Option.map_some, List.map, List.length, List.set, List.getElem?_cons_zero, List.getElem?_cons_succ, List.replicate, List.append_nil, List.cons_append, List.nil_append, List.any, Bool.or_false, Bool.not_true, Bool.not_false, isk_int, isk_bool, isk_str, isk_tuple, isk_list, isInt, isBool, isStr, isTup, asS_tup, asS_lst', asS_fls, lenh_tup, lenh_lst, lenh_fls, bltR_len, bltR_tuple, bltR_list, bltR_int, bltR_intb, bltR_min, bltR_max, opv_add, opv_sub, cmpv_lt, cmpv_le, cmpv_gt, cmpv_ge, cmpv_eqi, cmpv_nei, cmpv_eqs, cmpv_nes, cmpv_is, cmpv_isnot, G_ROUND, G_MOST_LAYERS, G_MOST_AGAIN, G_SMALL, G_MOST_FAILS, G_MOST_VALUES, G_FIGURES, G_MOST_CHOICE, fnEnd, decide_true, decide_false, if_true, itFuel, LW.wipe, opv_mod, opv_fdiv, alive_tup, alive_lst, alive_str, alive_int, alive_bl, alive_non, or_self, or_false, false_or, or_true, true_or, and_self, and_true, true_and, and_false, false_and, sub_t0, sub_t1, sub_t2, sub_l0, Int.reducePow, Int.reduceNeg, Int.reduceLE, Int.reduceLT, Int.reduceToNat, Int.reduceEq, Nat.reduceLT, Nat.reduceLeDiff, Nat.reduceAdd, Nat.reduceSub, Int.cast_ofNat_Int, Int.natCast_zero, Int.natCast_one, Int.reduceAdd, Int.reduceSub, Bool.and_self, Bool.and_true, Bool.true_and, Bool.and_false, Bool.false_and, Bool.or_true, Bool.true_or, Bool.or_self, Bool.false_or, reduceIte, reduceCtorEq, String.reduceEq, ne_eq, not_false_eq_true, not_true_eq_false, m7, m11, m13, m17, r3, r2, r4, r10, r20, r30, r100, rT, sub3i, m2a, fin, d__law_layer, layerW, Ly.pv]
  · simp -implicitDefEqProofs only [Def.start, exs, ex, ev, evs, evi, evo, evIfs, evAnd, evOr, asg, asgs, exh, tr_f, tr_b, tr_l, tr_u, R.bind_ok, R.bind_exc, R.st_ok, R.st_exc, R.calm_ok, R.of_some, Option.map_some, List.map, List.length, List.set, List.getElem?_cons_zero, List.getElem?_cons_succ, List.replicate, List.append_nil, List.cons_append, List.nil_append, List.any, Bool.or_false, Bool.not_true, Bool.not_false, isk_int, isk_bool, isk_str, isk_tuple, isk_list, isInt, isBool, isStr, isTup, asS_tup, asS_lst', asS_fls, lenh_tup, lenh_lst, lenh_fls, bltR_len, bltR_tuple, bltR_list, bltR_int, bltR_intb, bltR_min, bltR_max, opv_add, opv_sub, cmpv_lt, cmpv_le, cmpv_gt, cmpv_ge, cmpv_eqi, cmpv_nei, cmpv_eqs, cmpv_nes, cmpv_is, cmpv_isnot, G_ROUND, G_MOST_LAYERS, G_MOST_AGAIN, G_SMALL, G_MOST_FAILS, G_MOST_VALUES, G_FIGURES, G_MOST_CHOICE, fnEnd, decide_true, decide_false, if_true, itFuel, LW.wipe, opv_mod, opv_fdiv, alive_tup, alive_lst, alive_str, alive_int, alive_bl, alive_non, or_self, or_false, false_or, or_true, true_or, and_self, and_true, true_and, and_false, false_and, sub_t0, sub_t1, sub_t2, sub_l0, Int.reducePow, Int.reduceNeg, Int.reduceLE, Int.reduceLT, Int.reduceToNat, Int.reduceEq, Nat.reduceLT, Nat.reduceLeDiff, Nat.reduceAdd, Nat.reduceSub, Int.cast_ofNat_Int, Int.natCast_zero, Int.natCast_one, Int.reduceAdd, Int.reduceSub, Bool.and_self, Bool.and_true, Bool.true_and, Bool.and_false, Bool.false_and, Bool.or_true, Bool.true_or, Bool.or_self, Bool.false_or, reduceIte, reduceCtorEq, String.reduceEq, ne_eq, not_false_eq_true, not_true_eq_false, m7, m11, m13, m17, r3, r2, r4, r10, r20, r30, r100, rT, sub3i, m2a, fin, d__law_layer, layerW, Ly.pv]
  · simp -implicitDefEqProofs only [Def.start, exs, ex, ev, evs, evi, evo, evIfs, evAnd, evOr, asg, asgs, exh, tr_f, tr_b, tr_l, tr_u, R.bind_ok, R.bind_exc, R.st_ok, R.st_exc, R.calm_ok, R.of_some, Option.map_some, List.map, List.length, List.set, List.getElem?_cons_zero, List.getElem?_cons_succ, List.replicate, List.append_nil, List.cons_append, List.nil_append, List.any, Bool.or_false, Bool.not_true, Bool.not_false, isk_int, isk_bool, isk_str, isk_tuple, isk_list, isInt, isBool, isStr, isTup, asS_tup, asS_lst', asS_fls, lenh_tup, lenh_lst, lenh_fls, bltR_len, bltR_tuple, bltR_list, bltR_int, bltR_intb, bltR_min, bltR_max, opv_add, opv_sub, cmpv_lt, cmpv_le, cmpv_gt, cmpv_ge, cmpv_eqi, cmpv_nei, cmpv_eqs, cmpv_nes, cmpv_is, cmpv_isnot, G_ROUND, G_MOST_LAYERS, G_MOST_AGAIN, G_SMALL, G_MOST_FAILS, G_MOST_VALUES, G_FIGURES, G_MOST_CHOICE, fnEnd, decide_true, decide_false, if_true, itFuel, LW.wipe, opv_mod, opv_fdiv, alive_tup, alive_lst, alive_str, alive_int, alive_bl, alive_non, or_self, or_false, false_or, or_true, true_or, and_self, and_true, true_and, and_false, false_and, sub_t0, sub_t1, sub_t2, sub_l0, Int.reducePow, Int.reduceNeg, Int.reduceLE, Int.reduceLT, Int.reduceToNat, Int.reduceEq, Nat.reduceLT, Nat.reduceLeDiff, Nat.reduceAdd, Nat.reduceSub, Int.cast_ofNat_Int, Int.natCast_zero, Int.natCast_one, Int.reduceAdd, Int.reduceSub, Bool.and_self, Bool.and_true, Bool.true_and, Bool.and_false, Bool.false_and, Bool.or_true, Bool.true_or, Bool.or_self, Bool.false_or, reduceIte, reduceCtorEq, String.reduceEq, ne_eq, not_false_eq_true, not_true_eq_false, m7, m11, m13, m17, r3, r2, r4, r10, r20, r30, r100, rT, sub3i, eg, rg, m2a, fin, d__law_layer, layerW, Ly.pv]
  · simp -implicitDefEqProofs only [Def.start, exs, ex, ev, evs, evi, evo, evIfs, evAnd, evOr, asg, asgs, exh, tr_f, tr_b, tr_l, tr_u, R.bind_ok, R.bind_exc, R.st_ok, R.st_exc, R.calm_ok, R.of_some, Option.map_some, List.map, List.length, List.set, List.getElem?_cons_zero, List.getElem?_cons_succ, List.replicate, List.append_nil, List.cons_append, List.nil_append, List.any, Bool.or_false, Bool.not_true, Bool.not_false, isk_int, isk_bool, isk_str, isk_tuple, isk_list, isInt, isBool, isStr, isTup, asS_tup, asS_lst', asS_fls, lenh_tup, lenh_lst, lenh_fls, bltR_len, bltR_tuple, bltR_list, bltR_int, bltR_intb, bltR_min, bltR_max, opv_add, opv_sub, cmpv_lt, cmpv_le, cmpv_gt, cmpv_ge, cmpv_eqi, cmpv_nei, cmpv_eqs, cmpv_nes, cmpv_is, cmpv_isnot, G_ROUND, G_MOST_LAYERS, G_MOST_AGAIN, G_SMALL, G_MOST_FAILS, G_MOST_VALUES, G_FIGURES, G_MOST_CHOICE, fnEnd, decide_true, decide_false, if_true, itFuel, LW.wipe, opv_mod, opv_fdiv, alive_tup, alive_lst, alive_str, alive_int, alive_bl, alive_non, or_self, or_false, false_or, or_true, true_or, and_self, and_true, true_and, and_false, false_and, sub_t0, sub_t1, sub_t2, sub_l0, Int.reducePow, Int.reduceNeg, Int.reduceLE, Int.reduceLT, Int.reduceToNat, Int.reduceEq, Nat.reduceLT, Nat.reduceLeDiff, Nat.reduceAdd, Nat.reduceSub, Int.cast_ofNat_Int, Int.natCast_zero, Int.natCast_one, Int.reduceAdd, Int.reduceSub, Bool.and_self, Bool.and_true, Bool.true_and, Bool.and_false, Bool.false_and, Bool.or_true, Bool.true_or, Bool.or_self, Bool.false_or, reduceIte, reduceCtorEq, String.reduceEq, ne_eq, not_false_eq_true, not_true_eq_false, m7, m11, m13, m17, r3, r2, r4, r10, r20, r30, r100, rT, sub3i, m2a, fin, d__law_layer, layerW, Ly.pv]
    rw [et]
    exact get3P (P := fun x : Int => 0 ≤ x) (eT _) (by omega) (by omega) (by omega)
  · simp -implicitDefEqProofs only [Def.start, exs, ex, ev, evs, evi, evo, evIfs, evAnd, evOr, asg, asgs, exh, tr_f, tr_b, tr_l, tr_u, R.bind_ok, R.bind_exc, R.st_ok, R.st_exc, R.calm_ok, R.of_some, Option.map_some, List.map, List.length, List.set, List.getElem?_cons_zero, List.getElem?_cons_succ, List.replicate, List.append_nil, List.cons_append, List.nil_append, List.any, Bool.or_false, Bool.not_true, Bool.not_false, isk_int, isk_bool, isk_str, isk_tuple, isk_list, isInt, isBool, isStr, isTup, asS_tup, asS_lst', asS_fls, lenh_tup, lenh_lst, lenh_fls, bltR_len, bltR_tuple, bltR_list, bltR_int, bltR_intb, bltR_min, bltR_max, opv_add, opv_sub, cmpv_lt, cmpv_le, cmpv_gt, cmpv_ge, cmpv_eqi, cmpv_nei, cmpv_eqs, cmpv_nes, cmpv_is, cmpv_isnot, G_ROUND, G_MOST_LAYERS, G_MOST_AGAIN, G_SMALL, G_MOST_FAILS, G_MOST_VALUES, G_FIGURES, G_MOST_CHOICE, fnEnd, decide_true, decide_false, if_true, itFuel, LW.wipe, opv_mod, opv_fdiv, alive_tup, alive_lst, alive_str, alive_int, alive_bl, alive_non, or_self, or_false, false_or, or_true, true_or, and_self, and_true, true_and, and_false, false_and, sub_t0, sub_t1, sub_t2, sub_l0, Int.reducePow, Int.reduceNeg, Int.reduceLE, Int.reduceLT, Int.reduceToNat, Int.reduceEq, Nat.reduceLT, Nat.reduceLeDiff, Nat.reduceAdd, Nat.reduceSub, Int.cast_ofNat_Int, Int.natCast_zero, Int.natCast_one, Int.reduceAdd, Int.reduceSub, Bool.and_self, Bool.and_true, Bool.true_and, Bool.and_false, Bool.false_and, Bool.or_true, Bool.true_or, Bool.or_self, Bool.false_or, reduceIte, reduceCtorEq, String.reduceEq, ne_eq, not_false_eq_true, not_true_eq_false, m7, m11, m13, m17, r3, r2, r4, r10, r20, r30, r100, rT, sub3i, m2a, fin, d__law_layer, layerW, Ly.pv]
  · by_cases hp : s / 11 % 2 = 0
    · simp -implicitDefEqProofs only [Def.start, exs, ex, ev, evs, evi, evo, evIfs, evAnd, evOr, asg, asgs, exh, tr_f, tr_b, tr_l, tr_u, R.bind_ok, R.bind_exc, R.st_ok, R.st_exc, R.calm_ok, R.of_some, Option.map_some, List.map, List.length, List.set, List.getElem?_cons_zero, List.getElem?_cons_succ, List.replicate, List.append_nil, List.cons_append, List.nil_append, List.any, Bool.or_false, Bool.not_true, Bool.not_false, isk_int, isk_bool, isk_str, isk_tuple, isk_list, isInt, isBool, isStr, isTup, asS_tup, asS_lst', asS_fls, lenh_tup, lenh_lst, lenh_fls, bltR_len, bltR_tuple, bltR_list, bltR_int, bltR_intb, bltR_min, bltR_max, opv_add, opv_sub, cmpv_lt, cmpv_le, cmpv_gt, cmpv_ge, cmpv_eqi, cmpv_nei, cmpv_eqs, cmpv_nes, cmpv_is, cmpv_isnot, G_ROUND, G_MOST_LAYERS, G_MOST_AGAIN, G_SMALL, G_MOST_FAILS, G_MOST_VALUES, G_FIGURES, G_MOST_CHOICE, fnEnd, decide_true, decide_false, if_true, itFuel, LW.wipe, opv_mod, opv_fdiv, alive_tup, alive_lst, alive_str, alive_int, alive_bl, alive_non, or_self, or_false, false_or, or_true, true_or, and_self, and_true, true_and, and_false, false_and, sub_t0, sub_t1, sub_t2, sub_l0, Int.reducePow, Int.reduceNeg, Int.reduceLE, Int.reduceLT, Int.reduceToNat, Int.reduceEq, Nat.reduceLT, Nat.reduceLeDiff, Nat.reduceAdd, Nat.reduceSub, Int.cast_ofNat_Int, Int.natCast_zero, Int.natCast_one, Int.reduceAdd, Int.reduceSub, Bool.and_self, Bool.and_true, Bool.true_and, Bool.and_false, Bool.false_and, Bool.or_true, Bool.true_or, Bool.or_self, Bool.false_or, reduceIte, reduceCtorEq, String.reduceEq, ne_eq, not_false_eq_true, not_true_eq_false, m7, m11, m13, m17, r3, r2, r4, r10, r20, r30, r100, rT, sub3i, m2a, fin, d__law_layer, layerW, Ly.pv, hp]
      rw [et _ (by omega)]
    · simp -implicitDefEqProofs only [Def.start, exs, ex, ev, evs, evi, evo, evIfs, evAnd, evOr, asg, asgs, exh, tr_f, tr_b, tr_l, tr_u, R.bind_ok, R.bind_exc, R.st_ok, R.st_exc, R.calm_ok, R.of_some, Option.map_some, List.map, List.length, List.set, List.getElem?_cons_zero, List.getElem?_cons_succ, List.replicate, List.append_nil, List.cons_append, List.nil_append, List.any, Bool.or_false, Bool.not_true, Bool.not_false, isk_int, isk_bool, isk_str, isk_tuple, isk_list, isInt, isBool, isStr, isTup, asS_tup, asS_lst', asS_fls, lenh_tup, lenh_lst, lenh_fls, bltR_len, bltR_tuple, bltR_list, bltR_int, bltR_intb, bltR_min, bltR_max, opv_add, opv_sub, cmpv_lt, cmpv_le, cmpv_gt, cmpv_ge, cmpv_eqi, cmpv_nei, cmpv_eqs, cmpv_nes, cmpv_is, cmpv_isnot, G_ROUND, G_MOST_LAYERS, G_MOST_AGAIN, G_SMALL, G_MOST_FAILS, G_MOST_VALUES, G_FIGURES, G_MOST_CHOICE, fnEnd, decide_true, decide_false, if_true, itFuel, LW.wipe, opv_mod, opv_fdiv, alive_tup, alive_lst, alive_str, alive_int, alive_bl, alive_non, or_self, or_false, false_or, or_true, true_or, and_self, and_true, true_and, and_false, false_and, sub_t0, sub_t1, sub_t2, sub_l0, Int.reducePow, Int.reduceNeg, Int.reduceLE, Int.reduceLT, Int.reduceToNat, Int.reduceEq, Nat.reduceLT, Nat.reduceLeDiff, Nat.reduceAdd, Nat.reduceSub, Int.cast_ofNat_Int, Int.natCast_zero, Int.natCast_one, Int.reduceAdd, Int.reduceSub, Bool.and_self, Bool.and_true, Bool.true_and, Bool.and_false, Bool.false_and, Bool.or_true, Bool.true_or, Bool.or_self, Bool.false_or, reduceIte, reduceCtorEq, String.reduceEq, ne_eq, not_false_eq_true, not_true_eq_false, m7, m11, m13, m17, r3, r2, r4, r10, r20, r30, r100, rT, sub3i, m2a, fin, d__law_layer, layerW, Ly.pv, hp]
      rw [et _ (by omega)]
  · by_cases hp : s / 11 % 2 = 0
    · simp -implicitDefEqProofs only [Def.start, exs, ex, ev, evs, evi, evo, evIfs, evAnd, evOr, asg, asgs, exh, tr_f, tr_b, tr_l, tr_u, R.bind_ok, R.bind_exc, R.st_ok, R.st_exc, R.calm_ok, R.of_some, Option.map_some, List.map, List.length, List.set, List.getElem?_cons_zero, List.getElem?_cons_succ, List.replicate, List.append_nil, List.cons_append, List.nil_append, List.any, Bool.or_false, Bool.not_true, Bool.not_false, isk_int, isk_bool, isk_str, isk_tuple, isk_list, isInt, isBool, isStr, isTup, asS_tup, asS_lst', asS_fls, lenh_tup, lenh_lst, lenh_fls, bltR_len, bltR_tuple, bltR_list, bltR_int, bltR_intb, bltR_min, bltR_max, opv_add, opv_sub, cmpv_lt, cmpv_le, cmpv_gt, cmpv_ge, cmpv_eqi, cmpv_nei, cmpv_eqs, cmpv_nes, cmpv_is, cmpv_isnot, G_ROUND, G_MOST_LAYERS, G_MOST_AGAIN, G_SMALL, G_MOST_FAILS, G_MOST_VALUES, G_FIGURES, G_MOST_CHOICE, fnEnd, decide_true, decide_false, if_true, itFuel, LW.wipe, opv_mod, opv_fdiv, alive_tup, alive_lst, alive_str, alive_int, alive_bl, alive_non, or_self, or_false, false_or, or_true, true_or, and_self, and_true, true_and, and_false, false_and, sub_t0, sub_t1, sub_t2, sub_l0, Int.reducePow, Int.reduceNeg, Int.reduceLE, Int.reduceLT, Int.reduceToNat, Int.reduceEq, Nat.reduceLT, Nat.reduceLeDiff, Nat.reduceAdd, Nat.reduceSub, Int.cast_ofNat_Int, Int.natCast_zero, Int.natCast_one, Int.reduceAdd, Int.reduceSub, Bool.and_self, Bool.and_true, Bool.true_and, Bool.and_false, Bool.false_and, Bool.or_true, Bool.true_or, Bool.or_self, Bool.false_or, reduceIte, reduceCtorEq, String.reduceEq, ne_eq, not_false_eq_true, not_true_eq_false, m7, m11, m13, m17, r3, r2, r4, r10, r20, r30, r100, rT, sub3i, m2a, fin, d__law_layer, layerW, Ly.pv, hp]
      rw [et _ (by omega)]
    · simp -implicitDefEqProofs only [Def.start, exs, ex, ev, evs, evi, evo, evIfs, evAnd, evOr, asg, asgs, exh, tr_f, tr_b, tr_l, tr_u, R.bind_ok, R.bind_exc, R.st_ok, R.st_exc, R.calm_ok, R.of_some, Option.map_some, List.map, List.length, List.set, List.getElem?_cons_zero, List.getElem?_cons_succ, List.replicate, List.append_nil, List.cons_append, List.nil_append, List.any, Bool.or_false, Bool.not_true, Bool.not_false, isk_int, isk_bool, isk_str, isk_tuple, isk_list, isInt, isBool, isStr, isTup, asS_tup, asS_lst', asS_fls, lenh_tup, lenh_lst, lenh_fls, bltR_len, bltR_tuple, bltR_list, bltR_int, bltR_intb, bltR_min, bltR_max, opv_add, opv_sub, cmpv_lt, cmpv_le, cmpv_gt, cmpv_ge, cmpv_eqi, cmpv_nei, cmpv_eqs, cmpv_nes, cmpv_is, cmpv_isnot, G_ROUND, G_MOST_LAYERS, G_MOST_AGAIN, G_SMALL, G_MOST_FAILS, G_MOST_VALUES, G_FIGURES, G_MOST_CHOICE, fnEnd, decide_true, decide_false, if_true, itFuel, LW.wipe, opv_mod, opv_fdiv, alive_tup, alive_lst, alive_str, alive_int, alive_bl, alive_non, or_self, or_false, false_or, or_true, true_or, and_self, and_true, true_and, and_false, false_and, sub_t0, sub_t1, sub_t2, sub_l0, Int.reducePow, Int.reduceNeg, Int.reduceLE, Int.reduceLT, Int.reduceToNat, Int.reduceEq, Nat.reduceLT, Nat.reduceLeDiff, Nat.reduceAdd, Nat.reduceSub, Int.cast_ofNat_Int, Int.natCast_zero, Int.natCast_one, Int.reduceAdd, Int.reduceSub, Bool.and_self, Bool.and_true, Bool.true_and, Bool.and_false, Bool.false_and, Bool.or_true, Bool.true_or, Bool.or_self, Bool.false_or, reduceIte, reduceCtorEq, String.reduceEq, ne_eq, not_false_eq_true, not_true_eq_false, m7, m11, m13, m17, r3, r2, r4, r10, r20, r30, r100, rT, sub3i, m2a, fin, d__law_layer, layerW, Ly.pv, hp]
      rw [et _ (by omega)]
  · simp -implicitDefEqProofs only [Def.start, exs, ex, ev, evs, evi, evo, evIfs, evAnd, evOr, asg, asgs, exh, tr_f, tr_b, tr_l, tr_u, R.bind_ok, R.bind_exc, R.st_ok, R.st_exc, R.calm_ok, R.of_some, Option.map_some, List.map, List.length, List.set, List.getElem?_cons_zero, List.getElem?_cons_succ, List.replicate, List.append_nil, List.cons_append, List.nil_append, List.any, Bool.or_false, Bool.not_true, Bool.not_false, isk_int, isk_bool, isk_str, isk_tuple, isk_list, isInt, isBool, isStr, isTup, asS_tup, asS_lst', asS_fls, lenh_tup, lenh_lst, lenh_fls, bltR_len, bltR_tuple, bltR_list, bltR_int, bltR_intb, bltR_min, bltR_max, opv_add, opv_sub, cmpv_lt, cmpv_le, cmpv_gt, cmpv_ge, cmpv_eqi, cmpv_nei, cmpv_eqs, cmpv_nes, cmpv_is, cmpv_isnot, G_ROUND, G_MOST_LAYERS, G_MOST_AGAIN, G_SMALL, G_MOST_FAILS, G_MOST_VALUES, G_FIGURES, G_MOST_CHOICE, fnEnd, decide_true, decide_false, if_true, itFuel, LW.wipe, opv_mod, opv_fdiv, alive_tup, alive_lst, alive_str, alive_int, alive_bl, alive_non, or_self, or_false, false_or, or_true, true_or, and_self, and_true, true_and, and_false, false_and, sub_t0, sub_t1, sub_t2, sub_l0, Int.reducePow, Int.reduceNeg, Int.reduceLE, Int.reduceLT, Int.reduceToNat, Int.reduceEq, Nat.reduceLT, Nat.reduceLeDiff, Nat.reduceAdd, Nat.reduceSub, Int.cast_ofNat_Int, Int.natCast_zero, Int.natCast_one, Int.reduceAdd, Int.reduceSub, Bool.and_self, Bool.and_true, Bool.true_and, Bool.and_false, Bool.false_and, Bool.or_true, Bool.true_or, Bool.or_self, Bool.false_or, reduceIte, reduceCtorEq, String.reduceEq, ne_eq, not_false_eq_true, not_true_eq_false, m7, m11, m13, m17, r3, r2, r4, r10, r20, r30, r100, rT, sub3s, m2a, fin, d__law_layer, layerW, Ly.pv]
def layersM (ns : List Int) (a most : Nat) (ks : List String) : List Ly := (List.range (mixM (cellM ns a) 9949 (most + 1)).toNat).map fun (k : Nat) => layerM (seedM (cellM ns (a + 1 + k % 4) + 37 * k) k) ks
theorem layersM_len (ns : List Int) (a most : Nat) (ks : List String) : (layersM ns a most ks).length ≤ most := by
  unfold layersM
  rw [List.length_map, List.length_range]
  have h1 : mixM (cellM ns a) 9949 (most + 1) < most + 1 := Int.emod_lt_of_pos _ (by omega)
  omega
theorem layersM_ok (ns : List Int) (a most : Nat) (ks : List String) : lok (layersM ns a most ks) = true := by
  simp only [lok, List.all_eq_true, layersM]
  intro x hx
  obtain ⟨k, _, rfl⟩ := List.mem_map.mp hx
  exact layerW_ok _ _
theorem layerM_word {s : Int} {ks : List String} (hk : ∀ w ∈ ks, w ∈ words8) (h0 : 0 < ks.length) : (layerM s ks).word ∈ ks := by
  have kk : 0 ≤ pickM s (ks.length : Nat) ∧ pickM s (ks.length : Nat) < (ks.length : Nat) := mod_ok (x := s / 97) (by omega)
  have hi : (pickM s ks.length).toNat < ks.length := by omega
  have hm : ks.getD (pickM s ks.length).toNat "" ∈ ks := by simp [List.getD, List.getElem?_eq_getElem hi]
  unfold layerM
  rw [layerW_word _ _ (hk _ hm)]
  exact hm
theorem layersM_word {ns : List Int} {a most : Nat} {ks : List String} (hk : ∀ w ∈ ks, w ∈ words8) (h0 : 0 < ks.length) {l : Ly} (hl : l ∈ layersM ns a most ks) : l.word ∈ ks := by
  obtain ⟨k, _, rfl⟩ := List.mem_map.mp hl
  exact layerM_word hk h0
theorem sp_kinds : fn (tb L xs) (d + 1) "_law_kinds" [] h = .ok (.lst (words8.map .str)) h := by
  rw [fn_run T_d__law_kinds rfl]
  simp -implicitDefEqProofs only [Def.start, exs, ex, ev, evs, evi, evo, evIfs, evAnd, evOr, asg, asgs, exh, tr_f, tr_b, tr_l, tr_u, R.bind_ok, R.bind_exc, R.st_ok, R.st_exc, R.calm_ok, R.of_some, Option.map_some, List.map, List.length, List.set, List.getElem?_cons_zero, List.getElem?_cons_succ, List.replicate, List.append_nil, List.cons_append, List.nil_append, List.any, Bool.or_false, Bool.not_true, Bool.not_false, isk_int, isk_bool, isk_str, isk_tuple, isk_list, isInt, isBool, isStr, isTup, asS_tup, asS_lst', asS_fls, lenh_tup, lenh_lst, lenh_fls, bltR_len, bltR_tuple, bltR_list, bltR_int, bltR_intb, bltR_min, bltR_max, opv_add, opv_sub, cmpv_lt, cmpv_le, cmpv_gt, cmpv_ge, cmpv_eqi, cmpv_nei, cmpv_eqs, cmpv_nes, cmpv_is, cmpv_isnot, G_ROUND, G_MOST_LAYERS, G_MOST_AGAIN, G_SMALL, G_MOST_FAILS, G_MOST_VALUES, G_FIGURES, G_MOST_CHOICE, fnEnd, decide_true, decide_false, if_true, itFuel, LW.wipe, opv_mod, opv_fdiv, alive_tup, alive_lst, alive_str, alive_int, alive_bl, alive_non, or_self, or_false, false_or, or_true, true_or, and_self, and_true, true_and, and_false, false_and, sub_t0, sub_t1, sub_t2, sub_l0, Int.reducePow, Int.reduceNeg, Int.reduceLE, Int.reduceLT, Int.reduceToNat, Int.reduceEq, Nat.reduceLT, Nat.reduceLeDiff, Nat.reduceAdd, Nat.reduceSub, Int.cast_ofNat_Int, Int.natCast_zero, Int.natCast_one, Int.reduceAdd, Int.reduceSub, Bool.and_self, Bool.and_true, Bool.true_and, Bool.and_false, Bool.false_and, Bool.or_true, Bool.true_or, Bool.or_self, Bool.false_or, reduceIte, reduceCtorEq, String.reduceEq, ne_eq, not_false_eq_true, not_true_eq_false, d__law_kinds, fin, words8]
theorem below_ly (n : Nat) (l : Ly) : below n l.pv = true := by cases l <;> rfl
theorem below_lpv (n : Nat) (ls : List Ly) : below n (lpv ls) = true := belows_map (below_ly n) ls
theorem sp_layers {ns : List Int} {sc : PV} (hs : isScr sc ns) (a most : Nat) (hm : most < 1000) {ks : List String} (hk : ∀ w ∈ ks, w ∈ words8) (hk0 : 0 < ks.length) : fn (tb L xs) (d + 3) "_law_layers" [sc, .int a, .int most, .lst (ks.map .str)] h = .ok (lpv (layersM ns a most ks)) h := by
  rw [fn_run T_d__law_layers rfl]
  have ec : ∀ (d : Nat) (j : Nat) (h : HP), fn (tb L xs) (d + 1) "_law_cell" [sc, .int j] h = .ok (.int (cellM ns j)) h := fun d j h => sp_cell hs j
  have em : ∀ (d : Nat) (h : HP), fn (tb L xs) (d + 1) "_law_mix" [.int (cellM ns a), .int 9949, .int (most + 1)] h = .ok (.int (mixM (cellM ns a) 9949 (most + 1))) h := fun d h => sp_mix (by decide) (by decide) (by omega)
  have h0 : 0 ≤ mixM (cellM ns a) 9949 (most + 1) := Int.emod_nonneg _ (by omega)
  have h1 : mixM (cellM ns a) 9949 (most + 1) < most + 1 := Int.emod_lt_of_pos _ (by omega)
  have m1 : -4611686018427387904 ≤ mixM (cellM ns a) 9949 (most + 1) := by omega
  have m2 : mixM (cellM ns a) 9949 (most + 1) < 4611686018427387904 := by omega
  have hn : (mixM (cellM ns a) 9949 (most + 1)).toNat ≤ 1000 := by omega
  let lay : Nat → Ly := fun k => layerM (seedM (cellM ns (a + 1 + k % 4) + 37 * k) k) ks
  have hres : layersM ns a most ks = (List.range (mixM (cellM ns a) 9949 (most + 1)).toNat).map lay := rfl
  rw [hres]
  generalize (mixM (cellM ns a) 9949 (most + 1)) = m at *
  simp -implicitDefEqProofs only [Def.start, exs, ex, ev, evs, evi, evo, evIfs, evAnd, evOr, asg, asgs, exh, tr_f, tr_b, tr_l, tr_u, R.bind_ok, R.bind_exc, R.st_ok, R.st_exc, R.calm_ok, R.of_some, Option.map_some, List.map, List.length, List.set, List.getElem?_cons_zero, List.getElem?_cons_succ, List.replicate, List.append_nil, List.cons_append, List.nil_append, List.any, Bool.or_false, Bool.not_true, Bool.not_false, isk_int, isk_bool, isk_str, isk_tuple, isk_list, isInt, isBool, isStr, isTup, asS_tup, asS_lst', asS_fls, lenh_tup, lenh_lst, lenh_fls, bltR_len, bltR_tuple, bltR_list, bltR_int, bltR_intb, bltR_min, bltR_max, opv_add, opv_sub, cmpv_lt, cmpv_le, cmpv_gt, cmpv_ge, cmpv_eqi, cmpv_nei, cmpv_eqs, cmpv_nes, cmpv_is, cmpv_isnot, G_ROUND, G_MOST_LAYERS, G_MOST_AGAIN, G_SMALL, G_MOST_FAILS, G_MOST_VALUES, G_FIGURES, G_MOST_CHOICE, fnEnd, decide_true, decide_false, if_true, itFuel, LW.wipe, opv_mod, opv_fdiv, alive_tup, alive_lst, alive_str, alive_int, alive_bl, alive_non, or_self, or_false, false_or, or_true, true_or, and_self, and_true, true_and, and_false, false_and, sub_t0, sub_t1, sub_t2, sub_l0, Int.reducePow, Int.reduceNeg, Int.reduceLE, Int.reduceLT, Int.reduceToNat, Int.reduceEq, Nat.reduceLT, Nat.reduceLeDiff, Nat.reduceAdd, Nat.reduceSub, Int.cast_ofNat_Int, Int.natCast_zero, Int.natCast_one, Int.reduceAdd, Int.reduceSub, Bool.and_self, Bool.and_true, Bool.true_and, Bool.and_false, Bool.false_and, Bool.or_true, Bool.true_or, Bool.or_self, Bool.false_or, reduceIte, reduceCtorEq, String.reduceEq, ne_eq, not_false_eq_true, not_true_eq_false, d__law_layers, ec, em, m1, m2]
  generalize hz : forG _ _ _ _ _ _ = z
  obtain ⟨σ1, h1, rfl, o1, rfl, rfl⟩ := range0_run hz (fun i σ' h' => ∃ o1, σ' = [some sc, some (.int a), some (.int most), some (.lst (ks.map .str)), some (.ref h.length), o1] ∧ h' = h ++ [.lst ((List.range i).map fun j => (lay j).pv)]) ⟨none, rfl, rfl⟩ (fun i σ' h' hi ⟨o1, e1, e2⟩ => by
      subst e1 e2
      have hlt : i < lineN := by rw [lineN_eq]; omega
      have ei : ((a : Int) + 1 + (i : Int) % 4) = ((a + 1 + i % 4 : Nat) : Int) := by omega
      have ec2 : ∀ h, fn (tb L xs) (d + 2) "_law_cell" [sc, .int ((a : Int) + 1 + (i : Int) % 4)] h = .ok (.int (cellM ns (a + 1 + i % 4))) h := fun h => by rw [ei]; exact ec (d + 1) _ h
      have e41 : ∀ h, opv h .mul (.int 37) (.int (i : Int)) = some (.int (37 * (i : Int))) := fun h => opv_mul (.inl (by decide))
      have r4 : ∀ (x : Int) (h : HP), opv h .mod (.int x) (.int 4) = some (.int (x % 4)) := fun x h => opv_mod (by decide)
      refine ⟨_, _, ?_, some (.int (i : Nat)), rfl, rfl⟩
      simp -implicitDefEqProofs [ec2, e41, r4, sp_seed, sp_layer hk hk0, rcv, bmv, hlt, List.range_succ, lay])
  have hb : below h.length (lpv ((List.range m.toNat).map lay)) = true := below_lpv _ _
  have e2 : asS (h ++ [.lst ((List.range m.toNat).map fun j => (lay j).pv)]) (.ref h.length) = some (((List.range m.toNat).map lay).map Ly.pv) := by
    simp only [asS, asL, get_last, List.map_map]
    rfl
  simp -implicitDefEqProofs only [Def.start, exs, ex, ev, evs, evi, evo, evIfs, evAnd, evOr, asg, asgs, exh, tr_f, tr_b, tr_l, tr_u, R.bind_ok, R.bind_exc, R.st_ok, R.st_exc, R.calm_ok, R.of_some, Option.map_some, List.map, List.length, List.set, List.getElem?_cons_zero, List.getElem?_cons_succ, List.replicate, List.append_nil, List.cons_append, List.nil_append, List.any, Bool.or_false, Bool.not_true, Bool.not_false, isk_int, isk_bool, isk_str, isk_tuple, isk_list, isInt, isBool, isStr, isTup, asS_tup, asS_lst', asS_fls, lenh_tup, lenh_lst, lenh_fls, bltR_len, bltR_tuple, bltR_list, bltR_int, bltR_intb, bltR_min, bltR_max, opv_add, opv_sub, cmpv_lt, cmpv_le, cmpv_gt, cmpv_ge, cmpv_eqi, cmpv_nei, cmpv_eqs, cmpv_nes, cmpv_is, cmpv_isnot, G_ROUND, G_MOST_LAYERS, G_MOST_AGAIN, G_SMALL, G_MOST_FAILS, G_MOST_VALUES, G_FIGURES, G_MOST_CHOICE, fnEnd, decide_true, decide_false, if_true, itFuel, LW.wipe, opv_mod, opv_fdiv, alive_tup, alive_lst, alive_str, alive_int, alive_bl, alive_non, or_self, or_false, false_or, or_true, true_or, and_self, and_true, true_and, and_false, false_and, sub_t0, sub_t1, sub_t2, sub_l0, Int.reducePow, Int.reduceNeg, Int.reduceLE, Int.reduceLT, Int.reduceToNat, Int.reduceEq, Nat.reduceLT, Nat.reduceLeDiff, Nat.reduceAdd, Nat.reduceSub, Int.cast_ofNat_Int, Int.natCast_zero, Int.natCast_one, Int.reduceAdd, Int.reduceSub, Bool.and_self, Bool.and_true, Bool.true_and, Bool.and_false, Bool.false_and, Bool.or_true, Bool.true_or, Bool.or_self, Bool.false_or, reduceIte, reduceCtorEq, String.reduceEq, ne_eq, not_false_eq_true, not_true_eq_false, e2]
  exact fin_scratch rfl hb
/-! ### loops over lists -/
def forL (step : PV → Sg → HP → R Fl) : List PV → Sg → HP → R Fl
  | [], σ, h => .ok (.nx σ) h
  | x :: r, σ, h => (step x σ h).bind fun fl h => match fl with
    | .nx σ' => forL step r σ' h
    | .brk σ' => .ok (.nx σ') h
    | .ret v => .ok (.ret v) h
    | .xc c σ' => .ok (.xc c σ') h
theorem forG_eq {it : ItV} {step : PV → Sg → HP → R Fl} {vs : List PV} (hit : ∀ i h, itAt h it i = some vs[i]?) : ∀ k i σ h, i + k = vs.length → forG it step (k + 1) i σ h = forL step (vs.drop i) σ h
  | 0, i, σ, h, e => by
    rw [forG, hit, List.getElem?_eq_none (by omega), List.drop_eq_nil_of_le (by omega)]
    rfl
  | k + 1, i, σ, h, e => by
    have hi : i < vs.length := by omega
    rw [forG, hit, List.getElem?_eq_getElem hi, List.drop_eq_getElem_cons hi, forL]
    simp only
    congr 1
    funext fl h
    cases fl <;> simp only
    exact forG_eq hit k (i + 1) _ _ (by omega)
def enumL : Nat → List PV → List PV
  | _, [] => []
  | i, x :: r => .tup [.int i, x] :: enumL (i + 1) r
theorem enumL_get : ∀ (vs : List PV) (i k : Nat), (enumL i vs)[k]? = vs[k]?.map fun x => .tup [.int ((i + k : Nat) : Int), x]
  | [], i, k => by simp [enumL]
  | x :: r, i, 0 => by simp [enumL]
  | x :: r, i, k + 1 => by
    rw [enumL, List.getElem?_cons_succ, List.getElem?_cons_succ, enumL_get r (i + 1) k, show i + 1 + k = i + (k + 1) by omega]
theorem enumL_len : ∀ (vs : List PV) (i : Nat), (enumL i vs).length = vs.length
  | [], i => rfl
  | x :: r, i => by simp [enumL, enumL_len r]
theorem forG_tup {vs : List PV} {step : PV → Sg → HP → R Fl} {σ : Sg} : forG (.seq (.tup vs)) step (vs.length + 1) 0 σ h = forL step vs σ h := by
  have := forG_eq (it := .seq (.tup vs)) (step := step) (vs := vs) (fun i h => still_seq rfl h i) vs.length 0 σ h (by omega)
  exact this
theorem forG_lst {vs : List PV} {step : PV → Sg → HP → R Fl} {σ : Sg} : forG (.seq (.lst vs)) step (vs.length + 1) 0 σ h = forL step vs σ h := by
  have := forG_eq (it := .seq (.lst vs)) (step := step) (vs := vs) (fun i h => still_seq rfl h i) vs.length 0 σ h (by omega)
  exact this
theorem forG_etup {vs : List PV} {step : PV → Sg → HP → R Fl} {σ : Sg} : forG (.enum (.tup vs)) step (vs.length + 1) 0 σ h = forL step (enumL 0 vs) σ h := by
  have := forG_eq (it := .enum (.tup vs)) (step := step) (vs := enumL 0 vs) (fun i h => by rw [still_enum rfl, enumL_get]; simp) vs.length 0 σ h (by rw [enumL_len]; omega)
  exact this
theorem forG_elst {vs : List PV} {step : PV → Sg → HP → R Fl} {σ : Sg} : forG (.enum (.lst vs)) step (vs.length + 1) 0 σ h = forL step (enumL 0 vs) σ h := by
  have := forG_eq (it := .enum (.lst vs)) (step := step) (vs := enumL 0 vs) (fun i h => by rw [still_enum rfl, enumL_get]; simp) vs.length 0 σ h (by rw [enumL_len]; omega)
  exact this
theorem forL_go {step : PV → Sg → HP → R Fl} (inv : Nat → Sg → HP → Prop) : ∀ (vs : List PV) (k : Nat)
    (hs : ∀ i x σ h, vs[i]? = some x → inv (k + i) σ h → ∃ σ' h', step x σ h = .ok (.nx σ') h' ∧ inv (k + i + 1) σ' h') {σ : Sg} {h : HP} (p : inv k σ h), ∃ σ' h', forL step vs σ h = .ok (.nx σ') h' ∧ inv (k + vs.length) σ' h'
  | [], k, hs, σ, h, p => ⟨σ, h, rfl, p⟩
  | x :: r, k, hs, σ, h, p => by
    obtain ⟨σ1, h1, e1, p1⟩ := hs 0 x σ h rfl p
    obtain ⟨σ2, h2, e2, p2⟩ := forL_go inv r (k + 1) (fun i x σ h hx q => by
      have := hs (i + 1) x σ h hx (by rw [show k + (i + 1) = k + 1 + i by omega]; exact q)
      rw [show k + (i + 1) = k + 1 + i by omega] at this
      exact this) p1
    refine ⟨σ2, h2, ?_, by rw [List.length_cons, show k + (r.length + 1) = k + 1 + r.length by omega]; exact p2⟩
    rw [forL, e1]
    exact e2
theorem forL_run {vs : List PV} {step : PV → Sg → HP → R Fl} {σ : Sg} {h : HP} {z : R Fl} (hz : forL step vs σ h = z) (inv : Nat → Sg → HP → Prop) (p : inv 0 σ h)
    (hs : ∀ i x σ h, vs[i]? = some x → inv i σ h → ∃ σ' h', step x σ h = .ok (.nx σ') h' ∧ inv (i + 1) σ' h') : ∃ σ' h', z = .ok (.nx σ') h' ∧ inv vs.length σ' h' := by
  subst hz
  have := forL_go inv vs 0 (fun i x σ h hx q => by rw [Nat.zero_add] at *; exact hs i x σ h hx q) p
  rw [Nat.zero_add] at this
  exact this
/-! ### whether answers can be bad -/
def canFail : List Ly → Bool
  | [] => true
  | .instead _ :: _ => false
  | .gate _ _ :: _ => true
  | .few _ :: _ => true
  | _ :: r => canFail r
theorem pv_word (l : Ly) : ∃ r, l.pv = .tup (.str l.word :: r) := by cases l <;> exact ⟨_, rfl⟩
theorem sub_word (l : Ly) : subv h l.pv (.int 0) = some (.str l.word) := by cases l <;> rfl
theorem sp_can_fail : ∀ ls : List Ly, fn (tb L xs) (d + 1) "can_fail" [lpv ls] h = .ok (.bl (canFail ls)) h := by
  intro ls
  rw [fn_run T_d_can_fail rfl]
  have main : ∀ (ls : List Ly) (o : Option PV) (v : PV), exs (tb L xs) (fn (tb L xs) d) [.ret (.lit (.bl true))] [some v, none] h = .ok (.ret (.bl true)) h := fun _ _ _ => rfl
  simp -implicitDefEqProofs only [Def.start, exs, ex, ev, evs, evi, evo, evIfs, evAnd, evOr, asg, asgs, exh, tr_f, tr_b, tr_l, tr_u, R.bind_ok, R.bind_exc, R.st_ok, R.st_exc, R.calm_ok, R.of_some, Option.map_some, List.map, List.length, List.set, List.getElem?_cons_zero, List.getElem?_cons_succ, List.replicate, List.append_nil, List.cons_append, List.nil_append, List.any, Bool.or_false, Bool.not_true, Bool.not_false, isk_int, isk_bool, isk_str, isk_tuple, isk_list, isInt, isBool, isStr, isTup, asS_tup, asS_lst', asS_fls, lenh_tup, lenh_lst, lenh_fls, bltR_len, bltR_tuple, bltR_list, bltR_int, bltR_intb, bltR_min, bltR_max, opv_add, opv_sub, cmpv_lt, cmpv_le, cmpv_gt, cmpv_ge, cmpv_eqi, cmpv_nei, cmpv_eqs, cmpv_nes, cmpv_is, cmpv_isnot, G_ROUND, G_MOST_LAYERS, G_MOST_AGAIN, G_SMALL, G_MOST_FAILS, G_MOST_VALUES, G_FIGURES, G_MOST_CHOICE, fnEnd, decide_true, decide_false, if_true, itFuel, LW.wipe, opv_mod, opv_fdiv, alive_tup, alive_lst, alive_str, alive_int, alive_bl, alive_non, or_self, or_false, false_or, or_true, true_or, and_self, and_true, true_and, and_false, false_and, sub_t0, sub_t1, sub_t2, sub_l0, Int.reducePow, Int.reduceNeg, Int.reduceLE, Int.reduceLT, Int.reduceToNat, Int.reduceEq, Nat.reduceLT, Nat.reduceLeDiff, Nat.reduceAdd, Nat.reduceSub, Int.cast_ofNat_Int, Int.natCast_zero, Int.natCast_one, Int.reduceAdd, Int.reduceSub, Bool.and_self, Bool.and_true, Bool.true_and, Bool.and_false, Bool.false_and, Bool.or_true, Bool.true_or, Bool.or_self, Bool.false_or, reduceIte, reduceCtorEq, String.reduceEq, ne_eq, not_false_eq_true, not_true_eq_false, Option.getD_some, forG_tup, forG_lst, forG_etup, forG_elst, sub_word, mem2, mem3, d_can_fail, lpv]
  generalize hstep : (fun x σ h => _ : PV → Sg → HP → R Fl) = step
  have hs : ∀ (l : Ly) (a : PV) (o : Option PV), step l.pv [some a, o] h = if l.word = "instead" ∨ l.word = "gate" ∨ l.word = "few" then .ok (.ret (.bl (!decide (l.word = "instead")))) h else .ok (.nx [some a, some l.pv]) h := fun l a o => by
    rw [← hstep]
    by_cases hw : l.word = "instead" ∨ l.word = "gate" ∨ l.word = "few" <;> simp -implicitDefEqProofs only [Def.start, exs, ex, ev, evs, evi, evo, evIfs, evAnd, evOr, asg, asgs, exh, tr_f, tr_b, tr_l, tr_u, R.bind_ok, R.bind_exc, R.st_ok, R.st_exc, R.calm_ok, R.of_some, Option.map_some, List.map, List.length, List.set, List.getElem?_cons_zero, List.getElem?_cons_succ, List.replicate, List.append_nil, List.cons_append, List.nil_append, List.any, Bool.or_false, Bool.not_true, Bool.not_false, isk_int, isk_bool, isk_str, isk_tuple, isk_list, isInt, isBool, isStr, isTup, asS_tup, asS_lst', asS_fls, lenh_tup, lenh_lst, lenh_fls, bltR_len, bltR_tuple, bltR_list, bltR_int, bltR_intb, bltR_min, bltR_max, opv_add, opv_sub, cmpv_lt, cmpv_le, cmpv_gt, cmpv_ge, cmpv_eqi, cmpv_nei, cmpv_eqs, cmpv_nes, cmpv_is, cmpv_isnot, G_ROUND, G_MOST_LAYERS, G_MOST_AGAIN, G_SMALL, G_MOST_FAILS, G_MOST_VALUES, G_FIGURES, G_MOST_CHOICE, fnEnd, decide_true, decide_false, if_true, itFuel, LW.wipe, opv_mod, opv_fdiv, alive_tup, alive_lst, alive_str, alive_int, alive_bl, alive_non, or_self, or_false, false_or, or_true, true_or, and_self, and_true, true_and, and_false, false_and, sub_t0, sub_t1, sub_t2, sub_l0, Int.reducePow, Int.reduceNeg, Int.reduceLE, Int.reduceLT, Int.reduceToNat, Int.reduceEq, Nat.reduceLT, Nat.reduceLeDiff, Nat.reduceAdd, Nat.reduceSub, Int.cast_ofNat_Int, Int.natCast_zero, Int.natCast_one, Int.reduceAdd, Int.reduceSub, Bool.and_self, Bool.and_true, Bool.true_and, Bool.and_false, Bool.false_and, Bool.or_true, Bool.true_or, Bool.or_self, Bool.false_or, reduceIte, reduceCtorEq, String.reduceEq, ne_eq, not_false_eq_true, not_true_eq_false, sub_word, mem3, hw]
  have key : ∀ (ls : List Ly) (a : PV) (o : Option PV), (∃ o', forL step (ls.map Ly.pv) [some a, o] h = .ok (.nx [some a, o']) h ∧ canFail ls = true) ∨ forL step (ls.map Ly.pv) [some a, o] h = .ok (.ret (.bl (canFail ls))) h := by
    intro ls
    induction ls with
    | nil => exact fun a o => .inl ⟨o, rfl, rfl⟩
    | cons l ls ih =>
      intro a o
      rw [List.map_cons, forL, hs]
      have := ih a (some l.pv)
      cases l <;> simp [Ly.word, canFail] at this ⊢ <;> exact this
  rcases key ls (.tup (ls.map Ly.pv)) none with ⟨o', e, e2⟩ | e
  · rw [e]
    simp -implicitDefEqProofs only [Def.start, exs, ex, ev, evs, evi, evo, evIfs, evAnd, evOr, asg, asgs, exh, tr_f, tr_b, tr_l, tr_u, R.bind_ok, R.bind_exc, R.st_ok, R.st_exc, R.calm_ok, R.of_some, Option.map_some, List.map, List.length, List.set, List.getElem?_cons_zero, List.getElem?_cons_succ, List.replicate, List.append_nil, List.cons_append, List.nil_append, List.any, Bool.or_false, Bool.not_true, Bool.not_false, isk_int, isk_bool, isk_str, isk_tuple, isk_list, isInt, isBool, isStr, isTup, asS_tup, asS_lst', asS_fls, lenh_tup, lenh_lst, lenh_fls, bltR_len, bltR_tuple, bltR_list, bltR_int, bltR_intb, bltR_min, bltR_max, opv_add, opv_sub, cmpv_lt, cmpv_le, cmpv_gt, cmpv_ge, cmpv_eqi, cmpv_nei, cmpv_eqs, cmpv_nes, cmpv_is, cmpv_isnot, G_ROUND, G_MOST_LAYERS, G_MOST_AGAIN, G_SMALL, G_MOST_FAILS, G_MOST_VALUES, G_FIGURES, G_MOST_CHOICE, fnEnd, decide_true, decide_false, if_true, itFuel, LW.wipe, opv_mod, opv_fdiv, alive_tup, alive_lst, alive_str, alive_int, alive_bl, alive_non, or_self, or_false, false_or, or_true, true_or, and_self, and_true, true_and, and_false, false_and, sub_t0, sub_t1, sub_t2, sub_l0, Int.reducePow, Int.reduceNeg, Int.reduceLE, Int.reduceLT, Int.reduceToNat, Int.reduceEq, Nat.reduceLT, Nat.reduceLeDiff, Nat.reduceAdd, Nat.reduceSub, Int.cast_ofNat_Int, Int.natCast_zero, Int.natCast_one, Int.reduceAdd, Int.reduceSub, Bool.and_self, Bool.and_true, Bool.true_and, Bool.and_false, Bool.false_and, Bool.or_true, Bool.true_or, Bool.or_self, Bool.false_or, reduceIte, reduceCtorEq, String.reduceEq, ne_eq, not_false_eq_true, not_true_eq_false, e2, fin, d_can_fail]
  · rw [e]
    simp -implicitDefEqProofs only [Def.start, exs, ex, ev, evs, evi, evo, evIfs, evAnd, evOr, asg, asgs, exh, tr_f, tr_b, tr_l, tr_u, R.bind_ok, R.bind_exc, R.st_ok, R.st_exc, R.calm_ok, R.of_some, Option.map_some, List.map, List.length, List.set, List.getElem?_cons_zero, List.getElem?_cons_succ, List.replicate, List.append_nil, List.cons_append, List.nil_append, List.any, Bool.or_false, Bool.not_true, Bool.not_false, isk_int, isk_bool, isk_str, isk_tuple, isk_list, isInt, isBool, isStr, isTup, asS_tup, asS_lst', asS_fls, lenh_tup, lenh_lst, lenh_fls, bltR_len, bltR_tuple, bltR_list, bltR_int, bltR_intb, bltR_min, bltR_max, opv_add, opv_sub, cmpv_lt, cmpv_le, cmpv_gt, cmpv_ge, cmpv_eqi, cmpv_nei, cmpv_eqs, cmpv_nes, cmpv_is, cmpv_isnot, G_ROUND, G_MOST_LAYERS, G_MOST_AGAIN, G_SMALL, G_MOST_FAILS, G_MOST_VALUES, G_FIGURES, G_MOST_CHOICE, fnEnd, decide_true, decide_false, if_true, itFuel, LW.wipe, opv_mod, opv_fdiv, alive_tup, alive_lst, alive_str, alive_int, alive_bl, alive_non, or_self, or_false, false_or, or_true, true_or, and_self, and_true, true_and, and_false, false_and, sub_t0, sub_t1, sub_t2, sub_l0, Int.reducePow, Int.reduceNeg, Int.reduceLE, Int.reduceLT, Int.reduceToNat, Int.reduceEq, Nat.reduceLT, Nat.reduceLeDiff, Nat.reduceAdd, Nat.reduceSub, Int.cast_ofNat_Int, Int.natCast_zero, Int.natCast_one, Int.reduceAdd, Int.reduceSub, Bool.and_self, Bool.and_true, Bool.true_and, Bool.and_false, Bool.false_and, Bool.or_true, Bool.true_or, Bool.or_self, Bool.false_or, reduceIte, reduceCtorEq, String.reduceEq, ne_eq, not_false_eq_true, not_true_eq_false, fin, d_can_fail]
theorem sp_fails {ls : List Ly} (hl : lok ls = true) (h8 : ls.length ≤ 8) : fn (tb L xs) (d + 5) "fails" [lpv ls] h = .ok (.bl (canFail ls)) h := by
  rw [fn_run T_d_fails rfl]
  simp -implicitDefEqProofs only [Def.start, exs, ex, ev, evs, evi, evo, evIfs, evAnd, evOr, asg, asgs, exh, tr_f, tr_b, tr_l, tr_u, R.bind_ok, R.bind_exc, R.st_ok, R.st_exc, R.calm_ok, R.of_some, Option.map_some, List.map, List.length, List.set, List.getElem?_cons_zero, List.getElem?_cons_succ, List.replicate, List.append_nil, List.cons_append, List.nil_append, List.any, Bool.or_false, Bool.not_true, Bool.not_false, isk_int, isk_bool, isk_str, isk_tuple, isk_list, isInt, isBool, isStr, isTup, asS_tup, asS_lst', asS_fls, lenh_tup, lenh_lst, lenh_fls, bltR_len, bltR_tuple, bltR_list, bltR_int, bltR_intb, bltR_min, bltR_max, opv_add, opv_sub, cmpv_lt, cmpv_le, cmpv_gt, cmpv_ge, cmpv_eqi, cmpv_nei, cmpv_eqs, cmpv_nes, cmpv_is, cmpv_isnot, G_ROUND, G_MOST_LAYERS, G_MOST_AGAIN, G_SMALL, G_MOST_FAILS, G_MOST_VALUES, G_FIGURES, G_MOST_CHOICE, fnEnd, decide_true, decide_false, if_true, itFuel, LW.wipe, opv_mod, opv_fdiv, alive_tup, alive_lst, alive_str, alive_int, alive_bl, alive_non, or_self, or_false, false_or, or_true, true_or, and_self, and_true, true_and, and_false, false_and, sub_t0, sub_t1, sub_t2, sub_l0, Int.reducePow, Int.reduceNeg, Int.reduceLE, Int.reduceLT, Int.reduceToNat, Int.reduceEq, Nat.reduceLT, Nat.reduceLeDiff, Nat.reduceAdd, Nat.reduceSub, Int.cast_ofNat_Int, Int.natCast_zero, Int.natCast_one, Int.reduceAdd, Int.reduceSub, Bool.and_self, Bool.and_true, Bool.true_and, Bool.and_false, Bool.false_and, Bool.or_true, Bool.true_or, Bool.or_self, Bool.false_or, reduceIte, reduceCtorEq, String.reduceEq, ne_eq, not_false_eq_true, not_true_eq_false, d_fails, sp_checked_ok hl h8, sp_can_fail, fin]
def mostAsks : List Ly → Nat
  | [] => 1
  | .again n :: r => (if canFail r then n + 1 else 1) * mostAsks r
  | _ :: r => mostAsks r
theorem mostAsks_pos : ∀ ls, 0 < mostAsks ls
  | [] => Nat.one_pos
  | l :: r => by
    have := mostAsks_pos r
    cases l with
    | again n =>
      simp only [mostAsks]
      exact Nat.mul_pos (by split <;> omega) this
    | _ => exact this
theorem cut_from {ls : List Ly} {k : Nat} : cutv h (lpv ls) (some (k : Nat)) none = some (lpv (ls.drop k)) := by
  simp only [cutv, lpv, cutL, bndN, List.length_map]
  rw [if_neg (by omega)]
  simp only [Int.toNat_natCast]
  rw [← List.map_drop, ← List.map_take]
  congr 2
  by_cases hk : k ≤ ls.length
  · rw [Nat.min_eq_left hk, List.take_of_length_le (by simp)]
  · rw [Nat.min_eq_right (by omega), List.drop_eq_nil_of_le (by omega : ls.length ≤ k)]
    simp
theorem cut_to {ls : List Ly} {k : Nat} : cutv h (lpv ls) none (some (k : Nat)) = some (lpv (ls.take k)) := by
  simp only [cutv, lpv, cutL, bndN, List.length_map, List.drop_zero, Nat.sub_zero]
  rw [if_neg (by omega)]
  simp only [Int.toNat_natCast]
  rw [← List.map_take]
  congr 2
  by_cases hk : k ≤ ls.length
  · rw [Nat.min_eq_left hk]
  · rw [Nat.min_eq_right (by omega), List.take_of_length_le (by omega), List.take_of_length_le (by omega)]
theorem sp_most_asks {ls : List Ly} (hl : lok ls = true) (h8 : ls.length ≤ 8) : fn (tb L xs) (d + 5) "most_asks" [lpv ls] h = .ok (.int (mostAsks ls : Nat)) h := by
  rw [fn_run T_d_most_asks rfl]
  simp -implicitDefEqProofs only [Def.start, exs, ex, ev, evs, evi, evo, evIfs, evAnd, evOr, asg, asgs, exh, tr_f, tr_b, tr_l, tr_u, R.bind_ok, R.bind_exc, R.st_ok, R.st_exc, R.calm_ok, R.of_some, Option.map_some, List.map, List.length, List.set, List.getElem?_cons_zero, List.getElem?_cons_succ, List.replicate, List.append_nil, List.cons_append, List.nil_append, List.any, Bool.or_false, Bool.not_true, Bool.not_false, isk_int, isk_bool, isk_str, isk_tuple, isk_list, isInt, isBool, isStr, isTup, asS_tup, asS_lst', asS_fls, lenh_tup, lenh_lst, lenh_fls, bltR_len, bltR_tuple, bltR_list, bltR_int, bltR_intb, bltR_min, bltR_max, opv_add, opv_sub, cmpv_lt, cmpv_le, cmpv_gt, cmpv_ge, cmpv_eqi, cmpv_nei, cmpv_eqs, cmpv_nes, cmpv_is, cmpv_isnot, G_ROUND, G_MOST_LAYERS, G_MOST_AGAIN, G_SMALL, G_MOST_FAILS, G_MOST_VALUES, G_FIGURES, G_MOST_CHOICE, fnEnd, decide_true, decide_false, if_true, itFuel, LW.wipe, opv_mod, opv_fdiv, alive_tup, alive_lst, alive_str, alive_int, alive_bl, alive_non, or_self, or_false, false_or, or_true, true_or, and_self, and_true, true_and, and_false, false_and, sub_t0, sub_t1, sub_t2, sub_l0, Int.reducePow, Int.reduceNeg, Int.reduceLE, Int.reduceLT, Int.reduceToNat, Int.reduceEq, Nat.reduceLT, Nat.reduceLeDiff, Nat.reduceAdd, Nat.reduceSub, Int.cast_ofNat_Int, Int.natCast_zero, Int.natCast_one, Int.reduceAdd, Int.reduceSub, Bool.and_self, Bool.and_true, Bool.true_and, Bool.and_false, Bool.false_and, Bool.or_true, Bool.true_or, Bool.or_self, Bool.false_or, reduceIte, reduceCtorEq, String.reduceEq, ne_eq, not_false_eq_true, not_true_eq_false, d_most_asks, sp_checked_ok hl h8]
  simp only [lpv]
  simp -implicitDefEqProofs only [Def.start, exs, ex, ev, evs, evi, evo, evIfs, evAnd, evOr, asg, asgs, exh, tr_f, tr_b, tr_l, tr_u, R.bind_ok, R.bind_exc, R.st_ok, R.st_exc, R.calm_ok, R.of_some, Option.map_some, List.map, List.length, List.set, List.getElem?_cons_zero, List.getElem?_cons_succ, List.replicate, List.append_nil, List.cons_append, List.nil_append, List.any, Bool.or_false, Bool.not_true, Bool.not_false, isk_int, isk_bool, isk_str, isk_tuple, isk_list, isInt, isBool, isStr, isTup, asS_tup, asS_lst', asS_fls, lenh_tup, lenh_lst, lenh_fls, bltR_len, bltR_tuple, bltR_list, bltR_int, bltR_intb, bltR_min, bltR_max, opv_add, opv_sub, cmpv_lt, cmpv_le, cmpv_gt, cmpv_ge, cmpv_eqi, cmpv_nei, cmpv_eqs, cmpv_nes, cmpv_is, cmpv_isnot, G_ROUND, G_MOST_LAYERS, G_MOST_AGAIN, G_SMALL, G_MOST_FAILS, G_MOST_VALUES, G_FIGURES, G_MOST_CHOICE, fnEnd, decide_true, decide_false, if_true, itFuel, LW.wipe, opv_mod, opv_fdiv, alive_tup, alive_lst, alive_str, alive_int, alive_bl, alive_non, or_self, or_false, false_or, or_true, true_or, and_self, and_true, true_and, and_false, false_and, sub_t0, sub_t1, sub_t2, sub_l0, Int.reducePow, Int.reduceNeg, Int.reduceLE, Int.reduceLT, Int.reduceToNat, Int.reduceEq, Nat.reduceLT, Nat.reduceLeDiff, Nat.reduceAdd, Nat.reduceSub, Int.cast_ofNat_Int, Int.natCast_zero, Int.natCast_one, Int.reduceAdd, Int.reduceSub, Bool.and_self, Bool.and_true, Bool.true_and, Bool.and_false, Bool.false_and, Bool.or_true, Bool.true_or, Bool.or_self, Bool.false_or, reduceIte, reduceCtorEq, String.reduceEq, ne_eq, not_false_eq_true, not_true_eq_false, Option.getD_some, forG_tup, forG_lst, forG_etup, forG_elst, sub_word, mem2, mem3]
  generalize hz : forL _ _ _ _ = z
  obtain ⟨σ1, h1, rfl, f, o2, o3, rfl, rfl, hf⟩ := forL_run hz (fun i σ' h' => ∃ (f : Nat) (o2 o3 : Option PV), σ' = [some (.tup (ls.map Ly.pv)), some (.int f), o2, o3] ∧ h' = h ∧ f * mostAsks (ls.drop i) = mostAsks ls) ⟨1, none, none, rfl, rfl, by simp⟩ (fun i x σ' h' hx ⟨f, o2, o3, e1, e2, e3⟩ => by
    subst e1 e2
    rw [enumL_get, List.getElem?_map] at hx
    cases hv : ls[i]? with
    | none => rw [hv] at hx; cases hx
    | some l =>
      rw [hv] at hx
      cases hx
      have hd : ls.drop i = l :: ls.drop (i + 1) := by
        obtain ⟨hi, e⟩ := List.getElem?_eq_some_iff.mp hv
        rw [List.drop_eq_getElem_cons hi, e]
      rw [hd] at e3
      have ecut : cutv h' (.tup (ls.map Ly.pv)) (some ((i : Int) + 1)) none = some (lpv (ls.drop (i + 1))) := cut_from (k := i + 1)
      have hok := List.all_eq_true.mp hl l (List.mem_of_getElem? hv)
      by_cases hw : l.word = "again"
      · obtain ⟨n, rfl⟩ : ∃ n, l = .again n := by cases l <;> first | exact ⟨_, rfl⟩ | (simp [Ly.word] at hw)
        have em : ∀ h, opv h .mul (.int f) (.int ((n : Int) + 1)) = some (.int ((f * (n + 1) : Nat) : Int)) := fun h => by
          rw [opv_mul (.inr ?_)]
          · simp
          · simp only [Ly.ok, decide_eq_true_eq] at hok
            simp only [b64, Bool.and_eq_true, decide_eq_true_eq]
            omega
        have es : subv h' (Ly.again n).pv (.int 1) = some (.int n) := rfl
        cases hc : canFail (ls.drop (i + 1)) with
        | true =>
          refine ⟨_, _, ?_, f * (n + 1), some (.int i), some (Ly.again n).pv, rfl, rfl, by rw [← e3, mostAsks, hc]; simp [Nat.mul_assoc]⟩
          simp -implicitDefEqProofs only [Def.start, exs, ex, ev, evs, evi, evo, evIfs, evAnd, evOr, asg, asgs, exh, tr_f, tr_b, tr_l, tr_u, R.bind_ok, R.bind_exc, R.st_ok, R.st_exc, R.calm_ok, R.of_some, Option.map_some, List.map, List.length, List.set, List.getElem?_cons_zero, List.getElem?_cons_succ, List.replicate, List.append_nil, List.cons_append, List.nil_append, List.any, Bool.or_false, Bool.not_true, Bool.not_false, isk_int, isk_bool, isk_str, isk_tuple, isk_list, isInt, isBool, isStr, isTup, asS_tup, asS_lst', asS_fls, lenh_tup, lenh_lst, lenh_fls, bltR_len, bltR_tuple, bltR_list, bltR_int, bltR_intb, bltR_min, bltR_max, opv_add, opv_sub, cmpv_lt, cmpv_le, cmpv_gt, cmpv_ge, cmpv_eqi, cmpv_nei, cmpv_eqs, cmpv_nes, cmpv_is, cmpv_isnot, G_ROUND, G_MOST_LAYERS, G_MOST_AGAIN, G_SMALL, G_MOST_FAILS, G_MOST_VALUES, G_FIGURES, G_MOST_CHOICE, fnEnd, decide_true, decide_false, if_true, itFuel, LW.wipe, opv_mod, opv_fdiv, alive_tup, alive_lst, alive_str, alive_int, alive_bl, alive_non, or_self, or_false, false_or, or_true, true_or, and_self, and_true, true_and, and_false, false_and, sub_t0, sub_t1, sub_t2, sub_l0, Int.reducePow, Int.reduceNeg, Int.reduceLE, Int.reduceLT, Int.reduceToNat, Int.reduceEq, Nat.reduceLT, Nat.reduceLeDiff, Nat.reduceAdd, Nat.reduceSub, Int.cast_ofNat_Int, Int.natCast_zero, Int.natCast_one, Int.reduceAdd, Int.reduceSub, Bool.and_self, Bool.and_true, Bool.true_and, Bool.and_false, Bool.false_and, Bool.or_true, Bool.true_or, Bool.or_self, Bool.false_or, reduceIte, reduceCtorEq, String.reduceEq, ne_eq, not_false_eq_true, not_true_eq_false, sub_word, hw, ecut, sp_can_fail, hc, em, es, Nat.zero_add]
        | false =>
          refine ⟨_, _, ?_, f, some (.int i), some (Ly.again n).pv, rfl, rfl, by rw [← e3, mostAsks, hc]; simp⟩
          simp -implicitDefEqProofs only [Def.start, exs, ex, ev, evs, evi, evo, evIfs, evAnd, evOr, asg, asgs, exh, tr_f, tr_b, tr_l, tr_u, R.bind_ok, R.bind_exc, R.st_ok, R.st_exc, R.calm_ok, R.of_some, Option.map_some, List.map, List.length, List.set, List.getElem?_cons_zero, List.getElem?_cons_succ, List.replicate, List.append_nil, List.cons_append, List.nil_append, List.any, Bool.or_false, Bool.not_true, Bool.not_false, isk_int, isk_bool, isk_str, isk_tuple, isk_list, isInt, isBool, isStr, isTup, asS_tup, asS_lst', asS_fls, lenh_tup, lenh_lst, lenh_fls, bltR_len, bltR_tuple, bltR_list, bltR_int, bltR_intb, bltR_min, bltR_max, opv_add, opv_sub, cmpv_lt, cmpv_le, cmpv_gt, cmpv_ge, cmpv_eqi, cmpv_nei, cmpv_eqs, cmpv_nes, cmpv_is, cmpv_isnot, G_ROUND, G_MOST_LAYERS, G_MOST_AGAIN, G_SMALL, G_MOST_FAILS, G_MOST_VALUES, G_FIGURES, G_MOST_CHOICE, fnEnd, decide_true, decide_false, if_true, itFuel, LW.wipe, opv_mod, opv_fdiv, alive_tup, alive_lst, alive_str, alive_int, alive_bl, alive_non, or_self, or_false, false_or, or_true, true_or, and_self, and_true, true_and, and_false, false_and, sub_t0, sub_t1, sub_t2, sub_l0, Int.reducePow, Int.reduceNeg, Int.reduceLE, Int.reduceLT, Int.reduceToNat, Int.reduceEq, Nat.reduceLT, Nat.reduceLeDiff, Nat.reduceAdd, Nat.reduceSub, Int.cast_ofNat_Int, Int.natCast_zero, Int.natCast_one, Int.reduceAdd, Int.reduceSub, Bool.and_self, Bool.and_true, Bool.true_and, Bool.and_false, Bool.false_and, Bool.or_true, Bool.true_or, Bool.or_self, Bool.false_or, reduceIte, reduceCtorEq, String.reduceEq, ne_eq, not_false_eq_true, not_true_eq_false, sub_word, hw, ecut, sp_can_fail, hc, em, es, Nat.zero_add]
      · refine ⟨_, _, ?_, f, some (.int i), some l.pv, rfl, rfl, ?_⟩
        · simp -implicitDefEqProofs only [Def.start, exs, ex, ev, evs, evi, evo, evIfs, evAnd, evOr, asg, asgs, exh, tr_f, tr_b, tr_l, tr_u, R.bind_ok, R.bind_exc, R.st_ok, R.st_exc, R.calm_ok, R.of_some, Option.map_some, List.map, List.length, List.set, List.getElem?_cons_zero, List.getElem?_cons_succ, List.replicate, List.append_nil, List.cons_append, List.nil_append, List.any, Bool.or_false, Bool.not_true, Bool.not_false, isk_int, isk_bool, isk_str, isk_tuple, isk_list, isInt, isBool, isStr, isTup, asS_tup, asS_lst', asS_fls, lenh_tup, lenh_lst, lenh_fls, bltR_len, bltR_tuple, bltR_list, bltR_int, bltR_intb, bltR_min, bltR_max, opv_add, opv_sub, cmpv_lt, cmpv_le, cmpv_gt, cmpv_ge, cmpv_eqi, cmpv_nei, cmpv_eqs, cmpv_nes, cmpv_is, cmpv_isnot, G_ROUND, G_MOST_LAYERS, G_MOST_AGAIN, G_SMALL, G_MOST_FAILS, G_MOST_VALUES, G_FIGURES, G_MOST_CHOICE, fnEnd, decide_true, decide_false, if_true, itFuel, LW.wipe, opv_mod, opv_fdiv, alive_tup, alive_lst, alive_str, alive_int, alive_bl, alive_non, or_self, or_false, false_or, or_true, true_or, and_self, and_true, true_and, and_false, false_and, sub_t0, sub_t1, sub_t2, sub_l0, Int.reducePow, Int.reduceNeg, Int.reduceLE, Int.reduceLT, Int.reduceToNat, Int.reduceEq, Nat.reduceLT, Nat.reduceLeDiff, Nat.reduceAdd, Nat.reduceSub, Int.cast_ofNat_Int, Int.natCast_zero, Int.natCast_one, Int.reduceAdd, Int.reduceSub, Bool.and_self, Bool.and_true, Bool.true_and, Bool.and_false, Bool.false_and, Bool.or_true, Bool.true_or, Bool.or_self, Bool.false_or, reduceIte, reduceCtorEq, String.reduceEq, ne_eq, not_false_eq_true, not_true_eq_false, sub_word, hw, Nat.zero_add]
        · rw [← e3]
          cases l <;> first | rfl | exact absurd rfl hw)
  rw [enumL_len, List.length_map, List.drop_eq_nil_of_le (Nat.le_refl _), mostAsks, Nat.mul_one] at hf
  subst hf
  simp -implicitDefEqProofs only [Def.start, exs, ex, ev, evs, evi, evo, evIfs, evAnd, evOr, asg, asgs, exh, tr_f, tr_b, tr_l, tr_u, R.bind_ok, R.bind_exc, R.st_ok, R.st_exc, R.calm_ok, R.of_some, Option.map_some, List.map, List.length, List.set, List.getElem?_cons_zero, List.getElem?_cons_succ, List.replicate, List.append_nil, List.cons_append, List.nil_append, List.any, Bool.or_false, Bool.not_true, Bool.not_false, isk_int, isk_bool, isk_str, isk_tuple, isk_list, isInt, isBool, isStr, isTup, asS_tup, asS_lst', asS_fls, lenh_tup, lenh_lst, lenh_fls, bltR_len, bltR_tuple, bltR_list, bltR_int, bltR_intb, bltR_min, bltR_max, opv_add, opv_sub, cmpv_lt, cmpv_le, cmpv_gt, cmpv_ge, cmpv_eqi, cmpv_nei, cmpv_eqs, cmpv_nes, cmpv_is, cmpv_isnot, G_ROUND, G_MOST_LAYERS, G_MOST_AGAIN, G_SMALL, G_MOST_FAILS, G_MOST_VALUES, G_FIGURES, G_MOST_CHOICE, fnEnd, decide_true, decide_false, if_true, itFuel, LW.wipe, opv_mod, opv_fdiv, alive_tup, alive_lst, alive_str, alive_int, alive_bl, alive_non, or_self, or_false, false_or, or_true, true_or, and_self, and_true, true_and, and_false, false_and, sub_t0, sub_t1, sub_t2, sub_l0, Int.reducePow, Int.reduceNeg, Int.reduceLE, Int.reduceLT, Int.reduceToNat, Int.reduceEq, Nat.reduceLT, Nat.reduceLeDiff, Nat.reduceAdd, Nat.reduceSub, Int.cast_ofNat_Int, Int.natCast_zero, Int.natCast_one, Int.reduceAdd, Int.reduceSub, Bool.and_self, Bool.and_true, Bool.true_and, Bool.and_false, Bool.false_and, Bool.or_true, Bool.true_or, Bool.or_self, Bool.false_or, reduceIte, reduceCtorEq, String.reduceEq, ne_eq, not_false_eq_true, not_true_eq_false, fin, d_most_asks]
end
end LW
/-! LwN: running by need: nothing is unrolled ahead of what it waits for. -/
namespace LW
section
variable (T : Tb) (cf : CF)
def seqq (ss : List S) : R Fl → R Fl
  | .ok (.nx σ) h => exs T cf ss σ h
  | .ok (.brk σ) h => .ok (.brk σ) h
  | .ok (.ret v) h => .ok (.ret v) h
  | .ok (.xc c σ) h => .ok (.xc c σ) h
  | .exc c h => .exc c h
  | .bad => .bad
def exprq (σ : Sg) : R PV → R Fl
  | .ok _ h => .ok (.nx σ) h
  | .exc c h => .ok (.xc c σ) h
  | .bad => .bad
def asgr (σ : Sg) : R Sg → R Fl
  | .ok σ' h => .ok (.nx σ') h
  | .exc c h => .ok (.xc c σ) h
  | .bad => .bad
def asgq (t : Tg) (σ : Sg) : R PV → R Fl
  | .ok v h => asgr σ (asg T cf t v σ h)
  | .exc c h => .ok (.xc c σ) h
  | .bad => .bad
def retq (σ : Sg) : R PV → R Fl
  | .ok v h => .ok (.ret v) h
  | .exc c h => .ok (.xc c σ) h
  | .bad => .bad
def ifq (a b : List S) (σ : Sg) : R PV → R Fl
  | .ok (.bl true) h => exs T cf a σ h
  | .ok (.bl false) h => exs T cf b σ h
  | .ok _ _ => .bad
  | .exc c h => .ok (.xc c σ) h
  | .bad => .bad
def bodyr (body : List S) (σ : Sg) : R Sg → R Fl
  | .ok σ' h => exs T cf body σ' h
  | .exc c h => .ok (.xc c σ) h
  | .bad => .bad
def bodyq (t : Tg) (body : List S) : PV → Sg → HP → R Fl := fun x σ h => (asg T cf t x σ h).st σ fun σ h => exs T cf body σ h
def forq (t : Tg) (body : List S) (σ : Sg) : R ItV → R Fl
  | .ok iv h => forG iv (bodyq T cf t body) (itFuel h iv) 0 σ h
  | .exc c h => .ok (.xc c σ) h
  | .bad => .bad
def wt (t : E) : Sg → HP → R PV := fun σ h => ev T cf true t σ h
def wb (body : List S) : Sg → HP → R Fl := fun σ h => exs T cf body σ h
def tryq (hs : List (String × List S)) : R Fl → R Fl
  | .ok (.xc c σ') h => match T.exc c with
    | true => exh T cf c hs σ' h
    | false => .bad
  | .ok (.nx σ) h => .ok (.nx σ) h
  | .ok (.brk σ) h => .ok (.brk σ) h
  | .ok (.ret v) h => .ok (.ret v) h
  | .exc c h => .exc c h
  | .bad => .bad
def exhq (c : String) (b : List S) (r : List (String × List S)) (σ : Sg) (h : HP) : Bool → R Fl
  | true => exs T cf b σ h
  | false => exh T cf c r σ h
def cstep (elt : E) (tg : Tg) (ifs : List E) (σ : Sg) : PV → HP → R (Option PV) := fun x h => ((asg T cf tg x σ h).bind fun σ1 h => (evIfs T cf ifs σ1 h).bind fun b h => match b with
      | .bl false => .ok none h
      | .bl true => (ev T cf false elt σ1 h).bind fun y h => .ok (some y) h
      | _ => .bad).calm
def cmq (t : Bool) (step : PV → HP → R (Option PV)) : R ItV → R PV
  | .ok iv h => (compG iv step (itFuel h iv) 0 [] h).bind fun ys h => tr t (.lst ys) h
  | .exc c h => .exc c h
  | .bad => .bad
def cmm (t : Bool) (step : PV → HP → R (Option PV)) : R ItV → R PV
  | .ok iv h => (compM iv step h.length (itFuel h iv) 0 (h ++ [.lst []])).bind fun _ h' => tr t (.ref h.length) h'
  | .exc c h => .exc c h
  | .bad => .bad
def ifeq (t : Bool) (a b : E) (σ : Sg) : R PV → R PV
  | .ok (.bl true) h => (ev T cf false a σ h).bind (tr t)
  | .ok (.bl false) h => (ev T cf false b σ h).bind (tr t)
  | .ok _ _ => .bad
  | .exc c h => .exc c h
  | .bad => .bad
def andq (t : Bool) (es : List E) (σ : Sg) : R PV → R PV
  | .ok x h => evAnd T cf t x es σ h
  | .exc c h => .exc c h
  | .bad => .bad
def orq (t : Bool) (es : List E) (σ : Sg) : R PV → R PV
  | .ok x h => evOr T cf t x es σ h
  | .exc c h => .exc c h
  | .bad => .bad
end
section
variable {T : Tb} {cf : CF} {σ : Sg} {h : HP} {t : Bool}
theorem exs_nil : exs T cf [] σ h = .ok (.nx σ) h := by simp only [exs]
theorem exs_q {s : S} {ss : List S} : exs T cf (s :: ss) σ h = seqq T cf ss (ex T cf s σ h) := by
  rw [exs]
  cases ex T cf s σ h with
  | ok fl h => cases fl <;> rfl
  | _ => rfl
theorem seqq_nx {ss : List S} : seqq T cf ss (.ok (.nx σ) h) = exs T cf ss σ h := rfl
theorem seqq_brk {ss : List S} : seqq T cf ss (.ok (.brk σ) h) = .ok (.brk σ) h := rfl
theorem seqq_ret {ss : List S} {v : PV} : seqq T cf ss (.ok (.ret v) h) = .ok (.ret v) h := rfl
theorem seqq_xc {ss : List S} {c : String} : seqq T cf ss (.ok (.xc c σ) h) = .ok (.xc c σ) h := rfl
theorem ex_expr {e : E} : ex T cf (.expr e) σ h = exprq σ (ev T cf false e σ h) := by
  rw [ex]; cases ev T cf false e σ h <;> rfl
theorem ex_asg {tg : Tg} {e : E} : ex T cf (.asg tg e) σ h = asgq T cf tg σ (ev T cf false e σ h) := by
  rw [ex]
  cases ev T cf false e σ h with
  | ok v h => simp only [R.st_ok, asgq]; cases asg T cf tg v σ h <;> rfl
  | _ => rfl
theorem exprq_ok {v : PV} : exprq σ (.ok v h) = .ok (.nx σ) h := rfl
theorem exprq_exc {c : String} : exprq σ (.exc c h) = .ok (.xc c σ) h := rfl
theorem asgr_ok {σ' : Sg} : asgr σ (.ok σ' h) = .ok (.nx σ') h := rfl
theorem asgq_ok {tg : Tg} {v : PV} : asgq T cf tg σ (.ok v h) = asgr σ (asg T cf tg v σ h) := rfl
theorem asgq_exc {tg : Tg} {c : String} : asgq T cf tg σ (.exc c h) = .ok (.xc c σ) h := rfl
theorem ex_ife {e : E} {a b : List S} : ex T cf (.ife e a b) σ h = ifq T cf a b σ (ev T cf true e σ h) := by
  rw [ex]
  cases ev T cf true e σ h with
  | ok v h => cases v with
    | bl b => cases b <;> rfl
    | _ => rfl
  | _ => rfl
theorem ifq_t {a b : List S} : ifq T cf a b σ (.ok (.bl true) h) = exs T cf a σ h := rfl
theorem ifq_f {a b : List S} : ifq T cf a b σ (.ok (.bl false) h) = exs T cf b σ h := rfl
theorem ifq_exc {a b : List S} {c : String} : ifq T cf a b σ (.exc c h) = .ok (.xc c σ) h := rfl
theorem ex_for {tg : Tg} {it : It} {body : List S} : ex T cf (.for_ tg it body) σ h = forq T cf tg body σ (evi T cf it σ h) := by
  rw [ex]; cases evi T cf it σ h <;> rfl
theorem forq_ok {tg : Tg} {body : List S} {iv : ItV} : forq T cf tg body σ (.ok iv h) = forG iv (bodyq T cf tg body) (itFuel h iv) 0 σ h := rfl
theorem bodyq_run {tg : Tg} {body : List S} {x : PV} : bodyq T cf tg body x σ h = bodyr T cf body σ (asg T cf tg x σ h) := by
  unfold bodyq; cases asg T cf tg x σ h <;> rfl
theorem bodyr_ok {body : List S} {σ' : Sg} : bodyr T cf body σ (.ok σ' h) = exs T cf body σ' h := rfl
theorem ex_while {e : E} {body : List S} : ex T cf (.while_ e body) σ h = whileG (wt T cf e) (wb T cf body) whileN σ h := by rw [ex] <;> rfl
theorem wt_run {e : E} : wt T cf e σ h = ev T cf true e σ h := rfl
theorem wb_run {body : List S} : wb T cf body σ h = exs T cf body σ h := rfl
theorem ex_ret {e : E} : ex T cf (.ret e) σ h = retq σ (ev T cf false e σ h) := by
  rw [ex]; cases ev T cf false e σ h <;> rfl
theorem retq_ok {v : PV} : retq σ (.ok v h) = .ok (.ret v) h := rfl
theorem retq_exc {c : String} : retq σ (.exc c h) = .ok (.xc c σ) h := rfl
theorem ex_retn : ex T cf .retn σ h = .ok (.ret .non) h := by rw [ex] <;> rfl
theorem ex_raise {c m : String} : ex T cf (.raise c m) σ h = .ok (.xc c σ) h := by rw [ex] <;> rfl
theorem ex_try {body : List S} {hs : List (String × List S)} : ex T cf (.try_ body hs) σ h = tryq T cf hs (exs T cf body σ h) := by
  rw [ex]
  cases exs T cf body σ h with
  | ok fl h => cases fl <;> rfl
  | _ => rfl
theorem tryq_nx {hs : List (String × List S)} : tryq T cf hs (.ok (.nx σ) h) = .ok (.nx σ) h := rfl
theorem tryq_ret {hs : List (String × List S)} {v : PV} : tryq T cf hs (.ok (.ret v) h) = .ok (.ret v) h := rfl
theorem tryq_xc {hs : List (String × List S)} {c : String} (hc : T.exc c = true) : tryq T cf hs (.ok (.xc c σ) h) = exh T cf c hs σ h := by simp only [tryq, hc]
theorem exh_nil {c : String} : exh T cf c [] σ h = .ok (.xc c σ) h := by rw [exh] <;> rfl
theorem exh_q {c x : String} {b : List S} {r : List (String × List S)} : exh T cf c ((x, b) :: r) σ h = exhq T cf c b r σ h (T.sub c x) := by
  rw [exh]; cases T.sub c x <;> rfl
theorem exhq_t {c : String} {b : List S} {r : List (String × List S)} : exhq T cf c b r σ h true = exs T cf b σ h := rfl
theorem exhq_f {c : String} {b : List S} {r : List (String × List S)} : exhq T cf c b r σ h false = exh T cf c r σ h := rfl
theorem ex_brk : ex T cf .brk σ h = .ok (.brk σ) h := by rw [ex] <;> rfl
theorem ex_pass : ex T cf .pass σ h = .ok (.nx σ) h := by rw [ex] <;> rfl
theorem ex_augn {i : Nat} {x : String} {op : Op} {e : E} : ex T cf (.aug (.name i x) op e) σ h = match σ[i]? with
      | some (some x) => (ev T cf false e σ h).st σ fun y h => (R.of h (augv op x y)).bind fun z h => .ok (.nx (σ.set i (some z))) h
      | _ => .bad := by rw [ex] <;> rfl
theorem ex_auga {o : E} {f : String} {op : Op} {e : E} : ex T cf (.aug (.attr o f) op e) σ h = (ev T cf false o σ h).st σ fun ov h => (R.of h (attrv h ov f)).bind fun x h => (ev T cf false e σ h).st σ fun y h => (R.of h (augv op x y)).bind fun z h => match attrSet h ov f z with
      | some h => .ok (.nx σ) h
      | none => .bad := by rw [ex] <;> rfl
theorem ex_augs {o i : E} {op : Op} {e : E} : ex T cf (.aug (.sub o i) op e) σ h = (ev T cf false o σ h).st σ fun ov h => (ev T cf false i σ h).st σ fun iv h => (R.of h (subD h ov iv)).bind fun x h => (ev T cf false e σ h).st σ fun y h => (R.of h (augv op x y)).bind fun z h => match setv h ov iv z with
      | some h => .ok (.nx σ) h
      | none => .bad := by rw [ex] <;> rfl
/-! expressions -/
theorem ev_var {i : Nat} {x : String} : ev T cf t (.var i x) σ h = match σ[i]? with
    | some (some v) => tr t v h
    | _ => .bad := by rw [ev] <;> rfl
theorem ev_lit {v : PV} : ev T cf t (.lit v) σ h = tr t v h := by rw [ev] <;> rfl
theorem ev_glob {x : String} : ev T cf t (.glob x) σ h = (R.of h (T.gl x)).bind (tr t) := by rw [ev] <;> rfl
theorem ev_bin {op : Op} {a b : E} : ev T cf t (.bin op a b) σ h = (ev T cf false a σ h).bind fun x h => (ev T cf false b σ h).bind fun y h => (R.of h (opv h op x y)).bind (tr t) := by rw [ev] <;> rfl
theorem ev_neg {a : E} : ev T cf t (.neg a) σ h = (ev T cf false a σ h).bind fun x h => match x with
    | .int i => tr t (.int (-i)) h
    | _ => .bad := by rw [ev] <;> rfl
theorem ev_not {a : E} : ev T cf t (.not a) σ h = (ev T cf true a σ h).bind fun x h => match x with
    | .bl b => .ok (.bl (!b)) h
    | _ => .bad := by rw [ev] <;> rfl
theorem ev_and {a : E} {es : List E} : ev T cf t (.and a es) σ h = andq T cf t es σ (ev T cf t a σ h) := by
  rw [ev]; cases ev T cf t a σ h <;> rfl
theorem ev_or {a : E} {es : List E} : ev T cf t (.or a es) σ h = orq T cf t es σ (ev T cf t a σ h) := by
  rw [ev]; cases ev T cf t a σ h <;> rfl
theorem andq_nil {v : PV} : andq T cf t [] σ (.ok v h) = .ok v h := by simp only [andq, evAnd]
theorem andq_t {e : E} {es : List E} : andq T cf t (e :: es) σ (.ok (.bl true) h) = andq T cf t es σ (ev T cf t e σ h) := by
  simp only [andq, evAnd]; cases ev T cf t e σ h <;> rfl
theorem andq_f {e : E} {es : List E} : andq T cf t (e :: es) σ (.ok (.bl false) h) = .ok (.bl false) h := by simp only [andq, evAnd]
theorem orq_nil {v : PV} : orq T cf t [] σ (.ok v h) = .ok v h := by simp only [orq, evOr]
theorem orq_f {e : E} {es : List E} : orq T cf t (e :: es) σ (.ok (.bl false) h) = orq T cf t es σ (ev T cf t e σ h) := by
  simp only [orq, evOr]; cases ev T cf t e σ h <;> rfl
theorem orq_t {e : E} {es : List E} : orq T cf t (e :: es) σ (.ok (.bl true) h) = .ok (.bl true) h := by simp only [orq, evOr]
theorem ev_cmp {op : Cmp} {a b : E} : ev T cf t (.cmp op a b) σ h = (ev T cf false a σ h).bind fun x h => (ev T cf false b σ h).bind fun y h => (R.of h (cmpv h op x y)).bind fun b h => .ok (.bl b) h := by rw [ev] <;> rfl
def chnq (op' : Cmp) (c : E) (σ : Sg) (y : PV) (T : Tb) (cf : CF) (h : HP) : Option Bool → R PV
  | some true => (ev T cf false c σ h).bind fun z h => (R.of h (cmpv h op' y z)).bind fun k h => .ok (.bl k) h
  | some false => .ok (.bl false) h
  | none => .bad
theorem ev_chain {op op' : Cmp} {a b c : E} : ev T cf t (.chain op op' a b c) σ h = (ev T cf false a σ h).bind fun x h => (ev T cf false b σ h).bind fun y h => chnq op' c σ y T cf h (cmpv h op x y) := by
  rw [ev]
  congr 1; funext x h; congr 1; funext y h
  cases cmpv h op x y with
  | none => rfl
  | some b => cases b <;> rfl
theorem ev_ife {c a b : E} : ev T cf t (.ife c a b) σ h = ifeq T cf t a b σ (ev T cf true c σ h) := by
  rw [ev]
  cases ev T cf true c σ h with
  | ok v h => cases v with
    | bl b => cases b <;> rfl
    | _ => rfl
  | _ => rfl
theorem ifeq_t {a b : E} : ifeq T cf t a b σ (.ok (.bl true) h) = (ev T cf false a σ h).bind (tr t) := rfl
theorem ifeq_f {a b : E} : ifeq T cf t a b σ (.ok (.bl false) h) = (ev T cf false b σ h).bind (tr t) := rfl
theorem ev_call {f : String} {args : List E} : ev T cf t (.call f args) σ h = (evs T cf args σ h).bind fun vs h => (cf f vs h).bind (tr t) := by rw [ev] <;> rfl
theorem ev_make {C : String} {args : List E} : ev T cf t (.make C args) σ h = (evs T cf args σ h).bind fun vs h => match T.mr C "__init__" with
    | some f => match cf f (.ref h.length :: vs) (h ++ [.ins C []]) with
      | .ok .non h' => tr t (.ref h.length) h'
      | .ok _ _ => .bad
      | .exc c h' => .exc c (trim h h')
      | .bad => .bad
    | none => .bad := by rw [ev] <;> rfl
/-- a method's call, its receiver known -/
def methq (t : Bool) (m : String) (args : List E) (σ : Sg) (T : Tb) (cf : CF) : R PV → R PV
  | .ok (.ref n) h => match h[n]? with
      | some (.ins C fs) => match fgetv fs m, T.mr C m with
        | none, some f => (evs T cf args σ h).bind fun vs h => (cf f (.ref n :: vs) h).bind (tr t)
        | _, _ => .bad
      | _ => .bad
  | .ok _ _ => .bad
  | .exc c h => .exc c h
  | .bad => .bad
theorem ev_meth {o : E} {m : String} {args : List E} : ev T cf t (.meth o m args) σ h = methq t m args σ T cf (ev T cf false o σ h) := by
  rw [ev]
  cases ev T cf false o σ h with
  | ok v h => cases v <;> rfl
  | _ => rfl
theorem methq_run {n : Nat} {m : String} {args : List E} {C : String} {fs : List (String × PV)} {f : String} (h1 : h[n]? = some (.ins C fs)) (h2 : fgetv fs m = none) (h3 : T.mr C m = some f) : methq t m args σ T cf (.ok (.ref n) h) = (evs T cf args σ h).bind fun vs h => (cf f (.ref n :: vs) h).bind (tr t) := by
  simp only [methq, h1, h2, h3]
theorem ev_cmeth {C m : String} {args : List E} : ev T cf t (.cmeth C m args) σ h = match T.mr C m with
    | some f => (evs T cf args σ h).bind fun vs h => (cf f vs h).bind (tr t)
    | none => .bad := by rw [ev] <;> rfl
theorem ev_blt {f : Bl} {args : List E} : ev T cf t (.blt f args) σ h = (evs T cf args σ h).bind fun vs h => (bltR h f vs).bind (tr t) := by rw [ev] <;> rfl
theorem ev_isin {x : E} {cs : List String} {many : Bool} : ev T cf t (.isin x cs many) σ h = (ev T cf false x σ h).bind fun v h => match alive h v with
    | true => .ok (.bl (cs.any fun c => isk T h v c)) h
    | false => .bad := by rw [ev] <;> rfl
theorem ev_bmeth {o : E} {m : Bm} {args : List E} : ev T cf t (.bmeth o m args) σ h = (ev T cf false o σ h).bind fun x h => match rcv h x m with
    | true => (evs T cf args σ h).bind fun vs h => (bmv h x m vs).bind (tr t)
    | false => .bad := by rw [ev] <;> rfl
theorem ev_attr {o : E} {f : String} : ev T cf t (.attr o f) σ h = (ev T cf false o σ h).bind fun x h => (R.of h (attrv h x f)).bind (tr t) := by rw [ev] <;> rfl
theorem ev_sub {o i : E} : ev T cf t (.sub o i) σ h = (ev T cf false o σ h).bind fun x h => (ev T cf false i σ h).bind fun y h => (R.of h (subv h x y)).bind (tr t) := by rw [ev] <;> rfl
theorem ev_slice {o : E} {lo hi : Option E} : ev T cf t (.slice o lo hi) σ h = (ev T cf false o σ h).bind fun x h => (evo T cf lo σ h).bind fun l h => (evo T cf hi σ h).bind fun r h => (R.of h (cutv h x l r)).bind (tr t) := by rw [ev] <;> rfl
theorem ev_tup {es : List E} : ev T cf t (.tup es) σ h = (evs T cf es σ h).bind fun vs h => tr t (.tup vs) h := by rw [ev] <;> rfl
theorem ev_vls {es : List E} : ev T cf t (.vls es) σ h = (evs T cf es σ h).bind fun vs h => tr t (.lst vs) h := by rw [ev] <;> rfl
theorem ev_mls {es : List E} : ev T cf t (.mls es) σ h = (evs T cf es σ h).bind fun vs h => tr t (.ref h.length) (h ++ [.lst vs]) := by rw [ev] <;> rfl
theorem ev_dict {ks : List String} {es : List E} : ev T cf t (.dict ks es) σ h = (evs T cf es σ h).bind fun vs h => tr t (.ref h.length) (h ++ [.dct (ks.zip vs |>.foldl (fun d p => dput d (.inr p.1) p.2) [])]) := by rw [ev] <;> rfl
theorem ev_compf {elt : E} {tg : Tg} {it : It} {ifs : List E} {own : List (String × Nat)} : ev T cf t (.comp false elt tg it ifs own) σ h = cmq t (cstep T cf elt tg ifs (wipe σ (own.map (·.2)))) (evi T cf it σ h) := by
  rw [ev]; cases evi T cf it σ h <;> rfl
theorem ev_compt {elt : E} {tg : Tg} {it : It} {ifs : List E} {own : List (String × Nat)} : ev T cf t (.comp true elt tg it ifs own) σ h = cmm t (cstep T cf elt tg ifs (wipe σ (own.map (·.2)))) (evi T cf it σ h) := by
  rw [ev]; cases evi T cf it σ h <;> rfl
theorem cmq_ok {step : PV → HP → R (Option PV)} {iv : ItV} : cmq t step (.ok iv h) = (compG iv step (itFuel h iv) 0 [] h).bind fun ys h => tr t (.lst ys) h := rfl
theorem ev_frz {e : E} : ev T cf t (.frz e) σ h = (ev T cf false e σ h).bind fun v h => (frzv h v).bind (tr t) := by rw [ev] <;> rfl
/-! loops -/
def forLq (step : PV → Sg → HP → R Fl) (r : List PV) : R Fl → R Fl
  | .ok (.nx σ) h => forL step r σ h
  | .ok (.brk σ) h => .ok (.nx σ) h
  | .ok (.ret v) h => .ok (.ret v) h
  | .ok (.xc c σ) h => .ok (.xc c σ) h
  | .exc c h => .exc c h
  | .bad => .bad
theorem forL_nil {step : PV → Sg → HP → R Fl} : forL step [] σ h = .ok (.nx σ) h := rfl
theorem forL_q {step : PV → Sg → HP → R Fl} {x : PV} {r : List PV} : forL step (x :: r) σ h = forLq step r (step x σ h) := by
  rw [forL]
  cases step x σ h with
  | ok fl h => cases fl <;> rfl
  | _ => rfl
theorem forLq_nx {step : PV → Sg → HP → R Fl} {r : List PV} : forLq step r (.ok (.nx σ) h) = forL step r σ h := rfl
theorem forLq_brk {step : PV → Sg → HP → R Fl} {r : List PV} : forLq step r (.ok (.brk σ) h) = .ok (.nx σ) h := rfl
theorem forLq_ret {step : PV → Sg → HP → R Fl} {r : List PV} {v : PV} : forLq step r (.ok (.ret v) h) = .ok (.ret v) h := rfl
theorem forLq_xc {step : PV → Sg → HP → R Fl} {r : List PV} {c : String} : forLq step r (.ok (.xc c σ) h) = .ok (.xc c σ) h := rfl
def rangeL (lo : Int) (n : Nat) : List PV := (List.range n).map fun i => PV.int (lo + (i : Nat))
theorem rangeL_get {lo : Int} {n i : Nat} {x : PV} (hx : (rangeL lo n)[i]? = some x) : i < n ∧ x = .int (lo + (i : Nat)) := by
  unfold rangeL at hx
  rw [List.getElem?_map] at hx
  by_cases hi : i < n
  · rw [List.getElem?_range hi] at hx
    exact ⟨hi, by simpa using hx.symm⟩
  · rw [List.getElem?_eq_none (by simpa using hi)] at hx
    cases hx
theorem forG_rng {lo : Int} {n : Nat} {step : PV → Sg → HP → R Fl} : forG (.rng lo n) step (n + 1) 0 σ h = forL step (rangeL lo n) σ h := by
  have := forG_eq (it := .rng lo n) (step := step) (vs := rangeL lo n) (fun i h => by
    simp only [itAt, rangeL, List.getElem?_map]
    by_cases hi : i < n
    · rw [if_pos hi, List.getElem?_range hi]; rfl
    · rw [if_neg hi, List.getElem?_eq_none (by simpa using hi)]; rfl) n 0 σ h (by simp [rangeL])
  exact this
end
theorem fnEnd_ret {D : Def} {h h' : HP} {v : PV} : fnEnd D h (.ok (.ret v) h') = fin D h v h' := rfl
theorem law_of {L : Def} {xs : List String} {sc : PV} {h : HP} (hp : L.params.length = 1) (hL : L.scratch = false) (e : exs (tb L xs) (fn (tb L xs) 99) L.body (L.start [sc]) [] = .ok (.ret (.bl true)) h) : fn (tb L xs) (99 + 1) "law" [sc] [] = .ok (.bl true) h := by
  rw [fn_run T_law (by rw [hp]; rfl), e, fnEnd_ret]
  simp only [fin, hL]
end LW
/-! LwW: a way as a machine; its place in the heap; its methods. -/
namespace LW
/-! ### the machine -/
inductive Nt where
  | inn (w : String) (v : Int) | out (w : String) (a : An)
  deriving DecidableEq, Inhabited
def Nt.pv : Nt → PV
  | .inn w v => .tup [.str w, .str "in", .int v]
  | .out w a => .tup [.str w, .str "out", a.pv]
structure LS where
  rows : List (Int × Int) := []
  n : Nat := 0
  deriving Inhabited, DecidableEq
structure G (β : Type) where
  b : β
  ns : List Nt
  ps : List Nat
def An.add (n : Int) : An → An
  | .ok v => .ok ((v + n) % 10000)
  | .bad s => .bad s
def An.orv (n : Int) : An → An
  | .ok v => .ok v
  | .bad _ => .ok n
def An.kind : An → String
  | .ok _ => "ok"
  | .bad _ => "bad"
def rep {α : Type} (f : α → An × α) : Nat → An → α → An × α
  | 0, a, s => (a, s)
  | n + 1, a, s => match a with
    | .ok v => (.ok v, s)
    | .bad _ => rep f n (f s).1 (f s).2
section
variable {β : Type}
abbrev Ps (β : Type) := List LS × G β
def up (x : LS) (r : An × Ps β) : An × Ps β := (r.1, (x :: r.2.1, r.2.2))
def hd (p : Ps β) : LS := p.1.headD {}
def tl (p : Ps β) : Ps β := (p.1.tail, p.2)
def push (t : Nt) (g : G β) : G β := { g with ns := g.ns ++ [t] }
def pushP (t : Nt) (p : Ps β) : Ps β := (p.1, push t p.2)
def enter (tr : Bool) (k : Nat) (g : G β) : G β := if tr then { g with ps := g.ps ++ [k] } else g
def look (rows : List (Int × Int)) (v : Int) : Option Int := (rows.find? fun r => r.1 == v).map (·.2)
def drop1 (rows : List (Int × Int)) (v : Int) : List (Int × Int) := rows.eraseP fun r => r.1 == v
def lastN {α : Type} (n : Nat) (xs : List α) : List α := xs.drop (xs.length - n)
def kept (n : Nat) (x : LS) (v : Int) : An → LS
  | .ok w => if n = 0 then x else { x with rows := lastN n (x.rows ++ [(v, w)]) }
  | .bad _ => x
def lay (l : Ly) (f : Int → Ps β → An × Ps β) (v : Int) (p : Ps β) : An × Ps β := match l with
  | .inn n => up (hd p) (f ((v + n) % 10000) (tl p))
  | .out n => up (hd p) ((f v (tl p)).1.add n, (f v (tl p)).2)
  | .gate lo hi => if lo ≤ v ∧ v ≤ hi then up (hd p) (f v (tl p)) else (.bad "gate", p)
  | .again n => up (hd p) (rep (f v) n (f v (tl p)).1 (f v (tl p)).2)
  | .instead n => up (hd p) ((f v (tl p)).1.orv n, (f v (tl p)).2)
  | .keep n => match look (hd p).rows v with
    | some w => (.ok w, ({ hd p with rows := drop1 (hd p).rows v ++ [(v, w)] } :: p.1.tail, p.2))
    | none => up (kept n (hd p) v (f v (tl p)).1) (f v (tl p))
  | .few n => if (hd p).n = n then (.bad "few", p) else up { hd p with n := (hd p).n + 1 } (f v (tl p))
  | .note w => up (hd p) ((f v (pushP (.inn w v) (tl p))).1, pushP (.out w (f v (pushP (.inn w v) (tl p))).1) (f v (pushP (.inn w v) (tl p))).2)
def askB (bask : Int → β → An × β) (v : Int) (p : Ps β) : An × Ps β := ((bask v p.2.b).1, (p.1, { p.2 with b := (bask v p.2.b).2 }))
def go (tr : Bool) (bask : Int → β → An × β) : List Ly → Nat → Int → Ps β → An × Ps β
  | [], k, v, p => askB bask v (p.1, enter tr k p.2)
  | l :: ls, k, v, p => lay l (fun v q => go tr bask ls (k + 1) v q) v (p.1, enter tr k p.2)
/-! ### how much is noted -/
/-- nf: what is behind never fails -/
def canFailB (nf : Bool) : List Ly → Bool
  | [] => !nf
  | .instead _ :: _ => false
  | .gate _ _ :: _ => true
  | .few _ :: _ => true
  | _ :: r => canFailB nf r
theorem canFailB_false : ∀ ls, canFailB false ls = canFail ls
  | [] => rfl
  | l :: ls => by cases l <;> first | rfl | exact canFailB_false ls
def mult (nf : Bool) (l : Ly) (ls : List Ly) : Nat := match l with
  | .again n => if canFailB nf ls then n + 1 else 1
  | _ => 1
def KB (nf tr : Bool) : List Ly → Nat
  | [] => if tr then 1 else 0
  | l :: ls => (if tr then 1 else 0) + (match l with
    | .note _ => 2
    | _ => 0) + mult nf l ls * KB nf tr ls
/-- what is behind never fails, if so told -/
def NF {β : Type} (nf : Bool) (bask : Int → β → An × β) : Prop := nf = true → ∀ v b, ((bask v b).1.kind = "ok")
def An.isOk : An → Bool
  | .ok _ => true
  | .bad _ => false
theorem rep_ok {α : Type} {f : α → An × α} {n : Nat} {a : An} {s : α} (h : a.isOk = true) : rep f n a s = (a, s) := by
  cases n with
  | zero => rfl
  | succ n => cases a with
    | ok v => rfl
    | bad _ => cases h
/-- what can't fail does not -/
theorem go_isOk {nf tr : Bool} {bask : Int → β → An × β} (hnf : NF nf bask) : ∀ (ls : List Ly) (k : Nat) (v : Int) (p : Ps β), canFailB nf ls = false → (go tr bask ls k v p).1.isOk = true
  | [], k, v, p, h => by
    have h1 : nf = true := by simpa [canFailB] using h
    have := hnf h1 v (enter tr k p.2).b
    simp only [go, askB]
    revert this
    cases (bask v (enter tr k p.2).b).1 <;> simp [An.kind, An.isOk]
  | l :: ls, k, v, p, h => by
    have ih := go_isOk (tr := tr) hnf ls
    cases l with
    | inn n => exact ih (k + 1) _ _ h
    | out n =>
      have := ih (k + 1) v (tl (p.1, enter tr k p.2)) h
      simp only [go, lay, up]
      revert this
      cases (go tr bask ls (k + 1) v (tl (p.1, enter tr k p.2))).1 <;> exact fun q => q
    | gate lo hi => cases h
    | again n =>
      have := ih (k + 1) v (tl (p.1, enter tr k p.2)) h
      simp only [go, lay, up]
      rw [rep_ok this]
      exact this
    | instead n =>
      simp only [go, lay, up]
      cases (go tr bask ls (k + 1) v (tl (p.1, enter tr k p.2))).1 <;> rfl
    | keep n =>
      simp only [go, lay]
      split
      · rfl
      · exact ih (k + 1) _ _ h
    | few n => cases h
    | note w => exact ih (k + 1) _ _ h
def Le (m : Nat) (g g' : G β) : Prop := g'.ns.length ≤ g.ns.length + m ∧ g'.ps.length ≤ g.ps.length + m
theorem Le.refl (g : G β) (m : Nat) : Le m g g := ⟨by omega, by omega⟩
theorem Le.trans {m n : Nat} {g g' g'' : G β} (a : Le m g g') (b : Le n g' g'') : Le (m + n) g g'' := ⟨by have := a.1; have := b.1; omega, by have := a.2; have := b.2; omega⟩
theorem Le.mono {m n : Nat} {g g' : G β} (a : Le m g g') (h : m ≤ n) : Le n g g' := ⟨by have := a.1; omega, by have := a.2; omega⟩
theorem enter_le (tr : Bool) (k : Nat) (g : G β) : Le (if tr then 1 else 0) g (enter tr k g) := by
  cases tr <;> simp [enter, Le]
theorem rep_le {m : Nat} {f : Ps β → An × Ps β} (hf : ∀ p, Le m p.2 (f p).2.2) : ∀ n a p, Le (n * m) p.2 (rep f n a p).2.2
  | 0, a, p => Le.refl _ _
  | n + 1, a, p => by
    cases a with
    | ok v => exact Le.refl _ _
    | bad s =>
      have := (hf p).trans (rep_le hf n (f p).1 (f p).2)
      exact this.mono (by rw [Nat.succ_mul]; omega)
theorem go_le {nf tr : Bool} {bask : Int → β → An × β} (hnf : NF nf bask) : ∀ (ls : List Ly) (k : Nat) (v : Int) (p : Ps β), Le (KB nf tr ls) p.2 (go tr bask ls k v p).2.2
  | [], k, v, p => enter_le tr k p.2
  | l :: ls, k, v, p => by
    have ih := go_le (tr := tr) hnf ls (k + 1)
    have e := enter_le tr k p.2
    have one : ∀ v (q : Ps β), q.2 = enter tr k p.2 → Le (KB nf tr (l :: ls)) p.2 (go tr bask ls (k + 1) v q).2.2 := fun v q hq => by
      have := ih v q
      rw [hq] at this
      refine (e.trans this).mono ?_
      simp only [KB]
      have : 1 ≤ mult nf l ls := by unfold mult; split <;> (try split) <;> omega
      have := Nat.mul_le_mul_right (KB nf tr ls) this
      omega
    have none' : Le (KB nf tr (l :: ls)) p.2 (enter tr k p.2) := e.mono (by simp only [KB]; omega)
    cases l with
    | inn n => exact one _ _ rfl
    | out n => exact one _ _ rfl
    | gate lo hi =>
      simp only [go, lay]
      split
      · exact one _ _ rfl
      · exact none'
    | again n =>
      cases hc : canFailB nf ls with
      | false =>
        simp only [go, lay, up]
        rw [rep_ok (go_isOk hnf ls _ _ _ hc)]
        exact one _ _ rfl
      | true =>
        simp only [go, lay, up]
        have h1 := ih v (tl (p.1, enter tr k p.2))
        have h2 := rep_le (f := go tr bask ls (k + 1) v) (ih v) n (go tr bask ls (k + 1) v (tl (p.1, enter tr k p.2))).1 (go tr bask ls (k + 1) v (tl (p.1, enter tr k p.2))).2
        refine (e.trans (h1.trans h2)).mono ?_
        simp only [KB, mult, hc, if_true, Nat.succ_mul]
        omega
    | instead n => exact one _ _ rfl
    | keep n =>
      simp only [go, lay]
      split
      · exact none'
      · exact one _ _ rfl
    | few n =>
      simp only [go, lay]
      split
      · exact none'
      · exact one _ _ rfl
    | note w =>
      simp only [go, lay, up]
      have h1 := ih v (pushP (.inn w v) (tl (p.1, enter tr k p.2)))
      have a1 : Le 1 (enter tr k p.2) (pushP (.inn w v) (tl (p.1, enter tr k p.2))).2 := ⟨by simp [pushP, push, tl], by simp [pushP, push, tl]⟩
      have a2 : ∀ (t : Nt) (q : Ps β), Le 1 q.2 (pushP t q).2 := fun t q => ⟨by simp [pushP, push], by simp [pushP, push]⟩
      refine (e.trans (a1.trans (h1.trans (a2 _ _)))).mono ?_
      simp only [KB, mult]
      omega
theorem mult_le (nf : Bool) (l : Ly) (ls : List Ly) : mult nf l ls ≤ mult false l ls := by
  have : ∀ ls, canFailB nf ls = true → canFailB false ls = true := by
    intro ls
    induction ls with
    | nil => intro _; rfl
    | cons l ls ih => cases l <;> first | exact fun h => h | exact ih
  cases l with
  | again n =>
    simp only [mult]
    cases h : canFailB nf ls with
    | true => simp [this ls h]
    | false => simp; split <;> omega
  | _ => exact Nat.le_refl _
theorem KB_le (nf tr : Bool) : ∀ ls, KB nf tr ls ≤ mostAsks ls * (1 + 3 * ls.length)
  | [] => by cases tr <;> simp [KB, mostAsks]
  | l :: ls => by
    have ih := KB_le nf tr ls
    have hm : mostAsks (l :: ls) = mult false l ls * mostAsks ls := by cases l <;> simp [mostAsks, mult, canFailB_false]
    have hp := mostAsks_pos (l :: ls)
    have h1 : mult nf l ls * KB nf tr ls ≤ mult false l ls * (mostAsks ls * (1 + 3 * ls.length)) := Nat.mul_le_mul (mult_le nf l ls) ih
    rw [← Nat.mul_assoc, ← hm] at h1
    have h2 : mostAsks (l :: ls) * (1 + 3 * (l :: ls).length) = mostAsks (l :: ls) * (1 + 3 * ls.length) + mostAsks (l :: ls) * 3 := by
      rw [List.length_cons, ← Nat.mul_add]
      congr 1
    rw [h2]
    have h3 : KB nf tr (l :: ls) ≤ 3 + mult nf l ls * KB nf tr ls := by
      simp only [KB]
      have a : (if tr then 1 else 0) ≤ 1 := by split <;> omega
      cases l <;> simp only <;> omega
    omega
end
/-! ### in the heap -/
structure Ad where
  a : Nat
  r : Nat
  st : Nat
  c : Nat
  p : Nat
  tr : Bool
def cls (tr : Bool) : String := if tr then "TracedWay" else "Way"
def goN (tr : Bool) : String := if tr then "TracedWay.go" else "Way.go"
def wfs (A : Ad) (ls : List Ly) : List (String × PV) := [("layers", lpv ls), ("core", .ref A.c), ("rows", .ref A.r), ("states", .ref A.st)] ++ (if A.tr then [("places", .ref A.p)] else [])
def rowpv (r : Int × Int) : PV := .tup [.int r.1, (An.ok r.2).pv]
def ent (h : HP) (l : Ly) (x : LS) (e : PV) : Prop := match l with
  | .keep m => asD h e = some (x.rows.map rowpv) ∧ x.rows.length ≤ m
  | .few m => ∃ k vs, e = .ref k ∧ h[k]? = some (.lst vs) ∧ vs.length = x.n ∧ x.n ≤ m
  | _ => True
/-- what is changed lies within F -/
def Fr (F : Nat → Prop) (h h' : HP) : Prop := h'.length = h.length ∧ ∀ n, ¬ F n → h'[n]? = h[n]?
theorem Fr.refl (F : Nat → Prop) (h : HP) : Fr F h h := ⟨rfl, fun _ _ => rfl⟩
theorem Fr.trans {F : Nat → Prop} {h h' h'' : HP} (a : Fr F h h') (b : Fr F h' h'') : Fr F h h'' := ⟨b.1.trans a.1, fun n hn => (b.2 n hn).trans (a.2 n hn)⟩
theorem Fr.mono {F F' : Nat → Prop} {h h' : HP} (a : Fr F h h') (hF : ∀ n, F n → F' n) : Fr F' h h' := ⟨a.1, fun n hn => a.2 n fun q => hn (hF n q)⟩
theorem Fr.set {F : Nat → Prop} {h : HP} {n : Nat} {o : MO} (hn : F n) : Fr F h (h.set n o) := ⟨List.length_set, fun k hk => List.getElem?_set_ne fun e : n = k => hk (by rw [← e]; exact hn)⟩
/-- what lies behind -/
structure BS (T : Tb) (d0 c : Nat) {β : Type} (bask : Int → β → An × β) (FB : Nat → Prop) (BR : HP → β → Prop) : Prop where
  obj : ∀ h b, BR h b → ∃ C fs f, h[c]? = some (.ins C fs) ∧ fgetv fs "ask" = none ∧ T.mr C "ask" = some f ∧ ∀ D v, d0 ≤ D → 0 ≤ v → v ≤ 9999 → ∃ h', fn T D f [.ref c, .int v] h = .ok (bask v b).1.pv h' ∧ BR h' (bask v b).2 ∧ Fr FB h h'
  frame : ∀ h h' b, BR h b → (∀ n, FB n → h'[n]? = h[n]?) → BR h' b
structure Rep {β : Type} (BR : HP → β → Prop) (FB F : Nat → Prop) (A : Ad) (ls : List Ly) (h : HP) (xs : List LS) (g : G β) : Prop where
  obj : h[A.a]? = some (.ins (cls A.tr) (wfs A ls))
  rows : h[A.r]? = some (.lst (g.ns.map Nt.pv))
  plc : A.tr = true → h[A.p]? = some (.lst (g.ps.map fun n => .int (n : Nat)))
  len : xs.length = ls.length
  ex : ∃ es : List PV, h[A.st]? = some (.lst es) ∧ es.length = ls.length ∧ (∀ (i : Nat) l x e, ls[i]? = some l → xs[i]? = some x → es[i]? = some e → ent h l x e) ∧
    (∀ (i k : Nat), es[i]? = some (.ref k) → k ≠ A.r ∧ k ≠ A.st ∧ (A.tr = true → k ≠ A.p) ∧ F k ∧ ¬ FB k) ∧ (∀ (i j k : Nat), es[i]? = some (.ref k) → es[j]? = some (.ref k) → i = j)
  beh : BR h g.b
  ne1 : A.r ≠ A.st
  ne2 : A.tr = true → A.p ≠ A.r ∧ A.p ≠ A.st ∧ F A.p ∧ ¬ FB A.p
  fb : ∀ n, FB n → F n
  own : F A.a ∧ ¬ FB A.a ∧ F A.r ∧ ¬ FB A.r ∧ F A.st ∧ ¬ FB A.st
  ok : lok ls = true
theorem ins_ne {h : HP} {a b : Nat} {C : String} {fs : List (String × PV)} {ys : List PV} (ha : h[a]? = some (.ins C fs)) (hb : h[b]? = some (.lst ys)) : a ≠ b := by
  intro e
  subst e
  rw [ha] at hb
  cases hb
theorem ent_set {h : HP} {l : Ly} {x : LS} {e : PV} {n : Nat} {o : MO} (he : ent h l x e) (hn : ∀ k, e = .ref k → k ≠ n) : ent (h.set n o) l x e := by
  cases l with
  | keep m =>
    cases e with
    | ref k =>
      have := hn k rfl
      refine ⟨?_, he.2⟩
      have he := he.1
      simp only [asD, List.getElem?_set_ne this.symm] at he ⊢
      exact he
    | _ => exact he
  | few m =>
    obtain ⟨k, vs, rfl, h1, h2⟩ := he
    exact ⟨k, vs, rfl, by rw [List.getElem?_set_ne (hn k rfl).symm]; exact h1, h2⟩
  | _ => trivial
theorem ent_eq {h h' : HP} {l : Ly} {x : LS} {e : PV} (he : ent h l x e) (hn : ∀ k, e = .ref k → h'[k]? = h[k]?) : ent h' l x e := by
  cases l with
  | keep m =>
    cases e with
    | ref k =>
      have := hn k rfl
      refine ⟨?_, he.2⟩
      have he := he.1
      simp only [asD, this] at he ⊢
      exact he
    | _ => exact he
  | few m =>
    obtain ⟨k, vs, rfl, h1, h2⟩ := he
    exact ⟨k, vs, rfl, by rw [hn k rfl]; exact h1, h2⟩
  | _ => trivial
section
variable {β : Type} {BR : HP → β → Prop} {FB F : Nat → Prop} {A : Ad} {ls : List Ly} {h h' : HP} {ys : List LS} {g : G β}
theorem Rep.frame (hR : Rep BR FB F A ls h ys g) (hB : ∀ h h' b, BR h b → (∀ n, FB n → h'[n]? = h[n]?) → BR h' b) (he : ∀ n, F n → h'[n]? = h[n]?) : Rep BR FB F A ls h' ys g := by
  obtain ⟨es, e1, e2, e3, e4, e5⟩ := hR.ex
  exact { obj := by rw [he _ hR.own.1]; exact hR.obj
          rows := by rw [he _ hR.own.2.2.1]; exact hR.rows
          plc := fun t => by rw [he _ (hR.ne2 t).2.2.1]; exact hR.plc t
          len := hR.len
          ex := ⟨es, by rw [he _ hR.own.2.2.2.2.1]; exact e1, e2, fun i l x e h1 h2 h3 => ent_eq (e3 i l x e h1 h2 h3) fun k hk => he k (e4 i k (hk ▸ h3)).2.2.2.1, e4, e5⟩
          beh := hB _ _ _ hR.beh fun n hn => he n (hR.fb n hn)
          ne1 := hR.ne1, ne2 := hR.ne2, fb := hR.fb, own := hR.own, ok := hR.ok }
/-- a note -/
theorem Rep.note (hR : Rep BR FB F A ls h ys g) (hB : ∀ h h' b, BR h b → (∀ n, FB n → h'[n]? = h[n]?) → BR h' b) (t : Nt) : Rep BR FB F A ls (h.set A.r (.lst (g.ns.map Nt.pv ++ [t.pv]))) ys (push t g) := by
  obtain ⟨es, e1, e2, e3, e4, e5⟩ := hR.ex
  have na := ins_ne hR.obj hR.rows
  exact { obj := by rw [get_set_ne na.symm]; exact hR.obj
          rows := by rw [get_set hR.rows]; simp [push]
          plc := fun t => by rw [get_set_ne (hR.ne2 t).1.symm]; exact hR.plc t
          len := hR.len
          ex := ⟨es, by rw [get_set_ne hR.ne1]; exact e1, e2, fun i l x e h1 h2 h3 => ent_set (e3 i l x e h1 h2 h3) fun k hk => (e4 i k (hk ▸ h3)).1, e4, e5⟩
          beh := hB _ _ _ hR.beh fun n hn => get_set_ne fun e => hR.own.2.2.2.1 (e ▸ hn)
          ne1 := hR.ne1, ne2 := hR.ne2, fb := hR.fb, own := hR.own, ok := hR.ok }
/-- a place -/
theorem Rep.place (hR : Rep BR FB F A ls h ys g) (hB : ∀ h h' b, BR h b → (∀ n, FB n → h'[n]? = h[n]?) → BR h' b) (ht : A.tr = true) (k : Nat) : Rep BR FB F A ls (h.set A.p (.lst ((g.ps.map fun n => .int (n : Nat)) ++ [.int k]))) ys (enter true k g) := by
  obtain ⟨es, e1, e2, e3, e4, e5⟩ := hR.ex
  have na := ins_ne hR.obj (hR.plc ht)
  exact { obj := by rw [get_set_ne na.symm]; exact hR.obj
          rows := by rw [get_set_ne (hR.ne2 ht).1]; exact hR.rows
          plc := fun t => by rw [get_set (hR.plc ht)]; simp [enter]
          len := hR.len
          ex := ⟨es, by rw [get_set_ne (hR.ne2 ht).2.1]; exact e1, e2, fun i l x e h1 h2 h3 => ent_set (e3 i l x e h1 h2 h3) fun k hk => (e4 i k (hk ▸ h3)).2.2.1 ht, e4, e5⟩
          beh := hB _ _ _ hR.beh fun n hn => get_set_ne fun e => (hR.ne2 ht).2.2.2 (e ▸ hn)
          ne1 := hR.ne1, ne2 := hR.ne2, fb := hR.fb, own := hR.own, ok := hR.ok }
/-- what is behind was asked -/
theorem Rep.behind (hR : Rep BR FB F A ls h ys g) {b' : β} (hb : BR h' b') (hf : Fr FB h h') : Rep BR FB F A ls h' ys { g with b := b' } := by
  obtain ⟨es, e1, e2, e3, e4, e5⟩ := hR.ex
  exact { obj := by rw [hf.2 _ hR.own.2.1]; exact hR.obj
          rows := by rw [hf.2 _ hR.own.2.2.2.1]; exact hR.rows
          plc := fun t => by rw [hf.2 _ (hR.ne2 t).2.2.2]; exact hR.plc t
          len := hR.len
          ex := ⟨es, by rw [hf.2 _ hR.own.2.2.2.2.2]; exact e1, e2, fun i l x e h1 h2 h3 => ent_eq (e3 i l x e h1 h2 h3) fun k hk => hf.2 k (e4 i k (hk ▸ h3)).2.2.2.2, e4, e5⟩
          beh := hb
          ne1 := hR.ne1, ne2 := hR.ne2, fb := hR.fb, own := hR.own, ok := hR.ok }
/-- few: one more -/
theorem Rep.more (hR : Rep BR FB F A ls h ys g) (hB : ∀ h h' b, BR h b → (∀ n, FB n → h'[n]? = h[n]?) → BR h' b) {i m : Nat} {x : LS} (hl : ls[i]? = some (.few m)) (hx : ys[i]? = some x) (hm : x.n < m) (v : PV) :
    ∃ es k vs, h[A.st]? = some (.lst es) ∧ es[i]? = some (.ref k) ∧ h[k]? = some (.lst vs) ∧ vs.length = x.n ∧ Rep BR FB F A ls (h.set k (.lst (vs ++ [v]))) (ys.set i { x with n := x.n + 1 }) g ∧ F k := by
  obtain ⟨es, e1, e2, e3, e4, e5⟩ := hR.ex
  have hi : i < ls.length := (List.getElem?_eq_some_iff.mp hl).1
  have hei : i < es.length := by omega
  have hee : es[i]? = some es[i] := List.getElem?_eq_getElem hei
  obtain ⟨k, vs, ek, h1, h2, _⟩ := e3 i _ x _ hl hx hee
  have hek : es[i]? = some (.ref k) := by rw [hee, ek]
  obtain ⟨q1, q2, q3, q4, q5⟩ := e4 i k hek
  have na := ins_ne hR.obj h1
  refine ⟨es, k, vs, e1, hek, h1, h2, ?_, q4⟩
  exact { obj := by rw [get_set_ne na.symm]; exact hR.obj
          rows := by rw [get_set_ne q1]; exact hR.rows
          plc := fun t => by rw [get_set_ne (q3 t)]; exact hR.plc t
          len := by rw [List.length_set]; exact hR.len
          ex := ⟨es, by rw [get_set_ne q2]; exact e1, e2, fun j l y e g1 g2 g3 => by
            by_cases hj : i = j
            · subst hj
              rw [hl] at g1
              cases g1
              rw [List.getElem?_set_self (List.getElem?_eq_some_iff.mp hx).1] at g2
              cases g2
              rw [hek] at g3
              cases g3
              exact ⟨k, vs ++ [v], rfl, get_set h1, by simp [h2], hm⟩
            · rw [List.getElem?_set_ne hj] at g2
              exact ent_set (e3 j l y e g1 g2 g3) fun k' hk' e' => hj (e5 i j k hek (by rw [g3, hk', e'])), e4, e5⟩
          beh := hB _ _ _ hR.beh fun n hn => get_set_ne fun e => q5 (e ▸ hn)
          ne1 := hR.ne1, ne2 := hR.ne2, fb := hR.fb, own := hR.own, ok := hR.ok }
/-- keep: other rows -/
theorem Rep.keeps (hR : Rep BR FB F A ls h ys g) (hB : ∀ h h' b, BR h b → (∀ n, FB n → h'[n]? = h[n]?) → BR h' b) {i m : Nat} {x : LS} (hl : ls[i]? = some (.keep m)) (hx : ys[i]? = some x) {es : List PV} (he : h[A.st]? = some (.lst es)) (rows : List (Int × Int)) (hm : rows.length ≤ m) :
    Rep BR FB F A ls (h.set A.st (.lst (es.set i (.lst (rows.map rowpv))))) (ys.set i { x with rows := rows }) g := by
  obtain ⟨es', e1, e2, e3, e4, e5⟩ := hR.ex
  rw [he] at e1
  cases e1
  have hi : i < ls.length := (List.getElem?_eq_some_iff.mp hl).1
  have hei : i < es.length := by omega
  have na := ins_ne hR.obj he
  have hs : ∀ (j k : Nat), (es.set i (.lst (rows.map rowpv)))[j]? = some (.ref k) → es[j]? = some (.ref k) := fun j k q => by
    by_cases hj : i = j
    · subst hj
      rw [List.getElem?_set_self hei] at q
      cases q
    · rw [List.getElem?_set_ne hj] at q; exact q
  exact { obj := by rw [get_set_ne na.symm]; exact hR.obj
          rows := by rw [get_set_ne hR.ne1.symm]; exact hR.rows
          plc := fun t => by rw [get_set_ne (hR.ne2 t).2.1.symm]; exact hR.plc t
          len := by rw [List.length_set]; exact hR.len
          ex := ⟨_, get_set he, by rw [List.length_set]; exact e2, fun j l y e g1 g2 g3 => by
            by_cases hj : i = j
            · subst hj
              rw [hl] at g1
              cases g1
              rw [List.getElem?_set_self (List.getElem?_eq_some_iff.mp hx).1] at g2
              cases g2
              rw [List.getElem?_set_self hei] at g3
              cases g3
              exact ⟨rfl, hm⟩
            · rw [List.getElem?_set_ne hj] at g2 g3
              exact ent_set (e3 j l y e g1 g2 g3) fun k' hk' => (e4 j k' (hk' ▸ g3)).2.1, fun j k q => e4 j k (hs j k q), fun j j' k q q' => e5 j j' k (hs j k q) (hs j' k q')⟩
          beh := hB _ _ _ hR.beh fun n hn => get_set_ne fun e => hR.own.2.2.2.2.2 (e ▸ hn)
          ne1 := hR.ne1, ne2 := hR.ne2, fb := hR.fb, own := hR.own, ok := hR.ok }
theorem Rep.keepAt (hR : Rep BR FB F A ls h ys g) {i m : Nat} {x : LS} (hl : ls[i]? = some (.keep m)) (hx : ys[i]? = some x) : ∃ es e, h[A.st]? = some (.lst es) ∧ es[i]? = some e ∧ asD h e = some (x.rows.map rowpv) ∧ x.rows.length ≤ m := by
  obtain ⟨es, e1, e2, e3, e4, e5⟩ := hR.ex
  have hi : i < ls.length := (List.getElem?_eq_some_iff.mp hl).1
  have hei : i < es.length := by omega
  have hee : es[i]? = some es[i] := List.getElem?_eq_getElem hei
  exact ⟨es, es[i], e1, hee, e3 i _ x _ hl hx hee⟩
end
theorem Rep.fewAt {β : Type} {BR : HP → β → Prop} {FB F : Nat → Prop} {A : Ad} {ls : List Ly} {h : HP} {ys : List LS} {g : G β} (hR : Rep BR FB F A ls h ys g) {i m : Nat} {x : LS} (hl : ls[i]? = some (.few m)) (hx : ys[i]? = some x) : ∃ es k vs, h[A.st]? = some (.lst es) ∧ es[i]? = some (.ref k) ∧ h[k]? = some (.lst vs) ∧ vs.length = x.n ∧ x.n ≤ m := by
  obtain ⟨es, e1, e2, e3, e4, e5⟩ := hR.ex
  have hi : i < ls.length := (List.getElem?_eq_some_iff.mp hl).1
  have hei : i < es.length := by omega
  have hee : es[i]? = some es[i] := List.getElem?_eq_getElem hei
  obtain ⟨k, vs, ek, h1, h2, h3⟩ := e3 i _ x _ hl hx hee
  exact ⟨es, k, vs, e1, by rw [hee, ek], h1, h2, h3⟩
end LW
/-! LwX: a way is asked. -/
namespace LW
section
variable {L : Def} {xs : List String} {h : HP} {A : Ad} {ls : List Ly}
theorem fg_go : fgetv (wfs A ls) "go" = none := by unfold wfs; cases A.tr <;> simp [fgetv]
theorem fg_ask : fgetv (wfs A ls) "ask" = none := by unfold wfs; cases A.tr <;> simp [fgetv]
theorem fg_keep : fgetv (wfs A ls) "keep" = none := by unfold wfs; cases A.tr <;> simp [fgetv]
theorem fg_few : fgetv (wfs A ls) "few" = none := by unfold wfs; cases A.tr <;> simp [fgetv]
theorem fg_note : fgetv (wfs A ls) "note" = none := by unfold wfs; cases A.tr <;> simp [fgetv]
theorem fg_changed : fgetv (wfs A ls) "changed" = none := by unfold wfs; cases A.tr <;> simp [fgetv]
theorem fg_asked : fgetv (wfs A ls) "asked" = none := by unfold wfs; cases A.tr <;> simp [fgetv]
theorem fg_notes : fgetv (wfs A ls) "notes" = none := by unfold wfs; cases A.tr <;> simp [fgetv]
theorem fg_forget : fgetv (wfs A ls) "forget" = none := by unfold wfs; cases A.tr <;> simp [fgetv]
theorem fg_layers : fgetv (wfs A ls) "layers" = some (lpv ls) := by simp [wfs, fgetv]
theorem fg_core : fgetv (wfs A ls) "core" = some (.ref A.c) := by simp [wfs, fgetv]
theorem fg_rows : fgetv (wfs A ls) "rows" = some (.ref A.r) := by simp [wfs, fgetv]
theorem fg_states : fgetv (wfs A ls) "states" = some (.ref A.st) := by simp [wfs, fgetv]
theorem fg_places (ht : A.tr = true) : fgetv (wfs A ls) "places" = some (.ref A.p) := by simp [wfs, fgetv, ht]
theorem mr_go {t : Bool} : (tb L xs).mr (cls t) "go" = some (goN t) := by cases t <;> simp [cls, goN]
theorem mr_ask {t : Bool} : (tb L xs).mr (cls t) "ask" = some "Way.ask" := by cases t <;> simp [cls]
theorem mr_keep {t : Bool} : (tb L xs).mr (cls t) "keep" = some "Way.keep" := by cases t <;> simp [cls]
theorem mr_few {t : Bool} : (tb L xs).mr (cls t) "few" = some "Way.few" := by cases t <;> simp [cls]
theorem mr_note {t : Bool} : (tb L xs).mr (cls t) "note" = some "Way.note" := by cases t <;> simp [cls]
theorem mr_changed {t : Bool} : (tb L xs).mr (cls t) "changed" = some "Way.changed" := by cases t <;> simp [cls]
theorem mr_asked {t : Bool} : (tb L xs).mr (cls t) "asked" = some "Way.asked" := by cases t <;> simp [cls]
theorem mr_notes {t : Bool} : (tb L xs).mr (cls t) "notes" = some "Way.notes" := by cases t <;> simp [cls]
theorem mr_forget {t : Bool} : (tb L xs).mr (cls t) "forget" = some "Way.forget" := by cases t <;> simp [cls]
theorem lenh_lpv : lenh h (lpv ls) = some ls.length := by simp only [lpv, lenh, List.length_map]
theorem sub_lpv {l : Ly} {l1 l2 : List Ly} : subv h (lpv (l1 ++ l :: l2)) (.int l1.length) = some l.pv := by
  have h1 : (0 : Int) ≤ (l1.length : Nat) := by omega
  have h2 : (l1.length : Int) < (((l1 ++ l :: l2).map Ly.pv).length : Nat) := by simp; omega
  simp only [lpv, subv, ixP, h1, h2, if_true, Int.toNat_natCast, Option.bind_some]
  simp
theorem sub_an0 {a : An} : subv h a.pv (.int 0) = some (.str a.kind) := by cases a <;> rfl
theorem sub_an1 {w : Int} : subv h (An.ok w).pv (.int 1) = some (.int w) := rfl
theorem sub_ref {n : Nat} {es : List PV} {k : Nat} (hn : h[n]? = some (.lst es)) (hk : k < es.length) : subv h (.ref n) (.int k) = es[k]? := by
  simp only [subv, hn, ixP]
  rw [if_pos (by omega), if_pos (by omega)]
  rfl
end
section
variable {L : Def} {xs : List String} {β : Type} {bask : Int → β → An × β} {BR : HP → β → Prop} {FB F : Nat → Prop} {A : Ad} {d0 : Nat} {nf : Bool}
/-- the layers from l2 on answer as the machine does -/
def Pgo (nf : Bool) (L : Def) (xs : List String) (bask : Int → β → An × β) (BR : HP → β → Prop) (FB F : Nat → Prop) (A : Ad) (d0 : Nat) (nm : String) (m : List Ly → Nat → Int → Ps β → An × Ps β) (e : Nat) (l2 : List Ly) : Prop :=
  ∀ (D : Nat) (l1 : List Ly) (x1 x2 : List LS) (g : G β) (h : HP) (v : Int), 3 * l2.length + d0 + 1 + e ≤ D → Rep BR FB F A (l1 ++ l2) h (x1 ++ x2) g → x1.length = l1.length → 0 ≤ v → v ≤ 9999 →
    g.ns.length + KB nf A.tr l2 ≤ lineN → (A.tr = true → g.ps.length + KB nf A.tr l2 ≤ lineN + (1 - e)) → ∃ h', fn (tb L xs) D nm [.ref A.a, .int l1.length, .int v] h = .ok (m l2 l1.length v (x2, g)).1.pv h' ∧
    Rep BR FB F A (l1 ++ l2) h' (x1 ++ (m l2 l1.length v (x2, g)).2.1) (m l2 l1.length v (x2, g)).2.2 ∧ Fr F h h'
def goI (tr : Bool) (bask : Int → β → An × β) (ls : List Ly) (k : Nat) (v : Int) (p : Ps β) : An × Ps β := match ls with
  | [] => askB bask v p
  | l :: ls => lay l (fun v q => go tr bask ls (k + 1) v q) v p
theorem go_goI {tr : Bool} {ls : List Ly} {k : Nat} {v : Int} {p : Ps β} : go tr bask ls k v p = goI tr bask ls k v (p.1, enter tr k p.2) := by cases ls <;> rfl
/-- entering -/
theorem go_of_goI (hB : BS (tb L xs) d0 A.c bask FB BR) {l2 : List Ly} (hI : Pgo nf L xs bask BR FB F A d0 "Way.go" (goI A.tr bask) 0 l2) : Pgo nf L xs bask BR FB F A d0 (goN A.tr) (go A.tr bask) 1 l2 := by
  intro D l1 x1 x2 g h v hD hR hx v0 v1 hn hp
  cases ht : A.tr with
  | false =>
    have := hI D l1 x1 x2 g h v (by omega) hR hx v0 v1 hn (fun q => by rw [ht] at q; cases q)
    rw [ht] at this
    simp only [go_goI, goN, enter]
    exact this
  | true =>
    obtain ⟨D, rfl⟩ : ∃ D', D = D' + 1 := ⟨D - 1, by omega⟩
    have hlt : g.ps.length < lineN := by
      have : 1 ≤ KB nf A.tr l2 := by
        rw [ht]
        cases l2 <;> simp [KB]
        omega
      have := hp ht
      omega
    have hR' := hR.place hB.frame ht l1.length
    have hn' := hI D l1 x1 x2 (enter true l1.length g) _ v (by omega) hR' hx v0 v1 hn (fun q => by have := hp ht; simp [enter]; omega)
    obtain ⟨h', e1, e2, e3⟩ := hn'
    rw [ht] at e1 e2
    refine ⟨h', ?_, ?_, (Fr.set (hR.ne2 ht).2.2.1).trans e3⟩
    · rw [go_goI]
      simp only [goN, if_true]
      rw [fn_run T_d_TracedWay_go rfl]
      have a1 : attrv h (.ref A.a) "places" = some (.ref A.p) := by rw [attrv_ins hR.obj, fg_places ht]
      have r1 : rcv h (.ref A.p) .append = true := by simp only [rcv, hR.plc ht]
      have b1 : ∀ w, bmv h (.ref A.p) .append [w] = .ok .non (h.set A.p (.lst ((g.ps.map fun n => .int (n : Nat)) ++ [w]))) := fun w => by
        simp only [bmv, hR.plc ht, List.length_map, hlt, if_true]
      simp -implicitDefEqProofs only [Def.start, exs, ex, ev, evs, evi, evo, evIfs, evAnd, evOr, asg, asgs, exh, tr_f, tr_b, tr_l, tr_u, R.bind_ok, R.bind_exc, R.st_ok, R.st_exc, R.calm_ok, R.of_some, Option.map_some, List.map, List.length, List.set, List.getElem?_cons_zero, List.getElem?_cons_succ, List.replicate, List.append_nil, List.cons_append, List.nil_append, List.any, Bool.or_false, Bool.not_true, Bool.not_false, isk_int, isk_bool, isk_str, isk_tuple, isk_list, isInt, isBool, isStr, isTup, asS_tup, asS_lst', asS_fls, lenh_tup, lenh_lst, lenh_fls, bltR_len, bltR_tuple, bltR_list, bltR_int, bltR_intb, bltR_min, bltR_max, opv_add, opv_sub, cmpv_lt, cmpv_le, cmpv_gt, cmpv_ge, cmpv_eqi, cmpv_nei, cmpv_eqs, cmpv_nes, cmpv_is, cmpv_isnot, G_ROUND, G_MOST_LAYERS, G_MOST_AGAIN, G_SMALL, G_MOST_FAILS, G_MOST_VALUES, G_FIGURES, G_MOST_CHOICE, fnEnd, decide_true, decide_false, if_true, itFuel, LW.wipe, opv_mod, opv_fdiv, alive_tup, alive_lst, alive_str, alive_int, alive_bl, alive_non, or_self, or_false, false_or, or_true, true_or, and_self, and_true, true_and, and_false, false_and, sub_t0, sub_t1, sub_t2, sub_l0, Int.reducePow, Int.reduceNeg, Int.reduceLE, Int.reduceLT, Int.reduceToNat, Int.reduceEq, Nat.reduceLT, Nat.reduceLeDiff, Nat.reduceAdd, Nat.reduceSub, Int.cast_ofNat_Int, Int.natCast_zero, Int.natCast_one, Int.reduceAdd, Int.reduceSub, Bool.and_self, Bool.and_true, Bool.true_and, Bool.and_false, Bool.false_and, Bool.or_true, Bool.true_or, Bool.or_self, Bool.false_or, reduceIte, reduceCtorEq, String.reduceEq, ne_eq, not_false_eq_true, not_true_eq_false, Option.getD_some, forG_tup, forG_lst, forG_etup, forG_elst, sub_word, mem2, mem3, d_TracedWay_go, a1, r1, b1, M_Way_go, e1, fin]
    · rw [go_goI]
      exact e2
theorem goI_nil (hB : BS (tb L xs) d0 A.c bask FB BR) : Pgo nf L xs bask BR FB F A d0 "Way.go" (goI A.tr bask) 0 [] := by
  intro D l1 x1 x2 g h v hD hR hx v0 v1 hn hp
  obtain ⟨D, rfl⟩ : ∃ D', D = D' + 1 := ⟨D - 1, by omega⟩
  obtain ⟨C, fs, f, c1, c2, c3, c4⟩ := hB.obj h g.b hR.beh
  obtain ⟨h', e1, e2, e3⟩ := c4 D v (by simp at hD; omega) v0 v1
  refine ⟨h', ?_, hR.behind e2 e3, e3.mono hR.fb⟩
  rw [fn_run T_d_Way_go rfl]
  have a1 : attrv h (.ref A.a) "layers" = some (lpv l1) := by rw [attrv_ins hR.obj, fg_layers, List.append_nil]
  have a2 : attrv h (.ref A.a) "core" = some (.ref A.c) := by rw [attrv_ins hR.obj, fg_core]
  simp -implicitDefEqProofs only [Def.start, exs, ex, ev, evs, evi, evo, evIfs, evAnd, evOr, asg, asgs, exh, tr_f, tr_b, tr_l, tr_u, R.bind_ok, R.bind_exc, R.st_ok, R.st_exc, R.calm_ok, R.of_some, Option.map_some, List.map, List.length, List.set, List.getElem?_cons_zero, List.getElem?_cons_succ, List.replicate, List.append_nil, List.cons_append, List.nil_append, List.any, Bool.or_false, Bool.not_true, Bool.not_false, isk_int, isk_bool, isk_str, isk_tuple, isk_list, isInt, isBool, isStr, isTup, asS_tup, asS_lst', asS_fls, lenh_tup, lenh_lst, lenh_fls, bltR_len, bltR_tuple, bltR_list, bltR_int, bltR_intb, bltR_min, bltR_max, opv_add, opv_sub, cmpv_lt, cmpv_le, cmpv_gt, cmpv_ge, cmpv_eqi, cmpv_nei, cmpv_eqs, cmpv_nes, cmpv_is, cmpv_isnot, G_ROUND, G_MOST_LAYERS, G_MOST_AGAIN, G_SMALL, G_MOST_FAILS, G_MOST_VALUES, G_FIGURES, G_MOST_CHOICE, fnEnd, decide_true, decide_false, if_true, itFuel, LW.wipe, opv_mod, opv_fdiv, alive_tup, alive_lst, alive_str, alive_int, alive_bl, alive_non, or_self, or_false, false_or, or_true, true_or, and_self, and_true, true_and, and_false, false_and, sub_t0, sub_t1, sub_t2, sub_l0, Int.reducePow, Int.reduceNeg, Int.reduceLE, Int.reduceLT, Int.reduceToNat, Int.reduceEq, Nat.reduceLT, Nat.reduceLeDiff, Nat.reduceAdd, Nat.reduceSub, Int.cast_ofNat_Int, Int.natCast_zero, Int.natCast_one, Int.reduceAdd, Int.reduceSub, Bool.and_self, Bool.and_true, Bool.true_and, Bool.and_false, Bool.false_and, Bool.or_true, Bool.true_or, Bool.or_self, Bool.false_or, reduceIte, reduceCtorEq, String.reduceEq, ne_eq, not_false_eq_true, not_true_eq_false, Option.getD_some, forG_tup, forG_lst, forG_etup, forG_elst, sub_word, mem2, mem3, d_Way_go, a1, a2, lenh_lpv, c1, c2, c3, e1, goI, askB, fin]
theorem forG_pre {it : ItV} {step : PV → Sg → HP → R Fl} {vs : List PV} {h : HP} (hit : ∀ i, itAt h it i = some vs[i]?) (P : Sg → Prop) : ∀ (n : Nat), n ≤ vs.length → (∀ i x σ, i < n → vs[i]? = some x → P σ → ∃ σ', step x σ h = .ok (.nx σ') h ∧ P σ') → ∀ {σ : Sg}, P σ → ∃ σ', P σ' ∧ forG it step (vs.length + 1) 0 σ h = forG it step (vs.length + 1 - n) n σ' h
  | 0, _, _, σ, p => ⟨σ, p, rfl⟩
  | n + 1, hn, hs, σ, p => by
    obtain ⟨σ1, p1, e1⟩ := forG_pre hit P n (by omega) (fun i x σ hi => hs i x σ (by omega)) p
    have ev : vs[n]? = some vs[n] := List.getElem?_eq_getElem (by omega)
    obtain ⟨σ2, e2, p2⟩ := hs n vs[n] σ1 (by omega) ev p1
    refine ⟨σ2, p2, ?_⟩
    rw [e1, show vs.length + 1 - n = (vs.length - n) + 1 by omega, forG, hit, ev]
    simp only [e2, R.bind_ok]
    rw [show vs.length + 1 - (n + 1) = vs.length - n by omega]
/-- keep: the loop over what is known -/
theorem keep_rows {rows : List (Int × Int)} {v : Int} : (∀ w, look rows v = some w → ∃ a b, rows = a ++ (v, w) :: b ∧ (∀ r ∈ a, r.1 ≠ v) ∧ drop1 rows v = a ++ b) ∧ (look rows v = none → ∀ r ∈ rows, r.1 ≠ v) := by
  induction rows with
  | nil => exact ⟨fun w e => (by cases e), fun _ r hr => (by cases hr)⟩
  | cons r rows ih =>
    by_cases hv : r.1 = v
    · refine ⟨fun w e => ?_, fun e => ?_⟩
      · simp only [look, List.find?_cons, hv, beq_self_eq_true, Option.map_some, Option.some.injEq] at e
        refine ⟨[], rows, ?_, fun r hr => (by cases hr), ?_⟩
        · rw [← e, ← hv]; rfl
        · simp [drop1, hv]
      · simp only [look, List.find?_cons, hv, beq_self_eq_true, Option.map_some] at e
        cases e
    · have hb : (r.1 == v) = false := by simpa using hv
      refine ⟨fun w e => ?_, fun e => ?_⟩
      · simp only [look, List.find?_cons, hb] at e
        obtain ⟨a, b, e1, e2, e3⟩ := ih.1 w e
        refine ⟨r :: a, b, by rw [e1]; rfl, ?_, ?_⟩
        · intro q hq
          rcases List.mem_cons.mp hq with rfl | hq
          · exact hv
          · exact e2 q hq
        · unfold drop1 at e3 ⊢
          rw [List.eraseP_cons_of_neg (by simpa using hv), e3]
          rfl
      · simp only [look, List.find?_cons, hb] at e
        intro q hq
        rcases List.mem_cons.mp hq with rfl | hq
        · exact hv
        · exact ih.2 e q hq
/-- what is known of the rest -/
def IHc (nf : Bool) (L : Def) (xs : List String) (bask : Int → β → An × β) (BR : HP → β → Prop) (FB F : Nat → Prop) (A : Ad) (d0 : Nat) (l : Ly) (l1 l2 : List Ly) (x1 : List LS) : Prop :=
  ∀ (D : Nat) (x : LS) (t : List LS) (g : G β) (h : HP) (v : Int), 3 * l2.length + d0 + 2 ≤ D → Rep BR FB F A (l1 ++ l :: l2) h (x1 ++ x :: t) g → 0 ≤ v → v ≤ 9999 →
    g.ns.length + KB nf A.tr l2 ≤ lineN → (A.tr = true → g.ps.length + KB nf A.tr l2 ≤ lineN) → ∃ h', fn (tb L xs) D (goN A.tr) [.ref A.a, .int ((l1.length : Nat) + 1), .int v] h = .ok (go A.tr bask l2 (l1.length + 1) v (t, g)).1.pv h' ∧
    Rep BR FB F A (l1 ++ l :: l2) h' (x1 ++ x :: (go A.tr bask l2 (l1.length + 1) v (t, g)).2.1) (go A.tr bask l2 (l1.length + 1) v (t, g)).2.2 ∧ Fr F h h'
theorem ih_of {l : Ly} {l1 l2 : List Ly} {x1 : List LS} (hx : x1.length = l1.length) (hP : Pgo nf L xs bask BR FB F A d0 (goN A.tr) (go A.tr bask) 1 l2) : IHc nf L xs bask BR FB F A d0 l l1 l2 x1 := by
  intro D x t g h v hD hR v0 v1 hn hp
  have e1 : (l1 ++ [l]) ++ l2 = l1 ++ l :: l2 := by simp
  have e2 : ∀ t, (x1 ++ [x]) ++ t = x1 ++ x :: t := fun t => by simp
  have := hP D (l1 ++ [l]) (x1 ++ [x]) t g h v (by omega) (by rw [e1, e2]; exact hR) (by simp [hx]) v0 v1 hn (by simpa using hp)
  rw [e1, e2] at this
  have e3 : (l1 ++ [l]).length = l1.length + 1 := by simp
  rw [e3] at this
  exact this
section
variable {l1 l2 : List Ly} {x1 : List LS}
theorem ne_len {l : Ly} : ((l1.length : Int) = (((l1 ++ l :: l2).length : Nat) : Int)) = False := by
  simp only [List.length_append, List.length_cons, eq_iff_iff, iff_false]
  omega
theorem xs_at {x : LS} {t : List LS} (hx : x1.length = l1.length) : (x1 ++ x :: t)[l1.length]? = some x := by rw [← hx]; simp
theorem xs_set {x y : LS} {t : List LS} (hx : x1.length = l1.length) : (x1 ++ x :: t).set l1.length y = x1 ++ y :: t := by rw [← hx]; simp
theorem ls_at {l : Ly} : (l1 ++ l :: l2)[l1.length]? = some l := by simp
/-- few -/
theorem sp_few (hB : BS (tb L xs) d0 A.c bask FB BR) {m D : Nat} {x : LS} {t : List LS} {g : G β} {h : HP} {v : Int} (hx : x1.length = l1.length) (hI : IHc nf L xs bask BR FB F A d0 (.few m) l1 l2 x1)
    (hD : 3 * l2.length + d0 + 3 ≤ D) (hR : Rep BR FB F A (l1 ++ .few m :: l2) h (x1 ++ x :: t) g) (v0 : 0 ≤ v) (v1 : v ≤ 9999) (hn : g.ns.length + KB nf A.tr l2 ≤ lineN) (hp : A.tr = true → g.ps.length + KB nf A.tr l2 ≤ lineN) :
    ∃ h', fn (tb L xs) D "Way.few" [.ref A.a, .int l1.length, .int v] h = .ok (lay (.few m) (fun v q => go A.tr bask l2 (l1.length + 1) v q) v (x :: t, g)).1.pv h' ∧
    Rep BR FB F A (l1 ++ .few m :: l2) h' (x1 ++ (lay (.few m) (fun v q => go A.tr bask l2 (l1.length + 1) v q) v (x :: t, g)).2.1) (lay (.few m) (fun v q => go A.tr bask l2 (l1.length + 1) v q) v (x :: t, g)).2.2 ∧ Fr F h h' := by
  obtain ⟨D, rfl⟩ : ∃ D', D = D' + 1 := ⟨D - 1, by omega⟩
  have hm : m ≤ 9 := by
    have := List.all_eq_true.mp hR.ok (.few m) (by simp)
    simpa [Ly.ok] using this
  obtain ⟨es, k, vs, s1, s2, s3, s4, s5⟩ := hR.fewAt ls_at (xs_at hx)
  have a1 : attrv h (.ref A.a) "layers" = some (lpv (l1 ++ .few m :: l2)) := by rw [attrv_ins hR.obj, fg_layers]
  have a2 : attrv h (.ref A.a) "states" = some (.ref A.st) := by rw [attrv_ins hR.obj, fg_states]
  have b1 : subv h (.ref A.st) (.int l1.length) = some (.ref k) := by rw [sub_ref s1 (List.getElem?_eq_some_iff.mp s2).1, s2]
  have b2 : lenh h (.ref k) = some x.n := by simp only [lenh, s3, s4]
  have b3 : ∀ h, subv h (Ly.few m).pv (.int 1) = some (.int m) := fun h => rfl
  by_cases hc : x.n = m
  · refine ⟨h, ?_, ?_, Fr.refl _ _⟩
    · rw [fn_run T_d_Way_few rfl]
      simp -implicitDefEqProofs only [Def.start, exs, ex, ev, evs, evi, evo, evIfs, evAnd, evOr, asg, asgs, exh, tr_f, tr_b, tr_l, tr_u, R.bind_ok, R.bind_exc, R.st_ok, R.st_exc, R.calm_ok, R.of_some, Option.map_some, List.map, List.length, List.set, List.getElem?_cons_zero, List.getElem?_cons_succ, List.replicate, List.append_nil, List.cons_append, List.nil_append, List.any, Bool.or_false, Bool.not_true, Bool.not_false, isk_int, isk_bool, isk_str, isk_tuple, isk_list, isInt, isBool, isStr, isTup, asS_tup, asS_lst', asS_fls, lenh_tup, lenh_lst, lenh_fls, bltR_len, bltR_tuple, bltR_list, bltR_int, bltR_intb, bltR_min, bltR_max, opv_add, opv_sub, cmpv_lt, cmpv_le, cmpv_gt, cmpv_ge, cmpv_eqi, cmpv_nei, cmpv_eqs, cmpv_nes, cmpv_is, cmpv_isnot, G_ROUND, G_MOST_LAYERS, G_MOST_AGAIN, G_SMALL, G_MOST_FAILS, G_MOST_VALUES, G_FIGURES, G_MOST_CHOICE, fnEnd, decide_true, decide_false, if_true, itFuel, LW.wipe, opv_mod, opv_fdiv, alive_tup, alive_lst, alive_str, alive_int, alive_bl, alive_non, or_self, or_false, false_or, or_true, true_or, and_self, and_true, true_and, and_false, false_and, sub_t0, sub_t1, sub_t2, sub_l0, Int.reducePow, Int.reduceNeg, Int.reduceLE, Int.reduceLT, Int.reduceToNat, Int.reduceEq, Nat.reduceLT, Nat.reduceLeDiff, Nat.reduceAdd, Nat.reduceSub, Int.cast_ofNat_Int, Int.natCast_zero, Int.natCast_one, Int.reduceAdd, Int.reduceSub, Bool.and_self, Bool.and_true, Bool.true_and, Bool.and_false, Bool.false_and, Bool.or_true, Bool.true_or, Bool.or_self, Bool.false_or, reduceIte, reduceCtorEq, String.reduceEq, ne_eq, not_false_eq_true, not_true_eq_false, Option.getD_some, forG_tup, forG_lst, forG_etup, forG_elst, sub_word, mem2, mem3, d_Way_few, a1, a2, b1, b2, b3, sub_lpv, hc, lay, hd, List.headD, An.pv, fin]
    · simp only [lay, hd, List.headD, hc, if_true]
      exact hR
  · obtain ⟨es', k', vs', s1', s2', s3', s4', hR', hF⟩ := hR.more hB.frame ls_at (xs_at hx) (show x.n < m by omega) (.int v)
    rw [s1] at s1'
    cases s1'
    rw [s2] at s2'
    cases s2'
    rw [s3] at s3'
    cases s3'
    rw [xs_set hx] at hR'
    obtain ⟨h', e1, e2, e3⟩ := hI D _ t g _ v (by omega) hR' v0 v1 hn hp
    refine ⟨h', ?_, ?_, (Fr.set hF).trans e3⟩
    · rw [fn_run T_d_Way_few rfl]
      have hlt : vs.length < lineN := by rw [lineN_eq]; omega
      have r1 : rcv h (.ref k) .append = true := by simp only [rcv, s3]
      have r2 : bmv h (.ref k) .append [.int v] = .ok .non (h.set k (.lst (vs ++ [.int v]))) := by simp only [bmv, s3, hlt, if_true]
      have hc' : ¬ ((x.n : Int) = (m : Int)) := by omega
      have o1 := hR'.obj
      simp -implicitDefEqProofs only [Def.start, exs, ex, ev, evs, evi, evo, evIfs, evAnd, evOr, asg, asgs, exh, tr_f, tr_b, tr_l, tr_u, R.bind_ok, R.bind_exc, R.st_ok, R.st_exc, R.calm_ok, R.of_some, Option.map_some, List.map, List.length, List.set, List.getElem?_cons_zero, List.getElem?_cons_succ, List.replicate, List.append_nil, List.cons_append, List.nil_append, List.any, Bool.or_false, Bool.not_true, Bool.not_false, isk_int, isk_bool, isk_str, isk_tuple, isk_list, isInt, isBool, isStr, isTup, asS_tup, asS_lst', asS_fls, lenh_tup, lenh_lst, lenh_fls, bltR_len, bltR_tuple, bltR_list, bltR_int, bltR_intb, bltR_min, bltR_max, opv_add, opv_sub, cmpv_lt, cmpv_le, cmpv_gt, cmpv_ge, cmpv_eqi, cmpv_nei, cmpv_eqs, cmpv_nes, cmpv_is, cmpv_isnot, G_ROUND, G_MOST_LAYERS, G_MOST_AGAIN, G_SMALL, G_MOST_FAILS, G_MOST_VALUES, G_FIGURES, G_MOST_CHOICE, fnEnd, decide_true, decide_false, if_true, itFuel, LW.wipe, opv_mod, opv_fdiv, alive_tup, alive_lst, alive_str, alive_int, alive_bl, alive_non, or_self, or_false, false_or, or_true, true_or, and_self, and_true, true_and, and_false, false_and, sub_t0, sub_t1, sub_t2, sub_l0, Int.reducePow, Int.reduceNeg, Int.reduceLE, Int.reduceLT, Int.reduceToNat, Int.reduceEq, Nat.reduceLT, Nat.reduceLeDiff, Nat.reduceAdd, Nat.reduceSub, Int.cast_ofNat_Int, Int.natCast_zero, Int.natCast_one, Int.reduceAdd, Int.reduceSub, Bool.and_self, Bool.and_true, Bool.true_and, Bool.and_false, Bool.false_and, Bool.or_true, Bool.true_or, Bool.or_self, Bool.false_or, reduceIte, reduceCtorEq, String.reduceEq, ne_eq, not_false_eq_true, not_true_eq_false, Option.getD_some, forG_tup, forG_lst, forG_etup, forG_elst, sub_word, mem2, mem3, d_Way_few, a1, a2, b1, b2, b3, sub_lpv, hc', r1, r2, o1, fg_go, mr_go, e1, fin, lay, hd, tl, List.headD, hc, up, List.tail]
    · simp only [lay, hd, tl, List.headD, hc, if_false, up, List.tail]
      exact e2
/-- note -/
theorem sp_note (hnf : NF nf bask) (hB : BS (tb L xs) d0 A.c bask FB BR) {w : String} {D : Nat} {x : LS} {t : List LS} {g : G β} {h : HP} {v : Int} (hx : x1.length = l1.length) (hI : IHc nf L xs bask BR FB F A d0 (.note w) l1 l2 x1)
    (hD : 3 * l2.length + d0 + 3 ≤ D) (hR : Rep BR FB F A (l1 ++ .note w :: l2) h (x1 ++ x :: t) g) (v0 : 0 ≤ v) (v1 : v ≤ 9999) (hn : g.ns.length + 2 + KB nf A.tr l2 ≤ lineN) (hp : A.tr = true → g.ps.length + KB nf A.tr l2 ≤ lineN) :
    ∃ h', fn (tb L xs) D "Way.note" [.ref A.a, .int l1.length, .int v] h = .ok (lay (.note w) (fun v q => go A.tr bask l2 (l1.length + 1) v q) v (x :: t, g)).1.pv h' ∧
    Rep BR FB F A (l1 ++ .note w :: l2) h' (x1 ++ (lay (.note w) (fun v q => go A.tr bask l2 (l1.length + 1) v q) v (x :: t, g)).2.1) (lay (.note w) (fun v q => go A.tr bask l2 (l1.length + 1) v q) v (x :: t, g)).2.2 ∧ Fr F h h' := by
  obtain ⟨D, rfl⟩ : ∃ D', D = D' + 1 := ⟨D - 1, by omega⟩
  have hR1 := hR.note hB.frame (.inn w v)
  obtain ⟨h2, e1, e2, e3⟩ := hI D x t (push (.inn w v) g) _ v (by omega) hR1 v0 v1 (by simp [push]; omega) hp
  have le := go_le (tr := A.tr) hnf l2 (l1.length + 1) v (t, push (.inn w v) g)
  have hm : (lay (.note w) (fun v q => go A.tr bask l2 (l1.length + 1) v q) v (x :: t, g)) = up x ((go A.tr bask l2 (l1.length + 1) v (t, push (.inn w v) g)).1, pushP (.out w (go A.tr bask l2 (l1.length + 1) v (t, push (.inn w v) g)).1) (go A.tr bask l2 (l1.length + 1) v (t, push (.inn w v) g)).2) := rfl
  rw [hm]
  generalize go A.tr bask l2 (l1.length + 1) v (t, push (.inn w v) g) = r at *
  have hR2 := e2.note hB.frame (.out w r.1)
  have l1' : g.ns.length < lineN := by omega
  have l2' : r.2.2.ns.length < lineN := by have := le.1; simp [push] at this; omega
  refine ⟨_, ?_, hR2, ((Fr.set hR.own.2.2.1).trans e3).trans (Fr.set hR.own.2.2.1)⟩
  rw [fn_run T_d_Way_note rfl]
  have a1 : attrv h (.ref A.a) "layers" = some (lpv (l1 ++ .note w :: l2)) := by rw [attrv_ins hR.obj, fg_layers]
  have a2 : attrv h (.ref A.a) "rows" = some (.ref A.r) := by rw [attrv_ins hR.obj, fg_rows]
  have a3 : attrv h2 (.ref A.a) "rows" = some (.ref A.r) := by rw [attrv_ins e2.obj, fg_rows]
  have b3 : subv h (Ly.note w).pv (.int 1) = some (.str w) := rfl
  have o1 := hR1.obj
  have r1 : rcv h (.ref A.r) .append = true := by simp only [rcv, hR.rows]
  have r2 : bmv h (.ref A.r) .append [.tup [.str w, .str "in", .int v]] = .ok .non (h.set A.r (.lst (g.ns.map Nt.pv ++ [(Nt.inn w v).pv]))) := by simp only [bmv, hR.rows, List.length_map, l1', if_true, Nt.pv]
  have r3 : rcv h2 (.ref A.r) .append = true := by simp only [rcv, e2.rows]
  have r4 : bmv h2 (.ref A.r) .append [.tup [.str w, .str "out", r.1.pv]] = .ok .non (h2.set A.r (.lst (r.2.2.ns.map Nt.pv ++ [(Nt.out w r.1).pv]))) := by simp only [bmv, e2.rows, List.length_map, l2', if_true, Nt.pv]
  simp -implicitDefEqProofs only [Def.start, exs, ex, ev, evs, evi, evo, evIfs, evAnd, evOr, asg, asgs, exh, tr_f, tr_b, tr_l, tr_u, R.bind_ok, R.bind_exc, R.st_ok, R.st_exc, R.calm_ok, R.of_some, Option.map_some, List.map, List.length, List.set, List.getElem?_cons_zero, List.getElem?_cons_succ, List.replicate, List.append_nil, List.cons_append, List.nil_append, List.any, Bool.or_false, Bool.not_true, Bool.not_false, isk_int, isk_bool, isk_str, isk_tuple, isk_list, isInt, isBool, isStr, isTup, asS_tup, asS_lst', asS_fls, lenh_tup, lenh_lst, lenh_fls, bltR_len, bltR_tuple, bltR_list, bltR_int, bltR_intb, bltR_min, bltR_max, opv_add, opv_sub, cmpv_lt, cmpv_le, cmpv_gt, cmpv_ge, cmpv_eqi, cmpv_nei, cmpv_eqs, cmpv_nes, cmpv_is, cmpv_isnot, G_ROUND, G_MOST_LAYERS, G_MOST_AGAIN, G_SMALL, G_MOST_FAILS, G_MOST_VALUES, G_FIGURES, G_MOST_CHOICE, fnEnd, decide_true, decide_false, if_true, itFuel, LW.wipe, opv_mod, opv_fdiv, alive_tup, alive_lst, alive_str, alive_int, alive_bl, alive_non, or_self, or_false, false_or, or_true, true_or, and_self, and_true, true_and, and_false, false_and, sub_t0, sub_t1, sub_t2, sub_l0, Int.reducePow, Int.reduceNeg, Int.reduceLE, Int.reduceLT, Int.reduceToNat, Int.reduceEq, Nat.reduceLT, Nat.reduceLeDiff, Nat.reduceAdd, Nat.reduceSub, Int.cast_ofNat_Int, Int.natCast_zero, Int.natCast_one, Int.reduceAdd, Int.reduceSub, Bool.and_self, Bool.and_true, Bool.true_and, Bool.and_false, Bool.false_and, Bool.or_true, Bool.true_or, Bool.or_self, Bool.false_or, reduceIte, reduceCtorEq, String.reduceEq, ne_eq, not_false_eq_true, not_true_eq_false, Option.getD_some, forG_tup, forG_lst, forG_etup, forG_elst, sub_word, mem2, mem3, d_Way_note, a1, a2, b3, sub_lpv, r1, r2, o1, fg_go, mr_go, e1, a3, r3, r4, fin, up]
/-- out, instead -/
theorem sp_out (hB : BS (tb L xs) d0 A.c bask FB BR) {m : Int} {D : Nat} {x : LS} {t : List LS} {g : G β} {h : HP} {v : Int} (hx : x1.length = l1.length) (hI : IHc nf L xs bask BR FB F A d0 (.out m) l1 l2 x1)
    (hD : 3 * l2.length + d0 + 3 ≤ D) (hR : Rep BR FB F A (l1 ++ .out m :: l2) h (x1 ++ x :: t) g) (v0 : 0 ≤ v) (v1 : v ≤ 9999) (hn : g.ns.length + KB nf A.tr l2 ≤ lineN) (hp : A.tr = true → g.ps.length + KB nf A.tr l2 ≤ lineN) :
    ∃ h', fn (tb L xs) D "Way.changed" [.ref A.a, .int l1.length, .int v] h = .ok (lay (.out m) (fun v q => go A.tr bask l2 (l1.length + 1) v q) v (x :: t, g)).1.pv h' ∧
    Rep BR FB F A (l1 ++ .out m :: l2) h' (x1 ++ (lay (.out m) (fun v q => go A.tr bask l2 (l1.length + 1) v q) v (x :: t, g)).2.1) (lay (.out m) (fun v q => go A.tr bask l2 (l1.length + 1) v q) v (x :: t, g)).2.2 ∧ Fr F h h' := by
  obtain ⟨D, rfl⟩ : ∃ D', D = D' + 1 := ⟨D - 1, by omega⟩
  obtain ⟨h2, e1, e2, e3⟩ := hI D x t g _ v (by omega) hR v0 v1 hn hp
  have hm : (lay (.out m) (fun v q => go A.tr bask l2 (l1.length + 1) v q) v (x :: t, g)) = up x ((go A.tr bask l2 (l1.length + 1) v (t, g)).1.add m, (go A.tr bask l2 (l1.length + 1) v (t, g)).2) := rfl
  rw [hm]
  generalize go A.tr bask l2 (l1.length + 1) v (t, g) = r at *
  refine ⟨h2, ?_, e2, e3⟩
  rw [fn_run T_d_Way_changed rfl]
  have a1 : attrv h (.ref A.a) "layers" = some (lpv (l1 ++ .out m :: l2)) := by rw [attrv_ins hR.obj, fg_layers]
  have b1 : asS h (Ly.out m).pv = some [.str "out", .int m] := rfl
  have o1 := hR.obj
  obtain ⟨a, p⟩ := r
  have rT : ∀ (x : Int) (h : HP), opv h .mod (.int x) (.int 10000) = some (.int (x % 10000)) := fun x h => opv_mod (by decide)
  cases a with
  | ok w => simp -implicitDefEqProofs only [Def.start, exs, ex, ev, evs, evi, evo, evIfs, evAnd, evOr, asg, asgs, exh, tr_f, tr_b, tr_l, tr_u, R.bind_ok, R.bind_exc, R.st_ok, R.st_exc, R.calm_ok, R.of_some, Option.map_some, List.map, List.length, List.set, List.getElem?_cons_zero, List.getElem?_cons_succ, List.replicate, List.append_nil, List.cons_append, List.nil_append, List.any, Bool.or_false, Bool.not_true, Bool.not_false, isk_int, isk_bool, isk_str, isk_tuple, isk_list, isInt, isBool, isStr, isTup, asS_tup, asS_lst', asS_fls, lenh_tup, lenh_lst, lenh_fls, bltR_len, bltR_tuple, bltR_list, bltR_int, bltR_intb, bltR_min, bltR_max, opv_add, opv_sub, cmpv_lt, cmpv_le, cmpv_gt, cmpv_ge, cmpv_eqi, cmpv_nei, cmpv_eqs, cmpv_nes, cmpv_is, cmpv_isnot, G_ROUND, G_MOST_LAYERS, G_MOST_AGAIN, G_SMALL, G_MOST_FAILS, G_MOST_VALUES, G_FIGURES, G_MOST_CHOICE, fnEnd, decide_true, decide_false, if_true, itFuel, LW.wipe, opv_mod, opv_fdiv, alive_tup, alive_lst, alive_str, alive_int, alive_bl, alive_non, or_self, or_false, false_or, or_true, true_or, and_self, and_true, true_and, and_false, false_and, sub_t0, sub_t1, sub_t2, sub_l0, Int.reducePow, Int.reduceNeg, Int.reduceLE, Int.reduceLT, Int.reduceToNat, Int.reduceEq, Nat.reduceLT, Nat.reduceLeDiff, Nat.reduceAdd, Nat.reduceSub, Int.cast_ofNat_Int, Int.natCast_zero, Int.natCast_one, Int.reduceAdd, Int.reduceSub, Bool.and_self, Bool.and_true, Bool.true_and, Bool.and_false, Bool.false_and, Bool.or_true, Bool.true_or, Bool.or_self, Bool.false_or, reduceIte, reduceCtorEq, String.reduceEq, ne_eq, not_false_eq_true, not_true_eq_false, Option.getD_some, forG_tup, forG_lst, forG_etup, forG_elst, sub_word, mem2, mem3, d_Way_changed, a1, sub_lpv, b1, o1, fg_go, mr_go, e1, sub_an0, sub_an1, An.kind, rT, up, An.add, fin, An.pv]
  | bad s => simp -implicitDefEqProofs only [Def.start, exs, ex, ev, evs, evi, evo, evIfs, evAnd, evOr, asg, asgs, exh, tr_f, tr_b, tr_l, tr_u, R.bind_ok, R.bind_exc, R.st_ok, R.st_exc, R.calm_ok, R.of_some, Option.map_some, List.map, List.length, List.set, List.getElem?_cons_zero, List.getElem?_cons_succ, List.replicate, List.append_nil, List.cons_append, List.nil_append, List.any, Bool.or_false, Bool.not_true, Bool.not_false, isk_int, isk_bool, isk_str, isk_tuple, isk_list, isInt, isBool, isStr, isTup, asS_tup, asS_lst', asS_fls, lenh_tup, lenh_lst, lenh_fls, bltR_len, bltR_tuple, bltR_list, bltR_int, bltR_intb, bltR_min, bltR_max, opv_add, opv_sub, cmpv_lt, cmpv_le, cmpv_gt, cmpv_ge, cmpv_eqi, cmpv_nei, cmpv_eqs, cmpv_nes, cmpv_is, cmpv_isnot, G_ROUND, G_MOST_LAYERS, G_MOST_AGAIN, G_SMALL, G_MOST_FAILS, G_MOST_VALUES, G_FIGURES, G_MOST_CHOICE, fnEnd, decide_true, decide_false, if_true, itFuel, LW.wipe, opv_mod, opv_fdiv, alive_tup, alive_lst, alive_str, alive_int, alive_bl, alive_non, or_self, or_false, false_or, or_true, true_or, and_self, and_true, true_and, and_false, false_and, sub_t0, sub_t1, sub_t2, sub_l0, Int.reducePow, Int.reduceNeg, Int.reduceLE, Int.reduceLT, Int.reduceToNat, Int.reduceEq, Nat.reduceLT, Nat.reduceLeDiff, Nat.reduceAdd, Nat.reduceSub, Int.cast_ofNat_Int, Int.natCast_zero, Int.natCast_one, Int.reduceAdd, Int.reduceSub, Bool.and_self, Bool.and_true, Bool.true_and, Bool.and_false, Bool.false_and, Bool.or_true, Bool.true_or, Bool.or_self, Bool.false_or, reduceIte, reduceCtorEq, String.reduceEq, ne_eq, not_false_eq_true, not_true_eq_false, Option.getD_some, forG_tup, forG_lst, forG_etup, forG_elst, sub_word, mem2, mem3, d_Way_changed, a1, sub_lpv, b1, o1, fg_go, mr_go, e1, sub_an0, An.kind, up, An.add, fin]
theorem sp_instead (hB : BS (tb L xs) d0 A.c bask FB BR) {m : Int} {D : Nat} {x : LS} {t : List LS} {g : G β} {h : HP} {v : Int} (hx : x1.length = l1.length) (hI : IHc nf L xs bask BR FB F A d0 (.instead m) l1 l2 x1)
    (hD : 3 * l2.length + d0 + 3 ≤ D) (hR : Rep BR FB F A (l1 ++ .instead m :: l2) h (x1 ++ x :: t) g) (v0 : 0 ≤ v) (v1 : v ≤ 9999) (hn : g.ns.length + KB nf A.tr l2 ≤ lineN) (hp : A.tr = true → g.ps.length + KB nf A.tr l2 ≤ lineN) :
    ∃ h', fn (tb L xs) D "Way.changed" [.ref A.a, .int l1.length, .int v] h = .ok (lay (.instead m) (fun v q => go A.tr bask l2 (l1.length + 1) v q) v (x :: t, g)).1.pv h' ∧
    Rep BR FB F A (l1 ++ .instead m :: l2) h' (x1 ++ (lay (.instead m) (fun v q => go A.tr bask l2 (l1.length + 1) v q) v (x :: t, g)).2.1) (lay (.instead m) (fun v q => go A.tr bask l2 (l1.length + 1) v q) v (x :: t, g)).2.2 ∧ Fr F h h' := by
  obtain ⟨D, rfl⟩ : ∃ D', D = D' + 1 := ⟨D - 1, by omega⟩
  obtain ⟨h2, e1, e2, e3⟩ := hI D x t g _ v (by omega) hR v0 v1 hn hp
  have hm : (lay (.instead m) (fun v q => go A.tr bask l2 (l1.length + 1) v q) v (x :: t, g)) = up x ((go A.tr bask l2 (l1.length + 1) v (t, g)).1.orv m, (go A.tr bask l2 (l1.length + 1) v (t, g)).2) := rfl
  rw [hm]
  generalize go A.tr bask l2 (l1.length + 1) v (t, g) = r at *
  refine ⟨h2, ?_, e2, e3⟩
  rw [fn_run T_d_Way_changed rfl]
  have a1 : attrv h (.ref A.a) "layers" = some (lpv (l1 ++ .instead m :: l2)) := by rw [attrv_ins hR.obj, fg_layers]
  have b1 : asS h (Ly.instead m).pv = some [.str "instead", .int m] := rfl
  have o1 := hR.obj
  obtain ⟨a, p⟩ := r
  cases a with
  | ok w => simp -implicitDefEqProofs only [Def.start, exs, ex, ev, evs, evi, evo, evIfs, evAnd, evOr, asg, asgs, exh, tr_f, tr_b, tr_l, tr_u, R.bind_ok, R.bind_exc, R.st_ok, R.st_exc, R.calm_ok, R.of_some, Option.map_some, List.map, List.length, List.set, List.getElem?_cons_zero, List.getElem?_cons_succ, List.replicate, List.append_nil, List.cons_append, List.nil_append, List.any, Bool.or_false, Bool.not_true, Bool.not_false, isk_int, isk_bool, isk_str, isk_tuple, isk_list, isInt, isBool, isStr, isTup, asS_tup, asS_lst', asS_fls, lenh_tup, lenh_lst, lenh_fls, bltR_len, bltR_tuple, bltR_list, bltR_int, bltR_intb, bltR_min, bltR_max, opv_add, opv_sub, cmpv_lt, cmpv_le, cmpv_gt, cmpv_ge, cmpv_eqi, cmpv_nei, cmpv_eqs, cmpv_nes, cmpv_is, cmpv_isnot, G_ROUND, G_MOST_LAYERS, G_MOST_AGAIN, G_SMALL, G_MOST_FAILS, G_MOST_VALUES, G_FIGURES, G_MOST_CHOICE, fnEnd, decide_true, decide_false, if_true, itFuel, LW.wipe, opv_mod, opv_fdiv, alive_tup, alive_lst, alive_str, alive_int, alive_bl, alive_non, or_self, or_false, false_or, or_true, true_or, and_self, and_true, true_and, and_false, false_and, sub_t0, sub_t1, sub_t2, sub_l0, Int.reducePow, Int.reduceNeg, Int.reduceLE, Int.reduceLT, Int.reduceToNat, Int.reduceEq, Nat.reduceLT, Nat.reduceLeDiff, Nat.reduceAdd, Nat.reduceSub, Int.cast_ofNat_Int, Int.natCast_zero, Int.natCast_one, Int.reduceAdd, Int.reduceSub, Bool.and_self, Bool.and_true, Bool.true_and, Bool.and_false, Bool.false_and, Bool.or_true, Bool.true_or, Bool.or_self, Bool.false_or, reduceIte, reduceCtorEq, String.reduceEq, ne_eq, not_false_eq_true, not_true_eq_false, Option.getD_some, forG_tup, forG_lst, forG_etup, forG_elst, sub_word, mem2, mem3, d_Way_changed, a1, sub_lpv, b1, o1, fg_go, mr_go, e1, sub_an0, sub_an1, An.kind, up, An.orv, fin]
  | bad s => simp -implicitDefEqProofs only [Def.start, exs, ex, ev, evs, evi, evo, evIfs, evAnd, evOr, asg, asgs, exh, tr_f, tr_b, tr_l, tr_u, R.bind_ok, R.bind_exc, R.st_ok, R.st_exc, R.calm_ok, R.of_some, Option.map_some, List.map, List.length, List.set, List.getElem?_cons_zero, List.getElem?_cons_succ, List.replicate, List.append_nil, List.cons_append, List.nil_append, List.any, Bool.or_false, Bool.not_true, Bool.not_false, isk_int, isk_bool, isk_str, isk_tuple, isk_list, isInt, isBool, isStr, isTup, asS_tup, asS_lst', asS_fls, lenh_tup, lenh_lst, lenh_fls, bltR_len, bltR_tuple, bltR_list, bltR_int, bltR_intb, bltR_min, bltR_max, opv_add, opv_sub, cmpv_lt, cmpv_le, cmpv_gt, cmpv_ge, cmpv_eqi, cmpv_nei, cmpv_eqs, cmpv_nes, cmpv_is, cmpv_isnot, G_ROUND, G_MOST_LAYERS, G_MOST_AGAIN, G_SMALL, G_MOST_FAILS, G_MOST_VALUES, G_FIGURES, G_MOST_CHOICE, fnEnd, decide_true, decide_false, if_true, itFuel, LW.wipe, opv_mod, opv_fdiv, alive_tup, alive_lst, alive_str, alive_int, alive_bl, alive_non, or_self, or_false, false_or, or_true, true_or, and_self, and_true, true_and, and_false, false_and, sub_t0, sub_t1, sub_t2, sub_l0, Int.reducePow, Int.reduceNeg, Int.reduceLE, Int.reduceLT, Int.reduceToNat, Int.reduceEq, Nat.reduceLT, Nat.reduceLeDiff, Nat.reduceAdd, Nat.reduceSub, Int.cast_ofNat_Int, Int.natCast_zero, Int.natCast_one, Int.reduceAdd, Int.reduceSub, Bool.and_self, Bool.and_true, Bool.true_and, Bool.and_false, Bool.false_and, Bool.or_true, Bool.true_or, Bool.or_self, Bool.false_or, reduceIte, reduceCtorEq, String.reduceEq, ne_eq, not_false_eq_true, not_true_eq_false, Option.getD_some, forG_tup, forG_lst, forG_etup, forG_elst, sub_word, mem2, mem3, d_Way_changed, a1, sub_lpv, b1, o1, fg_go, mr_go, e1, sub_an0, An.kind, up, An.orv, fin, An.pv]
theorem sp_again (hnf : NF nf bask) (hB : BS (tb L xs) d0 A.c bask FB BR) {m : Nat} {D : Nat} {x : LS} {t : List LS} {g : G β} {h : HP} {v : Int} (hx : x1.length = l1.length) (hI : IHc nf L xs bask BR FB F A d0 (.again m) l1 l2 x1)
    (hD : 3 * l2.length + d0 + 3 ≤ D) (hR : Rep BR FB F A (l1 ++ .again m :: l2) h (x1 ++ x :: t) g) (v0 : 0 ≤ v) (v1 : v ≤ 9999) (hn : g.ns.length + mult nf (.again m) l2 * KB nf A.tr l2 ≤ lineN) (hp : A.tr = true → g.ps.length + mult nf (.again m) l2 * KB nf A.tr l2 ≤ lineN) :
    ∃ h', fn (tb L xs) D "Way.changed" [.ref A.a, .int l1.length, .int v] h = .ok (lay (.again m) (fun v q => go A.tr bask l2 (l1.length + 1) v q) v (x :: t, g)).1.pv h' ∧
    Rep BR FB F A (l1 ++ .again m :: l2) h' (x1 ++ (lay (.again m) (fun v q => go A.tr bask l2 (l1.length + 1) v q) v (x :: t, g)).2.1) (lay (.again m) (fun v q => go A.tr bask l2 (l1.length + 1) v q) v (x :: t, g)).2.2 ∧ Fr F h h' := by
  obtain ⟨D, rfl⟩ : ∃ D', D = D' + 1 := ⟨D - 1, by omega⟩
  have m99 : m ≤ 99 := by
    have := List.all_eq_true.mp hR.ok (.again m) (by simp)
    simpa [Ly.ok] using this
  have mu : 1 ≤ mult nf (.again m) l2 := by unfold mult; split <;> (try split) <;> omega
  have mu2 := Nat.mul_le_mul_right (KB nf A.tr l2) mu
  obtain ⟨h2, e1, e2, e3⟩ := hI D x t g _ v (by omega) hR v0 v1 (by omega) (fun q => by have := hp q; omega)
  have le := go_le (tr := A.tr) hnf l2 (l1.length + 1) v (t, g)
  have gok := go_isOk (tr := A.tr) hnf l2 (l1.length + 1) v (t, g)
  have hm : (lay (.again m) (fun v q => go A.tr bask l2 (l1.length + 1) v q) v (x :: t, g)) = up x (rep (go A.tr bask l2 (l1.length + 1) v) m (go A.tr bask l2 (l1.length + 1) v (t, g)).1 (go A.tr bask l2 (l1.length + 1) v (t, g)).2) := rfl
  rw [hm]
  have bnd : (go A.tr bask l2 (l1.length + 1) v (t, g)).1.isOk = false → (go A.tr bask l2 (l1.length + 1) v (t, g)).2.2.ns.length + m * KB nf A.tr l2 ≤ lineN ∧ (A.tr = true → (go A.tr bask l2 (l1.length + 1) v (t, g)).2.2.ps.length + m * KB nf A.tr l2 ≤ lineN) := fun hb => by
    have hc : canFailB nf l2 = true := by
      cases hc : canFailB nf l2 with
      | true => rfl
      | false => rw [gok hc] at hb; cases hb
    simp only [mult, hc, if_true, Nat.succ_mul] at hn hp
    refine ⟨by have := le.1; simp only at this; omega, fun q => by have := le.2; have := hp q; simp only at *; omega⟩
  generalize go A.tr bask l2 (l1.length + 1) v (t, g) = r at *
  have a1 : attrv h (.ref A.a) "layers" = some (lpv (l1 ++ .again m :: l2)) := by rw [attrv_ins hR.obj, fg_layers]
  have b1 : asS h (Ly.again m).pv = some [.str "again", .int m] := rfl
  have o1 := hR.obj
  obtain ⟨a, p⟩ := r
  rw [fn_run T_d_Way_changed rfl]
  simp -implicitDefEqProofs only [Def.start, exs, ex, ev, evs, evi, evo, evIfs, evAnd, evOr, asg, asgs, exh, tr_f, tr_b, tr_l, tr_u, R.bind_ok, R.bind_exc, R.st_ok, R.st_exc, R.calm_ok, R.of_some, Option.map_some, List.map, List.length, List.set, List.getElem?_cons_zero, List.getElem?_cons_succ, List.replicate, List.append_nil, List.cons_append, List.nil_append, List.any, Bool.or_false, Bool.not_true, Bool.not_false, isk_int, isk_bool, isk_str, isk_tuple, isk_list, isInt, isBool, isStr, isTup, asS_tup, asS_lst', asS_fls, lenh_tup, lenh_lst, lenh_fls, bltR_len, bltR_tuple, bltR_list, bltR_int, bltR_intb, bltR_min, bltR_max, opv_add, opv_sub, cmpv_lt, cmpv_le, cmpv_gt, cmpv_ge, cmpv_eqi, cmpv_nei, cmpv_eqs, cmpv_nes, cmpv_is, cmpv_isnot, G_ROUND, G_MOST_LAYERS, G_MOST_AGAIN, G_SMALL, G_MOST_FAILS, G_MOST_VALUES, G_FIGURES, G_MOST_CHOICE, fnEnd, decide_true, decide_false, if_true, itFuel, LW.wipe, opv_mod, opv_fdiv, alive_tup, alive_lst, alive_str, alive_int, alive_bl, alive_non, or_self, or_false, false_or, or_true, true_or, and_self, and_true, true_and, and_false, false_and, sub_t0, sub_t1, sub_t2, sub_l0, Int.reducePow, Int.reduceNeg, Int.reduceLE, Int.reduceLT, Int.reduceToNat, Int.reduceEq, Nat.reduceLT, Nat.reduceLeDiff, Nat.reduceAdd, Nat.reduceSub, Int.cast_ofNat_Int, Int.natCast_zero, Int.natCast_one, Int.reduceAdd, Int.reduceSub, Bool.and_self, Bool.and_true, Bool.true_and, Bool.and_false, Bool.false_and, Bool.or_true, Bool.true_or, Bool.or_self, Bool.false_or, reduceIte, reduceCtorEq, String.reduceEq, ne_eq, not_false_eq_true, not_true_eq_false, Option.getD_some, forG_tup, forG_lst, forG_etup, forG_elst, sub_word, mem2, mem3, d_Way_changed, a1, sub_lpv, b1, o1, fg_go, mr_go, e1]
  generalize htest : (fun σ h => _ : Sg → HP → R PV) = test
  generalize hbody : (fun σ h => _ : Sg → HP → R Fl) = body
  have loop : ∀ (k f : Nat) (a : An) (p : Ps β) (h : HP), k < f → Rep BR FB F A (l1 ++ .again m :: l2) h (x1 ++ x :: p.1) p.2 → (a.isOk = false → p.2.ns.length + k * KB nf A.tr l2 ≤ lineN ∧ (A.tr = true → p.2.ps.length + k * KB nf A.tr l2 ≤ lineN)) →
      ∃ h' o, whileG test body f [some (.ref A.a), some (.int (l1.length : Nat)), some (.int v), some (.str "again"), some (.int (m : Nat)), some a.pv, some (.int (k : Nat))] h = .ok (.nx [some (.ref A.a), some (.int (l1.length : Nat)), some (.int v), some (.str "again"), some (.int (m : Nat)), some (rep (go A.tr bask l2 (l1.length + 1) v) k a p).1.pv, some o]) h' ∧
      Rep BR FB F A (l1 ++ .again m :: l2) h' (x1 ++ x :: (rep (go A.tr bask l2 (l1.length + 1) v) k a p).2.1) (rep (go A.tr bask l2 (l1.length + 1) v) k a p).2.2 ∧ Fr F h h' := by
    intro k
    induction k with
    | zero =>
      intro f a p h hf hR hb
      obtain ⟨f, rfl⟩ : ∃ f', f = f' + 1 := ⟨f - 1, by omega⟩
      refine ⟨h, .int 0, ?_, hR, Fr.refl _ _⟩
      rw [whileG, ← htest]
      cases a with
      | ok w => simp -implicitDefEqProofs only [Def.start, exs, ex, ev, evs, evi, evo, evIfs, evAnd, evOr, asg, asgs, exh, tr_f, tr_b, tr_l, tr_u, R.bind_ok, R.bind_exc, R.st_ok, R.st_exc, R.calm_ok, R.of_some, Option.map_some, List.map, List.length, List.set, List.getElem?_cons_zero, List.getElem?_cons_succ, List.replicate, List.append_nil, List.cons_append, List.nil_append, List.any, Bool.or_false, Bool.not_true, Bool.not_false, isk_int, isk_bool, isk_str, isk_tuple, isk_list, isInt, isBool, isStr, isTup, asS_tup, asS_lst', asS_fls, lenh_tup, lenh_lst, lenh_fls, bltR_len, bltR_tuple, bltR_list, bltR_int, bltR_intb, bltR_min, bltR_max, opv_add, opv_sub, cmpv_lt, cmpv_le, cmpv_gt, cmpv_ge, cmpv_eqi, cmpv_nei, cmpv_eqs, cmpv_nes, cmpv_is, cmpv_isnot, G_ROUND, G_MOST_LAYERS, G_MOST_AGAIN, G_SMALL, G_MOST_FAILS, G_MOST_VALUES, G_FIGURES, G_MOST_CHOICE, fnEnd, decide_true, decide_false, if_true, itFuel, LW.wipe, opv_mod, opv_fdiv, alive_tup, alive_lst, alive_str, alive_int, alive_bl, alive_non, or_self, or_false, false_or, or_true, true_or, and_self, and_true, true_and, and_false, false_and, sub_t0, sub_t1, sub_t2, sub_l0, Int.reducePow, Int.reduceNeg, Int.reduceLE, Int.reduceLT, Int.reduceToNat, Int.reduceEq, Nat.reduceLT, Nat.reduceLeDiff, Nat.reduceAdd, Nat.reduceSub, Int.cast_ofNat_Int, Int.natCast_zero, Int.natCast_one, Int.reduceAdd, Int.reduceSub, Bool.and_self, Bool.and_true, Bool.true_and, Bool.and_false, Bool.false_and, Bool.or_true, Bool.true_or, Bool.or_self, Bool.false_or, reduceIte, reduceCtorEq, String.reduceEq, ne_eq, not_false_eq_true, not_true_eq_false, Option.getD_some, forG_tup, forG_lst, forG_etup, forG_elst, sub_word, mem2, mem3, sub_an0, An.kind, rep]
      | bad s => simp -implicitDefEqProofs only [Def.start, exs, ex, ev, evs, evi, evo, evIfs, evAnd, evOr, asg, asgs, exh, tr_f, tr_b, tr_l, tr_u, R.bind_ok, R.bind_exc, R.st_ok, R.st_exc, R.calm_ok, R.of_some, Option.map_some, List.map, List.length, List.set, List.getElem?_cons_zero, List.getElem?_cons_succ, List.replicate, List.append_nil, List.cons_append, List.nil_append, List.any, Bool.or_false, Bool.not_true, Bool.not_false, isk_int, isk_bool, isk_str, isk_tuple, isk_list, isInt, isBool, isStr, isTup, asS_tup, asS_lst', asS_fls, lenh_tup, lenh_lst, lenh_fls, bltR_len, bltR_tuple, bltR_list, bltR_int, bltR_intb, bltR_min, bltR_max, opv_add, opv_sub, cmpv_lt, cmpv_le, cmpv_gt, cmpv_ge, cmpv_eqi, cmpv_nei, cmpv_eqs, cmpv_nes, cmpv_is, cmpv_isnot, G_ROUND, G_MOST_LAYERS, G_MOST_AGAIN, G_SMALL, G_MOST_FAILS, G_MOST_VALUES, G_FIGURES, G_MOST_CHOICE, fnEnd, decide_true, decide_false, if_true, itFuel, LW.wipe, opv_mod, opv_fdiv, alive_tup, alive_lst, alive_str, alive_int, alive_bl, alive_non, or_self, or_false, false_or, or_true, true_or, and_self, and_true, true_and, and_false, false_and, sub_t0, sub_t1, sub_t2, sub_l0, Int.reducePow, Int.reduceNeg, Int.reduceLE, Int.reduceLT, Int.reduceToNat, Int.reduceEq, Nat.reduceLT, Nat.reduceLeDiff, Nat.reduceAdd, Nat.reduceSub, Int.cast_ofNat_Int, Int.natCast_zero, Int.natCast_one, Int.reduceAdd, Int.reduceSub, Bool.and_self, Bool.and_true, Bool.true_and, Bool.and_false, Bool.false_and, Bool.or_true, Bool.true_or, Bool.or_self, Bool.false_or, reduceIte, reduceCtorEq, String.reduceEq, ne_eq, not_false_eq_true, not_true_eq_false, Option.getD_some, forG_tup, forG_lst, forG_etup, forG_elst, sub_word, mem2, mem3, sub_an0, An.kind, rep, Int.lt_irrefl]
    | succ k ih =>
      intro f a p h hf hR hb
      obtain ⟨f, rfl⟩ : ∃ f', f = f' + 1 := ⟨f - 1, by omega⟩
      cases a with
      | ok w =>
        refine ⟨h, .int ((k + 1 : Nat) : Int), ?_, hR, Fr.refl _ _⟩
        rw [whileG, ← htest]
        simp -implicitDefEqProofs only [Def.start, exs, ex, ev, evs, evi, evo, evIfs, evAnd, evOr, asg, asgs, exh, tr_f, tr_b, tr_l, tr_u, R.bind_ok, R.bind_exc, R.st_ok, R.st_exc, R.calm_ok, R.of_some, Option.map_some, List.map, List.length, List.set, List.getElem?_cons_zero, List.getElem?_cons_succ, List.replicate, List.append_nil, List.cons_append, List.nil_append, List.any, Bool.or_false, Bool.not_true, Bool.not_false, isk_int, isk_bool, isk_str, isk_tuple, isk_list, isInt, isBool, isStr, isTup, asS_tup, asS_lst', asS_fls, lenh_tup, lenh_lst, lenh_fls, bltR_len, bltR_tuple, bltR_list, bltR_int, bltR_intb, bltR_min, bltR_max, opv_add, opv_sub, cmpv_lt, cmpv_le, cmpv_gt, cmpv_ge, cmpv_eqi, cmpv_nei, cmpv_eqs, cmpv_nes, cmpv_is, cmpv_isnot, G_ROUND, G_MOST_LAYERS, G_MOST_AGAIN, G_SMALL, G_MOST_FAILS, G_MOST_VALUES, G_FIGURES, G_MOST_CHOICE, fnEnd, decide_true, decide_false, if_true, itFuel, LW.wipe, opv_mod, opv_fdiv, alive_tup, alive_lst, alive_str, alive_int, alive_bl, alive_non, or_self, or_false, false_or, or_true, true_or, and_self, and_true, true_and, and_false, false_and, sub_t0, sub_t1, sub_t2, sub_l0, Int.reducePow, Int.reduceNeg, Int.reduceLE, Int.reduceLT, Int.reduceToNat, Int.reduceEq, Nat.reduceLT, Nat.reduceLeDiff, Nat.reduceAdd, Nat.reduceSub, Int.cast_ofNat_Int, Int.natCast_zero, Int.natCast_one, Int.reduceAdd, Int.reduceSub, Bool.and_self, Bool.and_true, Bool.true_and, Bool.and_false, Bool.false_and, Bool.or_true, Bool.true_or, Bool.or_self, Bool.false_or, reduceIte, reduceCtorEq, String.reduceEq, ne_eq, not_false_eq_true, not_true_eq_false, Option.getD_some, forG_tup, forG_lst, forG_etup, forG_elst, sub_word, mem2, mem3, sub_an0, An.kind, rep]
      | bad s =>
        obtain ⟨p1, p2⟩ := p
        obtain ⟨b1, b2⟩ := hb rfl
        rw [Nat.succ_mul] at b1
        obtain ⟨h1, q1, q2, q3⟩ := hI D x p1 p2 h v (by omega) hR v0 v1 (by simp only at *; omega) (fun q => by have := b2 q; rw [Nat.succ_mul] at this; simp only at *; omega)
        have le := go_le (tr := A.tr) hnf l2 (l1.length + 1) v (p1, p2)
        obtain ⟨h', o, w1, w2, w3⟩ := ih f (go A.tr bask l2 (l1.length + 1) v (p1, p2)).1 (go A.tr bask l2 (l1.length + 1) v (p1, p2)).2 h1 (by omega) q2 (fun _ => ⟨by have := le.1; simp only at *; omega, fun q => by have := le.2; have := b2 q; rw [Nat.succ_mul] at this; simp only at *; omega⟩)
        refine ⟨h', o, ?_, w2, q3.trans w3⟩
        have hpos : (0 : Int) < ((k + 1 : Nat) : Int) := by omega
        have hk : ((k + 1 : Nat) : Int) - 1 = (k : Nat) := by omega
        have t1 : test [some (.ref A.a), some (.int (l1.length : Nat)), some (.int v), some (.str "again"), some (.int (m : Nat)), some (An.bad s).pv, some (.int ((k + 1 : Nat) : Int))] h = .ok (.bl true) h := by
          rw [← htest]
          simp -implicitDefEqProofs only [Def.start, exs, ex, ev, evs, evi, evo, evIfs, evAnd, evOr, asg, asgs, exh, tr_f, tr_b, tr_l, tr_u, R.bind_ok, R.bind_exc, R.st_ok, R.st_exc, R.calm_ok, R.of_some, Option.map_some, List.map, List.length, List.set, List.getElem?_cons_zero, List.getElem?_cons_succ, List.replicate, List.append_nil, List.cons_append, List.nil_append, List.any, Bool.or_false, Bool.not_true, Bool.not_false, isk_int, isk_bool, isk_str, isk_tuple, isk_list, isInt, isBool, isStr, isTup, asS_tup, asS_lst', asS_fls, lenh_tup, lenh_lst, lenh_fls, bltR_len, bltR_tuple, bltR_list, bltR_int, bltR_intb, bltR_min, bltR_max, opv_add, opv_sub, cmpv_lt, cmpv_le, cmpv_gt, cmpv_ge, cmpv_eqi, cmpv_nei, cmpv_eqs, cmpv_nes, cmpv_is, cmpv_isnot, G_ROUND, G_MOST_LAYERS, G_MOST_AGAIN, G_SMALL, G_MOST_FAILS, G_MOST_VALUES, G_FIGURES, G_MOST_CHOICE, fnEnd, decide_true, decide_false, if_true, itFuel, LW.wipe, opv_mod, opv_fdiv, alive_tup, alive_lst, alive_str, alive_int, alive_bl, alive_non, or_self, or_false, false_or, or_true, true_or, and_self, and_true, true_and, and_false, false_and, sub_t0, sub_t1, sub_t2, sub_l0, Int.reducePow, Int.reduceNeg, Int.reduceLE, Int.reduceLT, Int.reduceToNat, Int.reduceEq, Nat.reduceLT, Nat.reduceLeDiff, Nat.reduceAdd, Nat.reduceSub, Int.cast_ofNat_Int, Int.natCast_zero, Int.natCast_one, Int.reduceAdd, Int.reduceSub, Bool.and_self, Bool.and_true, Bool.true_and, Bool.and_false, Bool.false_and, Bool.or_true, Bool.true_or, Bool.or_self, Bool.false_or, reduceIte, reduceCtorEq, String.reduceEq, ne_eq, not_false_eq_true, not_true_eq_false, Option.getD_some, forG_tup, forG_lst, forG_etup, forG_elst, sub_word, mem2, mem3, sub_an0, An.kind, hpos]
        have t2 : body [some (.ref A.a), some (.int (l1.length : Nat)), some (.int v), some (.str "again"), some (.int (m : Nat)), some (An.bad s).pv, some (.int ((k + 1 : Nat) : Int))] h = .ok (.nx [some (.ref A.a), some (.int (l1.length : Nat)), some (.int v), some (.str "again"), some (.int (m : Nat)), some (go A.tr bask l2 (l1.length + 1) v (p1, p2)).1.pv, some (.int (k : Nat))]) h1 := by
          rw [← hbody]
          simp -implicitDefEqProofs only [Def.start, exs, ex, ev, evs, evi, evo, evIfs, evAnd, evOr, asg, asgs, exh, tr_f, tr_b, tr_l, tr_u, R.bind_ok, R.bind_exc, R.st_ok, R.st_exc, R.calm_ok, R.of_some, Option.map_some, List.map, List.length, List.set, List.getElem?_cons_zero, List.getElem?_cons_succ, List.replicate, List.append_nil, List.cons_append, List.nil_append, List.any, Bool.or_false, Bool.not_true, Bool.not_false, isk_int, isk_bool, isk_str, isk_tuple, isk_list, isInt, isBool, isStr, isTup, asS_tup, asS_lst', asS_fls, lenh_tup, lenh_lst, lenh_fls, bltR_len, bltR_tuple, bltR_list, bltR_int, bltR_intb, bltR_min, bltR_max, opv_add, opv_sub, cmpv_lt, cmpv_le, cmpv_gt, cmpv_ge, cmpv_eqi, cmpv_nei, cmpv_eqs, cmpv_nes, cmpv_is, cmpv_isnot, G_ROUND, G_MOST_LAYERS, G_MOST_AGAIN, G_SMALL, G_MOST_FAILS, G_MOST_VALUES, G_FIGURES, G_MOST_CHOICE, fnEnd, decide_true, decide_false, if_true, itFuel, LW.wipe, opv_mod, opv_fdiv, alive_tup, alive_lst, alive_str, alive_int, alive_bl, alive_non, or_self, or_false, false_or, or_true, true_or, and_self, and_true, true_and, and_false, false_and, sub_t0, sub_t1, sub_t2, sub_l0, Int.reducePow, Int.reduceNeg, Int.reduceLE, Int.reduceLT, Int.reduceToNat, Int.reduceEq, Nat.reduceLT, Nat.reduceLeDiff, Nat.reduceAdd, Nat.reduceSub, Int.cast_ofNat_Int, Int.natCast_zero, Int.natCast_one, Int.reduceAdd, Int.reduceSub, Bool.and_self, Bool.and_true, Bool.true_and, Bool.and_false, Bool.false_and, Bool.or_true, Bool.true_or, Bool.or_self, Bool.false_or, reduceIte, reduceCtorEq, String.reduceEq, ne_eq, not_false_eq_true, not_true_eq_false, Option.getD_some, forG_tup, forG_lst, forG_etup, forG_elst, sub_word, mem2, mem3, hR.obj, fg_go, mr_go, q1, augv, hk]
        rw [whileG, t1]
        simp only [R.st_ok, t2, R.bind_ok]
        exact w1
  obtain ⟨h', o, w1, w2, w3⟩ := loop m whileN a p h2 (by unfold whileN; omega) e2 bnd
  refine ⟨h', ?_, w2, e3.trans w3⟩
  rw [w1]
  simp -implicitDefEqProofs only [Def.start, exs, ex, ev, evs, evi, evo, evIfs, evAnd, evOr, asg, asgs, exh, tr_f, tr_b, tr_l, tr_u, R.bind_ok, R.bind_exc, R.st_ok, R.st_exc, R.calm_ok, R.of_some, Option.map_some, List.map, List.length, List.set, List.getElem?_cons_zero, List.getElem?_cons_succ, List.replicate, List.append_nil, List.cons_append, List.nil_append, List.any, Bool.or_false, Bool.not_true, Bool.not_false, isk_int, isk_bool, isk_str, isk_tuple, isk_list, isInt, isBool, isStr, isTup, asS_tup, asS_lst', asS_fls, lenh_tup, lenh_lst, lenh_fls, bltR_len, bltR_tuple, bltR_list, bltR_int, bltR_intb, bltR_min, bltR_max, opv_add, opv_sub, cmpv_lt, cmpv_le, cmpv_gt, cmpv_ge, cmpv_eqi, cmpv_nei, cmpv_eqs, cmpv_nes, cmpv_is, cmpv_isnot, G_ROUND, G_MOST_LAYERS, G_MOST_AGAIN, G_SMALL, G_MOST_FAILS, G_MOST_VALUES, G_FIGURES, G_MOST_CHOICE, fnEnd, decide_true, decide_false, if_true, itFuel, LW.wipe, opv_mod, opv_fdiv, alive_tup, alive_lst, alive_str, alive_int, alive_bl, alive_non, or_self, or_false, false_or, or_true, true_or, and_self, and_true, true_and, and_false, false_and, sub_t0, sub_t1, sub_t2, sub_l0, Int.reducePow, Int.reduceNeg, Int.reduceLE, Int.reduceLT, Int.reduceToNat, Int.reduceEq, Nat.reduceLT, Nat.reduceLeDiff, Nat.reduceAdd, Nat.reduceSub, Int.cast_ofNat_Int, Int.natCast_zero, Int.natCast_one, Int.reduceAdd, Int.reduceSub, Bool.and_self, Bool.and_true, Bool.true_and, Bool.and_false, Bool.false_and, Bool.or_true, Bool.true_or, Bool.or_self, Bool.false_or, reduceIte, reduceCtorEq, String.reduceEq, ne_eq, not_false_eq_true, not_true_eq_false, Option.getD_some, forG_tup, forG_lst, forG_etup, forG_elst, sub_word, mem2, mem3, up, fin]
theorem opv_addL {h : HP} {a b : PV} {x y : List PV} (ha : asD h a = some x) (hb : asD h b = some y) (hl : x.length + y.length ≤ lineN) : opv h .add a b = some (.lst (x ++ y)) := by
  have : opv h .add a b = catL h a b := by
    cases a <;> first | (cases ha; done) | (cases b <;> first | (cases hb; done) | simp only [opv])
  rw [this]
  simp only [catL, ha, hb, hl, if_true]
theorem asD_asL {h : HP} {e : PV} {vs : List PV} (he : asD h e = some vs) : asL h e = some vs ∧ asS h e = some vs := by
  cases e <;> simp only [asD] at he <;> first | (cases he; done) | (cases he; exact ⟨rfl, rfl⟩) | exact ⟨he, he⟩
theorem cut_pre {vs : List PV} {k : Nat} (hk : k ≤ vs.length) : cutL vs none (some (k : Nat)) = vs.take k := by
  simp only [cutL, bndN, List.drop_zero, Nat.sub_zero]
  rw [if_neg (by omega)]
  simp only [Int.toNat_natCast]
  rw [Nat.min_eq_left hk]
theorem cut_suf {vs : List PV} {k : Nat} (hk : k ≤ vs.length) : cutL vs (some (k : Nat)) none = vs.drop k := by
  simp only [cutL, bndN]
  rw [if_neg (by omega)]
  simp only [Int.toNat_natCast]
  rw [Nat.min_eq_left hk, List.take_of_length_le (by simp)]
theorem cut_neg {vs : List PV} {m : Nat} (hm : 0 < m) : cutL vs (some (-(m : Int))) none = vs.drop (vs.length - m) := by
  simp only [cutL, bndN]
  rw [if_pos (by omega)]
  have : (-(m : Int) + (vs.length : Nat)).toNat = vs.length - m := by omega
  rw [this, List.take_of_length_le (by simp)]
theorem cutv_asL {h : HP} {e : PV} {vs : List PV} (he : asL h e = some vs) (l r : Option Int) : cutv h e l r = some (.lst (cutL vs l r)) := by
  cases e with
  | tup _ => cases he
  | _ => simp only [cutv, he, Option.map_some]
theorem itAt_enum {h : HP} {e : PV} {vs : List PV} (he : asS h e = some vs) (i : Nat) : itAt h (.enum e) i = some (enumL 0 vs)[i]? := by
  simp only [itAt, he, Option.map_some, enumL_get, Nat.zero_add]
theorem sp_keep (hB : BS (tb L xs) d0 A.c bask FB BR) {m : Nat} {D : Nat} {x : LS} {t : List LS} {g : G β} {h : HP} {v : Int} (hx : x1.length = l1.length) (hI : IHc nf L xs bask BR FB F A d0 (.keep m) l1 l2 x1)
    (hD : 3 * l2.length + d0 + 3 ≤ D) (hR : Rep BR FB F A (l1 ++ .keep m :: l2) h (x1 ++ x :: t) g) (v0 : 0 ≤ v) (v1 : v ≤ 9999) (hn : g.ns.length + KB nf A.tr l2 ≤ lineN) (hp : A.tr = true → g.ps.length + KB nf A.tr l2 ≤ lineN) :
    ∃ h', fn (tb L xs) D "Way.keep" [.ref A.a, .int l1.length, .int v] h = .ok (lay (.keep m) (fun v q => go A.tr bask l2 (l1.length + 1) v q) v (x :: t, g)).1.pv h' ∧
    Rep BR FB F A (l1 ++ .keep m :: l2) h' (x1 ++ (lay (.keep m) (fun v q => go A.tr bask l2 (l1.length + 1) v q) v (x :: t, g)).2.1) (lay (.keep m) (fun v q => go A.tr bask l2 (l1.length + 1) v q) v (x :: t, g)).2.2 ∧ Fr F h h' := by
  obtain ⟨D, rfl⟩ : ∃ D', D = D' + 1 := ⟨D - 1, by omega⟩
  have hm : m ≤ 9 := by
    have := List.all_eq_true.mp hR.ok (.keep m) (by simp)
    simpa [Ly.ok] using this
  obtain ⟨es, e, s1, s2, s3, s4⟩ := hR.keepAt ls_at (xs_at hx)
  obtain ⟨s5, s6⟩ := asD_asL s3
  have a1 : attrv h (.ref A.a) "layers" = some (lpv (l1 ++ .keep m :: l2)) := by rw [attrv_ins hR.obj, fg_layers]
  have a2 : attrv h (.ref A.a) "states" = some (.ref A.st) := by rw [attrv_ins hR.obj, fg_states]
  have hel := (List.getElem?_eq_some_iff.mp s2).1
  have b1 : subv h (.ref A.st) (.int l1.length) = some e := by rw [sub_ref s1 hel, s2]
  rw [fn_run T_d_Way_keep rfl]
  simp -implicitDefEqProofs only [Def.start, exs, ex, ev, evs, evi, evo, evIfs, evAnd, evOr, asg, asgs, exh, tr_f, tr_b, tr_l, tr_u, R.bind_ok, R.bind_exc, R.st_ok, R.st_exc, R.calm_ok, R.of_some, Option.map_some, List.map, List.length, List.set, List.getElem?_cons_zero, List.getElem?_cons_succ, List.replicate, List.append_nil, List.cons_append, List.nil_append, List.any, Bool.or_false, Bool.not_true, Bool.not_false, isk_int, isk_bool, isk_str, isk_tuple, isk_list, isInt, isBool, isStr, isTup, asS_tup, asS_lst', asS_fls, lenh_tup, lenh_lst, lenh_fls, bltR_len, bltR_tuple, bltR_list, bltR_int, bltR_intb, bltR_min, bltR_max, opv_add, opv_sub, cmpv_lt, cmpv_le, cmpv_gt, cmpv_ge, cmpv_eqi, cmpv_nei, cmpv_eqs, cmpv_nes, cmpv_is, cmpv_isnot, G_ROUND, G_MOST_LAYERS, G_MOST_AGAIN, G_SMALL, G_MOST_FAILS, G_MOST_VALUES, G_FIGURES, G_MOST_CHOICE, fnEnd, decide_true, decide_false, if_true, itFuel, LW.wipe, opv_mod, opv_fdiv, alive_tup, alive_lst, alive_str, alive_int, alive_bl, alive_non, or_self, or_false, false_or, or_true, true_or, and_self, and_true, true_and, and_false, false_and, sub_t0, sub_t1, sub_t2, sub_l0, Int.reducePow, Int.reduceNeg, Int.reduceLE, Int.reduceLT, Int.reduceToNat, Int.reduceEq, Nat.reduceLT, Nat.reduceLeDiff, Nat.reduceAdd, Nat.reduceSub, Int.cast_ofNat_Int, Int.natCast_zero, Int.natCast_one, Int.reduceAdd, Int.reduceSub, Bool.and_self, Bool.and_true, Bool.true_and, Bool.and_false, Bool.false_and, Bool.or_true, Bool.true_or, Bool.or_self, Bool.false_or, reduceIte, reduceCtorEq, String.reduceEq, ne_eq, not_false_eq_true, not_true_eq_false, Option.getD_some, forG_tup, forG_lst, forG_etup, forG_elst, sub_word, mem2, mem3, d_Way_keep, a1, a2, b1, s6]
  generalize hstep : (fun x σ h => _ : PV → Sg → HP → R Fl) = step
  have hne : ∀ (i : Nat) (r : Int × Int) (o4 o5 o6 : Option PV), r.1 ≠ v → step (.tup [.int i, rowpv r]) [some (.ref A.a), some (.int (l1.length : Nat)), some (.int v), some e, o4, o5, o6, none] h = .ok (.nx [some (.ref A.a), some (.int (l1.length : Nat)), some (.int v), some e, some (.int i), some (.int r.1), some (An.ok r.2).pv, none]) h := fun i r o4 o5 o6 hr => by
    rw [← hstep]
    simp -implicitDefEqProofs only [Def.start, exs, ex, ev, evs, evi, evo, evIfs, evAnd, evOr, asg, asgs, exh, tr_f, tr_b, tr_l, tr_u, R.bind_ok, R.bind_exc, R.st_ok, R.st_exc, R.calm_ok, R.of_some, Option.map_some, List.map, List.length, List.set, List.getElem?_cons_zero, List.getElem?_cons_succ, List.replicate, List.append_nil, List.cons_append, List.nil_append, List.any, Bool.or_false, Bool.not_true, Bool.not_false, isk_int, isk_bool, isk_str, isk_tuple, isk_list, isInt, isBool, isStr, isTup, asS_tup, asS_lst', asS_fls, lenh_tup, lenh_lst, lenh_fls, bltR_len, bltR_tuple, bltR_list, bltR_int, bltR_intb, bltR_min, bltR_max, opv_add, opv_sub, cmpv_lt, cmpv_le, cmpv_gt, cmpv_ge, cmpv_eqi, cmpv_nei, cmpv_eqs, cmpv_nes, cmpv_is, cmpv_isnot, G_ROUND, G_MOST_LAYERS, G_MOST_AGAIN, G_SMALL, G_MOST_FAILS, G_MOST_VALUES, G_FIGURES, G_MOST_CHOICE, fnEnd, decide_true, decide_false, if_true, itFuel, LW.wipe, opv_mod, opv_fdiv, alive_tup, alive_lst, alive_str, alive_int, alive_bl, alive_non, or_self, or_false, false_or, or_true, true_or, and_self, and_true, true_and, and_false, false_and, sub_t0, sub_t1, sub_t2, sub_l0, Int.reducePow, Int.reduceNeg, Int.reduceLE, Int.reduceLT, Int.reduceToNat, Int.reduceEq, Nat.reduceLT, Nat.reduceLeDiff, Nat.reduceAdd, Nat.reduceSub, Int.cast_ofNat_Int, Int.natCast_zero, Int.natCast_one, Int.reduceAdd, Int.reduceSub, Bool.and_self, Bool.and_true, Bool.true_and, Bool.and_false, Bool.false_and, Bool.or_true, Bool.true_or, Bool.or_self, Bool.false_or, reduceIte, reduceCtorEq, String.reduceEq, ne_eq, not_false_eq_true, not_true_eq_false, Option.getD_some, forG_tup, forG_lst, forG_etup, forG_elst, sub_word, mem2, mem3, rowpv, hr]
  have hlen : (x.rows.map rowpv).length ≤ 9 := by rw [List.length_map]; omega
  cases hl : look x.rows v with
  | some w =>
    obtain ⟨a, b, ea, eb, ec⟩ := (keep_rows (rows := x.rows) (v := v)).1 w hl
    have hl' : x.rows.length = a.length + 1 + b.length := by rw [ea]; simp; omega
    have hR' := hR.keeps hB.frame ls_at (xs_at hx) s1 (drop1 x.rows v ++ [(v, w)]) (by rw [ec]; simp; omega)
    rw [xs_set hx] at hR'
    have ea' : x.rows.map rowpv = a.map rowpv ++ rowpv (v, w) :: b.map rowpv := by rw [ea]; simp
    have c1 : cutv h e none (some ((a.length : Nat) : Int)) = some (.lst (a.map rowpv)) := by
      rw [cutv_asL s5, cut_pre (by simp [hl']; omega), ea']
      congr 2
      rw [List.take_append_of_le_length (by simp), List.take_of_length_le (by simp)]
    have c2 : cutv h e (some ((a.length : Nat) + 1 : Int)) none = some (.lst (b.map rowpv)) := by
      rw [show ((a.length : Nat) + 1 : Int) = ((a.length + 1 : Nat) : Int) by omega, cutv_asL s5, cut_suf (by simp [hl']), ea']
      congr 2
      have : a.length + 1 = (a.map rowpv ++ [rowpv (v, w)]).length := by simp
      rw [show a.map rowpv ++ rowpv (v, w) :: b.map rowpv = (a.map rowpv ++ [rowpv (v, w)]) ++ b.map rowpv by simp, this, List.drop_left]
    have c3 : opv h .add (.lst (a.map rowpv)) (.lst (b.map rowpv)) = some (.lst (a.map rowpv ++ b.map rowpv)) := by
      exact opv_addL rfl rfl (by rw [lineN_eq]; simp only [List.length_map]; omega)
    have c4 : opv h .add (.lst (a.map rowpv ++ b.map rowpv)) (.lst [.tup [.int v, (An.ok w).pv]]) = some (.lst ((drop1 x.rows v ++ [(v, w)]).map rowpv)) := by
      rw [opv_addL rfl rfl (by rw [lineN_eq]; simp only [List.length_map, List.length_append, List.length_cons, List.length_nil]; omega), ec]
      simp [rowpv]
    have c5 : setv h (.ref A.st) (.int (l1.length : Nat)) (.lst ((drop1 x.rows v ++ [(v, w)]).map rowpv)) = some (h.set A.st (.lst (es.set l1.length (.lst ((drop1 x.rows v ++ [(v, w)]).map rowpv))))) := by
      simp only [setv, s1, ixP]
      rw [if_pos (by omega), if_pos (by omega)]
      simp
    refine ⟨h.set A.st (.lst (es.set l1.length (.lst ((drop1 x.rows v ++ [(v, w)]).map rowpv)))), ?_, ?_, Fr.set hR.own.2.2.2.2.1⟩
    · obtain ⟨σ', ⟨o4, o5, o6, rfl⟩, e1⟩ := forG_pre (fun i => itAt_enum s6 i) (step := step) (fun σ => ∃ o4 o5 o6, σ = [some (.ref A.a), some (.int (l1.length : Nat)), some (.int v), some e, o4, o5, o6, none]) a.length (by rw [enumL_len, List.length_map]; omega) (fun i y σ hi hy ⟨o4, o5, o6, eσ⟩ => by
          subst eσ
          rw [enumL_get, ea', List.getElem?_append_left (by simpa using hi), List.getElem?_map] at hy
          rw [List.getElem?_eq_getElem hi] at hy
          simp only [Option.map_some, Option.some.injEq, Nat.zero_add] at hy
          subst hy
          exact ⟨_, hne i a[i] o4 o5 o6 (eb _ (List.getElem_mem hi)), _, _, _, rfl⟩) ⟨none, none, none, rfl⟩
      rw [enumL_len] at e1
      rw [e1, show (x.rows.map rowpv).length + 1 - a.length = b.length + 1 + 1 by rw [List.length_map]; omega, forG, itAt_enum s6, enumL_get, ea', List.getElem?_append_right (by simp), List.length_map, Nat.sub_self, List.getElem?_cons_zero]
      simp only [Option.map_some, Nat.zero_add]
      rw [← hstep]
      simp -implicitDefEqProofs only [Def.start, exs, ex, ev, evs, evi, evo, evIfs, evAnd, evOr, asg, asgs, exh, tr_f, tr_b, tr_l, tr_u, R.bind_ok, R.bind_exc, R.st_ok, R.st_exc, R.calm_ok, R.of_some, Option.map_some, List.map, List.length, List.set, List.getElem?_cons_zero, List.getElem?_cons_succ, List.replicate, List.append_nil, List.cons_append, List.nil_append, List.any, Bool.or_false, Bool.not_true, Bool.not_false, isk_int, isk_bool, isk_str, isk_tuple, isk_list, isInt, isBool, isStr, isTup, asS_tup, asS_lst', asS_fls, lenh_tup, lenh_lst, lenh_fls, bltR_len, bltR_tuple, bltR_list, bltR_int, bltR_intb, bltR_min, bltR_max, opv_add, opv_sub, cmpv_lt, cmpv_le, cmpv_gt, cmpv_ge, cmpv_eqi, cmpv_nei, cmpv_eqs, cmpv_nes, cmpv_is, cmpv_isnot, G_ROUND, G_MOST_LAYERS, G_MOST_AGAIN, G_SMALL, G_MOST_FAILS, G_MOST_VALUES, G_FIGURES, G_MOST_CHOICE, fnEnd, decide_true, decide_false, if_true, itFuel, LW.wipe, opv_mod, opv_fdiv, alive_tup, alive_lst, alive_str, alive_int, alive_bl, alive_non, or_self, or_false, false_or, or_true, true_or, and_self, and_true, true_and, and_false, false_and, sub_t0, sub_t1, sub_t2, sub_l0, Int.reducePow, Int.reduceNeg, Int.reduceLE, Int.reduceLT, Int.reduceToNat, Int.reduceEq, Nat.reduceLT, Nat.reduceLeDiff, Nat.reduceAdd, Nat.reduceSub, Int.cast_ofNat_Int, Int.natCast_zero, Int.natCast_one, Int.reduceAdd, Int.reduceSub, Bool.and_self, Bool.and_true, Bool.true_and, Bool.and_false, Bool.false_and, Bool.or_true, Bool.true_or, Bool.or_self, Bool.false_or, reduceIte, reduceCtorEq, String.reduceEq, ne_eq, not_false_eq_true, not_true_eq_false, Option.getD_some, forG_tup, forG_lst, forG_etup, forG_elst, sub_word, mem2, mem3, rowpv, c1, c2, c3, a2, c4, c5, lay, hd, List.headD, hl, fin]
    · simp only [lay, hd, List.headD, hl]
      exact hR'
  | none =>
    have hno := (keep_rows (rows := x.rows) (v := v)).2 hl
    obtain ⟨σ', ⟨o4, o5, o6, rfl⟩, e1⟩ := forG_pre (fun i => itAt_enum s6 i) (step := step) (fun σ => ∃ o4 o5 o6, σ = [some (.ref A.a), some (.int (l1.length : Nat)), some (.int v), some e, o4, o5, o6, none]) x.rows.length (by rw [enumL_len, List.length_map]; omega) (fun i y σ hi hy ⟨o4, o5, o6, eσ⟩ => by
          subst eσ
          rw [enumL_get, List.getElem?_map, List.getElem?_eq_getElem hi] at hy
          simp only [Option.map_some, Option.some.injEq, Nat.zero_add] at hy
          subst hy
          exact ⟨_, hne i x.rows[i] o4 o5 o6 (hno _ (List.getElem_mem hi)), _, _, _, rfl⟩) ⟨none, none, none, rfl⟩
    rw [enumL_len] at e1
    rw [e1, show (x.rows.map rowpv).length + 1 - x.rows.length = 0 + 1 by rw [List.length_map]; omega, forG, itAt_enum s6, enumL_get, List.getElem?_eq_none (by simp)]
    clear e1 hne hstep
    obtain ⟨h2, e1, e2, e3⟩ := hI D x t g _ v (by omega) hR v0 v1 hn hp
    have hm' : (lay (.keep m) (fun v q => go A.tr bask l2 (l1.length + 1) v q) v (x :: t, g)) = up (kept m x v (go A.tr bask l2 (l1.length + 1) v (t, g)).1) (go A.tr bask l2 (l1.length + 1) v (t, g)) := by
      simp only [lay, hd, List.headD, hl, tl, List.tail]
    rw [hm']
    generalize go A.tr bask l2 (l1.length + 1) v (t, g) = r at *
    obtain ⟨ra, rt, rg⟩ := r
    have a3 : attrv h2 (.ref A.a) "layers" = some (lpv (l1 ++ .keep m :: l2)) := by rw [attrv_ins e2.obj, fg_layers]
    have a4 : attrv h2 (.ref A.a) "states" = some (.ref A.st) := by rw [attrv_ins e2.obj, fg_states]
    have b3 : ∀ h, subv h (Ly.keep m).pv (.int 1) = some (.int m) := fun h => rfl
    have o1 := hR.obj
    cases ra with
    | bad s =>
      refine ⟨h2, ?_, e2, e3⟩
      simp -implicitDefEqProofs only [Def.start, exs, ex, ev, evs, evi, evo, evIfs, evAnd, evOr, asg, asgs, exh, tr_f, tr_b, tr_l, tr_u, R.bind_ok, R.bind_exc, R.st_ok, R.st_exc, R.calm_ok, R.of_some, Option.map_some, List.map, List.length, List.set, List.getElem?_cons_zero, List.getElem?_cons_succ, List.replicate, List.append_nil, List.cons_append, List.nil_append, List.any, Bool.or_false, Bool.not_true, Bool.not_false, isk_int, isk_bool, isk_str, isk_tuple, isk_list, isInt, isBool, isStr, isTup, asS_tup, asS_lst', asS_fls, lenh_tup, lenh_lst, lenh_fls, bltR_len, bltR_tuple, bltR_list, bltR_int, bltR_intb, bltR_min, bltR_max, opv_add, opv_sub, cmpv_lt, cmpv_le, cmpv_gt, cmpv_ge, cmpv_eqi, cmpv_nei, cmpv_eqs, cmpv_nes, cmpv_is, cmpv_isnot, G_ROUND, G_MOST_LAYERS, G_MOST_AGAIN, G_SMALL, G_MOST_FAILS, G_MOST_VALUES, G_FIGURES, G_MOST_CHOICE, fnEnd, decide_true, decide_false, if_true, itFuel, LW.wipe, opv_mod, opv_fdiv, alive_tup, alive_lst, alive_str, alive_int, alive_bl, alive_non, or_self, or_false, false_or, or_true, true_or, and_self, and_true, true_and, and_false, false_and, sub_t0, sub_t1, sub_t2, sub_l0, Int.reducePow, Int.reduceNeg, Int.reduceLE, Int.reduceLT, Int.reduceToNat, Int.reduceEq, Nat.reduceLT, Nat.reduceLeDiff, Nat.reduceAdd, Nat.reduceSub, Int.cast_ofNat_Int, Int.natCast_zero, Int.natCast_one, Int.reduceAdd, Int.reduceSub, Bool.and_self, Bool.and_true, Bool.true_and, Bool.and_false, Bool.false_and, Bool.or_true, Bool.true_or, Bool.or_self, Bool.false_or, reduceIte, reduceCtorEq, String.reduceEq, ne_eq, not_false_eq_true, not_true_eq_false, Option.getD_some, forG_tup, forG_lst, forG_etup, forG_elst, sub_word, mem2, mem3, Option.map_none, o1, fg_go, mr_go, e1, a3, b3, sub_lpv, sub_an0, An.kind, up, fin]
    | ok w =>
      by_cases hm0 : m = 0
      · have hmm : ¬ ((0 : Int) < (m : Nat)) := by omega
        refine ⟨h2, ?_, ?_, e3⟩
        · simp -implicitDefEqProofs only [Def.start, exs, ex, ev, evs, evi, evo, evIfs, evAnd, evOr, asg, asgs, exh, tr_f, tr_b, tr_l, tr_u, R.bind_ok, R.bind_exc, R.st_ok, R.st_exc, R.calm_ok, R.of_some, Option.map_some, List.map, List.length, List.set, List.getElem?_cons_zero, List.getElem?_cons_succ, List.replicate, List.append_nil, List.cons_append, List.nil_append, List.any, Bool.or_false, Bool.not_true, Bool.not_false, isk_int, isk_bool, isk_str, isk_tuple, isk_list, isInt, isBool, isStr, isTup, asS_tup, asS_lst', asS_fls, lenh_tup, lenh_lst, lenh_fls, bltR_len, bltR_tuple, bltR_list, bltR_int, bltR_intb, bltR_min, bltR_max, opv_add, opv_sub, cmpv_lt, cmpv_le, cmpv_gt, cmpv_ge, cmpv_eqi, cmpv_nei, cmpv_eqs, cmpv_nes, cmpv_is, cmpv_isnot, G_ROUND, G_MOST_LAYERS, G_MOST_AGAIN, G_SMALL, G_MOST_FAILS, G_MOST_VALUES, G_FIGURES, G_MOST_CHOICE, fnEnd, decide_true, decide_false, if_true, itFuel, LW.wipe, opv_mod, opv_fdiv, alive_tup, alive_lst, alive_str, alive_int, alive_bl, alive_non, or_self, or_false, false_or, or_true, true_or, and_self, and_true, true_and, and_false, false_and, sub_t0, sub_t1, sub_t2, sub_l0, Int.reducePow, Int.reduceNeg, Int.reduceLE, Int.reduceLT, Int.reduceToNat, Int.reduceEq, Nat.reduceLT, Nat.reduceLeDiff, Nat.reduceAdd, Nat.reduceSub, Int.cast_ofNat_Int, Int.natCast_zero, Int.natCast_one, Int.reduceAdd, Int.reduceSub, Bool.and_self, Bool.and_true, Bool.true_and, Bool.and_false, Bool.false_and, Bool.or_true, Bool.true_or, Bool.or_self, Bool.false_or, reduceIte, reduceCtorEq, String.reduceEq, ne_eq, not_false_eq_true, not_true_eq_false, Option.getD_some, forG_tup, forG_lst, forG_etup, forG_elst, sub_word, mem2, mem3, Option.map_none, o1, fg_go, mr_go, e1, a3, b3, sub_lpv, sub_an0, An.kind, hmm, up, fin]
        · simp only [up, kept, hm0, if_true]
          rw [hm0] at e2
          exact e2
      · have hmm : ((0 : Int) < (m : Nat)) := by omega
        obtain ⟨es', e', t1, t2, t3, t4⟩ := e2.keepAt ls_at (xs_at hx)
        have hel' := (List.getElem?_eq_some_iff.mp t2).1
        have b4 : subv h2 (.ref A.st) (.int l1.length) = some e' := by rw [sub_ref t1 hel', t2]
        have hll : (lastN m (x.rows ++ [(v, w)])).length ≤ m := by simp only [lastN, List.length_drop]; omega
        have hR' := e2.keeps hB.frame ls_at (xs_at hx) t1 (lastN m (x.rows ++ [(v, w)])) hll
        rw [xs_set hx] at hR'
        have c4 : opv h2 .add e' (.lst [.tup [.int v, (An.ok w).pv]]) = some (.lst ((x.rows ++ [(v, w)]).map rowpv)) := by
          rw [opv_addL t3 rfl (by rw [lineN_eq]; simp only [List.length_map, List.length_append, List.length_cons, List.length_nil]; omega)]
          simp [rowpv]
        have c6 : cutv h2 (.lst ((x.rows ++ [(v, w)]).map rowpv)) (some (-(m : Int))) none = some (.lst ((lastN m (x.rows ++ [(v, w)])).map rowpv)) := by
          rw [cutv_asL rfl, cut_neg (by omega)]
          simp [lastN]
        have c5 : setv h2 (.ref A.st) (.int (l1.length : Nat)) (.lst ((lastN m (x.rows ++ [(v, w)])).map rowpv)) = some (h2.set A.st (.lst (es'.set l1.length (.lst ((lastN m (x.rows ++ [(v, w)])).map rowpv))))) := by
          simp only [setv, t1, ixP]
          rw [if_pos (by omega), if_pos (by omega)]
          simp
        refine ⟨h2.set A.st (.lst (es'.set l1.length (.lst ((lastN m (x.rows ++ [(v, w)])).map rowpv)))), ?_, ?_, e3.trans (Fr.set hR.own.2.2.2.2.1)⟩
        · simp -implicitDefEqProofs only [Def.start, exs, ex, ev, evs, evi, evo, evIfs, evAnd, evOr, asg, asgs, exh, tr_f, tr_b, tr_l, tr_u, R.bind_ok, R.bind_exc, R.st_ok, R.st_exc, R.calm_ok, R.of_some, Option.map_some, List.map, List.length, List.set, List.getElem?_cons_zero, List.getElem?_cons_succ, List.replicate, List.append_nil, List.cons_append, List.nil_append, List.any, Bool.or_false, Bool.not_true, Bool.not_false, isk_int, isk_bool, isk_str, isk_tuple, isk_list, isInt, isBool, isStr, isTup, asS_tup, asS_lst', asS_fls, lenh_tup, lenh_lst, lenh_fls, bltR_len, bltR_tuple, bltR_list, bltR_int, bltR_intb, bltR_min, bltR_max, opv_add, opv_sub, cmpv_lt, cmpv_le, cmpv_gt, cmpv_ge, cmpv_eqi, cmpv_nei, cmpv_eqs, cmpv_nes, cmpv_is, cmpv_isnot, G_ROUND, G_MOST_LAYERS, G_MOST_AGAIN, G_SMALL, G_MOST_FAILS, G_MOST_VALUES, G_FIGURES, G_MOST_CHOICE, fnEnd, decide_true, decide_false, if_true, itFuel, LW.wipe, opv_mod, opv_fdiv, alive_tup, alive_lst, alive_str, alive_int, alive_bl, alive_non, or_self, or_false, false_or, or_true, true_or, and_self, and_true, true_and, and_false, false_and, sub_t0, sub_t1, sub_t2, sub_l0, Int.reducePow, Int.reduceNeg, Int.reduceLE, Int.reduceLT, Int.reduceToNat, Int.reduceEq, Nat.reduceLT, Nat.reduceLeDiff, Nat.reduceAdd, Nat.reduceSub, Int.cast_ofNat_Int, Int.natCast_zero, Int.natCast_one, Int.reduceAdd, Int.reduceSub, Bool.and_self, Bool.and_true, Bool.true_and, Bool.and_false, Bool.false_and, Bool.or_true, Bool.true_or, Bool.or_self, Bool.false_or, reduceIte, reduceCtorEq, String.reduceEq, ne_eq, not_false_eq_true, not_true_eq_false, Option.getD_some, forG_tup, forG_lst, forG_etup, forG_elst, sub_word, mem2, mem3, Option.map_none, o1, fg_go, mr_go, e1, a3, a4, b3, b4, sub_lpv, sub_an0, An.kind, hmm, up, fin, c4, c6, c5]
        · simp only [up, kept, hm0, if_false]
          exact hR'
end
end
end LW
/-! LwY: a way's methods, whole. -/
namespace LW
section
variable {L : Def} {xs : List String} {β : Type} {bask : Int → β → An × β} {BR : HP → β → Prop} {FB F : Nat → Prop} {A : Ad} {d0 : Nat} {nf : Bool}
def noteN : Ly → Nat
  | .note _ => 2
  | _ => 0
theorem KB_cons (tr : Bool) (l : Ly) (ls : List Ly) : KB nf tr (l :: ls) = (if tr then 1 else 0) + noteN l + mult nf l ls * KB nf tr ls := by cases l <;> rfl
theorem goI_cons (hnf : NF nf bask) (hB : BS (tb L xs) d0 A.c bask FB BR) {l : Ly} {l2 : List Ly} (hP : Pgo nf L xs bask BR FB F A d0 (goN A.tr) (go A.tr bask) 1 l2) : Pgo nf L xs bask BR FB F A d0 "Way.go" (goI A.tr bask) 0 (l :: l2) := by
  intro D l1 x1 x2 g h v hD hR hx v0 v1 hn hp
  obtain ⟨D, rfl⟩ : ∃ D', D = D' + 1 := ⟨D - 1, by simp at hD; omega⟩
  obtain ⟨x, t, rfl⟩ : ∃ x t, x2 = x :: t := by
    have := hR.len
    simp at this
    cases x2 with
    | nil => simp at this; omega
    | cons x t => exact ⟨x, t, rfl⟩
  rw [List.length_cons] at hD
  have hI := ih_of (l := l) hx hP
  have a1 : attrv h (.ref A.a) "layers" = some (lpv (l1 ++ l :: l2)) := by rw [attrv_ins hR.obj, fg_layers]
  have o1 := hR.obj
  have hn' : g.ns.length + noteN l + mult nf l l2 * KB nf A.tr l2 ≤ lineN := by rw [KB_cons] at hn; omega
  have hp' : A.tr = true → g.ps.length + mult nf l l2 * KB nf A.tr l2 ≤ lineN := fun q => by
    have := hp q
    rw [KB_cons] at this
    simp only [q, if_true] at this ⊢
    omega
  rw [fn_run T_d_Way_go rfl]
  cases l with
  | inn n =>
    obtain ⟨k0, k1⟩ := mod_ok (x := v + n) (n := 10000) (by decide)
    obtain ⟨h', e1, e2, e3⟩ := hI D x t g h ((v + n) % 10000) (by omega) hR k0 (by omega) (by simpa [mult, noteN] using hn') (by simpa [mult] using hp')
    refine ⟨h', ?_, e2, e3⟩
    have b1 : subv h (Ly.inn n).pv (.int 1) = some (.int n) := rfl
    have rT : ∀ (x : Int) (h : HP), opv h .mod (.int x) (.int 10000) = some (.int (x % 10000)) := fun x h => opv_mod (by decide)
    simp -implicitDefEqProofs only [Def.start, exs, ex, ev, evs, evi, evo, evIfs, evAnd, evOr, asg, asgs, exh, tr_f, tr_b, tr_l, tr_u, R.bind_ok, R.bind_exc, R.st_ok, R.st_exc, R.calm_ok, R.of_some, Option.map_some, List.map, List.length, List.set, List.getElem?_cons_zero, List.getElem?_cons_succ, List.replicate, List.append_nil, List.cons_append, List.nil_append, List.any, Bool.or_false, Bool.not_true, Bool.not_false, isk_int, isk_bool, isk_str, isk_tuple, isk_list, isInt, isBool, isStr, isTup, asS_tup, asS_lst', asS_fls, lenh_tup, lenh_lst, lenh_fls, bltR_len, bltR_tuple, bltR_list, bltR_int, bltR_intb, bltR_min, bltR_max, opv_add, opv_sub, cmpv_lt, cmpv_le, cmpv_gt, cmpv_ge, cmpv_eqi, cmpv_nei, cmpv_eqs, cmpv_nes, cmpv_is, cmpv_isnot, G_ROUND, G_MOST_LAYERS, G_MOST_AGAIN, G_SMALL, G_MOST_FAILS, G_MOST_VALUES, G_FIGURES, G_MOST_CHOICE, fnEnd, decide_true, decide_false, if_true, itFuel, LW.wipe, opv_mod, opv_fdiv, alive_tup, alive_lst, alive_str, alive_int, alive_bl, alive_non, or_self, or_false, false_or, or_true, true_or, and_self, and_true, true_and, and_false, false_and, sub_t0, sub_t1, sub_t2, sub_l0, Int.reducePow, Int.reduceNeg, Int.reduceLE, Int.reduceLT, Int.reduceToNat, Int.reduceEq, Nat.reduceLT, Nat.reduceLeDiff, Nat.reduceAdd, Nat.reduceSub, Int.cast_ofNat_Int, Int.natCast_zero, Int.natCast_one, Int.reduceAdd, Int.reduceSub, Bool.and_self, Bool.and_true, Bool.true_and, Bool.and_false, Bool.false_and, Bool.or_true, Bool.true_or, Bool.or_self, Bool.false_or, reduceIte, reduceCtorEq, String.reduceEq, ne_eq, not_false_eq_true, not_true_eq_false, Option.getD_some, forG_tup, forG_lst, forG_etup, forG_elst, sub_word, mem2, mem3, d_Way_go, a1, lenh_lpv, ne_len, sub_lpv, Ly.word, o1, fg_go, mr_go, b1, rT, e1, goI, lay, up, tl, List.tail, fin]
  | out n =>
    obtain ⟨h', e1, e2, e3⟩ := sp_out hB hx hI (D := D) (by omega) hR v0 v1 (by simpa [mult, noteN] using hn') (by simpa [mult] using hp')
    refine ⟨h', ?_, e2, e3⟩
    simp -implicitDefEqProofs only [Def.start, exs, ex, ev, evs, evi, evo, evIfs, evAnd, evOr, asg, asgs, exh, tr_f, tr_b, tr_l, tr_u, R.bind_ok, R.bind_exc, R.st_ok, R.st_exc, R.calm_ok, R.of_some, Option.map_some, List.map, List.length, List.set, List.getElem?_cons_zero, List.getElem?_cons_succ, List.replicate, List.append_nil, List.cons_append, List.nil_append, List.any, Bool.or_false, Bool.not_true, Bool.not_false, isk_int, isk_bool, isk_str, isk_tuple, isk_list, isInt, isBool, isStr, isTup, asS_tup, asS_lst', asS_fls, lenh_tup, lenh_lst, lenh_fls, bltR_len, bltR_tuple, bltR_list, bltR_int, bltR_intb, bltR_min, bltR_max, opv_add, opv_sub, cmpv_lt, cmpv_le, cmpv_gt, cmpv_ge, cmpv_eqi, cmpv_nei, cmpv_eqs, cmpv_nes, cmpv_is, cmpv_isnot, G_ROUND, G_MOST_LAYERS, G_MOST_AGAIN, G_SMALL, G_MOST_FAILS, G_MOST_VALUES, G_FIGURES, G_MOST_CHOICE, fnEnd, decide_true, decide_false, if_true, itFuel, LW.wipe, opv_mod, opv_fdiv, alive_tup, alive_lst, alive_str, alive_int, alive_bl, alive_non, or_self, or_false, false_or, or_true, true_or, and_self, and_true, true_and, and_false, false_and, sub_t0, sub_t1, sub_t2, sub_l0, Int.reducePow, Int.reduceNeg, Int.reduceLE, Int.reduceLT, Int.reduceToNat, Int.reduceEq, Nat.reduceLT, Nat.reduceLeDiff, Nat.reduceAdd, Nat.reduceSub, Int.cast_ofNat_Int, Int.natCast_zero, Int.natCast_one, Int.reduceAdd, Int.reduceSub, Bool.and_self, Bool.and_true, Bool.true_and, Bool.and_false, Bool.false_and, Bool.or_true, Bool.true_or, Bool.or_self, Bool.false_or, reduceIte, reduceCtorEq, String.reduceEq, ne_eq, not_false_eq_true, not_true_eq_false, Option.getD_some, forG_tup, forG_lst, forG_etup, forG_elst, sub_word, mem2, mem3, d_Way_go, a1, lenh_lpv, ne_len, sub_lpv, Ly.word, o1, fg_changed, mr_changed, e1, goI, fin]
  | gate lo hi =>
    have b1 : ∀ h, subv h (Ly.gate lo hi).pv (.int 1) = some (.int lo) := fun h => rfl
    have b2 : ∀ h, subv h (Ly.gate lo hi).pv (.int 2) = some (.int hi) := fun h => rfl
    by_cases c1 : lo ≤ v
    · by_cases c2 : v ≤ hi
      · obtain ⟨h', e1, e2, e3⟩ := hI D x t g h v (by omega) hR v0 v1 (by simpa [mult, noteN] using hn') (by simpa [mult] using hp')
        refine ⟨h', ?_, ?_, e3⟩
        · simp -implicitDefEqProofs only [Def.start, exs, ex, ev, evs, evi, evo, evIfs, evAnd, evOr, asg, asgs, exh, tr_f, tr_b, tr_l, tr_u, R.bind_ok, R.bind_exc, R.st_ok, R.st_exc, R.calm_ok, R.of_some, Option.map_some, List.map, List.length, List.set, List.getElem?_cons_zero, List.getElem?_cons_succ, List.replicate, List.append_nil, List.cons_append, List.nil_append, List.any, Bool.or_false, Bool.not_true, Bool.not_false, isk_int, isk_bool, isk_str, isk_tuple, isk_list, isInt, isBool, isStr, isTup, asS_tup, asS_lst', asS_fls, lenh_tup, lenh_lst, lenh_fls, bltR_len, bltR_tuple, bltR_list, bltR_int, bltR_intb, bltR_min, bltR_max, opv_add, opv_sub, cmpv_lt, cmpv_le, cmpv_gt, cmpv_ge, cmpv_eqi, cmpv_nei, cmpv_eqs, cmpv_nes, cmpv_is, cmpv_isnot, G_ROUND, G_MOST_LAYERS, G_MOST_AGAIN, G_SMALL, G_MOST_FAILS, G_MOST_VALUES, G_FIGURES, G_MOST_CHOICE, fnEnd, decide_true, decide_false, if_true, itFuel, LW.wipe, opv_mod, opv_fdiv, alive_tup, alive_lst, alive_str, alive_int, alive_bl, alive_non, or_self, or_false, false_or, or_true, true_or, and_self, and_true, true_and, and_false, false_and, sub_t0, sub_t1, sub_t2, sub_l0, Int.reducePow, Int.reduceNeg, Int.reduceLE, Int.reduceLT, Int.reduceToNat, Int.reduceEq, Nat.reduceLT, Nat.reduceLeDiff, Nat.reduceAdd, Nat.reduceSub, Int.cast_ofNat_Int, Int.natCast_zero, Int.natCast_one, Int.reduceAdd, Int.reduceSub, Bool.and_self, Bool.and_true, Bool.true_and, Bool.and_false, Bool.false_and, Bool.or_true, Bool.true_or, Bool.or_self, Bool.false_or, reduceIte, reduceCtorEq, String.reduceEq, ne_eq, not_false_eq_true, not_true_eq_false, Option.getD_some, forG_tup, forG_lst, forG_etup, forG_elst, sub_word, mem2, mem3, d_Way_go, a1, lenh_lpv, ne_len, sub_lpv, Ly.word, o1, fg_go, mr_go, b1, b2, e1, goI, lay, up, tl, List.tail, fin, c1, c2]
        · simp only [goI, lay, c1, c2, and_self, if_true, up, hd, tl, List.headD, List.tail]
          exact e2
      · refine ⟨h, ?_, ?_, Fr.refl _ _⟩
        · simp -implicitDefEqProofs only [Def.start, exs, ex, ev, evs, evi, evo, evIfs, evAnd, evOr, asg, asgs, exh, tr_f, tr_b, tr_l, tr_u, R.bind_ok, R.bind_exc, R.st_ok, R.st_exc, R.calm_ok, R.of_some, Option.map_some, List.map, List.length, List.set, List.getElem?_cons_zero, List.getElem?_cons_succ, List.replicate, List.append_nil, List.cons_append, List.nil_append, List.any, Bool.or_false, Bool.not_true, Bool.not_false, isk_int, isk_bool, isk_str, isk_tuple, isk_list, isInt, isBool, isStr, isTup, asS_tup, asS_lst', asS_fls, lenh_tup, lenh_lst, lenh_fls, bltR_len, bltR_tuple, bltR_list, bltR_int, bltR_intb, bltR_min, bltR_max, opv_add, opv_sub, cmpv_lt, cmpv_le, cmpv_gt, cmpv_ge, cmpv_eqi, cmpv_nei, cmpv_eqs, cmpv_nes, cmpv_is, cmpv_isnot, G_ROUND, G_MOST_LAYERS, G_MOST_AGAIN, G_SMALL, G_MOST_FAILS, G_MOST_VALUES, G_FIGURES, G_MOST_CHOICE, fnEnd, decide_true, decide_false, if_true, itFuel, LW.wipe, opv_mod, opv_fdiv, alive_tup, alive_lst, alive_str, alive_int, alive_bl, alive_non, or_self, or_false, false_or, or_true, true_or, and_self, and_true, true_and, and_false, false_and, sub_t0, sub_t1, sub_t2, sub_l0, Int.reducePow, Int.reduceNeg, Int.reduceLE, Int.reduceLT, Int.reduceToNat, Int.reduceEq, Nat.reduceLT, Nat.reduceLeDiff, Nat.reduceAdd, Nat.reduceSub, Int.cast_ofNat_Int, Int.natCast_zero, Int.natCast_one, Int.reduceAdd, Int.reduceSub, Bool.and_self, Bool.and_true, Bool.true_and, Bool.and_false, Bool.false_and, Bool.or_true, Bool.true_or, Bool.or_self, Bool.false_or, reduceIte, reduceCtorEq, String.reduceEq, ne_eq, not_false_eq_true, not_true_eq_false, Option.getD_some, forG_tup, forG_lst, forG_etup, forG_elst, sub_word, mem2, mem3, d_Way_go, a1, lenh_lpv, ne_len, sub_lpv, Ly.word, b1, b2, goI, lay, An.pv, fin, c1, c2]
        · simp only [goI, lay, c1, c2, and_false, if_false]
          exact hR
    · refine ⟨h, ?_, ?_, Fr.refl _ _⟩
      · simp -implicitDefEqProofs only [Def.start, exs, ex, ev, evs, evi, evo, evIfs, evAnd, evOr, asg, asgs, exh, tr_f, tr_b, tr_l, tr_u, R.bind_ok, R.bind_exc, R.st_ok, R.st_exc, R.calm_ok, R.of_some, Option.map_some, List.map, List.length, List.set, List.getElem?_cons_zero, List.getElem?_cons_succ, List.replicate, List.append_nil, List.cons_append, List.nil_append, List.any, Bool.or_false, Bool.not_true, Bool.not_false, isk_int, isk_bool, isk_str, isk_tuple, isk_list, isInt, isBool, isStr, isTup, asS_tup, asS_lst', asS_fls, lenh_tup, lenh_lst, lenh_fls, bltR_len, bltR_tuple, bltR_list, bltR_int, bltR_intb, bltR_min, bltR_max, opv_add, opv_sub, cmpv_lt, cmpv_le, cmpv_gt, cmpv_ge, cmpv_eqi, cmpv_nei, cmpv_eqs, cmpv_nes, cmpv_is, cmpv_isnot, G_ROUND, G_MOST_LAYERS, G_MOST_AGAIN, G_SMALL, G_MOST_FAILS, G_MOST_VALUES, G_FIGURES, G_MOST_CHOICE, fnEnd, decide_true, decide_false, if_true, itFuel, LW.wipe, opv_mod, opv_fdiv, alive_tup, alive_lst, alive_str, alive_int, alive_bl, alive_non, or_self, or_false, false_or, or_true, true_or, and_self, and_true, true_and, and_false, false_and, sub_t0, sub_t1, sub_t2, sub_l0, Int.reducePow, Int.reduceNeg, Int.reduceLE, Int.reduceLT, Int.reduceToNat, Int.reduceEq, Nat.reduceLT, Nat.reduceLeDiff, Nat.reduceAdd, Nat.reduceSub, Int.cast_ofNat_Int, Int.natCast_zero, Int.natCast_one, Int.reduceAdd, Int.reduceSub, Bool.and_self, Bool.and_true, Bool.true_and, Bool.and_false, Bool.false_and, Bool.or_true, Bool.true_or, Bool.or_self, Bool.false_or, reduceIte, reduceCtorEq, String.reduceEq, ne_eq, not_false_eq_true, not_true_eq_false, Option.getD_some, forG_tup, forG_lst, forG_etup, forG_elst, sub_word, mem2, mem3, d_Way_go, a1, lenh_lpv, ne_len, sub_lpv, Ly.word, b1, b2, goI, lay, An.pv, fin, c1]
      · simp only [goI, lay, c1, false_and, if_false]
        exact hR
  | again n =>
    obtain ⟨h', e1, e2, e3⟩ := sp_again hnf hB hx hI (D := D) (by omega) hR v0 v1 (by simpa [noteN] using hn') hp'
    refine ⟨h', ?_, e2, e3⟩
    simp -implicitDefEqProofs only [Def.start, exs, ex, ev, evs, evi, evo, evIfs, evAnd, evOr, asg, asgs, exh, tr_f, tr_b, tr_l, tr_u, R.bind_ok, R.bind_exc, R.st_ok, R.st_exc, R.calm_ok, R.of_some, Option.map_some, List.map, List.length, List.set, List.getElem?_cons_zero, List.getElem?_cons_succ, List.replicate, List.append_nil, List.cons_append, List.nil_append, List.any, Bool.or_false, Bool.not_true, Bool.not_false, isk_int, isk_bool, isk_str, isk_tuple, isk_list, isInt, isBool, isStr, isTup, asS_tup, asS_lst', asS_fls, lenh_tup, lenh_lst, lenh_fls, bltR_len, bltR_tuple, bltR_list, bltR_int, bltR_intb, bltR_min, bltR_max, opv_add, opv_sub, cmpv_lt, cmpv_le, cmpv_gt, cmpv_ge, cmpv_eqi, cmpv_nei, cmpv_eqs, cmpv_nes, cmpv_is, cmpv_isnot, G_ROUND, G_MOST_LAYERS, G_MOST_AGAIN, G_SMALL, G_MOST_FAILS, G_MOST_VALUES, G_FIGURES, G_MOST_CHOICE, fnEnd, decide_true, decide_false, if_true, itFuel, LW.wipe, opv_mod, opv_fdiv, alive_tup, alive_lst, alive_str, alive_int, alive_bl, alive_non, or_self, or_false, false_or, or_true, true_or, and_self, and_true, true_and, and_false, false_and, sub_t0, sub_t1, sub_t2, sub_l0, Int.reducePow, Int.reduceNeg, Int.reduceLE, Int.reduceLT, Int.reduceToNat, Int.reduceEq, Nat.reduceLT, Nat.reduceLeDiff, Nat.reduceAdd, Nat.reduceSub, Int.cast_ofNat_Int, Int.natCast_zero, Int.natCast_one, Int.reduceAdd, Int.reduceSub, Bool.and_self, Bool.and_true, Bool.true_and, Bool.and_false, Bool.false_and, Bool.or_true, Bool.true_or, Bool.or_self, Bool.false_or, reduceIte, reduceCtorEq, String.reduceEq, ne_eq, not_false_eq_true, not_true_eq_false, Option.getD_some, forG_tup, forG_lst, forG_etup, forG_elst, sub_word, mem2, mem3, d_Way_go, a1, lenh_lpv, ne_len, sub_lpv, Ly.word, o1, fg_changed, mr_changed, e1, goI, fin]
  | instead n =>
    obtain ⟨h', e1, e2, e3⟩ := sp_instead hB hx hI (D := D) (by omega) hR v0 v1 (by simpa [mult, noteN] using hn') (by simpa [mult] using hp')
    refine ⟨h', ?_, e2, e3⟩
    simp -implicitDefEqProofs only [Def.start, exs, ex, ev, evs, evi, evo, evIfs, evAnd, evOr, asg, asgs, exh, tr_f, tr_b, tr_l, tr_u, R.bind_ok, R.bind_exc, R.st_ok, R.st_exc, R.calm_ok, R.of_some, Option.map_some, List.map, List.length, List.set, List.getElem?_cons_zero, List.getElem?_cons_succ, List.replicate, List.append_nil, List.cons_append, List.nil_append, List.any, Bool.or_false, Bool.not_true, Bool.not_false, isk_int, isk_bool, isk_str, isk_tuple, isk_list, isInt, isBool, isStr, isTup, asS_tup, asS_lst', asS_fls, lenh_tup, lenh_lst, lenh_fls, bltR_len, bltR_tuple, bltR_list, bltR_int, bltR_intb, bltR_min, bltR_max, opv_add, opv_sub, cmpv_lt, cmpv_le, cmpv_gt, cmpv_ge, cmpv_eqi, cmpv_nei, cmpv_eqs, cmpv_nes, cmpv_is, cmpv_isnot, G_ROUND, G_MOST_LAYERS, G_MOST_AGAIN, G_SMALL, G_MOST_FAILS, G_MOST_VALUES, G_FIGURES, G_MOST_CHOICE, fnEnd, decide_true, decide_false, if_true, itFuel, LW.wipe, opv_mod, opv_fdiv, alive_tup, alive_lst, alive_str, alive_int, alive_bl, alive_non, or_self, or_false, false_or, or_true, true_or, and_self, and_true, true_and, and_false, false_and, sub_t0, sub_t1, sub_t2, sub_l0, Int.reducePow, Int.reduceNeg, Int.reduceLE, Int.reduceLT, Int.reduceToNat, Int.reduceEq, Nat.reduceLT, Nat.reduceLeDiff, Nat.reduceAdd, Nat.reduceSub, Int.cast_ofNat_Int, Int.natCast_zero, Int.natCast_one, Int.reduceAdd, Int.reduceSub, Bool.and_self, Bool.and_true, Bool.true_and, Bool.and_false, Bool.false_and, Bool.or_true, Bool.true_or, Bool.or_self, Bool.false_or, reduceIte, reduceCtorEq, String.reduceEq, ne_eq, not_false_eq_true, not_true_eq_false, Option.getD_some, forG_tup, forG_lst, forG_etup, forG_elst, sub_word, mem2, mem3, d_Way_go, a1, lenh_lpv, ne_len, sub_lpv, Ly.word, o1, fg_changed, mr_changed, e1, goI, fin]
  | keep n =>
    obtain ⟨h', e1, e2, e3⟩ := sp_keep hB hx hI (D := D) (by omega) hR v0 v1 (by simpa [mult, noteN] using hn') (by simpa [mult] using hp')
    refine ⟨h', ?_, e2, e3⟩
    simp -implicitDefEqProofs only [Def.start, exs, ex, ev, evs, evi, evo, evIfs, evAnd, evOr, asg, asgs, exh, tr_f, tr_b, tr_l, tr_u, R.bind_ok, R.bind_exc, R.st_ok, R.st_exc, R.calm_ok, R.of_some, Option.map_some, List.map, List.length, List.set, List.getElem?_cons_zero, List.getElem?_cons_succ, List.replicate, List.append_nil, List.cons_append, List.nil_append, List.any, Bool.or_false, Bool.not_true, Bool.not_false, isk_int, isk_bool, isk_str, isk_tuple, isk_list, isInt, isBool, isStr, isTup, asS_tup, asS_lst', asS_fls, lenh_tup, lenh_lst, lenh_fls, bltR_len, bltR_tuple, bltR_list, bltR_int, bltR_intb, bltR_min, bltR_max, opv_add, opv_sub, cmpv_lt, cmpv_le, cmpv_gt, cmpv_ge, cmpv_eqi, cmpv_nei, cmpv_eqs, cmpv_nes, cmpv_is, cmpv_isnot, G_ROUND, G_MOST_LAYERS, G_MOST_AGAIN, G_SMALL, G_MOST_FAILS, G_MOST_VALUES, G_FIGURES, G_MOST_CHOICE, fnEnd, decide_true, decide_false, if_true, itFuel, LW.wipe, opv_mod, opv_fdiv, alive_tup, alive_lst, alive_str, alive_int, alive_bl, alive_non, or_self, or_false, false_or, or_true, true_or, and_self, and_true, true_and, and_false, false_and, sub_t0, sub_t1, sub_t2, sub_l0, Int.reducePow, Int.reduceNeg, Int.reduceLE, Int.reduceLT, Int.reduceToNat, Int.reduceEq, Nat.reduceLT, Nat.reduceLeDiff, Nat.reduceAdd, Nat.reduceSub, Int.cast_ofNat_Int, Int.natCast_zero, Int.natCast_one, Int.reduceAdd, Int.reduceSub, Bool.and_self, Bool.and_true, Bool.true_and, Bool.and_false, Bool.false_and, Bool.or_true, Bool.true_or, Bool.or_self, Bool.false_or, reduceIte, reduceCtorEq, String.reduceEq, ne_eq, not_false_eq_true, not_true_eq_false, Option.getD_some, forG_tup, forG_lst, forG_etup, forG_elst, sub_word, mem2, mem3, d_Way_go, a1, lenh_lpv, ne_len, sub_lpv, Ly.word, o1, fg_keep, mr_keep, e1, goI, fin]
  | few n =>
    obtain ⟨h', e1, e2, e3⟩ := sp_few hB hx hI (D := D) (by omega) hR v0 v1 (by simpa [mult, noteN] using hn') (by simpa [mult] using hp')
    refine ⟨h', ?_, e2, e3⟩
    simp -implicitDefEqProofs only [Def.start, exs, ex, ev, evs, evi, evo, evIfs, evAnd, evOr, asg, asgs, exh, tr_f, tr_b, tr_l, tr_u, R.bind_ok, R.bind_exc, R.st_ok, R.st_exc, R.calm_ok, R.of_some, Option.map_some, List.map, List.length, List.set, List.getElem?_cons_zero, List.getElem?_cons_succ, List.replicate, List.append_nil, List.cons_append, List.nil_append, List.any, Bool.or_false, Bool.not_true, Bool.not_false, isk_int, isk_bool, isk_str, isk_tuple, isk_list, isInt, isBool, isStr, isTup, asS_tup, asS_lst', asS_fls, lenh_tup, lenh_lst, lenh_fls, bltR_len, bltR_tuple, bltR_list, bltR_int, bltR_intb, bltR_min, bltR_max, opv_add, opv_sub, cmpv_lt, cmpv_le, cmpv_gt, cmpv_ge, cmpv_eqi, cmpv_nei, cmpv_eqs, cmpv_nes, cmpv_is, cmpv_isnot, G_ROUND, G_MOST_LAYERS, G_MOST_AGAIN, G_SMALL, G_MOST_FAILS, G_MOST_VALUES, G_FIGURES, G_MOST_CHOICE, fnEnd, decide_true, decide_false, if_true, itFuel, LW.wipe, opv_mod, opv_fdiv, alive_tup, alive_lst, alive_str, alive_int, alive_bl, alive_non, or_self, or_false, false_or, or_true, true_or, and_self, and_true, true_and, and_false, false_and, sub_t0, sub_t1, sub_t2, sub_l0, Int.reducePow, Int.reduceNeg, Int.reduceLE, Int.reduceLT, Int.reduceToNat, Int.reduceEq, Nat.reduceLT, Nat.reduceLeDiff, Nat.reduceAdd, Nat.reduceSub, Int.cast_ofNat_Int, Int.natCast_zero, Int.natCast_one, Int.reduceAdd, Int.reduceSub, Bool.and_self, Bool.and_true, Bool.true_and, Bool.and_false, Bool.false_and, Bool.or_true, Bool.true_or, Bool.or_self, Bool.false_or, reduceIte, reduceCtorEq, String.reduceEq, ne_eq, not_false_eq_true, not_true_eq_false, Option.getD_some, forG_tup, forG_lst, forG_etup, forG_elst, sub_word, mem2, mem3, d_Way_go, a1, lenh_lpv, ne_len, sub_lpv, Ly.word, o1, fg_few, mr_few, e1, goI, fin]
  | note w =>
    obtain ⟨h', e1, e2, e3⟩ := sp_note hnf hB hx hI (D := D) (by omega) hR v0 v1 (by simpa [mult, noteN] using hn') (by simpa [mult] using hp')
    refine ⟨h', ?_, e2, e3⟩
    simp -implicitDefEqProofs only [Def.start, exs, ex, ev, evs, evi, evo, evIfs, evAnd, evOr, asg, asgs, exh, tr_f, tr_b, tr_l, tr_u, R.bind_ok, R.bind_exc, R.st_ok, R.st_exc, R.calm_ok, R.of_some, Option.map_some, List.map, List.length, List.set, List.getElem?_cons_zero, List.getElem?_cons_succ, List.replicate, List.append_nil, List.cons_append, List.nil_append, List.any, Bool.or_false, Bool.not_true, Bool.not_false, isk_int, isk_bool, isk_str, isk_tuple, isk_list, isInt, isBool, isStr, isTup, asS_tup, asS_lst', asS_fls, lenh_tup, lenh_lst, lenh_fls, bltR_len, bltR_tuple, bltR_list, bltR_int, bltR_intb, bltR_min, bltR_max, opv_add, opv_sub, cmpv_lt, cmpv_le, cmpv_gt, cmpv_ge, cmpv_eqi, cmpv_nei, cmpv_eqs, cmpv_nes, cmpv_is, cmpv_isnot, G_ROUND, G_MOST_LAYERS, G_MOST_AGAIN, G_SMALL, G_MOST_FAILS, G_MOST_VALUES, G_FIGURES, G_MOST_CHOICE, fnEnd, decide_true, decide_false, if_true, itFuel, LW.wipe, opv_mod, opv_fdiv, alive_tup, alive_lst, alive_str, alive_int, alive_bl, alive_non, or_self, or_false, false_or, or_true, true_or, and_self, and_true, true_and, and_false, false_and, sub_t0, sub_t1, sub_t2, sub_l0, Int.reducePow, Int.reduceNeg, Int.reduceLE, Int.reduceLT, Int.reduceToNat, Int.reduceEq, Nat.reduceLT, Nat.reduceLeDiff, Nat.reduceAdd, Nat.reduceSub, Int.cast_ofNat_Int, Int.natCast_zero, Int.natCast_one, Int.reduceAdd, Int.reduceSub, Bool.and_self, Bool.and_true, Bool.true_and, Bool.and_false, Bool.false_and, Bool.or_true, Bool.true_or, Bool.or_self, Bool.false_or, reduceIte, reduceCtorEq, String.reduceEq, ne_eq, not_false_eq_true, not_true_eq_false, Option.getD_some, forG_tup, forG_lst, forG_etup, forG_elst, sub_word, mem2, mem3, d_Way_go, a1, lenh_lpv, ne_len, sub_lpv, Ly.word, o1, fg_note, mr_note, e1, goI, fin]
theorem sp_go (hnf : NF nf bask) (hB : BS (tb L xs) d0 A.c bask FB BR) : ∀ l2 : List Ly, Pgo nf L xs bask BR FB F A d0 (goN A.tr) (go A.tr bask) 1 l2
  | [] => go_of_goI hB (goI_nil hB)
  | _ :: l2 => go_of_goI hB (goI_cons hnf hB (sp_go hnf hB l2))
/-- room for more -/
def room (nf tr : Bool) (ls : List Ly) (g : G β) : Prop := g.ns.length + KB nf tr ls ≤ lineN ∧ (tr = true → g.ps.length + KB nf tr ls ≤ lineN)
theorem sp_ask (hnf : NF nf bask) (hB : BS (tb L xs) d0 A.c bask FB BR) {ls : List Ly} {D : Nat} {ys : List LS} {g : G β} {h : HP} {v : Int} (hD : 3 * ls.length + d0 + 4 ≤ D) (hR : Rep BR FB F A ls h ys g) (v0 : 0 ≤ v) (v1 : v ≤ 9999) (hn : room nf A.tr ls g) :
    ∃ h', fn (tb L xs) D "Way.ask" [.ref A.a, .int v] h = .ok (go A.tr bask ls 0 v (ys, g)).1.pv h' ∧ Rep BR FB F A ls h' (go A.tr bask ls 0 v (ys, g)).2.1 (go A.tr bask ls 0 v (ys, g)).2.2 ∧ Fr F h h' := by
  obtain ⟨D, rfl⟩ : ∃ D', D = D' + 4 := ⟨D - 4, by omega⟩
  obtain ⟨h', e1, e2, e3⟩ := sp_go hnf hB ls (D + 3) [] [] ys g h v (by omega) hR rfl v0 v1 hn.1 (by simpa using hn.2)
  refine ⟨h', ?_, e2, e3⟩
  rw [fn_run T_d_Way_ask rfl]
  have hw : within 0 9999 (.int v) = true := by simp [within, v0, v1]
  have o1 := hR.obj
  simp only [List.length_nil, Int.natCast_zero, Int.cast_ofNat_Int] at e1
  simp -implicitDefEqProofs only [Def.start, exs, ex, ev, evs, evi, evo, evIfs, evAnd, evOr, asg, asgs, exh, tr_f, tr_b, tr_l, tr_u, R.bind_ok, R.bind_exc, R.st_ok, R.st_exc, R.calm_ok, R.of_some, Option.map_some, List.map, List.length, List.set, List.getElem?_cons_zero, List.getElem?_cons_succ, List.replicate, List.append_nil, List.cons_append, List.nil_append, List.any, Bool.or_false, Bool.not_true, Bool.not_false, isk_int, isk_bool, isk_str, isk_tuple, isk_list, isInt, isBool, isStr, isTup, asS_tup, asS_lst', asS_fls, lenh_tup, lenh_lst, lenh_fls, bltR_len, bltR_tuple, bltR_list, bltR_int, bltR_intb, bltR_min, bltR_max, opv_add, opv_sub, cmpv_lt, cmpv_le, cmpv_gt, cmpv_ge, cmpv_eqi, cmpv_nei, cmpv_eqs, cmpv_nes, cmpv_is, cmpv_isnot, G_ROUND, G_MOST_LAYERS, G_MOST_AGAIN, G_SMALL, G_MOST_FAILS, G_MOST_VALUES, G_FIGURES, G_MOST_CHOICE, fnEnd, decide_true, decide_false, if_true, itFuel, LW.wipe, opv_mod, opv_fdiv, alive_tup, alive_lst, alive_str, alive_int, alive_bl, alive_non, or_self, or_false, false_or, or_true, true_or, and_self, and_true, true_and, and_false, false_and, sub_t0, sub_t1, sub_t2, sub_l0, Int.reducePow, Int.reduceNeg, Int.reduceLE, Int.reduceLT, Int.reduceToNat, Int.reduceEq, Nat.reduceLT, Nat.reduceLeDiff, Nat.reduceAdd, Nat.reduceSub, Int.cast_ofNat_Int, Int.natCast_zero, Int.natCast_one, Int.reduceAdd, Int.reduceSub, Bool.and_self, Bool.and_true, Bool.true_and, Bool.and_false, Bool.false_and, Bool.or_true, Bool.true_or, Bool.or_self, Bool.false_or, reduceIte, reduceCtorEq, String.reduceEq, ne_eq, not_false_eq_true, not_true_eq_false, Option.getD_some, forG_tup, forG_lst, forG_etup, forG_elst, sub_word, mem2, mem3, d_Way_ask, sp_look_value (show alive h (.int v) = true from rfl), hw, o1, fg_go, mr_go, e1, fin]
theorem sp_ask_bad {D n : Nat} {h : HP} {v : PV} (ha : alive h v = true) (hv : within 0 9999 v = false) : fn (tb L xs) (D + 4) "Way.ask" [.ref n, v] h = .exc "BadValue" h := by
  rw [fn_run T_d_Way_ask rfl]
  simp -implicitDefEqProofs only [Def.start, exs, ex, ev, evs, evi, evo, evIfs, evAnd, evOr, asg, asgs, exh, tr_f, tr_b, tr_l, tr_u, R.bind_ok, R.bind_exc, R.st_ok, R.st_exc, R.calm_ok, R.of_some, Option.map_some, List.map, List.length, List.set, List.getElem?_cons_zero, List.getElem?_cons_succ, List.replicate, List.append_nil, List.cons_append, List.nil_append, List.any, Bool.or_false, Bool.not_true, Bool.not_false, isk_int, isk_bool, isk_str, isk_tuple, isk_list, isInt, isBool, isStr, isTup, asS_tup, asS_lst', asS_fls, lenh_tup, lenh_lst, lenh_fls, bltR_len, bltR_tuple, bltR_list, bltR_int, bltR_intb, bltR_min, bltR_max, opv_add, opv_sub, cmpv_lt, cmpv_le, cmpv_gt, cmpv_ge, cmpv_eqi, cmpv_nei, cmpv_eqs, cmpv_nes, cmpv_is, cmpv_isnot, G_ROUND, G_MOST_LAYERS, G_MOST_AGAIN, G_SMALL, G_MOST_FAILS, G_MOST_VALUES, G_FIGURES, G_MOST_CHOICE, fnEnd, decide_true, decide_false, if_true, itFuel, LW.wipe, opv_mod, opv_fdiv, alive_tup, alive_lst, alive_str, alive_int, alive_bl, alive_non, or_self, or_false, false_or, or_true, true_or, and_self, and_true, true_and, and_false, false_and, sub_t0, sub_t1, sub_t2, sub_l0, Int.reducePow, Int.reduceNeg, Int.reduceLE, Int.reduceLT, Int.reduceToNat, Int.reduceEq, Nat.reduceLT, Nat.reduceLeDiff, Nat.reduceAdd, Nat.reduceSub, Int.cast_ofNat_Int, Int.natCast_zero, Int.natCast_one, Int.reduceAdd, Int.reduceSub, Bool.and_self, Bool.and_true, Bool.true_and, Bool.and_false, Bool.false_and, Bool.or_true, Bool.true_or, Bool.or_self, Bool.false_or, reduceIte, reduceCtorEq, String.reduceEq, ne_eq, not_false_eq_true, not_true_eq_false, Option.getD_some, forG_tup, forG_lst, forG_etup, forG_elst, sub_word, mem2, mem3, d_Way_ask, sp_look_value ha, hv]
def BA (T : Tb) (d0 c : Nat) {β : Type} (bnum : β → Int) (BR : HP → β → Prop) : Prop :=
  ∀ h b, BR h b → ∃ C fs f, h[c]? = some (.ins C fs) ∧ fgetv fs "asked" = none ∧ T.mr C "asked" = some f ∧ ∀ D, d0 ≤ D → fn T D f [.ref c] h = .ok (.int (bnum b)) h
theorem sp_asked {bnum : β → Int} (hA : BA (tb L xs) d0 A.c bnum BR) {ls : List Ly} {D : Nat} {ys : List LS} {g : G β} {h : HP} (hD : d0 + 1 ≤ D) (hR : Rep BR FB F A ls h ys g) :
    fn (tb L xs) D "Way.asked" [.ref A.a] h = .ok (.int (bnum g.b)) h := by
  obtain ⟨D, rfl⟩ : ∃ D', D = D' + 1 := ⟨D - 1, by omega⟩
  obtain ⟨C, fs, f, c1, c2, c3, c4⟩ := hA h g.b hR.beh
  rw [fn_run T_d_Way_asked rfl]
  have a1 : attrv h (.ref A.a) "core" = some (.ref A.c) := by rw [attrv_ins hR.obj, fg_core]
  simp -implicitDefEqProofs only [Def.start, exs, ex, ev, evs, evi, evo, evIfs, evAnd, evOr, asg, asgs, exh, tr_f, tr_b, tr_l, tr_u, R.bind_ok, R.bind_exc, R.st_ok, R.st_exc, R.calm_ok, R.of_some, Option.map_some, List.map, List.length, List.set, List.getElem?_cons_zero, List.getElem?_cons_succ, List.replicate, List.append_nil, List.cons_append, List.nil_append, List.any, Bool.or_false, Bool.not_true, Bool.not_false, isk_int, isk_bool, isk_str, isk_tuple, isk_list, isInt, isBool, isStr, isTup, asS_tup, asS_lst', asS_fls, lenh_tup, lenh_lst, lenh_fls, bltR_len, bltR_tuple, bltR_list, bltR_int, bltR_intb, bltR_min, bltR_max, opv_add, opv_sub, cmpv_lt, cmpv_le, cmpv_gt, cmpv_ge, cmpv_eqi, cmpv_nei, cmpv_eqs, cmpv_nes, cmpv_is, cmpv_isnot, G_ROUND, G_MOST_LAYERS, G_MOST_AGAIN, G_SMALL, G_MOST_FAILS, G_MOST_VALUES, G_FIGURES, G_MOST_CHOICE, fnEnd, decide_true, decide_false, if_true, itFuel, LW.wipe, opv_mod, opv_fdiv, alive_tup, alive_lst, alive_str, alive_int, alive_bl, alive_non, or_self, or_false, false_or, or_true, true_or, and_self, and_true, true_and, and_false, false_and, sub_t0, sub_t1, sub_t2, sub_l0, Int.reducePow, Int.reduceNeg, Int.reduceLE, Int.reduceLT, Int.reduceToNat, Int.reduceEq, Nat.reduceLT, Nat.reduceLeDiff, Nat.reduceAdd, Nat.reduceSub, Int.cast_ofNat_Int, Int.natCast_zero, Int.natCast_one, Int.reduceAdd, Int.reduceSub, Bool.and_self, Bool.and_true, Bool.true_and, Bool.and_false, Bool.false_and, Bool.or_true, Bool.true_or, Bool.or_self, Bool.false_or, reduceIte, reduceCtorEq, String.reduceEq, ne_eq, not_false_eq_true, not_true_eq_false, Option.getD_some, forG_tup, forG_lst, forG_etup, forG_elst, sub_word, mem2, mem3, d_Way_asked, a1, c1, c2, c3, c4 D (by omega), fin]
theorem sp_notes {ls : List Ly} {D : Nat} {ys : List LS} {g : G β} {h : HP} (hR : Rep BR FB F A ls h ys g) : fn (tb L xs) (D + 1) "Way.notes" [.ref A.a] h = .ok (.ref h.length) (h ++ [.lst (g.ns.map Nt.pv)]) := by
  rw [fn_run T_d_Way_notes rfl]
  have a1 : attrv h (.ref A.a) "rows" = some (.ref A.r) := by rw [attrv_ins hR.obj, fg_rows]
  have b1 : bltR h .mlist [.ref A.r] = .ok (.ref h.length) (h ++ [.lst (g.ns.map Nt.pv)]) := by simp only [bltR, asS, asL, hR.rows]
  simp -implicitDefEqProofs only [Def.start, exs, ex, ev, evs, evi, evo, evIfs, evAnd, evOr, asg, asgs, exh, tr_f, tr_b, tr_l, tr_u, R.bind_ok, R.bind_exc, R.st_ok, R.st_exc, R.calm_ok, R.of_some, Option.map_some, List.map, List.length, List.set, List.getElem?_cons_zero, List.getElem?_cons_succ, List.replicate, List.append_nil, List.cons_append, List.nil_append, List.any, Bool.or_false, Bool.not_true, Bool.not_false, isk_int, isk_bool, isk_str, isk_tuple, isk_list, isInt, isBool, isStr, isTup, asS_tup, asS_lst', asS_fls, lenh_tup, lenh_lst, lenh_fls, bltR_len, bltR_tuple, bltR_list, bltR_int, bltR_intb, bltR_min, bltR_max, opv_add, opv_sub, cmpv_lt, cmpv_le, cmpv_gt, cmpv_ge, cmpv_eqi, cmpv_nei, cmpv_eqs, cmpv_nes, cmpv_is, cmpv_isnot, G_ROUND, G_MOST_LAYERS, G_MOST_AGAIN, G_SMALL, G_MOST_FAILS, G_MOST_VALUES, G_FIGURES, G_MOST_CHOICE, fnEnd, decide_true, decide_false, if_true, itFuel, LW.wipe, opv_mod, opv_fdiv, alive_tup, alive_lst, alive_str, alive_int, alive_bl, alive_non, or_self, or_false, false_or, or_true, true_or, and_self, and_true, true_and, and_false, false_and, sub_t0, sub_t1, sub_t2, sub_l0, Int.reducePow, Int.reduceNeg, Int.reduceLE, Int.reduceLT, Int.reduceToNat, Int.reduceEq, Nat.reduceLT, Nat.reduceLeDiff, Nat.reduceAdd, Nat.reduceSub, Int.cast_ofNat_Int, Int.natCast_zero, Int.natCast_one, Int.reduceAdd, Int.reduceSub, Bool.and_self, Bool.and_true, Bool.true_and, Bool.and_false, Bool.false_and, Bool.or_true, Bool.true_or, Bool.or_self, Bool.false_or, reduceIte, reduceCtorEq, String.reduceEq, ne_eq, not_false_eq_true, not_true_eq_false, Option.getD_some, forG_tup, forG_lst, forG_etup, forG_elst, sub_word, mem2, mem3, d_Way_notes, a1, b1, fin]
theorem frz_last {h : HP} {vs : List PV} : frzv (h ++ [.lst vs]) (.ref h.length) = .ok (.lst vs) (h ++ [.dead]) := by simp only [frzv, get_last, set_last]
/-! ### a new way -/
theorem compM_new {it : ItV} {step : PV → HP → R (Option PV)} {n : Nat} {vs : List PV} (hit : ∀ h i, itAt h it i = some vs[i]?) (hs : ∀ x h, x ∈ vs → step x h = .ok (some (.ref h.length)) (h ++ [.lst []])) : ∀ (k i : Nat) (h : HP) (acc : List PV), i + k = vs.length → h[n]? = some (.lst acc) → acc.length + k ≤ lineN →
    compM it step n (k + 1) i h = .ok () (h.set n (.lst (acc ++ (List.range k).map fun j => .ref (h.length + j))) ++ List.replicate k (.lst []))
  | 0, i, h, acc, e, hn, hl => by
    rw [compM, hit, List.getElem?_eq_none (by omega)]
    simp only [List.range_zero, List.map_nil, List.append_nil, List.replicate_zero]
    congr 1
    obtain ⟨hl', he⟩ := List.getElem?_eq_some_iff.mp hn
    rw [← he, List.set_getElem_self]
  | k + 1, i, h, acc, e, hn, hl => by
    have hi : i < vs.length := by omega
    have hnl : n < h.length := (List.getElem?_eq_some_iff.mp hn).1
    rw [compM, hit, List.getElem?_eq_getElem hi]
    simp only [hs _ h (List.getElem_mem hi), R.bind_ok]
    rw [List.getElem?_append_left hnl, hn]
    simp only
    rw [if_pos (by omega), List.set_append_left _ _ hnl]
    rw [compM_new hit hs k (i + 1) _ (acc ++ [.ref h.length]) (by omega) (by rw [List.getElem?_append_left (by simpa using hnl), get_set hn]) (by simp; omega)]
    congr 1
    rw [List.set_append_left _ _ (by simpa using hnl), List.set_set, List.append_assoc]
    congr 3
    · simp only [List.length_append, List.length_set, List.length_cons, List.length_nil, List.append_assoc, List.cons_append, List.nil_append]
      rw [List.range_succ_eq_map, List.map_cons, List.map_map]
      congr 3
      funext j
      simp only [Function.comp_apply]
      congr 1
      omega
end
end LW
/-! LwZ: new ways, forgetting, cores, runs. -/
namespace LW
section
variable {L : Def} {xs : List String} {β : Type} {bask : Int → β → An × β} {BR : HP → β → Prop} {FB F : Nat → Prop} {A : Ad} {d0 : Nat} {nf : Bool} {ls : List Ly} {h : HP}
def refs (n k : Nat) : List PV := (List.range k).map fun j => .ref (n + j)
theorem refs_get {n k i : Nat} {e : PV} (he : (refs n k)[i]? = some e) : i < k ∧ e = .ref (n + i) := by
  unfold refs at he
  rw [List.getElem?_map] at he
  by_cases hi : i < k
  · rw [List.getElem?_range hi] at he
    exact ⟨hi, by simpa using he.symm⟩
  · rw [List.getElem?_eq_none (by simpa using hi)] at he
    cases he
/-- what a new way is in the heap, at n -/
def newWay (C : String) (n c k : Nat) (ly : PV) : List MO := [.ins C [("layers", ly), ("core", .ref c), ("rows", .ref (n + 1)), ("states", .ref (n + 2))], .lst [], .lst (refs (n + 3) k)] ++ List.replicate k (.lst [])
theorem newWay_len {C : String} {n c k : Nat} {ly : PV} : (newWay C n c k ly).length = k + 3 := by simp [newWay]
theorem seq_tup (h : HP) (vs : List PV) (i : Nat) : itAt h (.seq (.tup vs)) i = some vs[i]? := rfl
theorem comp_states {vs : List PV} (hv : vs.length ≤ 1000) : compM (.seq (.tup vs)) (fun x h => R.ok (some (PV.ref h.length)) (h ++ [MO.lst []])) h.length (vs.length + 1) 0 (h ++ [MO.lst []]) = .ok () (h ++ MO.lst (refs (h.length + 1) vs.length) :: List.replicate vs.length (MO.lst [])) := by
  rw [compM_new (vs := vs) (fun h i => seq_tup h _ i) (fun x h _ => rfl) vs.length 0 (h ++ [MO.lst []]) [] (by omega) get_last (by rw [lineN_eq]; simp; omega), set_last]
  simp [refs]
theorem sp_way_init {D c : Nat} {C : String} (hl : lok ls = true) (h8 : ls.length ≤ 8) {C' : String} {fs : List (String × PV)} (hc : h[c]? = some (.ins C' fs)) (hs : (tb L xs).sub C' "Core" = true ∨ (tb L xs).sub C' "Way" = true) :
    fn (tb L xs) (D + 5) "Way.__init__" [.ref h.length, lpv ls, .ref c] (h ++ [.ins C []]) = .ok .non (h ++ newWay C h.length c ls.length (lpv ls)) := by
  rw [fn_run T_d_Way_init rfl]
  have hcl : c < h.length := (List.getElem?_eq_some_iff.mp hc).1
  have hc' : (h ++ [MO.ins C []])[c]? = some (.ins C' fs) := by rw [List.getElem?_append_left hcl]; exact hc
  have al : alive (h ++ [.ins C []]) (.ref c) = true := by simp only [alive, hc']
  have k1 : isk (tb L xs) (h ++ [.ins C []]) (.ref c) "Core" = (tb L xs).sub C' "Core" := by simp only [isk, hc']
  have k2 : isk (tb L xs) (h ++ [.ins C []]) (.ref c) "Way" = (tb L xs).sub C' "Way" := by simp only [isk, hc']
  have hk : (isk (tb L xs) (h ++ [.ins C []]) (.ref c) "Core" || isk (tb L xs) (h ++ [.ins C []]) (.ref c) "Way") = true := by
    rw [k1, k2]
    rcases hs with e | e <;> simp [e]
  have hk' : (isk (tb L xs) (h ++ [.ins C []]) (.ref c) "Core" || (isk (tb L xs) (h ++ [.ins C []]) (.ref c) "Way" || false)) = true := by rw [Bool.or_false]; exact hk
  have s1 : attrSet (h ++ [.ins C []]) (.ref h.length) "layers" (lpv ls) = some (h ++ [.ins C [("layers", lpv ls)]]) := by simp [attrSet, fput]
  have s2 : attrSet (h ++ [.ins C [("layers", lpv ls)]]) (.ref h.length) "core" (.ref c) = some (h ++ [.ins C [("layers", lpv ls), ("core", .ref c)]]) := by simp [attrSet, fput]
  have s3 : attrSet ((h ++ [.ins C [("layers", lpv ls), ("core", .ref c)]]) ++ [.lst []]) (.ref h.length) "rows" (.ref (h.length + 1)) = some (h ++ [.ins C [("layers", lpv ls), ("core", .ref c), ("rows", .ref (h.length + 1))], .lst []]) := by
    simp [attrSet, fput]
  have l1 : (h ++ [MO.ins C [("layers", lpv ls), ("core", .ref c)]]).length = h.length + 1 := by simp
  have l2 : (h ++ [MO.ins C [("layers", lpv ls), ("core", .ref c), ("rows", .ref (h.length + 1))], .lst []]).length = h.length + 2 := by simp
  have e1 : asS (h ++ [MO.ins C [("layers", lpv ls), ("core", .ref c), ("rows", .ref (h.length + 1))], .lst []]) (lpv ls) = some (ls.map Ly.pv) := rfl
  simp -implicitDefEqProofs only [Def.start, exs, ex, ev, evs, evi, evo, evIfs, evAnd, evOr, asg, asgs, exh, tr_f, tr_b, tr_l, tr_u, R.bind_ok, R.bind_exc, R.st_ok, R.st_exc, R.calm_ok, R.of_some, Option.map_some, List.map, List.length, List.set, List.getElem?_cons_zero, List.getElem?_cons_succ, List.replicate, List.append_nil, List.cons_append, List.nil_append, List.any, Bool.or_false, Bool.not_true, Bool.not_false, isk_int, isk_bool, isk_str, isk_tuple, isk_list, isInt, isBool, isStr, isTup, asS_tup, asS_lst', asS_fls, lenh_tup, lenh_lst, lenh_fls, bltR_len, bltR_tuple, bltR_list, bltR_int, bltR_intb, bltR_min, bltR_max, opv_add, opv_sub, cmpv_lt, cmpv_le, cmpv_gt, cmpv_ge, cmpv_eqi, cmpv_nei, cmpv_eqs, cmpv_nes, cmpv_is, cmpv_isnot, G_ROUND, G_MOST_LAYERS, G_MOST_AGAIN, G_SMALL, G_MOST_FAILS, G_MOST_VALUES, G_FIGURES, G_MOST_CHOICE, fnEnd, decide_true, decide_false, if_true, itFuel, LW.wipe, opv_mod, opv_fdiv, alive_tup, alive_lst, alive_str, alive_int, alive_bl, alive_non, or_self, or_false, false_or, or_true, true_or, and_self, and_true, true_and, and_false, false_and, sub_t0, sub_t1, sub_t2, sub_l0, Int.reducePow, Int.reduceNeg, Int.reduceLE, Int.reduceLT, Int.reduceToNat, Int.reduceEq, Nat.reduceLT, Nat.reduceLeDiff, Nat.reduceAdd, Nat.reduceSub, Int.cast_ofNat_Int, Int.natCast_zero, Int.natCast_one, Int.reduceAdd, Int.reduceSub, Bool.and_self, Bool.and_true, Bool.true_and, Bool.and_false, Bool.false_and, Bool.or_true, Bool.true_or, Bool.or_self, Bool.false_or, reduceIte, reduceCtorEq, String.reduceEq, ne_eq, not_false_eq_true, not_true_eq_false, Option.getD_some, forG_tup, forG_lst, forG_etup, forG_elst, sub_word, mem2, mem3, d_Way_init, sp_checked_ok hl h8, al, hk, hk', s1, s2, s3, l1, l2, e1]
  have cm := comp_states (h := (h ++ [MO.ins C [("layers", lpv ls), ("core", .ref c), ("rows", .ref (h.length + 1))], .lst []])) (vs := ls.map Ly.pv) (by simp; omega)
  have s4 : attrSet ((h ++ [MO.ins C [("layers", lpv ls), ("core", .ref c), ("rows", .ref (h.length + 1))], .lst []]) ++ MO.lst (refs (h.length + 3) ls.length) :: List.replicate ls.length (MO.lst [])) (PV.ref h.length) "states" (PV.ref (h.length + 2)) = some (h ++ newWay C h.length c ls.length (lpv ls)) := by
    simp only [attrSet]
    rw [List.append_assoc, List.getElem?_append_right (Nat.le_refl _), Nat.sub_self]
    simp only [List.cons_append, List.getElem?_cons_zero, List.length_cons, List.length_nil]
    rw [if_pos (by omega), List.set_append_right _ _ (Nat.le_refl _), Nat.sub_self]
    simp [fput, newWay]
  rw [l2, List.length_map] at cm
  simp only [lpv] at cm s4 l2 ⊢
  simp -implicitDefEqProofs only [Def.start, exs, ex, ev, evs, evi, evo, evIfs, evAnd, evOr, asg, asgs, exh, tr_f, tr_b, tr_l, tr_u, R.bind_ok, R.bind_exc, R.st_ok, R.st_exc, R.calm_ok, R.of_some, Option.map_some, List.map, List.length, List.set, List.getElem?_cons_zero, List.getElem?_cons_succ, List.replicate, List.append_nil, List.cons_append, List.nil_append, List.any, Bool.or_false, Bool.not_true, Bool.not_false, isk_int, isk_bool, isk_str, isk_tuple, isk_list, isInt, isBool, isStr, isTup, asS_tup, asS_lst', asS_fls, lenh_tup, lenh_lst, lenh_fls, bltR_len, bltR_tuple, bltR_list, bltR_int, bltR_intb, bltR_min, bltR_max, opv_add, opv_sub, cmpv_lt, cmpv_le, cmpv_gt, cmpv_ge, cmpv_eqi, cmpv_nei, cmpv_eqs, cmpv_nes, cmpv_is, cmpv_isnot, G_ROUND, G_MOST_LAYERS, G_MOST_AGAIN, G_SMALL, G_MOST_FAILS, G_MOST_VALUES, G_FIGURES, G_MOST_CHOICE, fnEnd, decide_true, decide_false, if_true, itFuel, LW.wipe, opv_mod, opv_fdiv, alive_tup, alive_lst, alive_str, alive_int, alive_bl, alive_non, or_self, or_false, false_or, or_true, true_or, and_self, and_true, true_and, and_false, false_and, sub_t0, sub_t1, sub_t2, sub_l0, Int.reducePow, Int.reduceNeg, Int.reduceLE, Int.reduceLT, Int.reduceToNat, Int.reduceEq, Nat.reduceLT, Nat.reduceLeDiff, Nat.reduceAdd, Nat.reduceSub, Int.cast_ofNat_Int, Int.natCast_zero, Int.natCast_one, Int.reduceAdd, Int.reduceSub, Bool.and_self, Bool.and_true, Bool.true_and, Bool.and_false, Bool.false_and, Bool.or_true, Bool.true_or, Bool.or_self, Bool.false_or, reduceIte, reduceCtorEq, String.reduceEq, ne_eq, not_false_eq_true, not_true_eq_false, Option.getD_some, forG_tup, forG_lst, forG_etup, forG_elst, sub_word, mem2, mem3]
  rw [l2, List.length_map, cm]
  simp -implicitDefEqProofs only [Def.start, exs, ex, ev, evs, evi, evo, evIfs, evAnd, evOr, asg, asgs, exh, tr_f, tr_b, tr_l, tr_u, R.bind_ok, R.bind_exc, R.st_ok, R.st_exc, R.calm_ok, R.of_some, Option.map_some, List.map, List.length, List.set, List.getElem?_cons_zero, List.getElem?_cons_succ, List.replicate, List.append_nil, List.cons_append, List.nil_append, List.any, Bool.or_false, Bool.not_true, Bool.not_false, isk_int, isk_bool, isk_str, isk_tuple, isk_list, isInt, isBool, isStr, isTup, asS_tup, asS_lst', asS_fls, lenh_tup, lenh_lst, lenh_fls, bltR_len, bltR_tuple, bltR_list, bltR_int, bltR_intb, bltR_min, bltR_max, opv_add, opv_sub, cmpv_lt, cmpv_le, cmpv_gt, cmpv_ge, cmpv_eqi, cmpv_nei, cmpv_eqs, cmpv_nes, cmpv_is, cmpv_isnot, G_ROUND, G_MOST_LAYERS, G_MOST_AGAIN, G_SMALL, G_MOST_FAILS, G_MOST_VALUES, G_FIGURES, G_MOST_CHOICE, fnEnd, decide_true, decide_false, if_true, itFuel, LW.wipe, opv_mod, opv_fdiv, alive_tup, alive_lst, alive_str, alive_int, alive_bl, alive_non, or_self, or_false, false_or, or_true, true_or, and_self, and_true, true_and, and_false, false_and, sub_t0, sub_t1, sub_t2, sub_l0, Int.reducePow, Int.reduceNeg, Int.reduceLE, Int.reduceLT, Int.reduceToNat, Int.reduceEq, Nat.reduceLT, Nat.reduceLeDiff, Nat.reduceAdd, Nat.reduceSub, Int.cast_ofNat_Int, Int.natCast_zero, Int.natCast_one, Int.reduceAdd, Int.reduceSub, Bool.and_self, Bool.and_true, Bool.true_and, Bool.and_false, Bool.false_and, Bool.or_true, Bool.true_or, Bool.or_self, Bool.false_or, reduceIte, reduceCtorEq, String.reduceEq, ne_eq, not_false_eq_true, not_true_eq_false, Option.getD_some, forG_tup, forG_lst, forG_etup, forG_elst, sub_word, mem2, mem3, s4, fin]
theorem newWay_ent {C : String} {c k i : Nat} {ly : PV} (hi : i < k) (t : HP) : (h ++ newWay C h.length c k ly ++ t)[h.length + 3 + i]? = some (.lst []) := by
  rw [List.getElem?_append_left (by rw [List.length_append, newWay_len]; omega), List.getElem?_append_right (by omega)]
  simp only [newWay]
  rw [show h.length + 3 + i - h.length = i + 1 + 1 + 1 by omega]
  simp only [List.cons_append, List.getElem?_cons_succ, List.nil_append]
  exact List.getElem?_replicate_of_lt hi
theorem newWay_at {C : String} {c k i : Nat} {ly : PV} {o : MO} (hi : i < 3) (t : HP) (ho : (newWay C h.length c k ly)[i]? = some o) : (h ++ newWay C h.length c k ly ++ t)[h.length + i]? = some o := by
  rw [List.getElem?_append_left (by rw [List.length_append, newWay_len]; omega), List.getElem?_append_right (by omega), show h.length + i - h.length = i by omega]
  exact ho
theorem newRep {b : β} {c : Nat} (hb : BR (h ++ newWay "Way" h.length c ls.length (lpv ls)) b) (hFB : ∀ n, FB n → n < h.length) (hl : lok ls = true) :
    Rep BR FB (fun n => FB n ∨ (h.length ≤ n ∧ n < h.length + 3 + ls.length)) { a := h.length, r := h.length + 1, st := h.length + 2, c := c, p := 0, tr := false } ls (h ++ newWay "Way" h.length c ls.length (lpv ls)) (List.replicate ls.length {}) { b := b, ns := [], ps := [] } := by
  have e0 : h ++ newWay "Way" h.length c ls.length (lpv ls) = h ++ newWay "Way" h.length c ls.length (lpv ls) ++ [] := by simp
  have nf' : ∀ n, h.length ≤ n → ¬ FB n := fun n hn q => by have := hFB n q; omega
  exact { obj := by rw [e0]; exact newWay_at (i := 0) (by omega) [] rfl
          rows := by rw [e0]; exact newWay_at (i := 1) (by omega) [] rfl
          plc := fun t => by cases t
          len := by simp
          ex := ⟨refs (h.length + 3) ls.length, by rw [e0]; exact newWay_at (i := 2) (by omega) [] rfl, by simp [refs], fun i l x e h1 h2 h3 => by
            obtain ⟨hi, rfl⟩ := refs_get h3
            rw [List.getElem?_replicate_of_lt hi] at h2
            cases h2
            have hg := newWay_ent (h := h) (C := "Way") (c := c) (ly := lpv ls) hi []
            rw [← e0] at hg
            cases l with
            | keep m => exact ⟨by simp only [asD, hg]; rfl, by simp⟩
            | few m => exact ⟨_, [], rfl, hg, rfl, by simp⟩
            | _ => trivial, fun i k hk => by
            obtain ⟨hi, e⟩ := refs_get hk
            cases e
            exact ⟨by simp only; omega, by simp only; omega, fun t => (by cases t), .inr ⟨by omega, by omega⟩, nf' _ (by omega)⟩, fun i j k hi hj => by
            obtain ⟨_, e1⟩ := refs_get hi
            obtain ⟨_, e2⟩ := refs_get hj
            rw [e1] at e2
            have := PV.ref.inj e2
            omega⟩
          beh := hb
          ne1 := by simp only; omega
          ne2 := fun t => by cases t
          fb := fun n hn => .inl hn
          own := ⟨.inr (by simp only; omega), nf' _ (by simp only; omega), .inr (by simp only; omega), nf' _ (by simp only; omega), .inr (by simp only; omega), nf' _ (by simp only; omega)⟩
          ok := hl }
theorem fput_rows {n : Nat} : fput (wfs A ls) "rows" (.ref n) = wfs { A with r := n } ls := by simp [wfs, fput]
theorem fput_states {n : Nat} : fput (wfs A ls) "states" (.ref n) = wfs { A with st := n } ls := by simp [wfs, fput]
theorem fput_places {n : Nat} (ht : A.tr = true) : fput (wfs A ls) "places" (.ref n) = wfs { A with p := n } ls := by simp [wfs, fput, ht]
theorem wfs_len : (wfs A ls).length < 900 := by unfold wfs; cases A.tr <;> simp
/-- a way forgets -/
theorem sp_forget (hB : ∀ h h' b, BR h b → (∀ n, FB n → h'[n]? = h[n]?) → BR h' b) {D : Nat} {ys : List LS} {g : G β} (h8 : ls.length ≤ 8) (hR : Rep BR FB F A ls h ys g) (hF : ∀ n, F n → n < h.length) :
    ∃ h', fn (tb L xs) (D + 1) "Way.forget" [.ref A.a] h = .ok .non h' ∧ Rep BR FB (fun n => F n ∨ (h.length ≤ n ∧ n < h'.length)) { A with r := h.length, st := h.length + 1 } ls h' (List.replicate ls.length {}) { g with ns := [] } ∧ (∀ n, n < h.length → n ≠ A.a → h'[n]? = h[n]?) ∧ h'.length = h.length + 2 + ls.length := by
  have ha : A.a < h.length := hF _ hR.own.1
  let H1 : HP := h.set A.a (.ins (cls A.tr) (wfs { A with r := h.length } ls)) ++ [.lst []]
  let H2 : HP := h.set A.a (.ins (cls A.tr) (wfs { A with r := h.length, st := h.length + 1 } ls)) ++ [.lst []] ++ MO.lst (refs (h.length + 2) ls.length) :: List.replicate ls.length (MO.lst [])
  have s1 : attrSet (h ++ [.lst []]) (.ref A.a) "rows" (.ref h.length) = some H1 := by
    have : (h ++ [MO.lst []])[A.a]? = some (.ins (cls A.tr) (wfs A ls)) := by rw [List.getElem?_append_left ha]; exact hR.obj
    simp only [attrSet, this, wfs_len, if_true, fput_rows, H1]
    rw [List.set_append_left _ _ ha]
  have g1 : H1[A.a]? = some (.ins (cls A.tr) (wfs { A with r := h.length } ls)) := by
    simp only [H1]
    rw [List.getElem?_append_left (by simpa using ha), get_set hR.obj]
  have a1 : attrv H1 (.ref A.a) "layers" = some (lpv ls) := by rw [attrv_ins g1, fg_layers]
  have l1 : H1.length = h.length + 1 := by simp [H1]
  have cm := comp_states (h := H1) (vs := ls.map Ly.pv) (by simp; omega)
  rw [l1, List.length_map] at cm
  have s2 : attrSet (H1 ++ MO.lst (refs (h.length + 1 + 1) ls.length) :: List.replicate ls.length (MO.lst [])) (.ref A.a) "states" (.ref (h.length + 1)) = some H2 := by
    have : (H1 ++ MO.lst (refs (h.length + 1 + 1) ls.length) :: List.replicate ls.length (MO.lst []))[A.a]? = some (.ins (cls A.tr) (wfs { A with r := h.length } ls)) := by rw [List.getElem?_append_left (by omega)]; exact g1
    simp only [attrSet, this, wfs_len, if_true, fput_states, H2]
    rw [List.set_append_left _ _ (by omega)]
    simp only [H1]
    rw [List.set_append_left _ _ (by simpa using ha), List.set_set]
  have l2 : H2.length = h.length + 2 + ls.length := by simp [H2]; omega
  have old : ∀ n, n < h.length → n ≠ A.a → H2[n]? = h[n]? := fun n hn hna => by
    simp only [H2]
    rw [List.append_assoc, List.getElem?_append_left (by simpa using hn), get_set_ne hna.symm]
  have gr : H2[h.length]? = some (.lst []) := by
    simp only [H2]
    rw [List.append_assoc, List.getElem?_append_right (by simp)]
    simp
  have gs : H2[h.length + 1]? = some (.lst (refs (h.length + 2) ls.length)) := by
    simp only [H2]
    rw [List.getElem?_append_right (by simp)]
    simp
  have ge : ∀ i, i < ls.length → H2[h.length + 2 + i]? = some (.lst []) := fun i hi => by
    simp only [H2]
    rw [List.getElem?_append_right (by simp; omega)]
    simp only [List.length_append, List.length_set, List.length_cons, List.length_nil]
    rw [show h.length + 2 + i - (h.length + (0 + 1)) = i + 1 by omega, List.getElem?_cons_succ]
    exact List.getElem?_replicate_of_lt hi
  have nf' : ∀ n, h.length ≤ n → ¬ FB n := fun n hn q => by have := hF n (hR.fb n q); omega
  refine ⟨H2, ?_, ?_, old, l2⟩
  · rw [fn_run T_d_Way_forget rfl]
    simp -implicitDefEqProofs only [Def.start, exs, ex, ev, evs, evi, evo, evIfs, evAnd, evOr, asg, asgs, exh, tr_f, tr_b, tr_l, tr_u, R.bind_ok, R.bind_exc, R.st_ok, R.st_exc, R.calm_ok, R.of_some, Option.map_some, List.map, List.length, List.set, List.getElem?_cons_zero, List.getElem?_cons_succ, List.replicate, List.append_nil, List.cons_append, List.nil_append, List.any, Bool.or_false, Bool.not_true, Bool.not_false, isk_int, isk_bool, isk_str, isk_tuple, isk_list, isInt, isBool, isStr, isTup, asS_tup, asS_lst', asS_fls, lenh_tup, lenh_lst, lenh_fls, bltR_len, bltR_tuple, bltR_list, bltR_int, bltR_intb, bltR_min, bltR_max, opv_add, opv_sub, cmpv_lt, cmpv_le, cmpv_gt, cmpv_ge, cmpv_eqi, cmpv_nei, cmpv_eqs, cmpv_nes, cmpv_is, cmpv_isnot, G_ROUND, G_MOST_LAYERS, G_MOST_AGAIN, G_SMALL, G_MOST_FAILS, G_MOST_VALUES, G_FIGURES, G_MOST_CHOICE, fnEnd, decide_true, decide_false, if_true, itFuel, LW.wipe, opv_mod, opv_fdiv, alive_tup, alive_lst, alive_str, alive_int, alive_bl, alive_non, or_self, or_false, false_or, or_true, true_or, and_self, and_true, true_and, and_false, false_and, sub_t0, sub_t1, sub_t2, sub_l0, Int.reducePow, Int.reduceNeg, Int.reduceLE, Int.reduceLT, Int.reduceToNat, Int.reduceEq, Nat.reduceLT, Nat.reduceLeDiff, Nat.reduceAdd, Nat.reduceSub, Int.cast_ofNat_Int, Int.natCast_zero, Int.natCast_one, Int.reduceAdd, Int.reduceSub, Bool.and_self, Bool.and_true, Bool.true_and, Bool.and_false, Bool.false_and, Bool.or_true, Bool.true_or, Bool.or_self, Bool.false_or, reduceIte, reduceCtorEq, String.reduceEq, ne_eq, not_false_eq_true, not_true_eq_false, Option.getD_some, forG_tup, forG_lst, forG_etup, forG_elst, sub_word, mem2, mem3, d_Way_forget, s1, a1]
    simp only [lpv]
    simp -implicitDefEqProofs only [Def.start, exs, ex, ev, evs, evi, evo, evIfs, evAnd, evOr, asg, asgs, exh, tr_f, tr_b, tr_l, tr_u, R.bind_ok, R.bind_exc, R.st_ok, R.st_exc, R.calm_ok, R.of_some, Option.map_some, List.map, List.length, List.set, List.getElem?_cons_zero, List.getElem?_cons_succ, List.replicate, List.append_nil, List.cons_append, List.nil_append, List.any, Bool.or_false, Bool.not_true, Bool.not_false, isk_int, isk_bool, isk_str, isk_tuple, isk_list, isInt, isBool, isStr, isTup, asS_tup, asS_lst', asS_fls, lenh_tup, lenh_lst, lenh_fls, bltR_len, bltR_tuple, bltR_list, bltR_int, bltR_intb, bltR_min, bltR_max, opv_add, opv_sub, cmpv_lt, cmpv_le, cmpv_gt, cmpv_ge, cmpv_eqi, cmpv_nei, cmpv_eqs, cmpv_nes, cmpv_is, cmpv_isnot, G_ROUND, G_MOST_LAYERS, G_MOST_AGAIN, G_SMALL, G_MOST_FAILS, G_MOST_VALUES, G_FIGURES, G_MOST_CHOICE, fnEnd, decide_true, decide_false, if_true, itFuel, LW.wipe, opv_mod, opv_fdiv, alive_tup, alive_lst, alive_str, alive_int, alive_bl, alive_non, or_self, or_false, false_or, or_true, true_or, and_self, and_true, true_and, and_false, false_and, sub_t0, sub_t1, sub_t2, sub_l0, Int.reducePow, Int.reduceNeg, Int.reduceLE, Int.reduceLT, Int.reduceToNat, Int.reduceEq, Nat.reduceLT, Nat.reduceLeDiff, Nat.reduceAdd, Nat.reduceSub, Int.cast_ofNat_Int, Int.natCast_zero, Int.natCast_one, Int.reduceAdd, Int.reduceSub, Bool.and_self, Bool.and_true, Bool.true_and, Bool.and_false, Bool.false_and, Bool.or_true, Bool.true_or, Bool.or_self, Bool.false_or, reduceIte, reduceCtorEq, String.reduceEq, ne_eq, not_false_eq_true, not_true_eq_false, Option.getD_some, forG_tup, forG_lst, forG_etup, forG_elst, sub_word, mem2, mem3]
    rw [l1, List.length_map, cm]
    simp -implicitDefEqProofs only [Def.start, exs, ex, ev, evs, evi, evo, evIfs, evAnd, evOr, asg, asgs, exh, tr_f, tr_b, tr_l, tr_u, R.bind_ok, R.bind_exc, R.st_ok, R.st_exc, R.calm_ok, R.of_some, Option.map_some, List.map, List.length, List.set, List.getElem?_cons_zero, List.getElem?_cons_succ, List.replicate, List.append_nil, List.cons_append, List.nil_append, List.any, Bool.or_false, Bool.not_true, Bool.not_false, isk_int, isk_bool, isk_str, isk_tuple, isk_list, isInt, isBool, isStr, isTup, asS_tup, asS_lst', asS_fls, lenh_tup, lenh_lst, lenh_fls, bltR_len, bltR_tuple, bltR_list, bltR_int, bltR_intb, bltR_min, bltR_max, opv_add, opv_sub, cmpv_lt, cmpv_le, cmpv_gt, cmpv_ge, cmpv_eqi, cmpv_nei, cmpv_eqs, cmpv_nes, cmpv_is, cmpv_isnot, G_ROUND, G_MOST_LAYERS, G_MOST_AGAIN, G_SMALL, G_MOST_FAILS, G_MOST_VALUES, G_FIGURES, G_MOST_CHOICE, fnEnd, decide_true, decide_false, if_true, itFuel, LW.wipe, opv_mod, opv_fdiv, alive_tup, alive_lst, alive_str, alive_int, alive_bl, alive_non, or_self, or_false, false_or, or_true, true_or, and_self, and_true, true_and, and_false, false_and, sub_t0, sub_t1, sub_t2, sub_l0, Int.reducePow, Int.reduceNeg, Int.reduceLE, Int.reduceLT, Int.reduceToNat, Int.reduceEq, Nat.reduceLT, Nat.reduceLeDiff, Nat.reduceAdd, Nat.reduceSub, Int.cast_ofNat_Int, Int.natCast_zero, Int.natCast_one, Int.reduceAdd, Int.reduceSub, Bool.and_self, Bool.and_true, Bool.true_and, Bool.and_false, Bool.false_and, Bool.or_true, Bool.true_or, Bool.or_self, Bool.false_or, reduceIte, reduceCtorEq, String.reduceEq, ne_eq, not_false_eq_true, not_true_eq_false, Option.getD_some, forG_tup, forG_lst, forG_etup, forG_elst, sub_word, mem2, mem3, s2, fin]
  · exact { obj := by
              simp only [H2]
              rw [List.append_assoc, List.getElem?_append_left (by simpa using ha), get_set hR.obj]
            rows := gr
            plc := fun t => by
              have := hR.plc t
              have hn := ins_ne hR.obj this
              show H2[A.p]? = _
              rw [old _ (hF _ (hR.ne2 t).2.2.1) hn.symm]
              exact this
            len := by simp
            ex := ⟨_, gs, by simp [refs], fun i l x e h1 h2 h3 => by
              obtain ⟨hi, rfl⟩ := refs_get h3
              rw [List.getElem?_replicate_of_lt hi] at h2
              cases h2
              cases l with
              | keep m => exact ⟨by simp only [asD, ge i hi]; rfl, by simp⟩
              | few m => exact ⟨_, [], rfl, ge i hi, rfl, by simp⟩
              | _ => trivial, fun i k hk => by
              obtain ⟨hi, e⟩ := refs_get hk
              cases e
              exact ⟨by simp only; omega, by simp only; omega, fun t => (by have := hF _ (hR.ne2 t).2.2.1; simp only; omega), .inr ⟨by omega, by omega⟩, nf' _ (by omega)⟩, fun i j k hi hj => by
              obtain ⟨_, e1⟩ := refs_get hi
              obtain ⟨_, e2⟩ := refs_get hj
              rw [e1] at e2
              have := PV.ref.inj e2
              omega⟩
            beh := hB _ _ _ hR.beh fun n hn => old n (hF n (hR.fb n hn)) fun e => hR.own.2.1 (e ▸ hn)
            ne1 := by simp only; omega
            ne2 := fun t => by
              obtain ⟨q1, q2, q3, q4⟩ := hR.ne2 t
              have := hF _ q3
              exact ⟨by simp only; omega, by simp only; omega, .inl q3, q4⟩
            fb := fun n hn => .inl (hR.fb n hn)
            own := ⟨.inl hR.own.1, hR.own.2.1, .inr (by simp only; omega), nf' _ (by simp only; omega), .inr (by simp only; omega), nf' _ (by simp only; omega)⟩
            ok := hR.ok }
/-! ### the core behind -/
def cask (s : Int) (bs : List Int) (v m : Int) : An × Int := (coreAns s bs m v, m + 1)
def CR (c : Nat) (s : Int) (bs : List Int) (h : HP) (m : Int) : Prop := h[c]? = some (coreO s bs m)
theorem core_BS {c : Nat} {s : Int} {bs : List Int} : BS (tb L xs) 4 c (cask s bs) (fun n => n = c) (CR c s bs) where
  obj := fun h b hb => ⟨_, _, "Core.ask", hb, by simp [fgetv], by simp, fun D v hD v0 v1 => by
    obtain ⟨D, rfl⟩ : ∃ D', D = D' + 4 := ⟨D - 4, by omega⟩
    exact ⟨_, sp_core_ask hb v0 v1, get_set hb, Fr.set rfl⟩⟩
  frame := fun h h' b hb he => by
    unfold CR at *
    rw [he c rfl]
    exact hb
theorem core_BA {c : Nat} {s : Int} {bs : List Int} : BA (tb L xs) 1 c (fun m => m) (CR c s bs) := fun h b hb => ⟨_, _, "Core.asked", hb, by simp [fgetv], by simp, fun D hD => by
  obtain ⟨D, rfl⟩ : ∃ D', D = D' + 1 := ⟨D - 1, by omega⟩
  exact sp_core_asked hb⟩
end
end LW
/-! Lx1: runs. -/
namespace LW
section
variable {α : Type}
def asks (f : Int → α → An × α) : List Int → α → List An × α
  | [], s => ([], s)
  | v :: vs, s => ((f v s).1 :: (asks f vs (f v s).2).1, (asks f vs (f v s).2).2)
theorem asks_snoc {f : Int → α → An × α} {v : Int} : ∀ (vs : List Int) (s : α), asks f (vs ++ [v]) s = ((asks f vs s).1 ++ [(f v (asks f vs s).2).1], (f v (asks f vs s).2).2)
  | [], s => rfl
  | w :: vs, s => by simp only [List.cons_append, asks, asks_snoc vs]
theorem asks_append {f : Int → α → An × α} : ∀ (us vs : List Int) (s : α), asks f (us ++ vs) s = ((asks f us s).1 ++ (asks f vs (asks f us s).2).1, (asks f vs (asks f us s).2).2)
  | [], vs, s => rfl
  | w :: us, vs, s => by simp only [List.cons_append, asks, asks_append us]
theorem asks_take {f : Int → α → An × α} {vs : List Int} {i : Nat} {v : Int} (hv : vs[i]? = some v) (s : α) : asks f (vs.take (i + 1)) s = ((asks f (vs.take i) s).1 ++ [(f v (asks f (vs.take i) s).2).1], (f v (asks f (vs.take i) s).2).2) := by
  rw [List.take_succ, hv]
  exact asks_snoc _ _
theorem asks_len {f : Int → α → An × α} : ∀ (vs : List Int) (s : α), (asks f vs s).1.length = vs.length
  | [], s => rfl
  | v :: vs, s => by simp [asks, asks_len vs]
end
def okC (s : Int) (bs : List Int) : Prop := 0 ≤ s ∧ s ≤ 9999 ∧ bs.length ≤ 200 ∧ ∀ x ∈ bs, 0 ≤ x ∧ x ≤ 99999
theorem plain_ints (bs : List Int) : plain (.tup (bs.map .int)) = true := by
  simp only [plain, List.all_eq_true]
  intro x hx
  obtain ⟨i, _, rfl⟩ := List.mem_map.mp hx
  rfl
theorem okCore_of {s : Int} {bs : List Int} (hc : okC s bs) : okCore (.int s) (.tup (bs.map .int)) = true := by
  simp only [okCore, within, okBroken, Bool.and_eq_true, decide_eq_true_eq, List.length_map, List.all_eq_true]
  refine ⟨⟨hc.1, hc.2.1⟩, hc.2.2.1, fun x hx => ?_⟩
  obtain ⟨i, hi, rfl⟩ := List.mem_map.mp hx
  have := hc.2.2.2 i hi
  simp only [within, Bool.and_eq_true, decide_eq_true_eq]
  omega
/-- the machine of a way around a core -/
abbrev St := Ps Int
def mach (tr : Bool) (s : Int) (bs : List Int) (ls : List Ly) (v : Int) (p : St) : An × St := go tr (cask s bs) ls 0 v p
def fresh (ls : List Ly) (m : Int) : St := (List.replicate ls.length {}, { b := m, ns := [], ps := [] })
def runM (ls : List Ly) (s : Int) (bs vals : List Int) : List An × St := asks (mach false s bs ls) vals (fresh ls 0)
def ansPV (as : List An) : PV := .lst (as.map An.pv)
def ntsPV (ns : List Nt) : PV := .lst (ns.map Nt.pv)
def runPV (r : List An × St) : PV := .tup [ansPV r.1, ntsPV r.2.2.ns, .int r.2.2.b]
theorem asks_le {nf tr : Bool} {β : Type} {ls : List Ly} {bask : Int → β → An × β} (hnf : NF nf bask) {k : Nat} : ∀ (vals : List Int) (p : Ps β), Le (vals.length * KB nf tr ls) p.2 (asks (go tr bask ls k) vals p).2.2
  | [], p => Le.refl _ _
  | v :: vals, p => by
    simp only [asks, List.length_cons]
    refine ((go_le hnf ls k v p).trans (asks_le hnf vals _)).mono ?_
    rw [Nat.succ_mul]
    omega
theorem NF_false {β : Type} (bask : Int → β → An × β) : NF false bask := fun h => by cases h
theorem NF_core (s : Int) : NF true (cask s []) := fun _ v b => by simp [cask, coreAns, An.kind]
section
variable {L : Def} {xs : List String} {h : HP}
theorem sp_core_new {D : Nat} {s : Int} {bs : List Int} (hc : okC s bs) : fn (tb L xs) (D + 3) "Core.__init__" [.ref h.length, .int s, .tup (bs.map .int)] (h ++ [.ins "Core" []]) = .ok .non (h ++ [coreO s bs 0]) := by
  have := sp_core_init (L := L) (xs := xs) (d := D) (h := h) (st := .int s) (br := .tup (bs.map .int)) (fun vs e => by cases e; rw [List.length_map]; have := hc.2.2.1; omega) rfl (plain_ints bs)
  rw [okCore_of hc] at this
  exact this
/-- a comprehension that does something -/
theorem compG_inv {it : ItV} {step : PV → HP → R (Option PV)} {vs : List PV} (inv : Nat → List PV → HP → Prop) (hit : ∀ i acc h, inv i acc h → itAt h it i = some vs[i]?)
    (hs : ∀ i x acc h, vs[i]? = some x → inv i acc h → ∃ y h', step x h = .ok (some y) h' ∧ inv (i + 1) (acc ++ [y]) h') (hn : vs.length ≤ lineN) :
    ∀ k i acc h, i + k = vs.length → acc.length = i → inv i acc h → ∃ acc' h', compG it step (k + 1) i acc h = .ok acc' h' ∧ inv vs.length acc' h'
  | 0, i, acc, h, e, hl, p => by
    refine ⟨acc, h, ?_, by rw [← e]; exact p⟩
    rw [compG, hit i acc h p, List.getElem?_eq_none (by omega)]
  | k + 1, i, acc, h, e, hl, p => by
    have hi : i < vs.length := by omega
    obtain ⟨y, h1, e1, p1⟩ := hs i vs[i] acc h (List.getElem?_eq_getElem hi) p
    obtain ⟨acc', h', e2, p2⟩ := compG_inv inv hit hs hn k (i + 1) (acc ++ [y]) h1 (by omega) (by simp [hl]) p1
    refine ⟨acc', h', ?_, p2⟩
    rw [compG, hit i acc h p, List.getElem?_eq_getElem hi]
    simp only [e1, R.bind_ok]
    rw [if_pos (by omega)]
    exact e2
theorem comp_inv {v : PV} {vs : List PV} {f : Nat} {step : PV → HP → R (Option PV)} {h : HP} {z : R (List PV)} (hz : compG (.seq v) step f 0 [] h = z) (e : still v = some vs) (inv : Nat → List PV → HP → Prop) (p : inv 0 [] h)
    (hs : ∀ i x acc h, vs[i]? = some x → inv i acc h → ∃ y h', step x h = .ok (some y) h' ∧ inv (i + 1) (acc ++ [y]) h') (hn : vs.length ≤ lineN) (hf : f = vs.length + 1 := by rfl) : ∃ acc' h', z = .ok acc' h' ∧ inv vs.length acc' h' := by
  subst hz hf
  exact compG_inv inv (fun i acc h _ => still_seq e h i) hs hn vs.length 0 [] h (by omega) rfl p
theorem take_of_eq {h h' : HP} (hl : h.length ≤ h'.length) (he : ∀ n, n < h.length → h'[n]? = h[n]?) : h'.take h.length = h := by
  apply List.ext_getElem?
  intro i
  by_cases hi : i < h.length
  · rw [List.getElem?_take_of_lt hi, he i hi]
  · rw [List.getElem?_eq_none (by rw [List.length_take]; omega), List.getElem?_eq_none (by omega)]
theorem below_an (n : Nat) (a : An) : below n a.pv = true := by cases a <;> rfl
theorem below_nt (n : Nat) (a : Nt) : below n a.pv = true := by
  cases a with
  | inn w v => rfl
  | out w a => simp only [Nt.pv, below, belows, below_an, Bool.and_self]
theorem below_run (n : Nat) (r : List An × St) : below n (runPV r) = true := by
  have h1 : below n (ansPV r.1) = true := belows_map (below_an n) _
  have h2 : below n (ntsPV r.2.2.ns) = true := belows_map (below_nt n) _
  simp only [runPV, below, belows, Bool.and_true] at *
  rw [h1, h2]
  rfl
/-- are these values -/
theorem vals_ok {D : Nat} {vals : List Int} (hv : ∀ x ∈ vals, 0 ≤ x ∧ x ≤ 9999) : ∀ x ∈ vals.map PV.int, fn (tb L xs) (D + 2) "is_value" [x] h = .ok (.bl true) h := fun x hx => by
  obtain ⟨i, hi, rfl⟩ := List.mem_map.mp hx
  have := hv i hi
  rw [sp_is_value rfl]
  simp [within, this.1, this.2]
def wA (n c : Nat) : Ad := { a := n, r := n + 1, st := n + 2, c := c, p := 0, tr := false }
def wF (c n k : Nat) : Nat → Prop := fun i => i = c ∨ (n ≤ i ∧ i < n + 3 + k)
/-- Way(layers, Core(step, broken)) in a heap -/
theorem core_way {ls : List Ly} (hl : lok ls = true) {s : Int} {bs : List Int} : Rep (CR h.length s bs) (fun n => n = h.length) (wF h.length (h.length + 1) ls.length) (wA (h.length + 1) h.length) ls ((h ++ [coreO s bs 0]) ++ newWay "Way" (h.length + 1) h.length ls.length (lpv ls)) (List.replicate ls.length {}) { b := 0, ns := [], ps := [] } := by
  have := newRep (h := h ++ [coreO s bs 0]) (BR := CR h.length s bs) (FB := fun n => n = h.length) (b := 0) (c := h.length) (ls := ls) (by
    unfold CR
    rw [List.append_assoc, List.getElem?_append_right (Nat.le_refl _), Nat.sub_self]
    rfl) (fun n hn => by simp [hn]) hl
  simp only [List.length_append, List.length_cons, List.length_nil] at this
  exact this
theorem sp_askC {F : Nat → Prop} {A : Ad} {c : Nat} {s : Int} {bs : List Int} {nf : Bool} {ls : List Ly} {D : Nat} {ys : List LS} {g : G Int} {v : Int} (hnf : NF nf (cask s bs)) (hR : Rep (CR c s bs) (fun n => n = c) F A ls h ys g) (hD : 3 * ls.length + 8 ≤ D) (v0 : 0 ≤ v) (v1 : v ≤ 9999) (hn : room nf A.tr ls g) (hA : A.c = c := by rfl) :
    ∃ h', fn (tb L xs) D "Way.ask" [.ref A.a, .int v] h = .ok (mach A.tr s bs ls v (ys, g)).1.pv h' ∧ Rep (CR c s bs) (fun n => n = c) F A ls h' (mach A.tr s bs ls v (ys, g)).2.1 (mach A.tr s bs ls v (ys, g)).2.2 ∧ Fr F h h' := by
  subst hA
  exact sp_ask hnf core_BS (by omega) hR v0 v1 hn
theorem sp_askedC {F : Nat → Prop} {A : Ad} {c : Nat} {s : Int} {bs : List Int} {ls : List Ly} {D : Nat} {ys : List LS} {g : G Int} (hR : Rep (CR c s bs) (fun n => n = c) F A ls h ys g) (hA : A.c = c := by rfl) : fn (tb L xs) (D + 2) "Way.asked" [.ref A.a] h = .ok (.int g.b) h := by
  subst hA
  exact sp_asked core_BA (by omega) hR
theorem sp_run {D : Nat} {nf : Bool} {ls : List Ly} {s : Int} {bs vals : List Int} (hnf : NF nf (cask s bs)) (hD : 40 ≤ D) (hl : lok ls = true) (h8 : ls.length ≤ 8) (hc : okC s bs) (hv : ∀ x ∈ vals, 0 ≤ x ∧ x ≤ 9999) (hv6 : vals.length ≤ 60) (hK : 60 * KB nf false ls ≤ lineN) :
    fn (tb L xs) D "run" [lpv ls, .int s, .tup (bs.map .int), .lst (vals.map .int)] h = .ok (runPV (runM ls s bs vals)) h := by
  obtain ⟨D, rfl⟩ : ∃ D', D = D' + 6 := ⟨D - 6, by omega⟩
  rw [fn_run T_d_run rfl]
  have w1 := sp_way_init (L := L) (xs := xs) (h := h ++ [coreO s bs 0]) (D := D) (c := h.length) (C := "Way") hl h8 (show (h ++ [coreO s bs 0])[h.length]? = some (.ins "Core" _) from get_last) (.inl (by simp))
  simp only [List.length_append, List.length_cons, List.length_nil, List.append_assoc, List.cons_append, List.nil_append] at w1
  have l1 : (h ++ [coreO s bs 0]).length = h.length + 1 := by simp
  simp -implicitDefEqProofs only [Def.start, exs, ex, ev, evs, evi, evo, evIfs, evAnd, evOr, asg, asgs, exh, tr_f, tr_b, tr_l, tr_u, R.bind_ok, R.bind_exc, R.st_ok, R.st_exc, R.calm_ok, R.of_some, Option.map_some, List.map, List.length, List.set, List.getElem?_cons_zero, List.getElem?_cons_succ, List.replicate, List.append_nil, List.cons_append, List.nil_append, List.any, Bool.or_false, Bool.not_true, Bool.not_false, isk_int, isk_bool, isk_str, isk_tuple, isk_list, isInt, isBool, isStr, isTup, asS_tup, asS_lst', asS_fls, lenh_tup, lenh_lst, lenh_fls, bltR_len, bltR_tuple, bltR_list, bltR_int, bltR_intb, bltR_min, bltR_max, opv_add, opv_sub, cmpv_lt, cmpv_le, cmpv_gt, cmpv_ge, cmpv_eqi, cmpv_nei, cmpv_eqs, cmpv_nes, cmpv_is, cmpv_isnot, G_ROUND, G_MOST_LAYERS, G_MOST_AGAIN, G_SMALL, G_MOST_FAILS, G_MOST_VALUES, G_FIGURES, G_MOST_CHOICE, fnEnd, decide_true, decide_false, if_true, itFuel, LW.wipe, opv_mod, opv_fdiv, alive_tup, alive_lst, alive_str, alive_int, alive_bl, alive_non, or_self, or_false, false_or, or_true, true_or, and_self, and_true, true_and, and_false, false_and, sub_t0, sub_t1, sub_t2, sub_l0, Int.reducePow, Int.reduceNeg, Int.reduceLE, Int.reduceLT, Int.reduceToNat, Int.reduceEq, Nat.reduceLT, Nat.reduceLeDiff, Nat.reduceAdd, Nat.reduceSub, Int.cast_ofNat_Int, Int.natCast_zero, Int.natCast_one, Int.reduceAdd, Int.reduceSub, Bool.and_self, Bool.and_true, Bool.true_and, Bool.and_false, Bool.false_and, Bool.or_true, Bool.true_or, Bool.or_self, Bool.false_or, reduceIte, reduceCtorEq, String.reduceEq, ne_eq, not_false_eq_true, not_true_eq_false, Option.getD_some, forG_tup, forG_lst, forG_etup, forG_elst, sub_word, mem2, mem3, d_run, sp_checked_ok hl h8, M_Core___init__, M_Way___init__, sp_core_new hc, l1, List.append_assoc, w1, isLst, alive_lst]
  have hv60 : ¬ ((60 : Int) < ((vals.map PV.int).length : Nat)) := by rw [List.length_map]; omega
  simp -implicitDefEqProofs only [Def.start, exs, ex, ev, evs, evi, evo, evIfs, evAnd, evOr, asg, asgs, exh, tr_f, tr_b, tr_l, tr_u, R.bind_ok, R.bind_exc, R.st_ok, R.st_exc, R.calm_ok, R.of_some, Option.map_some, List.map, List.length, List.set, List.getElem?_cons_zero, List.getElem?_cons_succ, List.replicate, List.append_nil, List.cons_append, List.nil_append, List.any, Bool.or_false, Bool.not_true, Bool.not_false, isk_int, isk_bool, isk_str, isk_tuple, isk_list, isInt, isBool, isStr, isTup, asS_tup, asS_lst', asS_fls, lenh_tup, lenh_lst, lenh_fls, bltR_len, bltR_tuple, bltR_list, bltR_int, bltR_intb, bltR_min, bltR_max, opv_add, opv_sub, cmpv_lt, cmpv_le, cmpv_gt, cmpv_ge, cmpv_eqi, cmpv_nei, cmpv_eqs, cmpv_nes, cmpv_is, cmpv_isnot, G_ROUND, G_MOST_LAYERS, G_MOST_AGAIN, G_SMALL, G_MOST_FAILS, G_MOST_VALUES, G_FIGURES, G_MOST_CHOICE, fnEnd, decide_true, decide_false, if_true, itFuel, LW.wipe, opv_mod, opv_fdiv, alive_tup, alive_lst, alive_str, alive_int, alive_bl, alive_non, or_self, or_false, false_or, or_true, true_or, and_self, and_true, true_and, and_false, false_and, sub_t0, sub_t1, sub_t2, sub_l0, Int.reducePow, Int.reduceNeg, Int.reduceLE, Int.reduceLT, Int.reduceToNat, Int.reduceEq, Nat.reduceLT, Nat.reduceLeDiff, Nat.reduceAdd, Nat.reduceSub, Int.cast_ofNat_Int, Int.natCast_zero, Int.natCast_one, Int.reduceAdd, Int.reduceSub, Bool.and_self, Bool.and_true, Bool.true_and, Bool.and_false, Bool.false_and, Bool.or_true, Bool.true_or, Bool.or_self, Bool.false_or, reduceIte, reduceCtorEq, String.reduceEq, ne_eq, not_false_eq_true, not_true_eq_false, Option.getD_some, forG_tup, forG_lst, forG_etup, forG_elst, sub_word, mem2, mem3, hv60]
  generalize hz : compG _ _ _ _ _ _ = z
  have e := comp_run hz (vs := vals.map .int) rfl (fun x => none) (fun x hx => by
    simp -implicitDefEqProofs only [Def.start, exs, ex, ev, evs, evi, evo, evIfs, evAnd, evOr, asg, asgs, exh, tr_f, tr_b, tr_l, tr_u, R.bind_ok, R.bind_exc, R.st_ok, R.st_exc, R.calm_ok, R.of_some, Option.map_some, List.map, List.length, List.set, List.getElem?_cons_zero, List.getElem?_cons_succ, List.replicate, List.append_nil, List.cons_append, List.nil_append, List.any, Bool.or_false, Bool.not_true, Bool.not_false, isk_int, isk_bool, isk_str, isk_tuple, isk_list, isInt, isBool, isStr, isTup, asS_tup, asS_lst', asS_fls, lenh_tup, lenh_lst, lenh_fls, bltR_len, bltR_tuple, bltR_list, bltR_int, bltR_intb, bltR_min, bltR_max, opv_add, opv_sub, cmpv_lt, cmpv_le, cmpv_gt, cmpv_ge, cmpv_eqi, cmpv_nei, cmpv_eqs, cmpv_nes, cmpv_is, cmpv_isnot, G_ROUND, G_MOST_LAYERS, G_MOST_AGAIN, G_SMALL, G_MOST_FAILS, G_MOST_VALUES, G_FIGURES, G_MOST_CHOICE, fnEnd, decide_true, decide_false, if_true, itFuel, LW.wipe, opv_mod, opv_fdiv, alive_tup, alive_lst, alive_str, alive_int, alive_bl, alive_non, or_self, or_false, false_or, or_true, true_or, and_self, and_true, true_and, and_false, false_and, sub_t0, sub_t1, sub_t2, sub_l0, Int.reducePow, Int.reduceNeg, Int.reduceLE, Int.reduceLT, Int.reduceToNat, Int.reduceEq, Nat.reduceLT, Nat.reduceLeDiff, Nat.reduceAdd, Nat.reduceSub, Int.cast_ofNat_Int, Int.natCast_zero, Int.natCast_one, Int.reduceAdd, Int.reduceSub, Bool.and_self, Bool.and_true, Bool.true_and, Bool.and_false, Bool.false_and, Bool.or_true, Bool.true_or, Bool.or_self, Bool.false_or, reduceIte, reduceCtorEq, String.reduceEq, ne_eq, not_false_eq_true, not_true_eq_false, Option.getD_some, forG_tup, forG_lst, forG_etup, forG_elst, sub_word, mem2, mem3, vals_ok (D := D + 3) hv x hx]) (by rw [lineN_eq, List.length_map]; omega)
  subst e
  have fe : (vals.map PV.int).filterMap (fun x => (none : Option PV)) = [] := by
    induction vals.map PV.int with
    | nil => rfl
    | cons a l ih => simpa using ih
  simp -implicitDefEqProofs only [Def.start, exs, ex, ev, evs, evi, evo, evIfs, evAnd, evOr, asg, asgs, exh, tr_f, tr_b, tr_l, tr_u, R.bind_ok, R.bind_exc, R.st_ok, R.st_exc, R.calm_ok, R.of_some, Option.map_some, List.map, List.length, List.set, List.getElem?_cons_zero, List.getElem?_cons_succ, List.replicate, List.append_nil, List.cons_append, List.nil_append, List.any, Bool.or_false, Bool.not_true, Bool.not_false, isk_int, isk_bool, isk_str, isk_tuple, isk_list, isInt, isBool, isStr, isTup, asS_tup, asS_lst', asS_fls, lenh_tup, lenh_lst, lenh_fls, bltR_len, bltR_tuple, bltR_list, bltR_int, bltR_intb, bltR_min, bltR_max, opv_add, opv_sub, cmpv_lt, cmpv_le, cmpv_gt, cmpv_ge, cmpv_eqi, cmpv_nei, cmpv_eqs, cmpv_nes, cmpv_is, cmpv_isnot, G_ROUND, G_MOST_LAYERS, G_MOST_AGAIN, G_SMALL, G_MOST_FAILS, G_MOST_VALUES, G_FIGURES, G_MOST_CHOICE, fnEnd, decide_true, decide_false, if_true, itFuel, LW.wipe, opv_mod, opv_fdiv, alive_tup, alive_lst, alive_str, alive_int, alive_bl, alive_non, or_self, or_false, false_or, or_true, true_or, and_self, and_true, true_and, and_false, false_and, sub_t0, sub_t1, sub_t2, sub_l0, Int.reducePow, Int.reduceNeg, Int.reduceLE, Int.reduceLT, Int.reduceToNat, Int.reduceEq, Nat.reduceLT, Nat.reduceLeDiff, Nat.reduceAdd, Nat.reduceSub, Int.cast_ofNat_Int, Int.natCast_zero, Int.natCast_one, Int.reduceAdd, Int.reduceSub, Bool.and_self, Bool.and_true, Bool.true_and, Bool.and_false, Bool.false_and, Bool.or_true, Bool.true_or, Bool.or_self, Bool.false_or, reduceIte, reduceCtorEq, String.reduceEq, ne_eq, not_false_eq_true, not_true_eq_false, Option.getD_some, forG_tup, forG_lst, forG_etup, forG_elst, sub_word, mem2, mem3, fe, List.isEmpty_nil]
  clear hz
  generalize hz : compG _ _ _ _ _ _ = z
  have R0 := core_way (h := h) hl (s := s) (bs := bs)
  simp only [List.append_assoc, List.cons_append, List.nil_append] at R0
  obtain ⟨acc, h', rfl, ea, eR, eF⟩ := comp_inv hz (vs := vals.map .int) rfl (fun i acc h' => acc = (asks (mach false s bs ls) (vals.take i) (fresh ls 0)).1.map An.pv ∧ Rep (CR h.length s bs) (fun n => n = h.length) (wF h.length (h.length + 1) ls.length) (wA (h.length + 1) h.length) ls h' (asks (mach false s bs ls) (vals.take i) (fresh ls 0)).2.1 (asks (mach false s bs ls) (vals.take i) (fresh ls 0)).2.2 ∧ Fr (wF h.length (h.length + 1) ls.length) (h ++ coreO s bs 0 :: newWay "Way" (h.length + 1) h.length ls.length (lpv ls)) h') ⟨rfl, R0, Fr.refl _ _⟩ (fun i x acc h' hx ⟨q1, q2, q3⟩ => by
      rw [List.getElem?_map] at hx
      cases hvi : vals[i]? with
      | none => rw [hvi] at hx; cases hx
      | some v =>
        rw [hvi] at hx
        cases hx
        obtain ⟨v0, v1⟩ := hv v (List.mem_of_getElem? hvi)
        have hle := asks_le (tr := false) (ls := ls) hnf (k := 0) (vals.take i) (fresh ls 0)
        have hil : (vals.take i).length + 1 ≤ 60 := by
          have := (List.getElem?_eq_some_iff.mp hvi).1
          rw [List.length_take]; omega
        have hil2 := Nat.mul_le_mul_right (KB nf false ls) hil
        rw [Nat.succ_mul] at hil2
        have hle1 := hle.1
        simp only [fresh, List.length_nil, Nat.zero_add] at hle1
        obtain ⟨h2, e1, e2, e3⟩ := sp_askC (L := L) (xs := xs) hnf q2 (D := D + 5) (by omega) v0 v1 ⟨by
          have hle1 : (asks (mach false s bs ls) (vals.take i) (fresh ls 0)).2.2.ns.length ≤ _ := hle1
          show _ + KB nf false ls ≤ _
          omega, fun t => by cases t⟩
        refine ⟨(mach false s bs ls v (asks (mach false s bs ls) (vals.take i) (fresh ls 0)).2).1.pv, h2, ?_, ?_, ?_, q3.trans e3⟩
        rotate_left
        · rw [asks_take hvi, List.map_append, ← q1]
          rfl
        · rw [asks_take hvi]
          exact e2
        · have o1 := q2.obj
          have m1 : (tb L xs).mr (cls (wA (h.length + 1) h.length).tr) "ask" = some "Way.ask" := mr_ask
          have g1 : (wA (h.length + 1) h.length).a = h.length + 1 := rfl
          rw [g1] at o1 e1
          simp -implicitDefEqProofs only [Def.start, exs, ex, ev, evs, evi, evo, evIfs, evAnd, evOr, asg, asgs, exh, tr_f, tr_b, tr_l, tr_u, R.bind_ok, R.bind_exc, R.st_ok, R.st_exc, R.calm_ok, R.of_some, Option.map_some, List.map, List.length, List.set, List.getElem?_cons_zero, List.getElem?_cons_succ, List.replicate, List.append_nil, List.cons_append, List.nil_append, List.any, Bool.or_false, Bool.not_true, Bool.not_false, isk_int, isk_bool, isk_str, isk_tuple, isk_list, isInt, isBool, isStr, isTup, asS_tup, asS_lst', asS_fls, lenh_tup, lenh_lst, lenh_fls, bltR_len, bltR_tuple, bltR_list, bltR_int, bltR_intb, bltR_min, bltR_max, opv_add, opv_sub, cmpv_lt, cmpv_le, cmpv_gt, cmpv_ge, cmpv_eqi, cmpv_nei, cmpv_eqs, cmpv_nes, cmpv_is, cmpv_isnot, G_ROUND, G_MOST_LAYERS, G_MOST_AGAIN, G_SMALL, G_MOST_FAILS, G_MOST_VALUES, G_FIGURES, G_MOST_CHOICE, fnEnd, decide_true, decide_false, if_true, itFuel, LW.wipe, opv_mod, opv_fdiv, alive_tup, alive_lst, alive_str, alive_int, alive_bl, alive_non, or_self, or_false, false_or, or_true, true_or, and_self, and_true, true_and, and_false, false_and, sub_t0, sub_t1, sub_t2, sub_l0, Int.reducePow, Int.reduceNeg, Int.reduceLE, Int.reduceLT, Int.reduceToNat, Int.reduceEq, Nat.reduceLT, Nat.reduceLeDiff, Nat.reduceAdd, Nat.reduceSub, Int.cast_ofNat_Int, Int.natCast_zero, Int.natCast_one, Int.reduceAdd, Int.reduceSub, Bool.and_self, Bool.and_true, Bool.true_and, Bool.and_false, Bool.false_and, Bool.or_true, Bool.true_or, Bool.or_self, Bool.false_or, reduceIte, reduceCtorEq, String.reduceEq, ne_eq, not_false_eq_true, not_true_eq_false, Option.getD_some, forG_tup, forG_lst, forG_etup, forG_elst, sub_word, mem2, mem3, o1, fg_ask, m1, e1]
          rfl) (by rw [lineN_eq, List.length_map]; omega)
  rw [List.length_map, List.take_of_length_le (Nat.le_refl _)] at ea eR
  have n1 := sp_notes (L := L) (xs := xs) (D := D + 4) eR
  have o1 := eR.obj
  have g1 : (wA (h.length + 1) h.length).a = h.length + 1 := rfl
  have m1 : (tb L xs).mr (cls (wA (h.length + 1) h.length).tr) "notes" = some "Way.notes" := mr_notes
  have m2 : (tb L xs).mr (cls (wA (h.length + 1) h.length).tr) "asked" = some "Way.asked" := mr_asked
  rw [g1] at n1 o1
  have eR' := eR.frame (h' := h' ++ [.dead]) (core_BS (L := L) (xs := xs)).frame (fun n hn => List.getElem?_append_left (by
    rw [eF.1]
    simp only [List.length_append, List.length_cons, newWay_len]
    rcases hn with hn | hn <;> omega))
  have n2 := sp_askedC (L := L) (xs := xs) (D := D + 3) eR'
  have o2 := eR'.obj
  rw [g1] at n2 o2
  simp -implicitDefEqProofs only [Def.start, exs, ex, ev, evs, evi, evo, evIfs, evAnd, evOr, asg, asgs, exh, tr_f, tr_b, tr_l, tr_u, R.bind_ok, R.bind_exc, R.st_ok, R.st_exc, R.calm_ok, R.of_some, Option.map_some, List.map, List.length, List.set, List.getElem?_cons_zero, List.getElem?_cons_succ, List.replicate, List.append_nil, List.cons_append, List.nil_append, List.any, Bool.or_false, Bool.not_true, Bool.not_false, isk_int, isk_bool, isk_str, isk_tuple, isk_list, isInt, isBool, isStr, isTup, asS_tup, asS_lst', asS_fls, lenh_tup, lenh_lst, lenh_fls, bltR_len, bltR_tuple, bltR_list, bltR_int, bltR_intb, bltR_min, bltR_max, opv_add, opv_sub, cmpv_lt, cmpv_le, cmpv_gt, cmpv_ge, cmpv_eqi, cmpv_nei, cmpv_eqs, cmpv_nes, cmpv_is, cmpv_isnot, G_ROUND, G_MOST_LAYERS, G_MOST_AGAIN, G_SMALL, G_MOST_FAILS, G_MOST_VALUES, G_FIGURES, G_MOST_CHOICE, fnEnd, decide_true, decide_false, if_true, itFuel, LW.wipe, opv_mod, opv_fdiv, alive_tup, alive_lst, alive_str, alive_int, alive_bl, alive_non, or_self, or_false, false_or, or_true, true_or, and_self, and_true, true_and, and_false, false_and, sub_t0, sub_t1, sub_t2, sub_l0, Int.reducePow, Int.reduceNeg, Int.reduceLE, Int.reduceLT, Int.reduceToNat, Int.reduceEq, Nat.reduceLT, Nat.reduceLeDiff, Nat.reduceAdd, Nat.reduceSub, Int.cast_ofNat_Int, Int.natCast_zero, Int.natCast_one, Int.reduceAdd, Int.reduceSub, Bool.and_self, Bool.and_true, Bool.true_and, Bool.and_false, Bool.false_and, Bool.or_true, Bool.true_or, Bool.or_self, Bool.false_or, reduceIte, reduceCtorEq, String.reduceEq, ne_eq, not_false_eq_true, not_true_eq_false, Option.getD_some, forG_tup, forG_lst, forG_etup, forG_elst, sub_word, mem2, mem3, o1, fg_notes, m1, n1, frz_last, o2, fg_asked, m2, n2]
  have hb := below_run h.length (runM ls s bs vals)
  have hr : runPV (runM ls s bs vals) = .tup [.lst acc, .lst ((asks (mach false s bs ls) vals (fresh ls 0)).2.2.ns.map Nt.pv), .int (asks (mach false s bs ls) vals (fresh ls 0)).2.2.b] := by rw [ea]; rfl
  rw [← hr]
  have ht : (h' ++ [MO.dead]).take h.length = h := take_of_eq (by rw [List.length_append, eF.1]; simp; omega) (fun n hn => by
    rw [List.getElem?_append_left (by rw [eF.1]; simp; omega), eF.2 n (fun q => by rcases q with q | q <;> omega), List.getElem?_append_left hn])
  simp only [fin, ht, hb, and_self, if_true]
end
end LW
/-! Lx2: data that is compared; what is refused. -/
namespace LW
/-- nothing of the heap within, to a depth -/
def prn : Nat → PV → Bool
  | 0, _ => false
  | n + 1, .tup vs => vs.all fun x => prn n x
  | n + 1, .lst vs => vs.all fun x => prn n x
  | _ + 1, .ref _ => false
  | _ + 1, .fls _ => false
  | _ + 1, _ => true
theorem mapO_id {f : PV → Option PV} : ∀ vs : List PV, (∀ x ∈ vs, f x = some x) → mapO f vs = some vs
  | [], _ => rfl
  | v :: vs, h => by simp only [mapO, h v List.mem_cons_self, mapO_id vs fun x hx => h x (List.mem_cons_of_mem _ hx)]
theorem dr_prn {h : HP} : ∀ (n : Nat) (v : PV), prn n v = true → dr h n v = some v
  | 0, v, e => by cases e
  | n + 1, v, e => by
    cases v with
    | tup vs => simp only [dr, mapO_id vs fun x hx => dr_prn n x (List.all_eq_true.mp e x hx), Option.map_some]
    | lst vs => simp only [dr, mapO_id vs fun x hx => dr_prn n x (List.all_eq_true.mp e x hx), Option.map_some]
    | ref _ => cases e
    | fls _ => cases e
    | _ => rfl
theorem eqds_refl : ∀ vs : List PV, (∀ x ∈ vs, eqd x x = true) → eqds vs vs = true
  | [], _ => rfl
  | v :: vs, h => by simp only [eqds, h v List.mem_cons_self, eqds_refl vs fun x hx => h x (List.mem_cons_of_mem _ hx), Bool.and_self]
theorem eqd_refl : ∀ (n : Nat) (v : PV), prn n v = true → eqd v v = true
  | 0, v, e => by cases e
  | n + 1, v, e => by
    cases v with
    | tup vs => exact eqds_refl vs fun x hx => eqd_refl n x (List.all_eq_true.mp e x hx)
    | lst vs => exact eqds_refl vs fun x hx => eqd_refl n x (List.all_eq_true.mp e x hx)
    | ref _ => cases e
    | fls _ => cases e
    | _ => simp [eqd]
theorem prn_mono : ∀ (n m : Nat) (v : PV), n ≤ m → prn n v = true → prn m v = true
  | 0, m, v, _, e => by cases e
  | n + 1, 0, v, hm, e => by omega
  | n + 1, m + 1, v, hm, e => by
    cases v with
    | tup vs => exact List.all_eq_true.mpr fun x hx => prn_mono n m x (by omega) (List.all_eq_true.mp e x hx)
    | lst vs => exact List.all_eq_true.mpr fun x hx => prn_mono n m x (by omega) (List.all_eq_true.mp e x hx)
    | ref _ => cases e
    | fls _ => cases e
    | _ => rfl
theorem eq_self {h : HP} {v : PV} (hv : prn 9 v = true) : cmpv h .eq v v = some true := by
  have h4 := prn_mono 9 40 v (by omega) hv
  simp only [cmpv, eqh, drN, dr_prn 40 v h4, eqd_refl 40 v h4]
theorem ne_self {h : HP} {v : PV} (hv : prn 9 v = true) : cmpv h .ne v v = some false := by
  have h4 := prn_mono 9 40 v (by omega) hv
  simp only [cmpv, eqh, drN, dr_prn 40 v h4, eqd_refl 40 v h4, Option.map_some, Bool.not_true]
/-- a list of the heap and what it holds -/
theorem eq_ref {h : HP} {n : Nat} {vs : List PV} (hn : h[n]? = some (.lst vs)) (hv : prn 9 (.lst vs) = true) : cmpv h .eq (.ref n) (.lst vs) = some true := by
  have h4 := prn_mono 9 40 _ (by omega) hv
  have h3 : mapO (dr h 39) vs = some vs := mapO_id vs fun x hx => dr_prn 39 x (List.all_eq_true.mp h4 x hx)
  have e1 : dr h 40 (.ref n) = some (.lst vs) := by simp only [dr, hn, h3, Option.map_some]
  simp only [cmpv, eqh, drN, e1, dr_prn 40 _ h4, eqd_refl 40 _ h4]
theorem prn_an (n : Nat) (a : An) : prn (n + 2) a.pv = true := by cases a <;> rfl
theorem prn_nt (n : Nat) (a : Nt) : prn (n + 3) a.pv = true := by
  cases a with
  | inn w v => rfl
  | out w a => simp only [Nt.pv, prn, List.all_cons, List.all_nil, prn_an, Bool.and_self, Bool.and_true]
theorem prn_ly (n : Nat) (l : Ly) : prn (n + 2) l.pv = true := by cases l <;> rfl
theorem prn_lpv (n : Nat) (ls : List Ly) : prn (n + 3) (lpv ls) = true := by
  refine List.all_eq_true.mpr fun x hx => ?_
  obtain ⟨l, _, rfl⟩ := List.mem_map.mp hx
  exact prn_ly n l
theorem prn_ans (n : Nat) (as : List An) : prn (n + 3) (ansPV as) = true := by
  refine List.all_eq_true.mpr fun x hx => ?_
  obtain ⟨l, _, rfl⟩ := List.mem_map.mp hx
  exact prn_an n l
theorem prn_nts (n : Nat) (as : List Nt) : prn (n + 4) (ntsPV as) = true := by
  refine List.all_eq_true.mpr fun x hx => ?_
  obtain ⟨l, _, rfl⟩ := List.mem_map.mp hx
  exact prn_nt n l
theorem prn_run (r : List An × St) : prn 9 (runPV r) = true := by
  simp only [runPV, prn, List.all_cons, List.all_nil, Bool.and_true]
  rw [prn_ans, prn_nts]
  rfl
/-! ### few enough -/
def capM (ls : List Ly) : List Ly := if 60 < mostAsks ls then ls.take 1 else ls
theorem capM_ok {ls : List Ly} (hl : lok ls = true) : lok (capM ls) = true := by
  unfold capM
  split
  · exact List.all_eq_true.mpr fun x hx => List.all_eq_true.mp hl x (List.mem_of_mem_take hx)
  · exact hl
theorem capM_len {ls : List Ly} : (capM ls).length ≤ ls.length := by
  unfold capM
  split
  · rw [List.length_take]; omega
  · exact Nat.le_refl _
theorem capM_most {ls : List Ly} (hl : lok ls = true) : mostAsks (capM ls) ≤ 100 := by
  unfold capM
  split
  · cases ls with
    | nil => decide
    | cons l r =>
      simp only [List.take_succ_cons, List.take_zero]
      have hk : l.ok = true := by
        simp only [lok, List.all_cons, Bool.and_eq_true] at hl
        exact hl.1
      cases l with
      | again n =>
        simp only [Ly.ok, decide_eq_true_eq] at hk
        simp [mostAsks, canFail]
        omega
      | _ => simp [mostAsks]
  · omega
theorem KB_cap {nf tr : Bool} {ls : List Ly} (hm : mostAsks ls ≤ 6000) (h8 : ls.length ≤ 8) : 100 * KB nf tr ls ≤ lineN := by
  have h1 := KB_le nf tr ls
  have h2 : mostAsks ls * (1 + 3 * ls.length) ≤ 6000 * 25 := Nat.mul_le_mul hm (by omega)
  rw [lineN_eq]
  omega
theorem capM_take {ls : List Ly} (h : 60 < mostAsks ls) : capM ls = ls.take 1 := by simp [capM, h]
theorem capM_same {ls : List Ly} (h : ¬ 60 < mostAsks ls) : capM ls = ls := by simp [capM, h]
section
variable {L : Def} {xs : List String} {h : HP} {v : PV} {D : Nat}
/-! ### refusals of run -/
theorem trim_self : trim h h = h := by simp [trim]
theorem sp_run_bl {a b c : PV} (hp : lookables v) (hv : okLayers v = false) : fn (tb L xs) (D + 5) "run" [v, a, b, c] h = .exc "BadLayers" h := by
  rw [fn_run T_d_run rfl]
  have e : fn (tb L xs) (D + 4) "checked" [v] h = .exc "BadLayers" h := by rw [sp_checked hp, hv]; rfl
  simp -implicitDefEqProofs only [Def.start, exs, ex, ev, evs, evi, evo, evIfs, evAnd, evOr, asg, asgs, exh, tr_f, tr_b, tr_l, tr_u, R.bind_ok, R.bind_exc, R.st_ok, R.st_exc, R.calm_ok, R.of_some, Option.map_some, List.map, List.length, List.set, List.getElem?_cons_zero, List.getElem?_cons_succ, List.replicate, List.append_nil, List.cons_append, List.nil_append, List.any, Bool.or_false, Bool.not_true, Bool.not_false, isk_int, isk_bool, isk_str, isk_tuple, isk_list, isInt, isBool, isStr, isTup, asS_tup, asS_lst', asS_fls, lenh_tup, lenh_lst, lenh_fls, bltR_len, bltR_tuple, bltR_list, bltR_int, bltR_intb, bltR_min, bltR_max, opv_add, opv_sub, cmpv_lt, cmpv_le, cmpv_gt, cmpv_ge, cmpv_eqi, cmpv_nei, cmpv_eqs, cmpv_nes, cmpv_is, cmpv_isnot, G_ROUND, G_MOST_LAYERS, G_MOST_AGAIN, G_SMALL, G_MOST_FAILS, G_MOST_VALUES, G_FIGURES, G_MOST_CHOICE, fnEnd, decide_true, decide_false, if_true, itFuel, LW.wipe, opv_mod, opv_fdiv, alive_tup, alive_lst, alive_str, alive_int, alive_bl, alive_non, or_self, or_false, false_or, or_true, true_or, and_self, and_true, true_and, and_false, false_and, sub_t0, sub_t1, sub_t2, sub_l0, Int.reducePow, Int.reduceNeg, Int.reduceLE, Int.reduceLT, Int.reduceToNat, Int.reduceEq, Nat.reduceLT, Nat.reduceLeDiff, Nat.reduceAdd, Nat.reduceSub, Int.cast_ofNat_Int, Int.natCast_zero, Int.natCast_one, Int.reduceAdd, Int.reduceSub, Bool.and_self, Bool.and_true, Bool.true_and, Bool.and_false, Bool.false_and, Bool.or_true, Bool.true_or, Bool.or_self, Bool.false_or, reduceIte, reduceCtorEq, String.reduceEq, ne_eq, not_false_eq_true, not_true_eq_false, Option.getD_some, forG_tup, forG_lst, forG_etup, forG_elst, sub_word, mem2, mem3, d_run, e, trim_self]
theorem sp_run_bc {ls : List Ly} {st br c : PV} (hl : lok ls = true) (h8 : ls.length ≤ 8) (hb : ∀ vs, br = .tup vs → vs.length ≤ 1000) (h1 : plain st = true) (h2 : plain br = true) (hc : okCore st br = false) : fn (tb L xs) (D + 5) "run" [lpv ls, st, br, c] h = .exc "BadCore" h := by
  rw [fn_run T_d_run rfl]
  have e := sp_core_init (L := L) (xs := xs) (d := D + 1) (h := h) hb h1 h2
  rw [hc] at e
  have tm : trim h (h ++ [MO.ins "Core" []]) = h := trim_app
  simp -implicitDefEqProofs only [Def.start, exs, ex, ev, evs, evi, evo, evIfs, evAnd, evOr, asg, asgs, exh, tr_f, tr_b, tr_l, tr_u, R.bind_ok, R.bind_exc, R.st_ok, R.st_exc, R.calm_ok, R.of_some, Option.map_some, List.map, List.length, List.set, List.getElem?_cons_zero, List.getElem?_cons_succ, List.replicate, List.append_nil, List.cons_append, List.nil_append, List.any, Bool.or_false, Bool.not_true, Bool.not_false, isk_int, isk_bool, isk_str, isk_tuple, isk_list, isInt, isBool, isStr, isTup, asS_tup, asS_lst', asS_fls, lenh_tup, lenh_lst, lenh_fls, bltR_len, bltR_tuple, bltR_list, bltR_int, bltR_intb, bltR_min, bltR_max, opv_add, opv_sub, cmpv_lt, cmpv_le, cmpv_gt, cmpv_ge, cmpv_eqi, cmpv_nei, cmpv_eqs, cmpv_nes, cmpv_is, cmpv_isnot, G_ROUND, G_MOST_LAYERS, G_MOST_AGAIN, G_SMALL, G_MOST_FAILS, G_MOST_VALUES, G_FIGURES, G_MOST_CHOICE, fnEnd, decide_true, decide_false, if_true, itFuel, LW.wipe, opv_mod, opv_fdiv, alive_tup, alive_lst, alive_str, alive_int, alive_bl, alive_non, or_self, or_false, false_or, or_true, true_or, and_self, and_true, true_and, and_false, false_and, sub_t0, sub_t1, sub_t2, sub_l0, Int.reducePow, Int.reduceNeg, Int.reduceLE, Int.reduceLT, Int.reduceToNat, Int.reduceEq, Nat.reduceLT, Nat.reduceLeDiff, Nat.reduceAdd, Nat.reduceSub, Int.cast_ofNat_Int, Int.natCast_zero, Int.natCast_one, Int.reduceAdd, Int.reduceSub, Bool.and_self, Bool.and_true, Bool.true_and, Bool.and_false, Bool.false_and, Bool.or_true, Bool.true_or, Bool.or_self, Bool.false_or, reduceIte, reduceCtorEq, String.reduceEq, ne_eq, not_false_eq_true, not_true_eq_false, Option.getD_some, forG_tup, forG_lst, forG_etup, forG_elst, sub_word, mem2, mem3, d_run, sp_checked_ok hl h8, M_Core___init__, e, tm, trim_self]
/-- a list of up to 60 values -/
def okVals : PV → Bool
  | .lst vs => decide (vs.length ≤ 60) && vs.all (within 0 9999)
  | _ => false
def plainL : PV → Bool
  | .ref _ => false
  | .fls _ => false
  | .lst vs => decide (vs.length ≤ 1000) && vs.all fun x => match x with
    | .ref _ => false
    | .fls _ => false
    | _ => true
  | _ => true
theorem plainL_alive (hp : plainL v = true) : alive h v = true := by cases v <;> first | rfl | (cases hp)
theorem sp_run_bv {ls : List Ly} {s : Int} {bs : List Int} (hl : lok ls = true) (h8 : ls.length ≤ 8) (hc : okC s bs) (hp : plainL v = true) (hv : okVals v = false) :
    fn (tb L xs) (D + 6) "run" [lpv ls, .int s, .tup (bs.map .int), v] h = .exc "BadValue" h := by
  rw [fn_run T_d_run rfl]
  have w1 := sp_way_init (L := L) (xs := xs) (h := h ++ [coreO s bs 0]) (D := D) (c := h.length) (C := "Way") hl h8 (show (h ++ [coreO s bs 0])[h.length]? = some (.ins "Core" _) from get_last) (.inl (by simp))
  simp only [List.length_append, List.length_cons, List.length_nil, List.append_assoc, List.cons_append, List.nil_append] at w1
  have l1 : (h ++ [coreO s bs 0]).length = h.length + 1 := by simp
  have al := fun h => plainL_alive (h := h) hp
  have tm : trim h (h ++ (coreO s bs 0 :: newWay "Way" (h.length + 1) h.length ls.length (lpv ls))) = h := trim_app
  simp -implicitDefEqProofs only [Def.start, exs, ex, ev, evs, evi, evo, evIfs, evAnd, evOr, asg, asgs, exh, tr_f, tr_b, tr_l, tr_u, R.bind_ok, R.bind_exc, R.st_ok, R.st_exc, R.calm_ok, R.of_some, Option.map_some, List.map, List.length, List.set, List.getElem?_cons_zero, List.getElem?_cons_succ, List.replicate, List.append_nil, List.cons_append, List.nil_append, List.any, Bool.or_false, Bool.not_true, Bool.not_false, isk_int, isk_bool, isk_str, isk_tuple, isk_list, isInt, isBool, isStr, isTup, asS_tup, asS_lst', asS_fls, lenh_tup, lenh_lst, lenh_fls, bltR_len, bltR_tuple, bltR_list, bltR_int, bltR_intb, bltR_min, bltR_max, opv_add, opv_sub, cmpv_lt, cmpv_le, cmpv_gt, cmpv_ge, cmpv_eqi, cmpv_nei, cmpv_eqs, cmpv_nes, cmpv_is, cmpv_isnot, G_ROUND, G_MOST_LAYERS, G_MOST_AGAIN, G_SMALL, G_MOST_FAILS, G_MOST_VALUES, G_FIGURES, G_MOST_CHOICE, fnEnd, decide_true, decide_false, if_true, itFuel, LW.wipe, opv_mod, opv_fdiv, alive_tup, alive_lst, alive_str, alive_int, alive_bl, alive_non, or_self, or_false, false_or, or_true, true_or, and_self, and_true, true_and, and_false, false_and, sub_t0, sub_t1, sub_t2, sub_l0, Int.reducePow, Int.reduceNeg, Int.reduceLE, Int.reduceLT, Int.reduceToNat, Int.reduceEq, Nat.reduceLT, Nat.reduceLeDiff, Nat.reduceAdd, Nat.reduceSub, Int.cast_ofNat_Int, Int.natCast_zero, Int.natCast_one, Int.reduceAdd, Int.reduceSub, Bool.and_self, Bool.and_true, Bool.true_and, Bool.and_false, Bool.false_and, Bool.or_true, Bool.true_or, Bool.or_self, Bool.false_or, reduceIte, reduceCtorEq, String.reduceEq, ne_eq, not_false_eq_true, not_true_eq_false, Option.getD_some, forG_tup, forG_lst, forG_etup, forG_elst, sub_word, mem2, mem3, d_run, sp_checked_ok hl h8, M_Core___init__, M_Way___init__, sp_core_new hc, l1, List.append_assoc, w1, al]
  cases v with
  | lst vs =>
    simp only [plainL, Bool.and_eq_true, decide_eq_true_eq] at hp
    by_cases h60 : (60 : Int) < (vs.length : Nat)
    · simp -implicitDefEqProofs only [Def.start, exs, ex, ev, evs, evi, evo, evIfs, evAnd, evOr, asg, asgs, exh, tr_f, tr_b, tr_l, tr_u, R.bind_ok, R.bind_exc, R.st_ok, R.st_exc, R.calm_ok, R.of_some, Option.map_some, List.map, List.length, List.set, List.getElem?_cons_zero, List.getElem?_cons_succ, List.replicate, List.append_nil, List.cons_append, List.nil_append, List.any, Bool.or_false, Bool.not_true, Bool.not_false, isk_int, isk_bool, isk_str, isk_tuple, isk_list, isInt, isBool, isStr, isTup, asS_tup, asS_lst', asS_fls, lenh_tup, lenh_lst, lenh_fls, bltR_len, bltR_tuple, bltR_list, bltR_int, bltR_intb, bltR_min, bltR_max, opv_add, opv_sub, cmpv_lt, cmpv_le, cmpv_gt, cmpv_ge, cmpv_eqi, cmpv_nei, cmpv_eqs, cmpv_nes, cmpv_is, cmpv_isnot, G_ROUND, G_MOST_LAYERS, G_MOST_AGAIN, G_SMALL, G_MOST_FAILS, G_MOST_VALUES, G_FIGURES, G_MOST_CHOICE, fnEnd, decide_true, decide_false, if_true, itFuel, LW.wipe, opv_mod, opv_fdiv, alive_tup, alive_lst, alive_str, alive_int, alive_bl, alive_non, or_self, or_false, false_or, or_true, true_or, and_self, and_true, true_and, and_false, false_and, sub_t0, sub_t1, sub_t2, sub_l0, Int.reducePow, Int.reduceNeg, Int.reduceLE, Int.reduceLT, Int.reduceToNat, Int.reduceEq, Nat.reduceLT, Nat.reduceLeDiff, Nat.reduceAdd, Nat.reduceSub, Int.cast_ofNat_Int, Int.natCast_zero, Int.natCast_one, Int.reduceAdd, Int.reduceSub, Bool.and_self, Bool.and_true, Bool.true_and, Bool.and_false, Bool.false_and, Bool.or_true, Bool.true_or, Bool.or_self, Bool.false_or, reduceIte, reduceCtorEq, String.reduceEq, ne_eq, not_false_eq_true, not_true_eq_false, Option.getD_some, forG_tup, forG_lst, forG_etup, forG_elst, sub_word, mem2, mem3, isLst, h60, tm]
    · have h60' : vs.length ≤ 60 := by omega
      simp -implicitDefEqProofs only [Def.start, exs, ex, ev, evs, evi, evo, evIfs, evAnd, evOr, asg, asgs, exh, tr_f, tr_b, tr_l, tr_u, R.bind_ok, R.bind_exc, R.st_ok, R.st_exc, R.calm_ok, R.of_some, Option.map_some, List.map, List.length, List.set, List.getElem?_cons_zero, List.getElem?_cons_succ, List.replicate, List.append_nil, List.cons_append, List.nil_append, List.any, Bool.or_false, Bool.not_true, Bool.not_false, isk_int, isk_bool, isk_str, isk_tuple, isk_list, isInt, isBool, isStr, isTup, asS_tup, asS_lst', asS_fls, lenh_tup, lenh_lst, lenh_fls, bltR_len, bltR_tuple, bltR_list, bltR_int, bltR_intb, bltR_min, bltR_max, opv_add, opv_sub, cmpv_lt, cmpv_le, cmpv_gt, cmpv_ge, cmpv_eqi, cmpv_nei, cmpv_eqs, cmpv_nes, cmpv_is, cmpv_isnot, G_ROUND, G_MOST_LAYERS, G_MOST_AGAIN, G_SMALL, G_MOST_FAILS, G_MOST_VALUES, G_FIGURES, G_MOST_CHOICE, fnEnd, decide_true, decide_false, if_true, itFuel, LW.wipe, opv_mod, opv_fdiv, alive_tup, alive_lst, alive_str, alive_int, alive_bl, alive_non, or_self, or_false, false_or, or_true, true_or, and_self, and_true, true_and, and_false, false_and, sub_t0, sub_t1, sub_t2, sub_l0, Int.reducePow, Int.reduceNeg, Int.reduceLE, Int.reduceLT, Int.reduceToNat, Int.reduceEq, Nat.reduceLT, Nat.reduceLeDiff, Nat.reduceAdd, Nat.reduceSub, Int.cast_ofNat_Int, Int.natCast_zero, Int.natCast_one, Int.reduceAdd, Int.reduceSub, Bool.and_self, Bool.and_true, Bool.true_and, Bool.and_false, Bool.false_and, Bool.or_true, Bool.true_or, Bool.or_self, Bool.false_or, reduceIte, reduceCtorEq, String.reduceEq, ne_eq, not_false_eq_true, not_true_eq_false, Option.getD_some, forG_tup, forG_lst, forG_etup, forG_elst, sub_word, mem2, mem3, isLst, h60]
      generalize hz : compG _ _ _ _ _ _ = z
      have e := comp_run hz (vs := vs) rfl (fun x => if !within 0 9999 x then some x else none) (fun x hx => by
        have ax := List.all_eq_true.mp hp.2 x hx
        have ha : ∀ h, alive h x = true := fun h => by cases x <;> first | rfl | (cases ax)
        have e1 := sp_is_value (L := L) (xs := xs) (d := D + 3) (h := h ++ (coreO s bs 0 :: newWay "Way" (h.length + 1) h.length ls.length (lpv ls))) (ha _)
        cases hw : within 0 9999 x <;> simp -implicitDefEqProofs only [Def.start, exs, ex, ev, evs, evi, evo, evIfs, evAnd, evOr, asg, asgs, exh, tr_f, tr_b, tr_l, tr_u, R.bind_ok, R.bind_exc, R.st_ok, R.st_exc, R.calm_ok, R.of_some, Option.map_some, List.map, List.length, List.set, List.getElem?_cons_zero, List.getElem?_cons_succ, List.replicate, List.append_nil, List.cons_append, List.nil_append, List.any, Bool.or_false, Bool.not_true, Bool.not_false, isk_int, isk_bool, isk_str, isk_tuple, isk_list, isInt, isBool, isStr, isTup, asS_tup, asS_lst', asS_fls, lenh_tup, lenh_lst, lenh_fls, bltR_len, bltR_tuple, bltR_list, bltR_int, bltR_intb, bltR_min, bltR_max, opv_add, opv_sub, cmpv_lt, cmpv_le, cmpv_gt, cmpv_ge, cmpv_eqi, cmpv_nei, cmpv_eqs, cmpv_nes, cmpv_is, cmpv_isnot, G_ROUND, G_MOST_LAYERS, G_MOST_AGAIN, G_SMALL, G_MOST_FAILS, G_MOST_VALUES, G_FIGURES, G_MOST_CHOICE, fnEnd, decide_true, decide_false, if_true, itFuel, LW.wipe, opv_mod, opv_fdiv, alive_tup, alive_lst, alive_str, alive_int, alive_bl, alive_non, or_self, or_false, false_or, or_true, true_or, and_self, and_true, true_and, and_false, false_and, sub_t0, sub_t1, sub_t2, sub_l0, Int.reducePow, Int.reduceNeg, Int.reduceLE, Int.reduceLT, Int.reduceToNat, Int.reduceEq, Nat.reduceLT, Nat.reduceLeDiff, Nat.reduceAdd, Nat.reduceSub, Int.cast_ofNat_Int, Int.natCast_zero, Int.natCast_one, Int.reduceAdd, Int.reduceSub, Bool.and_self, Bool.and_true, Bool.true_and, Bool.and_false, Bool.false_and, Bool.or_true, Bool.true_or, Bool.or_self, Bool.false_or, reduceIte, reduceCtorEq, String.reduceEq, ne_eq, not_false_eq_true, not_true_eq_false, Option.getD_some, forG_tup, forG_lst, forG_etup, forG_elst, sub_word, mem2, mem3, e1, hw]) (by rw [lineN_eq]; omega)
      subst e
      rw [fm_filter]
      have hall : vs.all (fun x => within 0 9999 x) = false := by
        simpa [okVals, h60'] using hv
      simp -implicitDefEqProofs only [Def.start, exs, ex, ev, evs, evi, evo, evIfs, evAnd, evOr, asg, asgs, exh, tr_f, tr_b, tr_l, tr_u, R.bind_ok, R.bind_exc, R.st_ok, R.st_exc, R.calm_ok, R.of_some, Option.map_some, List.map, List.length, List.set, List.getElem?_cons_zero, List.getElem?_cons_succ, List.replicate, List.append_nil, List.cons_append, List.nil_append, List.any, Bool.or_false, Bool.not_true, Bool.not_false, isk_int, isk_bool, isk_str, isk_tuple, isk_list, isInt, isBool, isStr, isTup, asS_tup, asS_lst', asS_fls, lenh_tup, lenh_lst, lenh_fls, bltR_len, bltR_tuple, bltR_list, bltR_int, bltR_intb, bltR_min, bltR_max, opv_add, opv_sub, cmpv_lt, cmpv_le, cmpv_gt, cmpv_ge, cmpv_eqi, cmpv_nei, cmpv_eqs, cmpv_nes, cmpv_is, cmpv_isnot, G_ROUND, G_MOST_LAYERS, G_MOST_AGAIN, G_SMALL, G_MOST_FAILS, G_MOST_VALUES, G_FIGURES, G_MOST_CHOICE, fnEnd, decide_true, decide_false, if_true, itFuel, LW.wipe, opv_mod, opv_fdiv, alive_tup, alive_lst, alive_str, alive_int, alive_bl, alive_non, or_self, or_false, false_or, or_true, true_or, and_self, and_true, true_and, and_false, false_and, sub_t0, sub_t1, sub_t2, sub_l0, Int.reducePow, Int.reduceNeg, Int.reduceLE, Int.reduceLT, Int.reduceToNat, Int.reduceEq, Nat.reduceLT, Nat.reduceLeDiff, Nat.reduceAdd, Nat.reduceSub, Int.cast_ofNat_Int, Int.natCast_zero, Int.natCast_one, Int.reduceAdd, Int.reduceSub, Bool.and_self, Bool.and_true, Bool.true_and, Bool.and_false, Bool.false_and, Bool.or_true, Bool.true_or, Bool.or_self, Bool.false_or, reduceIte, reduceCtorEq, String.reduceEq, ne_eq, not_false_eq_true, not_true_eq_false, Option.getD_some, forG_tup, forG_lst, forG_etup, forG_elst, sub_word, mem2, mem3, isEmpty_filter, Bool.not_not, hall, tm]
  | ref _ => cases hp
  | fls _ => cases hp
  | _ => simp -implicitDefEqProofs only [Def.start, exs, ex, ev, evs, evi, evo, evIfs, evAnd, evOr, asg, asgs, exh, tr_f, tr_b, tr_l, tr_u, R.bind_ok, R.bind_exc, R.st_ok, R.st_exc, R.calm_ok, R.of_some, Option.map_some, List.map, List.length, List.set, List.getElem?_cons_zero, List.getElem?_cons_succ, List.replicate, List.append_nil, List.cons_append, List.nil_append, List.any, Bool.or_false, Bool.not_true, Bool.not_false, isk_int, isk_bool, isk_str, isk_tuple, isk_list, isInt, isBool, isStr, isTup, asS_tup, asS_lst', asS_fls, lenh_tup, lenh_lst, lenh_fls, bltR_len, bltR_tuple, bltR_list, bltR_int, bltR_intb, bltR_min, bltR_max, opv_add, opv_sub, cmpv_lt, cmpv_le, cmpv_gt, cmpv_ge, cmpv_eqi, cmpv_nei, cmpv_eqs, cmpv_nes, cmpv_is, cmpv_isnot, G_ROUND, G_MOST_LAYERS, G_MOST_AGAIN, G_SMALL, G_MOST_FAILS, G_MOST_VALUES, G_FIGURES, G_MOST_CHOICE, fnEnd, decide_true, decide_false, if_true, itFuel, LW.wipe, opv_mod, opv_fdiv, alive_tup, alive_lst, alive_str, alive_int, alive_bl, alive_non, or_self, or_false, false_or, or_true, true_or, and_self, and_true, true_and, and_false, false_and, sub_t0, sub_t1, sub_t2, sub_l0, Int.reducePow, Int.reduceNeg, Int.reduceLE, Int.reduceLT, Int.reduceToNat, Int.reduceEq, Nat.reduceLT, Nat.reduceLeDiff, Nat.reduceAdd, Nat.reduceSub, Int.cast_ofNat_Int, Int.natCast_zero, Int.natCast_one, Int.reduceAdd, Int.reduceSub, Bool.and_self, Bool.and_true, Bool.true_and, Bool.and_false, Bool.false_and, Bool.or_true, Bool.true_or, Bool.or_self, Bool.false_or, reduceIte, reduceCtorEq, String.reduceEq, ne_eq, not_false_eq_true, not_true_eq_false, Option.getD_some, forG_tup, forG_lst, forG_etup, forG_elst, sub_word, mem2, mem3, isLst, tm]
end
end LW
/-! Lx3: steps that many laws share. -/
namespace LW
section
variable {L : Def} {xs : List String} {h : HP} {v : PV} {D : Nat}
theorem cap_ife {σ : Sg} {ls : List Ly} (hl : lok ls = true) (h8 : ls.length ≤ 8) (h1 : σ[1]? = some (some (lpv ls))) :
    ex (tb L xs) (fn (tb L xs) (D + 5)) (.ife (.cmp .gt (.call "most_asks" [(.var 1 "layers")]) (.lit (.int 60))) [.asg (.name 1 "layers") (.slice (.var 1 "layers") none (some (.lit (.int 1))))] []) σ h = .ok (.nx (σ.set 1 (some (lpv (capM ls))))) h := by
  have ec : cutv h (lpv ls) none (some (1 : Int)) = some (lpv (ls.take 1)) := cut_to (k := 1)
  by_cases hc : 60 < mostAsks ls
  · have hc' : (60 : Int) < (mostAsks ls : Nat) := by omega
    simp -implicitDefEqProofs only [Def.start, exs, ex, ev, evs, evi, evo, evIfs, evAnd, evOr, asg, asgs, exh, tr_f, tr_b, tr_l, tr_u, R.bind_ok, R.bind_exc, R.st_ok, R.st_exc, R.calm_ok, R.of_some, Option.map_some, List.map, List.length, List.set, List.getElem?_cons_zero, List.getElem?_cons_succ, List.replicate, List.append_nil, List.cons_append, List.nil_append, List.any, Bool.or_false, Bool.not_true, Bool.not_false, isk_int, isk_bool, isk_str, isk_tuple, isk_list, isInt, isBool, isStr, isTup, asS_tup, asS_lst', asS_fls, lenh_tup, lenh_lst, lenh_fls, bltR_len, bltR_tuple, bltR_list, bltR_int, bltR_intb, bltR_min, bltR_max, opv_add, opv_sub, cmpv_lt, cmpv_le, cmpv_gt, cmpv_ge, cmpv_eqi, cmpv_nei, cmpv_eqs, cmpv_nes, cmpv_is, cmpv_isnot, G_ROUND, G_MOST_LAYERS, G_MOST_AGAIN, G_SMALL, G_MOST_FAILS, G_MOST_VALUES, G_FIGURES, G_MOST_CHOICE, fnEnd, decide_true, decide_false, if_true, itFuel, LW.wipe, opv_mod, opv_fdiv, alive_tup, alive_lst, alive_str, alive_int, alive_bl, alive_non, or_self, or_false, false_or, or_true, true_or, and_self, and_true, true_and, and_false, false_and, sub_t0, sub_t1, sub_t2, sub_l0, Int.reducePow, Int.reduceNeg, Int.reduceLE, Int.reduceLT, Int.reduceToNat, Int.reduceEq, Nat.reduceLT, Nat.reduceLeDiff, Nat.reduceAdd, Nat.reduceSub, Int.cast_ofNat_Int, Int.natCast_zero, Int.natCast_one, Int.reduceAdd, Int.reduceSub, Bool.and_self, Bool.and_true, Bool.true_and, Bool.and_false, Bool.false_and, Bool.or_true, Bool.true_or, Bool.or_self, Bool.false_or, reduceIte, reduceCtorEq, String.reduceEq, ne_eq, not_false_eq_true, not_true_eq_false, Option.getD_some, forG_tup, forG_lst, forG_etup, forG_elst, sub_word, mem2, mem3, h1, sp_most_asks hl h8, hc', ec, capM_take hc]
  · have hc' : ¬ (60 : Int) < (mostAsks ls : Nat) := by omega
    simp -implicitDefEqProofs only [Def.start, exs, ex, ev, evs, evi, evo, evIfs, evAnd, evOr, asg, asgs, exh, tr_f, tr_b, tr_l, tr_u, R.bind_ok, R.bind_exc, R.st_ok, R.st_exc, R.calm_ok, R.of_some, Option.map_some, List.map, List.length, List.set, List.getElem?_cons_zero, List.getElem?_cons_succ, List.replicate, List.append_nil, List.cons_append, List.nil_append, List.any, Bool.or_false, Bool.not_true, Bool.not_false, isk_int, isk_bool, isk_str, isk_tuple, isk_list, isInt, isBool, isStr, isTup, asS_tup, asS_lst', asS_fls, lenh_tup, lenh_lst, lenh_fls, bltR_len, bltR_tuple, bltR_list, bltR_int, bltR_intb, bltR_min, bltR_max, opv_add, opv_sub, cmpv_lt, cmpv_le, cmpv_gt, cmpv_ge, cmpv_eqi, cmpv_nei, cmpv_eqs, cmpv_nes, cmpv_is, cmpv_isnot, G_ROUND, G_MOST_LAYERS, G_MOST_AGAIN, G_SMALL, G_MOST_FAILS, G_MOST_VALUES, G_FIGURES, G_MOST_CHOICE, fnEnd, decide_true, decide_false, if_true, itFuel, LW.wipe, opv_mod, opv_fdiv, alive_tup, alive_lst, alive_str, alive_int, alive_bl, alive_non, or_self, or_false, false_or, or_true, true_or, and_self, and_true, true_and, and_false, false_and, sub_t0, sub_t1, sub_t2, sub_l0, Int.reducePow, Int.reduceNeg, Int.reduceLE, Int.reduceLT, Int.reduceToNat, Int.reduceEq, Nat.reduceLT, Nat.reduceLeDiff, Nat.reduceAdd, Nat.reduceSub, Int.cast_ofNat_Int, Int.natCast_zero, Int.natCast_one, Int.reduceAdd, Int.reduceSub, Bool.and_self, Bool.and_true, Bool.true_and, Bool.and_false, Bool.false_and, Bool.or_true, Bool.true_or, Bool.or_self, Bool.false_or, reduceIte, reduceCtorEq, String.reduceEq, ne_eq, not_false_eq_true, not_true_eq_false, Option.getD_some, forG_tup, forG_lst, forG_etup, forG_elst, sub_word, mem2, mem3, h1, sp_most_asks hl h8, hc', capM_same hc]
    obtain ⟨hi, he⟩ := List.getElem?_eq_some_iff.mp h1
    rw [← he, List.set_getElem_self]
/-- the values of a list are asked, one behind the other -/
theorem comp_asks {F : Nat → Prop} {A : Ad} {c f : Nat} {s : Int} {bs vals : List Int} {nf : Bool} {ls : List Ly} {p : St} {step : PV → HP → R (Option PV)} {z : R (List PV)}
    (hz : compG (.seq (.lst (vals.map .int))) step f 0 [] h = z) (hnf : NF nf (cask s bs)) (hR : Rep (CR c s bs) (fun n => n = c) F A ls h p.1 p.2) (hD : 3 * ls.length + 8 ≤ D) (hv : ∀ x ∈ vals, 0 ≤ x ∧ x ≤ 9999)
    (hn : p.2.ns.length + vals.length * KB nf A.tr ls ≤ lineN) (hp : A.tr = true → p.2.ps.length + vals.length * KB nf A.tr ls ≤ lineN) (hvl : vals.length ≤ 1000)
    (hs : ∀ (v : Int) h h' y, h[A.a]? = some (.ins (cls A.tr) (wfs A ls)) → fn (tb L xs) D "Way.ask" [.ref A.a, .int v] h = .ok y h' → step (.int v) h = .ok (some y) h') (hA : A.c = c := by rfl) (hf : f = (vals.map PV.int).length + 1 := by rfl) :
    ∃ h', z = .ok ((asks (mach A.tr s bs ls) vals p).1.map An.pv) h' ∧ Rep (CR c s bs) (fun n => n = c) F A ls h' (asks (mach A.tr s bs ls) vals p).2.1 (asks (mach A.tr s bs ls) vals p).2.2 ∧ Fr F h h' := by
  obtain ⟨acc, h', rfl, ea, eR, eF⟩ := comp_inv hz (vs := vals.map .int) rfl (fun i acc h' => acc = (asks (mach A.tr s bs ls) (vals.take i) p).1.map An.pv ∧ Rep (CR c s bs) (fun n => n = c) F A ls h' (asks (mach A.tr s bs ls) (vals.take i) p).2.1 (asks (mach A.tr s bs ls) (vals.take i) p).2.2 ∧ Fr F h h') ⟨rfl, hR, Fr.refl _ _⟩ (fun i x acc h' hx ⟨q1, q2, q3⟩ => by
      rw [List.getElem?_map] at hx
      cases hvi : vals[i]? with
      | none => rw [hvi] at hx; cases hx
      | some v =>
        rw [hvi] at hx
        cases hx
        obtain ⟨v0, v1⟩ := hv v (List.mem_of_getElem? hvi)
        have hle := asks_le (tr := A.tr) (ls := ls) hnf (k := 0) (vals.take i) p
        have hil : (vals.take i).length + 1 ≤ vals.length := by
          have := (List.getElem?_eq_some_iff.mp hvi).1
          rw [List.length_take]; omega
        have hil2 := Nat.mul_le_mul_right (KB nf A.tr ls) hil
        rw [Nat.succ_mul] at hil2
        have hle1 : (asks (mach A.tr s bs ls) (vals.take i) p).2.2.ns.length ≤ _ := hle.1
        have hle2 : (asks (mach A.tr s bs ls) (vals.take i) p).2.2.ps.length ≤ _ := hle.2
        obtain ⟨h2, e1, e2, e3⟩ := sp_askC (L := L) (xs := xs) hnf q2 hD v0 v1 ⟨by omega, fun t => by have := hp t; omega⟩ hA
        refine ⟨(mach A.tr s bs ls v (asks (mach A.tr s bs ls) (vals.take i) p).2).1.pv, h2, hs v h' h2 _ q2.obj e1, ?_, ?_, q3.trans e3⟩
        · rw [asks_take hvi, List.map_append, ← q1]
          rfl
        · rw [asks_take hvi]
          exact e2) (by rw [lineN_eq, List.length_map]; omega) hf
  rw [List.length_map, List.take_of_length_le (Nat.le_refl _)] at ea eR
  exact ⟨h', by rw [ea], eR, eF⟩
theorem okC_of {ns : List Int} {x : Int} {k : Nat} : okC (x % 10000) (brokenM (cellM ns k)) := by
  obtain ⟨k0, k1⟩ := mod_ok (x := x) (n := 10000) (by decide)
  exact ⟨k0, by omega, by have := brokenM_len (c := cellM ns k); omega, fun x hx => brokenM_ok hx⟩
/-- the model's facts about layers that were drawn and cut -/
theorem cap_facts {ns : List Int} {a most : Nat} {ks : List String} (hm : most ≤ 8) : lok (layersM ns a most ks) = true ∧ (layersM ns a most ks).length ≤ 8 ∧ lok (capM (layersM ns a most ks)) = true ∧ (capM (layersM ns a most ks)).length ≤ most ∧ ∀ nf tr, 100 * KB nf tr (capM (layersM ns a most ks)) ≤ lineN := by
  have h1 := layersM_ok ns a most ks
  have h2 := layersM_len ns a most ks
  have h3 := capM_len (ls := layersM ns a most ks)
  refine ⟨h1, by omega, capM_ok h1, by omega, fun nf tr => KB_cap ?_ (by omega)⟩
  have := capM_most h1
  omega
theorem words8_ok : ∀ w ∈ words8, w ∈ words8 := fun _ h => h
theorem Fr.lt {F : Nat → Prop} {h h' : HP} (hf : Fr F h h') {n : Nat} : n < h'.length ↔ n < h.length := by rw [hf.1]
/-! ### a way around a core of its own, as laws see it -/
def WayC (tr : Bool) (h : HP) (F : Nat → Prop) (a : Nat) (s : Int) (bs : List Int) (ls : List Ly) (p : St) : Prop :=
  ∃ A : Ad, A.a = a ∧ A.tr = tr ∧ Rep (CR A.c s bs) (fun n => n = A.c) F A ls h p.1 p.2 ∧ ∀ n, F n → n < h.length
section
variable {tr : Bool} {F F' : Nat → Prop} {a : Nat} {s : Int} {bs : List Int} {ls : List Ly} {p : St} {h' : HP} {cf : CF} {t : Bool} {args : List E} {σ : Sg}
theorem WayC.frame (W : WayC tr h F a s bs ls p) (hf : Fr F' h h') (hd : ∀ n, F n → ¬ F' n) : WayC tr h' F a s bs ls p := by
  obtain ⟨A, h1, h2, h3, h4⟩ := W
  exact ⟨A, h1, h2, h3.frame (core_BS (L := default) (xs := [])).frame fun n hn => hf.2 n (hd n hn), fun n hn => by rw [hf.1]; exact h4 n hn⟩
theorem WayC.old (W : WayC tr h F a s bs ls p) (hl : h.length ≤ h'.length) (he : ∀ n, n < h.length → h'[n]? = h[n]?) : WayC tr h' F a s bs ls p := by
  obtain ⟨A, h1, h2, h3, h4⟩ := W
  exact ⟨A, h1, h2, h3.frame (core_BS (L := default) (xs := [])).frame fun n hn => he n (h4 n hn), fun n hn => by have := h4 n hn; omega⟩
theorem WayC.app (W : WayC tr h F a s bs ls p) (x : HP) : WayC tr (h ++ x) F a s bs ls p := W.old (by simp) fun n hn => List.getElem?_append_left hn
theorem WayC.lt (W : WayC tr h F a s bs ls p) : ∀ n, F n → n < h.length := W.choose_spec.2.2.2
theorem WayC.set (W : WayC tr h F a s bs ls p) {n : Nat} {o : MO} (hn : ¬ F n) : WayC tr (h.set n o) F a s bs ls p := W.frame (F' := fun k => k = n) (Fr.set rfl) fun k hk e => hn (e ▸ hk)
theorem WayC.ask {nf : Bool} (W : WayC tr h F a s bs ls p) (hnf : NF nf (cask s bs)) {v : Int} (hD : 3 * ls.length + 8 ≤ D) (v0 : 0 ≤ v) (v1 : v ≤ 9999) (hn : room nf tr ls p.2) :
    ∃ h', fn (tb L xs) D "Way.ask" [.ref a, .int v] h = .ok (mach tr s bs ls v p).1.pv h' ∧ WayC tr h' F a s bs ls (mach tr s bs ls v p).2 ∧ Fr F h h' := by
  obtain ⟨A, rfl, rfl, h3, h4⟩ := W
  obtain ⟨h', e1, e2, e3⟩ := sp_askC (L := L) (xs := xs) hnf h3 hD v0 v1 hn
  exact ⟨h', e1, ⟨A, rfl, rfl, e2, fun n hn => by rw [e3.1]; exact h4 n hn⟩, e3⟩
theorem WayC.asked (W : WayC tr h F a s bs ls p) : fn (tb L xs) (D + 2) "Way.asked" [.ref a] h = .ok (.int p.2.b) h := by
  obtain ⟨A, rfl, rfl, h3, h4⟩ := W
  exact sp_askedC h3
theorem WayC.notes (W : WayC tr h F a s bs ls p) : fn (tb L xs) (D + 1) "Way.notes" [.ref a] h = .ok (.ref h.length) (h ++ [.lst (p.2.ns.map Nt.pv)]) := by
  obtain ⟨A, rfl, rfl, h3, h4⟩ := W
  exact sp_notes h3
theorem WayC.forget (W : WayC tr h F a s bs ls p) (h8 : ls.length ≤ 8) : ∃ h', fn (tb L xs) (D + 1) "Way.forget" [.ref a] h = .ok .non h' ∧ WayC tr h' (fun n => F n ∨ (h.length ≤ n ∧ n < h'.length)) a s bs ls (List.replicate ls.length {}, { p.2 with ns := [] }) ∧ (∀ n, n < h.length → n ≠ a → h'[n]? = h[n]?) ∧ h'.length = h.length + 2 + ls.length := by
  obtain ⟨A, rfl, rfl, h3, h4⟩ := W
  obtain ⟨h', e1, e2, e3, e4⟩ := sp_forget (L := L) (xs := xs) (D := D) (core_BS (L := L) (xs := xs)).frame h8 h3 h4
  refine ⟨h', e1, ⟨{ A with r := h.length, st := h.length + 1 }, rfl, rfl, e2, fun n hn => ?_⟩, e3, e4⟩
  rcases hn with hn | hn
  · have := h4 n hn; omega
  · exact hn.2
theorem WayC.mask (W : WayC tr h F a s bs ls p) : methq t "ask" args σ (tb L xs) cf (.ok (.ref a) h) = (evs (tb L xs) cf args σ h).bind fun vs h => (cf "Way.ask" (.ref a :: vs) h).bind (LW.tr t) := by
  obtain ⟨A, rfl, rfl, h3, h4⟩ := W
  exact methq_run h3.obj fg_ask mr_ask
theorem WayC.masked (W : WayC tr h F a s bs ls p) : methq t "asked" args σ (tb L xs) cf (.ok (.ref a) h) = (evs (tb L xs) cf args σ h).bind fun vs h => (cf "Way.asked" (.ref a :: vs) h).bind (LW.tr t) := by
  obtain ⟨A, rfl, rfl, h3, h4⟩ := W
  exact methq_run h3.obj fg_asked mr_asked
theorem WayC.mnotes (W : WayC tr h F a s bs ls p) : methq t "notes" args σ (tb L xs) cf (.ok (.ref a) h) = (evs (tb L xs) cf args σ h).bind fun vs h => (cf "Way.notes" (.ref a :: vs) h).bind (LW.tr t) := by
  obtain ⟨A, rfl, rfl, h3, h4⟩ := W
  exact methq_run h3.obj fg_notes mr_notes
theorem WayC.mforget (W : WayC tr h F a s bs ls p) : methq t "forget" args σ (tb L xs) cf (.ok (.ref a) h) = (evs (tb L xs) cf args σ h).bind fun vs h => (cf "Way.forget" (.ref a :: vs) h).bind (LW.tr t) := by
  obtain ⟨A, rfl, rfl, h3, h4⟩ := W
  exact methq_run h3.obj fg_forget mr_forget
/-- a new core, a new way around it -/
theorem mkWay (hl : lok ls = true) (h8 : ls.length ≤ 8) (hc : okC s bs) : ∃ H1 H : HP, fn (tb L xs) (D + 3) "Core.__init__" [.ref h.length, .int s, .tup (bs.map .int)] (h ++ [.ins "Core" []]) = .ok .non H1 ∧ H1.length = h.length + 1 ∧
    (∀ D, fn (tb L xs) (D + 5) "Way.__init__" [.ref H1.length, lpv ls, .ref h.length] (H1 ++ [.ins "Way" []]) = .ok .non H) ∧ WayC false H (wF h.length (h.length + 1) ls.length) H1.length s bs ls (fresh ls 0) ∧ H.length = h.length + 4 + ls.length ∧ (∀ n, n < h.length → H[n]? = h[n]?) ∧ H1 = h ++ [coreO s bs 0] ∧ H1[h.length]? = some (coreO s bs 0) ∧ CR h.length s bs H 0 := by
  refine ⟨h ++ [coreO s bs 0], (h ++ [coreO s bs 0]) ++ newWay "Way" (h.length + 1) h.length ls.length (lpv ls), sp_core_new hc, by simp, fun D => ?_, ?_, by simp [newWay_len]; omega, fun n hn => ?_, rfl, get_last, ?_⟩
  · have := sp_way_init (L := L) (xs := xs) (h := h ++ [coreO s bs 0]) (D := D) (c := h.length) (C := "Way") hl h8 (show (h ++ [coreO s bs 0])[h.length]? = some (.ins "Core" _) from get_last) (.inl (by simp))
    simpa using this
  · refine ⟨wA (h.length + 1) h.length, by simp [wA], rfl, core_way hl, fun n hn => ?_⟩
    simp only [List.length_append, List.length_cons, List.length_nil, newWay_len]
    rcases hn with hn | hn <;> omega
  · rw [List.append_assoc, List.getElem?_append_left hn]
  · unfold CR
    rw [List.append_assoc, List.getElem?_append_right (Nat.le_refl _), Nat.sub_self]
    rfl
end
theorem Rep.behind2 {β : Type} {BR : HP → β → Prop} {FB F : Nat → Prop} {A : Ad} {ls : List Ly} {h h' : HP} {ys : List LS} {g : G β} (hR : Rep BR FB F A ls h ys g) {b' : β} (hb : BR h' b') (hf : ∀ n, F n → ¬ FB n → h'[n]? = h[n]?) : Rep BR FB F A ls h' ys { g with b := b' } := by
  obtain ⟨es, e1, e2, e3, e4, e5⟩ := hR.ex
  exact { obj := by rw [hf _ hR.own.1 hR.own.2.1]; exact hR.obj
          rows := by rw [hf _ hR.own.2.2.1 hR.own.2.2.2.1]; exact hR.rows
          plc := fun t => by rw [hf _ (hR.ne2 t).2.2.1 (hR.ne2 t).2.2.2]; exact hR.plc t
          len := hR.len
          ex := ⟨es, by rw [hf _ hR.own.2.2.2.2.1 hR.own.2.2.2.2.2]; exact e1, e2, fun i l x e h1 h2 h3 => ent_eq (e3 i l x e h1 h2 h3) fun k hk => hf k (e4 i k (hk ▸ h3)).2.2.2.1 (e4 i k (hk ▸ h3)).2.2.2.2, e4, e5⟩
          beh := hb
          ne1 := hR.ne1, ne2 := hR.ne2, fb := hR.fb, own := hR.own, ok := hR.ok }
/-- room for the next -/
theorem room_asks {nf tr : Bool} {s : Int} {bs vals : List Int} {ls : List Ly} {p : St} (hnf : NF nf (cask s bs)) {i : Nat} (hi : i < vals.length) (hn : p.2.ns.length + vals.length * KB nf tr ls ≤ lineN) (hp : tr = true → p.2.ps.length + vals.length * KB nf tr ls ≤ lineN) : room nf tr ls (asks (mach tr s bs ls) (vals.take i) p).2.2 := by
  have hle := asks_le (tr := tr) (ls := ls) hnf (k := 0) (vals.take i) p
  have hil : (vals.take i).length + 1 ≤ vals.length := by rw [List.length_take]; omega
  have hil2 := Nat.mul_le_mul_right (KB nf tr ls) hil
  rw [Nat.succ_mul] at hil2
  have hle1 : (asks (mach tr s bs ls) (vals.take i) p).2.2.ns.length ≤ _ := hle.1
  have hle2 : (asks (mach tr s bs ls) (vals.take i) p).2.2.ps.length ≤ _ := hle.2
  exact ⟨by omega, fun t => by have := hp t; omega⟩
/-! ### what a value is worth -/
theorem dr_tup {n : Nat} {vs ws : List PV} (e : mapO (dr h n) vs = some ws) : dr h (n + 1) (.tup vs) = some (.tup ws) := by simp only [dr, e, Option.map_some]
theorem dr_lst {n : Nat} {vs ws : List PV} (e : mapO (dr h n) vs = some ws) : dr h (n + 1) (.lst vs) = some (.lst ws) := by simp only [dr, e, Option.map_some]
theorem dr_ref {n k : Nat} {vs ws : List PV} (hk : h[k]? = some (.lst vs)) (e : mapO (dr h n) vs = some ws) : dr h (n + 1) (.ref k) = some (.lst ws) := by simp only [dr, hk, e, Option.map_some]
theorem mapO_c {f : PV → Option PV} {v w : PV} {vs ws : List PV} (h1 : f v = some w) (h2 : mapO f vs = some ws) : mapO f (v :: vs) = some (w :: ws) := by simp only [mapO, h1, h2]
theorem mapO_prn {n : Nat} {vs : List PV} (hv : vs.all (fun x => prn n x) = true) : mapO (dr h n) vs = some vs := mapO_id vs fun x hx => dr_prn n x (List.all_eq_true.mp hv x hx)
theorem cmp_eq_of {a b w : PV} (h1 : dr h 40 a = some w) (h2 : dr h 40 b = some w) (hw : prn 40 w = true) : cmpv h .eq a b = some true := by
  simp only [cmpv, eqh, drN, h1, h2, eqd_refl 40 w hw]
theorem cmp_ne_of {a b w : PV} (h1 : dr h 40 a = some w) (h2 : dr h 40 b = some w) (hw : prn 40 w = true) : cmpv h .ne a b = some false := by
  simp only [cmpv, eqh, drN, h1, h2, eqd_refl 40 w hw, Option.map_some, Bool.not_true]
theorem prn_anl (n : Nat) (as : List An) : (as.map An.pv).all (fun x => prn (n + 2) x) = true := List.all_eq_true.mpr fun x hx => by
  obtain ⟨y, _, rfl⟩ := List.mem_map.mp hx
  exact prn_an n y
end
end LW
namespace LW
def d_law : Def :=
  { params := ["script"], names := ["script", "layers", "broken", "one", "two", "values", "told", "value", "answer", "core", "three", "four"], scratch := false, body :=
   [.asg (.name 1 "layers") (.call "_law_layers" [(.var 0 "script"), (.lit (.int 0)), (.lit (.int 6)), (.call "_law_kinds" [])]),
    .ife (.cmp .gt (.call "most_asks" [(.var 1 "layers")]) (.lit (.int 60)))
     [.asg (.name 1 "layers") (.slice (.var 1 "layers") none (some (.lit (.int 1))))]
     [],
    .asg (.name 2 "broken") (.call "_law_broken" [(.var 0 "script"), (.lit (.int 6))]),
    .asg (.name 3 "one") (.make "Way" [(.var 1 "layers"), (.make "Core" [(.lit (.int 3)), (.var 2 "broken")])]),
    .asg (.name 4 "two") (.make "Way" [(.var 1 "layers"), (.make "Core" [(.lit (.int 3)), (.var 2 "broken")])]),
    .asg (.name 5 "values") (.call "_law_values" [(.var 0 "script"), (.lit (.int 7)), (.lit (.int 15))]),
    .asg (.name 6 "told") (.mls []),
    .for_ (.name 7 "value") (.seq (.var 5 "values"))
     [.asg (.name 8 "answer") (.meth (.var 3 "one") "ask" [(.var 7 "value")]),
     .expr (.bmeth (.var 6 "told") .append [(.var 8 "answer")]),
     .expr (.bmeth (.meth (.var 3 "one") "notes" []) .clear []),
     .ife (.or (.cmp .ne (.meth (.var 4 "two") "ask" [(.var 7 "value")]) (.var 8 "answer")) [(.cmp .ne (.frz (.meth (.var 3 "one") "notes" [])) (.frz (.meth (.var 4 "two") "notes" []))), (.cmp .ne (.meth (.var 3 "one") "asked" []) (.meth (.var 4 "two") "asked" []))])
      [.ret (.lit (.bl false))]
      []],
    .ife (.cmp .ne (.call "run" [(.var 1 "layers"), (.lit (.int 3)), (.var 2 "broken"), (.var 5 "values")]) (.tup [(.var 6 "told"), (.frz (.meth (.var 3 "one") "notes" [])), (.meth (.var 3 "one") "asked" [])]))
     [.ret (.lit (.bl false))]
     [],
    .asg (.name 9 "core") (.make "Core" [(.lit (.int 3)), (.tup [])]),
    .asg (.name 10 "three") (.make "Way" [(.tup [(.tup [(.lit (.str "in")), (.lit (.int 1))])]), (.var 9 "core")]),
    .asg (.name 11 "four") (.make "Way" [(.tup [(.tup [(.lit (.str "out")), (.lit (.int 2))])]), (.var 9 "core")]),
    .for_ (.name 7 "value") (.seq (.var 5 "values"))
     [.ife (.or (.cmp .ne (.meth (.var 10 "three") "ask" [(.var 7 "value")]) (.tup [(.lit (.str "ok")), (.bin .mod (.bin .add (.var 7 "value") (.lit (.int 4))) (.lit (.int 10000)))])) [(.cmp .ne (.meth (.var 11 "four") "ask" [(.var 7 "value")]) (.tup [(.lit (.str "ok")), (.bin .mod (.bin .add (.var 7 "value") (.lit (.int 5))) (.lit (.int 10000)))]))])
      [.ret (.lit (.bl false))]
      []],
    .ife (.cmp .ne (.meth (.var 9 "core") "asked" []) (.bin .mul (.lit (.int 2)) (.blt .len [(.var 5 "values")])))
     [.ret (.lit (.bl false))]
     [],
    .ife (.not (.chain .eq .eq (.meth (.var 10 "three") "asked" []) (.meth (.var 11 "four") "asked" []) (.meth (.var 9 "core") "asked" [])))
     [.ret (.lit (.bl false))]
     [],
    .ret (.cmp .eq (.frz (.meth (.var 10 "three") "notes" [])) (.vls []))] }
def xs : List String := ["LayerError", "BadLayers", "BadValue", "BadCore"]
abbrev T : Tb := tb d_law xs
end LW
/-! k12 -/
namespace LW
theorem law_run {L : Def} {ns : List Int} {sc : PV} (hs : isScr sc ns) : ∃ h, exs (tb L xs) (fn (tb L xs) 99) d_law.body (d_law.start [sc]) [] = .ok (.ret (.bl true)) h := by
  obtain ⟨l0, l08, l1, l16, lK⟩ := cap_facts (ns := ns) (a := 0) (most := 6) (ks := words8) (by decide)
  have e1 : ∀ h, fn (tb L xs) 99 "_law_layers" [sc, .int 0, .int 6, .lst (words8.map .str)] h = _ := fun h => sp_layers (d := 96) hs 0 6 (by decide) words8_ok (by decide)
  have e2 : ∀ h, fn (tb L xs) 99 "_law_kinds" [] h = _ := fun h => sp_kinds (d := 98)
  have e4 : ∀ h, fn (tb L xs) 99 "_law_broken" [sc, .int 6] h = _ := fun h => sp_broken (d := 97) hs 6
  have e5 : ∀ h, fn (tb L xs) 99 "_law_values" [sc, .int 7, .int 15] h = _ := fun h => sp_values (d := 97) hs 7 15 (by decide)
  have rT : ∀ (x : Int) (h : HP), opv h .mod (.int x) (.int 10000) = some (.int (x % 10000)) := fun x h => opv_mod (by decide)
  have hc : okC 3 (brokenM (cellM ns 6)) := okC_of (ns := ns) (x := 3) (k := 6)
  have hv := fun x => @valuesM_ok ns 7 15 x
  have hvl := valuesM_len ns 7 15
  generalize layersM ns 0 6 words8 = ls0 at *
  generalize brokenM (cellM ns 6) = bs at *
  generalize valuesM ns 7 15 = vals at *
  obtain ⟨H1, H2, c1, c2, c3, W1, c5, c6, _⟩ := mkWay (L := L) (xs := xs) (D := 96) (h := []) l1 (by omega) hc
  obtain ⟨H3, H4, d1, d2, d3, W2, d5, d6, _⟩ := mkWay (L := L) (xs := xs) (D := 96) (h := H2) l1 (by omega) hc
  simp only [List.length_nil, List.nil_append] at c1 c2 c3 W1 c5
  simp -implicitDefEqProofs only [Def.start, evs, evi, evo, evIfs, asg, asgs, tr_f, tr_b, tr_l, tr_u, R.bind_ok, R.bind_exc, R.st_ok, R.calm_ok, R.of_some, Option.map_some, List.map, List.length, List.set, List.getElem?_cons_zero, List.getElem?_cons_succ, List.replicate, List.append_nil, List.cons_append, List.nil_append, List.any, Bool.or_false, Bool.not_true, Bool.not_false, isk_int, isk_bool, isk_str, isk_tuple, isk_list, isInt, isBool, isStr, isTup, asS_tup, asS_lst', asS_fls, lenh_tup, lenh_lst, lenh_fls, bltR_len, bltR_tuple, bltR_list, bltR_int, bltR_intb, bltR_min, bltR_max, opv_add, opv_sub, cmpv_lt, cmpv_le, cmpv_gt, cmpv_ge, cmpv_eqi, cmpv_nei, cmpv_eqs, cmpv_nes, cmpv_is, cmpv_isnot, G_ROUND, G_MOST_LAYERS, G_MOST_AGAIN, G_SMALL, G_MOST_FAILS, G_MOST_VALUES, G_FIGURES, G_MOST_CHOICE, fnEnd, decide_true, decide_false, if_true, itFuel, LW.wipe, opv_mod, opv_fdiv, alive_tup, alive_lst, alive_str, alive_int, alive_bl, alive_non, or_self, or_false, false_or, or_true, true_or, and_self, and_true, true_and, and_false, false_and, sub_t0, sub_t1, sub_t2, sub_l0, Int.reducePow, Int.reduceNeg, Int.reduceLE, Int.reduceLT, Int.reduceToNat, Int.reduceEq, Nat.reduceLT, Nat.reduceLeDiff, Nat.reduceAdd, Nat.reduceSub, Int.cast_ofNat_Int, Int.natCast_zero, Int.natCast_one, Int.reduceAdd, Int.reduceSub, Bool.and_self, Bool.and_true, Bool.true_and, Bool.and_false, Bool.false_and, Bool.or_true, Bool.true_or, Bool.or_self, Bool.false_or, reduceIte, reduceCtorEq, String.reduceEq, ne_eq, not_false_eq_true, not_true_eq_false, Option.getD_some, forG_tup, forG_lst, forG_etup, forG_elst, sub_word, mem2, mem3, R.st_exc, exs_nil, exs_q, seqq_nx, seqq_brk, seqq_ret, seqq_xc, ex_expr, ex_asg, exprq_ok, exprq_exc, asgr_ok, asgq_ok, asgq_exc, ex_ife, ifq_t, ifq_f, ifq_exc, ex_for, forq_ok, bodyq_run, bodyr_ok, ex_while, ex_ret, retq_ok, retq_exc, ex_retn, ex_raise, ex_try, tryq_nx, tryq_ret, tryq_xc, exh_nil, exh_q, exhq_t, exhq_f, ex_brk, ex_pass, ex_augn, ex_auga, ex_augs, ev_var, ev_lit, ev_glob, ev_bin, ev_neg, ev_not, ev_and, ev_or, andq_nil, andq_t, andq_f, orq_nil, orq_f, orq_t, ev_cmp, ev_chain, chnq, ev_ife, ifeq_t, ifeq_f, ev_call, ev_make, ev_meth, ev_cmeth, ev_blt, ev_isin, ev_bmeth, ev_attr, ev_sub, ev_slice, ev_tup, ev_vls, ev_mls, ev_dict, ev_compf, ev_compt, cmq_ok, ev_frz, forL_nil, forL_q, forLq_nx, forLq_brk, forLq_ret, forLq_xc, forG_rng, d_law, e1, e2, ↓cap_ife (D := 94) l0 l08, e4, M_Core___init__, M_Way___init__, c1, c3 94, d1, d3 94, e5]
  generalize hz : forL _ _ _ _ = z
  have er : ∀ h, fn (tb L xs) 99 "run" [lpv (capM ls0), .int 3, .tup (bs.map .int), .lst (vals.map .int)] h = .ok (runPV (runM (capM ls0) 3 bs vals)) h := fun h => sp_run (NF_false _) (by omega) l1 (by omega) hc hv (by omega) (by have := lK false false; omega)
  have W1' := W1.old (h' := H4) (by omega) d6
  let P : Nat → List An × St := fun i => asks (mach false 3 bs (capM ls0)) (vals.take i) (fresh (capM ls0) 0)
  obtain ⟨σ1, h1, rfl, o7, o8, rfl, q1, q2, q3, q4⟩ := forL_run hz (fun i σ' h' => ∃ o7 o8, σ' = [some sc, some (lpv (capM ls0)), some (.tup (bs.map .int)), some (.ref H1.length), some (.ref H3.length), some (.lst (vals.map .int)), some (.ref H4.length), o7, o8, none, none, none] ∧
      WayC false h' (wF 0 1 (capM ls0).length) H1.length 3 bs (capM ls0) (P i).2 ∧ WayC false h' (wF H2.length (H2.length + 1) (capM ls0).length) H3.length 3 bs (capM ls0) (P i).2 ∧ h'[H4.length]? = some (.lst ((P i).1.map An.pv)) ∧ H4.length < h'.length) ⟨none, none, rfl, (W1'.app _), (W2.app _), by simp [P, asks], by simp⟩ (fun i x σ' h' hx ⟨o7, o8, q0, q1, q2, q3, q4⟩ => by
    subst q0
    rw [List.getElem?_map] at hx
    cases hvi : vals[i]? with
    | none => rw [hvi] at hx; cases hx
    | some v =>
      rw [hvi] at hx
      cases hx
      obtain ⟨v0, v1⟩ := hv v (List.mem_of_getElem? hvi)
      have hil := (List.getElem?_eq_some_iff.mp hvi).1
      have hPi : P (i + 1) = ((P i).1 ++ [(mach false 3 bs (capM ls0) v (P i).2).1], (mach false 3 bs (capM ls0) v (P i).2).2) := asks_take hvi _
      have hrm : room false false (capM ls0) (P i).2.2 := room_asks (NF_false _) hil (by
        have := lK false false
        have h2 := Nat.mul_le_mul_right (KB false false (capM ls0)) (show vals.length ≤ 100 by omega)
        show 0 + vals.length * KB false false (capM ls0) ≤ _
        omega) (fun t => by cases t)
      have hPl : (P i).1.length ≤ 20 := by
        show (asks _ _ _).1.length ≤ 20
        rw [asks_len, List.length_take]; omega
      rw [hPi]
      clear hPi
      generalize P i = r at *
      obtain ⟨h2, f1, f2, f3⟩ := q1.ask (L := L) (xs := xs) (D := 99) (NF_false _) (by omega) v0 v1 hrm
      have g2 := q2.frame f3 (fun n hn hn' => by rcases hn with hn | hn <;> rcases hn' with hn' | hn' <;> omega)
      have g3 : h2[H4.length]? = some (.lst (r.1.map An.pv)) := by
        rw [f3.2 _ (fun hn => by rcases hn with hn | hn <;> omega)]
        exact q3
      generalize hm : mach false 3 bs (capM ls0) v r.2 = m at *
      have hlt : (r.1.map An.pv).length < lineN := by rw [lineN_eq, List.length_map]; omega
      have r1 : rcv h2 (.ref H4.length) .append = true := by simp only [rcv, g3]
      have r2 : bmv h2 (.ref H4.length) .append [m.1.pv] = .ok .non (h2.set H4.length (.lst ((r.1 ++ [m.1]).map An.pv))) := by
        simp only [bmv, g3, hlt, if_true, List.map_append, List.map_cons, List.map_nil]
      have nF1 : ¬ wF 0 1 (capM ls0).length H4.length := fun hn => by rcases hn with hn | hn <;> omega
      have nF2 : ¬ wF H2.length (H2.length + 1) (capM ls0).length H4.length := fun hn => by rcases hn with hn | hn <;> omega
      have f2' := f2.set (o := .lst ((r.1 ++ [m.1]).map An.pv)) nF1
      have g2' := g2.set (o := .lst ((r.1 ++ [m.1]).map An.pv)) nF2
      have g3' : (h2.set H4.length (.lst ((r.1 ++ [m.1]).map An.pv)))[H4.length]? = some (.lst ((r.1 ++ [m.1]).map An.pv)) := get_set g3
      have hl3 : (h2.set H4.length (.lst ((r.1 ++ [m.1]).map An.pv))).length = h'.length := by rw [List.length_set, f3.1]
      generalize h2.set H4.length (.lst ((r.1 ++ [m.1]).map An.pv)) = h3 at *
      -- the list told is emptied
      have r3 : rcv (h3 ++ [.lst (m.2.2.ns.map Nt.pv)]) (.ref h3.length) .clear = true := by simp [rcv]
      have r4 : bmv (h3 ++ [.lst (m.2.2.ns.map Nt.pv)]) (.ref h3.length) .clear [] = .ok .non (h3 ++ [.lst []]) := by simp [bmv]
      have g4 := g2'.app [.lst []]
      have f4 := f2'.app [.lst []]
      have g5 : (h3 ++ [.lst []])[H4.length]? = some (.lst ((r.1 ++ [m.1]).map An.pv)) := by rw [List.getElem?_append_left (by omega)]; exact g3'
      have hl4 : H4.length < (h3 ++ [MO.lst []]).length := by simp; omega
      generalize h3 ++ [MO.lst []] = h4 at *
      obtain ⟨h5, k1, k2, k3⟩ := g4.ask (L := L) (xs := xs) (D := 99) (NF_false _) (by omega) v0 v1 hrm
      rw [hm] at k1 k2
      have f5 := f4.frame k3 (fun n hn hn' => by rcases hn with hn | hn <;> rcases hn' with hn' | hn' <;> omega)
      have g6 : h5[H4.length]? = some (.lst ((r.1 ++ [m.1]).map An.pv)) := by rw [k3.2 _ nF2]; exact g5
      have f6 := f5.app [.dead]
      have k6 := k2.app [.dead]
      have g7 : (h5 ++ [.dead])[H4.length]? = some (.lst ((r.1 ++ [m.1]).map An.pv)) := by rw [List.getElem?_append_left (by rw [k3.1]; exact hl4)]; exact g6
      have hl6 : H4.length < (h5 ++ [MO.dead]).length := by rw [List.length_append, k3.1]; omega
      have nt1 := f5.notes (L := L) (xs := xs) (D := 98)
      have fz1 := frz_last (h := h5) (vs := m.2.2.ns.map Nt.pv)
      generalize h5 ++ [MO.dead] = h6 at *
      have f7 := f6.app [.dead]
      have k7 := k6.app [.dead]
      have g8 : (h6 ++ [.dead])[H4.length]? = some (.lst ((r.1 ++ [m.1]).map An.pv)) := by rw [List.getElem?_append_left hl6]; exact g7
      have hl7 : H4.length < (h6 ++ [MO.dead]).length := by rw [List.length_append]; omega
      have nt2 := k6.notes (L := L) (xs := xs) (D := 98)
      have fz2 := frz_last (h := h6) (vs := m.2.2.ns.map Nt.pv)
      generalize h6 ++ [MO.dead] = h7 at *
      refine ⟨_, h7, ?_, some (.int v), some m.1.pv, rfl, f7, k7, g8, hl7⟩
      have na : ∀ h, cmpv h .ne m.1.pv m.1.pv = some false := fun h => ne_self (prn_an 7 m.1)
      have nb : ∀ h, cmpv h .ne (.lst (m.2.2.ns.map Nt.pv)) (.lst (m.2.2.ns.map Nt.pv)) = some false := fun h => ne_self (prn_nts 5 m.2.2.ns)
      have nt0 := f2'.notes (L := L) (xs := xs) (D := 98)
      have as1 := f7.asked (L := L) (xs := xs) (D := 97)
      have as2 := k7.asked (L := L) (xs := xs) (D := 97)
      simp -implicitDefEqProofs only [Def.start, evs, evi, evo, evIfs, asg, asgs, tr_f, tr_b, tr_l, tr_u, R.bind_ok, R.bind_exc, R.st_ok, R.calm_ok, R.of_some, Option.map_some, List.map, List.length, List.set, List.getElem?_cons_zero, List.getElem?_cons_succ, List.replicate, List.append_nil, List.cons_append, List.nil_append, List.any, Bool.or_false, Bool.not_true, Bool.not_false, isk_int, isk_bool, isk_str, isk_tuple, isk_list, isInt, isBool, isStr, isTup, asS_tup, asS_lst', asS_fls, lenh_tup, lenh_lst, lenh_fls, bltR_len, bltR_tuple, bltR_list, bltR_int, bltR_intb, bltR_min, bltR_max, opv_add, opv_sub, cmpv_lt, cmpv_le, cmpv_gt, cmpv_ge, cmpv_eqi, cmpv_nei, cmpv_eqs, cmpv_nes, cmpv_is, cmpv_isnot, G_ROUND, G_MOST_LAYERS, G_MOST_AGAIN, G_SMALL, G_MOST_FAILS, G_MOST_VALUES, G_FIGURES, G_MOST_CHOICE, fnEnd, decide_true, decide_false, if_true, itFuel, LW.wipe, opv_mod, opv_fdiv, alive_tup, alive_lst, alive_str, alive_int, alive_bl, alive_non, or_self, or_false, false_or, or_true, true_or, and_self, and_true, true_and, and_false, false_and, sub_t0, sub_t1, sub_t2, sub_l0, Int.reducePow, Int.reduceNeg, Int.reduceLE, Int.reduceLT, Int.reduceToNat, Int.reduceEq, Nat.reduceLT, Nat.reduceLeDiff, Nat.reduceAdd, Nat.reduceSub, Int.cast_ofNat_Int, Int.natCast_zero, Int.natCast_one, Int.reduceAdd, Int.reduceSub, Bool.and_self, Bool.and_true, Bool.true_and, Bool.and_false, Bool.false_and, Bool.or_true, Bool.true_or, Bool.or_self, Bool.false_or, reduceIte, reduceCtorEq, String.reduceEq, ne_eq, not_false_eq_true, not_true_eq_false, Option.getD_some, forG_tup, forG_lst, forG_etup, forG_elst, sub_word, mem2, mem3, R.st_exc, exs_nil, exs_q, seqq_nx, seqq_brk, seqq_ret, seqq_xc, ex_expr, ex_asg, exprq_ok, exprq_exc, asgr_ok, asgq_ok, asgq_exc, ex_ife, ifq_t, ifq_f, ifq_exc, ex_for, forq_ok, bodyq_run, bodyr_ok, ex_while, ex_ret, retq_ok, retq_exc, ex_retn, ex_raise, ex_try, tryq_nx, tryq_ret, tryq_xc, exh_nil, exh_q, exhq_t, exhq_f, ex_brk, ex_pass, ex_augn, ex_auga, ex_augs, ev_var, ev_lit, ev_glob, ev_bin, ev_neg, ev_not, ev_and, ev_or, andq_nil, andq_t, andq_f, orq_nil, orq_f, orq_t, ev_cmp, ev_chain, chnq, ev_ife, ifeq_t, ifeq_f, ev_call, ev_make, ev_meth, ev_cmeth, ev_blt, ev_isin, ev_bmeth, ev_attr, ev_sub, ev_slice, ev_tup, ev_vls, ev_mls, ev_dict, ev_compf, ev_compt, cmq_ok, ev_frz, forL_nil, forL_q, forLq_nx, forLq_brk, forLq_ret, forLq_xc, forG_rng, q1.mask, f1, r1, r2, f2'.mnotes, nt0, r3, r4, g4.mask, k1, na, f5.mnotes, nt1, fz1, k6.mnotes, nt2, fz2, nb, f7.masked, as1, k7.masked, as2])
  rw [List.length_map] at q1 q2 q3
  have hPn : P vals.length = runM (capM ls0) 3 bs vals := by
    show asks _ (vals.take vals.length) _ = _
    rw [List.take_of_length_le (Nat.le_refl _)]
    rfl
  rw [hPn] at q1 q2 q3
  clear hz hPn
  clear_value P
  have pr := prn_run (runM (capM ls0) 3 bs vals)
  generalize runM (capM ls0) 3 bs vals = r at *
  have nt1 := q1.notes (L := L) (xs := xs) (D := 98)
  have fz1 := frz_last (h := h1) (vs := r.2.2.ns.map Nt.pv)
  have q5 := q1.app [.dead]
  have g5 : (h1 ++ [.dead])[H4.length]? = some (.lst (r.1.map An.pv)) := by rw [List.getElem?_append_left q4]; exact q3
  generalize h1 ++ [MO.dead] = h2 at *
  have as1 := q5.asked (L := L) (xs := xs) (D := 97)
  have na : cmpv h2 .ne (.tup [.lst (r.1.map An.pv), .lst (r.2.2.ns.map Nt.pv), .int r.2.2.b]) (.tup [.ref H4.length, .lst (r.2.2.ns.map Nt.pv), .int r.2.2.b]) = some false := by
    have h4 := prn_mono 9 40 _ (by omega) pr
    exact cmp_ne_of (dr_prn 40 _ h4) (dr_tup (mapO_c (dr_ref g5 (mapO_prn (prn_anl 36 r.1))) (mapO_c (dr_prn 39 _ (prn_nts 35 r.2.2.ns)) (mapO_c rfl rfl)))) h4
  simp -implicitDefEqProofs only [Def.start, evs, evi, evo, evIfs, asg, asgs, tr_f, tr_b, tr_l, tr_u, R.bind_ok, R.bind_exc, R.st_ok, R.calm_ok, R.of_some, Option.map_some, List.map, List.length, List.set, List.getElem?_cons_zero, List.getElem?_cons_succ, List.replicate, List.append_nil, List.cons_append, List.nil_append, List.any, Bool.or_false, Bool.not_true, Bool.not_false, isk_int, isk_bool, isk_str, isk_tuple, isk_list, isInt, isBool, isStr, isTup, asS_tup, asS_lst', asS_fls, lenh_tup, lenh_lst, lenh_fls, bltR_len, bltR_tuple, bltR_list, bltR_int, bltR_intb, bltR_min, bltR_max, opv_add, opv_sub, cmpv_lt, cmpv_le, cmpv_gt, cmpv_ge, cmpv_eqi, cmpv_nei, cmpv_eqs, cmpv_nes, cmpv_is, cmpv_isnot, G_ROUND, G_MOST_LAYERS, G_MOST_AGAIN, G_SMALL, G_MOST_FAILS, G_MOST_VALUES, G_FIGURES, G_MOST_CHOICE, fnEnd, decide_true, decide_false, if_true, itFuel, LW.wipe, opv_mod, opv_fdiv, alive_tup, alive_lst, alive_str, alive_int, alive_bl, alive_non, or_self, or_false, false_or, or_true, true_or, and_self, and_true, true_and, and_false, false_and, sub_t0, sub_t1, sub_t2, sub_l0, Int.reducePow, Int.reduceNeg, Int.reduceLE, Int.reduceLT, Int.reduceToNat, Int.reduceEq, Nat.reduceLT, Nat.reduceLeDiff, Nat.reduceAdd, Nat.reduceSub, Int.cast_ofNat_Int, Int.natCast_zero, Int.natCast_one, Int.reduceAdd, Int.reduceSub, Bool.and_self, Bool.and_true, Bool.true_and, Bool.and_false, Bool.false_and, Bool.or_true, Bool.true_or, Bool.or_self, Bool.false_or, reduceIte, reduceCtorEq, String.reduceEq, ne_eq, not_false_eq_true, not_true_eq_false, Option.getD_some, forG_tup, forG_lst, forG_etup, forG_elst, sub_word, mem2, mem3, R.st_exc, exs_nil, exs_q, seqq_nx, seqq_brk, seqq_ret, seqq_xc, ex_expr, ex_asg, exprq_ok, exprq_exc, asgr_ok, asgq_ok, asgq_exc, ex_ife, ifq_t, ifq_f, ifq_exc, ex_for, forq_ok, bodyq_run, bodyr_ok, ex_while, ex_ret, retq_ok, retq_exc, ex_retn, ex_raise, ex_try, tryq_nx, tryq_ret, tryq_xc, exh_nil, exh_q, exhq_t, exhq_f, ex_brk, ex_pass, ex_augn, ex_auga, ex_augs, ev_var, ev_lit, ev_glob, ev_bin, ev_neg, ev_not, ev_and, ev_or, andq_nil, andq_t, andq_f, orq_nil, orq_f, orq_t, ev_cmp, ev_chain, chnq, ev_ife, ifeq_t, ifeq_f, ev_call, ev_make, ev_meth, ev_cmeth, ev_blt, ev_isin, ev_bmeth, ev_attr, ev_sub, ev_slice, ev_tup, ev_vls, ev_mls, ev_dict, ev_compf, ev_compt, cmq_ok, ev_frz, forL_nil, forL_q, forLq_nx, forLq_brk, forLq_ret, forLq_xc, forG_rng, er, runPV, ansPV, ntsPV, q1.mnotes, nt1, fz1, q5.masked, as1, na]
  clear nt1 fz1 na as1 q1 q2 q3 q4 q5 g5 er d1 d2 d3 d5 d6 c1 c2 c3 c5 c6 W1 W2 W1'
  have k3 : lok [Ly.inn 1] = true := by decide
  have k4 : lok [Ly.out 2] = true := by decide
  have hc0 : okC 3 [] := ⟨by decide, by decide, by decide, fun x hx => by cases hx⟩
  have cn := sp_core_new (L := L) (xs := xs) (h := h2) (D := 96) hc0
  have w3 := sp_way_init (L := L) (xs := xs) (h := h2 ++ [coreO 3 [] 0]) (D := 94) (c := h2.length) (C := "Way") k3 (by decide) (show (h2 ++ [coreO 3 [] 0])[h2.length]? = some (.ins "Core" _) from get_last) (.inl (by simp))
  have R3 := core_way (h := h2) (ls := [Ly.inn 1]) k3 (s := 3) (bs := [])
  have hcl : CR h2.length 3 [] ((h2 ++ [coreO 3 [] 0]) ++ newWay "Way" (h2.length + 1) h2.length 1 (lpv [Ly.inn 1])) 0 := R3.beh
  have hl3 : ((h2 ++ [coreO 3 [] 0]) ++ newWay "Way" (h2.length + 1) h2.length 1 (lpv [Ly.inn 1])).length = h2.length + 5 := by simp [newWay_len]
  have l1 : (h2 ++ [coreO 3 [] 0]).length = h2.length + 1 := by simp
  simp only [l1, List.length_cons, List.length_nil, Nat.zero_add] at w3 R3
  generalize (h2 ++ [coreO 3 [] 0]) ++ newWay "Way" (h2.length + 1) h2.length 1 (lpv [Ly.inn 1]) = H3 at *
  have w4 := sp_way_init (L := L) (xs := xs) (h := H3) (D := 94) (c := h2.length) (C := "Way") k4 (by decide) hcl (.inl (by simp))
  have R4 := newRep (h := H3) (BR := CR h2.length 3 []) (FB := fun n => n = h2.length) (b := (0 : Int)) (c := h2.length) (ls := [Ly.out 2]) (by
    unfold CR
    rw [List.getElem?_append_left (by omega)]
    exact hcl) (fun n hn => by omega) k4
  have R3' := R3.frame (h' := H3 ++ newWay "Way" H3.length h2.length 1 (lpv [Ly.out 2])) (core_BS (L := L) (xs := xs)).frame (fun n hn => List.getElem?_append_left (by rcases hn with hn | hn <;> omega))
  simp only [List.length_cons, List.length_nil, Nat.zero_add] at w4 R4
  have hl4 : (H3 ++ newWay "Way" H3.length h2.length 1 (lpv [Ly.out 2])).length = h2.length + 9 := by simp [newWay_len]; omega
  generalize H3 ++ newWay "Way" H3.length h2.length 1 (lpv [Ly.out 2]) = H4' at *
  have lp3 : lpv [Ly.inn 1] = .tup [.tup [.str "in", .int 1]] := rfl
  have lp4 : lpv [Ly.out 2] = .tup [.tup [.str "out", .int 2]] := rfl
  rw [lp3] at w3
  rw [lp4] at w4
  have cn' : fn (tb L xs) 99 "Core.__init__" [.ref h2.length, .int 3, .tup []] (h2 ++ [.ins "Core" []]) = .ok .non (h2 ++ [coreO 3 [] 0]) := cn
  simp -implicitDefEqProofs only [Def.start, evs, evi, evo, evIfs, asg, asgs, tr_f, tr_b, tr_l, tr_u, R.bind_ok, R.bind_exc, R.st_ok, R.calm_ok, R.of_some, Option.map_some, List.map, List.length, List.set, List.getElem?_cons_zero, List.getElem?_cons_succ, List.replicate, List.append_nil, List.cons_append, List.nil_append, List.any, Bool.or_false, Bool.not_true, Bool.not_false, isk_int, isk_bool, isk_str, isk_tuple, isk_list, isInt, isBool, isStr, isTup, asS_tup, asS_lst', asS_fls, lenh_tup, lenh_lst, lenh_fls, bltR_len, bltR_tuple, bltR_list, bltR_int, bltR_intb, bltR_min, bltR_max, opv_add, opv_sub, cmpv_lt, cmpv_le, cmpv_gt, cmpv_ge, cmpv_eqi, cmpv_nei, cmpv_eqs, cmpv_nes, cmpv_is, cmpv_isnot, G_ROUND, G_MOST_LAYERS, G_MOST_AGAIN, G_SMALL, G_MOST_FAILS, G_MOST_VALUES, G_FIGURES, G_MOST_CHOICE, fnEnd, decide_true, decide_false, if_true, itFuel, LW.wipe, opv_mod, opv_fdiv, alive_tup, alive_lst, alive_str, alive_int, alive_bl, alive_non, or_self, or_false, false_or, or_true, true_or, and_self, and_true, true_and, and_false, false_and, sub_t0, sub_t1, sub_t2, sub_l0, Int.reducePow, Int.reduceNeg, Int.reduceLE, Int.reduceLT, Int.reduceToNat, Int.reduceEq, Nat.reduceLT, Nat.reduceLeDiff, Nat.reduceAdd, Nat.reduceSub, Int.cast_ofNat_Int, Int.natCast_zero, Int.natCast_one, Int.reduceAdd, Int.reduceSub, Bool.and_self, Bool.and_true, Bool.true_and, Bool.and_false, Bool.false_and, Bool.or_true, Bool.true_or, Bool.or_self, Bool.false_or, reduceIte, reduceCtorEq, String.reduceEq, ne_eq, not_false_eq_true, not_true_eq_false, Option.getD_some, forG_tup, forG_lst, forG_etup, forG_elst, sub_word, mem2, mem3, R.st_exc, exs_nil, exs_q, seqq_nx, seqq_brk, seqq_ret, seqq_xc, ex_expr, ex_asg, exprq_ok, exprq_exc, asgr_ok, asgq_ok, asgq_exc, ex_ife, ifq_t, ifq_f, ifq_exc, ex_for, forq_ok, bodyq_run, bodyr_ok, ex_while, ex_ret, retq_ok, retq_exc, ex_retn, ex_raise, ex_try, tryq_nx, tryq_ret, tryq_xc, exh_nil, exh_q, exhq_t, exhq_f, ex_brk, ex_pass, ex_augn, ex_auga, ex_augs, ev_var, ev_lit, ev_glob, ev_bin, ev_neg, ev_not, ev_and, ev_or, andq_nil, andq_t, andq_f, orq_nil, orq_f, orq_t, ev_cmp, ev_chain, chnq, ev_ife, ifeq_t, ifeq_f, ev_call, ev_make, ev_meth, ev_cmeth, ev_blt, ev_isin, ev_bmeth, ev_attr, ev_sub, ev_slice, ev_tup, ev_vls, ev_mls, ev_dict, ev_compf, ev_compt, cmq_ok, ev_frz, forL_nil, forL_q, forLq_nx, forLq_brk, forLq_ret, forLq_xc, forG_rng, M_Core___init__, M_Way___init__, cn', l1, w3, w4]
  generalize hz : forL _ _ _ _ = z
  obtain ⟨σ1, h1, rfl, o7', rfl, q1, q2, q3⟩ := forL_run hz (fun i σ' h' => ∃ o7, σ' = [some sc, some (lpv (capM ls0)), some (.tup (bs.map .int)), some (.ref H1.length), some (.ref _), some (.lst (vals.map .int)), some (.ref H4.length), o7, o8, some (.ref h2.length), some (.ref (h2.length + 1)), some (.ref H3.length)] ∧
      Rep (CR h2.length 3 []) (fun n => n = h2.length) (wF h2.length (h2.length + 1) 1) (wA (h2.length + 1) h2.length) [Ly.inn 1] h' [{}] { b := 2 * (i : Int), ns := [], ps := [] } ∧
      Rep (CR h2.length 3 []) (fun n => n = h2.length) (fun n => n = h2.length ∨ H3.length ≤ n ∧ n < H3.length + 3 + 1) { a := H3.length, r := H3.length + 1, st := H3.length + 2, c := h2.length, p := 0, tr := false } [Ly.out 2] h' [{}] { b := 2 * (i : Int), ns := [], ps := [] } ∧ h'.length = h2.length + 9) ⟨_, rfl, R3', R4, hl4⟩ (fun i x σ' h' hx ⟨o7, q0, q1, q2, q3⟩ => by
    subst q0
    rw [List.getElem?_map] at hx
    cases hvi : vals[i]? with
    | none => rw [hvi] at hx; cases hx
    | some v =>
      rw [hvi] at hx
      cases hx
      obtain ⟨v0, v1⟩ := hv v (List.mem_of_getElem? hvi)
      obtain ⟨h3, f1, f2, f3⟩ := sp_askC (L := L) (xs := xs) (D := 99) (nf := false) (NF_false _) q1 (by decide) v0 v1 ⟨by show 0 + KB false false [Ly.inn 1] ≤ lineN; rw [lineN_eq]; decide, fun t => by cases t⟩
      have em : ∀ m : Int, mach (wA (h2.length + 1) h2.length).tr 3 [] [Ly.inn 1] v ([{}], { b := m, ns := [], ps := [] }) = (.ok (((v + 1) % 10000 + 3) % 10000), ([{}], { b := m + 1, ns := [], ps := [] })) := fun m => rfl
      rw [em] at f1 f2
      have g2 := q2.behind2 (h' := h3) (b' := 2 * (i : Int) + 1) f2.beh (fun n hn hn' => f3.2 n fun hm => by
        rcases hm with hm | hm
        · exact hn' hm
        · rcases hn with hn | hn <;> omega)
      obtain ⟨h4, k1, k2, k3⟩ := sp_askC (L := L) (xs := xs) (D := 99) (nf := false) (NF_false _) g2 (by decide) v0 v1 ⟨by show 0 + KB false false [Ly.out 2] ≤ lineN; rw [lineN_eq]; decide, fun t => by cases t⟩
      have em2 : ∀ m : Int, mach false 3 [] [Ly.out 2] v ([{}], { b := m, ns := [], ps := [] }) = (.ok (((v + 3) % 10000 + 2) % 10000), ([{}], { b := m + 1, ns := [], ps := [] })) := fun m => rfl
      rw [em2] at k1 k2
      have f5 := f2.behind2 (h' := h4) (b' := 2 * (i : Int) + 1 + 1) k2.beh (fun n hn hn' => k3.2 n fun hm => by
        rcases hm with hm | hm
        · exact hn' hm
        · rcases hn with hn | hn <;> omega)
      have e2i : 2 * (i : Int) + 1 + 1 = 2 * ((i + 1 : Nat) : Int) := by omega
      refine ⟨_, h4, ?_, some (.int v), rfl, by rw [← e2i]; exact f5, by rw [← e2i]; exact k2, by rw [k3.1, f3.1]; exact q3⟩
      have a1 : (An.ok (((v + 1) % 10000 + 3) % 10000)).pv = .tup [.str "ok", .int ((v + 4) % 10000)] := by
        simp only [An.pv]
        congr 4
        omega
      have a2 : (An.ok (((v + 3) % 10000 + 2) % 10000)).pv = .tup [.str "ok", .int ((v + 5) % 10000)] := by
        simp only [An.pv]
        congr 4
        omega
      have na : ∀ (h : HP) (y : Int), cmpv h .ne (.tup [.str "ok", .int y]) (.tup [.str "ok", .int y]) = some false := fun h y => ne_self rfl
      have o3 := q1.obj
      have o4 := g2.obj
      have m3 : (tb L xs).mr (cls (wA (h2.length + 1) h2.length).tr) "ask" = some "Way.ask" := mr_ask
      have m4 : (tb L xs).mr (cls false) "ask" = some "Way.ask" := mr_ask
      have g1 : (wA (h2.length + 1) h2.length).a = h2.length + 1 := rfl
      rw [g1] at o3 f1
      simp only at o4 k1
      simp -implicitDefEqProofs only [Def.start, evs, evi, evo, evIfs, asg, asgs, tr_f, tr_b, tr_l, tr_u, R.bind_ok, R.bind_exc, R.st_ok, R.calm_ok, R.of_some, Option.map_some, List.map, List.length, List.set, List.getElem?_cons_zero, List.getElem?_cons_succ, List.replicate, List.append_nil, List.cons_append, List.nil_append, List.any, Bool.or_false, Bool.not_true, Bool.not_false, isk_int, isk_bool, isk_str, isk_tuple, isk_list, isInt, isBool, isStr, isTup, asS_tup, asS_lst', asS_fls, lenh_tup, lenh_lst, lenh_fls, bltR_len, bltR_tuple, bltR_list, bltR_int, bltR_intb, bltR_min, bltR_max, opv_add, opv_sub, cmpv_lt, cmpv_le, cmpv_gt, cmpv_ge, cmpv_eqi, cmpv_nei, cmpv_eqs, cmpv_nes, cmpv_is, cmpv_isnot, G_ROUND, G_MOST_LAYERS, G_MOST_AGAIN, G_SMALL, G_MOST_FAILS, G_MOST_VALUES, G_FIGURES, G_MOST_CHOICE, fnEnd, decide_true, decide_false, if_true, itFuel, LW.wipe, opv_mod, opv_fdiv, alive_tup, alive_lst, alive_str, alive_int, alive_bl, alive_non, or_self, or_false, false_or, or_true, true_or, and_self, and_true, true_and, and_false, false_and, sub_t0, sub_t1, sub_t2, sub_l0, Int.reducePow, Int.reduceNeg, Int.reduceLE, Int.reduceLT, Int.reduceToNat, Int.reduceEq, Nat.reduceLT, Nat.reduceLeDiff, Nat.reduceAdd, Nat.reduceSub, Int.cast_ofNat_Int, Int.natCast_zero, Int.natCast_one, Int.reduceAdd, Int.reduceSub, Bool.and_self, Bool.and_true, Bool.true_and, Bool.and_false, Bool.false_and, Bool.or_true, Bool.true_or, Bool.or_self, Bool.false_or, reduceIte, reduceCtorEq, String.reduceEq, ne_eq, not_false_eq_true, not_true_eq_false, Option.getD_some, forG_tup, forG_lst, forG_etup, forG_elst, sub_word, mem2, mem3, R.st_exc, exs_nil, exs_q, seqq_nx, seqq_brk, seqq_ret, seqq_xc, ex_expr, ex_asg, exprq_ok, exprq_exc, asgr_ok, asgq_ok, asgq_exc, ex_ife, ifq_t, ifq_f, ifq_exc, ex_for, forq_ok, bodyq_run, bodyr_ok, ex_while, ex_ret, retq_ok, retq_exc, ex_retn, ex_raise, ex_try, tryq_nx, tryq_ret, tryq_xc, exh_nil, exh_q, exhq_t, exhq_f, ex_brk, ex_pass, ex_augn, ex_auga, ex_augs, ev_var, ev_lit, ev_glob, ev_bin, ev_neg, ev_not, ev_and, ev_or, andq_nil, andq_t, andq_f, orq_nil, orq_f, orq_t, ev_cmp, ev_chain, chnq, ev_ife, ifeq_t, ifeq_f, ev_call, ev_make, ev_meth, ev_cmeth, ev_blt, ev_isin, ev_bmeth, ev_attr, ev_sub, ev_slice, ev_tup, ev_vls, ev_mls, ev_dict, ev_compf, ev_compt, cmq_ok, ev_frz, forL_nil, forL_q, forLq_nx, forLq_brk, forLq_ret, forLq_xc, forG_rng, methq_run o3 fg_ask m3, f1, a1, rT, na, methq_run o4 fg_ask m4, k1, a2])
  rw [List.length_map] at q1 q2
  have b1 := q1.beh
  have cc := sp_core_asked (L := L) (xs := xs) (d := 98) b1
  have fa : fgetv [("step", PV.int 3), ("broken", .tup (([] : List Int).map .int)), ("many", .int (2 * (vals.length : Int)))] "asked" = none := by simp [fgetv]
  have w1 := sp_askedC (L := L) (xs := xs) (D := 97) q1
  have w2 := sp_askedC (L := L) (xs := xs) (D := 97) q2
  have n1 := sp_notes (L := L) (xs := xs) (D := 98) q1
  have o3 := q1.obj
  have o4 := q2.obj
  have m3 : ∀ m f, (tb L xs).mr "Way" m = some f → (tb L xs).mr (cls (wA (h2.length + 1) h2.length).tr) m = some f := fun m f e => e
  have m4 : ∀ m f, (tb L xs).mr "Way" m = some f → (tb L xs).mr (cls false) m = some f := fun m f e => e
  have g1 : (wA (h2.length + 1) h2.length).a = h2.length + 1 := rfl
  rw [g1] at o3 w1 n1
  simp only at o4 w2
  have om : ∀ h, opv h .mul (.int 2) (.int ((vals.map PV.int).length : Nat)) = some (.int (2 * (vals.length : Int))) := fun h => by
    rw [opv_mul (.inl (by decide)), List.length_map]
  have ec : ∀ h, cmpv h .eq (.lst []) (.lst []) = some true := fun h => rfl
  have fz := frz_last (h := h1) (vs := [])
  refine ⟨h1 ++ [.dead], ?_⟩
  simp -implicitDefEqProofs only [Def.start, evs, evi, evo, evIfs, asg, asgs, tr_f, tr_b, tr_l, tr_u, R.bind_ok, R.bind_exc, R.st_ok, R.calm_ok, R.of_some, Option.map_some, List.map, List.length, List.set, List.getElem?_cons_zero, List.getElem?_cons_succ, List.replicate, List.append_nil, List.cons_append, List.nil_append, List.any, Bool.or_false, Bool.not_true, Bool.not_false, isk_int, isk_bool, isk_str, isk_tuple, isk_list, isInt, isBool, isStr, isTup, asS_tup, asS_lst', asS_fls, lenh_tup, lenh_lst, lenh_fls, bltR_len, bltR_tuple, bltR_list, bltR_int, bltR_intb, bltR_min, bltR_max, opv_add, opv_sub, cmpv_lt, cmpv_le, cmpv_gt, cmpv_ge, cmpv_eqi, cmpv_nei, cmpv_eqs, cmpv_nes, cmpv_is, cmpv_isnot, G_ROUND, G_MOST_LAYERS, G_MOST_AGAIN, G_SMALL, G_MOST_FAILS, G_MOST_VALUES, G_FIGURES, G_MOST_CHOICE, fnEnd, decide_true, decide_false, if_true, itFuel, LW.wipe, opv_mod, opv_fdiv, alive_tup, alive_lst, alive_str, alive_int, alive_bl, alive_non, or_self, or_false, false_or, or_true, true_or, and_self, and_true, true_and, and_false, false_and, sub_t0, sub_t1, sub_t2, sub_l0, Int.reducePow, Int.reduceNeg, Int.reduceLE, Int.reduceLT, Int.reduceToNat, Int.reduceEq, Nat.reduceLT, Nat.reduceLeDiff, Nat.reduceAdd, Nat.reduceSub, Int.cast_ofNat_Int, Int.natCast_zero, Int.natCast_one, Int.reduceAdd, Int.reduceSub, Bool.and_self, Bool.and_true, Bool.true_and, Bool.and_false, Bool.false_and, Bool.or_true, Bool.true_or, Bool.or_self, Bool.false_or, reduceIte, reduceCtorEq, String.reduceEq, ne_eq, not_false_eq_true, not_true_eq_false, Option.getD_some, forG_tup, forG_lst, forG_etup, forG_elst, sub_word, mem2, mem3, R.st_exc, exs_nil, exs_q, seqq_nx, seqq_brk, seqq_ret, seqq_xc, ex_expr, ex_asg, exprq_ok, exprq_exc, asgr_ok, asgq_ok, asgq_exc, ex_ife, ifq_t, ifq_f, ifq_exc, ex_for, forq_ok, bodyq_run, bodyr_ok, ex_while, ex_ret, retq_ok, retq_exc, ex_retn, ex_raise, ex_try, tryq_nx, tryq_ret, tryq_xc, exh_nil, exh_q, exhq_t, exhq_f, ex_brk, ex_pass, ex_augn, ex_auga, ex_augs, ev_var, ev_lit, ev_glob, ev_bin, ev_neg, ev_not, ev_and, ev_or, andq_nil, andq_t, andq_f, orq_nil, orq_f, orq_t, ev_cmp, ev_chain, chnq, ev_ife, ifeq_t, ifeq_f, ev_call, ev_make, ev_meth, ev_cmeth, ev_blt, ev_isin, ev_bmeth, ev_attr, ev_sub, ev_slice, ev_tup, ev_vls, ev_mls, ev_dict, ev_compf, ev_compt, cmq_ok, ev_frz, forL_nil, forL_q, forLq_nx, forLq_brk, forLq_ret, forLq_xc, forG_rng, methq_run b1 fa M_Core_asked, cc, om, methq_run o3 fg_asked (m3 _ _ M_Way_asked), w1, methq_run o4 fg_asked (m4 _ _ M_Way_asked), w2, _root_.eq_self, methq_run o3 fg_notes (m3 _ _ M_Way_notes), n1, fz, ec]
theorem law_ok : ∀ ns : List Int, ns.length ≤ 63 → ∃ h, fn T (99 + 1) "law" [.fls (ns.map .int)] [] = .ok (.bl true) h := by
  intro ns _
  obtain ⟨h, e⟩ := law_run (L := d_law) (ns := ns) (sc := .fls (ns.map .int)) (.inl rfl)
  exact ⟨h, law_of rfl rfl e⟩
end LW
namespace LW
open PySem PySem.Spec PyProof.Rows L2
def top (i : Nat) : Stmt := PySem.Challenge.pw_layerway_k12_nothing_is_kept.main.body.getD i (.Pass ⟨0, 0, 0, 0⟩)
def ds : Dfs := [
  ("is_within", ⟨("is_within", none), "is_within", "is_within", defArgs (top 11), defBody (top 11), defScope (top 11), [], []⟩),
  ("is_value", ⟨("is_value", none), "is_value", "is_value", defArgs (top 12), defBody (top 12), defScope (top 12), [], []⟩),
  ("is_word", ⟨("is_word", none), "is_word", "is_word", defArgs (top 13), defBody (top 13), defScope (top 13), [], []⟩),
  ("is_layer", ⟨("is_layer", none), "is_layer", "is_layer", defArgs (top 14), defBody (top 14), defScope (top 14), [], []⟩),
  ("checked", ⟨("checked", none), "checked", "checked", defArgs (top 15), defBody (top 15), defScope (top 15), [], []⟩),
  ("look_value", ⟨("look_value", none), "look_value", "look_value", defArgs (top 16), defBody (top 16), defScope (top 16), [], []⟩),
  ("can_fail", ⟨("can_fail", none), "can_fail", "can_fail", defArgs (top 17), defBody (top 17), defScope (top 17), [], []⟩),
  ("most_asks", ⟨("most_asks", none), "most_asks", "most_asks", defArgs (top 18), defBody (top 18), defScope (top 18), [], []⟩),
  ("Core.__init__", ⟨("Core", some "__init__"), "__init__", "Core.__init__", defArgs (inClass (top 21) 0), defBody (inClass (top 21) 0), defScope (inClass (top 21) 0), [], []⟩),
  ("Core.ask", ⟨("Core", some "ask"), "ask", "Core.ask", defArgs (inClass (top 21) 1), defBody (inClass (top 21) 1), defScope (inClass (top 21) 1), [], []⟩),
  ("Core.asked", ⟨("Core", some "asked"), "asked", "Core.asked", defArgs (inClass (top 21) 2), defBody (inClass (top 21) 2), defScope (inClass (top 21) 2), [], []⟩),
  ("Way.__init__", ⟨("Way", some "__init__"), "__init__", "Way.__init__", defArgs (inClass (top 22) 0), defBody (inClass (top 22) 0), defScope (inClass (top 22) 0), [], []⟩),
  ("Way.go", ⟨("Way", some "go"), "go", "Way.go", defArgs (inClass (top 22) 1), defBody (inClass (top 22) 1), defScope (inClass (top 22) 1), [], []⟩),
  ("Way.changed", ⟨("Way", some "changed"), "changed", "Way.changed", defArgs (inClass (top 22) 2), defBody (inClass (top 22) 2), defScope (inClass (top 22) 2), [], []⟩),
  ("Way.keep", ⟨("Way", some "keep"), "keep", "Way.keep", defArgs (inClass (top 22) 3), defBody (inClass (top 22) 3), defScope (inClass (top 22) 3), [], []⟩),
  ("Way.few", ⟨("Way", some "few"), "few", "Way.few", defArgs (inClass (top 22) 4), defBody (inClass (top 22) 4), defScope (inClass (top 22) 4), [], []⟩),
  ("Way.note", ⟨("Way", some "note"), "note", "Way.note", defArgs (inClass (top 22) 5), defBody (inClass (top 22) 5), defScope (inClass (top 22) 5), [], []⟩),
  ("Way.ask", ⟨("Way", some "ask"), "ask", "Way.ask", defArgs (inClass (top 22) 6), defBody (inClass (top 22) 6), defScope (inClass (top 22) 6), [], []⟩),
  ("Way.asked", ⟨("Way", some "asked"), "asked", "Way.asked", defArgs (inClass (top 22) 7), defBody (inClass (top 22) 7), defScope (inClass (top 22) 7), [], []⟩),
  ("Way.notes", ⟨("Way", some "notes"), "notes", "Way.notes", defArgs (inClass (top 22) 8), defBody (inClass (top 22) 8), defScope (inClass (top 22) 8), [], []⟩),
  ("run", ⟨("run", none), "run", "run", defArgs (top 25), defBody (top 25), defScope (top 25), [], []⟩),
  ("_law_cell", ⟨("_law_cell", none), "_law_cell", "_law_cell", defArgs (top 27), defBody (top 27), defScope (top 27), [], []⟩),
  ("_law_mix", ⟨("_law_mix", none), "_law_mix", "_law_mix", defArgs (top 28), defBody (top 28), defScope (top 28), [], []⟩),
  ("_law_seed", ⟨("_law_seed", none), "_law_seed", "_law_seed", defArgs (top 29), defBody (top 29), defScope (top 29), [], []⟩),
  ("_law_pick", ⟨("_law_pick", none), "_law_pick", "_law_pick", defArgs (top 30), defBody (top 30), defScope (top 30), [], []⟩),
  ("_law_layer", ⟨("_law_layer", none), "_law_layer", "_law_layer", defArgs (top 31), defBody (top 31), defScope (top 31), [], []⟩),
  ("_law_kinds", ⟨("_law_kinds", none), "_law_kinds", "_law_kinds", defArgs (top 32), defBody (top 32), defScope (top 32), [], []⟩),
  ("_law_layers", ⟨("_law_layers", none), "_law_layers", "_law_layers", defArgs (top 33), defBody (top 33), defScope (top 33), [], []⟩),
  ("_law_broken", ⟨("_law_broken", none), "_law_broken", "_law_broken", defArgs (top 34), defBody (top 34), defScope (top 34), [], []⟩),
  ("_law_values", ⟨("_law_values", none), "_law_values", "_law_values", defArgs (top 35), defBody (top 35), defScope (top 35), [], []⟩),
  ("law", ⟨("law", none), "law", "law", defArgs (top 36), defBody (top 36), defScope (top 36), [], []⟩)]
def RR : Rw where
  fns := ds.map (·.1)
  tops := ["is_within", "is_value", "is_word", "is_layer", "checked", "look_value", "can_fail", "most_asks", "run", "_law_cell", "_law_mix", "_law_seed", "_law_pick", "_law_layer", "_law_kinds", "_law_layers", "_law_broken", "_law_values", "law"]
  clss := ["Core", "Way"]
  meths := [("Core", "ask"), ("Core", "asked"), ("Way", "go"), ("Way", "changed"), ("Way", "keep"), ("Way", "few"), ("Way", "note"), ("Way", "ask"), ("Way", "asked"), ("Way", "notes")]
  flds := [("Core", "step"), ("Core", "broken"), ("Core", "many"), ("Core", "layers"), ("Core", "core"), ("Core", "rows"), ("Core", "states"), ("Core", "places"), ("Core", "deeds"), ("Way", "step"), ("Way", "broken"), ("Way", "many"), ("Way", "layers"), ("Way", "core"), ("Way", "rows"), ("Way", "states"), ("Way", "places"), ("Way", "deeds")]
  excs := xs
  globs := [("ROUND", .int 10000), ("MOST_LAYERS", .int 8), ("MOST_AGAIN", .int 99), ("SMALL", .str "abcdefghijklmnopqrstuvwxyz"), ("MOST_FAILS", .int 200), ("MOST_VALUES", .int 60)]
  blts := ["len", "min", "max", "int", "list", "tuple", "isinstance", "range", "enumerate", "zip", "bool", "str", "dict", "sorted", "set", "sum"]
def loose0 : List Str := ["_wall", "__name__", "LayerError", "BadLayers", "BadValue", "BadCore", "ROUND", "MOST_LAYERS", "MOST_AGAIN", "SMALL", "is_within", "is_value", "is_word", "is_layer", "checked", "look_value", "can_fail", "most_asks", "MOST_FAILS", "Core", "Way", "MOST_VALUES", "run", "_law_cell", "_law_mix", "_law_seed", "_law_pick", "_law_layer", "_law_kinds", "_law_layers"]
def loose1 : List Str := ["_law_broken", "_law_values"]
def names : List Str := loose0 ++ loose1
abbrev RW : PySem.W.OpenRow := PySem.W.OpenLaw.row PySem.Challenge.rw_layerway_k12_nothing_is_kept
abbrev hk : PySem.W.Hook := hookW 6 T RR ds
def ob (s : PySem.W.SharedT) : He.AlD := obsWG 6 T RR ds (HandSHeadRun.getT s)
theorem ob_eq (s : PySem.W.SharedT) : ob s = hk.obs s.abs := obsWG_eq (HandSHeadRun.getT_eq s)
theorem run (w : World) : HandSHeadRun.RunEq RW (PySem.W.view RW.prog [36]) hk ob 4000 names w := by
  intro os
  kernel_rfl
theorem defs_ok : (ds.all fun p => defB T RR p) = true := by kernel_rfl
theorem nd_ok : (ds.map (·.1)).Nodup := by decide +kernel
end LW
open PySem PySem.W PySem.Calls PyProof.Rows
theorem PySem.Challenge.cw_layerway_k12_nothing_is_kept_holds : PySem.Challenge.rw_layerway_k12_nothing_is_kept.Holds := by
  w_on; o_law
  refine HandSHeadRun.head_any (r := OpenLaw.row PySem.Challenge.rw_layerway_k12_nothing_is_kept) (q := view (OpenLaw.row PySem.Challenge.rw_layerway_k12_nothing_is_kept).prog [36]) (H := LW.hk) (ob := LW.ob) (M := 4000) (loose := LW.names) (d := HandSHeadRun.topDef (OpenLaw.row PySem.Challenge.rw_layerway_k12_nothing_is_kept).prog 36) (kwd := []) LW.ob_eq
    (by kernel_rfl) (fun s => by kernel_rfl) LW.run (by kernel_rfl) (by kernel_rfl) (by kernel_rfl) (by rfl) (by first | assumption | decide +kernel) (by decide +kernel) ⟨rfl, rfl, rfl, rfl, rfl, by decide +kernel⟩ ?hw ?hc
  case hw => w_witness2
  case hc => exact LW.row_end (l := PySem.Challenge.rw_layerway_k12_nothing_is_kept) (n := 63) (d := 99) rfl (by decide) (by kernel_rfl) ⟨rfl, by decide, by decide⟩ (by kernel_rfl) rfl LW.nd_ok LW.defs_ok (fun c h => List.contains_iff_mem.mp h) (by decide +kernel) (by decide +kernel) rfl LW.law_ok
