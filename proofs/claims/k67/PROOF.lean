import PyProof.Rows.All
import Wide.All
import OpenK.AllK
import Wide.FinOn
import HandS.ForMost
import HandS.TupAny
import HandS.Zip
import HandS.Walk
import HandS.HeadHook2
import HandS.Deep
import HandS.TupLe
import HandS.Style
import HandS.Text
import HandS.IsInst
import HandS.WordsDict
import HandS.TupLen
import HandS.Words
import PyProof.Rows.RegFStrParts
import HandS.HeadEnd
import HandS.Ends
import HandS.Head0
import HandS.Head1
import HandS.Head2
import HandS.HeadHook1
import KE.KStateDown
import HandS.WordsExc
import PySem.Challenge.RW_shapefree_k67_wider_shapes_and_worlds
set_option Elab.async false
set_option linter.all false
set_option autoImplicit false
set_option maxRecDepth 100000
set_option maxHeartbeats 3000000
/-! The evaluator: data as trees, a store of cells, a small language with slots. -/
namespace Y
open PySem

inductive D where
  | non | bl (b : Bool) | int (i : Int) | str (x : Str) | tup (ds : List D) | ob (n : Nat) | ro (ds : List D)
  deriving Inhabited

mutual
def D.beq : D → D → Bool
  | .non, .non => true
  | .bl a, .bl b => a == b
  | .int a, .int b => decide (a = b)
  | .str a, .str b => decide (a = b)
  | .tup a, .tup b => D.beqs a b
  | .ro a, .ro b => D.beqs a b
  | .ob a, .ob b => a == b
  | _, _ => false
def D.beqs : List D → List D → Bool
  | [], [] => true
  | a :: r, b :: s => D.beq a b && D.beqs r s
  | _, _ => false
end
mutual
theorem D.beq_eq : ∀ (a b : D), D.beq a b = true → a = b
  | .non, b, h => by cases b <;> simp_all [D.beq]
  | .bl a, b, h => by cases b <;> simp_all [D.beq]
  | .int a, b, h => by cases b <;> simp_all [D.beq]
  | .str a, b, h => by cases b <;> simp_all [D.beq]
  | .ob a, b, h => by cases b <;> simp_all [D.beq]
  | .tup a, b, h => by
    cases b with
    | tup b =>
      simp only [D.beq] at h
      rw [D.beqs_eq a b h]
    | _ => simp [D.beq] at h
  | .ro a, b, h => by
    cases b with
    | ro b =>
      simp only [D.beq] at h
      rw [D.beqs_eq a b h]
    | _ => simp [D.beq] at h
theorem D.beqs_eq : ∀ (a b : List D), D.beqs a b = true → a = b
  | [], [], _ => rfl
  | [], _ :: _, h => by simp [D.beqs] at h
  | _ :: _, [], h => by simp [D.beqs] at h
  | a :: r, b :: s, h => by
    simp only [D.beqs, Bool.and_eq_true] at h
    rw [D.beq_eq a b h.1, D.beqs_eq r s h.2]
end
mutual
theorem D.beq_refl : ∀ (a : D), D.beq a a = true
  | .non => rfl
  | .bl a => by simp [D.beq]
  | .int a => by simp [D.beq]
  | .str a => by simp [D.beq]
  | .ob a => by simp [D.beq]
  | .tup a => by simp only [D.beq]; exact D.beqs_refl a
  | .ro a => by simp only [D.beq]; exact D.beqs_refl a
theorem D.beqs_refl : ∀ (a : List D), D.beqs a a = true
  | [] => rfl
  | a :: r => by simp [D.beqs, D.beq_refl a, D.beqs_refl r]
end
instance : DecidableEq D := fun a b =>
  if h : D.beq a b = true then .isTrue (D.beq_eq a b h) else .isFalse fun e => h (by rw [e]; exact D.beq_refl b)

inductive Cell where
  | lst (ds : List D)
  | dct (kvs : List (D × D))
  | ins (C : Nat) (fs : List (Str × D))
  deriving Inhabited, DecidableEq

structure Xc where
  cls : Str
  fs : List (Str × D)

abbrev Sto := List Cell
inductive Res (a : Type) where
  | ok (x : a) (s : Sto)
  | exc (x : Xc) (s : Sto)
  | err
def M (a : Type) := Sto → Res a
def M.bd {a b : Type} (x : M a) (f : a → M b) : M b := fun s => match x s with
  | .ok v s' => f v s'
  | .exc e s' => .exc e s'
  | .err => .err
instance : Monad M where
  pure v := fun s => .ok v s
  bind := M.bd
theorem bd_run {a b : Type} (x : M a) (f : a → M b) (s : Sto) : (x >>= f) s = M.bd x f s := rfl
theorem pure_run {a : Type} (v : a) (s : Sto) : (pure v : M a) s = .ok v s := rfl
theorem bd_ok {a b : Type} {x : M a} {f : a → M b} {s s' : Sto} {v : a} (h : x s = .ok v s') : M.bd x f s = f v s' := by
  unfold M.bd
  rw [h]
theorem bd_err {a b : Type} {x : M a} {f : a → M b} {s : Sto} (h : x s = .err) : M.bd x f s = .err := by
  unfold M.bd
  rw [h]
theorem bd_exc {a b : Type} {x : M a} {f : a → M b} {s s' : Sto} {e : Xc} (h : x s = .exc e s') : M.bd x f s = .exc e s' := by
  unfold M.bd
  rw [h]
theorem bd_assoc {a b c : Type} (x : M a) (f : a → M b) (g : b → M c) (s : Sto) : M.bd (M.bd x f) g s = M.bd x (fun v => M.bd (f v) g) s := by
  unfold M.bd
  cases x s <;> rfl
theorem bd_pure {a b : Type} (v : a) (f : a → M b) (s : Sto) : M.bd (pure v) f s = f v s := rfl

def fail {a : Type} : M a := fun _ => .err
def need (b : Bool) : M Unit := fun s => if b then .ok () s else .err
theorem need_true {b : Bool} (h : b = true) (s : Sto) : need b s = .ok () s := by
  unfold need
  rw [h]
  rfl
/-- a look at a cell -/
def rd {a : Type} (n : Nat) (f : Cell → Option a) : M a := fun s => match s[n]?.bind f with
  | some v => .ok v s
  | none => .err
/-- what must stand -/
def chk (g : Sto → Bool) : M Unit := fun s => if g s then .ok () s else .err
def setC (n : Nat) (c : Cell) : M Unit := fun s => if n < s.length then .ok () (s.set n c) else .err
def newC (c : Cell) : M D := fun s => .ok (.ob s.length) (s ++ [c])
/-- where nothing may be raised -/
def calmly {a : Type} (m : M a) : M a := fun s => match m s with
  | .ok v s' => .ok v s'
  | _ => .err
theorem calmly_ok {a : Type} {m : M a} {s s' : Sto} {v : a} (h : m s = .ok v s') : calmly m s = .ok v s' := by
  unfold calmly
  rw [h]
def raise {a : Type} (x : Xc) : M a := fun s => .exc x s

abbrev big : Nat := 16000000

/-! ### data as PyData, for == -/
mutual
def D.py : D → PyData
  | .non => .none
  | .bl b => .bool b
  | .int i => .int i
  | .str x => .str x
  | .tup ds => .tuple (D.pys ds)
  | .ob _ => .none
  | .ro _ => .none
def D.pys : List D → List PyData
  | [] => []
  | d :: ds => D.py d :: D.pys ds
end
mutual
/-- no cells within -/
def D.flat : D → Bool
  | .tup ds => D.flats ds
  | .ob _ => false
  | .ro _ => false
  | .str x => PyData.strOk x
  | _ => true
def D.flats : List D → Bool
  | [] => true
  | d :: ds => D.flat d && D.flats ds
end
mutual
def D.dep : D → Nat
  | .tup ds => D.deps ds + 1
  | _ => 0
def D.deps : List D → Nat
  | [] => 0
  | d :: ds => max (D.dep d) (D.deps ds)
end
def D.okEq (d : D) : Bool := d.flat && decide (d.dep ≤ 40)

def Cell.seq : Cell → Option (List D)
  | .lst ds => some ds
  | _ => none
def lstOf (n : Nat) : M (List D) := rd n Cell.seq
/-- what is walked: a tuple's or a list's items -/
def seqOf : D → M (List D)
  | .tup ds => pure ds
  | .ro ds => pure ds
  | .ob n => rd n Cell.seq
  | _ => fail

inductive BinO where
  | add | sub | mul | fdv | mod | pow
  deriving DecidableEq
inductive CmpO where
  | eq | ne | lt | le | gt | ge | inn | nin | is | isnot
inductive Ty where
  | int | bool | str | tuple | list
inductive Bi where
  | len | max | min | maxd | mind | sum | all | int | tuple | list | dict | repr | sorted
inductive Mt where
  | append | extend | index | get | items | upper | join | pop
inductive Ik where
  | seq | rng1 | rng2 | rng3 | enum | zip | rev
inductive Tg where
  | nm (i : Nat)
  | tp (ts : List Tg)

inductive E where
  | var (i : Nat)
  | cst (d : D)
  | glb (k : Nat)
  | bin (o : BinO) (a b : E)
  | neg (a : E)
  | cmp (o : CmpO) (a b : E)
  | chain (o p : CmpO) (a b c : E)
  | and (a b : E)
  | or (a b : E)
  | not (a : E)
  | ite (c a b : E)
  | call (f : Nat) (as : List E)
  | bi (f : Bi) (as : List E)
  | mt (m : Mt) (o : E) (as : List E)
  | tup (es : List E)
  | lst (es : List E)
  | dct0
  | sub (a b : E)
  | sli (a : E) (lo hi : Option E)
  | rev (a : E)
  | comp (elt : E) (tg : Tg) (ik : Ik) (is : List E) (ifs : List E)
  | isi (e : E) (ts : List Ty)
  | fld (o : E) (f : Str)
  | um (o : E) (m : Nat) (as : List E)
  | new (C : Nat) (as : List E)

inductive S where
  | asg (tg : Tg) (e : E)
  | setI (o k e : E)
  | setF (o : E) (f : Str) (e : E)
  | expr (e : E)
  | ret (e : E)
  | ite (c : E) (a b : List S)
  | for_ (tg : Tg) (ik : Ik) (is : List E) (body : List S)
  | while_ (c : E) (body : List S)
  | never
  | pass
  | cont
  | brk

abbrev Env := List (Option D)
inductive Fl where
  | next | ret (d : D) | brk | cont

/-! ### operations -/
def bigZ (i : Int) : Bool := decide (-(2 ^ 64) < i) && decide (i < 2 ^ 64)
def lenOk (n : Nat) : M Unit := need (decide (n ≤ big))
def binop : BinO → D → D → M D
  | .add, .int i, .int j => pure (.int (i + j))
  | .add, .str x, .str y => do lenOk (x.length + y.length); pure (.str (x ++ y))
  | .add, .tup x, .tup y => do lenOk (x.length + y.length); pure (.tup (x ++ y))
  | .add, .ob n, .ob m => do
    let x ← lstOf n
    let y ← lstOf m
    lenOk (x.length + y.length)
    newC (.lst (x ++ y))
  | .sub, .int i, .int j => pure (.int (i - j))
  | .mul, .int i, .int j => do need (bigZ i || bigZ j); pure (.int (i * j))
  | .fdv, .int i, .int j => do need (decide (0 < j) && decide (j < 1073741824)); pure (.int (i / j))
  | .mod, .int i, .int j => do need (decide (0 < j)); pure (.int (i % j))
  | .pow, .int i, .int j => do need (decide (0 ≤ j) && decide (j ≤ 1000) && bigZ i); pure (.int (i ^ j.toNat))
  | _, _, _ => fail
def negop : D → M D
  | .int i => pure (.int (-i))
  | _ => fail
/-- the data that == reads: a cell's list as a list -/
def pyTop : D → M PyData
  | .ob n => do
    let ds ← rd n Cell.seq
    need (D.tup ds).okEq
    pure (.list (D.pys ds))
  | d => do
    need d.okEq
    pure d.py
def eqopD (a b : D) : M Bool := do
  let x ← pyTop a
  let y ← pyTop b
  pure (PyData.eqv x y)
def eqop (a b : D) : M Bool := match a, b with
  | .str x, .str y => pure (decide (x = y))
  | a, b => eqopD a b
def keyOk1 : D → Bool
  | .int _ => true
  | .str _ => true
  | _ => false
def keyOk : D → Bool
  | .tup ds => ds.all keyOk1
  | d => keyOk1 d
def isTup : D → Bool
  | .tup _ => true
  | _ => false
/-- a key that may be looked for in a dict of such keys -/
def keyIn (kvs : List (D × D)) (k : D) : Bool := keyOk k && kvs.all fun kv => isTup kv.1 == isTup k
def dfind (kvs : List (D × D)) (k : D) : Option D := (kvs.find? fun kv => decide (kv.1 = k)).map (·.2)
def dput (kvs : List (D × D)) (k v : D) : List (D × D) :=
  if kvs.any (fun kv => decide (kv.1 = k)) then kvs.map (fun kv => if kv.1 = k then (kv.1, v) else kv) else kvs ++ [(k, v)]
def Cell.has (x : D) : Cell → Option Bool
  | .lst ds => if x.okEq && (D.tup ds).okEq then some (ds.any fun z => PyData.eqv z.py x.py) else none
  | .dct kvs => if keyIn kvs x then some (dfind kvs x).isSome else none
  | _ => none
def inop (x c : D) : M Bool := match c with
  | .str z => match x with
    | .str y => pure (!(Builtin.Str.occurrences z y 0 z.length 1).isEmpty)
    | _ => fail
  | .tup ds => do need (keyOk1 x && ds.all keyOk1); pure (ds.any fun z => decide (z = x))
  | .ob n => rd n (Cell.has x)
  | _ => fail
def allInt : List D → Option (List Int)
  | [] => some []
  | .int i :: r => (allInt r).map (i :: ·)
  | _ :: _ => none
def allBl : List D → Option (List Bool)
  | [] => some []
  | .bl i :: r => (allBl r).map (i :: ·)
  | _ :: _ => none
def allStr : List D → Option (List Str)
  | [] => some []
  | .str i :: r => (allStr r).map (i :: ·)
  | _ :: _ => none
def ofO {a : Type} : Option a → M a
  | some v => pure v
  | none => fail
def cmpop : CmpO → D → D → M Bool
  | .eq, a, b => eqop a b
  | .ne, a, b => do let r ← eqop a b; pure (!r)
  | .lt, .int i, .int j => pure (decide (i < j))
  | .lt, .tup x, .tup y => do
    let p ← ofO (allInt x)
    let q ← ofO (allInt y)
    pure (HT.lexLt p q)
  | .le, .int i, .int j => pure (decide (i ≤ j))
  | .gt, .int i, .int j => pure (decide (j < i))
  | .ge, .int i, .int j => pure (decide (j ≤ i))
  | .inn, a, b => inop a b
  | .nin, a, b => do let r ← inop a b; pure (!r)
  | .is, a, .non => pure (decide (a = .non))
  | .isnot, a, .non => pure (!decide (a = .non))
  | .is, .bl a, .bl b => pure (decide (a = b))
  | .isnot, .bl a, .bl b => pure (!decide (a = b))
  | _, _, _ => fail
def asB : D → M Bool
  | .bl b => pure b
  | _ => fail
inductive Tag where
  | non | bool | int | str | tuple | list | dict
def Cell.tag : Cell → Option Tag
  | .lst _ => some .list
  | .dct _ => some .dict
  | .ins _ _ => none
def tagOf : D → M Tag
  | .non => pure .non
  | .bl _ => pure .bool
  | .int _ => pure .int
  | .str _ => pure .str
  | .tup _ => pure .tuple
  | .ro _ => pure .list
  | .ob n => rd n Cell.tag
def tyIs : Ty → Tag → Bool
  | .int, .int => true
  | .int, .bool => true
  | .bool, .bool => true
  | .str, .str => true
  | .tuple, .tuple => true
  | .list, .list => true
  | _, _ => false
def isiop (ts : List Ty) (d : D) : M Bool := do
  let g ← tagOf d
  pure (ts.any fun t => tyIs t g)
def Cell.item (b : D) : Cell → Option D
  | .lst ds => (match b with
    | .int i => L2.atI ds i
    | _ => none)
  | .dct kvs => if keyIn kvs b then dfind kvs b else none
  | _ => none
def subop (a b : D) : M D := match a with
  | .tup ds => match b with
    | .int i => ofO (L2.atI ds i)
    | _ => fail
  | .str z => match b with
    | .int i => do lenOk z.length; ofO ((L2.atI z.cps.toList i).map fun c => .str ⟨#[c]⟩)
    | _ => fail
  | .ob n => rd n (Cell.item b)
  | .ro ds => match b with
    | .int i => ofO (L2.atI ds i)
    | _ => fail
  | _ => fail
def asIx : Option D → M (Option Int)
  | none => pure none
  | some (.int i) => pure (some i)
  | _ => fail
def cutD (xs : List D) (lo hi : Option Int) : List D := (xs.drop (HT.sIx xs.length 0 lo)).take (HT.sIx xs.length xs.length hi - HT.sIx xs.length 0 lo)
def sliop (a : D) (lo hi : Option Int) : M D := match a with
  | .tup ds => pure (.tup (cutD ds lo hi))
  | .str z => do lenOk z.length; pure (.str (L2.cutS z lo hi))
  | .ob n => do
    let ds ← seqOf (.ob n)
    newC (.lst (cutD ds lo hi))
  | .ro ds => newC (.lst (cutD ds lo hi))
  | _ => fail
def revop : D → M D
  | .tup ds => pure (.tup ds.reverse)
  | .ob n => do
    let ds ← seqOf (.ob n)
    newC (.lst ds.reverse)
  | _ => fail
def Cell.put (k v : D) : Cell → Option Cell
  | .lst ds => (match k with
    | .int i => (L2.ixN ds.length i).map fun j => .lst (ds.set j v)
    | _ => none)
  | .dct kvs => if keyIn kvs k && decide (kvs.length < big) then some (.dct (dput kvs k v)) else none
  | _ => none
def setIop (o k v : D) : M Unit := match o with
  | .ob n => do
    let c ← rd n (Cell.put k v)
    setC n c
  | _ => fail
def maxL : List Int → Int
  | [] => 0
  | [a] => a
  | a :: r => max a (maxL r)
def minL : List Int → Int
  | [] => 0
  | [a] => a
  | a :: r => min a (minL r)
def dictOf : List D → Option (List (D × D))
  | [] => some []
  | .tup [k, v] :: r => (dictOf r).map ((k, v) :: ·)
  | _ :: _ => none
def Cell.size : Cell → Option Nat
  | .lst ds => some ds.length
  | .dct kvs => some kvs.length
  | _ => none
def mapO {a b : Type} (f : a → Option b) : List a → Option (List b)
  | [] => some []
  | e :: es => (f e).bind fun y => (mapO f es).bind fun ys => some (y :: ys)
/-- data read to the ground -/
def deepPy : Nat → Sto → D → Option PyData
  | 0, _, _ => none
  | n + 1, st, d => match d with
    | .non => some .none
    | .bl b => some (.bool b)
    | .int i => some (.int i)
    | .str x => some (.str x)
    | .tup ds => (mapO (deepPy n st) ds).bind fun ps => some (.tuple ps)
    | .ob k => match st[k]? with
      | some (.lst ds) => (mapO (deepPy n st) ds).bind fun ps => some (.list ps)
      | _ => none
    | .ro _ => none
def isRef : D → Bool
  | .tup _ => true
  | .ob _ => true
  | _ => false
/-- what repr says of a list or a tuple -/
def reprOf (st : Sto) (d : D) : Option Str := if isRef d then (deepPy 20 st d).bind fun p => if p.layable0 && p.showable && p.intsShort 13 then some p.shown else none else none
def biop : Bi → List D → M D
  | .len, [.str z] => do lenOk z.length; pure (.int z.length)
  | .len, [.tup ds] => pure (.int ds.length)
  | .len, [.ro ds] => pure (.int ds.length)
  | .len, [.ob n] => do
    let k ← rd n Cell.size
    pure (.int (k : Nat))
  | .max, [.int i, .int j] => pure (.int (if j > i then j else i))
  | .min, [.int i, .int j] => pure (.int (if j < i then j else i))
  | .max, [.ob n] => do
    let ds ← seqOf (.ob n)
    let is ← ofO (allInt ds)
    need (!is.isEmpty)
    pure (.int (maxL is))
  | .min, [.ob n] => do
    let ds ← seqOf (.ob n)
    let is ← ofO (allInt ds)
    need (!is.isEmpty)
    pure (.int (minL is))
  | .sum, [.ob n] => do
    let ds ← seqOf (.ob n)
    let is ← ofO (allInt ds)
    pure (.int is.sum)
  | .all, [.ob n] => do
    let ds ← seqOf (.ob n)
    let bs ← ofO (allBl ds)
    pure (.bl (bs.all id))
  | .int, [.bl b] => pure (.int (if b then 1 else 0))
  | .int, [.int i] => pure (.int i)
  | .tuple, [.tup ds] => pure (.tup ds)
  | .tuple, [.ob n] => do
    let ds ← seqOf (.ob n)
    pure (.tup ds)
  | .list, [.tup ds] => newC (.lst ds)
  | .list, [.ob n] => do
    let ds ← seqOf (.ob n)
    newC (.lst ds)
  | .repr, [d] => fun s => match reprOf s d with
    | some z => .ok (.str z) s
    | none => .err
  | _, _ => fail
/-- what the receiver must be -/
def mtTy (m : Mt) (d : D) : M Unit := match m with
  | .upper | .join => (match d with
    | .str _ => pure ()
    | _ => fail)
  | .get | .items => (match d with
    | .ob n => rd n fun c => match c with
      | .dct _ => some ()
      | _ => none
    | _ => fail)
  | _ => (match d with
    | .ob n => rd n fun c => c.seq.map fun _ => ()
    | _ => fail)
def mtop : Mt → D → List D → M D
  | .append, .ob n, [d] => do
    let ds ← lstOf n
    lenOk (ds.length + 1)
    setC n (.lst (ds ++ [d]))
    pure .non
  | .extend, .ob n, [.ob m] => do
    need (n != m)
    let ds ← lstOf n
    let es ← lstOf m
    lenOk (ds.length + es.length)
    setC n (.lst (ds ++ es))
    pure .non
  | .index, .ob n, [d] => do
    let ds ← seqOf (.ob n)
    need (d.okEq && (D.tup ds).okEq)
    match ds.findIdx? fun z => PyData.eqv z.py d.py with
    | some j => pure (.int j)
    | none => fail
  | .upper, .str z, [] => do
    need (decide (z.length ≤ 5000000))
    pure (.str (Txt.upper z))
  | .join, .str z, [.ob n] => do
    let ds ← seqOf (.ob n)
    let xs ← ofO (allStr ds)
    lenOk ((xs.map (·.length)).sum + xs.length * z.length)
    pure (.str (Txt.join z xs))
  | _, _, _ => fail

/-! ### targets, walks -/
mutual
def asgT : Tg → D → Env → Option Env
  | .nm i, d, env => if i < env.length then some (env.set i (some d)) else none
  | .tp ts, d, env => match d with
    | .tup ds => asgTs ts ds env
    | _ => none
def asgTs : List Tg → List D → Env → Option Env
  | [], ds, env => match ds with
    | [] => some env
    | _ => none
  | t :: ts, ds, env => match ds with
    | [] => none
    | d :: ds => match asgT t d env with
      | some env' => asgTs ts ds env'
      | none => none
end
mutual
def Tg.vars : Tg → List Nat
  | .nm i => [i]
  | .tp ts => Tg.varsL ts
def Tg.varsL : List Tg → List Nat
  | [] => []
  | t :: ts => t.vars ++ Tg.varsL ts
end
def wipeE (env : Env) : List Nat → Env
  | [] => env
  | v :: vs => (wipeE env vs).set v none
/-- the items of a walk, and what must stand while it goes -/
abbrev Gd := Sto → Bool
def gdOf (d : D) (ds : List D) : Gd := match d with
  | .ob n => fun s => decide (s[n]?.bind Cell.seq = some ds)
  | _ => fun _ => true
def rangeD (lo : Int) (n : Nat) : List D := (List.range n).map fun (k : Nat) => D.int (lo + k)
def small (i : Int) : Bool := decide (-(2 ^ 60) < i) && decide (i < 2 ^ 60)
/-- a datum that is walked as a list -/
def isL : D → Bool
  | .ob _ => true
  | .ro _ => true
  | _ => false
def walkOf : Ik → List D → M (List D × Gd)
  | .seq, [d] => do
    let ds ← seqOf d
    pure (ds, gdOf d ds)
  | .rng1, [.int n] => do
    need (small n)
    pure (rangeD 0 n.toNat, fun _ => true)
  | .rng2, [.int a, .int b] => do
    need (small a && small b)
    pure (rangeD a (b - a).toNat, fun _ => true)
  | .enum, [d] => do
    let ds ← seqOf d
    need (isL d)
    pure (ds.zipIdx.map fun p => D.tup [.int p.2, p.1], gdOf d ds)
  | .zip, [d, e] => do
    let ds ← seqOf d
    let es ← seqOf e
    need (isL d == isL e)
    pure ((ds.zip es).map fun p => D.tup [p.1, p.2], fun s => gdOf d ds s && gdOf e es s)
  | .rev, [d] => do
    let ds ← seqOf d
    pure (ds.reverse, gdOf d ds)
  | _, _ => fail

def compL (tg : Tg) (t : Env → M Bool) (f : Env → M D) (g : Gd) (env : Env) : List D → List D → M (List D)
  | [], acc => do
    chk g
    pure acc
  | d :: ds, acc => do
    chk g
    let env' ← ofO (asgT tg d env)
    let b ← t env'
    if b then do
      let v ← f env'
      lenOk (acc.length + 1)
      compL tg t f g env ds (acc ++ [v])
    else compL tg t f g env ds acc

structure Ctx where
  call : Nat → List D → M D
  glb : Nat → Option D
  meth : Nat → Nat → Option Nat
  new : Nat → List D → M D
  wf : Nat

def allT : List (Env → M Bool) → Env → M Bool
  | [], _ => pure true
  | t :: ts, env => do
    let b ← t env
    if b then allT ts env else pure false

mutual
def evE (G : Ctx) : E → Env → M D
  | .var i, env => ofO (env[i]?.bind id)
  | .cst d, _ => pure d
  | .glb k, _ => ofO (G.glb k)
  | .bin o a b, env => do
    let x ← evE G a env
    let y ← evE G b env
    binop o x y
  | .neg a, env => do
    let x ← evE G a env
    negop x
  | .cmp o a b, env => do
    let x ← evE G a env
    let y ← evE G b env
    let r ← cmpop o x y
    pure (.bl r)
  | .chain o p a b c, env => do
    let x ← evE G a env
    let y ← evE G b env
    let r ← cmpop o x y
    if r then do
      let z ← evE G c env
      let r' ← cmpop p y z
      pure (.bl r')
    else pure (.bl false)
  | .and a b, env => do
    let x ← evE G a env
    let r ← asB x
    if r then do
      let y ← evE G b env
      let r' ← asB y
      pure (.bl r')
    else pure (.bl false)
  | .or a b, env => do
    let x ← evE G a env
    let r ← asB x
    if r then pure (.bl true)
    else do
      let y ← evE G b env
      let r' ← asB y
      pure (.bl r')
  | .not a, env => do
    let x ← evE G a env
    let r ← asB x
    pure (.bl (!r))
  | .ite c a b, env => do
    let x ← evE G c env
    let r ← asB x
    if r then evE G a env else evE G b env
  | .call f as, env => do
    let vs ← evEs G as env
    G.call f vs
  | .bi f as, env => do
    let vs ← evEs G as env
    biop f vs
  | .mt m o as, env => do
    let x ← evE G o env
    mtTy m x
    let vs ← evEs G as env
    mtop m x vs
  | .tup es, env => do
    let vs ← evEs G es env
    pure (.tup vs)
  | .lst es, env => do
    let vs ← evEs G es env
    newC (.lst vs)
  | .dct0, _ => newC (.dct [])
  | .sub a b, env => do
    let x ← evE G a env
    let y ← evE G b env
    subop x y
  | .sli a lo hi, env => do
    let x ← evE G a env
    let l ← evO G lo env
    let h ← evO G hi env
    sliop x l h
  | .rev a, env => do
    let x ← evE G a env
    revop x
  | .comp elt tg ik is ifs, env => do
    let vs ← evEs G is env
    let w ← walkOf ik vs
    let r ← compL tg (fun env => calmly (evTs G ifs env)) (fun env => calmly (evE G elt env)) w.2 (wipeE env tg.vars) w.1 []
    newC (.lst r)
  | .isi e ts, env => do
    let x ← evE G e env
    let b ← isiop ts x
    pure (.bl b)
  | .fld _ _, _ => fail
  | .um _ _ _, _ => fail
  | .new _ _, _ => fail
def evEs (G : Ctx) : List E → Env → M (List D)
  | [], _ => pure []
  | e :: es, env => do
    let x ← evE G e env
    let xs ← evEs G es env
    pure (x :: xs)
def evO (G : Ctx) : Option E → Env → M (Option Int)
  | none, _ => pure none
  | some e, env => do
    let x ← evE G e env
    match x with
    | .int i => pure (some i)
    | _ => fail
def evTs (G : Ctx) : List E → Env → M Bool
  | [], _ => pure true
  | e :: es, env => do
    let x ← evE G e env
    let b ← asB x
    if b then evTs G es env else pure false
end

def forL (tg : Tg) (body : Env → M (Fl × Env)) (g : Gd) : List D → Env → M (Fl × Env)
  | [], env => do
    chk g
    pure (.next, env)
  | d :: ds, env => do
    chk g
    let env' ← ofO (asgT tg d env)
    let r ← body env'
    match r.1 with
    | .ret v => pure (.ret v, r.2)
    | .brk => pure (.next, r.2)
    | _ => forL tg body g ds r.2
def whileL (c : Env → M Bool) (body : Env → M (Fl × Env)) : Nat → Env → M (Fl × Env)
  | 0, _ => fail
  | n + 1, env => do
    let b ← c env
    if b then do
      let r ← body env
      match r.1 with
      | .ret v => pure (.ret v, r.2)
      | .brk => pure (.next, r.2)
      | _ => whileL c body n r.2
    else pure (.next, env)

mutual
def evS (G : Ctx) : S → Env → M (Fl × Env)
  | .asg tg e, env => do
    let x ← evE G e env
    let env' ← ofO (asgT tg x env)
    pure (.next, env')
  | .setI o k e, env => do
    let v ← evE G e env
    let x ← evE G o env
    let y ← evE G k env
    setIop x y v
    pure (.next, env)
  | .setF _ _ _, _ => fail
  | .expr e, env => do
    let _ ← evE G e env
    pure (.next, env)
  | .ret e, env => do
    let x ← evE G e env
    pure (.ret x, env)
  | .ite c a b, env => do
    let x ← evE G c env
    let r ← asB x
    if r then evSs G a env else evSs G b env
  | .for_ tg ik is body, env => do
    let vs ← evEs G is env
    let w ← walkOf ik vs
    forL tg (evSs G body) w.2 w.1 env
  | .while_ c body, env => whileL (fun env => do
      let x ← evE G c env
      asB x) (evSs G body) G.wf env
  | .never, _ => fail
  | .pass, env => pure (.next, env)
  | .cont, env => pure (.cont, env)
  | .brk, env => pure (.brk, env)
def evSs (G : Ctx) : List S → Env → M (Fl × Env)
  | [], env => pure (.next, env)
  | s :: ss, env => do
    let r ← evS G s env
    match r.1 with
    | .next => evSs G ss r.2
    | f => pure (f, r.2)
end

/-- a def: how many params, how many slots, its body -/
structure Fn where
  np : Nat
  ns : Nat
  body : List S
structure Prog where
  fns : List Fn
  glbs : List D
def runFn (G : Ctx) (f : Fn) (vs : List D) : M D := do
  need (decide (vs.length = f.np))
  let r ← evSs G f.body (vs.map some ++ List.replicate (f.ns - f.np) none)
  match r.1 with
  | .ret d => pure d
  | .next => pure .non
  | _ => fail
def evF (P : Prog) (W : Nat) : Nat → Nat → List D → M D
  | 0, _, _ => fail
  | n + 1, f, vs => match P.fns[f]? with
    | some fn => runFn ⟨evF P W n, fun k => P.glbs[k]?, fun _ _ => none, fun _ _ => fail, W⟩ fn vs
    | none => fail
end Y

/-! The simulation: the store and the data against the abstract heap and its values. -/
namespace Y
open PySem PySem.Spec L2

/-- a list of the written part -/
def KL (K : PySem.W.Frag) (a : Addr) (xs : List V) : Prop :=
  ∃ (o : Obj) (its : Array Value) (n : Nat), K.lookup a = some o ∧ o.cls = .type "list" ∧ o.dict = none ∧ o.data = .seq its n ∧ its.size ≤ sizeLine ∧ Vals xs its.toList

mutual
inductive RelD (K : PySem.W.Frag) (mu : List Addr) (H : Hp) : D → V → Prop
  | non : RelD K mu H .non .non
  | bl (b : Bool) : RelD K mu H (.bl b) (.bl b)
  | int (i : Int) : RelD K mu H (.int i) (.int i)
  | str (x : Str) : RelD K mu H (.str x) (.str x)
  | tup {a : Addr} {xs : List V} {ds : List D} : H a = some (.tup xs) → RelDs K mu H ds xs → RelD K mu H (.tup ds) (.ref a)
  | ob {n : Nat} {a : Addr} : mu[n]? = some a → RelD K mu H (.ob n) (.ref a)
  | ro {a : Addr} {xs : List V} {ds : List D} : ((∃ o, H a = some (.frz o (.lst xs))) ∨ KL K a xs) → RelDs K mu H ds xs → RelD K mu H (.ro ds) (.ref a)
inductive RelDs (K : PySem.W.Frag) (mu : List Addr) (H : Hp) : List D → List V → Prop
  | nil : RelDs K mu H [] []
  | cons {d : D} {v : V} {ds : List D} {vs : List V} : RelD K mu H d v → RelDs K mu H ds vs → RelDs K mu H (d :: ds) (v :: vs)
end

inductive RelFs (K : PySem.W.Frag) (mu : List Addr) (H : Hp) : List (Str × D) → List (Str × V) → Prop
  | nil : RelFs K mu H [] []
  | cons {x : Str} {d : D} {v : V} {ds : List (Str × D)} {vs : List (Str × V)} : RelD K mu H d v → RelFs K mu H ds vs → RelFs K mu H ((x, d) :: ds) ((x, v) :: vs)
/-- a dict's pairs, keys ints and texts -/
inductive RelK (K : PySem.W.Frag) (mu : List Addr) (H : Hp) : List (D × D) → List (Key × V) → Prop
  | nil : RelK K mu H [] []
  | int {i : Int} {d : D} {v : V} {ds : List (D × D)} {vs : List (Key × V)} : RelD K mu H d v → RelK K mu H ds vs → RelK K mu H ((.int i, d) :: ds) ((.inl i, v) :: vs)
  | str {i : Str} {d : D} {v : V} {ds : List (D × D)} {vs : List (Key × V)} : RelD K mu H d v → RelK K mu H ds vs → RelK K mu H ((.str i, d) :: ds) ((.inr i, v) :: vs)
def keyD : Key → D
  | .inl i => .int i
  | .inr x => .str x
/-- a dict's pairs, keys tuples of ints and texts -/
inductive RelT (K : PySem.W.Frag) (mu : List Addr) (H : Hp) : List (D × D) → List (List Key × V) → Prop
  | nil : RelT K mu H [] []
  | cons {k : List Key} {d : D} {v : V} {ds : List (D × D)} {vs : List (List Key × V)} : RelD K mu H d v → RelT K mu H ds vs → RelT K mu H ((.tup (k.map keyD), d) :: ds) ((k, v) :: vs)

/-- which class stands for the number of a class -/
abbrev ClsA := Nat → Addr
def CellOk (K : PySem.W.Frag) (CA : ClsA) (mu : List Addr) (H : Hp) : Cell → Addr → Prop
  | .lst ds, a => ∃ xs, H a = some (.lst xs) ∧ RelDs K mu H ds xs
  | .dct kvs, a => (∃ ks, H a = some (.dK ks) ∧ RelK K mu H kvs ks) ∨ ∃ ks, H a = some (.dT ks) ∧ RelT K mu H kvs ks
  | .ins C fs, a => ∃ dx vs, H a = some (.ins (CA C) dx vs) ∧ RelFs K mu H fs vs
structure Sim (K : PySem.W.Frag) (CA : ClsA) (mu : List Addr) (st : Sto) (H : Hp) : Prop where
  len : mu.length = st.length
  cell : ∀ (n : Nat) (c : Cell) (a : Addr), st[n]? = some c → mu[n]? = some a → CellOk K CA mu H c a
  nd : ∀ (i j : Nat) (a : Addr), mu[i]? = some a → mu[j]? = some a → i = j

/-- what goes on from a heap: what is tracked stays tracked; tuples, what is locked and what is no cell stays as it is -/
structure Ext (mu : List Addr) (H : Hp) (mu' : List Addr) (H' : Hp) : Prop where
  pre : ∃ t, mu' = mu ++ t ∧ ∀ a ∈ t, H a = none
  keep : ∀ a o, H a = some o → a ∉ mu → H' a = some o
  tup : ∀ a xs, H a = some (.tup xs) → H' a = some (.tup xs)
  frz : ∀ a o u, H a = some (.frz o u) → H' a = some (.frz o u)
  dom : ∀ a o, H a = some o → ∃ o', H' a = some o'
theorem Ext.refl (mu : List Addr) (H : Hp) : Ext mu H mu H :=
  ⟨⟨[], by simp, fun a h => nomatch h⟩, fun _ _ h _ => h, fun _ _ h => h, fun _ _ _ h => h, fun _ o h => ⟨o, h⟩⟩
theorem Ext.trans {mu mu1 mu2 : List Addr} {H H1 H2 : Hp} (a : Ext mu H mu1 H1) (b : Ext mu1 H1 mu2 H2) : Ext mu H mu2 H2 := by
  obtain ⟨t, e1, f1⟩ := a.pre
  obtain ⟨t', e2, f2⟩ := b.pre
  refine ⟨⟨t ++ t', by rw [e2, e1, List.append_assoc], fun c hc => ?_⟩, fun c o h hn => ?_, fun c xs h => b.tup c xs (a.tup c xs h), fun c o u h => b.frz c o u (a.frz c o u h), fun c o h => ?_⟩
  · rcases List.mem_append.mp hc with hc | hc
    · exact f1 c hc
    · cases q : H c with
      | none => rfl
      | some o =>
        obtain ⟨o', e⟩ := a.dom c o q
        rw [f2 c hc] at e
        cases e
  · refine b.keep c o (a.keep c o h hn) fun hm => ?_
    rw [e1] at hm
    rcases List.mem_append.mp hm with hm | hm
    · exact hn hm
    · rw [f1 c hm] at h
      cases h
  · obtain ⟨o1, e⟩ := a.dom c o h
    exact b.dom c o1 e
theorem Ext.mu {mu mu' : List Addr} {H H' : Hp} (e : Ext mu H mu' H') {n : Nat} {a : Addr} (h : mu[n]? = some a) : mu'[n]? = some a := by
  obtain ⟨t, rfl, _⟩ := e.pre
  have hl : n < mu.length := (List.getElem?_eq_some_iff.mp h).1
  rw [List.getElem?_append_left hl]
  exact h
/-- what related data lean on -/
structure Mon (mu : List Addr) (H : Hp) (mu' : List Addr) (H' : Hp) : Prop where
  mu : ∀ (n : Nat) (a : Addr), mu[n]? = some a → mu'[n]? = some a
  tup : ∀ a xs, H a = some (.tup xs) → H' a = some (.tup xs)
  frz : ∀ a o u, H a = some (.frz o u) → H' a = some (.frz o u)
theorem Ext.mon {mu mu' : List Addr} {H H' : Hp} (e : Ext mu H mu' H') : Mon mu H mu' H' := ⟨fun _ _ h => e.mu h, e.tup, e.frz⟩
theorem Mon.snoc (mu : List Addr) (H : Hp) (p : Addr) : Mon mu H (mu ++ [p]) H :=
  ⟨fun n a h => by rw [List.getElem?_append_left (List.getElem?_eq_some_iff.mp h).1]; exact h, fun _ _ h => h, fun _ _ _ h => h⟩
section
variable {K : PySem.W.Frag} {CA : ClsA} {mu mu' : List Addr} {H H' : Hp}
mutual
theorem RelD.monM (e : Mon mu H mu' H') : ∀ {d : D} {v : V}, RelD K mu H d v → RelD K mu' H' d v
  | _, _, .non => .non
  | _, _, .bl b => .bl b
  | _, _, .int i => .int i
  | _, _, .str x => .str x
  | _, _, .tup h r => .tup (e.tup _ _ h) (RelDs.monM e r)
  | _, _, .ob h => .ob (e.mu _ _ h)
  | _, _, .ro (.inl ⟨o, h⟩) r => .ro (.inl ⟨o, e.frz _ _ _ h⟩) (RelDs.monM e r)
  | _, _, .ro (.inr h) r => .ro (.inr h) (RelDs.monM e r)
theorem RelDs.monM (e : Mon mu H mu' H') : ∀ {d : List D} {v : List V}, RelDs K mu H d v → RelDs K mu' H' d v
  | _, _, .nil => .nil
  | _, _, .cons r s => .cons (RelD.monM e r) (RelDs.monM e s)
end
theorem RelFs.monM (e : Mon mu H mu' H') : ∀ {d : List (Str × D)} {v : List (Str × V)}, RelFs K mu H d v → RelFs K mu' H' d v
  | _, _, .nil => .nil
  | _, _, .cons r s => .cons (r.monM e) (RelFs.monM e s)
theorem RelK.monM (e : Mon mu H mu' H') : ∀ {d : List (D × D)} {v : List (Key × V)}, RelK K mu H d v → RelK K mu' H' d v
  | _, _, .nil => .nil
  | _, _, .int r s => .int (r.monM e) (RelK.monM e s)
  | _, _, .str r s => .str (r.monM e) (RelK.monM e s)
theorem RelT.monM (e : Mon mu H mu' H') : ∀ {d : List (D × D)} {v : List (List Key × V)}, RelT K mu H d v → RelT K mu' H' d v
  | _, _, .nil => .nil
  | _, _, .cons r s => .cons (r.monM e) (RelT.monM e s)
theorem RelD.mono (e : Ext mu H mu' H') {d : D} {v : V} (h : RelD K mu H d v) : RelD K mu' H' d v := h.monM e.mon
theorem RelDs.mono (e : Ext mu H mu' H') {d : List D} {v : List V} (h : RelDs K mu H d v) : RelDs K mu' H' d v := h.monM e.mon
theorem RelFs.mono (e : Ext mu H mu' H') {d : List (Str × D)} {v : List (Str × V)} (h : RelFs K mu H d v) : RelFs K mu' H' d v := h.monM e.mon
theorem RelK.mono (e : Ext mu H mu' H') {d : List (D × D)} {v : List (Key × V)} (h : RelK K mu H d v) : RelK K mu' H' d v := h.monM e.mon
theorem RelT.mono (e : Ext mu H mu' H') {d : List (D × D)} {v : List (List Key × V)} (h : RelT K mu H d v) : RelT K mu' H' d v := h.monM e.mon
theorem RelDs.length : ∀ {ds : List D} {vs : List V}, RelDs K mu H ds vs → ds.length = vs.length
  | _, _, .nil => rfl
  | _, _, .cons _ s => congrArg (· + 1) (RelDs.length s)
theorem RelDs.get : ∀ {ds : List D} {vs : List V} {i : Nat} {d : D}, RelDs K mu H ds vs → ds[i]? = some d → ∃ v, vs[i]? = some v ∧ RelD K mu H d v
  | _, _, _, _, .nil, h => by simp at h
  | _, _, 0, d, .cons r _, h => by
    simp at h
    subst h
    exact ⟨_, rfl, r⟩
  | _, _, i + 1, d, .cons _ s, h => by
    obtain ⟨v, h1, h2⟩ := RelDs.get (i := i) (d := d) s (by simpa using h)
    exact ⟨v, by simpa using h1, h2⟩
theorem RelDs.getV : ∀ {ds : List D} {vs : List V} {i : Nat} {v : V}, RelDs K mu H ds vs → vs[i]? = some v → ∃ d, ds[i]? = some d ∧ RelD K mu H d v
  | _, _, _, _, .nil, h => by simp at h
  | _, _, 0, d, .cons r _, h => by
    simp at h
    subst h
    exact ⟨_, rfl, r⟩
  | _, _, i + 1, d, .cons _ s, h => by
    obtain ⟨v, h1, h2⟩ := RelDs.getV (i := i) (v := d) s (by simpa using h)
    exact ⟨v, by simpa using h1, h2⟩
theorem RelDs.append : ∀ {ds es : List D} {vs ws : List V}, RelDs K mu H ds vs → RelDs K mu H es ws → RelDs K mu H (ds ++ es) (vs ++ ws)
  | _, _, _, _, .nil, s => s
  | _, _, _, _, .cons r t, s => .cons r (RelDs.append t s)
theorem RelDs.take : ∀ {ds : List D} {vs : List V} (n : Nat), RelDs K mu H ds vs → RelDs K mu H (ds.take n) (vs.take n)
  | _, _, 0, _ => by simp; exact .nil
  | _, _, _ + 1, .nil => by simp; exact .nil
  | _, _, n + 1, .cons r t => .cons r (RelDs.take n t)
theorem RelDs.drop : ∀ {ds : List D} {vs : List V} (n : Nat), RelDs K mu H ds vs → RelDs K mu H (ds.drop n) (vs.drop n)
  | _, _, 0, r => r
  | _, _, _ + 1, .nil => by simp; exact .nil
  | _, _, n + 1, .cons _ t => RelDs.drop n t
theorem RelDs.reverse {ds : List D} {vs : List V} (r : RelDs K mu H ds vs) : RelDs K mu H ds.reverse vs.reverse := by
  induction ds generalizing vs with
  | nil => cases r; exact .nil
  | cons d ds ih =>
    cases r with
    | cons h t =>
      rw [List.reverse_cons, List.reverse_cons]
      exact (ih t).append (.cons h .nil)
theorem RelDs.set : ∀ {ds : List D} {vs : List V} {d : D} {v : V} (n : Nat), RelDs K mu H ds vs → RelD K mu H d v → RelDs K mu H (ds.set n d) (vs.set n v)
  | _, _, _, _, _, .nil, _ => .nil
  | _, _, _, _, 0, .cons _ t, r => .cons r t
  | _, _, _, _, n + 1, .cons h t, r => .cons h (RelDs.set n t r)

theorem CellOk.mono (e : Mon mu H mu' H') {c : Cell} {a : Addr} (k : ∀ o, H a = some o → Mut (some o) → H' a = some o) (h : CellOk K CA mu H c a) : CellOk K CA mu' H' c a := by
  cases c with
  | lst ds =>
    obtain ⟨xs, h1, h2⟩ := h
    exact ⟨xs, k _ h1 trivial, h2.monM e⟩
  | dct kvs =>
    rcases h with ⟨ks, h1, h2⟩ | ⟨ks, h1, h2⟩
    · exact .inl ⟨ks, k _ h1 trivial, h2.monM e⟩
    · exact .inr ⟨ks, k _ h1 trivial, h2.monM e⟩
  | ins C fs =>
    obtain ⟨dx, vs, h1, h2⟩ := h
    exact ⟨dx, vs, k _ h1 trivial, h2.monM e⟩
/-- a cell stands in the heap -/
theorem CellOk.there {c : Cell} {a : Addr} (h : CellOk K CA mu H c a) : ∃ o, H a = some o ∧ Mut (some o) := by
  cases c with
  | lst ds =>
    obtain ⟨xs, h1, h2⟩ := h
    exact ⟨_, h1, trivial⟩
  | dct kvs =>
    rcases h with ⟨ks, h1, h2⟩ | ⟨ks, h1, h2⟩
    · exact ⟨_, h1, trivial⟩
    · exact ⟨_, h1, trivial⟩
  | ins C fs =>
    obtain ⟨dx, vs, h1, h2⟩ := h
    exact ⟨_, h1, trivial⟩

variable {st : Sto}
theorem Sim.has (S : Sim K CA mu st H) {n : Nat} {c : Cell} (h : st[n]? = some c) : ∃ a, mu[n]? = some a ∧ CellOk K CA mu H c a := by
  have hl : n < st.length := (List.getElem?_eq_some_iff.mp h).1
  have hm : n < mu.length := by rw [S.len]; exact hl
  exact ⟨mu[n], List.getElem?_eq_getElem hm, S.cell n c _ h (List.getElem?_eq_getElem hm)⟩
theorem Sim.at (S : Sim K CA mu st H) {n : Nat} {c : Cell} {a : Addr} (h : st[n]? = some c) (ha : mu[n]? = some a) : CellOk K CA mu H c a := S.cell n c a h ha
/-- what stands in mu is tracked -/
theorem Sim.trk (S : Sim K CA mu st H) {a : Addr} (h : a ∈ mu) : ∃ o, H a = some o ∧ Mut (some o) := by
  obtain ⟨n, hn, e⟩ := List.mem_iff_getElem.mp h
  have hs : n < st.length := by rw [← S.len]; exact hn
  exact (S.cell n st[n] a (List.getElem?_eq_getElem hs) (by rw [← e]; exact List.getElem?_eq_getElem hn)).there
theorem Sim.out (S : Sim K CA mu st H) {a : Addr} (h : H a = none) : a ∉ mu := fun hm => by
  obtain ⟨o, e, _⟩ := S.trk hm
  rw [h] at e
  cases e
/-- something new that is no cell -/
theorem Ext.fresh {p : Addr} {o : HO} (n : H p = none) : Ext mu H mu (upd H p o) :=
  ⟨⟨[], by simp, fun a h => nomatch h⟩, fun a u h _ => by rw [upd_ne (ne_of_none h n)]; exact h, fun a xs h => by rw [upd_ne (ne_of_none h n)]; exact h,
    fun a u x h => by rw [upd_ne (ne_of_none h n)]; exact h, fun a u h => ⟨u, by rw [upd_ne (ne_of_none h n)]; exact h⟩⟩
theorem Sim.fresh (S : Sim K CA mu st H) {p : Addr} {o : HO} (n : H p = none) : Sim K CA mu st (upd H p o) :=
  ⟨S.len, fun i c a h1 h2 => (S.cell i c a h1 h2).mono (Ext.fresh n).mon fun u hu _ => by rw [upd_ne (ne_of_none hu n)]; exact hu, S.nd⟩
/-- a tracked object that is no cell yet becomes one -/
theorem Ext.adopt {mu' : List Addr} {H' : Hp} {p : Addr} (e : Ext mu H mu' H') (n : H p = none) : Ext mu H (mu' ++ [p]) H' := by
  obtain ⟨t, e1, f⟩ := e.pre
  refine ⟨⟨t ++ [p], by rw [e1, List.append_assoc], fun a h => ?_⟩, e.keep, e.tup, e.frz, e.dom⟩
  rcases List.mem_append.mp h with h | h
  · exact f a h
  · rw [List.mem_singleton.mp h]
    exact n
theorem Sim.adopt (S : Sim K CA mu st H) {p : Addr} {c : Cell} (n : p ∉ mu) (hc : CellOk K CA (mu ++ [p]) H c p) : Sim K CA (mu ++ [p]) (st ++ [c]) H := by
  have old : ∀ i a, i < st.length → (mu ++ [p])[i]? = some a → mu[i]? = some a := fun i a hi h => by
    rw [List.getElem?_append_left (by rw [S.len]; exact hi)] at h
    exact h
  have last : ∀ i a, ¬ i < st.length → (mu ++ [p])[i]? = some a → i = st.length ∧ a = p := fun i a hi h => by
    have hl := (List.getElem?_eq_some_iff.mp h).1
    rw [List.length_append, List.length_singleton, S.len] at hl
    have e : i = st.length := by omega
    subst e
    rw [List.getElem?_append_right (by rw [S.len]; exact Nat.le_refl _), S.len, Nat.sub_self] at h
    exact ⟨rfl, (Option.some.inj h).symm⟩
  refine ⟨by rw [List.length_append, List.length_append, S.len]; rfl, fun i c' a h1 h2 => ?_, fun i j a h1 h2 => ?_⟩
  · by_cases hi : i < st.length
    · rw [List.getElem?_append_left hi] at h1
      exact (S.cell i c' a h1 (old i a hi h2)).mono (Mon.snoc mu H p) fun _ q _ => q
    · obtain ⟨rfl, rfl⟩ := last i a hi h2
      rw [List.getElem?_append_right (Nat.le_refl _), Nat.sub_self] at h1
      cases h1
      exact hc
  · by_cases hi : i < st.length
    · by_cases hj : j < st.length
      · exact S.nd i j a (old i a hi h1) (old j a hj h2)
      · obtain ⟨rfl, rfl⟩ := last j a hj h2
        exact absurd (List.mem_of_getElem? (old i a hi h1)) n
    · obtain ⟨rfl, rfl⟩ := last i a hi h1
      by_cases hj : j < st.length
      · exact absurd (List.mem_of_getElem? (old j a hj h2)) n
      · exact (last j a hj h2).1.symm
/-- a new cell -/
theorem Ext.newc {p : Addr} {o : HO} (n : H p = none) : Ext mu H (mu ++ [p]) (upd H p o) := (Ext.fresh n).adopt n
theorem Sim.newc (S : Sim K CA mu st H) {p : Addr} {o : HO} {c : Cell} (n : H p = none) (hc : CellOk K CA (mu ++ [p]) (upd H p o) c p) : Sim K CA (mu ++ [p]) (st ++ [c]) (upd H p o) :=
  (S.fresh (o := o) n).adopt (S.out n) hc
/-- a cell is written -/
theorem Ext.write (S : Sim K CA mu st H) {i : Nat} {c : Cell} {a : Addr} {o : HO} (h1 : st[i]? = some c) (h2 : mu[i]? = some a) : Ext mu H mu (upd H a o) := by
  obtain ⟨u, hu, m⟩ := (S.cell i c a h1 h2).there
  refine ⟨⟨[], by simp, fun a h => nomatch h⟩, fun b v h hb => ?_, fun b xs h => ?_, fun b v x h => ?_, fun b v h => ?_⟩
  · rw [upd_ne (fun e => hb (by rw [e]; exact List.mem_of_getElem? h2))]
    exact h
  · rw [upd_ne (fun e => by rw [e, hu] at h; cases h; exact m)]
    exact h
  · rw [upd_ne (fun e => by rw [e, hu] at h; cases h; exact m)]
    exact h
  · by_cases e : b = a
    · exact ⟨o, by rw [e]; exact upd_same⟩
    · exact ⟨v, by rw [upd_ne e]; exact h⟩
theorem Sim.write (S : Sim K CA mu st H) {i : Nat} {c c2 : Cell} {a : Addr} {o : HO} (h1 : st[i]? = some c) (h2 : mu[i]? = some a)
    (hc : CellOk K CA mu (upd H a o) c2 a) : Sim K CA mu (st.set i c2) (upd H a o) := by
  have hl : i < st.length := (List.getElem?_eq_some_iff.mp h1).1
  refine ⟨by rw [List.length_set]; exact S.len, fun j d b hd hb => ?_, S.nd⟩
  by_cases e : j = i
  · subst e
    rw [List.getElem?_set_self hl] at hd
    cases hd
    rw [h2] at hb
    cases hb
    exact hc
  · rw [List.getElem?_set_ne (Ne.symm e)] at hd
    have ne : b ≠ a := fun q => e (S.nd j i a (q ▸ hb) h2)
    exact (S.cell j d b hd hb).mono (Ext.write S h1 h2).mon fun v hv _ => by rw [upd_ne ne]; exact hv
end

/-! ### readings by a semantic function -/
/-- how an exception lies: its class, its own dict -/
def RX (K : PySem.W.Frag) (mu : List Addr) (H : Hp) (x : Xc) (c : Value) (d : Option Addr) : Prop :=
  c = .ref (He.ga K x.cls) ∧ (match x.fs with
    | [] => d = none
    | fs => ∃ dd vs, d = some dd ∧ H dd = some (.xd vs) ∧ RelFs K mu H fs vs)
def RelE (K : PySem.W.Frag) (mu : List Addr) (H : Hp) (env : Env) (sg : L2.St) : Prop :=
  env.length = sg.length ∧ ∀ (i : Nat) (d : D), env[i]? = some (some d) → ∃ v, sg[i]? = some (some v) ∧ RelD K mu H d v
theorem RelE.mono {K : PySem.W.Frag} {mu mu' : List Addr} {H H' : Hp} {env : Env} {sg : L2.St} (e : Ext mu H mu' H') (r : RelE K mu H env sg) : RelE K mu' H' env sg :=
  ⟨r.1, fun i d h => let ⟨v, h1, h2⟩ := r.2 i d h; ⟨v, h1, h2.mono e⟩⟩
theorem RelE.set {K : PySem.W.Frag} {mu : List Addr} {H : Hp} {env : Env} {sg : L2.St} (r : RelE K mu H env sg) (i : Nat) {d : D} {v : V} (h : RelD K mu H d v) : RelE K mu H (env.set i (some d)) (sg.set i (some v)) := by
  refine ⟨by rw [List.length_set, List.length_set]; exact r.1, fun j d' hj => ?_⟩
  by_cases e : i = j
  · subst e
    have hl : i < env.length := by
      have := (List.getElem?_eq_some_iff.mp hj).1
      rw [List.length_set] at this
      exact this
    rw [List.getElem?_set_self hl] at hj
    cases hj
    exact ⟨v, by rw [List.getElem?_set_self (by rw [← r.1]; exact hl)], h⟩
  · rw [List.getElem?_set_ne e] at hj
    obtain ⟨w, h1, h2⟩ := r.2 j d' hj
    exact ⟨w, by rw [List.getElem?_set_ne e]; exact h1, h2⟩

/-- the fixed things of a reading: the written part, the classes, what is wished of exceptions -/
structure Rc where
  K : PySem.W.Frag
  CA : ClsA
  EX : XK

def PostR (r : Rc) {a b : Type} (R : List Addr → Hp → a → b → Prop) (mu : List Addr) (H : Hp) (res : Res a) (Q : b → Hp → Prop) : Prop :=
  match res with
  | .ok d st => ∀ mu' H' v, Ext mu H mu' H' → Sim r.K r.CA mu' st H' → R mu' H' d v → Q v H'
  | .exc x st => ∀ mu' H' c dd, Ext mu H mu' H' → Sim r.K r.CA mu' st H' → RX r.K mu' H' x c dd → r.EX c dd H'
  | .err => False
def tM (r : Rc) {a b : Type} (R : List Addr → Hp → a → b → Prop) (f : Env → M a) : L2.St → Hp → (b → Hp → Prop) → Prop :=
  fun sg H Q => ∃ mu st env, Sim r.K r.CA mu st H ∧ RelE r.K mu H env sg ∧ PostR r R mu H (f env st) Q
abbrev tE (r : Rc) (f : Env → M D) : TE := tM r (fun mu H d v => RelD r.K mu H d v) f
abbrev tEs (r : Rc) (f : Env → M (List D)) : TA := tM r (fun mu H d v => RelDs r.K mu H d v) f
abbrev tT (r : Rc) (f : Env → M Bool) : TT := tM r (fun _ _ (d v : Bool) => v = d) f

section
variable {r : Rc} {a b a2 b2 : Type} {R : List Addr → Hp → a → b → Prop} {R2 : List Addr → Hp → a2 → b2 → Prop} {mu : List Addr} {H : Hp}
theorem PostR.shift {mu1 : List Addr} {H1 : Hp} {res : Res a} {Q : b → Hp → Prop} (e : Ext mu H mu1 H1) (h : PostR r R mu H res Q) : PostR r R mu1 H1 res Q := by
  cases res with
  | ok d st => exact fun mu' H' v e' => h mu' H' v (e.trans e')
  | exc x st => exact fun mu' H' c dd e' => h mu' H' c dd (e.trans e')
  | err => exact h
/-- the first of two steps -/
theorem PostR.bd {m : M a} {k : a → M a2} {st : Sto} {Q : b2 → Hp → Prop} {Q1 : b → Hp → Prop} (h : PostR r R2 mu H (M.bd m k st) Q)
    (hk : ∀ d st1, m st = .ok d st1 → ∀ mu1 H1 v1, Ext mu H mu1 H1 → Sim r.K r.CA mu1 st1 H1 → R mu1 H1 d v1 → PostR r R2 mu1 H1 (k d st1) Q → Q1 v1 H1) : PostR r R mu H (m st) Q1 := by
  cases e : m st with
  | ok d st1 =>
    rw [bd_ok e] at h
    exact fun mu1 H1 v1 e1 s1 r1 => hk d st1 e mu1 H1 v1 e1 s1 r1 (h.shift e1)
  | exc x st1 =>
    rw [bd_exc e] at h
    exact h
  | err =>
    rw [bd_err e] at h
    exact h
theorem PostR.mono {res : Res a} {Q Q1 : b → Hp → Prop} (h : PostR r R mu H res Q) (k : ∀ v H, Q v H → Q1 v H) : PostR r R mu H res Q1 := by
  cases res with
  | ok d st => exact fun mu' H' v e s q => k _ _ (h mu' H' v e s q)
  | exc x st => exact h
  | err => exact h
end
theorem PE.imp {X : Cx} {e : Expr} {t t' : TE} (h : PE X e t) (k : ∀ sg H Q, t' sg H Q → t sg H Q) : PE X e t' := ⟨fun pins s sg H Q I q => h.run pins s sg H Q I (k sg H Q q)⟩
theorem PT.imp {X : Cx} {e : Expr} {t t' : TT} (h : PT X e t) (k : ∀ sg H Q, t' sg H Q → t sg H Q) : PT X e t' := ⟨fun pins s sg H Q I q => h.run pins s sg H Q I (k sg H Q q)⟩
theorem PW.imp {X : Cx} {e : Expr} {t t' : TT} (h : PW X e t) (k : ∀ sg H Q, t' sg H Q → t sg H Q) : PW X e t' := ⟨fun wh pins s sg H Q I q => h.run wh pins s sg H Q I (k sg H Q q)⟩
theorem PA.imp {X : Cx} {e : List Expr} {t t' : TA} (h : PA X e t) (k : ∀ sg H Q, t' sg H Q → t sg H Q) : PA X e t' := ⟨fun pos pins s sg H Q I q => h.run pos pins s sg H Q I (k sg H Q q)⟩
theorem PS.imp {X : Cx} {e : Stmt} {t t' : TS} (h : PS X e t) (k : ∀ D sg H, t' D sg H → t D sg H) : PS X e t' := ⟨fun pins s sg H D I q => h.run pins s sg H D I (k D sg H q)⟩
theorem PSs.imp {X : Cx} {e : List Stmt} {t t' : TS} (h : PSs X e t) (k : ∀ D sg H, t' D sg H → t D sg H) : PSs X e t' := ⟨fun pins s sg H D I q => h.run pins s sg H D I (k D sg H q)⟩
theorem PI.imp {X : Cx} {tg e : Expr} {t t' : TI} (h : PI X tg e t) (k : ∀ sg H R, t' sg H R → t sg H R) : PI X tg e t' := ⟨fun pins s sg H R I q => h.run pins s sg H R I (k sg H R q)⟩
theorem PI.or {X : Cx} {tg e : Expr} {t t' : TI} (h : PI X tg e t) (h' : PI X tg e t') : PI X tg e (fun sg H R => t sg H R ∨ t' sg H R) :=
  ⟨fun pins s sg H R I q => q.elim (h.run pins s sg H R I) (h'.run pins s sg H R I)⟩
end Y

/-! Operations by values: what the evaluator's operations say, the model's do. -/
namespace Y
open PySem PySem.Spec L2

section
variable {r : Rc} {a b : Type} {R : List Addr → Hp → a → b → Prop} {mu : List Addr} {H : Hp} {Q : b → Hp → Prop}
theorem post_need {c : Bool} {k : Unit → M a} {st : Sto} (h : PostR r R mu H (M.bd (need c) k st) Q) : c = true ∧ PostR r R mu H (k () st) Q := by
  cases c with
  | true => exact ⟨rfl, h⟩
  | false => exact h.elim
theorem post_len {n : Nat} {k : Unit → M a} {st : Sto} (h : PostR r R mu H (M.bd (lenOk n) k st) Q) : n ≤ sizeLine ∧ PostR r R mu H (k () st) Q := by
  obtain ⟨h1, h2⟩ := post_need h
  have : n ≤ 16000000 := of_decide_eq_true h1
  exact ⟨Nat.le_trans this (by decide), h2⟩
theorem post_ofO {c : Type} {o : Option c} {k : c → M a} {st : Sto} (h : PostR r R mu H (M.bd (ofO o) k st) Q) : ∃ v, o = some v ∧ PostR r R mu H (k v st) Q := by
  cases o with
  | none => exact h.elim
  | some v => exact ⟨v, rfl, h⟩
theorem post_ofO1 {o : Option a} {st : Sto} (h : PostR r R mu H (ofO o st) Q) : ∃ v, o = some v ∧ PostR r R mu H (.ok v st) Q := by
  cases o with
  | none => exact h.elim
  | some v => exact ⟨v, rfl, h⟩
theorem post_rd {c : Type} {n : Nat} {f : Cell → Option c} {k : c → M a} {st : Sto} (h : PostR r R mu H (M.bd (rd n f) k st) Q) : ∃ o v, st[n]? = some o ∧ f o = some v ∧ PostR r R mu H (k v st) Q := by
  cases e : st[n]? with
  | none =>
    rw [bd_err (show rd n f st = .err by unfold rd; rw [e]; rfl)] at h
    exact h.elim
  | some o =>
    cases e2 : f o with
    | none =>
      rw [bd_err (show rd n f st = .err by unfold rd; rw [e, Option.bind_some, e2])] at h
      exact h.elim
    | some v =>
      rw [bd_ok (show rd n f st = .ok v st by unfold rd; rw [e, Option.bind_some, e2])] at h
      exact ⟨o, v, rfl, e2, h⟩
theorem post_rd1 {n : Nat} {f : Cell → Option a} {st : Sto} (h : PostR r R mu H (rd n f st) Q) : ∃ o v, st[n]? = some o ∧ f o = some v ∧ PostR r R mu H (.ok v st) Q := by
  cases e : st[n]? with
  | none =>
    rw [show rd n f st = .err by unfold rd; rw [e]; rfl] at h
    exact h.elim
  | some o =>
    cases e2 : f o with
    | none =>
      rw [show rd n f st = .err by unfold rd; rw [e, Option.bind_some, e2]] at h
      exact h.elim
    | some v =>
      rw [show rd n f st = .ok v st by unfold rd; rw [e, Option.bind_some, e2]] at h
      exact ⟨o, v, rfl, e2, h⟩
theorem seq_lst {o : Cell} {ds : List D} (h : o.seq = some ds) : o = .lst ds := by
  cases o with
  | lst es => exact congrArg Cell.lst (Option.some.inj h)
  | _ => cases h
theorem post_lstOf {n : Nat} {k : List D → M a} {st : Sto} (h : PostR r R mu H (M.bd (lstOf n) k st) Q) : ∃ ds, st[n]? = some (.lst ds) ∧ PostR r R mu H (k ds st) Q := by
  obtain ⟨o, v, h1, h2, h3⟩ := post_rd h
  exact ⟨v, by rw [h1, seq_lst h2], h3⟩
theorem post_seqO {n : Nat} {k : List D → M a} {st : Sto} (h : PostR r R mu H (M.bd (seqOf (.ob n)) k st) Q) : ∃ ds, st[n]? = some (.lst ds) ∧ PostR r R mu H (k ds st) Q := by
  obtain ⟨o, v, h1, h2, h3⟩ := post_rd h
  exact ⟨v, by rw [h1, seq_lst h2], h3⟩
end
section
variable {K : PySem.W.Frag} {CA : ClsA} {mu : List Addr} {H : Hp} {st : Sto}
theorem Sim.seq (S : Sim K CA mu st H) {n : Nat} {a : Addr} {ds : List D} (h : st[n]? = some (.lst ds)) (ha : mu[n]? = some a) : ∃ xs, SqL K H a xs ∧ RelDs K mu H ds xs := by
  obtain ⟨xs, h1, h2⟩ := S.at h ha
  exact ⟨xs, .inl (.inl h1), h2⟩
theorem ro_seq {a : Addr} {xs : List V} (h : (∃ o, H a = some (.frz o (.lst xs))) ∨ KL K a xs) : SqL K H a xs := by
  rcases h with ⟨o, h⟩ | h
  · exact .inl (.inr ⟨o, h⟩)
  · exact .inr h
mutual
/-- data without cells, as the library's data -/
theorem RelD.dp : ∀ {d : D} {v : V}, d.flat = true → RelD K mu H d v → Dp K H v d.py
  | _, _, _, .non => .non
  | _, _, _, .bl b => .bl b
  | _, _, _, .int i => .int i
  | _, _, _, .str x => .str x
  | .tup ds, _, f, .tup h r => .tup (SqT.of h) (RelDs.dp (show D.flats ds = true from f) r)
  | _, _, f, .ob _ => nomatch f
  | _, _, f, .ro _ _ => nomatch f
theorem RelDs.dp : ∀ {d : List D} {v : List V}, D.flats d = true → RelDs K mu H d v → DpAll K H v (D.pys d)
  | _, _, _, .nil => .nil
  | d :: ds, _, f, .cons h r => by
    have f' : D.flat d = true ∧ D.flats ds = true := by simpa [D.flats] using f
    exact .cons (RelD.dp f'.1 h) (RelDs.dp f'.2 r)
end
end
mutual
theorem D.py_depth : ∀ d : D, (D.py d).depth ≤ d.dep
  | .non => by simp [D.py, PyData.depth]
  | .bl _ => by simp [D.py, PyData.depth]
  | .int _ => by simp [D.py, PyData.depth]
  | .str _ => by simp [D.py, PyData.depth]
  | .ob _ => by simp [D.py, PyData.depth]
  | .ro _ => by simp [D.py, PyData.depth]
  | .tup ds => by
    have := D.pys_depth ds
    simp only [D.py, PyData.depth, D.dep]
    omega
theorem D.pys_depth : ∀ ds : List D, PyData.depthAll (D.pys ds) ≤ D.deps ds
  | [] => by simp [D.pys, PyData.depthAll]
  | d :: ds => by
    have h1 := D.py_depth d
    have h2 := D.pys_depth ds
    simp only [D.pys, PyData.depthAll, D.deps]
    omega
end
mutual
theorem D.py_lay : ∀ d : D, d.flat = true → (D.py d).canLay0 = true
  | .non, _ => by simp [D.py, PyData.canLay0]
  | .bl _, _ => by simp [D.py, PyData.canLay0]
  | .int _, _ => by simp [D.py, PyData.canLay0]
  | .str x, h => by simpa [D.py, PyData.canLay0, D.flat] using h
  | .ob _, _ => by simp [D.py, PyData.canLay0]
  | .ro _, _ => by simp [D.py, PyData.canLay0]
  | .tup ds, h => by
    have := D.pys_lay ds (by simpa [D.flat] using h)
    simp only [D.py, PyData.canLay0]
    exact this
theorem D.pys_lay : ∀ ds : List D, D.flats ds = true → PyData.canLayAll0 (D.pys ds) = true
  | [], _ => by simp [D.pys, PyData.canLayAll0]
  | d :: ds, h => by
    have h' : D.flat d = true ∧ D.flats ds = true := by simpa [D.flats] using h
    have h1 := D.py_lay d h'.1
    have h2 := D.pys_lay ds h'.2
    simp only [D.pys, PyData.canLayAll0, h1, h2, Bool.and_self]
end
theorem D.okEq_flat {d : D} (h : d.okEq = true) : d.flat = true := (Bool.and_eq_true_iff.mp h).1
theorem D.okEq_dep {d : D} (h : d.okEq = true) : d.dep ≤ 40 := of_decide_eq_true (Bool.and_eq_true_iff.mp h).2
theorem D.okEq_shaped {d : D} (h : d.okEq = true) : SeqAt.shaped d.py = true := by
  have h1 := D.okEq_dep h
  have h2 := D.py_depth d
  exact Bool.and_eq_true_iff.mpr ⟨D.py_lay d (D.okEq_flat h), decide_eq_true (by omega)⟩
theorem D.okEq_shapedL {ds : List D} (h : (D.tup ds).okEq = true) : SeqAt.shaped (.list (D.pys ds)) = true := by
  have h1 := D.okEq_dep h
  have h2 := D.pys_depth ds
  simp only [D.dep] at h1
  refine Bool.and_eq_true_iff.mpr ⟨by simp only [PyData.canLay0]; exact D.pys_lay ds (by simpa [D.flat] using D.okEq_flat h), decide_eq_true ?_⟩
  simp only [PyData.depth]
  omega

/-- an operation by values is sound for a rule's reading -/
def OpS (r : Rc) (op : D → D → M D) (rr : R2) : Prop := ∀ (mu : List Addr) (st : Sto) (H : Hp) (d e : D) (x y : V) (Q : VK),
  Sim r.K r.CA mu st H → RelD r.K mu H d x → RelD r.K mu H e y → PostR r (fun mu H d v => RelD r.K mu H d v) mu H (op d e st) Q → rr x y H Q

section
variable {r : Rc}
theorem ok_val {mu : List Addr} {H : Hp} {st : Sto} {d : D} {v : V} {Q : VK} (S : Sim r.K r.CA mu st H) (P : PostR r (fun mu H d v => RelD r.K mu H d v) mu H (.ok d st) Q) (h : RelD r.K mu H d v) : Q v H := P mu H v (Ext.refl mu H) S h
theorem ok_tup {mu : List Addr} {H : Hp} {st : Sto} {ds : List D} {vs : List V} {Q : VK} (S : Sim r.K r.CA mu st H) (P : PostR r (fun mu H d v => RelD r.K mu H d v) mu H (.ok (.tup ds) st) Q) (h : RelDs r.K mu H ds vs)
    (p : Addr) (n : H p = none) : Q (.ref p) (upd H p (.tup vs)) :=
  P mu _ _ (Ext.fresh n) (S.fresh n) (.tup upd_same (h.mono (Ext.fresh n)))
theorem ok_new {mu : List Addr} {H : Hp} {st : Sto} {ds : List D} {vs : List V} {Q : VK} (S : Sim r.K r.CA mu st H) (P : PostR r (fun mu H d v => RelD r.K mu H d v) mu H (newC (.lst ds) st) Q) (h : RelDs r.K mu H ds vs)
    (p : Addr) (n : H p = none) : Q (.ref p) (upd H p (.lst vs)) := by
  refine P (mu ++ [p]) _ _ (Ext.newc n) (S.newc n ⟨vs, upd_same, h.mono (Ext.newc n)⟩) (.ob ?_)
  rw [← S.len, List.getElem?_append_right (Nat.le_refl _), Nat.sub_self]
  rfl
theorem ok_set {mu : List Addr} {H : Hp} {st : Sto} {n : Nat} {a : Addr} {c : Cell} {ds : List D} {vs : List V} (S : Sim r.K r.CA mu st H) (h1 : st[n]? = some c) (h2 : mu[n]? = some a) (h : RelDs r.K mu H ds vs) :
    Ext mu H mu (upd H a (.lst vs)) ∧ Sim r.K r.CA mu (st.set n (.lst ds)) (upd H a (.lst vs)) :=
  ⟨Ext.write S h1 h2, S.write h1 h2 ⟨vs, upd_same, h.mono (Ext.write S h1 h2)⟩⟩

def rAddY (K : PySem.W.Frag) : R2 := fun x y H Q => (rI0 fun i j => .int (i + j)) x y H Q ∨ ((fun x y H (Q : VK) => ∃ i j, x = .str i ∧ y = .str j ∧ i.length + j.length ≤ sizeLine ∧ Q (.str (i ++ j)) H) x y H Q ∨ (rCatA K x y H Q ∨ rCat x y H Q))
theorem or_addY {X : Cx} : OpR X (binaryOp .Add) (rAddY X.K) := op_add.or (op_add_str.or (op_catA.or op_cat))
theorem os_add : OpS r (binop .add) (rAddY r.K) := by
  intro mu st H d e x y Q S hd he P
  cases d with
  | int i =>
    cases e with
    | int j =>
      cases hd
      cases he
      exact .inl ⟨i, j, rfl, rfl, ok_val S P (.int _)⟩
    | _ => exact P.elim
  | str i =>
    cases e with
    | str j =>
      cases hd
      cases he
      obtain ⟨h1, P⟩ := post_len P
      exact .inr (.inl ⟨i, j, rfl, rfl, h1, ok_val S P (.str _)⟩)
    | _ => exact P.elim
  | tup ds =>
    cases e with
    | tup es =>
      cases hd with
      | tup q1 r1 =>
        cases he with
        | tup q2 r2 =>
          rename_i a xs b ys
          obtain ⟨h1, P⟩ := post_len P
          have l1 := r1.length
          have l2 := r2.length
          refine .inr (.inr (.inl ⟨a, b, xs, ys, rfl, rfl, SqT.of q1, SqT.of q2, by omega, fun e => ?_, fun e1 e2 => ?_, fun e1 e2 p n => ok_tup S P (r1.append r2) p n⟩))
          · subst e
            cases r1
            exact ok_val S P (.tup q2 r2)
          · subst e2
            cases r2
            exact ok_val S P (by rw [List.append_nil]; exact .tup q1 r1)
    | _ => exact P.elim
  | ob n =>
    cases e with
    | ob m =>
      cases hd with
      | ob ha =>
        cases he with
        | ob hb =>
          rename_i a b
          obtain ⟨ds, c1, P⟩ := post_lstOf P
          obtain ⟨es, c2, P⟩ := post_lstOf P
          obtain ⟨h1, P⟩ := post_len P
          obtain ⟨xs, e1, r1⟩ := S.at c1 ha
          obtain ⟨ys, e2, r2⟩ := S.at c2 hb
          have l1 := r1.length
          have l2 := r2.length
          exact .inr (.inr (.inr ⟨a, b, xs, ys, rfl, rfl, e1, e2, by omega, fun p n => ok_new S P (r1.append r2) p n⟩))
    | _ => exact P.elim
  | _ => cases e <;> exact P.elim
theorem os_int {o : BinO} {C : Int → Int → Prop} {g : Int → Int → Int} {c : Int → Int → Bool} (hc : ∀ i j, c i j = true → C i j) (h1 : ∀ (i j : Int) (st : Sto), binop o (.int i) (.int j) st = M.bd (need (c i j)) (fun _ => pure (.int (g i j))) st)
    (h2 : ∀ (d e : D) (st : Sto), (∀ i j, ¬ (d = .int i ∧ e = .int j)) → binop o d e st = .err) : OpS r (binop o) (rI C fun i j => .int (g i j)) := by
  intro mu st H d e x y Q S hd he P
  by_cases h : ∃ i j, d = .int i ∧ e = .int j
  · obtain ⟨i, j, rfl, rfl⟩ := h
    cases hd
    cases he
    rw [h1] at P
    obtain ⟨q, P⟩ := post_need P
    exact ⟨i, j, rfl, rfl, hc i j q, ok_val S P (.int _)⟩
  · rw [h2 d e st (fun i j q => h ⟨i, j, q⟩)] at P
    exact P.elim
theorem os_sub : OpS r (binop .sub) (rI0 fun i j => .int (i - j)) := by
  intro mu st H d e x y Q S hd he P
  cases d with
  | int i =>
    cases e with
    | int j =>
      cases hd
      cases he
      exact ⟨i, j, rfl, rfl, ok_val S P (.int _)⟩
    | _ => exact P.elim
  | _ => cases e <;> exact P.elim
theorem bigZ_ok {i : Int} (h : bigZ i = true) : -(2 ^ 64) < i ∧ i < 2 ^ 64 := by
  unfold bigZ at h
  rw [Bool.and_eq_true_iff] at h
  exact ⟨of_decide_eq_true h.1, of_decide_eq_true h.2⟩
theorem noInt {o : BinO} (h : o ≠ .add) : ∀ (d e : D) (st : Sto), (∀ i j, ¬ (d = .int i ∧ e = .int j)) → binop o d e st = .err := by
  intro d e st q
  cases d <;> cases e <;> first | exact absurd ⟨rfl, rfl⟩ (q _ _) | (cases o <;> first | rfl | exact absurd rfl h)
theorem os_mul : OpS r (binop .mul) (rI CMul fun i j => .int (i * j)) :=
  os_int (c := fun i j => bigZ i || bigZ j) (fun i j h => by
    rcases (Bool.or_eq_true_iff).mp h with h | h
    · exact .inl (bigZ_ok h)
    · exact .inr (bigZ_ok h)) (fun _ _ _ => rfl) (noInt (by decide))
theorem os_fdv : OpS r (binop .fdv) (rI CDiv fun i j => .int (i / j)) :=
  os_int (c := fun i j => decide (0 < j) && decide (j < 1073741824)) (fun i j h => by
    rw [Bool.and_eq_true_iff] at h
    exact ⟨of_decide_eq_true h.1, of_decide_eq_true h.2⟩) (fun _ _ _ => rfl) (noInt (by decide))
theorem os_mod : OpS r (binop .mod) (rI (fun _ j => 0 < j) fun i j => .int (i % j)) :=
  os_int (c := fun i j => decide (0 < j)) (fun i j h => of_decide_eq_true h) (fun _ _ _ => rfl) (noInt (by decide))
theorem os_pow : OpS r (binop .pow) (rI CPow fun i j => .int (i ^ j.toNat)) :=
  os_int (c := fun i j => decide (0 ≤ j) && decide (j ≤ 1000) && bigZ i) (fun i j h => by
    simp only [Bool.and_eq_true, decide_eq_true_eq] at h
    obtain ⟨⟨h1, h2⟩, h3⟩ := h
    have := bigZ_ok h3
    exact ⟨h1, by omega, by omega⟩) (fun _ _ _ => rfl) (noInt (by decide))
end
end Y

namespace Y
open PySem PySem.Spec L2

section
variable {r : Rc} {a b : Type} {R : List Addr → Hp → a → b → Prop} {mu : List Addr} {H : Hp} {Q : b → Hp → Prop}
theorem post_py {d : D} {v : V} {k : PyData → M a} {st : Sto} (S : Sim r.K r.CA mu st H) (hd : RelD r.K mu H d v) (h : PostR r R mu H (M.bd (pyTop d) k st) Q) :
    ∃ p, Dp r.K H v p ∧ SeqAt.shaped p = true ∧ PostR r R mu H (k p st) Q := by
  have flat : ∀ d' : D, d' = d → (PostR r R mu H (M.bd (M.bd (need d'.okEq) fun _ => pure d'.py) k st) Q) → ∃ p, Dp r.K H v p ∧ SeqAt.shaped p = true ∧ PostR r R mu H (k p st) Q := by
    rintro d' rfl P
    cases q : d'.okEq with
    | false =>
      rw [q] at P
      exact P.elim
    | true =>
      rw [q] at P
      exact ⟨_, hd.dp (D.okEq_flat q), D.okEq_shaped q, P⟩
  cases d with
  | ob n =>
    cases hd with
    | ob ha =>
      rename_i p
      have h' : PostR r R mu H (M.bd (rd n Cell.seq) (fun ds => M.bd (M.bd (need (D.tup ds).okEq) fun _ => pure (.list (D.pys ds))) k) st) Q := by
        have e : ∀ st, M.bd (pyTop (.ob n)) k st = M.bd (rd n Cell.seq) (fun ds => M.bd (M.bd (need (D.tup ds).okEq) fun _ => pure (.list (D.pys ds))) k) st := by
          intro st
          show M.bd (M.bd (rd n Cell.seq) fun ds => M.bd (need (D.tup ds).okEq) fun _ => pure (.list (D.pys ds))) k st = _
          unfold M.bd
          cases rd n Cell.seq st <;> rfl
        rw [← e]
        exact h
      obtain ⟨o, ds, h1, h2, P⟩ := post_rd h'
      have hs : st[n]? = some (.lst ds) := by rw [h1, seq_lst h2]
      obtain ⟨xs, q1, q2⟩ := S.seq hs ha
      cases q : (D.tup ds).okEq with
      | false =>
        rw [q] at P
        exact P.elim
      | true =>
        rw [q] at P
        exact ⟨_, .lst q1 (q2.dp (by simpa [D.flat] using D.okEq_flat q)), D.okEq_shapedL q, P⟩
  | non => exact flat _ rfl h
  | bl _ => exact flat _ rfl h
  | int _ => exact flat _ rfl h
  | str _ => exact flat _ rfl h
  | tup _ => exact flat _ rfl h
  | ro _ => exact flat _ rfl h
end

/-- a comparison's value -/
def cmpD (o : CmpO) (d e : D) : M D := do
  let c ← cmpop o d e
  pure (.bl c)
section
variable {r : Rc}
def notStrs (d e : D) : Prop := ∀ x y, ¬ (d = .str x ∧ e = .str y)
theorem eqop_D {d e : D} (h : notStrs d e) : eqop d e = eqopD d e := by
  unfold eqop
  split
  · exact absurd ⟨rfl, rfl⟩ (h _ _)
  · rfl
theorem strs_or (d e : D) : (∃ x y, d = .str x ∧ e = .str y) ∨ notStrs d e := by
  by_cases h : ∃ x y, d = .str x ∧ e = .str y
  · exact .inl h
  · exact .inr fun x y q => h ⟨x, y, q⟩
theorem os_eq : OpS r (cmpD .eq) (fun x y H Q => rEq x y H Q ∨ rEqD r.K x y H Q) := by
  intro mu st H d e x y Q S hd he P
  rcases strs_or d e with ⟨a, b, rfl, rfl⟩ | hns
  · left
    cases hd
    cases he
    have P : PostR r (fun mu H d v => RelD r.K mu H d v) mu H (.ok (.bl (decide (a = b))) st) Q := P
    have e : decide (V.str a = V.str b) = decide (a = b) := by
      by_cases h : a = b
      · subst h
        simp
      · rw [decide_eq_false h, decide_eq_false fun z => h (V.str.inj z)]
    exact ⟨rfl, by rw [e]; exact P mu H _ (Ext.refl _ _) S (.bl _)⟩
  right
  have P' : PostR r (fun mu H d v => RelD r.K mu H d v) mu H (M.bd (pyTop d) (fun p => M.bd (pyTop e) fun q => pure (.bl (PyData.eqv p q))) st) Q := by
    have e1 : cmpD .eq d e st = M.bd (pyTop d) (fun p => M.bd (pyTop e) fun q => pure (.bl (PyData.eqv p q))) st := by
      show M.bd (eqop d e) (fun c => (pure (D.bl c) : M D)) st = _
      rw [eqop_D hns]
      show M.bd (M.bd (pyTop d) fun p => M.bd (pyTop e) fun q => pure (PyData.eqv p q)) (fun c => (pure (D.bl c) : M D)) st = _
      unfold M.bd
      cases pyTop d st with
      | ok v s' =>
        dsimp only
        cases pyTop e s' <;> rfl
      | exc _ _ => rfl
      | err => rfl
    rw [← e1]
    exact P
  obtain ⟨p, h1, h2, P1⟩ := post_py S hd P'
  obtain ⟨q, h3, h4, P2⟩ := post_py S he P1
  exact ⟨p, q, h1, h3, h2, h4, ok_val S P2 (.bl _)⟩
theorem os_ne : OpS r (cmpD .ne) (fun x y H Q => rNe x y H Q ∨ rNeD r.K x y H Q) := by
  intro mu st H d e x y Q S hd he P
  rcases strs_or d e with ⟨a, b, rfl, rfl⟩ | hns
  · left
    cases hd
    cases he
    have P : PostR r (fun mu H d v => RelD r.K mu H d v) mu H (.ok (.bl (!decide (a = b))) st) Q := P
    have e : decide (V.str a = V.str b) = decide (a = b) := by
      by_cases h : a = b
      · subst h
        simp
      · rw [decide_eq_false h, decide_eq_false fun z => h (V.str.inj z)]
    exact ⟨rfl, by rw [e]; exact P mu H _ (Ext.refl _ _) S (.bl _)⟩
  right
  have P' : PostR r (fun mu H d v => RelD r.K mu H d v) mu H (M.bd (pyTop d) (fun p => M.bd (pyTop e) fun q => pure (.bl (!PyData.eqv p q))) st) Q := by
    have e1 : cmpD .ne d e st = M.bd (pyTop d) (fun p => M.bd (pyTop e) fun q => pure (.bl (!PyData.eqv p q))) st := by
      show M.bd (M.bd (eqop d e) (fun c => pure (!c))) (fun c => (pure (D.bl c) : M D)) st = _
      rw [eqop_D hns]
      show M.bd (M.bd (M.bd (pyTop d) fun p => M.bd (pyTop e) fun q => pure (PyData.eqv p q)) (fun c => pure (!c))) (fun c => (pure (D.bl c) : M D)) st = _
      unfold M.bd
      cases pyTop d st with
      | ok v s' =>
        dsimp only
        cases pyTop e s' <;> rfl
      | exc _ _ => rfl
      | err => rfl
    rw [← e1]
    exact P
  obtain ⟨p, h1, h2, P1⟩ := post_py S hd P'
  obtain ⟨q, h3, h4, P2⟩ := post_py S he P1
  exact ⟨p, q, h1, h3, h2, h4, ok_val S P2 (.bl _)⟩
theorem rel_ints {K : PySem.W.Frag} {mu : List Addr} {H : Hp} : ∀ {ds : List D} {vs : List V} {is : List Int}, allInt ds = some is → RelDs K mu H ds vs → vs = is.map V.int
  | [], _, is, h, .nil => by
    cases h
    rfl
  | d :: ds, _, is, h, .cons q t => by
    cases d with
    | int i =>
      cases q
      unfold allInt at h
      cases e : allInt ds with
      | none => rw [e] at h; cases h
      | some js =>
        rw [e] at h
        cases h
        rw [rel_ints e t]
        rfl
    | _ => cases h
theorem rel_bls {K : PySem.W.Frag} {mu : List Addr} {H : Hp} : ∀ {ds : List D} {vs : List V} {is : List Bool}, allBl ds = some is → RelDs K mu H ds vs → vs = is.map V.bl
  | [], _, is, h, .nil => by
    cases h
    rfl
  | d :: ds, _, is, h, .cons q t => by
    cases d with
    | bl i =>
      cases q
      unfold allBl at h
      cases e : allBl ds with
      | none => rw [e] at h; cases h
      | some js =>
        rw [e] at h
        cases h
        rw [rel_bls e t]
        rfl
    | _ => cases h
theorem rel_strs {K : PySem.W.Frag} {mu : List Addr} {H : Hp} : ∀ {ds : List D} {vs : List V} {is : List Str}, allStr ds = some is → RelDs K mu H ds vs → vs = is.map V.str
  | [], _, is, h, .nil => by
    cases h
    rfl
  | d :: ds, _, is, h, .cons q t => by
    cases d with
    | str i =>
      cases q
      unfold allStr at h
      cases e : allStr ds with
      | none => rw [e] at h; cases h
      | some js =>
        rw [e] at h
        cases h
        rw [rel_strs e t]
        rfl
    | _ => cases h
theorem os_lt : OpS r (cmpD .lt) (fun x y H Q => (rI0 fun i j => .bl (decide (i < j))) x y H Q ∨ rLtT r.K x y H Q) := by
  intro mu st H d e x y Q S hd he P
  cases d with
  | int i =>
    cases e with
    | int j =>
      cases hd
      cases he
      exact .inl ⟨i, j, rfl, rfl, ok_val S P (.bl _)⟩
    | _ => exact P.elim
  | tup ds =>
    cases e with
    | tup es =>
      cases hd with
      | tup q1 r1 =>
        cases he with
        | tup q2 r2 =>
          cases e1 : allInt ds with
          | none =>
            have : cmpD .lt (.tup ds) (.tup es) st = .err := by
              show M.bd (M.bd (ofO (allInt ds)) _) _ st = .err
              rw [e1]
              rfl
            rw [this] at P
            exact P.elim
          | some is =>
            cases e2 : allInt es with
            | none =>
              have : cmpD .lt (.tup ds) (.tup es) st = .err := by
                show M.bd (M.bd (ofO (allInt ds)) _) _ st = .err
                rw [e1]
                show M.bd (M.bd (ofO (allInt es)) _) _ st = .err
                rw [e2]
                rfl
              rw [this] at P
              exact P.elim
            | some js =>
              have : cmpD .lt (.tup ds) (.tup es) st = .ok (.bl (HT.lexLt is js)) st := by
                show M.bd (M.bd (ofO (allInt ds)) _) _ st = _
                rw [e1]
                show M.bd (M.bd (ofO (allInt es)) _) _ st = _
                rw [e2]
                rfl
              rw [this] at P
              rename_i a xs b ys
              refine .inr ⟨a, b, is, js, rfl, rfl, ?_, ?_, ok_val S P (.bl _)⟩
              · rw [← rel_ints e1 r1]
                exact SqT.of q1
              · rw [← rel_ints e2 r2]
                exact SqT.of q2
    | _ => exact P.elim
  | _ => cases e <;> exact P.elim
theorem os_cmpI {o : CmpO} {g : Int → Int → Bool} (h1 : ∀ (i j : Int) (st : Sto), cmpD o (.int i) (.int j) st = .ok (.bl (g i j)) st) (h2 : ∀ (d e : D) (st : Sto), (∀ i j, ¬ (d = .int i ∧ e = .int j)) → cmpD o d e st = .err) :
    OpS r (cmpD o) (rI0 fun i j => .bl (g i j)) := by
  intro mu st H d e x y Q S hd he P
  by_cases h : ∃ i j, d = .int i ∧ e = .int j
  · obtain ⟨i, j, rfl, rfl⟩ := h
    cases hd
    cases he
    rw [h1] at P
    exact ⟨i, j, rfl, rfl, ok_val S P (.bl _)⟩
  · rw [h2 d e st (fun i j q => h ⟨i, j, q⟩)] at P
    exact P.elim
theorem os_le : OpS r (cmpD .le) (rI0 fun i j => .bl (decide (i ≤ j))) := os_cmpI (fun _ _ _ => rfl) fun d e st q => by
  cases d <;> cases e <;> first | exact absurd ⟨rfl, rfl⟩ (q _ _) | rfl
theorem os_gt : OpS r (cmpD .gt) (rI0 fun i j => .bl (decide (j < i))) := os_cmpI (fun _ _ _ => rfl) fun d e st q => by
  cases d <;> cases e <;> first | exact absurd ⟨rfl, rfl⟩ (q _ _) | rfl
theorem os_ge : OpS r (cmpD .ge) (rI0 fun i j => .bl (decide (j ≤ i))) := os_cmpI (fun _ _ _ => rfl) fun d e st q => by
  cases d <;> cases e <;> first | exact absurd ⟨rfl, rfl⟩ (q _ _) | rfl
/-- is None, is True -/
def rIsY (neg : Bool) : R2 := fun x y H Q => (y = .non ∧ Q (.bl (if neg then !decide (x = .non) else decide (x = .non))) H) ∨ ∃ a b : Bool, x = .bl a ∧ y = .bl b ∧ Q (.bl (if neg then !decide (a = b) else decide (a = b))) H
theorem or_is {X : Cx} : OpR X (compareOp .Is) (rIsY false) := op_isN.or op_isBl
theorem or_isnot {X : Cx} : OpR X (compareOp .IsNot) (rIsY true) := op_notN.or op_notBl
theorem rel_non {K : PySem.W.Frag} {mu : List Addr} {H : Hp} {d : D} {x : V} (h : RelD K mu H d x) : decide (x = V.non) = decide (d = D.non) := by
  cases h with
  | non => rfl
  | bl b => rfl
  | int i => rfl
  | str x => rfl
  | tup _ _ => rfl
  | ob _ => rfl
  | ro _ _ => rfl
theorem os_is : OpS r (cmpD .is) (rIsY false) := by
  intro mu st H d e x y Q S hd he P
  cases e with
  | non =>
    cases he
    refine .inl ⟨rfl, ?_⟩
    have h2 : PostR r (fun mu H d v => RelD r.K mu H d v) mu H (.ok (.bl (decide (d = .non))) st) Q := by
      cases d <;> exact P
    show Q (.bl (decide (x = V.non))) H
    rw [rel_non hd]
    exact ok_val S h2 (.bl _)
  | bl b =>
    cases d with
    | bl a =>
      cases hd
      cases he
      exact .inr ⟨a, b, rfl, rfl, ok_val S P (.bl _)⟩
    | _ => exact P.elim
  | _ => cases d <;> exact P.elim
theorem os_isnot : OpS r (cmpD .isnot) (rIsY true) := by
  intro mu st H d e x y Q S hd he P
  cases e with
  | non =>
    cases he
    refine .inl ⟨rfl, ?_⟩
    have h2 : PostR r (fun mu H d v => RelD r.K mu H d v) mu H (.ok (.bl (!decide (d = .non))) st) Q := by
      cases d <;> exact P
    show Q (.bl (!decide (x = V.non))) H
    rw [rel_non hd]
    exact ok_val S h2 (.bl _)
  | bl b =>
    cases d with
    | bl a =>
      cases hd
      cases he
      exact .inr ⟨a, b, rfl, rfl, ok_val S P (.bl _)⟩
    | _ => exact P.elim
  | _ => cases d <;> exact P.elim
end
end Y

namespace Y
open PySem PySem.Spec L2

/-! ### in -/
theorem keyOk1_flat {K : PySem.W.Frag} {mu : List Addr} {H : Hp} {d : D} {x : V} (k : keyOk1 d = true) (h : RelD K mu H d x) : flatV x = true := by
  cases h with
  | int i => rfl
  | str x => rfl
  | non => rfl
  | bl b => rfl
  | tup _ _ => cases k
  | ob _ => cases k
  | ro _ _ => cases k
theorem eqV_key {K : PySem.W.Frag} {mu : List Addr} {H : Hp} {d e : D} {x y : V} (kd : keyOk1 d = true) (ke : keyOk1 e = true) (hd : RelD K mu H d x) (he : RelD K mu H e y) : eqV x y = decide (d = e) := by
  cases hd with
  | int i =>
    cases he with
    | int j =>
      by_cases q : i = j
      · subst q
        simp [eqV]
      · simp [eqV, q]
    | str z => rfl
    | _ => cases ke
  | str i =>
    cases he with
    | int j => rfl
    | str z =>
      by_cases q : i = z
      · subst q
        simp [eqV]
      · simp [eqV, q]
    | _ => cases ke
  | _ => cases kd
theorem inV_key {K : PySem.W.Frag} {mu : List Addr} {H : Hp} {e : D} {y : V} (ke : keyOk1 e = true) (he : RelD K mu H e y) : ∀ {ds : List D} {xs : List V}, ds.all keyOk1 = true → RelDs K mu H ds xs →
    xs.all flatV = true ∧ inV y xs = ds.any fun z => decide (z = e)
  | _, _, _, .nil => ⟨rfl, rfl⟩
  | d :: ds, _, k, .cons h t => by
    rw [List.all_cons, Bool.and_eq_true_iff] at k
    obtain ⟨h1, h2⟩ := inV_key ke he k.2 t
    refine ⟨by rw [List.all_cons, keyOk1_flat k.1 h, h1]; rfl, ?_⟩
    unfold inV at h2 ⊢
    rw [List.any_cons, List.any_cons, h2, eqV_key k.1 ke h he]
def rInStr (neg : Bool) : R2 := fun x y H Q => ∃ i j, x = .str i ∧ y = .str j ∧ Q (.bl (if neg then !(!(Builtin.Str.occurrences j i 0 j.length 1).isEmpty) else !(Builtin.Str.occurrences j i 0 j.length 1).isEmpty)) H
def rInL (K : PySem.W.Frag) (neg : Bool) : R2 := fun x y H Q => ∃ d ds, Dp K H x d ∧ Dp K H y (.list ds) ∧ SeqAt.shaped d = true ∧ SeqAt.shaped (.list ds) = true ∧ Q (.bl (if neg then !ds.any fun z => PyData.eqv z d else ds.any fun z => PyData.eqv z d)) H
/-- a key in a dict; an empty dict may be looked at as one with keys of another sort -/
def rInDct (neg : Bool) : R2 := fun y x H Q => ∃ a o H', x = .ref a ∧ (H' = H ∨ (H a = some (.dK []) ∧ H' = upd H a (.dT [])) ∨ (H a = some (.dT []) ∧ H' = upd H a (.dK []))) ∧ DGet H' a y o ∧ Q (.bl (if neg then !o.isSome else o.isSome)) H'
section
variable {X : Cx} {pins : List (Addr × Obj)} {sg : L2.St} {H H' : Hp} {s : Shared} {a : Addr}
theorem conv_kt (I : Inv X pins sg H s) (h : H a = some (.dK [])) : Inv X pins sg (upd H a (.dT [])) s := by
  obtain ⟨z, y, vs, kv, o, es, ep, h1, h2, h3, h4, h5⟩ := (show ObjOk X.prog X.w H s.heap a (.dK []) from I.hok a _ h)
  cases kv
  have q := I.write (x := a) (e := a) (o := .dT []) (h' := s.heap) (t' := s.toks) (by rw [h]; trivial) (.inl rfl) (fun b u _ e => e) ⟨o, h1⟩ ⟨z, y, [], .nil, o, es, ep, h1, h2, h3, by
    generalize hl : es.toList = l at h5
    cases h5.1
    rfl, by simp⟩
  exact q
theorem conv_tk (I : Inv X pins sg H s) (h : H a = some (.dT [])) : Inv X pins sg (upd H a (.dK [])) s := by
  obtain ⟨z, y, xs, kv, o, es, ep, h1, h2, h3, h4, h5⟩ := (show ObjOk X.prog X.w H s.heap a (.dT []) from I.hok a _ h)
  cases kv
  have q := I.write (x := a) (e := a) (o := .dK []) (h' := s.heap) (t' := s.toks) (by rw [h]; trivial) (.inl rfl) (fun b u _ e => e) ⟨o, h1⟩ ⟨z, y, [], .nil, o, es, ep, h1, h2, h3, by
    have e0 : es = #[] := Array.toList_inj.mp h4
    subst e0
    first | exact fun _ h => nomatch h | simp [PySem.KeysOf] | (unfold PySem.KeysOf; simp), by
    rw [h4]
    exact .nil, by simp⟩
  exact q
theorem conv_any (I : Inv X pins sg H s) (h : H' = H ∨ (H a = some (.dK []) ∧ H' = upd H a (.dT [])) ∨ (H a = some (.dT []) ∧ H' = upd H a (.dK []))) : Inv X pins sg H' s := by
  rcases h with rfl | ⟨h, rfl⟩ | ⟨h, rfl⟩
  · exact I
  · exact conv_kt I h
  · exact conv_tk I h
end
section
variable {X : Cx}
theorem or_inDct (hu : X.A.units + 1 < cLine) : OpR X (compareOp .In) (rInDct false) := by
  intro pins s sg H x y v u Q I rx ry h
  obtain ⟨a, o, H', rfl, hH, hg, q⟩ := h
  cases ry
  exact d_in hu (conv_any I hH) hg rx fun s' I' => ⟨.bl _, H', I', rfl, q⟩
theorem or_ninDct (hu : X.A.units + 1 < cLine) : OpR X (compareOp .NotIn) (rInDct true) := by
  intro pins s sg H x y v u Q I rx ry h
  obtain ⟨a, o, H', rfl, hH, hg, q⟩ := h
  cases ry
  exact d_notIn hu (conv_any I hH) hg rx fun s' I' => ⟨.bl _, H', I', rfl, q⟩
def rInY (K : PySem.W.Frag) (neg : Bool) : R2 := fun x y H Q => rInStr neg x y H Q ∨ (rIn K neg x y H Q ∨ (rInL K neg x y H Q ∨ rInDct neg x y H Q))
theorem or_in (hu : X.A.units + 65 < cLine) : OpR X (compareOp .In) (rInY X.K false) := op_in_str.or (op_in_seq.or ((op_inD hu).or (or_inDct (by omega))))
theorem or_nin (hu : X.A.units + 65 < cLine) : OpR X (compareOp .NotIn) (rInY X.K true) := op_notIn_str.or (op_notIn_seq.or ((op_notInD hu).or (or_ninDct (by omega))))
end

/-! ### a dict's keys -/
section
variable {K : PySem.W.Frag} {mu : List Addr} {H : Hp}
theorem relK_find {kvs : List (D × D)} {ks : List (Key × V)} (h : RelK K mu H kvs ks) (k : Key) : (dfind kvs (keyD k) = none ∧ valV ks k = none) ∨ ∃ d v, dfind kvs (keyD k) = some d ∧ valV ks k = some v ∧ RelD K mu H d v := by
  induction h with
  | nil => exact .inl ⟨rfl, rfl⟩
  | @int i d v ds vs hr ht ih =>
    unfold dfind valV at ih ⊢
    rw [List.find?_cons, List.find?_cons]
    cases k with
    | inl j =>
      by_cases e : i = j
      · subst e
        exact .inr ⟨d, v, by simp [keyD], by simp, hr⟩
      · have e1 : decide ((D.int i : D) = keyD (.inl j)) = false := decide_eq_false fun q => e (D.int.inj q)
        have e2 : decide ((Sum.inl i : Key) = Sum.inl j) = false := decide_eq_false fun q => e (Sum.inl.inj q)
        rw [e1, e2]
        exact ih
    | inr j =>
      have e1 : decide ((D.int i : D) = keyD (.inr j)) = false := decide_eq_false fun q => nomatch q
      have e2 : decide ((Sum.inl i : Key) = Sum.inr j) = false := decide_eq_false fun q => nomatch q
      rw [e1, e2]
      exact ih
  | @str i d v ds vs hr ht ih =>
    unfold dfind valV at ih ⊢
    rw [List.find?_cons, List.find?_cons]
    cases k with
    | inr j =>
      by_cases e : i = j
      · subst e
        exact .inr ⟨d, v, by simp [keyD], by simp, hr⟩
      · have e1 : decide ((D.str i : D) = keyD (.inr j)) = false := decide_eq_false fun q => e (D.str.inj q)
        have e2 : decide ((Sum.inr i : Key) = Sum.inr j) = false := decide_eq_false fun q => e (Sum.inr.inj q)
        rw [e1, e2]
        exact ih
    | inl j =>
      have e1 : decide ((D.str i : D) = keyD (.inl j)) = false := decide_eq_false fun q => nomatch q
      have e2 : decide ((Sum.inr i : Key) = Sum.inl j) = false := decide_eq_false fun q => nomatch q
      rw [e1, e2]
      exact ih
theorem keyD_inj {a b : Key} (h : keyD a = keyD b) : a = b := by
  cases a <;> cases b <;> first | (cases h; rfl) | cases h
theorem keysD_inj : ∀ {a b : List Key}, a.map keyD = b.map keyD → a = b
  | [], [], _ => rfl
  | [], _ :: _, h => nomatch h
  | _ :: _, [], h => nomatch h
  | x :: a, y :: b, h => by
    rw [List.map_cons, List.map_cons] at h
    rw [keyD_inj (List.cons.inj h).1, keysD_inj (List.cons.inj h).2]
theorem relT_find {kvs : List (D × D)} {ks : List (List Key × V)} (h : RelT K mu H kvs ks) (k : List Key) : (dfind kvs (.tup (k.map keyD)) = none ∧ valV ks k = none) ∨ ∃ d v, dfind kvs (.tup (k.map keyD)) = some d ∧ valV ks k = some v ∧ RelD K mu H d v := by
  induction h with
  | nil => exact .inl ⟨rfl, rfl⟩
  | @cons i d v ds vs hr ht ih =>
    unfold dfind valV at ih ⊢
    rw [List.find?_cons, List.find?_cons]
    by_cases e : i = k
    · subst e
      exact .inr ⟨d, v, by simp, by simp, hr⟩
    · have e1 : decide ((D.tup (i.map keyD) : D) = .tup (k.map keyD)) = false := decide_eq_false fun q => e (keysD_inj (D.tup.inj q))
      have e2 : decide (i = k) = false := decide_eq_false e
      rw [e1, e2]
      exact ih
/-- keys of the other sort aren't there -/
theorem relK_tup {kvs : List (D × D)} {ks : List (Key × V)} (h : RelK K mu H kvs ks) (k : List D) : dfind kvs (.tup k) = none := by
  induction h with
  | nil => rfl
  | int _ _ ih =>
    unfold dfind at ih ⊢
    rw [List.find?_cons]
    exact ih
  | str _ _ ih =>
    unfold dfind at ih ⊢
    rw [List.find?_cons]
    exact ih
theorem key_of {d : D} {v : V} (k : keyOk1 d = true) (h : RelD K mu H d v) : ∃ k : Key, d = keyD k ∧ v = kV k := by
  cases h with
  | int i => exact ⟨.inl i, rfl, rfl⟩
  | str x => exact ⟨.inr x, rfl, rfl⟩
  | _ => cases k
theorem keys_of : ∀ {ds : List D} {vs : List V}, ds.all keyOk1 = true → RelDs K mu H ds vs → ∃ ks : List Key, ds = ks.map keyD ∧ vs = ks.map kV
  | _, _, _, .nil => ⟨[], rfl, rfl⟩
  | d :: ds, _, k, .cons h t => by
    rw [List.all_cons, Bool.and_eq_true_iff] at k
    obtain ⟨k1, e1, e2⟩ := key_of k.1 h
    obtain ⟨ks, e3, e4⟩ := keys_of k.2 t
    exact ⟨k1 :: ks, by rw [e1, e3]; rfl, by rw [e2, e4]; rfl⟩
end

section
variable {K : PySem.W.Frag} {CA : ClsA} {mu : List Addr} {H : Hp} {st : Sto}
theorem relK_nil {kvs : List (D × D)} (h : RelK K mu H kvs []) : kvs = [] := by
  cases h
  rfl
theorem relT_nil {kvs : List (D × D)} (h : RelT K mu H kvs []) : kvs = [] := by
  cases h
  rfl
/-- a dict is looked at by a key: it is of that key's sort, or empty and turned -/
theorem dct_sort (S : Sim K CA mu st H) {n : Nat} {a : Addr} {kvs : List (D × D)} {k : D} (h : st[n]? = some (.dct kvs)) (ha : mu[n]? = some a) (hk : keyIn kvs k = true) :
    ∃ H', (H' = H ∨ (H a = some (.dK []) ∧ H' = upd H a (.dT [])) ∨ (H a = some (.dT []) ∧ H' = upd H a (.dK []))) ∧ Sim K CA mu st H' ∧ Ext mu H mu H' ∧
      ((isTup k = false ∧ ∃ ks, H' a = some (.dK ks) ∧ RelK K mu H' kvs ks) ∨ (isTup k = true ∧ ∃ ks, H' a = some (.dT ks) ∧ RelT K mu H' kvs ks)) := by
  obtain ⟨_, hs⟩ := Bool.and_eq_true_iff.mp hk
  have hsame : st.set n (.dct kvs) = st := by
    have hl : n < st.length := (List.getElem?_eq_some_iff.mp h).1
    have e : st[n] = .dct kvs := (List.getElem?_eq_some_iff.mp h).2
    rw [← e]
    exact List.set_getElem_self hl
  rcases S.at h ha with ⟨ks, h1, h2⟩ | ⟨ks, h1, h2⟩
  · cases q : isTup k with
    | false => exact ⟨H, .inl rfl, S, Ext.refl mu H, .inl ⟨rfl, ks, h1, h2⟩⟩
    | true =>
      have e : kvs = [] := by
        cases h2 with
        | nil => rfl
        | int _ _ => rw [q] at hs; simp [isTup] at hs
        | str _ _ => rw [q] at hs; simp [isTup] at hs
      subst e
      cases h2
      have e2 : Ext mu H mu (upd H a (.dT [])) := Ext.write S h ha
      refine ⟨upd H a (.dT []), .inr (.inl ⟨h1, rfl⟩), ?_, e2, .inr ⟨rfl, [], upd_same, .nil⟩⟩
      have := S.write (c2 := .dct []) (o := .dT []) h ha (.inr ⟨[], upd_same, .nil⟩)
      rw [hsame] at this
      exact this
  · cases q : isTup k with
    | true => exact ⟨H, .inl rfl, S, Ext.refl mu H, .inr ⟨rfl, ks, h1, h2⟩⟩
    | false =>
      have e : kvs = [] := by
        cases h2 with
        | nil => rfl
        | cons _ _ => rw [q] at hs; simp [isTup] at hs
      subst e
      cases h2
      have e2 : Ext mu H mu (upd H a (.dK [])) := Ext.write S h ha
      refine ⟨upd H a (.dK []), .inr (.inr ⟨h1, rfl⟩), ?_, e2, .inl ⟨rfl, [], upd_same, .nil⟩⟩
      have := S.write (c2 := .dct []) (o := .dK []) h ha (.inl ⟨[], upd_same, .nil⟩)
      rw [hsame] at this
      exact this
theorem dct_get (S : Sim K CA mu st H) {n : Nat} {a : Addr} {kvs : List (D × D)} {k : D} {y : V} (h : st[n]? = some (.dct kvs)) (ha : mu[n]? = some a) (hk : keyIn kvs k = true) (hy : RelD K mu H k y) :
    ∃ H' o, (H' = H ∨ (H a = some (.dK []) ∧ H' = upd H a (.dT [])) ∨ (H a = some (.dT []) ∧ H' = upd H a (.dK []))) ∧ Sim K CA mu st H' ∧ Ext mu H mu H' ∧ DGet H' a y o ∧
      ((dfind kvs k = none ∧ o = none) ∨ ∃ d v, dfind kvs k = some d ∧ o = some v ∧ RelD K mu H' d v) := by
  obtain ⟨H', hc, S', E', q⟩ := dct_sort S h ha hk
  obtain ⟨hko, _⟩ := Bool.and_eq_true_iff.mp hk
  refine ⟨H', ?_⟩
  rcases q with ⟨hn, ks, h1, h2⟩ | ⟨hn, ks, h1, h2⟩
  · have k1 : keyOk1 k = true := by
      cases k with
      | tup _ => cases hn
      | _ => exact hko
    obtain ⟨k', e1, e2⟩ := key_of k1 hy
    subst e1 e2
    refine ⟨valV ks k', hc, S', E', .inl ⟨ks, k', .inl h1, rfl, rfl⟩, ?_⟩
    rcases relK_find h2 k' with ⟨q1, q2⟩ | ⟨d, v, q1, q2, q3⟩
    · exact .inl ⟨q1, q2⟩
    · exact .inr ⟨d, v, q1, q2, q3⟩
  · cases k with
    | tup es =>
      have hy' := hy.mono E'
      cases hy' with
      | tup ht hr =>
        obtain ⟨k', e1, e2⟩ := keys_of hko hr
        subst e1 e2
        refine ⟨valV ks k', hc, S', E', .inr ⟨ks, k', _, .inl h1, rfl, ht, rfl⟩, ?_⟩
        rcases relT_find h2 k' with ⟨q1, q2⟩ | ⟨d, v, q1, q2, q3⟩
        · exact .inl ⟨q1, q2⟩
        · exact .inr ⟨d, v, q1, q2, q3⟩
    | _ => cases hn
end
section
variable {r : Rc}
theorem any_py (x : D) : ∀ ds : List D, ((D.pys ds).any fun z => PyData.eqv z x.py) = ds.any fun z => PyData.eqv z.py x.py
  | [] => rfl
  | d :: ds => by
    simp only [D.pys, List.any_cons]
    rw [any_py x ds]
/-- in, either way -/
theorem os_inG {neg : Bool} {o : CmpO} (ho : ∀ (x c : D) (st : Sto), cmpD o x c st = M.bd (inop x c) (fun q => pure (.bl (if neg then !q else q))) st) : OpS r (cmpD o) (rInY r.K neg) := by
  intro mu st H d e x y Q S hd he P
  rw [ho] at P
  cases e with
  | str z =>
    cases he
    cases d with
    | str w =>
      cases hd
      refine .inl ⟨w, z, rfl, rfl, ?_⟩
      have := ok_val S P (.bl _)
      cases neg <;> exact this
    | _ => exact P.elim
  | tup ds =>
    cases he with
    | tup ht hr =>
      rename_i p xs
      have P' : PostR r (fun mu H d v => RelD r.K mu H d v) mu H (M.bd (need (keyOk1 d && ds.all keyOk1)) (fun _ => M.bd (pure (ds.any fun z => decide (z = d))) fun q => (pure (D.bl (if neg then !q else q)) : M D)) st) Q := by
        rw [← bd_assoc]
        exact P
      obtain ⟨h1, P2⟩ := post_need P'
      rw [Bool.and_eq_true_iff] at h1
      obtain ⟨h3, h4⟩ := inV_key h1.1 hd h1.2 hr
      refine .inr (.inl ⟨p, xs, rfl, .inr (SqT.of ht), keyOk1_flat h1.1 hd, h3, ?_⟩)
      rw [h4]
      exact ok_val S P2 (.bl _)
  | ob n =>
    cases he with
    | ob ha =>
      rename_i p
      obtain ⟨c, v, h1, h2, P2⟩ := post_rd P
      have lst : ∀ ds : List D, st[n]? = some (.lst ds) → (if (d.okEq && (D.tup ds).okEq) = true then some (ds.any fun z => PyData.eqv z.py d.py) else none) = some v → rInY r.K neg x (.ref p) H Q := by
        intro ds hs hv
        by_cases q : (d.okEq && (D.tup ds).okEq) = true
        · rw [if_pos q] at hv
          rw [Bool.and_eq_true_iff] at q
          obtain ⟨xs, q1, q2⟩ := S.seq hs ha
          refine .inr (.inr (.inl ⟨d.py, D.pys ds, hd.dp (D.okEq_flat q.1), .lst q1 (q2.dp (by simpa [D.flat] using D.okEq_flat q.2)), D.okEq_shaped q.1, D.okEq_shapedL q.2, ?_⟩))
          rw [any_py, Option.some.inj hv]
          exact ok_val S P2 (.bl _)
        · rw [if_neg q] at hv
          cases hv
      cases c with
      | lst ds => exact lst ds h1 h2
      | dct kvs =>
        have h2' : (if keyIn kvs d = true then some (dfind kvs d).isSome else none) = some v := h2
        by_cases q : keyIn kvs d = true
        · rw [if_pos q] at h2'
          obtain ⟨H', o', c1, S', E', g, rel⟩ := dct_get S h1 ha q hd
          refine .inr (.inr (.inr ⟨p, o', H', rfl, c1, g, ?_⟩))
          have e : o'.isSome = v := by
            rw [← Option.some.inj h2']
            rcases rel with ⟨r1, r2⟩ | ⟨d', v', r1, r2, _⟩
            · rw [r1, r2]
              rfl
            · rw [r1, r2]
              rfl
          rw [e]
          exact P2 mu H' _ E' S' (.bl _)
        · rw [if_neg q] at h2'
          cases h2'
      | ins C fs => cases h2
  | _ => exact P.elim
theorem os_in : OpS r (cmpD .inn) (rInY r.K false) := os_inG fun x c st => rfl
theorem os_nin : OpS r (cmpD .nin) (rInY r.K true) := os_inG fun x c st => by
  show M.bd (M.bd (inop x c) fun q => pure (!q)) (fun q => (pure (D.bl q) : M D)) st = _
  rw [bd_assoc]
  rfl
end
end Y

namespace Y
open PySem PySem.Spec L2

/-! ### subscripts -/
def rItD : R2 := fun x y H Q => ∃ a v, x = .ref a ∧ DGet H a y (some v) ∧ Q v H
section
variable {X : Cx}
theorem ix_dct (hu : X.A.units + 1 < cLine) : IxR X rItD := by
  intro value slice pins s sg H x y v u Q I rx ry h hs
  obtain ⟨a, z, rfl, g, q⟩ := h
  cases rx
  have hT := dict_typeIs I g
  have run := d_getItem (Q := fun w' s3 => EP X pins sg Q w' s3) (E := X.xe) (A := X.A) hu I g ry fun w' s3 I3 rw' => (⟨z, H, I3, rw', q⟩ : EP X pins sg Q w' s3)
  have fin : wpAny (model X.prog X.w) X.A (subscripted slice false (.ref a) u) (fun w s3 => wpAny (model X.prog X.w) X.A (letTemporaryGo value (.ref a) w >>= fun _ => pure w) (EP X pins sg Q) X.xe s3) X.xe s := by
    rw [hs]; exact wpAny_operating (thn run fun w s3 h3 => wpAny_bind (wpAny_letTemporaryGo (wpAny_pure h3)))
  unfold PyProof.Rows.subscriptTail
  refine wpAny_bind ?_
  rw [show _ = _ from getitemInPython_of_ne hT.not_modules]
  refine wpAny_bind (wpAny_specialOf hT PySem.F.slot_dict_getitem.lookup ?_)
  first
    | (refine wpAny_pure ?_; exact wpAny_bind fin)
    | (refine wpAny_bind (wpAny_pure ?_); exact wpAny_bind fin)
    | (refine wpAny_bind ?_; exact fin)
end
def rSubY (K : PySem.W.Frag) : R2 := fun x y H Q => rIx K x y H Q ∨ rItD x y H Q
theorem ix_all {X : Cx} (hu : X.A.units + 1 < cLine) : IxR X (rSubY X.K) := ix_seq.or (ix_dct hu)
section
variable {r : Rc}
theorem rel_at {K : PySem.W.Frag} {mu : List Addr} {H : Hp} {ds : List D} {xs : List V} {i : Int} {d : D} (h : RelDs K mu H ds xs) (e : atI ds i = some d) : ∃ v, atI xs i = some v ∧ RelD K mu H d v := by
  unfold atI at e ⊢
  rw [← h.length]
  cases q : ixN ds.length i with
  | none => rw [q] at e; cases e
  | some j =>
    rw [q] at e
    exact h.get e
theorem os_item : OpS r subop (rSubY r.K) := by
  intro mu st H d e x y Q S hd he P
  cases d with
  | tup ds =>
    cases e with
    | int i =>
      cases he
      cases hd with
      | tup ht hr =>
        rename_i p xs
        obtain ⟨v, h1, P⟩ := post_ofO1 P
        obtain ⟨w, h2, h3⟩ := rel_at hr h1
        exact .inl (.inr (.inl ⟨p, xs, i, w, rfl, rfl, SqT.of ht, h2, ok_val S P h3⟩))
    | _ => exact P.elim
  | str z =>
    cases e with
    | int i =>
      cases he
      cases hd
      obtain ⟨hl, P⟩ := post_len P
      cases q : atI z.cps.toList i with
      | none =>
        rw [q] at P
        exact P.elim
      | some c =>
        rw [q] at P
        exact .inl (.inr (.inr ⟨z, i, c, rfl, rfl, hl, q, ok_val S P (.str _)⟩))
    | _ => exact P.elim
  | ob n =>
    cases hd with
    | ob ha =>
      rename_i p
      obtain ⟨c, v, h1, h2, P2⟩ := post_rd1 P
      have lst : ∀ ds : List D, st[n]? = some (.lst ds) → Cell.item e (.lst ds) = some v → rSubY r.K (.ref p) y H Q := by
        intro ds hs hv
        cases e with
        | int i =>
          cases he
          obtain ⟨xs, q1, q2⟩ := S.seq hs ha
          obtain ⟨w, h2, h3⟩ := rel_at q2 hv
          exact .inl (.inl ⟨p, xs, i, w, rfl, rfl, q1, h2, ok_val S P2 h3⟩)
        | _ => cases hv
      cases c with
      | lst ds => exact lst ds h1 h2
      | dct kvs =>
        have h2' : (if keyIn kvs e = true then dfind kvs e else none) = some v := h2
        by_cases q : keyIn kvs e = true
        · rw [if_pos q] at h2'
          obtain ⟨H', o', c1, S', E', g, rel⟩ := dct_get S h1 ha q he
          rcases rel with ⟨r1, r2⟩ | ⟨d', v', r1, r2, r3⟩
          · rw [h2'] at r1
            cases r1
          · rw [h2'] at r1
            cases r1
            subst r2
            have eH : H' = H := by
              rcases c1 with c1 | ⟨c1, c2⟩ | ⟨c1, c2⟩
              · exact c1
              · subst c2
                rcases g with ⟨ks, k, q1, _, q3⟩ | ⟨ks, k, b, q1, _, _, q3⟩
                · rcases q1 with q1 | ⟨o, q1⟩ <;> (rw [upd_same] at q1; cases q1)
                · rcases q1 with q1 | ⟨o, q1⟩
                  · rw [upd_same] at q1
                    cases q1
                    cases q3
                  · rw [upd_same] at q1
                    cases q1
              · subst c2
                rcases g with ⟨ks, k, q1, _, q3⟩ | ⟨ks, k, b, q1, _, _, q3⟩
                · rcases q1 with q1 | ⟨o, q1⟩
                  · rw [upd_same] at q1
                    cases q1
                    cases q3
                  · rw [upd_same] at q1
                    cases q1
                · rcases q1 with q1 | ⟨o, q1⟩ <;> (rw [upd_same] at q1; cases q1)
            subst eH
            exact .inr ⟨p, v', rfl, g, ok_val S P2 r3⟩
        · rw [if_neg q] at h2'
          cases h2'
      | ins C fs => cases h2
  | ro ds =>
    cases e with
    | int i =>
      cases he
      cases hd with
      | ro ht hr =>
        obtain ⟨v, h1, P⟩ := post_ofO1 P
        obtain ⟨w, h2, h3⟩ := rel_at hr h1
        exact .inl (.inl ⟨_, _, i, w, rfl, rfl, ro_seq ht, h2, ok_val S P h3⟩)
    | _ => exact P.elim
  | _ => cases e <;> exact P.elim

/-! ### slices -/
def rSliY (K : PySem.W.Frag) : V → Option Int → Option Int → Hp → VK → Prop := fun x lo hi H Q => rSlL K x lo hi H Q ∨ (rSlA K x lo hi H Q ∨ rSlS x lo hi H Q)
theorem sl_all {X : Cx} : SlR X (rSliY X.K) := sl_list.or (sl_tupA.or sl_str)
theorem rel_cut {K : PySem.W.Frag} {mu : List Addr} {H : Hp} {ds : List D} {xs : List V} (h : RelDs K mu H ds xs) (lo hi : Option Int) : RelDs K mu H (cutD ds lo hi) (cutV xs lo hi) := by
  unfold cutD cutV
  rw [h.length]
  exact (h.drop _).take _
theorem cut_all {xs : List V} {lo hi : Option Int} (h1 : HT.sIx xs.length 0 lo = 0) (h2 : HT.sIx xs.length xs.length hi = xs.length) : cutV xs lo hi = xs := by
  unfold cutV
  rw [h1, h2, List.drop_zero, Nat.sub_zero, List.take_length]
theorem os_sli {mu : List Addr} {st : Sto} {H : Hp} {d : D} {x : V} {lo hi : Option Int} {Q : VK} (S : Sim r.K r.CA mu st H) (hd : RelD r.K mu H d x) (P : PostR r (fun mu H d v => RelD r.K mu H d v) mu H (sliop d lo hi st) Q) : rSliY r.K x lo hi H Q := by
  cases d with
  | tup ds =>
    cases hd with
    | tup ht hr =>
      rename_i p xs
      refine .inr (.inl ⟨p, xs, rfl, SqT.of ht, fun e => ?_, fun _ q n => ok_tup S P (rel_cut hr lo hi) q n⟩)
      refine ok_val S P (.tup ht ?_)
      have := rel_cut hr lo hi
      rw [cut_all e.1 e.2] at this
      exact this
  | str z =>
    cases hd
    obtain ⟨hl, P⟩ := post_len P
    exact .inr (.inr ⟨z, rfl, hl, ok_val S P (.str _)⟩)
  | ob n =>
    cases hd with
    | ob ha =>
      rename_i p
      obtain ⟨ds, hs, P⟩ := post_seqO P
      obtain ⟨xs, q1, q2⟩ := S.seq hs ha
      exact .inl ⟨p, xs, rfl, q1, fun q n => ok_new S P (rel_cut q2 lo hi) q n⟩
  | ro ds =>
    cases hd with
    | ro ht hr => exact .inl ⟨_, _, rfl, ro_seq ht, fun q n => ok_new S P (rel_cut hr lo hi) q n⟩
  | _ => exact P.elim
end

/-! ### methods of built-in types -/
def MtS (r : Rc) (f : D → List D → M D) (T : String) (rr : V → List V → Hp → VK → Prop) : Prop := ∀ (mu : List Addr) (st : Sto) (H : Hp) (d : D) (es : List D) (x : V) (xs : List V) (Q : VK),
  Sim r.K r.CA mu st H → RelD r.K mu H d x → RelDs r.K mu H es xs → PostR r (fun mu H d v => RelD r.K mu H d v) mu H (f d es st) Q → rr x xs H Q
section
variable {r : Rc}
theorem post_set {a b : Type} {R : List Addr → Hp → a → b → Prop} {mu : List Addr} {H : Hp} {Q : b → Hp → Prop} {n : Nat} {c : Cell} {k : Unit → M a} {st : Sto} (h : PostR r R mu H (M.bd (setC n c) k st) Q) : PostR r R mu H (k () (st.set n c)) Q := by
  by_cases q : n < st.length
  · rw [bd_ok (show setC n c st = .ok () (st.set n c) by unfold setC; rw [if_pos q])] at h
    exact h
  · rw [bd_err (show setC n c st = .err by unfold setC; rw [if_neg q])] at h
    exact h.elim
theorem ms_append : MtS r (mtop .append) "list" rAppend := by
  intro mu st H d es x xs Q S hd hes P
  cases d with
  | ob n =>
    cases es with
    | nil => exact P.elim
    | cons e es =>
      cases es with
      | cons _ _ => exact P.elim
      | nil =>
        cases hd with
        | ob ha =>
          rename_i p
          cases hes with
          | cons he ht =>
            cases ht
            rename_i y
            obtain ⟨ds, h1, P⟩ := post_lstOf P
            obtain ⟨h2, P⟩ := post_len P
            have P := post_set P
            obtain ⟨zs, q1, q2⟩ := S.at h1 ha
            have hl := q2.length
            obtain ⟨E', S'⟩ := ok_set S h1 ha (q2.append (.cons he .nil))
            exact ⟨p, zs, y, rfl, rfl, q1, by omega, P mu _ _ E' S' .non⟩
  | _ => cases es with
    | nil => exact P.elim
    | cons e es => cases es <;> exact P.elim
theorem ms_extend : MtS r (mtop .extend) "list" rExtend := by
  intro mu st H d es x xs Q S hd hes P
  cases d with
  | ob n =>
    cases es with
    | nil => exact P.elim
    | cons e es =>
      cases es with
      | cons _ _ => cases e <;> exact P.elim
      | nil =>
        cases e with
        | ob m =>
          cases hd with
          | ob ha =>
            rename_i p
            cases hes with
            | cons he ht =>
              cases ht
              cases he with
              | ob hb =>
                rename_i y
                obtain ⟨_, P⟩ := post_need P
                obtain ⟨ds, h1, P⟩ := post_lstOf P
                obtain ⟨es, h3, P⟩ := post_lstOf P
                obtain ⟨h2, P⟩ := post_len P
                have P := post_set P
                obtain ⟨zs, q1, q2⟩ := S.at h1 ha
                obtain ⟨ws, q3, q4⟩ := S.at h3 hb
                have hl := q2.length
                have hl2 := q4.length
                obtain ⟨E', S'⟩ := ok_set S h1 ha (q2.append q4)
                exact ⟨p, y, zs, ws, rfl, rfl, q1, q3, by omega, P mu _ _ E' S' .non⟩
        | _ => exact P.elim
  | _ => cases es with
    | nil => exact P.elim
    | cons e es => cases es <;> cases e <;> exact P.elim
theorem pys_get : ∀ (ds : List D) (i : Nat), (D.pys ds)[i]? = ds[i]?.map D.py
  | [], i => by simp [D.pys]
  | d :: ds, 0 => by simp [D.pys]
  | d :: ds, i + 1 => by
    simp only [D.pys, List.getElem?_cons_succ]
    exact pys_get ds i
theorem ms_index : MtS r (mtop .index) "list" (rIndexD r.K) := by
  intro mu st H d es x xs Q S hd hes P
  cases d with
  | ob n =>
    cases es with
    | nil => exact P.elim
    | cons e es =>
      cases es with
      | cons _ _ => exact P.elim
      | nil =>
        cases hd with
        | ob ha =>
          rename_i p
          cases hes with
          | cons he ht =>
            cases ht
            rename_i y
            obtain ⟨ds, h1, P⟩ := post_seqO P
            obtain ⟨h2, P⟩ := post_need P
            rw [Bool.and_eq_true_iff] at h2
            obtain ⟨zs, q1, q2⟩ := S.seq h1 ha
            cases q : ds.findIdx? fun z => PyData.eqv z.py e.py with
            | none =>
              rw [q] at P
              exact P.elim
            | some j =>
              rw [q] at P
              obtain ⟨hj, hj1, hj2⟩ := List.findIdx?_eq_some_iff_getElem.mp q
              refine ⟨p, y, e.py, D.pys ds, j, ds[j].py, rfl, rfl, .lst q1 (q2.dp (by simpa [D.flat] using D.okEq_flat h2.2)), he.dp (D.okEq_flat h2.1), D.okEq_shapedL h2.2, D.okEq_shaped h2.1, ?_, hj1, fun m z' hm hz => ?_, ok_val S P (.int _)⟩
              · rw [pys_get, List.getElem?_eq_getElem hj]
                rfl
              · rw [pys_get, List.getElem?_eq_getElem (by omega)] at hz
                cases hz
                have := hj2 m hm
                simpa using this
  | _ => cases es with
    | nil => exact P.elim
    | cons e es => cases es <;> exact P.elim
theorem ms_upper : MtS r (mtop .upper) "str" (fun x xs H Q => ∃ a, x = .str a ∧ xs = [] ∧ a.length ≤ 5592405 ∧ Q (.str (Txt.upper a)) H) := by
  intro mu st H d es x xs Q S hd hes P
  cases es with
  | cons _ _ => cases d <;> exact P.elim
  | nil =>
    cases hes
    cases d with
    | str z =>
      cases hd
      obtain ⟨h, P⟩ := post_need P
      have : z.length ≤ 5000000 := of_decide_eq_true h
      exact ⟨z, rfl, rfl, by omega, ok_val S P (.str _)⟩
    | _ => exact P.elim
theorem ms_join : MtS r (mtop .join) "str" (fun x xs H Q => ∃ a p, ∃ ys : List Str, x = .str a ∧ xs = [.ref p] ∧ (SqL r.K H p (ys.map V.str) ∨ SqT r.K H p (ys.map V.str)) ∧
    (ys.map (·.length)).sum + ys.length * a.length ≤ 16777216 ∧ Q (.str (Txt.join a ys)) H) := by
  intro mu st H d es x xs Q S hd hes P
  cases d with
  | str z =>
    cases hd
    cases es with
    | nil => exact P.elim
    | cons e es =>
      cases es with
      | cons _ _ => cases e <;> exact P.elim
      | nil =>
        cases e with
        | ob m =>
          cases hes with
          | cons he ht =>
            cases ht
            cases he with
            | ob hb =>
              rename_i y
              obtain ⟨ds, h1, P⟩ := post_seqO P
              obtain ⟨ss, h2, P⟩ := post_ofO P
              obtain ⟨h3, P⟩ := post_len P
              obtain ⟨zs, q1, q2⟩ := S.seq h1 hb
              have := rel_strs h2 q2
              subst this
              exact ⟨z, y, ss, rfl, rfl, .inl q1, h3, ok_val S P (.str _)⟩
        | _ => exact P.elim
  | _ => cases es with
    | nil => exact P.elim
    | cons e es => cases es <;> cases e <;> exact P.elim
end
end Y

namespace Y
open PySem PySem.Spec L2

/-! ### built-in functions -/
def BiS (r : Rc) (f : List D → M D) (rr : List V → Hp → VK → Prop) : Prop := ∀ (mu : List Addr) (st : Sto) (H : Hp) (es : List D) (xs : List V) (Q : VK),
  Sim r.K r.CA mu st H → RelDs r.K mu H es xs → PostR r (fun mu H d v => RelD r.K mu H d v) mu H (f es st) Q → rr xs H Q
def rLenY (K : PySem.W.Frag) : List V → Hp → VK → Prop := fun xs H Q => (∃ z, xs = [.str z] ∧ z.length ≤ sizeLine ∧ Q (.int z.length) H) ∨
  ((∃ p ys, xs = [.ref p] ∧ (SqL K H p ys ∨ SqT K H p ys) ∧ Q (.int ys.length) H) ∨ ((∃ a kvs, xs = [V.ref a] ∧ H a = some (.dK kvs) ∧ Q (.int kvs.length) H) ∨ rLenT xs H Q))
theorem cr_len {X : Cx} : CallR X (.builtin "len") (rLenY X.K) := call_len_str.or (call_len_seq.or (call_lenD.or call_len_dT))
section
variable {r : Rc} {K : PySem.W.Frag} {mu : List Addr} {H : Hp}
theorem relK_len {kvs : List (D × D)} {ks : List (Key × V)} (h : RelK K mu H kvs ks) : kvs.length = ks.length := by
  induction h with
  | nil => rfl
  | int _ _ ih => rw [List.length_cons, List.length_cons, ih]
  | str _ _ ih => rw [List.length_cons, List.length_cons, ih]
theorem relT_len {kvs : List (D × D)} {ks : List (List Key × V)} (h : RelT K mu H kvs ks) : kvs.length = ks.length := by
  induction h with
  | nil => rfl
  | cons _ _ ih => rw [List.length_cons, List.length_cons, ih]
theorem bs_len : BiS r (biop .len) (rLenY r.K) := by
  intro mu st H es xs Q S hes P
  cases hes with
  | nil => exact P.elim
  | cons h1 ht =>
    cases ht with
    | cons _ _ => rename_i d _ _ _ _ _ _ _; cases d <;> exact P.elim
    | nil =>
      cases h1 with
      | str z =>
        obtain ⟨hl, P⟩ := post_len P
        exact .inl ⟨z, rfl, hl, ok_val S P (.int _)⟩
      | tup ht hr =>
        rename_i p ys ds
        refine .inr (.inl ⟨p, ys, rfl, .inr (SqT.of ht), ?_⟩)
        rw [← hr.length]
        exact ok_val S P (.int _)
      | ob ha =>
        rename_i n p
        obtain ⟨c, v, h1, h2, P⟩ := post_rd P
        cases c with
        | lst ds =>
          cases h2
          obtain ⟨ys, q1, q2⟩ := S.seq h1 ha
          refine .inr (.inl ⟨p, ys, rfl, .inl q1, ?_⟩)
          rw [← q2.length]
          exact ok_val S P (.int _)
        | dct kvs =>
          cases h2
          rcases S.at h1 ha with ⟨ks, q1, q2⟩ | ⟨ks, q1, q2⟩
          · refine .inr (.inr (.inl ⟨p, ks, rfl, q1, ?_⟩))
            rw [← relK_len q2]
            exact ok_val S P (.int _)
          · refine .inr (.inr (.inr ⟨p, ks, rfl, q1, ?_⟩))
            rw [← relT_len q2]
            exact ok_val S P (.int _)
        | ins C fs => cases h2
      | ro ht hr =>
        refine .inr (.inl ⟨_, _, rfl, .inl (ro_seq ht), ?_⟩)
        rw [← hr.length]
        exact ok_val S P (.int _)
      | _ => exact P.elim
/-- a builtin of one list -/
theorem bs_one {f : List D → M D} {rr : List V → Hp → VK → Prop} (h0 : ∀ (es : List D) (st : Sto), (∀ n, es ≠ [.ob n]) → f es st = .err)
    (h : ∀ (mu : List Addr) (st : Sto) (H : Hp) (n : Nat) (p : Addr) (Q : VK), Sim r.K r.CA mu st H → mu[n]? = some p → PostR r (fun mu H d v => RelD r.K mu H d v) mu H (f [.ob n] st) Q → rr [.ref p] H Q) : BiS r f rr := by
  intro mu st H es xs Q S hes P
  by_cases q : ∃ n, es = [.ob n]
  · obtain ⟨n, rfl⟩ := q
    cases hes with
    | cons h1 ht =>
      cases ht
      cases h1 with
      | ob ha => exact h mu st H n _ Q S ha P
  · rw [h0 es st (fun n e => q ⟨n, e⟩)] at P
    exact P.elim
theorem maxL_le : ∀ (l : List Int) (y : Int), y ∈ l → y ≤ maxL l
  | [], _, h => nomatch h
  | [a], y, h => by
    rw [List.mem_singleton.mp h]
    exact Int.le_refl _
  | a :: b :: t, y, h => by
    have ih := maxL_le (b :: t)
    show y ≤ max a (maxL (b :: t))
    rcases List.mem_cons.mp h with rfl | h
    · omega
    · have := ih y h
      omega
theorem maxL_mem : ∀ (l : List Int), l ≠ [] → maxL l ∈ l
  | [], h => absurd rfl h
  | [a], _ => List.mem_singleton.mpr rfl
  | a :: b :: t, _ => by
    have ih := maxL_mem (b :: t) (by simp)
    show max a (maxL (b :: t)) ∈ a :: b :: t
    by_cases q : a ≤ maxL (b :: t)
    · rw [show max a (maxL (b :: t)) = maxL (b :: t) by omega]
      exact List.mem_cons_of_mem _ ih
    · rw [show max a (maxL (b :: t)) = a by omega]
      exact List.mem_cons_self
theorem minL_le : ∀ (l : List Int) (y : Int), y ∈ l → minL l ≤ y
  | [], _, h => nomatch h
  | [a], y, h => by
    rw [List.mem_singleton.mp h]
    exact Int.le_refl _
  | a :: b :: t, y, h => by
    have ih := minL_le (b :: t)
    show min a (minL (b :: t)) ≤ y
    rcases List.mem_cons.mp h with rfl | h
    · omega
    · have := ih y h
      omega
theorem minL_mem : ∀ (l : List Int), l ≠ [] → minL l ∈ l
  | [], h => absurd rfl h
  | [a], _ => List.mem_singleton.mpr rfl
  | a :: b :: t, _ => by
    have ih := minL_mem (b :: t) (by simp)
    show min a (minL (b :: t)) ∈ a :: b :: t
    by_cases q : minL (b :: t) ≤ a
    · rw [show min a (minL (b :: t)) = minL (b :: t) by omega]
      exact List.mem_cons_of_mem _ ih
    · rw [show min a (minL (b :: t)) = a by omega]
      exact List.mem_cons_self
def rMaxY (K : PySem.W.Frag) : List V → Hp → VK → Prop := fun xs H Q => (∃ i j, xs = [.int i, .int j] ∧ Q (.int (if j > i then j else i)) H) ∨ rMax K xs H Q
def rMinY (K : PySem.W.Frag) : List V → Hp → VK → Prop := fun xs H Q => (∃ i j, xs = [.int i, .int j] ∧ Q (.int (if j < i then j else i)) H) ∨ rMin K xs H Q
theorem cr_maxY {X : Cx} (hc : X.calm = true) : CallR X (.builtin "max") (rMaxY X.K) := (call_max2 hc).or (cr_max hc)
theorem cr_minY {X : Cx} (hc : X.calm = true) : CallR X (.builtin "min") (rMinY X.K) := (call_min2 hc).or (cr_min hc)
theorem bs_max : BiS r (biop .max) (rMaxY r.K) := by
  intro mu st H es xs Q S hes P
  cases hes with
  | nil => exact P.elim
  | cons h1 ht =>
    cases ht with
    | nil =>
      cases h1 with
      | ob ha =>
        obtain ⟨ds, c1, P⟩ := post_seqO P
        obtain ⟨is, c2, P⟩ := post_ofO P
        obtain ⟨c3, P⟩ := post_need P
        obtain ⟨ys, q1, q2⟩ := S.seq c1 ha
        rw [rel_ints c2 q2] at q1
        have ne : is ≠ [] := fun e => by
          rw [e] at c3
          cases c3
        refine .inr ⟨_, is, rfl, q1, List.length_pos_iff.mpr ne, fun m hm hle => ?_⟩
        have e : m = maxL is := Int.le_antisymm (maxL_le is m hm) (hle _ (maxL_mem is ne))
        rw [e]
        exact ok_val S P (.int _)
      | _ => exact P.elim
    | cons h2 ht =>
      cases ht with
      | cons _ _ => cases h1 <;> first | exact P.elim | (cases h2 <;> exact P.elim)
      | nil =>
        cases h1 with
        | int i =>
          cases h2 with
          | int j => exact .inl ⟨i, j, rfl, ok_val S P (.int _)⟩
          | _ => exact P.elim
        | _ => cases h2 <;> exact P.elim
theorem bs_min : BiS r (biop .min) (rMinY r.K) := by
  intro mu st H es xs Q S hes P
  cases hes with
  | nil => exact P.elim
  | cons h1 ht =>
    cases ht with
    | nil =>
      cases h1 with
      | ob ha =>
        obtain ⟨ds, c1, P⟩ := post_seqO P
        obtain ⟨is, c2, P⟩ := post_ofO P
        obtain ⟨c3, P⟩ := post_need P
        obtain ⟨ys, q1, q2⟩ := S.seq c1 ha
        rw [rel_ints c2 q2] at q1
        have ne : is ≠ [] := fun e => by
          rw [e] at c3
          cases c3
        refine .inr ⟨_, is, rfl, q1, List.length_pos_iff.mpr ne, fun m hm hle => ?_⟩
        have e : m = minL is := Int.le_antisymm (hle _ (minL_mem is ne)) (minL_le is m hm)
        rw [e]
        exact ok_val S P (.int _)
      | _ => exact P.elim
    | cons h2 ht =>
      cases ht with
      | cons _ _ => cases h1 <;> first | exact P.elim | (cases h2 <;> exact P.elim)
      | nil =>
        cases h1 with
        | int i =>
          cases h2 with
          | int j => exact .inl ⟨i, j, rfl, ok_val S P (.int _)⟩
          | _ => exact P.elim
        | _ => cases h2 <;> exact P.elim
theorem one_err {f : Bi} (hf : f = .sum ∨ f = .all) : ∀ (es : List D) (st : Sto), (∀ n, es ≠ [.ob n]) → biop f es st = .err := by
  intro es st h
  rcases hf with rfl | rfl
  all_goals
    cases es with
    | nil => rfl
    | cons d t =>
      cases t with
      | nil =>
        cases d with
        | ob n => exact absurd rfl (h n)
        | _ => rfl
      | cons e t => cases d <;> rfl
theorem bs_sum : BiS r (biop .sum) (rSum r.K) := bs_one (one_err (.inl rfl)) fun mu st H n p Q S ha P => by
  obtain ⟨ds, c1, P⟩ := post_seqO P
  obtain ⟨is, c2, P⟩ := post_ofO P
  obtain ⟨ys, q1, q2⟩ := S.seq c1 ha
  rw [rel_ints c2 q2] at q1
  exact ⟨p, is, rfl, q1, ok_val S P (.int _)⟩
theorem bs_all : BiS r (biop .all) (rAll r.K) := bs_one (one_err (.inr rfl)) fun mu st H n p Q S ha P => by
  obtain ⟨ds, c1, P⟩ := post_seqO P
  obtain ⟨is, c2, P⟩ := post_ofO P
  obtain ⟨ys, q1, q2⟩ := S.seq c1 ha
  rw [rel_bls c2 q2] at q1
  exact ⟨p, is, rfl, q1, ok_val S P (.bl _)⟩
theorem bs_int : BiS r (biop .int) (fun xs H Q => (∃ i, xs = [.int i] ∧ Q (.int i) H) ∨ ∃ k, xs = [.bl k] ∧ Q (.int (if k then 1 else 0)) H) := by
  intro mu st H es xs Q S hes P
  cases hes with
  | nil => exact P.elim
  | cons h1 ht =>
    cases ht with
    | cons _ _ => cases h1 <;> exact P.elim
    | nil =>
      cases h1 with
      | int i => exact .inl ⟨i, rfl, ok_val S P (.int _)⟩
      | bl b => exact .inr ⟨b, rfl, ok_val S P (.int _)⟩
      | _ => exact P.elim
theorem bs_tuple : BiS r (biop .tuple) (fun xs H Q => ∃ p ys, xs = [.ref p] ∧ ((SqL r.K H p ys ∧ ∀ l, H l = none → Q (.ref l) (upd H l (.tup ys))) ∨ (SqT r.K H p ys ∧ Q (.ref p) H))) := by
  intro mu st H es xs Q S hes P
  cases hes with
  | nil => exact P.elim
  | cons h1 ht =>
    cases ht with
    | cons _ _ => cases h1 <;> exact P.elim
    | nil =>
      cases h1 with
      | tup ht hr => exact ⟨_, _, rfl, .inr ⟨SqT.of ht, ok_val S P (.tup ht hr)⟩⟩
      | ob ha =>
        obtain ⟨ds, c1, P⟩ := post_seqO P
        obtain ⟨ys, q1, q2⟩ := S.seq c1 ha
        exact ⟨_, ys, rfl, .inl ⟨q1, fun l n => ok_tup S P q2 l n⟩⟩
      | _ => exact P.elim
theorem bs_list : BiS r (biop .list) (fun xs H Q => ∃ p ys, xs = [.ref p] ∧ (SqL r.K H p ys ∨ SqT r.K H p ys) ∧ ∀ l, H l = none → Q (.ref l) (upd H l (.lst ys))) := by
  intro mu st H es xs Q S hes P
  cases hes with
  | nil => exact P.elim
  | cons h1 ht =>
    cases ht with
    | cons _ _ => cases h1 <;> exact P.elim
    | nil =>
      cases h1 with
      | tup ht hr => exact ⟨_, _, rfl, .inr (SqT.of ht), fun l n => ok_new S P hr l n⟩
      | ob ha =>
        obtain ⟨ds, c1, P⟩ := post_seqO P
        obtain ⟨ys, q1, q2⟩ := S.seq c1 ha
        exact ⟨_, ys, rfl, .inl q1, fun l n => ok_new S P q2 l n⟩
      | _ => exact P.elim
/-! ### isinstance -/
def tagN : Tag → String
  | .non => "NoneType"
  | .bool => "bool"
  | .int => "int"
  | .str => "str"
  | .tuple => "tuple"
  | .list => "list"
  | .dict => "dict"
def tyN : Ty → String
  | .int => "int"
  | .bool => "bool"
  | .str => "str"
  | .tuple => "tuple"
  | .list => "list"
theorem kit_tag (g : Tag) (t : Ty) : PySem.W.kitOne K (.type (tagN g)) (.type (tyN t)) = some (tyIs t g) := by
  cases g <;> cases t <;> exact kit_ty (by decide +kernel)
theorem post_tag {a b : Type} {R : List Addr → Hp → a → b → Prop} {Q : b → Hp → Prop} {d : D} {v : V} {k : Tag → M a} {st : Sto} (S : Sim r.K r.CA mu st H) (hd : RelD r.K mu H d v) (h : PostR r R mu H (M.bd (tagOf d) k st) Q) :
    ∃ g, TyX r.K H v (.type (tagN g)) ∧ PostR r R mu H (k g st) Q := by
  cases hd with
  | non => exact ⟨.non, .base .non, h⟩
  | bl b => exact ⟨.bool, .base (.bl b), h⟩
  | int b => exact ⟨.int, .base (.int b), h⟩
  | str b => exact ⟨.str, .base (.str b), h⟩
  | tup ht hr => exact ⟨.tuple, .base (.tup ht), h⟩
  | ob ha =>
    obtain ⟨c, g, h1, h2, P⟩ := post_rd h
    cases c with
    | lst ds =>
      cases h2
      obtain ⟨xs, q, _⟩ := S.at h1 ha
      exact ⟨.list, .base (.lst q), P⟩
    | dct kvs =>
      cases h2
      rcases S.at h1 ha with ⟨ks, q1, q2⟩ | ⟨ks, q1, q2⟩
      · exact ⟨.dict, .base (.dK q1), P⟩
      · exact ⟨.dict, .base (.dT q1), P⟩
    | ins _ _ => cases h2
  | ro ht hr =>
    rcases ht with ⟨o, q⟩ | ⟨o, its, n, q1, q2, _⟩
    · exact ⟨.list, .base (.frz q), h⟩
    · exact ⟨.list, .kList q1 q2, h⟩
theorem kit_tags (g : Tag) : ∀ ts : List Ty, PySem.W.kitAny K (.type (tagN g)) (ts.map fun t => Value.type (tyN t)) = some (ts.any fun t => tyIs t g)
  | [] => rfl
  | t :: ts => by
    cases e : tyIs t g with
    | true =>
      rw [List.any_cons, e]
      exact kitAny_cons (kit_tag g t) (fun q => by rw [e] at q; cases q) fun _ => rfl
    | false =>
      rw [List.any_cons, e]
      exact kitAny_cons (kit_tag g t) (fun _ => kit_tags g ts) fun q => by rw [e] at q; cases q
end
end Y

/-! Expressions: from the parts' readings to the whole's, by semantic functions. -/
namespace Y
open PySem PySem.Spec L2

/-- a test by a value -/
def tst (f : Env → M D) (env : Env) : M Bool := do
  let d ← f env
  asB d
section
variable {X : Cx} {r : Rc} {e a b c : Expr} {pos : Pos} {f g h : Env → M D}
theorem post_asB {x y : Type} {R : List Addr → Hp → x → y → Prop} {mu : List Addr} {H : Hp} {Q : y → Hp → Prop} {d : D} {v : V} {k : Bool → M x} {st : Sto} (hd : RelD r.K mu H d v) (P : PostR r R mu H (M.bd (asB d) k st) Q) :
    ∃ q, d = .bl q ∧ v = .bl q ∧ PostR r R mu H (k q st) Q := by
  cases hd with
  | bl q => exact ⟨q, rfl, rfl, P⟩
  | _ => exact P.elim
/-- from a reading of the value to one of the test -/
theorem tst_of {t : TE} (ht : ∀ sg H Q, tE r f sg H Q → t sg H Q) : ∀ sg H (Q : Bool → Hp → Prop), tT r (tst f) sg H Q → t sg H fun x H' => ∃ k, x = .bl k ∧ Q k H' := by
  rintro sg H Q ⟨mu, st, env, S, RE, P⟩
  refine ht sg H _ ⟨mu, st, env, S, RE, PostR.bd P fun d st1 _ mu1 H1 v1 e1 S1 R1 P1 => ?_⟩
  have P2 : PostR r (fun _ _ (d v : Bool) => v = d) mu1 H1 (M.bd (asB d) (fun q => pure q) st1) Q := by
    have e : M.bd (asB d) (fun q => pure q) st1 = asB d st1 := by
      unfold M.bd
      cases asB d st1 <;> rfl
    rw [e]
    exact P1
  obtain ⟨q, e2, e3, P3⟩ := post_asB R1 P2
  exact ⟨q, e3, P3 mu1 H1 q (Ext.refl _ _) S1 rfl⟩
theorem pt_of (h : PE X e (tE r f)) (he : ∀ whole, isTrue e X.env whole = (do let v ← whole; standAt e.pos; holding [v] (truthy v))) : PT X e (tT r (tst f)) :=
  PT.imp (pt_val h he) fun sg H Q q => tst_of (fun _ _ _ z => z) sg H Q q

/-! ### names, constants -/
theorem y_var {i : Nat} {x : Str} (hN : X.N[i]? = some x) (hv : Vis X.env.scope x) (hd : (x == ("__debug__" : Str)) = false) (hcd : (x == ("__classdict__" : Str)) = false) :
    PE X (.Name x pos) (tE r fun env => ofO (env[i]?.bind id)) :=
  PE.imp (pe_var hN hv hd hcd) fun sg H Q ⟨mu, st, env, S, RE, P⟩ => by
    obtain ⟨d, q, P⟩ := post_ofO1 P
    have q' : env[i]? = some (some d) := by
      cases e : env[i]? with
      | none =>
        rw [e] at q
        cases q
      | some o =>
        rw [e] at q
        exact congrArg some q
    obtain ⟨v, h1, h2⟩ := RE.2 i d q'
    exact ⟨v, h1, ok_val S P h2⟩
theorem y_c {v : V} {d : D} (h : PE X e (tC v)) (hr : ∀ mu H, RelD r.K mu H d v) : PE X e (tE r fun _ => pure d) :=
  PE.imp h fun sg H Q ⟨mu, st, env, S, RE, P⟩ => ok_val S P (hr mu H)
theorem y_glb {v : V} {d : D} {o : Option D} (h : PE X e (tC v)) (ho : o = some d) (hr : ∀ mu H, RelD r.K mu H d v) : PE X e (tE r fun _ => ofO o) := by
  subst ho
  exact y_c h hr

/-! ### operators -/
theorem op_imp {op : D → D → M D} {rr : R2} {ta tb : TE} (hs : OpS r op rr) (ka : ∀ sg H Q, tE r f sg H Q → ta sg H Q) (kb : ∀ sg H Q, tE r g sg H Q → tb sg H Q) : ∀ sg H Q, tE r (fun env => do
    let x ← f env
    let y ← g env
    op x y) sg H Q → tOp rr ta tb sg H Q := by
  rintro sg H Q ⟨mu, st, env, S, RE, P⟩
  refine ka sg H _ ⟨mu, st, env, S, RE, PostR.bd P fun d st1 _ mu1 H1 x e1 S1 R1 P1 => ?_⟩
  refine kb sg H1 _ ⟨mu1, st1, env, S1, RE.mono e1, PostR.bd P1 fun d2 st2 _ mu2 H2 y e2 S2 R2 P2 => ?_⟩
  exact hs mu2 st2 H2 d d2 x y Q S2 (R1.mono e2) R2 P2
theorem y_bin {op : D → D → M D} {rr : R2} {o : Operator} (ho : OpR X (binaryOp o) rr) (hs : OpS r op rr) (ha : PE X a (tE r f)) (hb : PE X b (tE r g)) : PE X (.BinOp a o b pos) (tE r fun env => do
    let x ← f env
    let y ← g env
    op x y) := PE.imp (pe_op ho ha hb) (op_imp hs (fun _ _ _ q => q) fun _ _ _ q => q)
theorem y_neg (ha : PE X a (tE r f)) : PE X (.UnaryOp .USub a pos) (tE r fun env => do
    let x ← f env
    negop x) := PE.imp (pe_un un_neg ha) fun sg H Q ⟨mu, st, env, S, RE, P⟩ => ⟨mu, st, env, S, RE, PostR.bd P fun d st1 _ mu1 H1 x e1 S1 R1 P1 => by
      cases R1 with
      | int i => exact ⟨i, rfl, ok_val S1 P1 (.int _)⟩
      | _ => exact P1.elim⟩
theorem cmp_eq {o : CmpO} (f g : Env → M D) (env : Env) : (do
    let x ← f env
    let y ← g env
    let c ← cmpop o x y
    pure (D.bl c) : M D) = (do
    let x ← f env
    let y ← g env
    cmpD o x y) := rfl
theorem y_cmp {o : CmpO} {rr : R2} {op : CmpOp} (ho : OpR X (compareOp op) rr) (hs : OpS r (cmpD o) rr) (hm : behindInMarks op b = false) (ha : PE X a (tE r f)) (hb : PE X b (tE r g)) : PE X (.Compare a [op] [b] pos) (tE r fun env => do
    let x ← f env
    let y ← g env
    cmpD o x y) := PE.imp (pe_cmpR ho ha hb hm) (op_imp hs (fun _ _ _ q => q) fun _ _ _ q => q)
theorem y_cmpT {o : CmpO} {rr : R2} {op : CmpOp} (ho : OpR X (compareOp op) rr) (hs : OpS r (cmpD o) rr) (hm : behindInMarks op b = false) (ha : PE X a (tE r f)) (hb : PE X b (tE r g)) : PT X (.Compare a [op] [b] pos) (tT r (tst fun env => do
    let x ← f env
    let y ← g env
    cmpD o x y)) := PT.imp (pt_cmpR ho ha hb hm) (tst_of (op_imp hs (fun _ _ _ q => q) fun _ _ _ q => q))
/-- a < b < c -/
def chainF (o p : CmpO) (f g h : Env → M D) (env : Env) : M D := do
  let x ← f env
  let y ← g env
  let c ← cmpop o x y
  if c then do
    let z ← h env
    cmpD p y z
  else pure (.bl false)
theorem cmpD_bl {o : CmpO} {d e v : D} {st st' : Sto} (h : cmpD o d e st = .ok v st') : ∃ c, v = .bl c ∧ cmpop o d e st = .ok c st' := by
  have h' : M.bd (cmpop o d e) (fun c => (pure (D.bl c) : M D)) st = .ok v st' := h
  cases q : cmpop o d e st with
  | ok c s =>
    rw [bd_ok q] at h'
    injection h' with e1 e2
    subst e2
    exact ⟨c, e1.symm, rfl⟩
  | exc x s =>
    rw [bd_exc q] at h'
    cases h'
  | err =>
    rw [bd_err q] at h'
    cases h'
theorem chain_imp {o p : CmpO} {rr rr' : R2} (hs : OpS r (cmpD o) rr) (hs' : OpS r (cmpD p) rr') : ∀ sg H Q, tE r (chainF o p f g h) sg H Q → tChain rr rr' (tE r f) (tE r g) (tE r h) sg H Q := by
  rintro sg H Q ⟨mu, st, env, S, RE, P⟩
  refine ⟨mu, st, env, S, RE, PostR.bd P fun d st1 _ mu1 H1 x e1 S1 R1 P1 => ?_⟩
  refine ⟨mu1, st1, env, S1, RE.mono e1, PostR.bd P1 fun d2 st2 _ mu2 H2 y e2 S2 R2 P2 => ?_⟩
  refine hs mu2 st2 H2 d d2 x y _ S2 (R1.mono e2) R2 ?_
  have P3 : PostR r (fun mu H d v => RelD r.K mu H d v) mu2 H2 (M.bd (cmpop o d d2) (fun c => if c = true then (do
      let z ← h env
      cmpD p d2 z) else pure (.bl false)) st2) Q := P2
  show PostR r _ mu2 H2 (M.bd (cmpop o d d2) (fun c => (pure (D.bl c) : M D)) st2) _
  cases q : cmpop o d d2 st2 with
  | err =>
    rw [bd_err q] at P3
    exact P3.elim
  | exc x s =>
    rw [bd_exc q] at P3 ⊢
    exact P3
  | ok c s =>
    rw [bd_ok q] at P3 ⊢
    intro mu3 H3 v e3 S3 R3
    cases R3
    refine ⟨c, rfl, ?_⟩
    cases c with
    | true =>
      refine ⟨mu3, s, env, S3, (RE.mono e1).mono e2 |>.mono e3, PostR.bd (P3.shift e3) fun d4 st4 _ mu4 H4 z e4 S4 R4 P4 => ?_⟩
      exact hs' mu4 st4 H4 d2 d4 y z Q S4 ((R2.mono e3).mono e4) R4 P4
    | false => exact ok_val S3 (P3.shift e3) (.bl _)
theorem y_chain {o p : CmpO} {rr rr' : R2} {op op' : CmpOp} (ho : OpR X (compareOp op) rr) (ho' : OpR X (compareOp op') rr') (hs : OpS r (cmpD o) rr) (hs' : OpS r (cmpD p) rr') (hm : lastMarks [op, op'] [b, c] = false)
    (ha : PE X a (tE r f)) (hb : PE X b (tE r g)) (hc : PE X c (tE r h)) : PE X (.Compare a [op, op'] [b, c] pos) (tE r (chainF o p f g h)) := PE.imp (pe_chain ho ho' ha hb hc hm) (chain_imp hs hs')
theorem y_chainT {o p : CmpO} {rr rr' : R2} {op op' : CmpOp} (ho : OpR X (compareOp op) rr) (ho' : OpR X (compareOp op') rr') (hs : OpS r (cmpD o) rr) (hs' : OpS r (cmpD p) rr') (hm : lastMarks [op, op'] [b, c] = false)
    (ha : PE X a (tE r f)) (hb : PE X b (tE r g)) (hc : PE X c (tE r h)) : PT X (.Compare a [op, op'] [b, c] pos) (tT r (tst (chainF o p f g h))) := PT.imp (pt_chain ho ho' ha hb hc hm) (tst_of (chain_imp hs hs'))

/-! ### and, or, not, if -/
def andF (f g : Env → M D) (env : Env) : M D := do
  let x ← f env
  let c ← asB x
  if c then do
    let y ← g env
    let c' ← asB y
    pure (.bl c')
  else pure (.bl false)
def orF (f g : Env → M D) (env : Env) : M D := do
  let x ← f env
  let c ← asB x
  if c then pure (.bl true)
  else do
    let y ← g env
    let c' ← asB y
    pure (.bl c')
def notF (f : Env → M D) (env : Env) : M D := do
  let x ← f env
  let c ← asB x
  pure (.bl (!c))
def iteF (f g h : Env → M D) (env : Env) : M D := do
  let x ← f env
  let c ← asB x
  if c then g env else h env
variable {rest : List Expr}
theorem y_and (ha : PE X a (tE r f)) (hb : PE X (.BoolOp .And (b :: rest) pos) (tE r g)) : PE X (.BoolOp .And (a :: b :: rest) pos) (tE r (andF f g)) :=
  PE.imp (pe_and ha hb) fun sg H Q ⟨mu, st, env, S, RE, P⟩ => ⟨mu, st, env, S, RE, PostR.bd P fun d st1 _ mu1 H1 x e1 S1 R1 P1 => by
    obtain ⟨c, q1, q2, P2⟩ := post_asB R1 P1
    refine ⟨c, q2, ?_⟩
    cases c with
    | true =>
      refine ⟨mu1, st1, env, S1, RE.mono e1, PostR.bd P2 fun d2 st2 _ mu2 H2 y e2 S2 R2 P3 => ?_⟩
      obtain ⟨c', q3, q4, P4⟩ := post_asB R2 P3
      rw [q4]
      exact ok_val S2 P4 (.bl _)
    | false => exact ok_val S1 P2 (.bl _)⟩
theorem y_or (ha : PE X a (tE r f)) (hb : PE X (.BoolOp .Or (b :: rest) pos) (tE r g)) : PE X (.BoolOp .Or (a :: b :: rest) pos) (tE r (orF f g)) :=
  PE.imp (pe_or ha hb) fun sg H Q ⟨mu, st, env, S, RE, P⟩ => ⟨mu, st, env, S, RE, PostR.bd P fun d st1 _ mu1 H1 x e1 S1 R1 P1 => by
    obtain ⟨c, q1, q2, P2⟩ := post_asB R1 P1
    refine ⟨c, q2, ?_⟩
    cases c with
    | false =>
      refine ⟨mu1, st1, env, S1, RE.mono e1, PostR.bd P2 fun d2 st2 _ mu2 H2 y e2 S2 R2 P3 => ?_⟩
      obtain ⟨c', q3, q4, P4⟩ := post_asB R2 P3
      rw [q4]
      exact ok_val S2 P4 (.bl _)
    | true => exact ok_val S1 P2 (.bl _)⟩
theorem y_not (ha : PE X a (tE r f)) : PE X (.UnaryOp .Not a pos) (tE r (notF f)) :=
  PE.imp (pe_not ha) fun sg H Q ⟨mu, st, env, S, RE, P⟩ => ⟨mu, st, env, S, RE, PostR.bd P fun d st1 _ mu1 H1 x e1 S1 R1 P1 => by
    obtain ⟨c, q1, q2, P2⟩ := post_asB R1 P1
    exact ⟨c, q2, ok_val S1 P2 (.bl _)⟩⟩
theorem y_notT (ha : PT X a (tT r (tst f))) : PT X (.UnaryOp .Not a pos) (tT r (tst (notF f))) :=
  PT.imp (pt_not ha) fun sg H Q ⟨mu, st, env, S, RE, P⟩ => by
    refine ⟨mu, st, env, S, RE, ?_⟩
    have e : tst (notF f) env st = M.bd (tst f env) (fun c => pure (!c)) st := by
      show M.bd (M.bd (f env) fun x => M.bd (asB x) fun c => pure (D.bl (!c))) asB st = M.bd (M.bd (f env) asB) _ st
      rw [bd_assoc, bd_assoc]
      unfold M.bd
      cases f env st with
      | ok v s =>
        dsimp only
        cases asB v s <;> rfl
      | exc _ _ => rfl
      | err => rfl
    rw [e] at P
    exact PostR.bd P fun d st1 _ mu1 H1 v e1 S1 R1 P1 => by
      subst R1
      exact P1 mu1 H1 _ (Ext.refl _ _) S1 rfl
theorem y_andW (ha : PT X a (tT r (tst f))) (hb : PW X (.BoolOp .And (b :: rest) pos) (tT r (tst g))) : PW X (.BoolOp .And (a :: b :: rest) pos) (tT r (tst (andF f g))) :=
  PW.imp (pw_and ha hb) fun sg H Q ⟨mu, st, env, S, RE, P⟩ => by
    refine ⟨mu, st, env, S, RE, ?_⟩
    have e : tst (andF f g) env st = M.bd (tst f env) (fun c => if c = true then tst g env else pure false) st := by
      show M.bd (M.bd (f env) fun x => M.bd (asB x) fun c => if c = true then M.bd (g env) (fun y => M.bd (asB y) fun c' => pure (D.bl c')) else pure (D.bl false)) asB st = M.bd (M.bd (f env) asB) _ st
      rw [bd_assoc, bd_assoc]
      unfold M.bd
      cases f env st with
      | ok v s =>
        dsimp only
        cases asB v s with
        | ok c s2 =>
          cases c with
          | false => rfl
          | true =>
            simp only [if_true]
            show M.bd (M.bd (g env) fun y => M.bd (asB y) fun c' => pure (D.bl c')) asB s2 = M.bd (g env) asB s2
            rw [bd_assoc]
            unfold M.bd
            cases g env s2 with
            | ok v2 s3 =>
              dsimp only
              cases asB v2 s3 <;> rfl
            | exc _ _ => rfl
            | err => rfl
        | exc _ _ => rfl
        | err => rfl
      | exc _ _ => rfl
      | err => rfl
    rw [e] at P
    exact PostR.bd P fun d st1 _ mu1 H1 v e1 S1 R1 P1 => by
      subst R1
      cases v with
      | true => exact ⟨mu1, st1, env, S1, RE.mono e1, P1⟩
      | false => exact P1 mu1 H1 _ (Ext.refl _ _) S1 rfl
theorem y_orW (ha : PT X a (tT r (tst f))) (hb : PW X (.BoolOp .Or (b :: rest) pos) (tT r (tst g))) : PW X (.BoolOp .Or (a :: b :: rest) pos) (tT r (tst (orF f g))) :=
  PW.imp (pw_or ha hb) fun sg H Q ⟨mu, st, env, S, RE, P⟩ => by
    refine ⟨mu, st, env, S, RE, ?_⟩
    have e : tst (orF f g) env st = M.bd (tst f env) (fun c => if c = true then pure true else tst g env) st := by
      show M.bd (M.bd (f env) fun x => M.bd (asB x) fun c => if c = true then pure (D.bl true) else M.bd (g env) (fun y => M.bd (asB y) fun c' => pure (D.bl c'))) asB st = M.bd (M.bd (f env) asB) _ st
      rw [bd_assoc, bd_assoc]
      unfold M.bd
      cases f env st with
      | ok v s =>
        dsimp only
        cases asB v s with
        | ok c s2 =>
          cases c with
          | true => rfl
          | false =>
            simp only [Bool.false_eq_true, if_false]
            show M.bd (M.bd (g env) fun y => M.bd (asB y) fun c' => pure (D.bl c')) asB s2 = M.bd (g env) asB s2
            rw [bd_assoc]
            unfold M.bd
            cases g env s2 with
            | ok v2 s3 =>
              dsimp only
              cases asB v2 s3 <;> rfl
            | exc _ _ => rfl
            | err => rfl
        | exc _ _ => rfl
        | err => rfl
      | exc _ _ => rfl
      | err => rfl
    rw [e] at P
    exact PostR.bd P fun d st1 _ mu1 H1 v e1 S1 R1 P1 => by
      subst R1
      cases v with
      | false => exact ⟨mu1, st1, env, S1, RE.mono e1, P1⟩
      | true => exact P1 mu1 H1 _ (Ext.refl _ _) S1 rfl
theorem y_ite (hc : PT X c (tT r (tst f))) (ha : PE X a (tE r g)) (hb : PE X b (tE r h)) : PE X (.IfExp c a b pos) (tE r (iteF f g h)) :=
  PE.imp (pe_ifExp hc ha hb) fun sg H Q ⟨mu, st, env, S, RE, P⟩ => by
    refine ⟨mu, st, env, S, RE, ?_⟩
    have e : iteF f g h env st = M.bd (tst f env) (fun c => if c = true then g env else h env) st := by
      show M.bd (f env) (fun x => M.bd (asB x) fun c => if c = true then g env else h env) st = M.bd (M.bd (f env) asB) _ st
      rw [bd_assoc]
    rw [e] at P
    exact PostR.bd P fun d st1 _ mu1 H1 v e1 S1 R1 P1 => by
      subst R1
      cases v with
      | true => exact ⟨mu1, st1, env, S1, RE.mono e1, P1⟩
      | false => exact ⟨mu1, st1, env, S1, RE.mono e1, P1⟩
end
end Y

namespace Y
open PySem PySem.Spec L2

/-- no star -/
def noStar : Expr → Bool
  | .Starred _ _ => false
  | _ => true
theorem star_cons {e : Expr} {es : List Expr} {env : PySem.Env} (h : noStar e = true) : starEach (e :: es) env = (false, eval e env) :: starEach es env := by
  cases e <;> first | rfl | cases h
theorem star_plain {env : PySem.Env} {pos : Pos} : ∀ {es : List Expr}, es.all noStar = true → (backTo pos (starEach es env)).any (·.1) = false
  | [], _ => rfl
  | e :: es, h => by
    rw [List.all_cons, Bool.and_eq_true_iff] at h
    rw [star_cons h.1]
    cases es with
    | nil => rfl
    | cons e2 r =>
      have ih := star_plain (env := env) (pos := pos) h.2
      have h2 := h.2
      rw [List.all_cons, Bool.and_eq_true_iff] at h2
      rw [star_cons h2.1] at ih ⊢
      exact ih
section
variable {X : Cx} {r : Rc} {e a b c : Expr} {es : List Expr} {pos : Pos} {f g h : Env → M D} {fs : Env → M (List D)}
theorem y_anil : PA X [] (tEs r fun _ => pure []) := PA.imp pa_nil fun sg H Q ⟨mu, st, env, S, RE, P⟩ => P mu H [] (Ext.refl mu H) S .nil
theorem y_acons (ha : PE X e (tE r f)) (hr : PA X es (tEs r fs)) (hs : noStar e = true) : PA X (e :: es) (tEs r fun env => do
    let x ← f env
    let xs ← fs env
    pure (x :: xs)) := PA.imp (pa_cons ha hr (star_cons hs)) fun sg H Q ⟨mu, st, env, S, RE, P⟩ => ⟨mu, st, env, S, RE, PostR.bd P fun d st1 _ mu1 H1 x e1 S1 R1 P1 =>
      ⟨mu1, st1, env, S1, RE.mono e1, PostR.bd P1 fun ds st2 _ mu2 H2 xs e2 S2 R2 P2 => P2 mu2 H2 (x :: xs) (Ext.refl _ _) S2 (.cons (R1.mono e2) R2)⟩⟩
theorem y_tup {k : Nat} (ha : PA X es (tEs r fs)) (hl : es.length ≤ 1000) (hlen : ∀ env st vs st', fs env st = .ok vs st' → vs.length = es.length) : PE X (.Tuple es k pos) (tE r fun env => do
    let xs ← fs env
    pure (.tup xs)) := PE.imp (pe_tup ha) fun sg H Q ⟨mu, st, env, S, RE, P⟩ => ⟨mu, st, env, S, RE, PostR.bd P fun ds st1 h1 mu1 H1 xs e1 S1 R1 P1 => by
      refine ⟨?_, fun p n => ok_tup S1 P1 R1 p n⟩
      rw [← R1.length, hlen _ _ _ _ h1]
      exact Nat.le_trans hl (by decide)⟩
theorem y_lst (ha : PA X es (tEs r fs)) (hl : es.length ≤ 1000) (hlen : ∀ env st vs st', fs env st = .ok vs st' → vs.length = es.length) : PE X (.List es pos) (tE r fun env => do
    let xs ← fs env
    newC (.lst xs)) := PE.imp (pe_lst ha) fun sg H Q ⟨mu, st, env, S, RE, P⟩ => ⟨mu, st, env, S, RE, PostR.bd P fun ds st1 h1 mu1 H1 xs e1 S1 R1 P1 => by
      refine ⟨?_, fun p n => ok_new S1 P1 R1 p n⟩
      rw [← R1.length, hlen _ _ _ _ h1]
      exact Nat.le_trans hl (by decide)⟩
theorem y_dct0 : PE X (.Dict [] [] pos) (tE r fun _ => newC (.dct [])) := PE.imp pe_dnewK fun sg H Q ⟨mu, st, env, S, RE, P⟩ => fun p n => by
  refine P (mu ++ [p]) _ _ (Ext.newc n) (S.newc n (.inl ⟨[], upd_same, .nil⟩)) (.ob ?_)
  rw [← S.len, List.getElem?_append_right (Nat.le_refl _), Nat.sub_self]
  rfl
/-- an index that is no slice -/
def plainIx : Expr → Bool
  | .Slice _ _ _ _ => false
  | .Tuple _ _ _ => false
  | _ => true
theorem y_sub (hu : X.A.units + 1 < cLine) (hK : r.K = X.K) (hs : PlainIx b) (ha : PE X a (tE r f)) (hb : PE X b (tE r g)) : PE X (.Subscript a b pos) (tE r fun env => do
    let x ← f env
    let y ← g env
    subop x y) := PE.imp (pe_ix (ix_all hu) ha hb hs) (op_imp (hK ▸ os_item) (fun _ _ _ q => q) fun _ _ _ q => q)
def optF (f : Env → M D) (env : Env) : M (Option Int) := do
  let x ← f env
  match x with
  | .int i => pure (some i)
  | _ => fail
abbrev tO (r : Rc) (f : Env → M (Option Int)) : TO := tM r (fun _ _ (d v : Option Int) => v = d) f
theorem PO.imp {o : Option Expr} {t t' : TO} (h : PO X o t) (k : ∀ sg H Q, t' sg H Q → t sg H Q) : PO X o t' := ⟨fun pins s sg H Q I q => h.run pins s sg H Q I (k sg H Q q)⟩
theorem y_onone : PO X none (tO r fun _ => pure none) := PO.imp po_none fun sg H Q ⟨mu, st, env, S, RE, P⟩ => P mu H none (Ext.refl _ _) S rfl
theorem y_osome (ha : PE X e (tE r f)) : PO X (some e) (tO r (optF f)) := PO.imp (po_some ha) fun sg H Q ⟨mu, st, env, S, RE, P⟩ => ⟨mu, st, env, S, RE, PostR.bd P fun d st1 _ mu1 H1 x e1 S1 R1 P1 => by
  cases R1 with
  | int i => exact ⟨i, rfl, P1 mu1 H1 (some i) (Ext.refl _ _) S1 rfl⟩
  | _ => exact P1.elim⟩
theorem y_sli {lo hi : Option Expr} {fl fh : Env → M (Option Int)} {p2 : Pos} (hK : r.K = X.K) (ha : PE X e (tE r f)) (hl : PO X lo (tO r fl)) (hh : PO X hi (tO r fh)) : PE X (.Subscript e (.Slice lo hi none p2) pos) (tE r fun env => do
    let x ← f env
    let l ← fl env
    let u ← fh env
    sliop x l u) := PE.imp (pe_slice (hK ▸ sl_all) ha hl hh) fun sg H Q ⟨mu, st, env, S, RE, P⟩ => ⟨mu, st, env, S, RE, PostR.bd P fun d st1 _ mu1 H1 x e1 S1 R1 P1 =>
      ⟨mu1, st1, env, S1, RE.mono e1, PostR.bd P1 fun l st2 _ mu2 H2 l' e2 S2 R2 P2 =>
        ⟨mu2, st2, env, S2, (RE.mono e1).mono e2, PostR.bd P2 fun u st3 _ mu3 H3 u' e3 S3 R3 P3 => by
          subst R2 R3
          exact os_sli S3 ((R1.mono e2).mono e3) P3⟩⟩⟩
/-! ### methods of built-in types -/
variable {o : Expr} {name : Str} {apos : Pos} {T id : String} {rr : V → List V → Hp → VK → Prop} {m : D → List D → M D}
def mtN : Mt → String
  | .upper | .join => "str"
  | .get | .items => "dict"
  | _ => "list"
theorem post_ty {x y : Type} {R : List Addr → Hp → x → y → Prop} {mu : List Addr} {H : Hp} {Q : y → Hp → Prop} {mm : Mt} {d : D} {v : V} {k : Unit → M x} {st : Sto} (S : Sim r.K r.CA mu st H) (hd : RelD r.K mu H d v) (P : PostR r R mu H (M.bd (mtTy mm d) k st) Q) :
    tyV r.K (mtN mm) v H ∧ PostR r R mu H (k () st) Q := by
  have lst : mtN mm = "list" → (∀ d, mtTy mm d = (match d with
      | .ob n => rd n fun c => c.seq.map fun _ => ()
      | _ => fail)) → tyV r.K (mtN mm) v H ∧ PostR r R mu H (k () st) Q := by
    intro e1 e2
    rw [e2] at P
    rw [e1]
    cases hd with
    | ob ha =>
      obtain ⟨c, u, h1, h2, P⟩ := post_rd P
      cases c with
      | lst ds =>
        obtain ⟨xs, q1, _⟩ := S.at h1 ha
        exact ⟨.inl ⟨rfl, xs, SqL.of q1⟩, P⟩
      | _ => cases h2
    | _ => exact P.elim
  have dct : mtN mm = "dict" → (∀ d, mtTy mm d = (match d with
      | .ob n => rd n fun c => match c with
        | .dct _ => some ()
        | _ => none
      | _ => fail)) → tyV r.K (mtN mm) v H ∧ PostR r R mu H (k () st) Q := by
    intro e1 e2
    rw [e2] at P
    rw [e1]
    cases hd with
    | ob ha =>
      obtain ⟨c, u, h1, h2, P⟩ := post_rd P
      cases c with
      | dct kvs =>
        rcases S.at h1 ha with ⟨ks, q1, _⟩ | ⟨ks, q1, _⟩
        · exact ⟨.inr (.inr (.inl ⟨rfl, .inl ⟨ks, q1⟩⟩)), P⟩
        · exact ⟨.inr (.inr (.inl ⟨rfl, .inr ⟨ks, q1⟩⟩)), P⟩
      | _ => cases h2
    | _ => exact P.elim
  have str : mtN mm = "str" → (∀ d, mtTy mm d = (match d with
      | .str _ => pure ()
      | _ => fail)) → tyV r.K (mtN mm) v H ∧ PostR r R mu H (k () st) Q := by
    intro e1 e2
    rw [e2] at P
    rw [e1]
    cases hd with
    | str z => exact ⟨rfl, P⟩
    | _ => exact P.elim
  cases mm with
  | append => exact lst rfl fun _ => rfl
  | extend => exact lst rfl fun _ => rfl
  | index => exact lst rfl fun _ => rfl
  | pop => exact lst rfl fun _ => rfl
  | get => exact dct rfl fun _ => rfl
  | items => exact dct rfl fun _ => rfl
  | upper => exact str rfl fun _ => rfl
  | join => exact str rfl fun _ => rfl
theorem y_bm0 {mm : Mt} (hK : r.K = X.K) (pa : PlainAttrs (mtN mm)) (slot : Slot (mtN mm) name id) (hty : typeOf (.builtin id) = pure (.type "method_descriptor")) (hm : MtR X id rr) (hs : MtS r (mtop mm) T rr)
    (ho : PE X o (tE r f)) (hbase : attributeBase o name X.env (eval o X.env) = eval o X.env) (hline : (apos.endLine == pos.line) = true) : PE X (.Call (.Attribute o name apos) [] [] pos) (tE r fun env => do
      let x ← f env
      mtTy mm x
      let ys ← (pure [] : M (List D))
      mtop mm x ys) := PE.imp (pe_bm0 pa slot hty hm ho hbase hline) fun sg H Q ⟨mu, st, env, S, RE, P⟩ => ⟨mu, st, env, S, RE, PostR.bd P fun d st1 _ mu1 H1 x e1 S1 R1 P1 => by
        obtain ⟨ty, P2⟩ := post_ty S1 R1 P1
        exact ⟨hK ▸ ty, hs mu1 st1 H1 d [] x [] Q S1 R1 .nil P2⟩⟩
theorem few_ok {env : PySem.Env} : ∀ {es : List Expr}, es.all noStar = true → es ≠ [] → es.length < 20 → ((backTo pos (starEach es env)).all (fun x => !x.1) && (backToKw pos (keywordEach [] env)).all (fun x => x.1.isSome)
      && decide (es.length + ([] : List Keyword).length + (if ([] : List Keyword).isEmpty then 0 else 1) < 30)) = true := by
  intro es h _ hl
  have h1 := star_plain (env := env) (pos := pos) h
  have h2 : (backTo pos (starEach es env)).all (fun x => !x.1) = true := by
    rw [List.all_eq_true]
    intro x hx
    rw [List.any_eq_false] at h1
    have := h1 x hx
    simpa using this
  rw [h2]
  simp only [Bool.true_and, Bool.and_eq_true, decide_eq_true_eq]
  refine ⟨rfl, ?_⟩
  simp
  omega
theorem y_bm {mm : Mt} (hK : r.K = X.K) (pa : PlainAttrs (mtN mm)) (slot : Slot (mtN mm) name id) (hty : typeOf (.builtin id) = pure (.type "method_descriptor")) (hm : MtR X id rr) (hs : MtS r (mtop mm) T rr)
    (ho : PE X o (tE r f)) (ha : PA X (e :: es) (tEs r fs)) (hst : (e :: es).all noStar = true) (hl : (e :: es).length < 20) (hbase : attributeBase o name X.env (eval o X.env) = eval o X.env) (hline : (apos.endLine == pos.line) = true) :
    PE X (.Call (.Attribute o name apos) (e :: es) [] pos) (tE r fun env => do
      let x ← f env
      mtTy mm x
      let ys ← fs env
      mtop mm x ys) := by
  have hst' := hst
  rw [List.all_cons, Bool.and_eq_true_iff] at hst'
  refine PE.imp (pe_bm pa slot hty hm ho ha hbase (few_ok hst (by simp) hl) hline (star_cons hst'.1) (star_plain hst'.2)) fun sg H Q ⟨mu, st, env, S, RE, P⟩ => ⟨mu, st, env, S, RE, PostR.bd P fun d st1 _ mu1 H1 x e1 S1 R1 P1 => ?_⟩
  obtain ⟨ty, P2⟩ := post_ty S1 R1 P1
  exact ⟨hK ▸ ty, mu1, st1, env, S1, RE.mono e1, PostR.bd P2 fun ys st2 h2 mu2 H2 xs e2 S2 R2 P3 => hs mu2 st2 H2 d ys x xs Q S2 (R1.mono e2) R2 P3⟩
/-! ### built-in functions -/
theorem y_bi {F : List D → M D} {rb : List V → Hp → VK → Prop} {x id : Str} {idS : String} {p : Pos} (hc : CallR X (.builtin idS) rb) (hs : BiS r F rb) (hg : Gl X x) (hm : X.mg x = none) (hv : bootBuiltins x = some (.builtin idS)) (hn : x ≠ "__name__") (hdb : (x == ("__debug__" : Str)) = false)
    (ha : PA X (e :: es) (tEs r fs)) (hst : (e :: es).all noStar = true) : PE X (.Call (.Name x p) (e :: es) [] pos) (tE r fun env => do
      let ys ← fs env
      F ys) := by
  have hst' := hst
  rw [List.all_cons, Bool.and_eq_true_iff] at hst'
  exact PE.imp (pe_callB hc hg hm hv ha hn hdb (star_cons hst'.1) (star_plain hst'.2)) fun sg H Q ⟨mu, st, env, S, RE, P⟩ => ⟨mu, st, env, S, RE, PostR.bd P fun ys st1 _ mu1 H1 xs e1 S1 R1 P1 => hs mu1 st1 H1 ys xs Q S1 R1 P1⟩
theorem y_biT {F : List D → M D} {rb : List V → Hp → VK → Prop} {x : Str} {idS : String} {p : Pos} (hc : CallR X (.type idS) rb) (hs : BiS r F rb) (hg : Gl X x) (hm : X.mg x = none) (hv : bootBuiltins x = some (.type idS)) (hn : x ≠ "__name__") (hdb : (x == ("__debug__" : Str)) = false)
    (ha : PA X (e :: es) (tEs r fs)) (hst : (e :: es).all noStar = true) : PE X (.Call (.Name x p) (e :: es) [] pos) (tE r fun env => do
      let ys ← fs env
      F ys) := by
  have hst' := hst
  rw [List.all_cons, Bool.and_eq_true_iff] at hst'
  exact PE.imp (pe_callTy hc hg hm hv ha hn hdb (star_cons hst'.1) (star_plain hst'.2)) fun sg H Q ⟨mu, st, env, S, RE, P⟩ => ⟨mu, st, env, S, RE, PostR.bd P fun ys st1 _ mu1 H1 xs e1 S1 R1 P1 => hs mu1 st1 H1 ys xs Q S1 R1 P1⟩
/-! ### isinstance -/
theorem y_isi1 {t : Ty} {p p2 : Pos} {xT : Str} (hK : r.K = X.K) (hg : Gl X "isinstance") (hm : X.mg "isinstance" = none) (he : PE X e (tE r f)) (hT : PE X (.Name xT p2) (tC (.ty (tyN t)))) (hst : noStar e = true) :
    PE X (.Call (.Name "isinstance" p) [e, .Name xT p2] [] pos) (tE r fun env => do
      let x ← f env
      let c ← isiop [t] x
      pure (.bl c)) := by
  refine PE.imp (pe_callB call_isi hg hm (by decide +kernel) (pa_cons he (pa_cons hT pa_nil (star_cons rfl)) (star_cons hst)) (by decide) (by decide) (star_cons hst) (star_plain rfl)) fun sg H Q ⟨mu, st, env, S, RE, P⟩ => ⟨mu, st, env, S, RE, PostR.bd P fun d st1 _ mu1 H1 x e1 S1 R1 P1 => ?_⟩
  have P2 : PostR r (fun mu H d v => RelD r.K mu H d v) mu1 H1 (M.bd (tagOf d) (fun g => (pure (D.bl (([t] : List Ty).any fun t => tyIs t g)) : M D)) st1) Q := by
    have e : M.bd (isiop [t] d) (fun c => (pure (D.bl c) : M D)) st1 = M.bd (tagOf d) (fun g => (pure (D.bl (([t] : List Ty).any fun t => tyIs t g)) : M D)) st1 := by
      show M.bd (M.bd (tagOf d) fun g => pure (([t] : List Ty).any fun t => tyIs t g)) (fun c => (pure (D.bl c) : M D)) st1 = _
      rw [bd_assoc]
      rfl
    rw [← e]
    exact P1
  obtain ⟨g, ty, P3⟩ := post_tag S1 R1 P2
  refine ⟨x, .ty (tyN t), .type (tagN g), .type (tyN t), tyIs t g, rfl, .ty _, hK ▸ ty, kit_tag g t, ?_⟩
  have := ok_val S1 P3 (.bl _)
  simpa using this
theorem pair_ty : ∀ ts : List Ty, Paired ClsV (ts.map fun t => V.ty (tyN t)) (ts.map fun t => Value.type (tyN t))
  | [] => .nil
  | t :: ts => .cons (.ty _) (pair_ty ts)
theorem y_isiN {ts : List Ty} {p p2 : Pos} {k2 : Nat} {es2 : List Expr} (hK : r.K = X.K) (hg : Gl X "isinstance") (hm : X.mg "isinstance" = none) (he : PE X e (tE r f)) (hT : PA X es2 (fun _ H Q => Q (ts.map fun t => V.ty (tyN t)) H)) (hst : noStar e = true) (hl : ts.length ≤ 1000) :
    PE X (.Call (.Name "isinstance" p) [e, .Tuple es2 k2 p2] [] pos) (tE r fun env => do
      let x ← f env
      let c ← isiop ts x
      pure (.bl c)) := by
  refine PE.imp (pe_callB call_isiT hg hm (by decide +kernel) (pa_cons he (pa_cons (pe_tup hT) pa_nil (star_cons rfl)) (star_cons hst)) (by decide) (by decide) (star_cons hst) (star_plain rfl)) fun sg H Q ⟨mu, st, env, S, RE, P⟩ => ⟨mu, st, env, S, RE, PostR.bd P fun d st1 _ mu1 H1 x e1 S1 R1 P1 => ?_⟩
  have P2 : PostR r (fun mu H d v => RelD r.K mu H d v) mu1 H1 (M.bd (tagOf d) (fun g => (pure (D.bl (ts.any fun t => tyIs t g)) : M D)) st1) Q := by
    have e : M.bd (isiop ts d) (fun c => (pure (D.bl c) : M D)) st1 = M.bd (tagOf d) (fun g => (pure (D.bl (ts.any fun t => tyIs t g)) : M D)) st1 := by
      show M.bd (M.bd (tagOf d) fun g => pure (ts.any fun t => tyIs t g)) (fun c => (pure (D.bl c) : M D)) st1 = _
      rw [bd_assoc]
      rfl
    rw [← e]
    exact P1
  refine ⟨by rw [List.length_map]; exact Nat.le_trans hl (by decide), fun p n => ?_⟩
  have E1 : Ext mu1 H1 mu1 (upd H1 p (.tup (ts.map fun t => V.ty (tyN t)))) := Ext.fresh n
  obtain ⟨g, ty, P3⟩ := post_tag (S1.fresh n) (R1.mono E1) (P2.shift E1)
  refine ⟨x, p, ts.map fun t => V.ty (tyN t), .type (tagN g), ts.map fun t => Value.type (tyN t), ts.any fun t => tyIs t g, rfl, upd_same, ?_, hK ▸ ty, kit_tags g ts, ok_val (S1.fresh n) P3 (.bl _)⟩
  exact pair_ty ts
end
end Y

/-! Defs: their promises where nothing guards, their bodies, their calls. -/
namespace Y
open PySem PySem.Spec PyProof.Rows L2

/-- a def's promise, where no guard runs around -/
structure FnY (P : Program) (w : World) (K : PySem.W.Frag) (mg : Str → Option Value) (base : Heap) (CX : CXT) (k : Nat) (f : Addr) (fd : FuncData) (ps : List Str) (sp : Sp) : Prop where
  len : ∀ vs H Q E, sp vs H Q E → vs.length = ps.length
  run : ∀ (A : Around) (outer : List PySem.Env) (s : Shared) (H : Hp) (args : Args) (us : List Value) (vs : List V) (Q : VK) (E : XK), Room k A → A.guards = some [] → Env0 P w K mg base A outer s H → BindsTo s fd args (ps.zip us) →
    Vals vs us → sp vs H Q E → codeAny (model P w) A (.call (.ref f) args) (CR CX outer P w H s Q E) s
section
variable {P : Program} {w : World} {K : PySem.W.Frag} {mg : Str → Option Value} {base : Heap} {CX : CXT} {k : Nat} {f : Addr} {fd : FuncData} {N ps : List Str} {sp : Sp}
theorem FnY.mono {j : Nat} (F : FnY P w K mg base CX j f fd ps sp) (h : j ≤ k) : FnY P w K mg base CX k f fd ps sp :=
  ⟨F.len, fun A outer s H args us vs Q E hr hg => F.run A outer s H args us vs Q E (hr.mono h) hg⟩
theorem FnY.void (f : Addr) (fd : FuncData) (ps : List Str) : FnY P w K mg base CX k f fd ps fun _ _ _ _ => False := ⟨fun _ _ _ _ h => h.elim, fun _ _ _ _ _ _ _ _ _ _ _ _ _ _ h => h.elim⟩
theorem fnY_of {name qual : Str} {params : Arguments} {body : List Stmt} {scope : Scope} {dV kV doc pm cdv ct oc : Value} {an od : Option Addr} {osl : Array (Option Value)}
    (lk : K.lookup f = some ⟨oc, od, .func (PySem.W.fnOf name qual params body scope dV kV doc pm an cdv ct), osl⟩) (hcd : PySem.W.codeIn K cdv qual = true) (S : FnScope N ps scope) (len : ∀ vs H Q E, sp vs H Q E → vs.length = ps.length)
    (hbody : ∀ (A : Around) (outer : List PySem.Env) (s : Shared) (H : Hp) (vs : List V) (Q : VK) (E : XK), Room k (A.deeper (envOfC qual scope s.heap.objs.size f cdv)) → A.guards = some [] → sp vs H Q E →
      ∃ t, PSs (cxOf CX P w K mg base N qual scope f cdv A outer s H E) body t ∧ t { nx := fun _ H' => Q .non H', rt := Q } (start N vs) H) :
    FnY P w K mg base CX (k + 1) f (PySem.W.fnOf name qual params body scope dV kV doc pm an cdv ct) ps sp := by
  constructor
  · exact len
  · intro A outer s H args us vs Q E hr hgd e0 hb rv hsp
    have kin := e0.mod.kin.keeps fun b o q => (e0.bs b o q).1
    have nol := e0.mod.nolimit.keeps fun b o q => (e0.bs b o q).1
    have bound : ∀ y ∈ ps.zip us, scope.names.lookup y.1 = some .local ∨ (scope.names.lookup y.1 = some .cell ∧ ((cellsFrom (s.heap.objs.size + 1) scope.names []).lookup y.1).isSome = true) := by
      intro y hy
      have hm : y.1 ∈ ps := (List.of_mem_zip (show (y.1, y.2) ∈ ps.zip us from hy)).1
      exact (S.par y.1 hm).imp id fun q => ⟨q, PySem.W.cellsFrom_some _ _ _ (Or.inl q)⟩
    refine codeAny_call_function hr.depth (kin _ _ lk) rfl S.co S.gen rfl (PySem.W.codeRec_of kin hcd) (hb _ _ _ _ (wpAny_newFunctionEnv_cells S.kind bound fun env he s1 x => ?_))
    cases he
    obtain ⟨t, ht, hq⟩ := hbody A outer s H vs Q E (hr.deeper _) hgd hsp
    have I0 := inv_start (CX := CX) (E := E) (f := f) (cd := cdv) (qual := qual) S hr.hd e0 (len vs H Q E hsp) rv x
    refine ⟨nol.keeps x.toInCall.keep, codeAny_func (wpAny_mono (ht.run [] s1 (start N vs) H _ I0 hq) (fun fl s' hs => ?_) fun _ _ z => z)⟩
    match fl, hs with
    | .ret u, ⟨v, sg', H', J, r', q⟩ => exact ⟨v, H', J.os, J.bare, J.base, J.hok, r', q⟩
    | .next, ⟨sg', H', J, q⟩ => exact ⟨.non, H', J.os, J.bare, J.base, J.hok, (rfl : RelV V.non Value.none), q⟩
    | .brk, ⟨_, _, _, q⟩ => exact q.elim
    | .cont, ⟨_, _, _, q⟩ => exact q.elim
end

/-- what a def of the evaluator promises -/
def spY (K : PySem.W.Frag) (CA : ClsA) (np : Nat) (F : List D → M D) : Sp := fun vs H Q E => ∃ mu st ds, Sim K CA mu st H ∧ RelDs K mu H ds vs ∧ ds.length = np ∧ PostR ⟨K, CA, E⟩ (fun mu H d v => RelD K mu H d v) mu H (F ds st) Q
section
variable {X : Cx} {r : Rc} {CX : CXT} {k : Nat} {fa : Addr} {fd : FuncData} {ps : List Str} {x : Str} {p pos : Pos} {e : Expr} {es : List Expr} {fs : Env → M (List D)} {F : List D → M D}
theorem y_call (FK : FnY X.prog X.w X.K X.mg X.base CX k fa fd ps (spY X.K r.CA ps.length F)) (hK : r.K = X.K) (hr : Room k X.A) (hgd : X.A.guards = some []) (hg : Gl X x) (hm : X.mg x = some (.ref fa)) (hk : PySem.W.keepIn X.K (.ref fa) = true)
    (hb : Binds X.K fd ps []) (hx : Passes CX X r.EX) (hF : ∀ ds st, ds.length ≠ ps.length → F ds st = .err) (ha : PA X (e :: es) (tEs r fs)) (hst : (e :: es).all noStar = true) (hdb : (x == ("__debug__" : Str)) = false) :
    PE X (.Call (.Name x p) (e :: es) [] pos) (tE r fun env => do
      let ys ← fs env
      F ys) := by
  have hst' := hst
  rw [List.all_cons, Bool.and_eq_true_iff] at hst'
  refine ⟨fun pins s sg H Q I ⟨mu, st, env, S, RE, P⟩ => wpAny_Call_Name_kw (ld_glob I hg hm ?_ hdb)⟩
  have run := ha.run pos pins s sg H (fun vs H1 => spY X.K r.CA ps.length F vs H1 Q r.EX) I ⟨mu, st, env, S, RE, PostR.bd P fun ys st1 _ mu1 H1 xs e1 S1 R1 P1 => by
    obtain ⟨K, CA, EX⟩ := r
    dsimp only at hK
    subst hK
    refine ⟨mu1, st1, ys, S1, R1, Classical.byContradiction fun q => ?_, P1⟩
    have P1' : PostR _ _ mu1 H1 (F ys st1) Q := P1
    rw [hF ys st1 q] at P1'
    exact P1'⟩
  refine PySem.W.callWith_K (h₀ := X.base) I.ok.mod.kin hk (thn run fun us s1 ⟨vs, H1, I1, r1, q1⟩ => ⟨I1.kIn, ?_⟩) (star_cons hst'.1) (star_plain hst'.2)
  have hl : (us ++ ([] : List Value)).length = ps.length := by
    rw [List.append_nil, ← r1.length]
    exact FK.len _ _ _ _ q1
  have hbd := hb s1 us I1.kIn hl
  rw [List.append_nil] at hbd
  show wpAny _ _ (PySem.call (.ref fa) ([] ++ us)) _ _ _
  rw [List.nil_append]
  refine wpAny_call (codeAny_mono (FK.run X.A X.stack s1 H1 ⟨us, []⟩ us vs Q r.EX hr hgd I1.env0 hbd r1 q1) fun res s' hq => ?_)
  match res, hq with
  | .error ex, hq => exact hx pins sg H1 s1 ex s' I1 hq
  | .ok (.ret u), hq => exact I1.after hq
  | .ok .next, hq => exact hq.elim
  | .ok .brk, hq => exact hq.elim
  | .ok .cont, hq => exact hq.elim
end
end Y

/-! Targets, walks, comprehensions. -/
namespace Y
open PySem PySem.Spec L2

/-! ### targets -/
section
variable {K : PySem.W.Frag} {mu : List Addr} {H : Hp}
theorem wipeE_len (env : Env) : ∀ vs : List Nat, (wipeE env vs).length = env.length
  | [] => rfl
  | v :: vs => by
    unfold wipeE
    rw [List.length_set, wipeE_len env vs]
theorem RelE.wipe {env : Env} {sg : L2.St} (h : RelE K mu H env sg) : ∀ vs : List Nat, RelE K mu H (wipeE env vs) (L2.wipe sg vs)
  | [] => h
  | v :: vs => by
    have ih := h.wipe vs
    unfold wipeE L2.wipe
    refine ⟨by rw [List.length_set, List.length_set]; exact ih.1, fun i d hi => ?_⟩
    by_cases e : v = i
    · subst e
      have hl : v < (wipeE env vs).length := by
        have := (List.getElem?_eq_some_iff.mp hi).1
        rw [List.length_set] at this
        exact this
      rw [List.getElem?_set_self hl] at hi
      cases hi
    · rw [List.getElem?_set_ne e] at hi ⊢
      exact ih.2 i d hi
theorem wipe_set {sg : L2.St} {i : Nat} {x : Option V} : ∀ {vs : List Nat}, i ∈ vs → L2.wipe (sg.set i x) vs = L2.wipe sg vs
  | v :: vs, h => by
    unfold L2.wipe
    by_cases e : i ∈ vs
    · rw [wipe_set e]
    · have ev : i = v := by
        rcases List.mem_cons.mp h with h | h
        · exact h
        · exact absurd h e
      subst ev
      have : ∀ (us : List Nat), i ∉ us → L2.wipe (sg.set i x) us = (L2.wipe sg us).set i x := by
        intro us
        induction us with
        | nil => intro _; rfl
        | cons u us ih =>
          intro hu
          unfold L2.wipe
          rw [ih (fun q => hu (List.mem_cons_of_mem _ q))]
          exact List.set_comm _ _ (fun q => hu (by rw [q]; exact List.mem_cons_self))
      rw [this vs e, List.set_set]
end
/-- storing d at a target -/
def tG (r : Rc) (tg : Tg) : TG := fun v sg H Q => ∃ mu st env d env', Sim r.K r.CA mu st H ∧ RelE r.K mu H env sg ∧ RelD r.K mu H d v ∧ asgT tg d env = some env' ∧
  ∀ sg', RelE r.K mu H env' sg' → (∀ vs, (∀ i ∈ tg.vars, i ∈ vs) → L2.wipe sg' vs = L2.wipe sg vs) → Q sg' H
def tGs (r : Rc) (tgs : List Tg) : TGs := fun v sg H Q => ∃ mu st env d env', Sim r.K r.CA mu st H ∧ RelE r.K mu H env sg ∧ RelDs r.K mu H d v ∧ asgTs tgs d env = some env' ∧
  ∀ sg', RelE r.K mu H env' sg' → (∀ vs, (∀ i ∈ Tg.varsL tgs, i ∈ vs) → L2.wipe sg' vs = L2.wipe sg vs) → Q sg' H
theorem PG.imp {X : Cx} {e : Expr} {t t' : TG} (h : PG X e t) (k : ∀ v sg H Q, t' v sg H Q → t v sg H Q) : PG X e t' := ⟨fun pins s sg H v u Q I rv q => h.run pins s sg H v u Q I rv (k v sg H Q q)⟩
theorem PGs.imp {X : Cx} {e : List Expr} {t t' : TGs} (h : PGs X e t) (k : ∀ v sg H Q, t' v sg H Q → t v sg H Q) : PGs X e t' := ⟨fun pins s sg H v u Q I rv q => h.run pins s sg H v u Q I rv (k v sg H Q q)⟩
section
variable {X : Cx} {r : Rc} {pos : Pos}
theorem y_gname {i : Nat} {x : Str} (hN : X.N.Nodup) (hi : X.N[i]? = some x) (hx : Loc X.env.scope x) (hf : X.fn x = true ∨ X.env.scope.names.lookup x = some .local) : PG X (.Name x pos) (tG r (.nm i)) :=
  PG.imp (pg_name hN hi hx hf) fun v sg H Q ⟨mu, st, env, d, env', S, RE, R, h, k⟩ => by
    have h' : (if i < env.length then some (env.set i (some d)) else none) = some env' := h
    by_cases q : i < env.length
    · rw [if_pos q] at h'
      cases h'
      exact k _ (RE.set i R) fun vs hv => wipe_set (hv i (List.mem_singleton.mpr rfl))
    · rw [if_neg q] at h'
      cases h'
theorem y_gnil : PGs X [] (tGs r []) := PGs.imp pgs_nil fun v sg H Q ⟨mu, st, env, d, env', S, RE, R, h, k⟩ => by
  cases d with
  | nil =>
    cases R
    cases h
    exact ⟨rfl, k sg RE fun _ _ => rfl⟩
  | cons _ _ => cases h
/-- a target that is a name or a tuple -/
def isTgt : Expr → Bool
  | .Name _ _ => true
  | .Tuple _ _ _ => true
  | _ => false
theorem each_cons {e : Expr} {es : List Expr} {env : PySem.Env} (h : isTgt e = true) : assignEach (e :: es) env = (false, assign e env) :: assignEach es env := by
  cases e <;> first | rfl | cases h
theorem y_gcons {e : Expr} {es : List Expr} {t : Tg} {ts : List Tg} (h1 : PG X e (tG r t)) (h2 : PGs X es (tGs r ts)) (he : isTgt e = true) : PGs X (e :: es) (tGs r (t :: ts)) :=
  PGs.imp (pgs_cons h1 h2 (by rw [each_cons he]; rfl)) fun v sg H Q ⟨mu, st, env, d, env', S, RE, R, h, k⟩ => by
    cases d with
    | nil => cases h
    | cons d ds =>
      cases R with
      | cons R1 R2 =>
        have h' : (match asgT t d env with
          | some env1 => asgTs ts ds env1
          | none => none) = some env' := h
        cases q : asgT t d env with
        | none =>
          rw [q] at h'
          cases h'
        | some env1 =>
          rw [q] at h'
          refine ⟨_, _, rfl, mu, st, env, d, env1, S, RE, R1, q, fun sg1 RE1 hw1 => ⟨mu, st, env1, ds, env', S, RE1, R2, h', fun sg2 RE2 hw2 => k sg2 RE2 fun vs hv => ?_⟩⟩
          rw [hw2 vs fun i hi => hv i (List.mem_append_right _ hi)]
          exact hw1 vs fun i hi => hv i (List.mem_append_left _ hi)
theorem each_len {env : PySem.Env} : ∀ {es : List Expr}, es.all isTgt = true → (assignEach es env).length = es.length ∧ (assignEach es env).findIdx? (·.1) = none
  | [], _ => ⟨rfl, rfl⟩
  | e :: es, h => by
    rw [List.all_cons, Bool.and_eq_true_iff] at h
    obtain ⟨h1, h2⟩ := each_len (env := env) h.2
    rw [each_cons h.1]
    refine ⟨by rw [List.length_cons, List.length_cons, h1], ?_⟩
    rw [List.findIdx?_cons]
    simp [h2]
theorem asgTs_len : ∀ {ts : List Tg} {ds : List D} {env env' : Env}, asgTs ts ds env = some env' → ds.length = ts.length
  | [], [], _, _, _ => rfl
  | [], _ :: _, _, _, h => by cases h
  | _ :: _, [], _, _, h => by cases h
  | t :: ts, d :: ds, env, env', h => by
    have h' : (match asgT t d env with
      | some env1 => asgTs ts ds env1
      | none => none) = some env' := h
    cases q : asgT t d env with
    | none =>
      rw [q] at h'
      cases h'
    | some env1 =>
      rw [q] at h'
      rw [List.length_cons, List.length_cons, asgTs_len h']
theorem y_gtup {es : List Expr} {kk : Nat} {ts : List Tg} (hc : X.calm = true) (hK : r.K = X.K) (h : PGs X es (tGs r ts)) (hl : es.length = ts.length) (he : es.all isTgt = true) : PG X (.Tuple es kk pos) (tG r (.tp ts)) :=
  PG.imp (pg_tup (n := ts.length) hc h (by rw [(each_len he).1]; exact hl) (each_len he).2) fun v sg H Q ⟨mu, st, env, d, env', S, RE, R, h, k⟩ => by
    cases R with
    | tup ht hr => exact ⟨_, _, rfl, SqT.of ht, by rw [← hr.length]; exact asgTs_len h, mu, st, env, _, env', S, RE, hr, h, k⟩
    | _ => cases h
end

/-! ### walks -/
/-- a walk of the model that gives these items while what must stand stands -/
structure ItOk (r : Rc) (mu : List Addr) (H : Hp) (w : List D × Gd) (J : It) : Prop where
  go : ∀ mu' st' H' i, Ext mu H mu' H' → Sim r.K r.CA mu' st' H' → w.2 st' = true → i < w.1.length → J.go i H'
  stop : ∀ mu' st' H', Ext mu H mu' H' → Sim r.K r.CA mu' st' H' → w.2 st' = true → J.stop w.1.length H'
  yld : ∀ i mu1 st1 H1 x H2, i < w.1.length → Ext mu H mu1 H1 → Sim r.K r.CA mu1 st1 H1 → w.2 st1 = true → J.yld i H1 x H2 → Ext mu1 H1 mu1 H2 ∧ Sim r.K r.CA mu1 st1 H2 ∧ ∃ d, w.1[i]? = some d ∧ RelD r.K mu1 H2 d x
abbrev tI (r : Rc) (f : Env → M (List D × Gd)) : TI := tM r (fun mu H w J => ItOk r mu H w J) f
section
variable {K : PySem.W.Frag} {CA : ClsA} {EX : XK} {mu : List Addr} {st : Sto} {H : Hp}
theorem gd_seq {n : Nat} {ds : List D} {a : Addr} (ha : mu[n]? = some a) {mu' : List Addr} {st' : Sto} {H' : Hp} (E : Ext mu H mu' H') (S : Sim K CA mu' st' H')
    (hg : gdOf (.ob n) ds st' = true) : ∃ ys, SqL K H' a ys ∧ RelDs K mu' H' ds ys := by
  have h1 : st'[n]?.bind Cell.seq = some ds := of_decide_eq_true hg
  cases q : st'[n]? with
  | none =>
    rw [q] at h1
    cases h1
  | some c =>
    rw [q] at h1
    have h2 := seq_lst (show c.seq = some ds from h1)
    subst h2
    obtain ⟨ys, q1, q2⟩ := S.at q (E.mu ha)
    exact ⟨ys, SqL.of q1, q2⟩
theorem gd_now {d : D} {ds : List D} (h : seqOf d st = .ok ds st) : gdOf d ds st = true := by
  cases d with
  | ob n =>
    have h' : rd n Cell.seq st = .ok ds st := h
    unfold rd at h'
    cases q : st[n]?.bind Cell.seq with
    | none =>
      rw [q] at h'
      cases h'
    | some v =>
      rw [q] at h'
      cases h'
      exact decide_eq_true q
  | _ => rfl
theorem sqL_of {d : D} {v : V} {ds : List D} (hl : isL d = true) (hd : RelD K mu H d v) (h : seqOf d st = .ok ds st) : ∃ a, v = .ref a ∧ ∀ mu' st' H', Ext mu H mu' H' → Sim K CA mu' st' H' → gdOf d ds st' = true → ∃ ys, SqL K H' a ys ∧ RelDs K mu' H' ds ys := by
  cases hd with
  | ro ht hr =>
    have e : (pure _ : M (List D)) st = .ok ds st := h
    cases e
    refine ⟨_, rfl, fun mu' st' H' E S _ => ?_⟩
    rcases ht with ⟨o, ht⟩ | ht
    · exact ⟨_, ro_seq (.inl ⟨o, E.frz _ _ _ ht⟩), hr.mono E⟩
    · exact ⟨_, ro_seq (.inr ht), hr.mono E⟩
  | ob ha => exact ⟨_, rfl, fun mu' st' H' E S hg => gd_seq ha E S hg⟩
  | _ => cases hl
theorem sqT_of {es : List D} {v : V} {ds : List D} (hd : RelD K mu H (.tup es) v) (h : seqOf (.tup es) st = .ok ds st) : ∃ a, v = .ref a ∧ ∀ mu' st' H', Ext mu H mu' H' → Sim K CA mu' st' H' → gdOf (.tup es) ds st' = true → ∃ ys, SqT K H' a ys ∧ RelDs K mu' H' ds ys := by
  cases hd with
  | tup ht hr =>
    have e : (pure _ : M (List D)) st = .ok ds st := h
    cases e
    exact ⟨_, rfl, fun mu' st' H' E S _ => ⟨_, SqT.of (E.tup _ _ ht), hr.mono E⟩⟩
theorem seqOf_st {d : D} {ds : List D} {st1 : Sto} (h : seqOf d st = .ok ds st1) : st1 = st := by
  cases d with
  | tup _ =>
    cases h
    rfl
  | ro _ =>
    cases h
    rfl
  | ob n =>
    have h' : rd n Cell.seq st = .ok ds st1 := h
    unfold rd at h'
    cases q : st[n]?.bind Cell.seq with
    | none =>
      rw [q] at h'
      cases h'
    | some v =>
      rw [q] at h'
      cases h'
      rfl
  | _ => cases h
theorem itL {ds : List D} {g : Gd} {a : Addr} (h : ∀ mu' st' H', Ext mu H mu' H' → Sim K CA mu' st' H' → g st' = true → ∃ ys, SqL K H' a ys ∧ RelDs K mu' H' ds ys) : ItOk ⟨K, CA, EX⟩ mu H (ds, g) (Itl K a) where
  go := fun mu' st' H' i E S hg hi => by
    obtain ⟨ys, h1, h2⟩ := h mu' st' H' E S hg
    have hl := h2.length
    exact ⟨ys, ys[i]'(by rw [← hl]; exact hi), h1, List.getElem?_eq_getElem _⟩
  stop := fun mu' st' H' E S hg => by
    obtain ⟨ys, h1, h2⟩ := h mu' st' H' E S hg
    exact ⟨ys, h1, Nat.le_of_eq h2.length.symm⟩
  yld := fun i mu1 st1 H1 x H2 hi E S hg hy => by
    obtain ⟨ys, h1, h2⟩ := h mu1 st1 H1 E S hg
    obtain ⟨e1, e2⟩ := hy
    subst e1
    obtain ⟨d, q1, q2⟩ := h2.getV (e2 ys h1)
    exact ⟨Ext.refl _ _, S, d, q1, q2⟩
theorem itT {ds : List D} {g : Gd} {a : Addr} (h : ∀ mu' st' H', Ext mu H mu' H' → Sim K CA mu' st' H' → g st' = true → ∃ ys, SqT K H' a ys ∧ RelDs K mu' H' ds ys) : ItOk ⟨K, CA, EX⟩ mu H (ds, g) (Itt K a) where
  go := fun mu' st' H' i E S hg hi => by
    obtain ⟨ys, h1, h2⟩ := h mu' st' H' E S hg
    have hl := h2.length
    exact ⟨ys, ys[i]'(by rw [← hl]; exact hi), h1, List.getElem?_eq_getElem _⟩
  stop := fun mu' st' H' E S hg => by
    obtain ⟨ys, h1, h2⟩ := h mu' st' H' E S hg
    exact ⟨ys, h1, Nat.le_of_eq h2.length.symm⟩
  yld := fun i mu1 st1 H1 x H2 hi E S hg hy => by
    obtain ⟨ys, h1, h2⟩ := h mu1 st1 H1 E S hg
    obtain ⟨e1, e2⟩ := hy
    subst e1
    obtain ⟨d, q1, q2⟩ := h2.getV (e2 ys h1)
    exact ⟨Ext.refl _ _, S, d, q1, q2⟩
/-- a new pair is no cell -/
theorem pair_new {mu1 : List Addr} {st1 : Sto} {H1 : Hp} {T : Addr} {x y : V} {d e : D} (S : Sim K CA mu1 st1 H1) (n : H1 T = none) (hd : RelD K mu1 H1 d x) (he : RelD K mu1 H1 e y) :
    Ext mu1 H1 mu1 (upd H1 T (.tup [x, y])) ∧ Sim K CA mu1 st1 (upd H1 T (.tup [x, y])) ∧ RelD K mu1 (upd H1 T (.tup [x, y])) (.tup [d, e]) (.ref T) :=
  ⟨Ext.fresh n, S.fresh n, .tup upd_same (.cons (hd.mono (Ext.fresh n)) (.cons (he.mono (Ext.fresh n)) .nil))⟩
theorem itZ {ds es : List D} {g g' : Gd} {a b : Addr} (h : ∀ mu' st' H', Ext mu H mu' H' → Sim K CA mu' st' H' → g st' = true → ∃ ys, SqL K H' a ys ∧ RelDs K mu' H' ds ys)
    (h' : ∀ mu' st' H', Ext mu H mu' H' → Sim K CA mu' st' H' → g' st' = true → ∃ ys, SqL K H' b ys ∧ RelDs K mu' H' es ys) :
    ItOk ⟨K, CA, EX⟩ mu H ((ds.zip es).map fun p => D.tup [p.1, p.2], fun s => g s && g' s) (Itz K a b) where
  go := fun mu' st' H' i E S hg hi => by
    rw [Bool.and_eq_true_iff] at hg
    obtain ⟨ys, h1, h2⟩ := h mu' st' H' E S hg.1
    obtain ⟨zs, h3, h4⟩ := h' mu' st' H' E S hg.2
    have hl := h2.length
    have hl2 := h4.length
    simp only [List.length_map, List.length_zip] at hi
    exact ⟨ys, zs, ys[i]'(by omega), zs[i]'(by omega), h1, h3, List.getElem?_eq_getElem _, List.getElem?_eq_getElem _⟩
  stop := fun mu' st' H' E S hg => by
    rw [Bool.and_eq_true_iff] at hg
    obtain ⟨ys, h1, h2⟩ := h mu' st' H' E S hg.1
    obtain ⟨zs, h3, h4⟩ := h' mu' st' H' E S hg.2
    have hl := h2.length
    have hl2 := h4.length
    refine ⟨ys, zs, h1, h3, ?_⟩
    simp only [List.length_map, List.length_zip]
    omega
  yld := fun i mu1 st1 H1 x H2 hi E S hg hy => by
    rw [Bool.and_eq_true_iff] at hg
    obtain ⟨ys, h1, h2⟩ := h mu1 st1 H1 E S hg.1
    obtain ⟨zs, h3, h4⟩ := h' mu1 st1 H1 E S hg.2
    obtain ⟨T, u, w, e1, nT, e2, e3, e4⟩ := hy
    subst e1 e2
    obtain ⟨d, q1, q2⟩ := h2.getV (e3 ys h1)
    obtain ⟨d', q3, q4⟩ := h4.getV (e4 zs h3)
    obtain ⟨p1, p2, p3⟩ := pair_new S nT q2 q4
    refine ⟨p1, p2, _, ?_, p3⟩
    have hz : (ds.zip es)[i]? = some (d, d') := List.getElem?_zip_eq_some.mpr ⟨q1, q3⟩
    simp [hz]
theorem itZT {ds es : List D} {g g' : Gd} {a b : Addr} (h : ∀ mu' st' H', Ext mu H mu' H' → Sim K CA mu' st' H' → g st' = true → ∃ ys, SqT K H' a ys ∧ RelDs K mu' H' ds ys)
    (h' : ∀ mu' st' H', Ext mu H mu' H' → Sim K CA mu' st' H' → g' st' = true → ∃ ys, SqT K H' b ys ∧ RelDs K mu' H' es ys) :
    ItOk ⟨K, CA, EX⟩ mu H ((ds.zip es).map fun p => D.tup [p.1, p.2], fun s => g s && g' s) (RZ.ItzT K a b) where
  go := fun mu' st' H' i E S hg hi => by
    rw [Bool.and_eq_true_iff] at hg
    obtain ⟨ys, h1, h2⟩ := h mu' st' H' E S hg.1
    obtain ⟨zs, h3, h4⟩ := h' mu' st' H' E S hg.2
    have hl := h2.length
    have hl2 := h4.length
    simp only [List.length_map, List.length_zip] at hi
    exact ⟨ys, zs, ys[i]'(by omega), zs[i]'(by omega), h1, h3, List.getElem?_eq_getElem _, List.getElem?_eq_getElem _⟩
  stop := fun mu' st' H' E S hg => by
    rw [Bool.and_eq_true_iff] at hg
    obtain ⟨ys, h1, h2⟩ := h mu' st' H' E S hg.1
    obtain ⟨zs, h3, h4⟩ := h' mu' st' H' E S hg.2
    have hl := h2.length
    have hl2 := h4.length
    refine ⟨ys, zs, h1, h3, ?_⟩
    simp only [List.length_map, List.length_zip]
    omega
  yld := fun i mu1 st1 H1 x H2 hi E S hg hy => by
    rw [Bool.and_eq_true_iff] at hg
    obtain ⟨ys, h1, h2⟩ := h mu1 st1 H1 E S hg.1
    obtain ⟨zs, h3, h4⟩ := h' mu1 st1 H1 E S hg.2
    obtain ⟨T, u, w, e1, nT, e2, e3, e4⟩ := hy
    subst e1 e2
    obtain ⟨d, q1, q2⟩ := h2.getV (e3 ys h1)
    obtain ⟨d', q3, q4⟩ := h4.getV (e4 zs h3)
    obtain ⟨p1, p2, p3⟩ := pair_new S nT q2 q4
    refine ⟨p1, p2, _, ?_, p3⟩
    have hz : (ds.zip es)[i]? = some (d, d') := List.getElem?_zip_eq_some.mpr ⟨q1, q3⟩
    simp [hz]
theorem itE {ds : List D} {g : Gd} {a : Addr} (h : ∀ mu' st' H', Ext mu H mu' H' → Sim K CA mu' st' H' → g st' = true → ∃ ys, SqL K H' a ys ∧ RelDs K mu' H' ds ys) : ItOk ⟨K, CA, EX⟩ mu H (ds.zipIdx.map fun p => D.tup [.int p.2, p.1], g) (Ite K a) where
  go := fun mu' st' H' i E S hg hi => by
    obtain ⟨ys, h1, h2⟩ := h mu' st' H' E S hg
    have hl := h2.length
    simp only [List.length_map, List.length_zipIdx] at hi
    exact ⟨ys, ys[i]'(by rw [← hl]; exact hi), h1, List.getElem?_eq_getElem _⟩
  stop := fun mu' st' H' E S hg => by
    obtain ⟨ys, h1, h2⟩ := h mu' st' H' E S hg
    refine ⟨ys, h1, ?_⟩
    simp only [List.length_map, List.length_zipIdx]
    exact Nat.le_of_eq h2.length.symm
  yld := fun i mu1 st1 H1 x H2 hi E S hg hy => by
    obtain ⟨ys, h1, h2⟩ := h mu1 st1 H1 E S hg
    obtain ⟨T, u, e1, nT, e2, e3⟩ := hy
    subst e1 e2
    obtain ⟨d, q1, q2⟩ := h2.getV (e3 ys h1)
    obtain ⟨p1, p2, p3⟩ := pair_new (d := .int (i : Nat)) S nT (.int _) q2
    refine ⟨p1, p2, _, ?_, p3⟩
    simp [List.getElem?_zipIdx, q1]
theorem itR {lo : Int} {n : Nat} : ItOk ⟨K, CA, EX⟩ mu H (rangeD lo n, fun _ => true) (Itr lo n) where
  go := fun mu' st' H' i E S hg hi => by
    show i < n
    simpa [rangeD] using hi
  stop := fun mu' st' H' E S hg => by
    show n ≤ _
    simp [rangeD]
  yld := fun i mu1 st1 H1 x H2 hi E S hg hy => by
    obtain ⟨e1, e2⟩ := hy
    subst e1 e2
    have hi' : i < n := by simpa [rangeD] using hi
    refine ⟨Ext.refl _ _, S, .int (lo + i), ?_, .int _⟩
    simp [rangeD, hi']
end
section
variable {X : Cx} {r : Rc} {tg e a b : Expr} {pos p : Pos} {f g : Env → M D}
theorem post_seq {x y : Type} {R : List Addr → Hp → x → y → Prop} {mu : List Addr} {H : Hp} {Q : y → Hp → Prop} {d : D} {k : List D → M x} {st : Sto} (P : PostR r R mu H (M.bd (seqOf d) k st) Q) : ∃ ds, seqOf d st = .ok ds st ∧ PostR r R mu H (k ds st) Q := by
  cases q : seqOf d st with
  | ok ds st1 =>
    have := seqOf_st q
    subst this
    rw [bd_ok q] at P
    exact ⟨ds, rfl, P⟩
  | err =>
    rw [bd_err q] at P
    exact P.elim
  | exc x st1 =>
    cases d with
    | ob n =>
      have q' : rd n Cell.seq st = .exc x st1 := q
      unfold rd at q'
      cases z : st[n]?.bind Cell.seq with
      | none =>
        rw [z] at q'
        cases q'
      | some v =>
        rw [z] at q'
        cases q'
    | _ => cases q
/-- for x in e: a list or a tuple -/
def seqW (f : Env → M D) (env : Env) : M (List D × Gd) := do
  let d ← f env
  let ds ← seqOf d
  pure (ds, gdOf d ds)
theorem y_iseq (hK : r.K = X.K) (he : PE X e (tE r f)) : PI X tg e (tI r (seqW f)) := by
  refine PI.imp (PI.or (pi_list he) (pi_tup he)) fun sg H R ⟨mu, st, env, S, RE, P⟩ => ?_
  obtain ⟨K, CA, EX⟩ := r
  dsimp only at hK
  subst hK
  have left : (∀ d st1, f env st = .ok d st1 → ∀ es, d ≠ .tup es) → iList X.K (tE ⟨X.K, CA, EX⟩ f) sg H R := fun hk => by
    refine ⟨mu, st, env, S, RE, PostR.bd P fun d st1 hf mu1 H1 x e1 S1 R1 P1 => ?_⟩
    obtain ⟨ds, q, P2⟩ := post_seq P1
    have hl : isL d = true := by
      cases d with
      | ob n => rfl
      | ro ds => rfl
      | tup es => exact absurd rfl (hk _ _ hf es)
      | _ => cases q
    obtain ⟨a, rfl, h⟩ := sqL_of (CA := CA) hl R1 q
    obtain ⟨ys, h1, _⟩ := h mu1 st1 H1 (Ext.refl _ _) S1 (gd_now q)
    exact ⟨a, rfl, ⟨ys, h1⟩, P2 mu1 H1 _ (Ext.refl _ _) S1 (itL h)⟩
  cases q : f env st with
  | err =>
    have P' : PostR _ _ mu H (M.bd (f env) (fun d => M.bd (seqOf d) fun ds => pure (ds, gdOf d ds)) st) R := P
    rw [bd_err q] at P'
    exact P'.elim
  | exc x s => exact .inl (left fun d st1 h => by rw [q] at h; cases h)
  | ok d0 s0 =>
    cases d0 with
    | tup es =>
      refine .inr ⟨mu, st, env, S, RE, PostR.bd P fun d st1 hf mu1 H1 x e1 S1 R1 P1 => ?_⟩
      rw [q] at hf
      cases hf
      obtain ⟨ds, q, P2⟩ := post_seq P1
      obtain ⟨a, rfl, h⟩ := sqT_of (CA := CA) R1 q
      obtain ⟨ys, h1, _⟩ := h mu1 s0 H1 (Ext.refl _ _) S1 (gd_now q)
      exact ⟨a, rfl, ⟨ys, h1⟩, P2 mu1 H1 _ (Ext.refl _ _) S1 (itT h)⟩
    | _ =>
      refine .inl (left fun d st1 h es e => ?_)
      rw [q, e] at h
      cases h
def wk (k : Ik) (fs : Env → M (List D)) (env : Env) : M (List D × Gd) := do
  let vs ← fs env
  walkOf k vs
variable {fs : Env → M (List D)}
theorem small_ok {i : Int} (h : small i = true) : -(2 ^ 62) ≤ i ∧ i < 2 ^ 62 := by
  unfold small at h
  rw [Bool.and_eq_true_iff] at h
  have h1 : -(2 ^ 60) < i := of_decide_eq_true h.1
  have h2 : i < 2 ^ 60 := of_decide_eq_true h.2
  omega
theorem y_irng1 (hg : Gl X "range") (hm : X.mg "range" = none) (ha : PA X [a] (tEs r fs)) (hs : noStar a = true) : PI X tg (.Call (.Name "range" p) [a] [] pos) (tI r (wk .rng1 fs)) :=
  PI.imp (pi_range1 hg hm ha (star_cons hs)) fun sg H R ⟨mu, st, env, S, RE, P⟩ => ⟨mu, st, env, S, RE, PostR.bd P fun ds st1 _ mu1 H1 x e1 S1 R1 P1 => by
    cases R1 with
    | nil => exact P1.elim
    | cons h1 ht =>
      cases ht with
      | cons _ _ => cases h1 <;> exact P1.elim
      | nil =>
        cases h1 with
        | int i =>
          obtain ⟨h1, P2⟩ := post_need P1
          have h2 := small_ok h1
          exact ⟨i, rfl, h2.1, h2.2, P2 mu1 H1 _ (Ext.refl _ _) S1 itR⟩
        | _ => exact P1.elim⟩
theorem y_irng2 (hg : Gl X "range") (hm : X.mg "range" = none) (ha : PA X [a, b] (tEs r fs)) (hs : noStar a = true) (hs2 : noStar b = true) : PI X tg (.Call (.Name "range" p) [a, b] [] pos) (tI r (wk .rng2 fs)) :=
  PI.imp (pi_range2 hg hm ha (by rw [star_cons hs, star_cons hs2]; rfl) (star_cons hs2)) fun sg H R ⟨mu, st, env, S, RE, P⟩ => ⟨mu, st, env, S, RE, PostR.bd P fun ds st1 _ mu1 H1 x e1 S1 R1 P1 => by
    cases R1 with
    | nil => exact P1.elim
    | cons h1 ht =>
      cases ht with
      | nil => cases h1 <;> exact P1.elim
      | cons h2 ht =>
        cases ht with
        | cons _ _ => cases h1 <;> cases h2 <;> exact P1.elim
        | nil =>
          cases h1 with
          | int i =>
            cases h2 with
            | int j =>
              obtain ⟨h1, P2⟩ := post_need P1
              rw [Bool.and_eq_true_iff] at h1
              have q1 := small_ok h1.1
              have q2 := small_ok h1.2
              exact ⟨i, j, rfl, ⟨q1.1, q1.2, q2.1, q2.2⟩, P2 mu1 H1 _ (Ext.refl _ _) S1 itR⟩
            | _ => exact P1.elim
          | _ => cases h2 <;> exact P1.elim⟩

theorem y_izip {elts : List Expr} {kk : Nat} {tpos : Pos} (hK : r.K = X.K) (hg : Gl X "zip") (hm : X.mg "zip" = none) (ha : PA X [a, b] (tEs r fs)) (hs : noStar a = true) (hs2 : noStar b = true) : PI X (.Tuple elts kk tpos) (.Call (.Name "zip" p) [a, b] [] pos) (tI r (wk .zip fs)) :=
  PI.imp (RZ.pi_zipA hg hm ha (star_cons hs) (star_plain (by rw [List.all_cons, hs2]; rfl))) fun sg H R ⟨mu, st, env, S, RE, P⟩ => ⟨mu, st, env, S, RE, PostR.bd P fun ds st1 _ mu1 H1 x e1 S1 R1 P1 => by
    obtain ⟨K, CA, EX⟩ := r
    dsimp only at hK
    subst hK
    cases R1 with
    | nil => exact P1.elim
    | @cons d1 v1 _ _ h1 ht =>
      cases ht with
      | nil => cases h1 <;> exact P1.elim
      | @cons d2 v2 _ _ h2 ht =>
        cases ht with
        | cons _ _ => cases h1 <;> cases h2 <;> exact P1.elim
        | nil =>
          have P2 : PostR ⟨X.K, CA, EX⟩ (fun mu H w J => ItOk ⟨X.K, CA, EX⟩ mu H w J) mu1 H1 (M.bd (seqOf d1) (fun ds => M.bd (seqOf d2) fun es => (do
              need (isL d1 == isL d2)
              pure ((ds.zip es).map fun p => D.tup [p.1, p.2], fun s => gdOf d1 ds s && gdOf d2 es s) : M (List D × Gd))) st1) R := P1
          obtain ⟨ds1, q1, P3⟩ := post_seq P2
          obtain ⟨ds2, q2, P4⟩ := post_seq P3
          obtain ⟨hsame, P5⟩ := post_need P4
          have P6 := fun J hJ => P5 mu1 H1 J (Ext.refl _ _) S1 hJ
          cases hl1 : isL d1 with
          | true =>
            have hl2 : isL d2 = true := by
              rw [hl1] at hsame
              exact (beq_iff_eq.mp hsame).symm
            obtain ⟨a1, rfl, k1⟩ := sqL_of (CA := CA) hl1 h1 q1
            obtain ⟨a2, rfl, k2⟩ := sqL_of (CA := CA) hl2 h2 q2
            obtain ⟨ys, z1, _⟩ := k1 mu1 st1 H1 (Ext.refl _ _) S1 (gd_now q1)
            obtain ⟨zs, z2, _⟩ := k2 mu1 st1 H1 (Ext.refl _ _) S1 (gd_now q2)
            exact ⟨a1, a2, ys, zs, rfl, .inl ⟨z1, z2, P6 _ (itZ k1 k2)⟩⟩
          | false =>
            have hl2 : isL d2 = false := by
              rw [hl1] at hsame
              exact (beq_iff_eq.mp hsame).symm
            cases d1 with
            | tup es1 =>
              cases d2 with
              | tup es2 =>
                obtain ⟨a1, rfl, k1⟩ := sqT_of (CA := CA) h1 q1
                obtain ⟨a2, rfl, k2⟩ := sqT_of (CA := CA) h2 q2
                obtain ⟨ys, z1, _⟩ := k1 mu1 st1 H1 (Ext.refl _ _) S1 (gd_now q1)
                obtain ⟨zs, z2, _⟩ := k2 mu1 st1 H1 (Ext.refl _ _) S1 (gd_now q2)
                exact ⟨a1, a2, ys, zs, rfl, .inr ⟨z1, z2, P6 _ (itZT k1 k2)⟩⟩
              | ob _ => cases hl2
              | ro _ => cases hl2
              | _ => cases q2
            | ob _ => cases hl1
            | ro _ => cases hl1
            | _ => cases q1⟩
theorem y_ienum {elts : List Expr} {kk : Nat} {tpos : Pos} (hK : r.K = X.K) (hg : Gl X "enumerate") (hm : X.mg "enumerate" = none) (ha : PA X [a] (tEs r fs)) (hs : noStar a = true) : PI X (.Tuple elts kk tpos) (.Call (.Name "enumerate" p) [a] [] pos) (tI r (wk .enum fs)) :=
  PI.imp (pi_enum hg hm ha (star_cons hs)) fun sg H R ⟨mu, st, env, S, RE, P⟩ => ⟨mu, st, env, S, RE, PostR.bd P fun ds st1 _ mu1 H1 x e1 S1 R1 P1 => by
    obtain ⟨K, CA, EX⟩ := r
    dsimp only at hK
    subst hK
    cases R1 with
    | nil => exact P1.elim
    | @cons d1 v1 _ _ h1 ht =>
      cases ht with
      | cons _ _ => cases h1 <;> exact P1.elim
      | nil =>
        have P2 : PostR ⟨X.K, CA, EX⟩ (fun mu H w J => ItOk ⟨X.K, CA, EX⟩ mu H w J) mu1 H1 (M.bd (seqOf d1) (fun ds => (do
              need (isL d1)
              pure (ds.zipIdx.map fun p => D.tup [.int p.2, p.1], gdOf d1 ds) : M (List D × Gd))) st1) R := P1
        obtain ⟨ds1, q1, P3⟩ := post_seq P2
        obtain ⟨hl1, P5⟩ := post_need P3
        obtain ⟨a1, rfl, k1⟩ := sqL_of (CA := CA) hl1 h1 q1
        obtain ⟨ys, z1, _⟩ := k1 mu1 st1 H1 (Ext.refl _ _) S1 (gd_now q1)
        exact ⟨a1, ys, rfl, z1, P5 mu1 H1 _ (Ext.refl _ _) S1 (itE k1)⟩⟩
end
end Y

/-! Statements, comprehensions. -/
namespace Y
open PySem PySem.Spec L2

def PostS (r : Rc) (En : Ends) (mu : List Addr) (H : Hp) (res : Res (Fl × Env)) : Prop :=
  match res with
  | .ok (.next, env) st => ∀ mu' H' sg, Ext mu H mu' H' → Sim r.K r.CA mu' st H' → RelE r.K mu' H' env sg → En.nx sg H'
  | .ok (.ret d, _) st => ∀ mu' H' v, Ext mu H mu' H' → Sim r.K r.CA mu' st H' → RelD r.K mu' H' d v → En.rt v H'
  | .ok (.brk, env) st => ∀ mu' H' sg, Ext mu H mu' H' → Sim r.K r.CA mu' st H' → RelE r.K mu' H' env sg → En.bk sg H'
  | .ok (.cont, env) st => ∀ mu' H' sg, Ext mu H mu' H' → Sim r.K r.CA mu' st H' → RelE r.K mu' H' env sg → En.ct sg H'
  | .exc x st => ∀ mu' H' c dd, Ext mu H mu' H' → Sim r.K r.CA mu' st H' → RX r.K mu' H' x c dd → r.EX c dd H'
  | .err => False
def tS (r : Rc) (f : Env → M (Fl × Env)) : TS := fun En sg H => ∃ mu st env, Sim r.K r.CA mu st H ∧ RelE r.K mu H env sg ∧ PostS r En mu H (f env st)
section
variable {r : Rc} {En : Ends} {mu : List Addr} {H : Hp}
theorem PostS.shift {mu1 : List Addr} {H1 : Hp} {res : Res (Fl × Env)} (e : Ext mu H mu1 H1) (h : PostS r En mu H res) : PostS r En mu1 H1 res := by
  cases res with
  | ok d st =>
    obtain ⟨fl, env⟩ := d
    cases fl with
    | next => exact fun mu' H' v e' => h mu' H' v (e.trans e')
    | ret d => exact fun mu' H' v e' => h mu' H' v (e.trans e')
    | brk => exact fun mu' H' v e' => h mu' H' v (e.trans e')
    | cont => exact fun mu' H' v e' => h mu' H' v (e.trans e')
  | exc x st => exact fun mu' H' c dd e' => h mu' H' c dd (e.trans e')
  | err => exact h
/-- an expression ahead of the rest of a statement -/
theorem PostS.bd {a b : Type} {R : List Addr → Hp → a → b → Prop} {m : M a} {k : a → M (Fl × Env)} {st : Sto} {Q1 : b → Hp → Prop} (h : PostS r En mu H (M.bd m k st))
    (hk : ∀ d st1, m st = .ok d st1 → ∀ mu1 H1 v1, Ext mu H mu1 H1 → Sim r.K r.CA mu1 st1 H1 → R mu1 H1 d v1 → PostS r En mu1 H1 (k d st1) → Q1 v1 H1) : PostR r R mu H (m st) Q1 := by
  cases e : m st with
  | ok d st1 =>
    rw [bd_ok e] at h
    exact fun mu1 H1 v1 e1 s1 r1 => hk d st1 e mu1 H1 v1 e1 s1 r1 (h.shift e1)
  | exc x st1 =>
    rw [bd_exc e] at h
    exact h
  | err =>
    rw [bd_err e] at h
    exact h
theorem posts_ofO {c : Type} {o : Option c} {k : c → M (Fl × Env)} {st : Sto} (h : PostS r En mu H (M.bd (ofO o) k st)) : ∃ v, o = some v ∧ PostS r En mu H (k v st) := by
  cases o with
  | none => exact h.elim
  | some v => exact ⟨v, rfl, h⟩
theorem posts_chk {g : Gd} {k : Unit → M (Fl × Env)} {st : Sto} (h : PostS r En mu H (M.bd (chk g) k st)) : g st = true ∧ PostS r En mu H (k () st) := by
  cases q : g st with
  | true =>
    rw [bd_ok (show chk g st = .ok () st by unfold chk; rw [q]; rfl)] at h
    exact ⟨rfl, h⟩
  | false =>
    rw [bd_err (show chk g st = .err by unfold chk; rw [q]; rfl)] at h
    exact h.elim
/-- a statement, then what follows -/
theorem PostS.seq {En' : Ends} {m : M (Fl × Env)} {k : Fl × Env → M (Fl × Env)} {st : Sto} (h : PostS r En mu H (M.bd m k st))
    (hn : ∀ env st1 mu1 H1 sg, Ext mu H mu1 H1 → Sim r.K r.CA mu1 st1 H1 → RelE r.K mu1 H1 env sg → PostS r En mu1 H1 (k (.next, env) st1) → En'.nx sg H1)
    (hr : ∀ d env st1 mu1 H1 v, Ext mu H mu1 H1 → Sim r.K r.CA mu1 st1 H1 → RelD r.K mu1 H1 d v → PostS r En mu1 H1 (k (.ret d, env) st1) → En'.rt v H1)
    (hb : ∀ env st1 mu1 H1 sg, Ext mu H mu1 H1 → Sim r.K r.CA mu1 st1 H1 → RelE r.K mu1 H1 env sg → PostS r En mu1 H1 (k (.brk, env) st1) → En'.bk sg H1)
    (hc : ∀ env st1 mu1 H1 sg, Ext mu H mu1 H1 → Sim r.K r.CA mu1 st1 H1 → RelE r.K mu1 H1 env sg → PostS r En mu1 H1 (k (.cont, env) st1) → En'.ct sg H1) : PostS r En' mu H (m st) := by
  cases e : m st with
  | ok d st1 =>
    rw [bd_ok e] at h
    obtain ⟨fl, env⟩ := d
    cases fl with
    | next => exact fun mu1 H1 sg e1 s1 r1 => hn env st1 mu1 H1 sg e1 s1 r1 (h.shift e1)
    | ret d => exact fun mu1 H1 sg e1 s1 r1 => hr d env st1 mu1 H1 sg e1 s1 r1 (h.shift e1)
    | brk => exact fun mu1 H1 sg e1 s1 r1 => hb env st1 mu1 H1 sg e1 s1 r1 (h.shift e1)
    | cont => exact fun mu1 H1 sg e1 s1 r1 => hc env st1 mu1 H1 sg e1 s1 r1 (h.shift e1)
  | exc x st1 =>
    rw [bd_exc e] at h
    exact h
  | err =>
    rw [bd_err e] at h
    exact h
end
section
variable {X : Cx} {r : Rc} {e c o i tg it : Expr} {pos pos' : Pos} {f g h : Env → M D} {st : Stmt} {rest : List Stmt} {b1 b2 : Env → M (Fl × Env)}
theorem y_snil : PSs X [] (tS r fun env => pure (.next, env)) := PSs.imp pss_nil fun En sg H ⟨mu, st, env, S, RE, P⟩ => P mu H sg (Ext.refl _ _) S RE
def seqF (b1 b2 : Env → M (Fl × Env)) (env : Env) : M (Fl × Env) := do
  let q ← b1 env
  match q.1 with
  | .next => b2 q.2
  | f => pure (f, q.2)
theorem y_scons (h1 : PS X st (tS r b1)) (h2 : PSs X rest (tS r b2)) : PSs X (st :: rest) (tS r (seqF b1 b2)) := PSs.imp (pss_cons h1 h2) fun En sg H ⟨mu, st, env, S, RE, P⟩ => by
  refine ⟨mu, st, env, S, RE, PostS.seq P (fun env1 st1 mu1 H1 sg1 e1 s1 r1 P1 => ⟨mu1, st1, env1, s1, r1, P1⟩) (fun d env1 st1 mu1 H1 v e1 s1 r1 P1 => ?_) (fun env1 st1 mu1 H1 sg1 e1 s1 r1 P1 => ?_) fun env1 st1 mu1 H1 sg1 e1 s1 r1 P1 => ?_⟩
  · exact P1 mu1 H1 v (Ext.refl _ _) s1 r1
  · exact P1 mu1 H1 sg1 (Ext.refl _ _) s1 r1
  · exact P1 mu1 H1 sg1 (Ext.refl _ _) s1 r1
theorem y_pass : PS X (.Pass pos) (tS r fun env => pure (.next, env)) := PS.imp ps_pass fun En sg H ⟨mu, st, env, S, RE, P⟩ => P mu H sg (Ext.refl _ _) S RE
theorem y_doc {x : Str} {j : Nat} : PS X (.Expr (.Constant (.str x) j pos) pos') (tS r fun env => pure (.next, env)) := PS.imp ps_doc fun En sg H ⟨mu, st, env, S, RE, P⟩ => P mu H sg (Ext.refl _ _) S RE
theorem y_brk : PS X (.Break pos) (tS r fun env => pure (.brk, env)) := PS.imp ps_break fun En sg H ⟨mu, st, env, S, RE, P⟩ => P mu H sg (Ext.refl _ _) S RE
theorem y_cont : PS X (.Continue pos) (tS r fun env => pure (.cont, env)) := PS.imp ps_continue fun En sg H ⟨mu, st, env, S, RE, P⟩ => P mu H sg (Ext.refl _ _) S RE
theorem y_never : PS X st (tS r fun _ => fail) := PS.imp ps_never fun En sg H ⟨mu, st, env, S, RE, P⟩ => P.elim
theorem y_expr (he : PE X e (tE r f)) (hs : swapsWith e none pos.line X.env = pure false) : PS X (.Expr e pos) (tS r fun env => do
    let _ ← f env
    pure (.next, env)) := PS.imp (ps_expr he hs) fun En sg H ⟨mu, st, env, S, RE, P⟩ => ⟨mu, st, env, S, RE, PostS.bd P fun d st1 _ mu1 H1 v e1 s1 r1 P1 => P1 mu1 H1 sg (Ext.refl _ _) s1 (RE.mono e1)⟩
theorem y_ret (he : PE X e (tE r f)) : PS X (.Return (some e) pos) (tS r fun env => do
    let x ← f env
    pure (.ret x, env)) := PS.imp (ps_ret he) fun En sg H ⟨mu, st, env, S, RE, P⟩ => ⟨mu, st, env, S, RE, PostS.bd P fun d st1 _ mu1 H1 v e1 s1 r1 P1 => P1 mu1 H1 v (Ext.refl _ _) s1 r1⟩
theorem y_if {a b : List Stmt} (hc : PT X c (tT r (tst f))) (ha : PSs X a (tS r b1)) (hb : PSs X b (tS r b2)) : PS X (.If c a b pos) (tS r fun env => do
    let x ← f env
    let q ← asB x
    if q then b1 env else b2 env) := PS.imp (ps_if hc ha hb) fun En sg H ⟨mu, st, env, S, RE, P⟩ => by
  have e : (do
      let x ← f env
      let q ← asB x
      if q then b1 env else b2 env : M (Fl × Env)) st = M.bd (tst f env) (fun q => if q = true then b1 env else b2 env) st := by
    show M.bd (f env) (fun x => M.bd (asB x) fun q => if q = true then b1 env else b2 env) st = M.bd (M.bd (f env) asB) _ st
    rw [bd_assoc]
  have P' : PostS r En mu H (M.bd (tst f env) (fun q => if q = true then b1 env else b2 env) st) := by
    rw [← e]
    exact P
  exact ⟨mu, st, env, S, RE, PostS.bd P' fun d st1 _ mu1 H1 v e1 s1 r1 P1 => by
    subst r1
    cases v with
    | true => exact ⟨mu1, st1, env, s1, RE.mono e1, P1⟩
    | false => exact ⟨mu1, st1, env, s1, RE.mono e1, P1⟩⟩
theorem y_asg {t : Tg} (he : PE X e (tE r f)) (hg : PG X tg (tG r t)) (hs : swapsWithSole [tg] e pos.line X.env = pure false) (hw : swappedStores [tg] e X.env = pure none) (h1 : (assignEach [tg] X.env).map (·.2) = [assign tg X.env]) :
    PS X (.Assign [tg] e pos) (tS r fun env => do
      let x ← f env
      let env' ← ofO (asgT t x env)
      pure (.next, env')) := PS.imp (ps_asg he hg hs hw h1) fun En sg H ⟨mu, st, env, S, RE, P⟩ => ⟨mu, st, env, S, RE, PostS.bd P fun d st1 _ mu1 H1 v e1 s1 r1 P1 => by
        obtain ⟨env', h2, P2⟩ := posts_ofO P1
        exact ⟨mu1, st1, env, d, env', s1, RE.mono e1, r1, h2, fun sg' RE' _ => P2 mu1 H1 sg' (Ext.refl _ _) s1 RE'⟩⟩
theorem y_set {k : Nat} {x : Str} {pos2 : Pos} (hN : X.N.Nodup) (hi : X.N[k]? = some x) (hx : Loc X.env.scope x) (he : PE X e (tE r f)) (hs : swapsWith e (some (.Name x pos2)) pos.line X.env = pure false) (hf : X.fn x = true ∨ X.env.scope.names.lookup x = some .local) :
    PS X (.Assign [.Name x pos2] e pos) (tS r fun env => do
      let x ← f env
      let env' ← ofO (asgT (.nm k) x env)
      pure (.next, env')) := PS.imp (ps_set hN hi hx he hs hf) fun En sg H ⟨mu, st, env, S, RE, P⟩ => ⟨mu, st, env, S, RE, PostS.bd P fun d st1 _ mu1 H1 v e1 s1 r1 P1 => by
        obtain ⟨env', h2, P2⟩ := posts_ofO P1
        have h2' : (if k < env.length then some (env.set k (some d)) else none) = some env' := h2
        by_cases q : k < env.length
        · rw [if_pos q] at h2'
          cases h2'
          exact P2 mu1 H1 _ (Ext.refl _ _) s1 ((RE.mono e1).set k r1)
        · rw [if_neg q] at h2'
          cases h2'⟩
/-- a, b = x, y -/
theorem y_par {k l : Nat} {x y : Str} {a b : Expr} {px py pt : Pos} {kt k2 : Nat} {pt2 : Pos} {fs : Env → M (List D)} (hc : X.calm = true) (hN : X.N.Nodup) (hi : X.N[k]? = some x) (hj : X.N[l]? = some y) (hij : k ≠ l) (hx : X.env.scope.names.lookup x = some .local)
    (hy : X.env.scope.names.lookup y = some .local) (ha : PA X [a, b] (tEs r fs)) (hw : swappedStores [.Tuple [.Name x px, .Name y py] kt pt] (.Tuple [a, b] k2 pt2) X.env = pure (some [x, y]))
    (hs : swapsWithSole [.Tuple [.Name x px, .Name y py] kt pt] (.Tuple [a, b] k2 pt2) pos.line X.env = pure false) :
    PS X (.Assign [.Tuple [.Name x px, .Name y py] kt pt] (.Tuple [a, b] k2 pt2) pos) (tS r fun env => do
      let v ← (do
        let xs ← fs env
        pure (.tup xs) : M D)
      let env' ← ofO (asgT (.tp [.nm k, .nm l]) v env)
      pure (.next, env')) := PS.imp (ps_par hc hN hi hj hij hx hy ha hw hs) fun En sg H ⟨mu, st, env, S, RE, P⟩ => by
  have P' : PostS r En mu H (M.bd (fs env) (fun xs => M.bd (ofO (asgT (.tp [.nm k, .nm l]) (.tup xs) env)) fun env' => pure (.next, env')) st) := by
    have e : (do
        let v ← (do
          let xs ← fs env
          pure (.tup xs) : M D)
        let env' ← ofO (asgT (.tp [.nm k, .nm l]) v env)
        pure (.next, env') : M (Fl × Env)) st = M.bd (fs env) (fun xs => M.bd (ofO (asgT (.tp [.nm k, .nm l]) (.tup xs) env)) fun env' => pure (.next, env')) st := by
      show M.bd (M.bd (fs env) fun xs => (pure (D.tup xs) : M D)) _ st = _
      rw [bd_assoc]
      rfl
    rw [← e]
    exact P
  exact ⟨mu, st, env, S, RE, PostS.bd P' fun ds st1 _ mu1 H1 v e1 s1 r1 P1 => by
    obtain ⟨env', h2, P2⟩ := posts_ofO P1
    cases r1 with
    | nil => cases h2
    | @cons d1 v1 _ _ q1 ht =>
      cases ht with
      | nil =>
        exfalso
        have h3 : (match (if k < env.length then some (env.set k (some d1)) else none) with
          | some env1 => asgTs [.nm l] [] env1
          | none => none) = some env' := h2
        split at h3 <;> cases h3
      | @cons d2 v2 _ _ q2 ht =>
        have h3 : (match (if k < env.length then some (env.set k (some d1)) else none) with
          | some env1 => asgTs [.nm l] (d2 :: _) env1
          | none => none) = some env' := h2
        by_cases z : k < env.length
        · rw [if_pos z] at h3
          have h4 : (match (if l < (env.set k (some d1)).length then some ((env.set k (some d1)).set l (some d2)) else none) with
            | some env1 => asgTs [] _ env1
            | none => none) = some env' := h3
          by_cases z2 : l < (env.set k (some d1)).length
          · rw [if_pos z2] at h4
            cases ht with
            | cons _ _ => cases h4
            | nil =>
              cases h4
              exact ⟨v1, v2, rfl, P2 mu1 H1 _ (Ext.refl _ _) s1 (((RE.mono e1).set k q1).set l q2)⟩
          · rw [if_neg z2] at h4
            cases h4
        · rw [if_neg z] at h3
          cases h3⟩
/-- o[i] = v -/
def rSetY : TSet := fun o i v H Q => (∃ p xs k j, o = .ref p ∧ i = .int k ∧ H p = some (.lst xs) ∧ ixN xs.length k = some j ∧ Q (upd H p (.lst (xs.set j v)))) ∨
  ∃ a H1 H2, o = .ref a ∧ (H1 = H ∨ (H a = some (.dK []) ∧ H1 = upd H a (.dT [])) ∨ (H a = some (.dT []) ∧ H1 = upd H a (.dK []))) ∧ DPut H1 a i v H2 ∧ Q H2
theorem set_all (hu : X.A.units + 1 < cLine) : PSet X rSetY := by
  intro pins s sg H o i v ov iv u Q I ro ri rv h
  rcases h with h | ⟨a, H1, H2, rfl, hc, hp, q⟩
  · exact set_list pins s sg H o i v ov iv u Q I ro ri rv h
  · cases ro
    exact d_setItem hu (conv_any I hc) hp ri rv fun s' I' => ⟨H2, I', q⟩
section
variable {K : PySem.W.Frag} {CA : ClsA} {mu : List Addr} {H : Hp} {s0 : Sto}
theorem keyD_iff (a b : Key) : (keyD a = keyD b) ↔ a = b := ⟨keyD_inj, fun h => by rw [h]⟩
theorem keysD_iff (a b : List Key) : (D.tup (a.map keyD) = D.tup (b.map keyD)) ↔ a = b := ⟨fun h => keysD_inj (D.tup.inj h), fun h => by rw [h]⟩
theorem RelK.cons {k : Key} {d : D} {v : V} {ds : List (D × D)} {vs : List (Key × V)} (h : RelD K mu H d v) (t : RelK K mu H ds vs) : RelK K mu H ((keyD k, d) :: ds) ((k, v) :: vs) := by
  cases k with
  | inl i => exact .int h t
  | inr x => exact .str h t
theorem RelK.ind {P : List (D × D) → List (Key × V) → Prop} (h0 : P [] []) (h1 : ∀ (k : Key) (d : D) (v : V) (ds : List (D × D)) (vs : List (Key × V)), RelD K mu H d v → RelK K mu H ds vs → P ds vs → P ((keyD k, d) :: ds) ((k, v) :: vs)) :
    ∀ {ds : List (D × D)} {vs : List (Key × V)}, RelK K mu H ds vs → P ds vs := by
  intro ds vs h
  induction h with
  | nil => exact h0
  | @int i d v ds vs hd ht ih => exact h1 (.inl i) d v ds vs hd ht ih
  | @str i d v ds vs hd ht ih => exact h1 (.inr i) d v ds vs hd ht ih
theorem relK_any {kvs : List (D × D)} {ks : List (Key × V)} (hr : RelK K mu H kvs ks) (k : Key) : (kvs.any fun kv => decide (kv.1 = keyD k)) = ks.any fun kv => decide (kv.1 = k) := by
  refine RelK.ind (P := fun kvs ks => (kvs.any fun kv => decide (kv.1 = keyD k)) = ks.any fun kv => decide (kv.1 = k)) rfl (fun k' d v ds vs _ _ ih => ?_) hr
  simp only [List.any_cons, ih, keyD_iff]
theorem relK_map {kvs : List (D × D)} {ks : List (Key × V)} (hr : RelK K mu H kvs ks) (k : Key) {d : D} {v : V} (hd : RelD K mu H d v) : RelK K mu H (kvs.map fun kv => if kv.1 = keyD k then (kv.1, d) else kv) (ks.map fun kv => if kv.1 = k then (kv.1, v) else kv) := by
  refine RelK.ind (P := fun kvs ks => RelK K mu H (kvs.map fun kv => if kv.1 = keyD k then (kv.1, d) else kv) (ks.map fun kv => if kv.1 = k then (kv.1, v) else kv)) .nil (fun k' d' v' ds vs h _ ih => ?_) hr
  simp only [List.map_cons, keyD_iff]
  by_cases e : k' = k
  · simp only [e, if_true]
    exact RelK.cons hd ih
  · simp only [e, if_false]
    exact RelK.cons h ih
theorem RelK.append {kvs kvs' : List (D × D)} {ks ks' : List (Key × V)} (hr : RelK K mu H kvs ks) (hs : RelK K mu H kvs' ks') : RelK K mu H (kvs ++ kvs') (ks ++ ks') := by
  induction hr with
  | nil => exact hs
  | int h _ ih => exact .int h ih
  | str h _ ih => exact .str h ih
theorem relK_put {kvs : List (D × D)} {ks : List (Key × V)} (hr : RelK K mu H kvs ks) (k : Key) {d : D} {v : V} (hd : RelD K mu H d v) : RelK K mu H (dput kvs (keyD k) d) (putK ks k v) := by
  unfold dput putK
  rw [relK_any hr k]
  split
  · exact relK_map hr k hd
  · exact hr.append (RelK.cons hd .nil)
theorem relT_any {kvs : List (D × D)} {ks : List (List Key × V)} (hr : RelT K mu H kvs ks) (k : List Key) : (kvs.any fun kv => decide (kv.1 = .tup (k.map keyD))) = ks.any fun kv => decide (kv.1 = k) := by
  induction hr with
  | nil => rfl
  | cons _ _ ih => simp only [List.any_cons, ih, keysD_iff]
theorem relT_map {kvs : List (D × D)} {ks : List (List Key × V)} (hr : RelT K mu H kvs ks) (k : List Key) {d : D} {v : V} (hd : RelD K mu H d v) : RelT K mu H (kvs.map fun kv => if kv.1 = .tup (k.map keyD) then (kv.1, d) else kv) (ks.map fun kv => if kv.1 = k then (kv.1, v) else kv) := by
  induction hr with
  | nil => exact .nil
  | @cons k' d' v' ds vs h _ ih =>
    simp only [List.map_cons, keysD_iff]
    by_cases e : k' = k
    · simp only [e, if_true]
      exact .cons hd ih
    · simp only [e, if_false]
      exact .cons h ih
theorem RelT.append {kvs kvs' : List (D × D)} {ks ks' : List (List Key × V)} (hr : RelT K mu H kvs ks) (hs : RelT K mu H kvs' ks') : RelT K mu H (kvs ++ kvs') (ks ++ ks') := by
  induction hr with
  | nil => exact hs
  | cons h _ ih => exact .cons h ih
theorem relT_put {kvs : List (D × D)} {ks : List (List Key × V)} (hr : RelT K mu H kvs ks) (k : List Key) {d : D} {v : V} (hd : RelD K mu H d v) : RelT K mu H (dput kvs (.tup (k.map keyD)) d) (putK ks k v) := by
  unfold dput putK
  rw [relT_any hr k]
  split
  · exact relT_map hr k hd
  · exact hr.append (.cons hd .nil)
end
theorem y_setI (hu : X.A.units + 1 < cLine) (hv : PE X e (tE r f)) (ho : PE X o (tE r g)) (hi : PE X i (tE r h)) (ha : ∀ v, assign (.Subscript o i pos') X.env v = (do
      let ov ← holding [v] (eval o X.env)
      let iv ← holding [v, ov] (eval i X.env)
      standAt pos'
      holding [v, ov, iv] (setItem ov iv v)
      release [v, ov, iv] [])) (hs : swapsWithSole [.Subscript o i pos'] e pos.line X.env = pure false) (hw : swappedStores [.Subscript o i pos'] e X.env = pure none) (h1 : (assignEach [.Subscript o i pos'] X.env).map (·.2) = [assign (.Subscript o i pos') X.env]) :
    PS X (.Assign [.Subscript o i pos'] e pos) (tS r fun env => do
      let v ← f env
      let x ← g env
      let y ← h env
      setIop x y v
      pure (.next, env)) := PS.imp (ps_asg hv (pg_sub ho hi (set_all hu) ha) hs hw h1) fun En sg H ⟨mu, st, env, S, RE, P⟩ => ⟨mu, st, env, S, RE, PostS.bd P fun dv st1 _ mu1 H1 v e1 s1 r1 P1 => by
  refine ⟨mu1, st1, env, s1, RE.mono e1, PostS.bd P1 fun dx st2 _ mu2 H2 x e2 s2 r2 P2 => ?_⟩
  refine ⟨mu2, st2, env, s2, (RE.mono e1).mono e2, PostS.bd P2 fun dy st3 _ mu3 H3 y e3 s3 r3 P3 => ?_⟩
  have r2' := r2.mono e3
  have r1' := (r1.mono e2).mono e3
  have RE3 := ((RE.mono e1).mono e2).mono e3
  cases dx with
  | ob n =>
    cases r2' with
    | ob hm =>
      rename_i a
      have P4 : PostS r En mu3 H3 (M.bd (rd n (Cell.put dy dv)) (fun c => M.bd (setC n c) fun _ => pure (.next, env)) st3) := by
        have q : M.bd (setIop (.ob n) dy dv) (fun _ => (pure (.next, env) : M (Fl × Env))) st3 = M.bd (rd n (Cell.put dy dv)) (fun c => M.bd (setC n c) fun _ => pure (.next, env)) st3 := by
          show M.bd (M.bd (rd n (Cell.put dy dv)) fun c => setC n c) _ st3 = _
          rw [bd_assoc]
        rw [← q]
        exact P3
      cases q1 : st3[n]? with
      | none =>
        rw [bd_err (show rd n (Cell.put dy dv) st3 = .err by unfold rd; rw [q1]; rfl)] at P4
        exact P4.elim
      | some c =>
        cases q2 : Cell.put dy dv c with
        | none =>
          rw [bd_err (show rd n (Cell.put dy dv) st3 = .err by unfold rd; rw [q1, Option.bind_some, q2])] at P4
          exact P4.elim
        | some c2 =>
          have hl : n < st3.length := (List.getElem?_eq_some_iff.mp q1).1
          rw [bd_ok (show rd n (Cell.put dy dv) st3 = .ok c2 st3 by unfold rd; rw [q1, Option.bind_some, q2]), bd_ok (show setC n c2 st3 = .ok () (st3.set n c2) by unfold setC; rw [if_pos hl])] at P4
          cases c with
          | lst ds =>
            cases dy with
            | int k =>
              cases r3
              have q3 : (ixN ds.length k).map (fun j => Cell.lst (ds.set j dv)) = some c2 := q2
              cases q4 : ixN ds.length k with
              | none =>
                rw [q4] at q3
                cases q3
              | some j =>
                rw [q4] at q3
                cases q3
                obtain ⟨xs, z1, z2⟩ := s3.at q1 hm
                obtain ⟨E', S'⟩ := ok_set s3 q1 hm (z2.set j r1')
                refine .inl ⟨a, xs, k, j, rfl, rfl, z1, by rw [← z2.length]; exact q4, ?_⟩
                exact P4 mu3 _ sg E' S' (RE3.mono E')
            | _ => cases q2
          | dct kvs =>
            have q3 : (if (keyIn kvs dy && decide (kvs.length < big)) = true then some (Cell.dct (dput kvs dy dv)) else none) = some c2 := q2
            by_cases q4 : (keyIn kvs dy && decide (kvs.length < big)) = true
            · rw [if_pos q4] at q3
              cases q3
              rw [Bool.and_eq_true_iff] at q4
              have hlen : kvs.length < 16000000 := of_decide_eq_true q4.2
              obtain ⟨H', hc, S', E', z⟩ := dct_sort s3 q1 hm q4.1
              obtain ⟨hko, _⟩ := Bool.and_eq_true_iff.mp q4.1
              have r3' := r3.mono E'
              have r1'' := r1'.mono E'
              rcases z with ⟨hn, ks, z1, z2⟩ | ⟨hn, ks, z1, z2⟩
              · have k1 : keyOk1 dy = true := by
                  cases dy with
                  | tup _ => cases hn
                  | _ => exact hko
                obtain ⟨k', e1', e2'⟩ := key_of k1 r3'
                subst e1' e2'
                have hl2 := relK_len z2
                have Ew : Ext mu3 H' mu3 (upd H' a (.dK (putK ks k' v))) := Ext.write S' q1 hm
                refine .inr ⟨a, H', _, rfl, hc, .inl ⟨ks, k', z1, rfl, by show ks.length < 2 ^ 24; omega, rfl⟩, ?_⟩
                exact P4 mu3 _ sg (E'.trans Ew) (S'.write q1 hm (.inl ⟨_, upd_same, (relK_put z2 k' r1'').mono Ew⟩)) ((RE3.mono E').mono Ew)
              · cases dy with
                | tup es =>
                  cases r3' with
                  | tup ht hr =>
                    obtain ⟨k', e1', e2'⟩ := keys_of hko hr
                    subst e1' e2'
                    have hl2 := relT_len z2
                    have Ew : Ext mu3 H' mu3 (upd H' a (.dT (putK ks k' v))) := Ext.write S' q1 hm
                    refine .inr ⟨a, H', _, rfl, hc, .inr ⟨ks, k', _, z1, rfl, ht, by show ks.length < 2 ^ 24; omega, rfl⟩, ?_⟩
                    exact P4 mu3 _ sg (E'.trans Ew) (S'.write q1 hm (.inr ⟨_, upd_same, (relT_put z2 k' r1'').mono Ew⟩)) ((RE3.mono E').mono Ew)
                | _ => cases hn
            · rw [if_neg q4] at q3
              cases q3
          | ins _ _ => cases q2
  | _ => exact P3.elim⟩
/-! ### loops -/
variable {ik : Ik} {body : List Stmt}
theorem y_for {t : Tg} {w : Env → M (List D × Gd)} (hp : PassesOwn (model X.prog X.w) X.A X.env X.xe) (hc : X.calm = true) (hi : PI X tg it (tI r w)) (hg : PG X tg (tG r t)) (hb : PSs X body (tS r b1)) (hfs : ∀ x, foldedSetIterable it X.env x = pure x) : PS X (.For tg it body [] pos) (tS r fun env => do
    let q ← w env
    forL t b1 q.2 q.1 env) := PS.imp (ps_for hp hc hi hg hb hfs) fun En sg H ⟨mu, st, env, S, RE, P⟩ => ⟨mu, st, env, S, RE, PostS.bd P fun q st1 _ mu1 H1 J e1 s1 r1 P1 => by
  obtain ⟨ds, gd⟩ := q
  refine ⟨fun i m sg2 H2 => m = ds.length - i ∧ i ≤ ds.length ∧ ∃ mu2 st2 env2, Ext mu1 H1 mu2 H2 ∧ Sim r.K r.CA mu2 st2 H2 ∧ RelE r.K mu2 H2 env2 sg2 ∧ PostS r En mu2 H2 (forL t b1 gd (ds.drop i) env2 st2),
    ⟨ds.length, by simp, Nat.zero_le _, mu1, st1, env, Ext.refl _ _, s1, RE.mono e1, by simpa using P1⟩, ?_⟩
  rintro i m sg2 H2 ⟨rfl, hi, mu2, st2, env2, E2, S2, RE2, P2⟩
  by_cases hlt : i < ds.length
  · rw [List.drop_eq_getElem_cons hlt] at P2
    have P3 : PostS r En mu2 H2 (M.bd (chk gd) (fun _ => M.bd (ofO (asgT t ds[i] env2)) fun env' => M.bd (b1 env') fun q => match q.1 with
      | .ret v => pure (.ret v, q.2)
      | .brk => pure (.next, q.2)
      | _ => forL t b1 gd (ds.drop (i + 1)) q.2) st2) := P2
    obtain ⟨hgd, P4⟩ := posts_chk P3
    obtain ⟨env', h5, P5⟩ := posts_ofO P4
    refine .inr ⟨r1.go mu2 st2 H2 i E2 S2 hgd hlt, fun sg3 H3 => i + 1 ≤ ds.length ∧ ∃ mu3 st3 env3, Ext mu1 H1 mu3 H3 ∧ Sim r.K r.CA mu3 st3 H3 ∧ RelE r.K mu3 H3 env3 sg3 ∧ PostS r En mu3 H3 (forL t b1 gd (ds.drop (i + 1)) env3 st3), fun sg3 H3 ⟨hi3, q⟩ => ⟨ds.length - (i + 1), by omega, rfl, hi3, q⟩, fun x H3 hy => ?_⟩
    obtain ⟨Ey, Sy, d, hd, rd⟩ := r1.yld i mu2 st2 H2 x H3 hlt E2 S2 hgd hy
    have ed : ds[i] = d := by
      rw [List.getElem?_eq_getElem hlt] at hd
      exact Option.some.inj hd
    rw [ed] at h5
    refine ⟨mu2, st2, env2, d, env', Sy, RE2.mono Ey, rd, h5, fun sg' RE' _ => ⟨mu2, st2, env', Sy, RE', PostS.seq (P5.shift Ey) ?_ ?_ ?_ ?_⟩⟩
    · exact fun env3 st3 mu3 H4 sg4 e3 s3 r3 P6 => ⟨hlt, mu3, st3, env3, (E2.trans Ey).trans e3, s3, r3, P6⟩
    · exact fun d env3 st3 mu3 H4 v e3 s3 r3 P6 => P6 mu3 H4 v (Ext.refl _ _) s3 r3
    · exact fun env3 st3 mu3 H4 sg4 e3 s3 r3 P6 => P6 mu3 H4 sg4 (Ext.refl _ _) s3 r3
    · exact fun env3 st3 mu3 H4 sg4 e3 s3 r3 P6 => ⟨hlt, mu3, st3, env3, (E2.trans Ey).trans e3, s3, r3, P6⟩
  · have e : i = ds.length := by omega
    subst e
    rw [List.drop_length] at P2
    have P3 : PostS r En mu2 H2 (M.bd (chk gd) (fun _ => pure (.next, env2)) st2) := P2
    obtain ⟨hgd, P4⟩ := posts_chk P3
    exact .inl ⟨r1.stop mu2 st2 H2 E2 S2 hgd, P4 mu2 H2 sg2 (Ext.refl _ _) S2 RE2⟩⟩
theorem y_while {n : Nat} (hp : PassesOwn (model X.prog X.w) X.A X.env X.xe) (hc : PT X c (tT r (tst f))) (hb : PSs X body (tS r b1)) : PS X (.While c body [] pos) (tS r (whileL (fun env => do
    let x ← f env
    asB x) b1 n)) := PS.imp (ps_while hp hc hb) fun En sg H ⟨mu, st, env, S, RE, P⟩ => by
  refine ⟨fun m sg2 H2 => ∃ mu2 st2 env2, Sim r.K r.CA mu2 st2 H2 ∧ RelE r.K mu2 H2 env2 sg2 ∧ PostS r En mu2 H2 (whileL (tst f) b1 m env2 st2), ⟨n, mu, st, env, S, RE, P⟩, ?_⟩
  rintro m sg2 H2 ⟨mu2, st2, env2, S2, RE2, P2⟩
  cases m with
  | zero => exact P2.elim
  | succ m =>
    have P3 : PostS r En mu2 H2 (M.bd (tst f env2) (fun q => if q = true then M.bd (b1 env2) (fun q => match q.1 with
      | .ret v => pure (.ret v, q.2)
      | .brk => pure (.next, q.2)
      | _ => whileL (tst f) b1 m q.2) else pure (.next, env2)) st2) := P2
    refine ⟨mu2, st2, env2, S2, RE2, PostS.bd P3 fun d st3 _ mu3 H3 v e3 s3 r3 P4 => ?_⟩
    subst r3
    cases v with
    | true =>
      rw [if_pos rfl]
      refine ⟨fun sg4 H4 => ∃ mu4 st4 env4, Sim r.K r.CA mu4 st4 H4 ∧ RelE r.K mu4 H4 env4 sg4 ∧ PostS r En mu4 H4 (whileL (tst f) b1 m env4 st4), fun sg4 H4 q => ⟨m, Nat.lt_succ_self m, q⟩, mu3, st3, env2, s3, RE2.mono e3, PostS.seq P4 ?_ ?_ ?_ ?_⟩
      · exact fun env4 st4 mu4 H4 sg4 e4 s4 r4 P6 => ⟨mu4, st4, env4, s4, r4, P6⟩
      · exact fun d env4 st4 mu4 H4 v e4 s4 r4 P6 => P6 mu4 H4 v (Ext.refl _ _) s4 r4
      · exact fun env4 st4 mu4 H4 sg4 e4 s4 r4 P6 => P6 mu4 H4 sg4 (Ext.refl _ _) s4 r4
      · exact fun env4 st4 mu4 H4 sg4 e4 s4 r4 P6 => ⟨mu4, st4, env4, s4, r4, P6⟩
    | false =>
      rw [if_neg Bool.false_ne_true]
      exact P4 mu3 H3 sg2 (Ext.refl _ _) s3 (RE2.mono e3)

/-! ### comprehensions -/
theorem calm_cases {a : Type} (m : M a) (st : Sto) : (∃ v s, m st = .ok v s ∧ calmly m st = .ok v s) ∨ calmly m st = .err := by
  unfold calmly
  cases e : m st with
  | ok v s => exact .inl ⟨v, s, rfl, rfl⟩
  | exc _ _ => exact .inr rfl
  | err => exact .inr rfl
/-- a step of a block, in which nothing is raised; the wish is told from an elder state -/
theorem post_calm {r r' : Rc} {a b a2 b2 : Type} {R : List Addr → Hp → a → b → Prop} {R2 : List Addr → Hp → a2 → b2 → Prop} {mu mux : List Addr} {H Hx : Hp} {m : M a} {k : a → M a2} {s0 : Sto} {Q : b2 → Hp → Prop} {Q1 : b → Hp → Prop}
    (hK : r'.K = r.K) (hC : r'.CA = r.CA) (h : PostR r R2 mu H (M.bd (calmly m) k s0) Q)
    (hk : ∀ d st1, m s0 = .ok d st1 → ∀ mu1 H1 v1, Ext mux Hx mu1 H1 → Sim r.K r.CA mu1 st1 H1 → R mu1 H1 d v1 → PostR r R2 mu H (k d st1) Q → Q1 v1 H1) : PostR r' R mux Hx (m s0) Q1 := by
  rcases calm_cases m s0 with ⟨v, s, e1, e2⟩ | e
  · rw [e1]
    rw [bd_ok e2] at h
    exact fun mu1 H1 v1 E1 S1 R1 => hk v s e1 mu1 H1 v1 E1 (hK ▸ hC ▸ S1) R1 h
  · rw [bd_err e] at h
    exact h.elim
theorem wipe_in {sg : L2.St} {i : Nat} : ∀ {vs : List Nat}, i ∈ vs → (L2.wipe sg vs)[i]? = if i < sg.length then some none else none
  | v :: vs, h => by
    unfold L2.wipe
    by_cases e : v = i
    · subst e
      rw [List.getElem?_set, if_pos rfl, wipe_length]
    · rw [List.getElem?_set_ne e]
      rcases List.mem_cons.mp h with h | h
      · exact absurd h.symm e
      · exact wipe_in h
theorem wipe_wipe (sg : L2.St) (vs : List Nat) : L2.wipe (L2.wipe sg vs) vs = L2.wipe sg vs := by
  apply List.ext_getElem?
  intro i
  by_cases h : i ∈ vs
  · rw [wipe_in h, wipe_in h, wipe_length]
  · rw [wipe_out h]
/-- an object that is no cell is written -/
theorem Ext.side {mu mu' : List Addr} {H H' : Hp} {L : Addr} {o : HO} (e : Ext mu H mu' H') (n : H L = none) : Ext mu H mu' (upd H' L o) := by
  have ne : ∀ a u, H a = some u → a ≠ L := fun a u h q => by
    rw [q, n] at h
    cases h
  exact ⟨e.pre, fun a u h hm => by rw [upd_ne (ne a u h)]; exact e.keep a u h hm, fun a xs h => by rw [upd_ne (ne a _ h)]; exact e.tup a xs h, fun a u x h => by rw [upd_ne (ne a _ h)]; exact e.frz a u x h,
    fun a u h => by rw [upd_ne (ne a u h)]; exact e.dom a u h⟩
theorem Mon.side {mu : List Addr} {H : Hp} {L : Addr} {xs ys : List V} (h : H L = some (.lst xs)) : Mon mu H mu (upd H L (.lst ys)) :=
  ⟨fun _ _ q => q, fun a zs q => by rw [upd_ne (fun e => by rw [e, h] at q; cases q)]; exact q, fun a u x q => by rw [upd_ne (fun e => by rw [e, h] at q; cases q)]; exact q⟩
theorem Sim.side {K : PySem.W.Frag} {CA : ClsA} {mu : List Addr} {s0 : Sto} {H : Hp} {L : Addr} {xs ys : List V} (S : Sim K CA mu s0 H) (h : H L = some (.lst xs)) (n : L ∉ mu) : Sim K CA mu s0 (upd H L (.lst ys)) :=
  ⟨S.len, fun i c a h1 h2 => (S.cell i c a h1 h2).mono (Mon.side h) fun o ho _ => by rw [upd_ne (fun e => n (by rw [← e]; exact List.mem_of_getElem? h2))]; exact ho, S.nd⟩
theorem Ext.notin {mu mu' : List Addr} {H H' : Hp} {L : Addr} {o : HO} (e : Ext mu H mu' H') (n : L ∉ mu) (h : H L = some o) : L ∉ mu' := by
  obtain ⟨t, rfl, f⟩ := e.pre
  intro hm
  rcases List.mem_append.mp hm with hm | hm
  · exact n hm
  · rw [f L hm] at h
    cases h
theorem post_chk {a b : Type} {R : List Addr → Hp → a → b → Prop} {mu : List Addr} {H : Hp} {Q : b → Hp → Prop} {gd : Gd} {k : Unit → M a} {s0 : Sto} (h : PostR r R mu H (M.bd (chk gd) k s0) Q) : gd s0 = true ∧ PostR r R mu H (k () s0) Q := by
  cases q : gd s0 with
  | true =>
    rw [bd_ok (show chk gd s0 = .ok () s0 by unfold chk; rw [q]; rfl)] at h
    exact ⟨rfl, h⟩
  | false =>
    rw [bd_err (show chk gd s0 = .err by unfold chk; rw [q]; rfl)] at h
    exact h.elim
variable {elt : Expr} {ifs : List Expr} {scope : Scope} {own : List (Str × Nat)}
/-- the new list of a comprehension becomes a cell -/
theorem lc_imp {t : Tg} {w : Env → M (List D × Gd)} {ft : Env → M Bool} {fe : Env → M D} {r' : Rc} {vs : List Nat} (hK : r'.K = r.K) (hC : r'.CA = r.CA) (hv : vs = t.vars) : ∀ sg H Q, tE r (fun env => do
    let q ← w env
    let xs ← compL t (fun env => calmly (ft env)) (fun env => calmly (fe env)) q.2 (wipeE env t.vars) q.1 []
    newC (.lst xs)) sg H Q → tLc (tI r w) (tG r' t) (tT r' ft) (tE r' fe) vs sg H Q := by
  rintro sg H Q ⟨mu, st, env, S, RE, P⟩
  subst hv
  refine ⟨mu, st, env, S, RE, PostR.bd P fun q st1 _ mu1 H1 J e1 s1 r1 P1 => fun L nL => ?_⟩
  obtain ⟨ds, gd⟩ := q
  have W0 := RE.wipe t.vars
  have P1 : PostR r (fun mu H d v => RelD r.K mu H d v) mu1 H1 (M.bd (compL t (fun env => calmly (ft env)) (fun env => calmly (fe env)) gd (wipeE env t.vars) ds []) (fun xs => newC (.lst xs)) st1) Q := P1
  let Pv : Nat → Hp → Prop := fun i H2 => ∃ mu2 st2 acc av, Ext mu1 H1 mu2 H2 ∧ Sim r.K r.CA mu2 st2 H2 ∧ H2 L = some (.lst av) ∧ L ∉ mu2 ∧ RelDs r.K mu2 H2 acc av ∧
    PostR r (fun mu H d v => RelD r.K mu H d v) mu1 H1 (M.bd (compL t (fun env => calmly (ft env)) (fun env => calmly (fe env)) gd (wipeE env t.vars) (ds.drop i) acc) (fun xs => newC (.lst xs)) st2) Q
  refine ⟨fun i m H2 => m = ds.length - i ∧ i ≤ ds.length ∧ Pv i H2, ⟨ds.length, by simp, Nat.zero_le _, mu1, st1, [], [], Ext.fresh nL, s1.fresh nL, upd_same, s1.out nL, .nil, by
    simp only [List.drop_zero]
    exact P1⟩, ?_⟩
  rintro i m H2 ⟨rfl, hi, mu2, st2, acc, av, E2, S2, hL, nL2, Ra, P2⟩
  by_cases hlt : i < ds.length
  · rw [List.drop_eq_getElem_cons hlt] at P2
    have P3 : PostR r (fun mu H d v => RelD r.K mu H d v) mu1 H1 (M.bd (chk gd) (fun _ => M.bd (ofO (asgT t ds[i] (wipeE env t.vars))) fun env' => M.bd (calmly (ft env')) fun b => M.bd (if b = true then (do
        let v ← calmly (fe env')
        lenOk (acc.length + 1)
        compL t (fun env => calmly (ft env)) (fun env => calmly (fe env)) gd (wipeE env t.vars) (ds.drop (i + 1)) (acc ++ [v])) else compL t (fun env => calmly (ft env)) (fun env => calmly (fe env)) gd (wipeE env t.vars) (ds.drop (i + 1)) acc) (fun xs => newC (.lst xs))) st2) Q := by
      have e : ∀ s, M.bd (compL t (fun env => calmly (ft env)) (fun env => calmly (fe env)) gd (wipeE env t.vars) (ds[i] :: ds.drop (i + 1)) acc) (fun xs => newC (.lst xs)) s = M.bd (chk gd) (fun _ => M.bd (ofO (asgT t ds[i] (wipeE env t.vars))) fun env' => M.bd (calmly (ft env')) fun b => M.bd (if b = true then (do
        let v ← calmly (fe env')
        lenOk (acc.length + 1)
        compL t (fun env => calmly (ft env)) (fun env => calmly (fe env)) gd (wipeE env t.vars) (ds.drop (i + 1)) (acc ++ [v])) else compL t (fun env => calmly (ft env)) (fun env => calmly (fe env)) gd (wipeE env t.vars) (ds.drop (i + 1)) acc) (fun xs => newC (.lst xs))) s := by
        intro s
        show M.bd (M.bd (chk gd) fun _ => M.bd (ofO (asgT t ds[i] (wipeE env t.vars))) fun env' => M.bd (calmly (ft env')) fun b => if b = true then _ else _) _ s = _
        rw [bd_assoc]
        congr 1
        funext _ s
        rw [bd_assoc]
        congr 1
        funext env' s
        rw [bd_assoc]
      rw [← e]
      exact P2
    obtain ⟨hgd, P4⟩ := post_chk P3
    obtain ⟨env', h5, P5⟩ := post_ofO P4
    refine .inr ⟨r1.go mu2 st2 H2 i (E2) S2 hgd hlt, fun H3 => i + 1 ≤ ds.length ∧ Pv (i + 1) H3, fun H3 ⟨hi3, q⟩ => ⟨ds.length - (i + 1), by omega, rfl, hi3, q⟩, fun x H3 hy => ?_⟩
    obtain ⟨Ey, Sy, d, hd, rd⟩ := r1.yld i mu2 st2 H2 x H3 hlt E2 S2 hgd hy
    have ed : ds[i] = d := by
      rw [List.getElem?_eq_getElem hlt] at hd
      exact Option.some.inj hd
    rw [ed] at h5
    have W2 : RelE r.K mu2 H3 (wipeE env t.vars) (L2.wipe sg t.vars) := ((W0.mono e1).mono E2).mono Ey
    have hL3 : H3 L = some (.lst av) := Ey.keep L _ hL nL2
    refine ⟨mu2, st2, wipeE env t.vars, d, env', by rw [hK, hC]; exact Sy, by rw [hK]; exact W2, by rw [hK]; exact rd, h5, fun sg' RE' hw => ⟨by rw [hw t.vars fun i hi => hi, wipe_wipe], ?_⟩⟩
    rw [hK] at RE'
    refine ⟨mu2, st2, env', by rw [hK, hC]; exact Sy, by rw [hK]; exact RE', post_calm hK hC P5 fun q st3 _ mu3 H4 b E3 S3 hb P6 => ?_⟩
    subst hb
    have nL3 := E3.notin nL2 hL3
    have hL4 : H4 L = some (.lst av) := E3.keep L _ hL3 nL2
    cases b with
    | true =>
      rw [if_pos rfl]
      have P7 : PostR r (fun mu H d v => RelD r.K mu H d v) mu1 H1 (M.bd (calmly (fe env')) (fun v => M.bd (lenOk (acc.length + 1)) fun _ => M.bd (compL t (fun env => calmly (ft env)) (fun env => calmly (fe env)) gd (wipeE env t.vars) (ds.drop (i + 1)) (acc ++ [v])) (fun xs => newC (.lst xs))) st3) Q := by
        have e : M.bd (M.bd (calmly (fe env')) (fun v => M.bd (lenOk (acc.length + 1)) fun _ => compL t (fun env => calmly (ft env)) (fun env => calmly (fe env)) gd (wipeE env t.vars) (ds.drop (i + 1)) (acc ++ [v]))) (fun xs => newC (.lst xs)) st3 = M.bd (calmly (fe env')) (fun v => M.bd (lenOk (acc.length + 1)) fun _ => M.bd (compL t (fun env => calmly (ft env)) (fun env => calmly (fe env)) gd (wipeE env t.vars) (ds.drop (i + 1)) (acc ++ [v])) (fun xs => newC (.lst xs))) st3 := by
          rw [bd_assoc]
          congr 1
          funext v s
          rw [bd_assoc]
        rw [← e]
        exact P6
      refine ⟨mu3, st3, env', by rw [hK, hC]; exact S3, by rw [hK]; exact RE'.mono E3, post_calm hK hC P7 fun dv st4 _ mu4 H5 y E4 S4 hy4 P8 => ?_⟩
      rw [hK] at hy4
      obtain ⟨hlen, P9⟩ := post_len P8
      have nL4 := E4.notin nL3 hL4
      have hL5 : H5 L = some (.lst av) := E4.keep L _ hL4 nL3
      have Ra5 := ((Ra.mono Ey).mono E3).mono E4
      have hal := Ra5.length
      refine ⟨av, hL5, by omega, hlt, mu4, st4, acc ++ [dv], av ++ [y], (((E2.trans Ey).trans E3).trans E4).side nL, S4.side hL5 nL4, upd_same, nL4, ?_, P9⟩
      exact (Ra5.append (.cons hy4 .nil)).monM (Mon.side hL5)
    | false =>
      rw [if_neg Bool.false_ne_true]
      exact ⟨hlt, mu3, st3, acc, av, (E2.trans Ey).trans E3, S3, hL4, nL3, (Ra.mono Ey).mono E3, P6⟩
  · have e : i = ds.length := by omega
    subst e
    rw [List.drop_length] at P2
    have P3 : PostR r (fun mu H d v => RelD r.K mu H d v) mu1 H1 (M.bd (chk gd) (fun _ => newC (.lst acc)) st2) Q := by
      have e : M.bd (compL t (fun env => calmly (ft env)) (fun env => calmly (fe env)) gd (wipeE env t.vars) [] acc) (fun xs => newC (.lst xs)) st2 = M.bd (chk gd) (fun _ => newC (.lst acc)) st2 := by
        show M.bd (M.bd (chk gd) fun _ => pure acc) _ st2 = _
        rw [bd_assoc]
        rfl
      rw [← e]
      exact P2
    obtain ⟨hgd, P4⟩ := post_chk P3
    refine .inl ⟨r1.stop mu2 st2 H2 E2 S2 hgd, ?_⟩
    refine P4 (mu2 ++ [L]) H2 _ (E2.adopt nL) (S2.adopt nL2 ⟨av, hL, Ra.monM (Mon.snoc mu2 H2 L)⟩) (.ob ?_)
    rw [← S2.len, List.getElem?_append_right (Nat.le_refl _), Nat.sub_self]
    rfl
/-- the tests of a comprehension -/
theorem y_tnil : PTs X [] (tT r fun _ => pure true) := ⟨fun pins s sg H Q I ⟨mu, st, env, S, RE, P⟩ => pts_nil.run pins s sg H Q I (P mu H true (Ext.refl _ _) S rfl)⟩
theorem y_tone (h : PT X c (tT r (tst f))) : PTs X [c] (tT r fun env => do
    let x ← f env
    let b ← asB x
    if b then pure true else pure false) := by
  have e : (fun env => (do
    let x ← f env
    let b ← asB x
    if b then pure true else pure false : M Bool)) = tst f := by
    funext env st
    show M.bd (f env) (fun x => M.bd (asB x) fun b => if b = true then pure true else pure false) st = M.bd (f env) asB st
    congr 1
    funext x s
    have : (fun b : Bool => (if b = true then pure true else pure false : M Bool)) = fun b => pure b := by
      funext b
      cases b <;> rfl
    rw [this]
    unfold M.bd
    cases asB x s <;> rfl
  rw [e]
  exact pts_one h
end
end Y

/-! repr of a list, of a tuple. -/
namespace Y
open PySem PySem.Spec PyProof.Rows L2
def rRepr (K : PySem.W.Frag) : List V → Hp → VK → Prop := fun xs H Q => ∃ (a : Addr) (d : PyData), xs = [.ref a] ∧ Dp K H (.ref a) d ∧ d.layable0 = true ∧ d.showable = true ∧ d.intsShort 13 = true ∧ Q (.str d.shown) H
section
variable {X : Cx} {r : Rc}
theorem cr_repr (hg : X.A.guards = some []) (hu : X.A.units + 65 < cLine) : CallR X (.builtin "repr") (rRepr X.K) := by
  intro pins s sg H xs us Q I rv h
  obtain ⟨a, d, rfl, hd, hl, hs, hi, q⟩ := h
  obtain ⟨u, rfl, rx⟩ := vals1 rv
  cases rx
  obtain ⟨as, rd⟩ := Dp.reads I d _ _ hd rfl
  have hdep : d.depth ≤ 64 := by
    have h1 : (PyData.canLay0 d && decide (PyData.depth d ≤ 64) && decide (PyData.weight d ≤ 2 ^ 20)) = true := hl
    simp only [Bool.and_eq_true, decide_eq_true_eq] at h1
    exact h1.1.2
  have hlen := shown_le13 hl hi
  exact repr_of_reads' rd hs (PyData.noDict_hsm (PyData.hasDict_of_layable hl)) hg (by omega) (fun _ _ e => e) (fun h' u tk hk => ⟨.str d.shown, H, I.kept hk, ⟨_, rfl⟩, q⟩) (by rw [sizeLine_eq]; omega)
theorem dp_of {K : PySem.W.Frag} {CA : ClsA} {mu : List Addr} {st : Sto} {H : Hp} (S : Sim K CA mu st H) : ∀ (n : Nat) {d : D} {v : V} {p : PyData}, RelD K mu H d v → deepPy n st d = some p → Dp K H v p
  | 0, d, v, p, _, h => by cases h
  | n + 1, d, v, p, hr, h => by
    have all : ∀ {ds : List D} {vs : List V} {ps : List PyData}, RelDs K mu H ds vs → mapO (deepPy n st) ds = some ps → DpAll K H vs ps := by
      intro ds
      induction ds with
      | nil =>
        intro vs ps hr h
        cases hr
        cases h
        exact .nil
      | cons d ds ih =>
        intro vs ps hr h
        cases hr with
        | cons h1 h2 =>
          simp only [mapO, Option.bind_eq_some_iff] at h
          obtain ⟨y, e1, ys, e2, e3⟩ := h
          cases e3
          exact .cons (dp_of S n h1 e1) (ih h2 e2)
    cases hr with
    | non =>
      cases h
      exact .non
    | bl b =>
      cases h
      exact .bl b
    | int i =>
      cases h
      exact .int i
    | str x =>
      cases h
      exact .str x
    | tup ht hr =>
      rename_i a xs ds
      have h : (mapO (deepPy n st) ds).bind (fun ps => some (PyData.tuple ps)) = some p := h
      simp only [Option.bind_eq_some_iff] at h
      obtain ⟨ps, e1, e2⟩ := h
      cases e2
      exact .tup (SqT.of ht) (all hr e1)
    | ob ha =>
      rename_i k a
      have h : (match st[k]? with
        | some (.lst ds) => (mapO (deepPy n st) ds).bind fun ps => some (PyData.list ps)
        | _ => none) = some p := h
      split at h
      · rename_i ds hk
        simp only [Option.bind_eq_some_iff] at h
        obtain ⟨ps, e1, e2⟩ := h
        cases e2
        obtain ⟨xs, q1, q2⟩ := S.seq hk ha
        exact .lst q1 (all q2 e1)
      · cases h
    | ro _ _ => cases h
theorem bs_repr : BiS r (biop .repr) (rRepr r.K) := by
  intro mu st H es xs Q S hes P
  have P0 : ∀ d, es = [d] → PostR r (fun mu H d v => RelD r.K mu H d v) mu H (match reprOf st d with
    | some z => .ok (.str z) st
    | none => .err) Q := by
    rintro d rfl
    exact P
  cases hes with
  | nil => exact P.elim
  | @cons d v _ _ h1 ht =>
    cases ht with
    | cons _ _ => exact P.elim
    | nil =>
      have P1 := P0 d rfl
      cases q : reprOf st d with
      | none =>
        rw [q] at P1
        exact P1.elim
      | some z =>
        rw [q] at P1
        unfold reprOf at q
        split at q
        · rename_i hrf
          simp only [Option.bind_eq_some_iff] at q
          obtain ⟨p, hp, q⟩ := q
          split at q
          · rename_i hc
            rw [Bool.and_eq_true_iff, Bool.and_eq_true_iff] at hc
            cases q
            have dp := dp_of S 20 h1 hp
            have fin := P1 mu H _ (Ext.refl _ _) S (.str p.shown)
            cases h1 with
            | tup _ _ => exact ⟨_, p, rfl, dp, hc.1.1, hc.1.2, hc.2, fin⟩
            | ob _ => exact ⟨_, p, rfl, dp, hc.1.1, hc.1.2, hc.2, fin⟩
            | _ => cases hrf
          · cases q
        · cases q
end
end Y

/-! From the program's expressions to the evaluator's, with the proof that they go together. -/
namespace Y
open PySem PySem.Spec L2

structure Tc where
  N : List Str
  sc : Scope
  fnA : Bool
  fnL : List (Str × NameKind)
  fns : List (Str × Nat × Nat)
  glbs : List (Str × Nat)
def Tc.sto (T : Tc) (x : Str) : Bool := T.fnA || decide (T.fnL.lookup x = some .cell) || decide (T.sc.names.lookup x = some .local)
def Tc.slot (T : Tc) (x : Str) : Option Nat := match T.N.findIdx? (fun y => decide (y = x)) with
  | some k => if T.N[k]? = some x then some k else none
  | none => none
def Tc.isG (T : Tc) (x : Str) : Bool := decide (T.sc.names.lookup x = some .globalImplicit)
def Tc.loc (T : Tc) (x : Str) : Bool := decide (T.sc.names.lookup x = some .local) || decide (T.sc.names.lookup x = some .cell)
def Tc.vis (T : Tc) (x : Str) : Bool := T.loc x || decide (T.sc.names.lookup x = some .free)
def Tc.blk (T : Tc) (scope : Scope) : Tc := { T with sc := relS scope T.sc, fnA := false, fnL := scope.names }
def freeN : List Str := ["range", "zip", "enumerate", "len", "max", "min", "sum", "all", "int", "tuple", "list", "repr", "isinstance", "bool", "str", "dict", "set", "sorted"]
theorem slot_ok {T : Tc} {x : Str} {k : Nat} (h : T.slot x = some k) : T.N[k]? = some x := by
  unfold Tc.slot at h
  split at h
  · split at h
    · rename_i h2
      cases h
      exact h2
    · cases h
  · cases h
def whn {a : Type} (c : Bool) (o : Option a) : Option a := if c then o else none
theorem whn_eq {a : Type} {c : Bool} {o : Option a} {x : a} : whn c o = some x ↔ c = true ∧ o = some x := by
  unfold whn
  cases c <;> simp
def trL {a b : Type} (f : a → Option b) : List a → Option (List b)
  | [] => some []
  | e :: es => (f e).bind fun y => (trL f es).bind fun ys => some (y :: ys)
def trName (T : Tc) (x : Str) : Option E := whn (!(x == ("__debug__" : Str)) && !(x == ("__classdict__" : Str)))
  (if T.vis x then (T.slot x).bind fun i => some (.var i) else whn (T.isG x) ((T.glbs.lookup x).bind fun k => some (.glb k)))
def trC : Const → Option E
  | .none => some (.cst .non)
  | .bool b => some (.cst (.bl b))
  | .int i => some (.cst (.int i))
  | .str x => some (.cst (.str x))
  | _ => none
def opT : Operator → Option BinO
  | .Add => some .add
  | .Sub => some .sub
  | .Mult => some .mul
  | .Mod => some .mod
  | .Pow => some .pow
  | .FloorDiv => some .fdv
  | _ => none
def cmpT : CmpOp → Option CmpO
  | .Eq => some .eq
  | .NotEq => some .ne
  | .Lt => some .lt
  | .LtE => some .le
  | .Gt => some .gt
  | .GtE => some .ge
  | .In => some .inn
  | .NotIn => some .nin
  | .Is => some .is
  | .IsNot => some .isnot
def trB (f : Expr → Option E) (op : BoolOp) : List Expr → Option E
  | [] => none
  | [a] => f a
  | a :: b :: rest => (f a).bind fun x => (trB f op (b :: rest)).bind fun y => some (match op with
    | .And => .and x y
    | .Or => .or x y)
def biT : List (Str × Bi) := [("len", .len), ("max", .max), ("min", .min), ("sum", .sum), ("all", .all), ("int", .int), ("tuple", .tuple), ("list", .list), ("repr", .repr)]
def tyT : List (Str × Ty) := [("int", .int), ("bool", .bool), ("str", .str), ("tuple", .tuple), ("list", .list)]
def mtT : List (Str × Mt) := [("append", .append), ("extend", .extend), ("index", .index), ("upper", .upper), ("join", .join)]
def trTy (T : Tc) : Expr → Option Ty
  | .Name x _ => whn (T.isG x) (tyT.lookup x)
  | _ => none
def plainBase : Expr → Bool
  | .Call _ _ _ _ => false
  | _ => true
def isTup2 : Expr → Bool
  | .Tuple _ _ _ => true
  | _ => false
def trG : Nat → Tc → Expr → Option Tg
  | 0, _, _ => none
  | n + 1, T, e => match e with
    | .Name x _ => whn (T.loc x && T.sto x) ((T.slot x).bind fun i => some (.nm i))
    | .Tuple es _ _ => (trL (trG n T) es).bind fun ts => some (.tp ts)
    | _ => none
def trI (f : Expr → Option E) (T : Tc) (tg it : Expr) : Option (Ik × List E) := match it with
  | .Call (.Name x p) as [] pos => whn (T.isG x) (
    if x = ("range" : Str) then (match as with
      | [a] => (f a).bind fun y => some (.rng1, [y])
      | [a, b] => (f a).bind fun y => (f b).bind fun z => some (.rng2, [y, z])
      | _ => none)
    else if x = ("zip" : Str) then (match as with
      | [a, b] => whn (isTup2 tg) ((f a).bind fun y => (f b).bind fun z => some (.zip, [y, z]))
      | _ => none)
    else if x = ("enumerate" : Str) then (match as with
      | [a] => whn (isTup2 tg) ((f a).bind fun y => some (.enum, [y]))
      | _ => none)
    else (f it).bind fun y => some (.seq, [y]))
  | .Set _ _ _ => none
  | _ => (f it).bind fun y => some (.seq, [y])
def ownOf (N : List Str) (t : Tg) : List (Str × Nat) := t.vars.map fun i => ((N[i]?).getD "", i)
def trComp (f : Tc → Expr → Option E) (T : Tc) (elt tg iter : Expr) (ifs : List Expr) (scope : Scope) : Option E :=
  (trI (f T) T tg iter).bind fun w => (trG 8 (T.blk scope) tg).bind fun t => (trL (f (T.blk scope)) ifs).bind fun fs => (f (T.blk scope) elt).bind fun y =>
    whn (blkC T.N T.sc scope (ownOf T.N t) && decide (ifs.length ≤ 1)) (some (.comp y t w.1 w.2 fs))
def trCall (f : Expr → Option E) (T : Tc) (g : Expr) (as : List Expr) (pos : Pos) : Option E := match g with
  | .Name x _ => whn (T.isG x && !(x == ("__debug__" : Str)) && !as.isEmpty) (match T.fns.lookup x with
    | some q => whn (decide (as.length = q.2)) ((trL f as).bind fun ys => some (.call q.1 ys))
    | none => if x = ("isinstance" : Str) then (match as with
        | [e, .Tuple es _ _] => (f e).bind fun y => (trL (trTy T) es).bind fun ts => whn (decide (ts.length ≤ 1000)) (some (.isi y ts))
        | [e, .Name xT p] => (f e).bind fun y => (trTy T (.Name xT p)).bind fun t => some (.isi y [t])
        | _ => none)
      else (biT.lookup x).bind fun b => (trL f as).bind fun ys => some (.bi b ys))
  | .Attribute o m apos => whn ((apos.endLine == pos.line) && plainBase o && decide (as.length < 20)) ((mtT.lookup m).bind fun mm => (f o).bind fun y => (trL f as).bind fun ys => some (.mt mm y ys))
  | _ => none
def trOpt (f : Expr → Option E) : Option Expr → Option (Option E)
  | none => some none
  | some e => (f e).bind fun y => some (some y)
def trE1 (f : Tc → Expr → Option E) (T : Tc) (e : Expr) : Option E := match e with
  | .Name x _ => trName T x
  | .Constant c _ _ => trC c
  | .BinOp a o b _ => (opT o).bind fun o => (f T a).bind fun x => (f T b).bind fun y => some (.bin o x y)
  | .UnaryOp .USub a _ => (f T a).bind fun x => some (.neg x)
  | .UnaryOp .Not a _ => (f T a).bind fun x => some (.not x)
  | .Compare a [op] [b] _ => whn (!behindInMarks op b) ((cmpT op).bind fun o => (f T a).bind fun x => (f T b).bind fun y => some (.cmp o x y))
  | .Compare a [op, op'] [b, c] _ => whn (!behindInMarks op' c) ((cmpT op).bind fun o => (cmpT op').bind fun o' => (f T a).bind fun x => (f T b).bind fun y => (f T c).bind fun z => some (.chain o o' x y z))
  | .BoolOp op es _ => trB (f T) op es
  | .IfExp c a b _ => (f T c).bind fun x => (f T a).bind fun y => (f T b).bind fun z => some (.ite x y z)
  | .Call g as [] pos => trCall (f T) T g as pos
  | .Subscript a (.Slice lo hi none _) _ => (f T a).bind fun x => (trOpt (f T) lo).bind fun l => (trOpt (f T) hi).bind fun h => some (.sli x l h)
  | .Subscript a b _ => whn (plainIx b) ((f T a).bind fun x => (f T b).bind fun y => some (.sub x y))
  | .List es _ => whn (decide (es.length ≤ 1000)) ((trL (f T) es).bind fun ys => some (.lst ys))
  | .Tuple es _ _ => whn (decide (es.length ≤ 1000)) ((trL (f T) es).bind fun ys => some (.tup ys))
  | .Dict [] [] _ => some .dct0
  | .ListComp elt [⟨tg, iter, ifs, 0⟩] scope _ => trComp f T elt tg iter ifs scope
  | _ => none
def trE : Nat → Tc → Expr → Option E
  | 0, _, _ => none
  | n + 1, T, e => trE1 (trE n) T e

/-! ### statements -/
def isComp : Expr → Bool
  | .ListComp _ _ _ _ => true
  | .SetComp _ _ _ _ => true
  | .DictComp _ _ _ _ _ => true
  | _ => false
def trAsg (f : Tc → Expr → Option E) (T : Tc) (tg e : Expr) (pos : Pos) : Option S := match tg with
  | .Name x p2 => whn (T.loc x && T.sto x) ((T.slot x).bind fun i => match e with
    | .ListComp elt [⟨tg1, it, ifs, 0⟩] scope p => whn (if T.sc.names.lookup x = some .local then (p2.line == p.line) && !(scope.names.any fun y => y.1 == x && (y.2 == .local || y.2 == .cell)) else true)
        ((trComp f T elt tg1 it ifs scope).bind fun y => some (.asg (.nm i) y))
    | _ => whn (!isComp e) ((f T e).bind fun y => some (.asg (.nm i) y)))
  | .Tuple [.Name x px, .Name y py] kt pt => (match e with
    | .Tuple [a, b] k2 pt2 => whn (decide (T.sc.names.lookup x = some .local) && decide (T.sc.names.lookup y = some .local) && decide (x ≠ y) && (py.line == px.line) && !([a, b].all (foldedForSure 8)) && !([a, b].all (constantsAlone 8)))
        ((T.slot x).bind fun i => (T.slot y).bind fun j => (f T a).bind fun p => (f T b).bind fun q => whn (decide (i ≠ j)) (some (.asg (.tp [.nm i, .nm j]) (.tup [p, q]))))
    | _ => whn (!isComp e && !isTup2 e) ((trG 8 T tg).bind fun t => (f T e).bind fun y => some (.asg t y)))
  | .Tuple es _ _ => whn (!isComp e && !isTup2 e) ((trG 8 T tg).bind fun t => (f T e).bind fun y => some (.asg t y))
  | .Subscript o i _ => whn (!isComp e && plainIx i) ((f T e).bind fun v => (f T o).bind fun x => (f T i).bind fun y => some (.setI x y v))
  | _ => none
def trS1 (f : Tc → Expr → Option E) (g : Tc → Stmt → Option S) (T : Tc) (s : Stmt) : Option S := match s with
  | .Pass _ => some .pass
  | .Break _ => some .brk
  | .Continue _ => some .cont
  | .Raise _ _ _ => some .never
  | .Expr (.Constant (.str _) _ _) _ => some .pass
  | .Expr e _ => whn (!isComp e) ((f T e).bind fun y => some (.expr y))
  | .Return (some e) _ => (f T e).bind fun y => some (.ret y)
  | .If c a b _ => (f T c).bind fun x => (trL (g T) a).bind fun p => (trL (g T) b).bind fun q => some (.ite x p q)
  | .Assign [tg] e pos => trAsg f T tg e pos
  | .For tg it body [] _ => (trI (f T) T tg it).bind fun w => (trG 8 T tg).bind fun t => (trL (g T) body).bind fun b => some (.for_ t w.1 w.2 b)
  | .While c body [] _ => (f T c).bind fun x => (trL (g T) body).bind fun b => some (.while_ x b)
  | _ => none
def trS (m : Nat) : Nat → Tc → Stmt → Option S
  | 0, _, _ => none
  | n + 1, T, s => trS1 (trE m) (trS m n) T s
end Y

namespace Y
open PySem PySem.Spec L2

/-- a def that is called -/
structure CallOk (CX : CXT) (X : Cx) (CA : ClsA) (F : List D → M D) (np : Nat) (x : Str) (k : Nat) (fa : Addr) (fd : FuncData) (ps : List Str) : Prop where
  len : ps.length = np
  fn : FnY X.prog X.w X.K X.mg X.base CX k fa fd ps (spY X.K CA np F)
  room : Room k X.A
  mg : X.mg x = some (.ref fa)
  keep : PySem.W.keepIn X.K (.ref fa) = true
  binds : Binds X.K fd ps []
  err : ∀ ds st, ds.length ≠ np → F ds st = .err
structure Cok (CX : CXT) (T : Tc) (r : Rc) (G : Ctx) (X : Cx) : Prop where
  hN : X.N = T.N
  nd : T.N.Nodup
  sc : X.env.scope = T.sc
  kind : T.sc.kind = .function
  fnA : T.fnA = true → ∀ x, X.fn x = true
  fnL : ∀ x, T.fnL.lookup x = some .cell → X.fn x = true
  calm : X.calm = true
  K : r.K = X.K
  hu : X.A.units + 65 < cLine
  gd : X.A.guards = some []
  own : PassesOwn (model X.prog X.w) X.A X.env X.xe
  pass : Passes CX X r.EX
  passB : ∀ X', Passes CX X' fun _ _ _ => False
  call : ∀ x q, T.fns.lookup x = some q → ∃ k fa fd ps, CallOk CX X r.CA (G.call q.1) q.2 x k fa fd ps
  glb : ∀ x k, T.glbs.lookup x = some k → ∃ v u d, X.mg x = some u ∧ RelV v u ∧ G.glb k = some d ∧ ∀ mu H, RelD r.K mu H d v
  free : ∀ x ∈ freeN, X.mg x = none
section
variable {CX : CXT} {T : Tc} {r : Rc} {G : Ctx} {X : Cx}
theorem Cok.gl (C : Cok CX T r G X) {x : Str} (h : T.isG x = true) : Gl X x := by
  show X.env.kindOf x = _
  unfold PySem.Env.kindOf
  rw [C.sc]
  exact of_decide_eq_true h
theorem Cok.lc (C : Cok CX T r G X) {x : Str} (h : T.loc x = true) : L2.Loc X.env.scope x := by
  unfold L2.Loc
  rw [C.sc]
  unfold Tc.loc at h
  rw [Bool.or_eq_true_iff] at h
  exact h.imp of_decide_eq_true of_decide_eq_true
theorem Cok.vs (C : Cok CX T r G X) {x : Str} (h : T.vis x = true) : Vis X.env.scope x := by
  unfold Vis
  rw [C.sc]
  unfold Tc.vis Tc.loc at h
  rw [Bool.or_eq_true_iff, Bool.or_eq_true_iff] at h
  rcases h with (h | h) | h
  · exact .inl (of_decide_eq_true h)
  · exact .inr (.inl (of_decide_eq_true h))
  · exact .inr (.inr (of_decide_eq_true h))
theorem Cok.st (C : Cok CX T r G X) {x : Str} (h : T.sto x = true) : X.fn x = true ∨ X.env.scope.names.lookup x = some .local := by
  unfold Tc.sto at h
  rw [Bool.or_eq_true_iff, Bool.or_eq_true_iff] at h
  rcases h with (h | h) | h
  · exact .inl (C.fnA h x)
  · exact .inl (C.fnL x (of_decide_eq_true h))
  · refine .inr ?_
    rw [C.sc]
    exact of_decide_eq_true h
theorem Cok.sl (C : Cok CX T r G X) {x : Str} {k : Nat} (h : T.slot x = some k) : X.N[k]? = some x := by
  rw [C.hN]
  exact slot_ok h
theorem Cok.ndX (C : Cok CX T r G X) : X.N.Nodup := by
  rw [C.hN]
  exact C.nd
theorem Cok.u1 (C : Cok CX T r G X) : X.A.units + 1 < cLine := by have := C.hu; omega
theorem Cok.u64 (C : Cok CX T r G X) : X.A.units + 64 < cLine := by have := C.hu; omega
/-- in a comprehension -/
theorem Cok.blk (C : Cok CX T r G X) {scope : Scope} (hk : scope.kind = .function) (s : Shared) (H : Hp) (Cc : Addr) (cl : List (Str × Addr)) (fp : List Addr) :
    Cok CX (T.blk scope) ⟨r.K, r.CA, fun _ _ _ => False⟩ G (X.blk s H scope (compEnvC scope cl Cc X.env) fp) where
  hN := C.hN
  nd := C.nd
  sc := by
    show relabel scope X.env = relS scope T.sc
    rw [← C.sc]
    rfl
  kind := hk
  fnA := fun h => by cases h
  fnL := fun x h => by
    show (scope.names.lookup x == some NameKind.cell) = true
    rw [show scope.names.lookup x = some .cell from h]
    rfl
  calm := C.calm
  K := C.K
  hu := C.hu
  gd := C.gd
  own := PassesOwn.never
  pass := C.passB _
  passB := C.passB
  call := fun x q h => by
    obtain ⟨k, fa, fd, ps, O⟩ := C.call x q h
    exact ⟨k, fa, fd, ps, O.len, O.fn, O.room, O.mg, O.keep, O.binds, O.err⟩
  glb := C.glb
  free := C.free

/-! ### expressions -/
def Snd (CX : CXT) (f : Tc → Expr → Option E) : Prop := ∀ (T : Tc) (r : Rc) (G : Ctx) (X : Cx), Cok CX T r G X → ∀ e y, f T e = some y → PE X e (tE r (evE G y)) ∧ PT X e (tT r (tst (evE G y)))
theorem trE1_nostar {f : Tc → Expr → Option E} {e : Expr} {y : E} (h : trE1 f T e = some y) : noStar e = true := by
  cases e <;> first | rfl | cases h
theorem trL_len {a b : Type} {f : a → Option b} : ∀ {es : List a} {ys : List b}, trL f es = some ys → ys.length = es.length
  | [], ys, h => by cases h; rfl
  | e :: es, ys, h => by
    simp only [trL, Option.bind_eq_some_iff] at h
    obtain ⟨y, _, zs, h2, h3⟩ := h
    cases h3
    rw [List.length_cons, List.length_cons, trL_len h2]
variable {f : Tc → Expr → Option E}
def NS (f : Tc → Expr → Option E) : Prop := ∀ (T : Tc) e y, f T e = some y → noStar e = true
theorem trL_star (hn : NS f) : ∀ {es : List Expr} {ys : List E}, trL (f T) es = some ys → es.all noStar = true
  | [], ys, h => rfl
  | e :: es, ys, h => by
    simp only [trL, Option.bind_eq_some_iff] at h
    obtain ⟨y, h1, zs, h2, h3⟩ := h
    rw [List.all_cons, hn T e y h1, trL_star hn h2]
    rfl
theorem evEs_len : ∀ (ys : List E) (env : Env) (st : Sto) (vs : List D) (st' : Sto), evEs G ys env st = .ok vs st' → vs.length = ys.length
  | [], env, st, vs, st', h => by
    rw [evEs] at h
    cases h
    rfl
  | y :: ys, env, st, vs, st', h => by
    rw [evEs] at h
    have h : M.bd (evE G y env) (fun x => M.bd (evEs G ys env) fun xs => pure (x :: xs)) st = .ok vs st' := h
    cases q : evE G y env st with
    | ok x s1 =>
      rw [bd_ok q] at h
      cases q2 : evEs G ys env s1 with
      | ok xs s2 =>
        rw [bd_ok q2] at h
        have h3 := evEs_len ys env s1 xs s2 q2
        cases h
        rw [List.length_cons, List.length_cons, h3]
      | err =>
        rw [bd_err q2] at h
        cases h
      | exc _ _ =>
        rw [bd_exc q2] at h
        cases h
    | err =>
      rw [bd_err q] at h
      cases h
    | exc _ _ =>
      rw [bd_exc q] at h
      cases h
theorem pa_of (C : Cok CX T r G X) (hf : Snd CX f) (hn : NS f) : ∀ {es : List Expr} {ys : List E}, trL (f T) es = some ys → PA X es (tEs r (evEs G ys))
  | [], ys, h => by
    cases h
    rw [show evEs G [] = fun _ => pure [] from funext fun env => by rw [evEs]]
    exact y_anil
  | e :: es, ys, h => by
    simp only [trL, Option.bind_eq_some_iff] at h
    obtain ⟨y, h1, zs, h2, h3⟩ := h
    cases h3
    rw [show evEs G (y :: zs) = fun env => (do
      let x ← evE G y env
      let xs ← evEs G zs env
      pure (x :: xs)) from funext fun env => by rw [evEs]]
    exact y_acons (hf T r G X C e y h1).1 (pa_of C hf hn h2) (hn T e y h1)
theorem both {e : Expr} {g : Env → M D} (h : PE X e (tE r g)) (he : ∀ whole, isTrue e X.env whole = (do let v ← whole; standAt e.pos; holding [v] (truthy v))) : PE X e (tE r g) ∧ PT X e (tT r (tst g)) := ⟨h, pt_of h he⟩
theorem name_ok (C : Cok CX T r G X) {x : Str} {p : Pos} {y : E} (h : trName T x = some y) : PE X (.Name x p) (tE r (evE G y)) := by
  unfold trName at h
  rw [whn_eq, Bool.and_eq_true_iff] at h
  obtain ⟨⟨h1, h2⟩, h⟩ := h
  have h1 : (x == ("__debug__" : Str)) = false := by simpa using h1
  have h2 : (x == ("__classdict__" : Str)) = false := by simpa using h2
  split at h
  · rename_i hv
    simp only [Option.bind_eq_some_iff] at h
    obtain ⟨i, h3, h4⟩ := h
    cases h4
    rw [show evE G (.var i) = fun env => ofO (env[i]?.bind id) from funext fun env => by rw [evE]]
    exact y_var (C.sl h3) (C.vs hv) h1 h2
  · rw [whn_eq] at h
    obtain ⟨hg, h⟩ := h
    simp only [Option.bind_eq_some_iff] at h
    obtain ⟨k, h3, h4⟩ := h
    cases h4
    obtain ⟨v, u, d, h5, h6, h7, h8⟩ := C.glb x k h3
    rw [show evE G (.glb k) = fun env => ofO (G.glb k) from funext fun env => by rw [evE]]
    exact y_glb (pe_glob (C.gl hg) h5 h6 h1) h7 h8
theorem const_ok {c : Const} {k : Nat} {p : Pos} {y : E} (h : trC c = some y) : PE X (.Constant c k p) (tE r (evE G y)) := by
  have e : ∀ d, evE G (.cst d) = fun env => pure d := fun d => funext fun env => by rw [evE]
  cases c <;> cases h <;> rw [e]
  · exact y_c pe_non fun _ _ => .non
  · exact y_c pe_bl fun _ _ => .bl _
  · exact y_c pe_int fun _ _ => .int _
  · exact y_c pe_str fun _ _ => .str _
theorem bin_ok (C : Cok CX T r G X) {o : Operator} {o' : BinO} {a b : Expr} {p : Pos} {g h : Env → M D} (ho : opT o = some o') (ha : PE X a (tE r g)) (hb : PE X b (tE r h)) : PE X (.BinOp a o b p) (tE r fun env => do
    let x ← g env
    let y ← h env
    binop o' x y) := by
  have k := C.K
  cases o <;> cases ho
  · exact y_bin or_addY (k ▸ os_add) ha hb
  · exact y_bin op_sub os_sub ha hb
  · exact y_bin op_mul os_mul ha hb
  · exact y_bin op_mod os_mod ha hb
  · exact y_bin op_pow os_pow ha hb
  · exact y_bin op_fdiv os_fdv ha hb
theorem cmp_rule (C : Cok CX T r G X) {o : CmpOp} {o' : CmpO} (ho : cmpT o = some o') : ∃ rr, OpR X (compareOp o) rr ∧ OpS r (cmpD o') rr := by
  have k := C.K
  have hu := C.hu
  cases o <;> cases ho
  · exact ⟨_, op_eq.or (op_eqD C.u64), k ▸ os_eq⟩
  · exact ⟨_, op_ne.or (op_neD C.u64), k ▸ os_ne⟩
  · exact ⟨_, op_lt.or (op_ltT (by omega)), k ▸ os_lt⟩
  · exact ⟨_, op_le, os_le⟩
  · exact ⟨_, op_gt, os_gt⟩
  · exact ⟨_, op_ge, os_ge⟩
  · exact ⟨_, or_is, os_is⟩
  · exact ⟨_, or_isnot, os_isnot⟩
  · exact ⟨_, or_in C.hu, k ▸ os_in⟩
  · exact ⟨_, or_nin C.hu, k ▸ os_nin⟩
end
end Y

namespace Y
open PySem PySem.Spec L2
section
variable {CX : CXT} {T : Tc} {r : Rc} {G : Ctx} {X : Cx} {f : Tc → Expr → Option E}
theorem ev_cmp (o : CmpO) (a b : E) : evE G (.cmp o a b) = fun env => (do
    let x ← evE G a env
    let y ← evE G b env
    cmpD o x y) := funext fun env => by
  rw [evE]
  rfl
theorem ev_chain (o p : CmpO) (a b c : E) : evE G (.chain o p a b c) = chainF o p (evE G a) (evE G b) (evE G c) := funext fun env => by
  rw [evE]
  rfl
theorem ev_and (a b : E) : evE G (.and a b) = andF (evE G a) (evE G b) := funext fun env => by
  rw [evE]
  rfl
theorem ev_or (a b : E) : evE G (.or a b) = orF (evE G a) (evE G b) := funext fun env => by
  rw [evE]
  rfl
theorem ev_not (a : E) : evE G (.not a) = notF (evE G a) := funext fun env => by
  rw [evE]
  rfl
theorem ev_ite (a b c : E) : evE G (.ite a b c) = iteF (evE G a) (evE G b) (evE G c) := funext fun env => by
  rw [evE]
  rfl
theorem ev_bin (o : BinO) (a b : E) : evE G (.bin o a b) = fun env => (do
    let x ← evE G a env
    let y ← evE G b env
    binop o x y) := funext fun env => by rw [evE]
theorem ev_neg (a : E) : evE G (.neg a) = fun env => (do
    let x ← evE G a env
    negop x) := funext fun env => by rw [evE]
theorem ev_sub (a b : E) : evE G (.sub a b) = fun env => (do
    let x ← evE G a env
    let y ← evE G b env
    subop x y) := funext fun env => by rw [evE]
theorem ev_bi (b : Bi) (as : List E) : evE G (.bi b as) = fun env => (do
    let ys ← evEs G as env
    biop b ys) := funext fun env => by rw [evE]
theorem ev_call (k : Nat) (as : List E) : evE G (.call k as) = fun env => (do
    let ys ← evEs G as env
    G.call k ys) := funext fun env => by rw [evE]
theorem ev_mt (m : Mt) (o : E) (as : List E) : evE G (.mt m o as) = fun env => (do
    let x ← evE G o env
    mtTy m x
    let ys ← evEs G as env
    mtop m x ys) := funext fun env => by rw [evE]
theorem ev_isi (a : E) (ts : List Ty) : evE G (.isi a ts) = fun env => (do
    let x ← evE G a env
    let c ← isiop ts x
    pure (.bl c)) := funext fun env => by rw [evE]
theorem ev_tup (as : List E) : evE G (.tup as) = fun env => (do
    let ys ← evEs G as env
    pure (.tup ys)) := funext fun env => by rw [evE]
theorem ev_lst (as : List E) : evE G (.lst as) = fun env => (do
    let ys ← evEs G as env
    newC (.lst ys)) := funext fun env => by rw [evE]
theorem ev_sli (a : E) (l h : Option E) : evE G (.sli a l h) = fun env => (do
    let x ← evE G a env
    let l ← evO G l env
    let h ← evO G h env
    sliop x l h) := funext fun env => by rw [evE]
theorem ev_comp (el : E) (t : Tg) (k : Ik) (is fs : List E) : evE G (.comp el t k is fs) = fun env => (do
    let w ← wk k (evEs G is) env
    let xs ← compL t (fun env => calmly (evTs G fs env)) (fun env => calmly (evE G el env)) w.2 (wipeE env t.vars) w.1 []
    newC (.lst xs)) := funext fun env => by
  rw [evE]
  funext st
  show M.bd (evEs G is env) (fun vs => M.bd (walkOf k vs) fun w => M.bd (compL t _ _ w.2 (wipeE env t.vars) w.1 []) fun xs => newC (.lst xs)) st = M.bd (M.bd (evEs G is env) (walkOf k)) (fun w => M.bd (compL t _ _ w.2 (wipeE env t.vars) w.1 []) fun xs => newC (.lst xs)) st
  rw [bd_assoc]
/-! ### and, or -/
theorem boolB_ok (C : Cok CX T r G X) (hf : Snd CX f) {op : BoolOp} {p : Pos} : ∀ {es : List Expr} {y : E}, trB (f T) op es = some y → PE X (.BoolOp op es p) (tE r (evE G y)) ∧ PW X (.BoolOp op es p) (tT r (tst (evE G y)))
  | [], y, h => by cases h
  | [a], y, h => by
    obtain ⟨h1, h2⟩ := hf T r G X C a y h
    refine ⟨⟨fun pins s sg H Q I q => ?_⟩, ?_⟩
    · rw [arm_eval_BoolOp]
      exact h1.run pins s sg H Q I q
    · cases op
      · exact pw_and1 h2
      · exact pw_or1 h2
  | a :: b :: rest, y, h => by
    simp only [trB, Option.bind_eq_some_iff] at h
    obtain ⟨x, hx, z, hz, h⟩ := h
    obtain ⟨h1, h2⟩ := hf T r G X C a x hx
    obtain ⟨h3, h4⟩ := boolB_ok C hf (es := b :: rest) hz
    cases h
    cases op with
    | And =>
      show PE X _ (tE r (evE G (.and x z))) ∧ PW X _ (tT r (tst (evE G (.and x z))))
      rw [ev_and]
      exact ⟨y_and h1 h3, y_andW h2 h4⟩
    | Or =>
      show PE X _ (tE r (evE G (.or x z))) ∧ PW X _ (tT r (tst (evE G (.or x z))))
      rw [ev_or]
      exact ⟨y_or h1 h3, y_orW h2 h4⟩
/-! ### built-ins -/
theorem ty_ok (C : Cok CX T r G X) {x : Str} {p : Pos} {t : Ty} (h : trTy T (.Name x p) = some t) : PE X (.Name x p) (tC (.ty (tyN t))) := by
  have h : whn (T.isG x) (tyT.lookup x) = some t := h
  rw [whn_eq] at h
  obtain ⟨hg, h⟩ := h
  have hm := PySem.mem_of_lookup h
  have hfree := C.free x
  simp only [tyT, List.mem_cons, Prod.mk.injEq, List.not_mem_nil, or_false] at hm
  rcases hm with ⟨rfl, rfl⟩ | ⟨rfl, rfl⟩ | ⟨rfl, rfl⟩ | ⟨rfl, rfl⟩ | ⟨rfl, rfl⟩
  · exact pe_bltn (u := .type "int") (C.gl hg) (hfree (by decide +kernel)) (by decide +kernel) rfl (by decide +kernel) (by decide +kernel)
  · exact pe_bltn (u := .type "bool") (C.gl hg) (hfree (by decide +kernel)) (by decide +kernel) rfl (by decide +kernel) (by decide +kernel)
  · exact pe_bltn (u := .type "str") (C.gl hg) (hfree (by decide +kernel)) (by decide +kernel) rfl (by decide +kernel) (by decide +kernel)
  · exact pe_bltn (u := .type "tuple") (C.gl hg) (hfree (by decide +kernel)) (by decide +kernel) rfl (by decide +kernel) (by decide +kernel)
  · exact pe_bltn (u := .type "list") (C.gl hg) (hfree (by decide +kernel)) (by decide +kernel) rfl (by decide +kernel) (by decide +kernel)
theorem tyL_ok (C : Cok CX T r G X) : ∀ {es : List Expr} {ts : List Ty}, trL (trTy T) es = some ts → PA X es (fun _ H Q => Q (ts.map fun t => V.ty (tyN t)) H)
  | [], ts, h => by
    cases h
    exact pa_nil
  | e :: es, ts, h => by
    simp only [trL, Option.bind_eq_some_iff] at h
    obtain ⟨t, h1, zs, h2, h3⟩ := h
    cases h3
    have hn : noStar e = true := by
      cases e <;> first | rfl | cases h1
    have he : PE X e (tC (.ty (tyN t))) := by
      cases e <;> first | cases h1 | skip
      exact ty_ok C h1
    exact pa_cons he (tyL_ok C h2) (star_cons hn)
theorem bi_ok (C : Cok CX T r G X) {x : Str} {b : Bi} {p pos : Pos} {e : Expr} {es : List Expr} {fs : Env → M (List D)} (h : biT.lookup x = some b) (hg : T.isG x = true) (ha : PA X (e :: es) (tEs r fs)) (hst : (e :: es).all noStar = true) :
    PE X (.Call (.Name x p) (e :: es) [] pos) (tE r fun env => do
      let ys ← fs env
      biop b ys) := by
  have hm := PySem.mem_of_lookup h
  have hfree := C.free x
  have k := C.K
  simp only [biT, List.mem_cons, Prod.mk.injEq, List.not_mem_nil, or_false] at hm
  rcases hm with ⟨rfl, rfl⟩ | ⟨rfl, rfl⟩ | ⟨rfl, rfl⟩ | ⟨rfl, rfl⟩ | ⟨rfl, rfl⟩ | ⟨rfl, rfl⟩ | ⟨rfl, rfl⟩ | ⟨rfl, rfl⟩ | ⟨rfl, rfl⟩
  · exact y_bi (id := ("" : Str)) cr_len (k ▸ bs_len) (C.gl hg) (hfree (by decide +kernel)) (by decide +kernel) (by decide +kernel) (by decide +kernel) ha hst
  · exact y_bi (id := ("" : Str)) (cr_maxY C.calm) (k ▸ bs_max) (C.gl hg) (hfree (by decide +kernel)) (by decide +kernel) (by decide +kernel) (by decide +kernel) ha hst
  · exact y_bi (id := ("" : Str)) (cr_minY C.calm) (k ▸ bs_min) (C.gl hg) (hfree (by decide +kernel)) (by decide +kernel) (by decide +kernel) (by decide +kernel) ha hst
  · exact y_bi (id := ("" : Str)) (cr_sum C.calm) (k ▸ bs_sum) (C.gl hg) (hfree (by decide +kernel)) (by decide +kernel) (by decide +kernel) (by decide +kernel) ha hst
  · exact y_bi (id := ("" : Str)) (cr_all C.calm) (k ▸ bs_all) (C.gl hg) (hfree (by decide +kernel)) (by decide +kernel) (by decide +kernel) (by decide +kernel) ha hst
  · exact y_biT call_int1 bs_int (C.gl hg) (hfree (by decide +kernel)) (by decide +kernel) (by decide +kernel) (by decide +kernel) ha hst
  · exact y_biT call_tuple_of (k ▸ bs_tuple) (C.gl hg) (hfree (by decide +kernel)) (by decide +kernel) (by decide +kernel) (by decide +kernel) ha hst
  · exact y_biT call_list_of (k ▸ bs_list) (C.gl hg) (hfree (by decide +kernel)) (by decide +kernel) (by decide +kernel) (by decide +kernel) ha hst
  · exact y_bi (id := ("" : Str)) (cr_repr C.gd C.hu) (k ▸ bs_repr) (C.gl hg) (hfree (by decide +kernel)) (by decide +kernel) (by decide +kernel) (by decide +kernel) ha hst
theorem bm_ok (C : Cok CX T r G X) {m : Str} {mm : Mt} {o : Expr} {apos pos : Pos} {es : List Expr} {f1 : Env → M D} {fs : Env → M (List D)} (h : mtT.lookup m = some mm) (ho : PE X o (tE r f1)) (ha : PA X es (tEs r fs)) (hst : es.all noStar = true) (hl : es.length < 20)
    (h0 : es = [] → fs = fun _ => pure []) (hb : plainBase o = true) (hp : (apos.endLine == pos.line) = true) : PE X (.Call (.Attribute o m apos) es [] pos) (tE r fun env => do
      let x ← f1 env
      mtTy mm x
      let ys ← fs env
      mtop mm x ys) := by
  have hbase : attributeBase o m X.env (eval o X.env) = eval o X.env := by
    cases o <;> first | rfl | cases hb
  have hm := PySem.mem_of_lookup h
  have k := C.K
  have key : ∀ {id : String} {rr : V → List V → Hp → VK → Prop}, PlainAttrs (mtN mm) → Slot (mtN mm) m id → typeOf (.builtin id) = pure (.type "method_descriptor") → MtR X id rr → MtS r (mtop mm) (mtN mm) rr → PE X (.Call (.Attribute o m apos) es [] pos) (tE r fun env => do
      let x ← f1 env
      mtTy mm x
      let ys ← fs env
      mtop mm x ys) := fun pa sl ty hm hs => by
    cases es with
    | nil =>
      rw [h0 rfl]
      exact y_bm0 k pa sl ty hm hs ho hbase hp
    | cons e es => exact y_bm k pa sl ty hm hs ho ha hst hl hbase hp
  simp only [mtT, List.mem_cons, Prod.mk.injEq, List.not_mem_nil, or_false] at hm
  rcases hm with ⟨rfl, rfl⟩ | ⟨rfl, rfl⟩ | ⟨rfl, rfl⟩ | ⟨rfl, rfl⟩ | ⟨rfl, rfl⟩
  · exact key PySem.F.plainAttrs_list PySem.F.slot_list_append PySem.F.type_list_append mt_append ms_append
  · exact key PySem.F.plainAttrs_list PySem.F.slot_list_extend PySem.F.type_list_extend mt_extend ms_extend
  · exact key PySem.F.plainAttrs_list PySem.F.slot_list_index PySem.F.type_list_index (mt_indexD C.hu) (k ▸ ms_index)
  · exact key PySem.F.plainAttrs_str PySem.F.slot_str_upper PySem.F.type_str_upper mt_upper ms_upper
  · exact key PySem.F.plainAttrs_str PySem.F.slot_str_join PySem.F.type_str_join mt_join (k ▸ ms_join)
end
end Y

namespace Y
open PySem PySem.Spec L2
section
variable {CX : CXT} {T : Tc} {r : Rc} {G : Ctx} {X : Cx} {f : Tc → Expr → Option E}
/-! ### targets -/
theorem trG_tgt : ∀ {n : Nat} {e : Expr} {t : Tg}, trG n T e = some t → isTgt e = true
  | 0, e, t, h => by cases h
  | n + 1, e, t, h => by cases e <;> first | rfl | cases h
theorem tg_ok (C : Cok CX T r G X) : ∀ (n : Nat) {e : Expr} {t : Tg}, trG n T e = some t → PG X e (tG r t)
  | 0, e, t, h => by cases h
  | n + 1, e, t, h => by
    cases e <;> first | cases h | skip
    · rename_i x p
      have h : whn (T.loc x && T.sto x) ((T.slot x).bind fun i => some (.nm i)) = some t := h
      rw [whn_eq, Bool.and_eq_true_iff] at h
      obtain ⟨⟨h1, h2⟩, h3⟩ := h
      simp only [Option.bind_eq_some_iff] at h3
      obtain ⟨i, h4, h5⟩ := h3
      cases h5
      exact y_gname C.ndX (C.sl h4) (C.lc h1) (C.st h2)
    · rename_i es k p
      have h : (trL (trG n T) es).bind (fun ts => some (Tg.tp ts)) = some t := h
      simp only [Option.bind_eq_some_iff] at h
      obtain ⟨ts, h4, h5⟩ := h
      cases h5
      have hs : ∀ (es : List Expr) (ts : List Tg), trL (trG n T) es = some ts → PGs X es (tGs r ts) ∧ es.all isTgt = true := by
        intro es
        induction es with
        | nil =>
          intro ts h
          cases h
          exact ⟨y_gnil, rfl⟩
        | cons e es ih =>
          intro ts h
          simp only [trL, Option.bind_eq_some_iff] at h
          obtain ⟨t, h1, zs, h2, h3⟩ := h
          cases h3
          obtain ⟨i1, i2⟩ := ih zs h2
          refine ⟨y_gcons (tg_ok C n h1) i1 (trG_tgt h1), ?_⟩
          rw [List.all_cons, trG_tgt h1, i2]
          rfl
      obtain ⟨i1, i2⟩ := hs es ts h4
      exact y_gtup C.calm C.K i1 (trL_len h4).symm i2
/-! ### walks -/
theorem wk_seq (y : E) : wk .seq (evEs G [y]) = seqW (evE G y) := funext fun env => by
  unfold wk seqW
  rw [evEs]
  funext st
  show M.bd (M.bd (evE G y env) fun x => M.bd (evEs G [] env) fun xs => pure (x :: xs)) (walkOf .seq) st = M.bd (evE G y env) (fun d => M.bd (seqOf d) fun ds => pure (ds, gdOf d ds)) st
  rw [bd_assoc]
  congr 1
theorem it_ok (C : Cok CX T r G X) (hf : Snd CX f) (hn : NS f) {tg it : Expr} {w : Ik × List E} (h : trI (f T) T tg it = some w) : PI X tg it (tI r (wk w.1 (evEs G w.2))) ∧ (∀ env x, foldedSetIterable it env x = pure x) := by
  have gen : (∀ y, f T it = some y → w = (.seq, [y]) → PI X tg it (tI r (wk w.1 (evEs G w.2)))) := fun y hy hw => by
    subst hw
    rw [wk_seq]
    exact y_iseq C.K (hf T r G X C it y hy).1
  have gen2 : ((f T it).bind fun y => some (Ik.seq, [y])) = some w → PI X tg it (tI r (wk w.1 (evEs G w.2))) := fun h => by
    simp only [Option.bind_eq_some_iff] at h
    obtain ⟨y, h1, h2⟩ := h
    exact gen y h1 (by cases h2; rfl)
  have one : ∀ {a : Expr} {y : E}, f T a = some y → PA X [a] (tEs r (evEs G [y])) := fun {a y} h => pa_of (es := [a]) C hf hn (by simp only [trL, h, Option.bind_some])
  have two : ∀ {a b : Expr} {y z : E}, f T a = some y → f T b = some z → PA X [a, b] (tEs r (evEs G [y, z])) := fun {a b y z} h h2 => pa_of (es := [a, b]) C hf hn (by simp only [trL, h, h2, Option.bind_some])
  unfold trI at h
  split at h
  · rename_i x p as pos
    refine ⟨?_, fun _ _ => rfl⟩
    rw [whn_eq] at h
    obtain ⟨hg, h⟩ := h
    split at h
    · rename_i hx
      subst hx
      have hm := C.free "range" (by decide +kernel)
      split at h
      · rename_i a
        simp only [Option.bind_eq_some_iff] at h
        obtain ⟨y, h1, h2⟩ := h
        cases h2
        exact y_irng1 (C.gl hg) hm (one h1) (hn T _ _ h1)
      · rename_i a b
        simp only [Option.bind_eq_some_iff] at h
        obtain ⟨y, h1, z, h2, h3⟩ := h
        cases h3
        exact y_irng2 (C.gl hg) hm (two h1 h2) (hn T _ _ h1) (hn T _ _ h2)
      · cases h
    · split at h
      · rename_i hx
        subst hx
        have hm := C.free "zip" (by decide +kernel)
        split at h
        · rename_i a b
          rw [whn_eq] at h
          obtain ⟨ht, h⟩ := h
          simp only [Option.bind_eq_some_iff] at h
          obtain ⟨y, h1, z, h2, h3⟩ := h
          cases h3
          cases tg <;> first | cases ht | skip
          exact y_izip C.K (C.gl hg) hm (two h1 h2) (hn T _ _ h1) (hn T _ _ h2)
        · cases h
      · split at h
        · rename_i hx
          subst hx
          have hm := C.free "enumerate" (by decide +kernel)
          split at h
          · rename_i a
            rw [whn_eq] at h
            obtain ⟨ht, h⟩ := h
            simp only [Option.bind_eq_some_iff] at h
            obtain ⟨y, h1, h3⟩ := h
            cases h3
            cases tg <;> first | cases ht | skip
            exact y_ienum C.K (C.gl hg) hm (one h1) (hn T _ _ h1)
          · cases h
        · exact gen2 h
  · cases h
  · rename_i hns
    refine ⟨gen2 h, fun _ _ => ?_⟩
    cases it <;> first | rfl | exact absurd rfl (hns _ _ _)
/-! ### comprehensions -/
theorem ownOf_ix (N : List Str) (t : Tg) : (ownOf N t).map (·.2) = t.vars := by
  unfold ownOf
  rw [List.map_map]
  exact List.map_id' _
structure CompOk (CX : CXT) (T : Tc) (r : Rc) (G : Ctx) (X : Cx) (elt tg iter : Expr) (ifs : List Expr) (scope : Scope) (t : Tg) (wi : Env → M (List D × Gd)) (ft : Env → M Bool) (fe : Env → M D) : Prop where
  it : PI X tg iter (tI r wi)
  fs : ∀ x, foldedSetIterable iter X.env x = pure x
  ok : BlkOk X.N X.env.scope scope (ownOf T.N t)
  g : ∀ (s : Shared) (H : Hp) (C : Addr) (cl : List (Str × Addr)) (fp : List Addr), PG (X.blk s H scope (compEnvC scope cl C X.env) fp) tg (tG ⟨r.K, r.CA, fun _ _ _ => False⟩ t)
  t : ∀ (s : Shared) (H : Hp) (C : Addr) (cl : List (Str × Addr)) (fp : List Addr), PTs (X.blk s H scope (compEnvC scope cl C X.env) fp) ifs (tT ⟨r.K, r.CA, fun _ _ _ => False⟩ ft)
  e : ∀ (s : Shared) (H : Hp) (C : Addr) (cl : List (Str × Addr)) (fp : List Addr), PE (X.blk s H scope (compEnvC scope cl C X.env) fp) elt (tE ⟨r.K, r.CA, fun _ _ _ => False⟩ fe)
theorem comp_ok (C : Cok CX T r G X) (hf : Snd CX f) (hn : NS f) {elt tg iter : Expr} {ifs : List Expr} {scope : Scope} {y : E} (h : trComp f T elt tg iter ifs scope = some y) :
    ∃ t k is fs el, y = .comp el t k is fs ∧ CompOk CX T r G X elt tg iter ifs scope t (wk k (evEs G is)) (evTs G fs) (evE G el) := by
  unfold trComp at h
  simp only [Option.bind_eq_some_iff] at h
  obtain ⟨w, h1, t, h2, fs, h3, el, h4, h5⟩ := h
  rw [whn_eq, Bool.and_eq_true_iff] at h5
  obtain ⟨⟨hb, hl⟩, h5⟩ := h5
  have hl := of_decide_eq_true hl
  cases h5
  have ok : BlkOk X.N X.env.scope scope (ownOf T.N t) := by
    rw [C.hN, C.sc]
    exact blkOk_by hb
  obtain ⟨i1, i2⟩ := it_ok C hf hn h1
  have CB := fun s H Cc cl fp => C.blk ok.kind s H Cc cl fp
  refine ⟨t, w.1, w.2, fs, el, rfl, i1, i2 _, ok, fun s H Cc cl fp => tg_ok (CB s H Cc cl fp) 8 h2, fun s H Cc cl fp => ?_, fun s H Cc cl fp => (hf _ _ _ _ (CB s H Cc cl fp) elt el h4).1⟩
  cases ifs with
  | nil =>
    cases h3
    rw [show evTs G [] = fun _ => pure true from funext fun env => by rw [evTs]]
    exact y_tnil
  | cons c cs =>
    cases cs with
    | cons _ _ =>
      simp at hl
    | nil =>
      simp only [trL, Option.bind_eq_some_iff] at h3
      obtain ⟨z, hz, zs, hzs, h3⟩ := h3
      cases hzs
      cases h3
      rw [show evTs G [z] = fun env => (do
        let x ← evE G z env
        let b ← asB x
        if b then pure true else pure false) from funext fun env => by rw [evTs]; simp only [evTs]]
      exact y_tone (hf _ _ _ _ (CB s H Cc cl fp) c z hz).2
theorem CompOk.pe (C : Cok CX T r G X) {elt tg iter : Expr} {ifs : List Expr} {scope : Scope} {pos : Pos} {t : Tg} {wi : Env → M (List D × Gd)} {ft : Env → M Bool} {fe : Env → M D} (O : CompOk CX T r G X elt tg iter ifs scope t wi ft fe) :
    PE X (.ListComp elt [⟨tg, iter, ifs, 0⟩] scope pos) (tE r fun env => (do
      let w ← wi env
      let xs ← compL t (fun env => calmly (ft env)) (fun env => calmly (fe env)) w.2 (wipeE env t.vars) w.1 []
      newC (.lst xs))) :=
  PE.imp (pe_lc C.calm C.ndX O.it O.ok O.g O.t O.e O.fs) (lc_imp rfl rfl (ownOf_ix _ _))
theorem CompOk.ps (C : Cok CX T r G X) {elt tg iter : Expr} {ifs : List Expr} {scope : Scope} {pos spos py : Pos} {t : Tg} {wi : Env → M (List D × Gd)} {ft : Env → M Bool} {fe : Env → M D} {i : Nat} {y : Str} (O : CompOk CX T r G X elt tg iter ifs scope t wi ft fe) (hy : X.N[i]? = some y)
    (hyl : X.env.scope.names.lookup y = some .local) (hsw : swapsWith (.ListComp elt [⟨tg, iter, ifs, 0⟩] scope pos) (some (.Name y py)) spos.line X.env = pure true) :
    PS X (.Assign [.Name y py] (.ListComp elt [⟨tg, iter, ifs, 0⟩] scope pos) spos) (tS r fun env => do
      let x ← (do
        let w ← wi env
        let xs ← compL t (fun env => calmly (ft env)) (fun env => calmly (fe env)) w.2 (wipeE env t.vars) w.1 []
        newC (.lst xs))
      let env' ← ofO (asgT (.nm i) x env)
      pure (.next, env')) :=
  PS.imp (ps_setLc C.calm C.ndX hy hyl hsw O.it O.ok O.g O.t O.e O.fs) fun En sg H ⟨mu, st, env, S, RE, P⟩ => by
    show tLc (tI r wi) (tG ⟨r.K, r.CA, fun _ _ _ => False⟩ t) (tT ⟨r.K, r.CA, fun _ _ _ => False⟩ ft) (tE ⟨r.K, r.CA, fun _ _ _ => False⟩ fe) ((ownOf T.N t).map (·.2)) sg H fun x H1 => gName i x sg H1 En.nx
    refine lc_imp (r := r) (r' := ⟨r.K, r.CA, fun _ _ _ => False⟩) rfl rfl (ownOf_ix _ _) sg H _ ⟨mu, st, env, S, RE, PostS.bd P fun d st1 _ mu1 H1 v e1 s1 r1 P1 => ?_⟩
    obtain ⟨env', h2, P2⟩ := posts_ofO P1
    have h2' : (if i < env.length then some (env.set i (some d)) else none) = some env' := h2
    by_cases q : i < env.length
    · rw [if_pos q] at h2'
      cases h2'
      exact P2 mu1 H1 _ (Ext.refl _ _) s1 ((RE.mono e1).set i r1)
    · rw [if_neg q] at h2'
      cases h2'
/-! ### calls -/
theorem calls_ok (C : Cok CX T r G X) (hf : Snd CX f) (hn : NS f) {g : Expr} {as : List Expr} {pos : Pos} {y : E} (h : trCall (f T) T g as pos = some y) : PE X (.Call g as [] pos) (tE r (evE G y)) := by
  unfold trCall at h
  split at h
  · rename_i x p
    rw [whn_eq, Bool.and_eq_true_iff, Bool.and_eq_true_iff] at h
    obtain ⟨⟨⟨hg, hdb⟩, hne⟩, h⟩ := h
    have hdb : (x == ("__debug__" : Str)) = false := by simpa using hdb
    cases as with
    | nil => cases hne
    | cons a as =>
      split at h
      · rename_i q hq
        rw [whn_eq] at h
        obtain ⟨hl, h⟩ := h
        simp only [Option.bind_eq_some_iff] at h
        obtain ⟨ys, h1, h2⟩ := h
        cases h2
        obtain ⟨k, fa, fd, ps, O⟩ := C.call x q hq
        rw [ev_call]
        obtain ⟨i, np⟩ := q
        have e : np = ps.length := O.len.symm
        subst e
        exact y_call (CX := CX) O.fn C.K O.room C.gd (C.gl hg) O.mg O.keep O.binds C.pass O.err (pa_of C hf hn h1) (trL_star hn h1) hdb
      · split at h
        · rename_i hx
          subst hx
          have hm := C.free "isinstance" (by decide +kernel)
          split at h
          · rename_i e es kk pp heq
            cases heq
            simp only [Option.bind_eq_some_iff] at h
            obtain ⟨z, h1, ts, h2, h3⟩ := h
            rw [whn_eq] at h3
            obtain ⟨hl, h3⟩ := h3
            cases h3
            rw [ev_isi]
            exact y_isiN C.K (C.gl hg) hm (hf T r G X C _ _ h1).1 (tyL_ok C h2) (hn T _ _ h1) (of_decide_eq_true hl)
          · rename_i e xT pp heq
            cases heq
            simp only [Option.bind_eq_some_iff] at h
            obtain ⟨z, h1, t, h2, h3⟩ := h
            cases h3
            rw [ev_isi]
            exact y_isi1 C.K (C.gl hg) hm (hf T r G X C _ _ h1).1 (ty_ok C h2) (hn T _ _ h1)
          · cases h
        · simp only [Option.bind_eq_some_iff] at h
          obtain ⟨b, h0, ys, h1, h2⟩ := h
          cases h2
          rw [ev_bi]
          exact bi_ok C h0 hg (pa_of C hf hn h1) (trL_star hn h1)
  · rename_i o m apos
    rw [whn_eq, Bool.and_eq_true_iff, Bool.and_eq_true_iff] at h
    obtain ⟨⟨⟨hp, hb⟩, hl⟩, h⟩ := h
    simp only [Option.bind_eq_some_iff] at h
    obtain ⟨mm, h0, z, h1, ys, h2, h3⟩ := h
    cases h3
    rw [ev_mt]
    refine bm_ok C h0 (hf T r G X C _ _ h1).1 (pa_of C hf hn h2) (trL_star hn h2) (of_decide_eq_true hl) (fun e => ?_) hb hp
    subst e
    cases h2
    exact funext fun env => by rw [evEs]
  · cases h
theorem y_iteT {a b c : Expr} {pos : Pos} {g h k : Env → M D} (hc : PT X c (tT r (tst g))) (ha : PT X a (tT r (tst h))) (hb : PT X b (tT r (tst k))) : PT X (.IfExp c a b pos) (tT r (tst (iteF g h k))) := by
  refine ⟨fun pins s sg H Q I ⟨mu, st, env, S, RE, P⟩ => ?_⟩
  show wpAny _ X.A (do if ← isTrue c X.env (eval c X.env) then isTrue a X.env (eval a X.env) else isTrue b X.env (eval b X.env)) _ _ s
  have e : tst (iteF g h k) env st = M.bd (tst g env) (fun c => if c = true then tst h env else tst k env) st := by
    show M.bd (M.bd (g env) fun x => M.bd (asB x) fun c => if c = true then h env else k env) asB st = M.bd (M.bd (g env) asB) _ st
    rw [bd_assoc, bd_assoc]
    congr 1
    funext x s
    rw [bd_assoc]
    congr 1
    funext q
    cases q <;> rfl
  rw [e] at P
  refine wpAny_bind (thn (hc.run pins s sg H (fun d H1 => if d = true then tT r (tst h) sg H1 Q else tT r (tst k) sg H1 Q) I ⟨mu, st, env, S, RE, PostR.bd P fun d st1 _ mu1 H1 v e1 S1 R1 P1 => ?_⟩) fun d s1 ⟨H1, I1, q1⟩ => ?_)
  · subst R1
    cases v with
    | true => exact ⟨mu1, st1, env, S1, RE.mono e1, P1⟩
    | false => exact ⟨mu1, st1, env, S1, RE.mono e1, P1⟩
  · cases d with
    | true => exact ha.run pins s1 sg H1 Q I1 q1
    | false => exact hb.run pins s1 sg H1 Q I1 q1
/-! ### the expressions' law -/
theorem opt_ok (C : Cok CX T r G X) (hf : Snd CX f) {o : Option Expr} {l : Option E} (h : trOpt (f T) o = some l) : PO X o (tO r (evO G l)) := by
  cases o with
  | none =>
    cases h
    rw [show evO G none = fun _ => pure none from funext fun env => by rw [evO]]
    exact y_onone
  | some e =>
    have h : (f T e).bind (fun y => some (some y)) = some l := h
    simp only [Option.bind_eq_some_iff] at h
    obtain ⟨z, h1, h2⟩ := h
    cases h2
    rw [show evO G (some z) = optF (evE G z) from funext fun env => by rw [evO]; rfl]
    exact y_osome (hf T r G X C _ _ h1).1
theorem trE1_ok (hf : Snd CX f) (hn : NS f) : Snd CX (trE1 f) := by
  intro T r G X C e y h
  unfold trE1 at h
  split at h
  · exact both (name_ok C h) fun _ => rfl
  · exact both (const_ok h) fun _ => rfl
  · simp only [Option.bind_eq_some_iff] at h
    obtain ⟨o', h0, x, h1, z, h2, h3⟩ := h
    cases h3
    rw [ev_bin]
    exact both (bin_ok C h0 (hf T r G X C _ _ h1).1 (hf T r G X C _ _ h2).1) fun _ => rfl
  · simp only [Option.bind_eq_some_iff] at h
    obtain ⟨x, h1, h3⟩ := h
    cases h3
    rw [ev_neg]
    exact both (y_neg (hf T r G X C _ _ h1).1) fun _ => rfl
  · simp only [Option.bind_eq_some_iff] at h
    obtain ⟨x, h1, h3⟩ := h
    cases h3
    rw [ev_not]
    exact ⟨y_not (hf T r G X C _ _ h1).1, y_notT (hf T r G X C _ _ h1).2⟩
  · rename_i a op b p
    rw [whn_eq] at h
    obtain ⟨hm, h⟩ := h
    simp only [Option.bind_eq_some_iff] at h
    obtain ⟨o', h0, x, h1, z, h2, h3⟩ := h
    cases h3
    rw [ev_cmp]
    obtain ⟨rr, k1, k2⟩ := cmp_rule C h0
    have hm : behindInMarks op b = false := by simpa using hm
    exact ⟨y_cmp k1 k2 hm (hf T r G X C _ _ h1).1 (hf T r G X C _ _ h2).1, y_cmpT k1 k2 hm (hf T r G X C _ _ h1).1 (hf T r G X C _ _ h2).1⟩
  · rename_i a op op' b c p
    rw [whn_eq] at h
    obtain ⟨hm, h⟩ := h
    simp only [Option.bind_eq_some_iff] at h
    obtain ⟨o', h0, o'', h00, x, h1, z, h2, w, h3, h4⟩ := h
    cases h4
    rw [ev_chain]
    obtain ⟨rr, k1, k2⟩ := cmp_rule C h0
    obtain ⟨rr2, k3, k4⟩ := cmp_rule C h00
    have hm : lastMarks [op, op'] [b, c] = false := by
      show behindInMarks op' c = false
      simpa using hm
    exact ⟨y_chain k1 k3 k2 k4 hm (hf T r G X C _ _ h1).1 (hf T r G X C _ _ h2).1 (hf T r G X C _ _ h3).1, y_chainT k1 k3 k2 k4 hm (hf T r G X C _ _ h1).1 (hf T r G X C _ _ h2).1 (hf T r G X C _ _ h3).1⟩
  · obtain ⟨k1, k2⟩ := boolB_ok C hf h
    exact ⟨k1, k2.pt⟩
  · simp only [Option.bind_eq_some_iff] at h
    obtain ⟨x, h1, z, h2, w, h3, h4⟩ := h
    cases h4
    rw [ev_ite]
    exact ⟨y_ite (hf T r G X C _ _ h1).2 (hf T r G X C _ _ h2).1 (hf T r G X C _ _ h3).1, y_iteT (hf T r G X C _ _ h1).2 (hf T r G X C _ _ h2).2 (hf T r G X C _ _ h3).2⟩
  · exact both (calls_ok C hf hn h) fun _ => rfl
  · simp only [Option.bind_eq_some_iff] at h
    obtain ⟨x, h1, l, h2, u, h3, h4⟩ := h
    cases h4
    rw [ev_sli]
    exact both (y_sli C.K (hf T r G X C _ _ h1).1 (opt_ok C hf h2) (opt_ok C hf h3)) fun _ => rfl
  · rename_i a b p hns
    rw [whn_eq] at h
    obtain ⟨hp, h⟩ := h
    simp only [Option.bind_eq_some_iff] at h
    obtain ⟨x, h1, z, h2, h4⟩ := h
    cases h4
    rw [ev_sub]
    have hpl : PlainIx b := by
      intro o i
      cases b <;> first | rfl | cases hp
    exact both (y_sub C.u1 C.K hpl (hf T r G X C _ _ h1).1 (hf T r G X C _ _ h2).1) fun _ => rfl
  · rw [whn_eq] at h
    obtain ⟨hl, h⟩ := h
    simp only [Option.bind_eq_some_iff] at h
    obtain ⟨ys, h1, h4⟩ := h
    cases h4
    rw [ev_lst]
    exact both (y_lst (pa_of C hf hn h1) (of_decide_eq_true hl) fun env st vs st' hv => (evEs_len ys env st vs st' hv).trans (trL_len h1)) fun _ => rfl
  · rw [whn_eq] at h
    obtain ⟨hl, h⟩ := h
    simp only [Option.bind_eq_some_iff] at h
    obtain ⟨ys, h1, h4⟩ := h
    cases h4
    rw [ev_tup]
    exact both (y_tup (pa_of C hf hn h1) (of_decide_eq_true hl) fun env st vs st' hv => (evEs_len ys env st vs st' hv).trans (trL_len h1)) fun _ => rfl
  · cases h
    rw [show evE G .dct0 = fun _ => newC (.dct []) from funext fun env => by rw [evE]]
    exact both y_dct0 fun _ => rfl
  · obtain ⟨t, k, is, fs, el, e, O⟩ := comp_ok C hf hn h
    subst e
    rw [ev_comp]
    exact both (O.pe C) fun _ => rfl
  · cases h
theorem trE_ns : ∀ n, NS (trE n)
  | 0, T, e, y, h => by cases h
  | n + 1, T, e, y, h => trE1_nostar h
theorem trE_ok : ∀ n, Snd CX (trE n)
  | 0, T, r, G, X, C, e, y, h => by cases h
  | n + 1, T, r, G, X, C, e, y, h => trE1_ok (trE_ok n) (trE_ns n) T r G X C e y h
end
end Y

namespace Y
open PySem PySem.Spec L2
theorem sw_plain {e : Expr} {t : Option Expr} {l : Nat} {env : PySem.Env} (h : isComp e = false) : swapsWith e t l env = pure false := by
  cases e <;> first | rfl | cases h
theorem sw_tup {e : Expr} {es : List Expr} {k : Nat} {p : Pos} {l : Nat} {env : PySem.Env} (h : isComp e = false) : swapsWithSole [.Tuple es k p] e l env = pure false := by
  cases e <;> first | rfl | cases h
theorem sw_sub {e a b : Expr} {p : Pos} {l : Nat} {env : PySem.Env} (h : isComp e = false) : swapsWithSole [.Subscript a b p] e l env = pure false := by
  cases e <;> first | rfl | cases h
theorem ss_tup {e : Expr} {es : List Expr} {k : Nat} {p : Pos} {env : PySem.Env} (h : isTup2 e = false) : swappedStores [.Tuple es k p] e env = pure none := by
  cases e <;> first | rfl | cases h
theorem ss_sub {e a b : Expr} {p : Pos} {env : PySem.Env} : swappedStores [.Subscript a b p] e env = pure none := by
  cases e <;> rfl
theorem sw_cell {elt : Expr} {gs : List Comprehension} {scope : Scope} {pos py : Pos} {y : Str} {l : Nat} {env : PySem.Env} (hy : env.scope.names.lookup y ≠ some .local) : swapsWith (.ListComp elt gs scope pos) (some (.Name y py)) l env = pure false := by
  have h : (env.kindOf y == some .local) = false := by
    show (env.scope.names.lookup y == some .local) = false
    simpa using hy
  show pure (env.blockKind == .function && env.kindOf y == some .local && py.line == pos.line && !(scope.names.any fun (n, k) => n == y && (k == .local || k == .cell))) = pure false
  rw [h]
  simp
/-- two names at once -/
theorem swap_two {x y : Str} {a b : Expr} {px py pt : Pos} {kt k2 : Nat} {pt2 : Pos} {env : PySem.Env} (hk : env.scope.kind = .function) (hx : env.scope.names.lookup x = some .local) (hy : env.scope.names.lookup y = some .local) (hxy : x ≠ y) (hl : (py.line == px.line) = true)
    (ha : noStar a = true) (hb : noStar b = true) (h1 : ([a, b].all (foldedForSure 8)) = false) (h2 : ([a, b].all (constantsAlone 8)) = false) : swappedStores [.Tuple [.Name x px, .Name y py] kt pt] (.Tuple [a, b] k2 pt2) env = pure (some [x, y]) := by
  have kx : (env.kindOf x == some .local) = true := by
    show (env.scope.names.lookup x == some .local) = true
    rw [hx]
    rfl
  have ky : (env.kindOf y == some .local) = true := by
    show (env.scope.names.lookup y == some .local) = true
    rw [hy]
    rfl
  have hb0 : (env.blockKind != .function) = false := by
    unfold Env.blockKind
    rw [hk]
    rfl
  have st : ([a, b].any fun | .Starred .. => true | _ => false) = false := by
    have e : ∀ z : Expr, noStar z = true → (match z with | .Starred .. => true | _ => false) = false := by
      intro z hz
      cases z <;> first | rfl | cases hz
    rw [List.any_cons, List.any_cons, List.any_nil, e a ha, e b hb]
    rfl
  have fm : ([Expr.Name x px, Expr.Name y py].filterMap fun
    | .Name id pos => if env.kindOf id == some .local && pos.line == px.line then some id else none
    | _ => none) = [x, y] := by
    simp only [List.filterMap_cons, kx, ky, hl, List.filterMap_nil, beq_self_eq_true, Bool.and_self, if_true]
  have ed : ([x, y] : List Str).eraseDups.length = 2 := by
    have : (y == x) = false := by
      rw [beq_eq_false_iff_ne]
      exact fun e => hxy e.symm
    have : ([x, y] : List Str).eraseDups = [x, y] := by
      simp [List.eraseDups_cons, List.filter_cons, this]
    rw [this]
    rfl
  unfold swappedStores
  simp only [hb0, st, fm, ed, h1, h2, List.length_cons, List.length_nil, List.head?_cons, Option.map_some, Option.getD_some, Expr.pos, beq_self_eq_true, bne_self_eq_false, Bool.true_or, Bool.not_true, Bool.false_or, Bool.or_false, Bool.false_eq_true, if_false]
  refine Eq.trans (if_neg (fun hh => Bool.false_ne_true (Eq.trans (Eq.symm st) hh))) ?_
  generalize hL : List.filterMap _ [Expr.Name x px, Expr.Name y py] = L
  have hL2 : L = [x, y] := hL.symm.trans fm
  subst hL2
  rw [ed]
  rfl
section
variable {CX : CXT} {T : Tc} {r : Rc} {G : Ctx} {X : Cx} {f : Tc → Expr → Option E}
theorem es_asg (t : Tg) (e : E) : evS G (.asg t e) = fun env => (do
    let x ← evE G e env
    let env' ← ofO (asgT t x env)
    pure (.next, env')) := funext fun env => by rw [evS]
theorem asg_ok (C : Cok CX T r G X) (hf : Snd CX f) (hn : NS f) {tg e : Expr} {pos : Pos} {s : S} (h : trAsg f T tg e pos = some s) : PS X (.Assign [tg] e pos) (tS r (evS G s)) := by
  have tup : ∀ {es : List Expr} {k : Nat} {p : Pos}, tg = .Tuple es k p → (whn (!isComp e && !isTup2 e) ((trG 8 T tg).bind fun t => (f T e).bind fun y => some (S.asg t y))) = some s → PS X (.Assign [tg] e pos) (tS r (evS G s)) := by
    intro es k p ht h
    rw [whn_eq, Bool.and_eq_true_iff] at h
    obtain ⟨⟨hc, h2⟩, h⟩ := h
    have hc : isComp e = false := by simpa using hc
    have h2 : isTup2 e = false := by simpa using h2
    simp only [Option.bind_eq_some_iff] at h
    obtain ⟨t, h3, y, h4, h5⟩ := h
    cases h5
    rw [es_asg]
    subst ht
    exact y_asg (hf T r G X C _ _ h4).1 (tg_ok C 8 h3) (sw_tup hc) (ss_tup h2) rfl
  unfold trAsg at h
  split at h
  · rename_i x p2
    rw [whn_eq, Bool.and_eq_true_iff] at h
    obtain ⟨⟨hl, hs⟩, h⟩ := h
    rw [Option.bind_eq_some_iff] at h
    obtain ⟨i, hi, h⟩ := h
    split at h
    · rename_i elt tg1 it ifs scope p
      rw [whn_eq] at h
      obtain ⟨hw, h⟩ := h
      simp only [Option.bind_eq_some_iff] at h
      obtain ⟨y, h1, h2⟩ := h
      cases h2
      obtain ⟨t, k, is, fs, el, e, O⟩ := comp_ok C hf hn h1
      subst e
      rw [es_asg, ev_comp]
      split at hw
      · rename_i hloc
        rw [Bool.and_eq_true_iff] at hw
        obtain ⟨hw1, hw2⟩ := hw
        have hloc' : X.env.scope.names.lookup x = some .local := by
          rw [C.sc]
          exact hloc
        refine O.ps C (C.sl hi) hloc' (sw_true ?_ hloc' hw1 (by simpa using hw2))
        rw [C.sc]
        exact C.kind
      · rename_i hloc
        refine y_set C.ndX (C.sl hi) (C.lc hl) (O.pe C) (sw_cell ?_) (C.st hs)
        rw [C.sc]
        exact hloc
    · rw [whn_eq] at h
      obtain ⟨hc, h⟩ := h
      have hc : isComp e = false := by simpa using hc
      simp only [Option.bind_eq_some_iff] at h
      obtain ⟨y, h1, h2⟩ := h
      cases h2
      rw [es_asg]
      exact y_set C.ndX (C.sl hi) (C.lc hl) (hf T r G X C _ _ h1).1 (sw_plain hc) (C.st hs)
  · rename_i x px y py kt pt
    split at h
    · rename_i a b k2 pt2
      rw [whn_eq] at h
      simp only [Bool.and_eq_true_iff, Option.bind_eq_some_iff] at h
      obtain ⟨⟨⟨⟨⟨⟨hx, hy⟩, hxy⟩, hl⟩, h1⟩, h2⟩, i, hi, j, hj, p, hp, q, hq, h⟩ := h
      rw [whn_eq] at h
      obtain ⟨hij, h⟩ := h
      cases h
      have hx : X.env.scope.names.lookup x = some .local := by
        rw [C.sc]
        exact of_decide_eq_true hx
      have hy : X.env.scope.names.lookup y = some .local := by
        rw [C.sc]
        exact of_decide_eq_true hy
      have hk : X.env.scope.kind = .function := by
        rw [C.sc]
        exact C.kind
      have ha : PA X [a, b] (tEs r (evEs G [p, q])) := pa_of C hf hn (by simp only [trL, hp, hq, Option.bind_some])
      rw [es_asg, ev_tup]
      exact y_par C.calm C.ndX (C.sl hi) (C.sl hj) (of_decide_eq_true hij) hx hy ha (swap_two hk hx hy (of_decide_eq_true hxy) hl (hn T _ _ hp) (hn T _ _ hq) ((Bool.not_eq_true' _).mp h1) ((Bool.not_eq_true' _).mp h2)) rfl
    · exact tup rfl h
  · exact tup rfl h
  · rename_i o i p
    rw [whn_eq, Bool.and_eq_true_iff] at h
    obtain ⟨⟨hc, hp⟩, h⟩ := h
    have hc : isComp e = false := by simpa using hc
    simp only [Option.bind_eq_some_iff] at h
    obtain ⟨v, h1, x, h2, y, h3, h4⟩ := h
    cases h4
    rw [show evS G (.setI x y v) = fun env => (do
      let v ← evE G v env
      let x ← evE G x env
      let y ← evE G y env
      setIop x y v
      pure (.next, env)) from funext fun env => by rw [evS]]
    refine y_setI C.u1 (hf T r G X C _ _ h1).1 (hf T r G X C _ _ h2).1 (hf T r G X C _ _ h3).1 (fun v => ?_) (sw_sub hc) ss_sub rfl
    cases i <;> first | rfl | cases hp
  · cases h
/-! ### statements -/
def SndS (CX : CXT) (g : Tc → Stmt → Option S) : Prop := ∀ (T : Tc) (r : Rc) (G : Ctx) (X : Cx), Cok CX T r G X → ∀ s y, g T s = some y → PS X s (tS r (evS G y))
variable {g : Tc → Stmt → Option S}
theorem ss_ok (C : Cok CX T r G X) (hg : SndS CX g) : ∀ {ss : List Stmt} {ys : List S}, trL (g T) ss = some ys → PSs X ss (tS r (evSs G ys))
  | [], ys, h => by
    cases h
    rw [show evSs G [] = fun env => pure (.next, env) from funext fun env => by rw [evSs]]
    exact y_snil
  | s :: ss, ys, h => by
    simp only [trL, Option.bind_eq_some_iff] at h
    obtain ⟨y, h1, zs, h2, h3⟩ := h
    cases h3
    rw [show evSs G (y :: zs) = seqF (evS G y) (evSs G zs) from funext fun env => by rw [evSs]; rfl]
    exact y_scons (hg T r G X C s y h1) (ss_ok C hg h2)
theorem trS1_ok (hf : Snd CX f) (hn : NS f) (hg : SndS CX g) : SndS CX (trS1 f g) := by
  intro T r G X C s y h
  unfold trS1 at h
  split at h
  · cases h
    rw [show evS G .pass = fun env => pure (.next, env) from funext fun env => by rw [evS]]
    exact y_pass
  · cases h
    rw [show evS G .brk = fun env => pure (.brk, env) from funext fun env => by rw [evS]]
    exact y_brk
  · cases h
    rw [show evS G .cont = fun env => pure (.cont, env) from funext fun env => by rw [evS]]
    exact y_cont
  · cases h
    rw [show evS G .never = fun env => fail from funext fun env => by rw [evS]]
    exact y_never
  · cases h
    rw [show evS G .pass = fun env => pure (.next, env) from funext fun env => by rw [evS]]
    exact y_doc
  · rw [whn_eq] at h
    obtain ⟨hc, h⟩ := h
    simp only [Option.bind_eq_some_iff] at h
    obtain ⟨z, h1, h2⟩ := h
    cases h2
    rw [show evS G (.expr z) = fun env => (do
      let _ ← evE G z env
      pure (.next, env)) from funext fun env => by rw [evS]]
    exact y_expr (hf T r G X C _ _ h1).1 (sw_plain (by simpa using hc))
  · simp only [Option.bind_eq_some_iff] at h
    obtain ⟨z, h1, h2⟩ := h
    cases h2
    rw [show evS G (.ret z) = fun env => (do
      let x ← evE G z env
      pure (.ret x, env)) from funext fun env => by rw [evS]]
    exact y_ret (hf T r G X C _ _ h1).1
  · simp only [Option.bind_eq_some_iff] at h
    obtain ⟨x, h1, p, h2, q, h3, h4⟩ := h
    cases h4
    rw [show evS G (.ite x p q) = fun env => (do
      let z ← evE G x env
      let b ← asB z
      if b then evSs G p env else evSs G q env) from funext fun env => by rw [evS]]
    exact y_if (hf T r G X C _ _ h1).2 (ss_ok C hg h2) (ss_ok C hg h3)
  · exact asg_ok C hf hn h
  · simp only [Option.bind_eq_some_iff] at h
    obtain ⟨w, h1, t, h2, b, h3, h4⟩ := h
    cases h4
    rw [show evS G (.for_ t w.1 w.2 b) = fun env => (do
      let q ← wk w.1 (evEs G w.2) env
      forL t (evSs G b) q.2 q.1 env) from funext fun env => by
        rw [evS]
        funext st
        show M.bd (evEs G w.2 env) (fun vs => M.bd (walkOf w.1 vs) fun q => forL t (evSs G b) q.2 q.1 env) st = M.bd (M.bd (evEs G w.2 env) (walkOf w.1)) (fun q => forL t (evSs G b) q.2 q.1 env) st
        rw [bd_assoc]]
    obtain ⟨i1, i2⟩ := it_ok C hf hn h1
    exact y_for C.own C.calm i1 (tg_ok C 8 h2) (ss_ok C hg h3) (i2 _)
  · simp only [Option.bind_eq_some_iff] at h
    obtain ⟨x, h1, b, h2, h3⟩ := h
    cases h3
    rw [show evS G (.while_ x b) = whileL (fun env => (do
      let z ← evE G x env
      asB z)) (evSs G b) G.wf from funext fun env => by rw [evS]]
    exact y_while C.own (hf T r G X C _ _ h1).2 (ss_ok C hg h2)
  · cases h
theorem trS_ok (m : Nat) : ∀ n, SndS CX (trS m n)
  | 0, T, r, G, X, C, s, y, h => by cases h
  | n + 1, T, r, G, X, C, s, y, h => trS1_ok (trE_ok m) (trE_ns m) (trS_ok m n) T r G X C s y h
end
end Y

/-! A whole program: its defs by the evaluator. -/
namespace Y
open PySem PySem.Spec PyProof.Rows L2

/-- nothing here raises -/
theorem pass_any {X : Cx} {E : XK} : Passes CX0 X E := fun _ _ _ _ _ _ _ h => h.elim
structure Fi where
  x : Str
  ps : List Str
  N : List Str
  params : Arguments
  body : List Stmt
  scope : Scope
def Fi.dd (i : Fi) : He.DefD := ⟨(i.x, none), i.x, i.x, i.params, i.body, i.scope, [], []⟩
def fnT (fis : List Fi) : List (Str × Nat × Nat) := fis.zipIdx.map fun q => (q.1.x, q.2, q.1.ps.length)
def Fi.tc (fis : List Fi) (i : Fi) : Tc := ⟨i.N, i.scope, true, [], fnT fis, []⟩
def trFn (fis : List Fi) (i : Fi) : Option Fn := (trL (trS 40 20 (i.tc fis)) i.body).bind fun b => some ⟨i.ps.length, i.N.length, b⟩
def trFns (fis : List Fi) : Option (List Fn) := trL (trFn fis) fis
theorem trL_get {a b : Type} {f : a → Option b} : ∀ {es : List a} {ys : List b} {i : Nat} {e : a}, trL f es = some ys → es[i]? = some e → ∃ y, ys[i]? = some y ∧ f e = some y
  | [], ys, i, e, h, he => by simp at he
  | z :: es, ys, i, e, h, he => by
    simp only [trL, Option.bind_eq_some_iff] at h
    obtain ⟨y, h1, zs, h2, h3⟩ := h
    cases h3
    cases i with
    | zero =>
      simp at he
      subst he
      exact ⟨y, rfl, h1⟩
    | succ i =>
      obtain ⟨w, h4, h5⟩ := trL_get (i := i) h2 (by simpa using he)
      exact ⟨w, by simpa using h4, h5⟩
theorem fnT_get {fis : List Fi} {x : Str} {q : Nat × Nat} (h : (fnT fis).lookup x = some q) : ∃ fi, fis[q.1]? = some fi ∧ fi.x = x ∧ q.2 = fi.ps.length := by
  have hm := PySem.mem_of_lookup h
  unfold fnT at hm
  rw [List.mem_map] at hm
  obtain ⟨z, hz, e⟩ := hm
  obtain ⟨i, hi, hz2⟩ := List.mem_iff_getElem.mp hz
  rw [List.getElem_zipIdx] at hz2
  subst hz2
  cases e
  refine ⟨_, ?_, rfl, rfl⟩
  have : i < fis.length := by simpa using hi
  simp [this]
def fiB (i : Fi) : Bool := decide (i.scope.kind = .function) && decide (i.scope.isCoroutine = false) && decide (i.scope.isGenerator = false) && decide i.N.Nodup && decide (i.N.take i.ps.length = i.ps) &&
  (i.ps.all fun x => decide (i.scope.names.lookup x = some .local) || decide (i.scope.names.lookup x = some .cell)) && i.scope.names.all fun y => decide (y.2 ≠ .free)
theorem fiB_ok {i : Fi} (h : fiB i = true) : FnScope i.N i.ps i.scope := by
  unfold fiB at h
  simp only [Bool.and_eq_true, decide_eq_true_eq, List.all_eq_true, Bool.or_eq_true] at h
  obtain ⟨⟨⟨⟨⟨⟨h1, h2⟩, h3⟩, h4⟩, h5⟩, h6⟩, h7⟩ := h
  exact ⟨h1, h2, h3, h4, h5, h6, h7⟩
/-- every parameter is given by place -/
def BindF (i : Fi) : Prop := ∀ (kV doc pm : Value) (an : Option Addr) (cdv ct : Value) (us : List Value), us.length = i.ps.length → bindArgs (PySem.W.fnOf i.x i.x i.params i.body i.scope .none kV doc pm an cdv ct) ⟨us, []⟩ = pure (i.ps.zip us)

section
variable {P : Program} {w : World} {K : PySem.W.Frag} {mg : Str → Option Value} {base : Heap} {CA : ClsA}
theorem rel_env {mu : List Addr} {H : Hp} {ds : List D} {vs : List V} (r : RelDs K mu H ds vs) (N : List Str) (n : Nat) (hn : n = ds.length) (hl : ds.length ≤ N.length) : RelE K mu H (ds.map some ++ List.replicate (N.length - n) none) (start N vs) := by
  subst hn
  have e := r.length
  refine ⟨?_, fun i d h => ?_⟩
  · show _ = (vs.map some ++ List.replicate (N.length - vs.length) none).length
    simp [e]
  · by_cases q : i < ds.length
    · rw [List.getElem?_append_left (by simpa using q)] at h
      rw [List.getElem?_map] at h
      cases z : ds[i]? with
      | none =>
        rw [z] at h
        cases h
      | some d' =>
        rw [z] at h
        cases h
        obtain ⟨v, h1, h2⟩ := r.get z
        refine ⟨v, ?_, h2⟩
        show (vs.map some ++ _)[i]? = _
        rw [List.getElem?_append_left (by simpa [← e] using q), List.getElem?_map, h1]
        rfl
    · exfalso
      rw [List.getElem?_append_right (by simpa using q), List.getElem?_replicate] at h
      split at h <;> cases h
/-- the end of a def's body -/
theorem post_fn {r : Rc} {mu : List Addr} {H : Hp} {Q : VK} {b : M (Fl × Env)} {st : Sto}
    (h : PostR r (fun mu H d v => RelD r.K mu H d v) mu H (M.bd b (fun q => match q.1 with
      | .ret d => pure d
      | .next => pure .non
      | _ => fail) st) Q) : PostS r { nx := fun _ H' => Q .non H', rt := Q } mu H (b st) := by
  cases e : b st with
  | ok d st1 =>
    rw [bd_ok e] at h
    obtain ⟨fl, env⟩ := d
    cases fl with
    | next => exact fun mu1 H1 sg e1 s1 r1 => h mu1 H1 .non e1 s1 .non
    | ret d => exact fun mu1 H1 v e1 s1 r1 => h mu1 H1 v e1 s1 r1
    | brk => exact h.elim
    | cont => exact h.elim
  | exc x st1 =>
    rw [bd_exc e] at h
    exact h
  | err =>
    rw [bd_err e] at h
    exact h.elim
theorem pss_unwish {X : Cx} {b : List Stmt} {t : TS} (h : PSs X.nox b t) : PSs X b t := ⟨fun pins s sg H Dd I q => wpAny_mono (h.run pins s sg H Dd (I.wish _) q) (fun _ _ z => SP.unwish z) fun _ _ z => False.elim z⟩
theorem runFn_len (G : Ctx) (f : Fn) (ds : List D) (st : Sto) (h : ds.length ≠ f.np) : runFn G f ds st = .err := by
  unfold runFn
  show M.bd (need (decide (ds.length = f.np))) _ st = .err
  rw [bd_err]
  unfold need
  rw [decide_eq_false h]
  rfl
theorem evF_len {Pg : Prog} {W : Nat} : ∀ (n i : Nat) (ds : List D) (st : Sto) (fn : Fn), Pg.fns[i]? = some fn → ds.length ≠ fn.np → evF Pg W n i ds st = .err
  | 0, _, _, _, _, _, _ => rfl
  | n + 1, i, ds, st, fn, h, hl => by
    rw [evF, h]
    exact runFn_len _ _ _ _ hl
/-- all defs keep their promises -/
theorem prog_ok {fis : List Fi} {fns : List Fn} (W : Nat) (htr : trFns fis = some fns) (hdef : ∀ fi ∈ fis, ∃ fd, FunD K fi.x fi.x fi.params fi.body fi.scope [] [] (He.ga K fi.x) fd)
    (hmg : ∀ fi ∈ fis, mg fi.x = some (.ref (He.ga K fi.x))) (hfree : ∀ x ∈ freeN, mg x = none) (hB : ∀ fi ∈ fis, fiB fi = true) (hbind : ∀ fi ∈ fis, BindF fi) :
    ∀ (n i : Nat) (fi : Fi) (fd : FuncData), fis[i]? = some fi → FunD K fi.x fi.x fi.params fi.body fi.scope [] [] (He.ga K fi.x) fd → FnY P w K mg base CX0 n (He.ga K fi.x) fd fi.ps (spY K CA fi.ps.length (evF ⟨fns, []⟩ W n i))
  | 0, i, fi, fd, hi, F => by
    have hno : ∀ vs H Q E, spY K CA fi.ps.length (evF ⟨fns, []⟩ W 0 i) vs H Q E → False := fun vs H Q E ⟨mu, st, ds, S, r, hl, h⟩ => h
    exact ⟨fun vs H Q E h => (hno vs H Q E h).elim, fun A outer s H args us vs Q E hr hg e0 hb rv h => (hno vs H Q E h).elim⟩
  | n + 1, i, fi, fd, hi, F => by
    have ih := prog_ok W htr hdef hmg hfree hB hbind n
    have hm := List.mem_of_getElem? hi
    have SC := fiB_ok (hB fi hm)
    obtain ⟨fn, hfn, htf⟩ := trL_get htr hi
    unfold trFn at htf
    rw [Option.bind_eq_some_iff] at htf
    obtain ⟨body, hbody, e⟩ := htf
    cases e
    have hlN : fi.ps.length ≤ fi.N.length := by
      have := congrArg List.length SC.pre
      rw [List.length_take] at this
      omega
    obtain ⟨oc, od, dV, kV, doc, pm, an, cdv, ct, osl, rfl, lk, hcd, _, _⟩ := F.ex
    refine fnY_of lk hcd SC (fun vs H Q E ⟨mu, st, ds, S, r, hl, h⟩ => by rw [← r.length]; exact hl) fun A outer s H vs Q E hr hg ⟨mu, st, ds, S, r, hl, h⟩ => ?_
    let G : Ctx := ⟨evF ⟨fns, []⟩ W n, fun k => ([] : List D)[k]?, fun _ _ => none, fun _ _ => fail, W⟩
    refine ⟨tS ⟨K, CA, E⟩ (evSs G body), pss_unwish ?_, ?_⟩
    · refine ss_ok (CX := CX0) (T := fi.tc fis) ⟨rfl, SC.nd, rfl, SC.kind, fun _ _ => rfl, fun x h => ?_, rfl, rfl, ?_, hg, PassesOwn.never, pass_any, fun _ => pass_any, fun x q hq => ?_, fun x k hk => ?_, hfree⟩ (trS_ok 40 20) hbody
      · cases h
      · have := hr.un
        show (A.deeper _).units + 65 < cLine
        omega
      · obtain ⟨f2, hf2, hx2, hq2⟩ := fnT_get hq
        have hm2 := List.mem_of_getElem? hf2
        obtain ⟨fd2, F2⟩ := hdef f2 hm2
        obtain ⟨fn2, hfn2, htf2⟩ := trL_get htr hf2
        subst hx2
        refine ⟨n, He.ga K f2.x, fd2, f2.ps, hq2.symm, ?_, hr, hmg f2 hm2, F2.kp, F2.bindsN (hbind f2 hm2), fun ds st hne => ?_⟩
        · rw [hq2]
          exact ih q.1 f2 fd2 hf2 F2
        · refine evF_len n q.1 ds st fn2 hfn2 ?_
          unfold trFn at htf2
          rw [Option.bind_eq_some_iff] at htf2
          obtain ⟨b2, _, e2⟩ := htf2
          cases e2
          rw [hq2] at hne
          exact hne
      · cases hk
    · have h2 : PostR ⟨K, CA, E⟩ (fun mu H d v => RelD K mu H d v) mu H (runFn G ⟨fi.ps.length, fi.N.length, body⟩ ds st) Q := by
        have e : evF ⟨fns, []⟩ W (n + 1) i ds = runFn G ⟨fi.ps.length, fi.N.length, body⟩ ds := by
          rw [evF]
          show (match fns[i]? with
            | some fn => runFn G fn ds
            | none => fail) = _
          rw [hfn]
        rw [← e]
        exact h
      unfold runFn at h2
      have h3 : PostR ⟨K, CA, E⟩ (fun mu H d v => RelD K mu H d v) mu H (M.bd (need (decide (ds.length = fi.ps.length))) (fun _ => M.bd (evSs G body (ds.map some ++ List.replicate (fi.N.length - fi.ps.length) none)) fun q => match q.1 with
        | .ret d => pure d
        | .next => pure .non
        | _ => fail) st) Q := h2
      rw [bd_ok (need_true (decide_eq_true hl) st)] at h3
      refine ⟨mu, st, _, S, rel_env r fi.N fi.ps.length hl.symm (by rw [hl]; exact hlN), post_fn (r := ⟨K, CA, E⟩) h3⟩
end
end Y

/-! A law's end, where the caller runs with no guard around. -/
namespace Y
open PySem PySem.Spec PyProof.Rows L2
section
variable {P : Program} {w : World} {K : PySem.W.Frag} {mg mb : Str → Option Value} {k : Nat} {fa a : Addr} {fd : FuncData} {x : Str} {F : List D → M D} {CA : ClsA} {s1 : Shared} {vs : List Value} {ns : List Int}
/-- the script, read only -/
def scriptD (ns : List Int) : D := .ro (ns.map D.int)
theorem rel_script {mu : List Addr} {H : Hp} : ∀ ns : List Int, RelDs K mu H (ns.map D.int) (ns.map V.int)
  | [] => .nil
  | n :: ns => .cons (.int n) (rel_script ns)
theorem hide_in {h : Heap} {H : Hp} {mm : Str → Option Value} {b : Addr} (only : ∀ c u, H c = some u → ∃ o, h.get? c = some o ∧ ∀ es ep, o.data ≠ .dict es ep) (hn : h.Ns b mm) : (hidT h H).Ns b mm := by
  obtain ⟨o, es, ep, e, d, rest⟩ := hn
  have free : H b = none := by
    cases z : H b with
    | none => rfl
    | some u =>
      obtain ⟨o2, e2, d2⟩ := only b u z
      have := e.symm.trans e2
      cases this
      exact absurd d (d2 es ep)
  exact ⟨o, es, ep, hidT_get e free, d, rest⟩
/-- from one abstract heap in which at most the script stands, locked -/
theorem end_core (inK : K.In s1.heap) (nsG : s1.heap.Ns mainGlobals mg) (nsB : s1.heap.Ns builtinsNs mb) (boot : ∀ y : Str, y ≠ "__name__" → mb y = bootBuiltins y) (nolim : s1.heap.NoLimit) (nogen : s1.gens = #[])
    (cell : s1.heap.get? a = some { cls := .type "list", data := .seq vs.toArray }) (room : Room k callerA) (FF : ∀ base : Heap, K.In base → base.Ns mainGlobals mg → FnY P w K mg base CX0 k fa fd [x] (spY K CA 1 F))
    (bind : ∀ (s : Shared) (u : Value), BindsTo s fd ⟨[u], []⟩ [(x, u)]) (good : ∃ st, F [scriptD ns] [] = .ok (.bl true) st)
    (H : Hp) (only : ∀ c u, H c = some u → c = a ∧ K.lookup a = none ∧ u = .frz { cls := .type "list", data := .seq vs.toArray } (.lst (ns.map V.int))) (heapOk : HOk P w H s1.heap)
    (script : (∃ o, H a = some (.frz o (.lst (ns.map V.int)))) ∨ KL K a (ns.map V.int)) :
    codeAny (model P w) callerA (.call (.ref fa) ⟨[.ref a], []⟩) (fun res after => res = .ok (.ret (.bool true)) ∧ OldK s1.heap after.heap ∧ after.os = s1.os ∧ AllBare after.gens) s1 := by
  have only' : ∀ c u, H c = some u → ∃ o, s1.heap.get? c = some o ∧ ∀ es ep, o.data ≠ .dict es ep := fun c u z => by
    obtain ⟨rfl, _, _⟩ := only c u z
    exact ⟨_, cell, fun es ep q => nomatch q⟩
  have inB : K.In (hidT s1.heap H) := fun b o e => by
    refine hidT_get (inK b o e) ?_
    cases z : H b with
    | none => rfl
    | some u =>
      obtain ⟨rfl, noK, _⟩ := only b u z
      rw [noK] at e
      cases e
  obtain ⟨mc, lim1, lim2⟩ := nolim
  have modu : Mod K mg (hidT s1.heap H) := ⟨inB, hide_in only' nsG, ⟨mb, hide_in only' nsB, boot⟩, ⟨mc, hide_in only' lim1, lim2⟩⟩
  have noB : ∀ b : Addr, b ∉ ([] : List Addr) := fun b => List.not_mem_nil
  have start : Env0 P w K mg (hidT s1.heap H) callerA [] s1 H :=
    { frames := rfl, mod := modu, bs := fun b o e => of_hidT e, bsz := Nat.le_of_eq (hidT_size s1.heap H), funs := trivial, frf := fun b hb => (noB b hb).elim, hok := heapOk, bare := AllBare.of_eq nogen }
  have asked : spY K CA 1 F [.ref a] H (fun v _ => v = .bl true) (fun _ _ _ => False) := by
    obtain ⟨st, hF⟩ := good
    refine ⟨[], [], [scriptD ns], ⟨rfl, fun n c b h => by simp at h, fun i j b h => by simp at h⟩, .cons (.ro script (rel_script ns)) .nil, rfl, ?_⟩
    rw [hF]
    intro mu' H' v _ _ rv
    cases rv
    rfl
  refine codeAny_mono ((FF _ inB (hide_in only' nsG)).run callerA [] s1 H ⟨[.ref a], []⟩ [.ref a] [.ref a] (fun v _ => v = .bl true) (fun _ _ _ => False) room rfl start (bind s1 (.ref a)) (.cons rfl .nil) asked) fun res after hq => ?_
  match res, hq with
  | .error ex, hq => exact hq.elim
  | .ok .next, hq => exact hq.elim
  | .ok .brk, hq => exact hq.elim
  | .ok .cont, hq => exact hq.elim
  | .ok (.ret u), ⟨v, H2, sameOs, bare, changed, heapOk2, rv, said⟩ =>
    subst said
    obtain rfl : u = Value.bool true := rv
    refine ⟨rfl, OldK.of_keep fun b o e => ?_, sameOs, bare⟩
    cases z : H b with
    | none => exact changed.keep b o e z (noB b) (noB b)
    | some t =>
      obtain ⟨_, _, rfl⟩ := only b t z
      have locked2 := changed.frzs b _ _ z
      have now := (heapOk b _ z).1
      have later := (heapOk2 b _ locked2).1
      exact later.trans (now.symm.trans e)
theorem end_call (inK : K.In s1.heap) (nsG : s1.heap.Ns mainGlobals mg) (nsB : s1.heap.Ns builtinsNs mb) (boot : ∀ y : Str, y ≠ "__name__" → mb y = bootBuiltins y) (nolim : s1.heap.NoLimit) (nogen : s1.gens = #[])
    (cell : s1.heap.get? a = some { cls := .type "list", data := .seq vs.toArray }) (allI : IntsAre vs ns) (few : ns.length ≤ sizeLine) (room : Room k callerA) (FF : ∀ base : Heap, K.In base → base.Ns mainGlobals mg → FnY P w K mg base CX0 k fa fd [x] (spY K CA 1 F))
    (bind : ∀ (s : Shared) (u : Value), BindsTo s fd ⟨[u], []⟩ [(x, u)]) (good : ∃ st, F [scriptD ns] [] = .ok (.bl true) st) :
    codeAny (model P w) callerA (.call (.ref fa) ⟨[.ref a], []⟩) (fun res after => res = .ok (.ret (.bool true)) ∧ OldK s1.heap after.heap ∧ after.os = s1.os ∧ AllBare after.gens) s1 := by
  have vals := vals_ints allI
  cases hk : K.lookup a with
  | some o =>
    have e := inK a o hk
    rw [cell] at e
    cases e
    exact end_core inK nsG nsB boot nolim nogen cell room FF bind good (fun _ => none) (fun c u z => nomatch z) (fun c u z => nomatch z)
      (.inr ⟨_, vs.toArray, _, hk, rfl, rfl, rfl, by rw [List.size_toArray, allI.length]; exact few, by simpa using vals⟩)
  | none =>
    have at_ : ∀ c u, (if c = a then some (HO.frz { cls := .type "list", data := .seq vs.toArray } (.lst (ns.map V.int))) else none) = some u → c = a ∧ u = .frz { cls := .type "list", data := .seq vs.toArray } (.lst (ns.map V.int)) := fun c u z => by
      split at z
      · rename_i hc
        cases z
        exact ⟨hc, rfl⟩
      · cases z
    refine end_core inK nsG nsB boot nolim nogen cell room FF bind good (fun c => if c = a then some (.frz { cls := .type "list", data := .seq vs.toArray } (.lst (ns.map V.int))) else none) (fun c u z => ?_) (fun c u z => ?_)
      (.inl ⟨_, if_pos rfl⟩)
    · obtain ⟨h1, h2⟩ := at_ c u z
      exact ⟨h1, hk, h2⟩
    · obtain ⟨rfl, rfl⟩ := at_ c u z
      exact ⟨cell, by rw [List.length_map]; exact few, vs, _, vals, cell⟩
end
/-- a law over a head by facts -/
theorem end_law {l : PySem.W.OpenLaw} {n k : Nat} {q : Program} {loose : List Str} {XP : (Str → Option Value) → Heap → Prop} {YP : World → Heap → Prop} {d : DefRec} {x : Str} (most : l.most = some n) (few : n ≤ sizeLine) (nodf : d.params.defaults = []) (room : Room k callerA)
    (FF : ∀ (w : World) (mg : Str → Option Value) (fa : Addr) (h : Heap), YP w h → h.Ns mainGlobals mg → mg d.name = some (.ref fa) → ∃ (K : PySem.W.Frag) (fd : FuncData) (F : List D → M D) (CA : ClsA), K.In h ∧ (∀ (s : Shared) (u : Value), BindsTo s fd ⟨[u], []⟩ [(x, u)]) ∧
      (∀ ns : List Int, ns.length ≤ n → ∃ st, F [scriptD ns] [] = .ok (.bl true) st) ∧ ∀ base : Heap, K.In base → base.Ns mainGlobals mg → FnY l.prog w K mg base CX0 k fa fd [x] (spY K CA 1 F)) :
    PySem.W.WalkO q loose XP YP l.row.toRowW d [] (fun f vs => PySem.call f vs) := by
  refine Att.attach_call most nodf fun w s0 s1 mg mb fa o pm cd doc a vs ns ground y objF dataF codeF named cell allI short nogen => ?_
  obtain ⟨K, fd, F, CA, inK, bind, good, all⟩ := FF w mg fa _ y ground.T.g named
  exact end_call inK ground.T.g ground.T.b ground.T.builtins ground.T.nolimit nogen cell allI (Nat.le_trans short few) room all bind (good ns short)
end Y

/-! The head's facts, for the evaluator. -/
namespace Y
open PySem PySem.Spec PyProof.Rows L2
theorem says_fact {fis : List Fi} {K : PySem.W.Frag} (c : He.SaysD (fis.map (fun fi => He.Fa.glo fi.x) ++ freeN.map He.Fa.free) (fis.map Fi.dd) K) {f : He.Fa} (h : f ∈ fis.map (fun fi => He.Fa.glo fi.x) ++ freeN.map He.Fa.free) : f.ok K = true := by
  obtain ⟨i, hi⟩ := List.mem_iff_getElem?.mp h
  exact c.fact i hi
theorem facts_of {P : Program} {w : World} {K : PySem.W.Frag} {h : Heap} {mg : Str → Option Value} {fad : Addr} {fis : List Fi} {fns : List Fn} {W lvl li : Nat} {fi : Fi} {xs : Str} (tr : trFns fis = some fns) (hB : ∀ fi ∈ fis, fiB fi = true) (hbind : ∀ fi ∈ fis, BindF fi)
    (hli : fis[li]? = some fi) (hx : fi.x = "law") (hps : fi.ps = [xs]) (hlen : ∀ v : Value, fi.ps.zip [v] = [(xs, v)]) (inK : K.In h) (ns : h.Ns mainGlobals mg) (named : mg ("law" : Str) = some (.ref fad)) (c : He.SaysD (fis.map (fun fi => He.Fa.glo fi.x) ++ freeN.map He.Fa.free) (fis.map Fi.dd) K) :
    ∃ fd : FuncData, (∀ (s : Shared) (v : Value), BindsTo s fd ⟨[v], []⟩ [(xs, v)]) ∧ ∀ base : Heap, K.In base → base.Ns mainGlobals mg → FnY P w K mg base CX0 lvl fad fd [xs] (spY K (fun _ => 0) 1 (evF ⟨fns, []⟩ W lvl li)) := by
  have hdef : ∀ fi ∈ fis, ∃ fd, FunD K fi.x fi.x fi.params fi.body fi.scope [] [] (He.ga K fi.x) fd := fun fi hm => by
    obtain ⟨i, hi⟩ := List.mem_iff_getElem?.mp hm
    exact c.def_ i (d := fi.dd) (by rw [List.getElem?_map, hi]; rfl)
  have hm := List.mem_of_getElem? hli
  have hmg : ∀ fi ∈ fis, mg fi.x = some (.ref (He.ga K fi.x)) := fun fi hm => He.glo_ok inK ns (says_fact c (List.mem_append_left _ (List.mem_map.mpr ⟨fi, hm, rfl⟩)))
  have hfree : ∀ x ∈ freeN, mg x = none := fun x hx => He.free_ok inK ns (says_fact c (List.mem_append_right _ (List.mem_map.mpr ⟨x, hx, rfl⟩)))
  obtain ⟨fd, FD⟩ := hdef fi hm
  have e : (some (.ref (He.ga K fi.x)) : Option Value) = some (.ref fad) := (hmg fi hm).symm.trans (by rw [hx]; exact named)
  have e2 : He.ga K fi.x = fad := by
    injection e with e
    injection e
  subst e2
  refine ⟨fd, fun s v => ?_, fun base _ _ => ?_⟩
  · have := FD.bindsA (ps := fi.ps) (hbind fi hm) s [v] (by rw [hps]; rfl)
    rw [hlen v] at this
    exact this
  · have := prog_ok (P := P) (w := w) (base := base) (CA := fun _ => 0) W tr hdef hmg hfree hB hbind lvl li fi fd hli FD
    rw [hps] at this
    exact this
end Y

/-! What the evaluator must do: weakest preconditions over its store. -/
namespace Y
open PySem
def wp {a : Type} (m : M a) (Q : a → Sto → Prop) (st : Sto) : Prop := match m st with
  | .ok v s => Q v s
  | _ => False
section
variable {a b : Type} {m : M a} {Q Q' : a → Sto → Prop} {st : Sto} {G : Ctx} {env : Env}
theorem wp_ok (h : wp m Q st) : ∃ v s, m st = .ok v s ∧ Q v s := by
  unfold wp at h
  cases e : m st with
  | ok v s =>
    rw [e] at h
    exact ⟨v, s, rfl, h⟩
  | err =>
    rw [e] at h
    exact h.elim
  | exc _ _ =>
    rw [e] at h
    exact h.elim
theorem wp_mono (h : wp m Q st) (k : ∀ v s, Q v s → Q' v s) : wp m Q' st := by
  unfold wp at h ⊢
  cases e : m st with
  | ok v s =>
    rw [e] at h
    exact k v s h
  | err =>
    rw [e] at h
    exact h
  | exc _ _ =>
    rw [e] at h
    exact h
@[simp] theorem wp_bind (m : M a) (f : a → M b) (Q : b → Sto → Prop) (st : Sto) : wp (m >>= f) Q st = wp m (fun v s => wp (f v) Q s) st := by
  show (match M.bd m f st with
    | .ok v s => Q v s
    | _ => False) = match m st with
    | .ok v s => wp (f v) Q s
    | _ => False
  unfold M.bd
  cases m st <;> rfl
@[simp] theorem wp_pure (v : a) (Q : a → Sto → Prop) (st : Sto) : wp (pure v) Q st = Q v st := rfl
@[simp] theorem wp_fail (Q : a → Sto → Prop) (st : Sto) : wp (fail : M a) Q st = False := rfl
@[simp] theorem wp_need (b : Bool) (Q : Unit → Sto → Prop) (st : Sto) : wp (need b) Q st = (b = true ∧ Q () st) := by
  unfold wp need
  cases b <;> simp
@[simp] theorem wp_lenOk (n : Nat) (Q : Unit → Sto → Prop) (st : Sto) : wp (lenOk n) Q st = (n ≤ 16000000 ∧ Q () st) := by
  unfold lenOk
  rw [wp_need]
  simp
@[simp] theorem wp_ofO_some (v : a) (Q : a → Sto → Prop) (st : Sto) : wp (ofO (some v)) Q st = Q v st := rfl
@[simp] theorem wp_ofO_none (Q : a → Sto → Prop) (st : Sto) : wp (ofO (none : Option a)) Q st = False := rfl
theorem wp_ofO {o : Option a} (v : a) (h : o = some v) : wp (ofO o) Q st = Q v st := by rw [h]; rfl
@[simp] theorem wp_calmly (m : M a) (Q : a → Sto → Prop) (st : Sto) : wp (calmly m) Q st = wp m Q st := by
  unfold wp calmly
  cases m st <;> rfl
@[simp] theorem wp_newC (c : Cell) (Q : D → Sto → Prop) (st : Sto) : wp (newC c) Q st = Q (.ob st.length) (st ++ [c]) := rfl
theorem wp_rd {n : Nat} {f : Cell → Option a} (c : Cell) (v : a) (h : st[n]? = some c) (hf : f c = some v) : wp (rd n f) Q st = Q v st := by
  unfold wp rd
  rw [h]
  show (match (match f c with
    | some v => Res.ok v st
    | none => .err) with
    | .ok v s => Q v s
    | _ => False) = _
  rw [hf]
@[simp] theorem wp_setC (n : Nat) (c : Cell) (Q : Unit → Sto → Prop) (st : Sto) : wp (setC n c) Q st = (n < st.length ∧ Q () (st.set n c)) := by
  unfold wp setC
  by_cases h : n < st.length
  · rw [if_pos h]
    simp [h]
  · rw [if_neg h]
    simp [h]
@[simp] theorem wp_chk (g : Gd) (Q : Unit → Sto → Prop) (st : Sto) : wp (chk g) Q st = (g st = true ∧ Q () st) := by
  unfold wp chk
  cases g st <;> simp
@[simp] theorem wp_ite (c : Prop) [Decidable c] (x y : M a) (Q : a → Sto → Prop) (st : Sto) : wp (if c then x else y) Q st = if c then wp x Q st else wp y Q st := by
  split <;> rfl
@[simp] theorem wp_asB (b : Bool) (Q : Bool → Sto → Prop) (st : Sto) : wp (asB (.bl b)) Q st = Q b st := rfl
/-! ### expressions -/
section
variable {Q : D → Sto → Prop}
@[simp] theorem we_var (i : Nat) : wp (evE G (.var i) env) Q st = wp (ofO (env[i]?.bind id)) Q st := by rw [evE]
@[simp] theorem we_cst (d : D) : wp (evE G (.cst d) env) Q st = Q d st := by rw [evE]; rfl
@[simp] theorem we_glb (k : Nat) : wp (evE G (.glb k) env) Q st = wp (ofO (G.glb k)) Q st := by rw [evE]
@[simp] theorem we_bin (o : BinO) (x y : E) : wp (evE G (.bin o x y) env) Q st = wp (evE G x env) (fun v s => wp (evE G y env) (fun u s => wp (binop o v u) Q s) s) st := by
  rw [evE]
  simp only [wp_bind]
@[simp] theorem we_neg (x : E) : wp (evE G (.neg x) env) Q st = wp (evE G x env) (fun v s => wp (negop v) Q s) st := by
  rw [evE]
  simp only [wp_bind]
@[simp] theorem we_cmp (o : CmpO) (x y : E) : wp (evE G (.cmp o x y) env) Q st = wp (evE G x env) (fun v s => wp (evE G y env) (fun u s => wp (cmpop o v u) (fun r s => Q (.bl r) s) s) s) st := by
  rw [evE]
  simp only [wp_bind, wp_pure]
@[simp] theorem we_chain (o p : CmpO) (x y z : E) : wp (evE G (.chain o p x y z) env) Q st = wp (evE G x env) (fun v s => wp (evE G y env) (fun u s => wp (cmpop o v u) (fun r s =>
    if r = true then wp (evE G z env) (fun w s => wp (cmpop p u w) (fun r s => Q (.bl r) s) s) s else Q (.bl false) s) s) s) st := by
  rw [evE]
  simp only [wp_bind, wp_pure, wp_ite]
@[simp] theorem we_and (x y : E) : wp (evE G (.and x y) env) Q st = wp (evE G x env) (fun v s => wp (asB v) (fun r s => if r = true then wp (evE G y env) (fun u s => wp (asB u) (fun r s => Q (.bl r) s) s) s else Q (.bl false) s) s) st := by
  rw [evE]
  simp only [wp_bind, wp_pure, wp_ite]
@[simp] theorem we_or (x y : E) : wp (evE G (.or x y) env) Q st = wp (evE G x env) (fun v s => wp (asB v) (fun r s => if r = true then Q (.bl true) s else wp (evE G y env) (fun u s => wp (asB u) (fun r s => Q (.bl r) s) s) s) s) st := by
  rw [evE]
  simp only [wp_bind, wp_pure, wp_ite]
@[simp] theorem we_not (x : E) : wp (evE G (.not x) env) Q st = wp (evE G x env) (fun v s => wp (asB v) (fun r s => Q (.bl (!r)) s) s) st := by
  rw [evE]
  simp only [wp_bind, wp_pure]
@[simp] theorem we_ite (c x y : E) : wp (evE G (.ite c x y) env) Q st = wp (evE G c env) (fun v s => wp (asB v) (fun r s => if r = true then wp (evE G x env) Q s else wp (evE G y env) Q s) s) st := by
  rw [evE]
  simp only [wp_bind, wp_ite]
@[simp] theorem we_call (f : Nat) (as : List E) : wp (evE G (.call f as) env) Q st = wp (evEs G as env) (fun vs s => wp (G.call f vs) Q s) st := by
  rw [evE]
  simp only [wp_bind]
@[simp] theorem we_bi (f : Bi) (as : List E) : wp (evE G (.bi f as) env) Q st = wp (evEs G as env) (fun vs s => wp (biop f vs) Q s) st := by
  rw [evE]
  simp only [wp_bind]
@[simp] theorem we_mt (f : Mt) (o : E) (as : List E) : wp (evE G (.mt f o as) env) Q st = wp (evE G o env) (fun x s => wp (mtTy f x) (fun _ s => wp (evEs G as env) (fun vs s => wp (mtop f x vs) Q s) s) s) st := by
  rw [evE]
  simp only [wp_bind]
@[simp] theorem we_tup (as : List E) : wp (evE G (.tup as) env) Q st = wp (evEs G as env) (fun vs s => Q (.tup vs) s) st := by
  rw [evE]
  simp only [wp_bind, wp_pure]
@[simp] theorem we_lst (as : List E) : wp (evE G (.lst as) env) Q st = wp (evEs G as env) (fun vs s => Q (.ob s.length) (s ++ [.lst vs])) st := by
  rw [evE]
  simp only [wp_bind, wp_newC]
@[simp] theorem we_dct0 : wp (evE G .dct0 env) Q st = Q (.ob st.length) (st ++ [.dct []]) := by rw [evE]; rfl
@[simp] theorem we_sub (x y : E) : wp (evE G (.sub x y) env) Q st = wp (evE G x env) (fun v s => wp (evE G y env) (fun u s => wp (subop v u) Q s) s) st := by
  rw [evE]
  simp only [wp_bind]
@[simp] theorem we_sli (x : E) (l h : Option E) : wp (evE G (.sli x l h) env) Q st = wp (evE G x env) (fun v s => wp (evO G l env) (fun l s => wp (evO G h env) (fun h s => wp (sliop v l h) Q s) s) s) st := by
  rw [evE]
  simp only [wp_bind]
@[simp] theorem we_rev (x : E) : wp (evE G (.rev x) env) Q st = wp (evE G x env) (fun v s => wp (revop v) Q s) st := by
  rw [evE]
  simp only [wp_bind]
@[simp] theorem we_comp (el : E) (t : Tg) (k : Ik) (is fs : List E) : wp (evE G (.comp el t k is fs) env) Q st = wp (evEs G is env) (fun vs s => wp (walkOf k vs) (fun w s =>
    wp (compL t (fun env => calmly (evTs G fs env)) (fun env => calmly (evE G el env)) w.2 (wipeE env t.vars) w.1 []) (fun xs s => Q (.ob s.length) (s ++ [.lst xs])) s) s) st := by
  rw [evE]
  simp only [wp_bind, wp_newC]
@[simp] theorem we_isi (x : E) (ts : List Ty) : wp (evE G (.isi x ts) env) Q st = wp (evE G x env) (fun v s => wp (isiop ts v) (fun r s => Q (.bl r) s) s) st := by
  rw [evE]
  simp only [wp_bind, wp_pure]
end
@[simp] theorem wes_nil {Q : List D → Sto → Prop} : wp (evEs G [] env) Q st = Q [] st := by rw [evEs]; rfl
@[simp] theorem wes_cons {Q : List D → Sto → Prop} (e : E) (es : List E) : wp (evEs G (e :: es) env) Q st = wp (evE G e env) (fun v s => wp (evEs G es env) (fun vs s => Q (v :: vs) s) s) st := by
  rw [evEs]
  simp only [wp_bind, wp_pure]
def asI (d : D) : M (Option Int) := match d with
  | .int i => pure (some i)
  | _ => fail
@[simp] theorem wp_asI (i : Int) {Q : Option Int → Sto → Prop} : wp (asI (.int i)) Q st = Q (some i) st := rfl
@[simp] theorem weo_none {Q : Option Int → Sto → Prop} : wp (evO G none env) Q st = Q none st := by rw [evO]; rfl
@[simp] theorem weo_some {Q : Option Int → Sto → Prop} (e : E) : wp (evO G (some e) env) Q st = wp (evE G e env) (fun v s => wp (asI v) Q s) st := by
  rw [evO]
  rw [wp_bind]
  rfl
@[simp] theorem wts_nil {Q : Bool → Sto → Prop} : wp (evTs G [] env) Q st = Q true st := by rw [evTs]; rfl
@[simp] theorem wts_cons {Q : Bool → Sto → Prop} (e : E) (es : List E) : wp (evTs G (e :: es) env) Q st = wp (evE G e env) (fun v s => wp (asB v) (fun r s => if r = true then wp (evTs G es env) Q s else Q false s) s) st := by
  rw [evTs]
  simp only [wp_bind, wp_pure, wp_ite]
/-! ### statements -/
section
variable {Q : Fl × Env → Sto → Prop}
def wStop (G : Ctx) (ss : List S) (Q : Fl × Env → Sto → Prop) (r : Fl × Env) (s : Sto) : Prop := match r.1 with
  | .next => wp (evSs G ss r.2) Q s
  | f => Q (f, r.2) s
@[simp] theorem wStop_next (ss : List S) (s : Sto) : wStop G ss Q (.next, env) s = wp (evSs G ss env) Q s := rfl
@[simp] theorem wStop_ret (ss : List S) (d : D) (s : Sto) : wStop G ss Q (.ret d, env) s = Q (.ret d, env) s := rfl
@[simp] theorem wStop_brk (ss : List S) (s : Sto) : wStop G ss Q (.brk, env) s = Q (.brk, env) s := rfl
@[simp] theorem wStop_cont (ss : List S) (s : Sto) : wStop G ss Q (.cont, env) s = Q (.cont, env) s := rfl
@[simp] theorem wss_nil : wp (evSs G [] env) Q st = Q (.next, env) st := by rw [evSs]; rfl
@[simp] theorem wss_cons (s : S) (ss : List S) : wp (evSs G (s :: ss) env) Q st = wp (evS G s env) (wStop G ss Q) st := by
  rw [evSs, wp_bind]
  congr 1
  funext r s
  obtain ⟨f, e⟩ := r
  cases f <;> rfl
@[simp] theorem ws_asg (t : Tg) (e : E) : wp (evS G (.asg t e) env) Q st = wp (evE G e env) (fun v s => wp (ofO (asgT t v env)) (fun env' s => Q (.next, env') s) s) st := by
  rw [evS]
  simp only [wp_bind, wp_pure]
@[simp] theorem ws_setI (o k e : E) : wp (evS G (.setI o k e) env) Q st = wp (evE G e env) (fun v s => wp (evE G o env) (fun x s => wp (evE G k env) (fun y s => wp (setIop x y v) (fun _ s => Q (.next, env) s) s) s) s) st := by
  rw [evS]
  simp only [wp_bind, wp_pure]
@[simp] theorem ws_expr (e : E) : wp (evS G (.expr e) env) Q st = wp (evE G e env) (fun _ s => Q (.next, env) s) st := by
  rw [evS]
  simp only [wp_bind, wp_pure]
@[simp] theorem ws_ret (e : E) : wp (evS G (.ret e) env) Q st = wp (evE G e env) (fun v s => Q (.ret v, env) s) st := by
  rw [evS]
  simp only [wp_bind, wp_pure]
@[simp] theorem ws_ite (c : E) (x y : List S) : wp (evS G (.ite c x y) env) Q st = wp (evE G c env) (fun v s => wp (asB v) (fun r s => if r = true then wp (evSs G x env) Q s else wp (evSs G y env) Q s) s) st := by
  rw [evS]
  simp only [wp_bind, wp_ite]
@[simp] theorem ws_for (t : Tg) (k : Ik) (is : List E) (b : List S) : wp (evS G (.for_ t k is b) env) Q st = wp (evEs G is env) (fun vs s => wp (walkOf k vs) (fun w s => wp (forL t (evSs G b) w.2 w.1 env) Q s) s) st := by
  rw [evS]
  simp only [wp_bind]
@[simp] theorem ws_while (c : E) (b : List S) : wp (evS G (.while_ c b) env) Q st = wp (whileL (fun env => do
    let x ← evE G c env
    asB x) (evSs G b) G.wf env) Q st := by rw [evS]
@[simp] theorem ws_never : wp (evS G .never env) Q st = False := by rw [evS]; rfl
@[simp] theorem ws_pass : wp (evS G .pass env) Q st = Q (.next, env) st := by rw [evS]; rfl
@[simp] theorem ws_cont : wp (evS G .cont env) Q st = Q (.cont, env) st := by rw [evS]; rfl
@[simp] theorem ws_brk : wp (evS G .brk env) Q st = Q (.brk, env) st := by rw [evS]; rfl
/-- a call -/
def wRet (Q : D → Sto → Prop) (r : Fl × Env) (s : Sto) : Prop := match r.1 with
  | .ret d => Q d s
  | .next => Q .non s
  | _ => False
@[simp] theorem wRet_ret (Q : D → Sto → Prop) (d : D) (s : Sto) : wRet Q (.ret d, env) s = Q d s := rfl
@[simp] theorem wRet_next (Q : D → Sto → Prop) (s : Sto) : wRet Q (.next, env) s = Q .non s := rfl
abbrev cxF (P : Prog) (W n : Nat) : Ctx := ⟨evF P W n, fun k => P.glbs[k]?, fun _ _ => none, fun _ _ => fail, W⟩
theorem wp_evF {P : Prog} {W n i : Nat} {vs : List D} {Q : D → Sto → Prop} {fn : Fn} (h : P.fns[i]? = some fn) (hl : vs.length = fn.np) (k : wp (evSs (cxF P W n) fn.body (vs.map some ++ List.replicate (fn.ns - fn.np) none)) (wRet Q) st) : wp (evF P W (n + 1) i vs) Q st := by
  rw [evF, h]
  show wp (runFn (cxF P W n) fn vs) Q st
  unfold runFn
  rw [wp_bind, wp_need]
  refine ⟨decide_eq_true hl, ?_⟩
  rw [wp_bind]
  refine wp_mono k fun r s q => ?_
  obtain ⟨f, e⟩ := r
  cases f <;> exact q
end
/-! ### targets -/
@[simp] theorem asg_0 (d : D) (x : Option D) (env : Env) : asgT (.nm 0) d (x :: env) = some (some d :: env) := rfl
@[simp] theorem asg_s (i : Nat) (d : D) (x : Option D) (env : Env) : asgT (.nm (i + 1)) d (x :: env) = (asgT (.nm i) d env).map (x :: ·) := by
  unfold asgT
  by_cases h : i < env.length
  · rw [if_pos h, if_pos (by simpa using h)]
    rfl
  · rw [if_neg h, if_neg (by simpa using h)]
    rfl
@[simp] theorem asg_tp (ts : List Tg) (ds : List D) (env : Env) : asgT (.tp ts) (.tup ds) env = asgTs ts ds env := by rw [asgT]
@[simp] theorem asgs_nil (env : Env) : asgTs [] [] env = some env := by rw [asgTs]
@[simp] theorem asgs_cons (t : Tg) (ts : List Tg) (d : D) (ds : List D) (env : Env) : asgTs (t :: ts) (d :: ds) env = (asgT t d env).bind fun env' => asgTs ts ds env' := by
  rw [asgTs]
  cases asgT t d env <;> rfl
end
end Y

namespace Y
open PySem
/-- an answer that may be lacking -/
def wpO {a : Type} (o : Option a) (K : a → Prop) : Prop := match o with
  | some v => K v
  | none => False
@[simp] theorem wpO_some {a : Type} (v : a) (K : a → Prop) : wpO (some v) K = K v := rfl
@[simp] theorem wpO_none {a : Type} (K : a → Prop) : wpO none K = False := rfl
@[simp] theorem wp_rdO {a : Type} (n : Nat) (f : Cell → Option a) (Q : a → Sto → Prop) (st : Sto) : wp (rd n f) Q st = wpO (st[n]?.bind f) (fun v => Q v st) := by
  unfold wp rd wpO
  cases st[n]?.bind f <;> rfl
@[simp] theorem wp_ofOO {a : Type} (o : Option a) (Q : a → Sto → Prop) (st : Sto) : wp (ofO o) Q st = wpO o (fun v => Q v st) := by
  cases o <;> rfl
section
variable {Q : D → Sto → Prop} {K : Bool → Sto → Prop} {st : Sto}
@[simp] theorem b_add (i j : Int) : wp (binop .add (.int i) (.int j)) Q st = Q (.int (i + j)) st := rfl
@[simp] theorem b_sub (i j : Int) : wp (binop .sub (.int i) (.int j)) Q st = Q (.int (i - j)) st := rfl
@[simp] theorem b_mul (i j : Int) : wp (binop .mul (.int i) (.int j)) Q st = ((bigZ i || bigZ j) = true ∧ Q (.int (i * j)) st) := by
  show wp (do need (bigZ i || bigZ j); pure (.int (i * j))) Q st = _
  rw [wp_bind, wp_need]
  rfl
@[simp] theorem b_fdv (i j : Int) : wp (binop .fdv (.int i) (.int j)) Q st = ((0 < j ∧ j < 1073741824) ∧ Q (.int (i / j)) st) := by
  show wp (do need (decide (0 < j) && decide (j < 1073741824)); pure (.int (i / j))) Q st = _
  rw [wp_bind, wp_need]
  simp
@[simp] theorem b_mod (i j : Int) : wp (binop .mod (.int i) (.int j)) Q st = (0 < j ∧ Q (.int (i % j)) st) := by
  show wp (do need (decide (0 < j)); pure (.int (i % j))) Q st = _
  rw [wp_bind, wp_need]
  simp
@[simp] theorem b_pow (i j : Int) : wp (binop .pow (.int i) (.int j)) Q st = ((decide (0 ≤ j) && decide (j ≤ 1000) && bigZ i) = true ∧ Q (.int (i ^ j.toNat)) st) := by
  show wp (do need (decide (0 ≤ j) && decide (j ≤ 1000) && bigZ i); pure (.int (i ^ j.toNat))) Q st = _
  rw [wp_bind, wp_need]
  rfl
@[simp] theorem b_adds (x y : Str) : wp (binop .add (.str x) (.str y)) Q st = (x.length + y.length ≤ 16000000 ∧ Q (.str (x ++ y)) st) := by
  show wp (do lenOk (x.length + y.length); pure (.str (x ++ y))) Q st = _
  rw [wp_bind, wp_lenOk]
  rfl
@[simp] theorem b_addt (x y : List D) : wp (binop .add (.tup x) (.tup y)) Q st = (x.length + y.length ≤ 16000000 ∧ Q (.tup (x ++ y)) st) := by
  show wp (do lenOk (x.length + y.length); pure (.tup (x ++ y))) Q st = _
  rw [wp_bind, wp_lenOk]
  rfl
@[simp] theorem b_addl (n m : Nat) : wp (binop .add (.ob n) (.ob m)) Q st = wpO (st[n]?.bind Cell.seq) fun x => wpO (st[m]?.bind Cell.seq) fun y => x.length + y.length ≤ 16000000 ∧ Q (.ob st.length) (st ++ [.lst (x ++ y)]) := by
  show wp (do
    let x ← lstOf n
    let y ← lstOf m
    lenOk (x.length + y.length)
    newC (.lst (x ++ y))) Q st = _
  unfold lstOf
  simp only [wp_bind, wp_rdO, wp_lenOk, wp_newC]
@[simp] theorem n_neg (i : Int) : wp (negop (.int i)) Q st = Q (.int (-i)) st := rfl
/-! ### looking -/
@[simp] theorem s_tup (ds : List D) (i : Int) : wp (subop (.tup ds) (.int i)) Q st = wpO (L2.atI ds i) (fun v => Q v st) := by
  show wp (ofO (L2.atI ds i)) Q st = _
  rw [wp_ofOO]
@[simp] theorem s_ro (ds : List D) (i : Int) : wp (subop (.ro ds) (.int i)) Q st = wpO (L2.atI ds i) (fun v => Q v st) := by
  show wp (ofO (L2.atI ds i)) Q st = _
  rw [wp_ofOO]
@[simp] theorem s_ob (n : Nat) (k : D) : wp (subop (.ob n) k) Q st = wpO (st[n]?.bind (Cell.item k)) (fun v => Q v st) := by
  show wp (rd n (Cell.item k)) Q st = _
  rw [wp_rdO]
@[simp] theorem s_str (z : Str) (i : Int) : wp (subop (.str z) (.int i)) Q st = (z.length ≤ 16000000 ∧ wpO (L2.atI z.cps.toList i) (fun c => Q (.str ⟨#[c]⟩) st)) := by
  show wp (do lenOk z.length; ofO ((L2.atI z.cps.toList i).map fun c => .str ⟨#[c]⟩)) Q st = _
  rw [wp_bind, wp_lenOk, wp_ofOO]
  cases L2.atI z.cps.toList i <;> rfl
@[simp] theorem it_lst (ds : List D) (i : Int) : Cell.item (.int i) (.lst ds) = L2.atI ds i := rfl
@[simp] theorem sq_lst (ds : List D) : Cell.seq (.lst ds) = some ds := rfl
@[simp] theorem sz_lst (ds : List D) : Cell.size (.lst ds) = some ds.length := rfl
@[simp] theorem sz_dct (ds : List (D × D)) : Cell.size (.dct ds) = some ds.length := rfl
@[simp] theorem pt_lst (ds : List D) (i : Int) (v : D) : Cell.put (.int i) v (.lst ds) = (L2.ixN ds.length i).map fun j => .lst (ds.set j v) := rfl
theorem wpO_len {a : Type} {st : Sto} {n : Nat} {f : Cell → Option a} {K K' : a → Prop} (h : ∀ v, (K v) = (n < st.length ∧ K' v)) : wpO (st[n]?.bind f) K = wpO (st[n]?.bind f) K' := by
  cases e : st[n]? with
  | none => rfl
  | some c =>
    have hl : n < st.length := (List.getElem?_eq_some_iff.mp e).1
    show wpO (f c) K = wpO (f c) K'
    cases f c with
    | none => rfl
    | some v =>
      show K v = K' v
      rw [h v]
      simp [hl]
@[simp] theorem w_setI {Q : Unit → Sto → Prop} (n : Nat) (k v : D) : wp (setIop (.ob n) k v) Q st = wpO (st[n]?.bind (Cell.put k v)) fun c => Q () (st.set n c) := by
  show wp (do
    let c ← rd n (Cell.put k v)
    setC n c) Q st = _
  simp only [wp_bind, wp_rdO, wp_setC]
  exact wpO_len fun _ => rfl
theorem at_nat {a : Type} {xs : List a} {j : Nat} {v : a} (h : xs[j]? = some v) : L2.atI xs (j : Int) = some v := by
  unfold L2.atI L2.ixN
  have hj : j < xs.length := (List.getElem?_eq_some_iff.mp h).1
  rw [if_pos (by omega), if_pos (by exact_mod_cast hj)]
  show xs[((j : Nat) : Int).toNat]? = some v
  rw [Int.toNat_natCast]
  exact h
theorem at_int {a : Type} {xs : List a} {i : Int} (h0 : 0 ≤ i) (h1 : i < xs.length) : ∃ v, L2.atI xs i = some v ∧ v ∈ xs := by
  obtain ⟨j, rfl⟩ := Int.eq_ofNat_of_zero_le h0
  have hj : j < xs.length := by exact_mod_cast h1
  exact ⟨xs[j], at_nat (by simp [hj]), List.getElem_mem hj⟩
@[simp] theorem at_0 {a : Type} (x : a) (xs : List a) : L2.atI (x :: xs) 0 = some x := at_nat (j := 0) rfl
@[simp] theorem at_1 {a : Type} (x y : a) (xs : List a) : L2.atI (x :: y :: xs) 1 = some y := at_nat (j := 1) rfl
@[simp] theorem at_2 {a : Type} (x y z : a) (xs : List a) : L2.atI (x :: y :: z :: xs) 2 = some z := at_nat (j := 2) rfl
@[simp] theorem ix_0 (n : Nat) : L2.ixN (n + 1) 0 = some 0 := by
  unfold L2.ixN
  rw [if_pos (by omega), if_pos (by omega)]
  rfl
@[simp] theorem ix_1 (n : Nat) : L2.ixN (n + 2) 1 = some 1 := by
  unfold L2.ixN
  rw [if_pos (by omega), if_pos (by omega)]
  rfl
/-! ### comparing -/
@[simp] theorem c_lt (i j : Int) : wp (cmpop .lt (.int i) (.int j)) K st = K (decide (i < j)) st := rfl
@[simp] theorem c_le (i j : Int) : wp (cmpop .le (.int i) (.int j)) K st = K (decide (i ≤ j)) st := rfl
@[simp] theorem c_gt (i j : Int) : wp (cmpop .gt (.int i) (.int j)) K st = K (decide (j < i)) st := rfl
@[simp] theorem c_ge (i j : Int) : wp (cmpop .ge (.int i) (.int j)) K st = K (decide (j ≤ i)) st := rfl
@[simp] theorem c_isnot (i j : Bool) : wp (cmpop .isnot (.bl i) (.bl j)) K st = K (!decide (i = j)) st := rfl
@[simp] theorem c_is (i j : Bool) : wp (cmpop .is (.bl i) (.bl j)) K st = K (decide (i = j)) st := rfl
@[simp] theorem c_isN (d : D) : wp (cmpop .is d .non) K st = K (decide (d = .non)) st := by
  cases d <;> rfl
@[simp] theorem c_isnotN (d : D) : wp (cmpop .isnot d .non) K st = K (!decide (d = .non)) st := by
  cases d <;> rfl
@[simp] theorem c_eq (d e : D) : wp (cmpop .eq d e) K st = wp (eqop d e) K st := rfl
@[simp] theorem c_ne (d e : D) : wp (cmpop .ne d e) K st = wp (eqop d e) (fun r s => K (!r) s) st := by
  show wp (do let r ← eqop d e; pure (!r)) K st = _
  rw [wp_bind]
  rfl
@[simp] theorem c_in (d e : D) : wp (cmpop .inn d e) K st = wp (inop d e) K st := rfl
@[simp] theorem c_nin (d e : D) : wp (cmpop .nin d e) K st = wp (inop d e) (fun r s => K (!r) s) st := by
  show wp (do let r ← inop d e; pure (!r)) K st = _
  rw [wp_bind]
  rfl
theorem beq_dec {a : Type} [DecidableEq a] [BEq a] [LawfulBEq a] (x y : a) : (x == y) = decide (x = y) := by
  by_cases h : x = y
  · subst h
    simp
  · rw [decide_eq_false h, beq_eq_false_iff_ne]
    exact h
@[simp] theorem e_int (i j : Int) : wp (eqop (.int i) (.int j)) K st = K (decide (i = j)) st := by
  show K (PyData.eqv (.int i) (.int j)) st = _
  rw [PyData.eqv, beq_dec]
def flatD (d : D) : Bool := match d with
  | .ob _ => false
  | .ro _ => false
  | _ => true
theorem e_flat {d e : D} (hd : d.okEq = true) (he : e.okEq = true) : wp (eqop d e) K st = K (PyData.eqv d.py e.py) st := by
  have one : ∀ (d : D), d.okEq = true → ∀ (Q : PyData → Sto → Prop) st, wp (pyTop d) Q st = Q d.py st := by
    intro d hd Q st
    have : pyTop d = (do need d.okEq; pure d.py : M PyData) := by
      cases d with
      | ob n => cases hd
      | _ => rfl
    rw [this, wp_bind, wp_need, hd]
    simp
  unfold eqop
  split
  · rename_i x y
    show K (decide (x = y)) st = K (PyData.eqv (.str x) (.str y)) st
    rw [PyData.eqv, beq_dec]
  · unfold eqopD
    rw [wp_bind, one d hd, wp_bind, one e he]
    rfl
@[simp] theorem e_str (x y : Str) : wp (eqop (.str x) (.str y)) K st = K (decide (x = y)) st := rfl
theorem okEq_str {x : Str} (h : PyData.strOk x = true) : (D.str x).okEq = true := by
  show (PyData.strOk x && _) = true
  rw [h]
  rfl
@[simp] theorem in_tup (x : D) (ds : List D) : wp (inop x (.tup ds)) K st = ((keyOk1 x && ds.all keyOk1) = true ∧ K (ds.any fun z => decide (z = x)) st) := by
  show wp (do need (keyOk1 x && ds.all keyOk1); pure (ds.any fun z => decide (z = x))) K st = _
  rw [wp_bind, wp_need]
  rfl
/-! ### types -/
@[simp] theorem t_int (i : Int) (ts : List Ty) : wp (isiop ts (.int i)) K st = K (ts.any fun t => tyIs t .int) st := rfl
@[simp] theorem t_bl (i : Bool) (ts : List Ty) : wp (isiop ts (.bl i)) K st = K (ts.any fun t => tyIs t .bool) st := rfl
@[simp] theorem t_str (i : Str) (ts : List Ty) : wp (isiop ts (.str i)) K st = K (ts.any fun t => tyIs t .str) st := rfl
@[simp] theorem t_tup (i : List D) (ts : List Ty) : wp (isiop ts (.tup i)) K st = K (ts.any fun t => tyIs t .tuple) st := rfl
@[simp] theorem t_non (ts : List Ty) : wp (isiop ts .non) K st = K (ts.any fun t => tyIs t .non) st := rfl
@[simp] theorem t_ob (n : Nat) (ts : List Ty) : wp (isiop ts (.ob n)) K st = wpO (st[n]?.bind Cell.tag) (fun g => K (ts.any fun t => tyIs t g) st) := by
  show wp (do
    let g ← rd n Cell.tag
    pure (ts.any fun t => tyIs t g)) K st = _
  rw [wp_bind, wp_rdO]
  rfl
@[simp] theorem tg_lst (ds : List D) : Cell.tag (.lst ds) = some .list := rfl
@[simp] theorem tg_dct (ds : List (D × D)) : Cell.tag (.dct ds) = some .dict := rfl
@[simp] theorem ty_ii : tyIs .int .int = true := rfl
@[simp] theorem ty_bi : tyIs .bool .int = false := rfl
@[simp] theorem ty_bb : tyIs .bool .bool = true := rfl
@[simp] theorem ty_ib : tyIs .int .bool = true := rfl
@[simp] theorem ty_tt : tyIs .tuple .tuple = true := rfl
@[simp] theorem ty_ss : tyIs .str .str = true := rfl
@[simp] theorem ty_ts : tyIs .tuple .str = false := rfl
@[simp] theorem ty_ti : tyIs .tuple .int = false := rfl
@[simp] theorem ty_si : tyIs .str .int = false := rfl
@[simp] theorem ty_is : tyIs .int .str = false := rfl
@[simp] theorem ty_tl : tyIs .tuple .list = false := rfl
@[simp] theorem ty_ll : tyIs .list .list = true := rfl
@[simp] theorem ty_lt : tyIs .list .tuple = false := rfl
@[simp] theorem ty_st : tyIs .str .tuple = false := rfl
@[simp] theorem ty_it : tyIs .int .tuple = false := rfl
@[simp] theorem ty_bt : tyIs .bool .tuple = false := rfl
@[simp] theorem ty_bs : tyIs .bool .str = false := rfl
/-! ### built-ins -/
@[simp] theorem bi_len_t (ds : List D) : wp (biop .len [.tup ds]) Q st = Q (.int ds.length) st := rfl
@[simp] theorem bi_len_r (ds : List D) : wp (biop .len [.ro ds]) Q st = Q (.int ds.length) st := rfl
@[simp] theorem bi_len_s (z : Str) : wp (biop .len [.str z]) Q st = (z.length ≤ 16000000 ∧ Q (.int z.length) st) := by
  show wp (do lenOk z.length; pure (.int z.length)) Q st = _
  rw [wp_bind, wp_lenOk]
  rfl
@[simp] theorem bi_len_o (n : Nat) : wp (biop .len [.ob n]) Q st = wpO (st[n]?.bind Cell.size) (fun k => Q (.int (k : Nat)) st) := by
  show wp (do
    let k ← rd n Cell.size
    pure (.int (k : Nat))) Q st = _
  rw [wp_bind, wp_rdO]
  rfl
@[simp] theorem sqo (n : Nat) : seqOf (.ob n) = rd n Cell.seq := rfl
@[simp] theorem sqt (ds : List D) : seqOf (.tup ds) = pure ds := rfl
@[simp] theorem sqr (ds : List D) : seqOf (.ro ds) = pure ds := rfl
@[simp] theorem bi_tup (n : Nat) : wp (biop .tuple [.ob n]) Q st = wpO (st[n]?.bind Cell.seq) (fun ds => Q (.tup ds) st) := by
  show wp (do
    let ds ← seqOf (.ob n)
    pure (.tup ds)) Q st = _
  rw [wp_bind, sqo, wp_rdO]
  rfl
@[simp] theorem bi_list (n : Nat) : wp (biop .list [.ob n]) Q st = wpO (st[n]?.bind Cell.seq) (fun ds => Q (.ob st.length) (st ++ [.lst ds])) := by
  show wp (do
    let ds ← seqOf (.ob n)
    newC (.lst ds)) Q st = _
  rw [wp_bind, sqo, wp_rdO]
  rfl
@[simp] theorem bi_all (n : Nat) : wp (biop .all [.ob n]) Q st = wpO (st[n]?.bind Cell.seq) (fun ds => wpO (allBl ds) fun bs => Q (.bl (bs.all id)) st) := by
  show wp (do
    let ds ← seqOf (.ob n)
    let bs ← ofO (allBl ds)
    pure (.bl (bs.all id))) Q st = _
  simp only [wp_bind, sqo, wp_rdO, wp_ofOO, wp_pure]
@[simp] theorem bi_int_b (b : Bool) : wp (biop .int [.bl b]) Q st = Q (.int (if b then 1 else 0)) st := rfl
@[simp] theorem bi_int_i (i : Int) : wp (biop .int [.int i]) Q st = Q (.int i) st := rfl
@[simp] theorem bi_max2 (i j : Int) : wp (biop .max [.int i, .int j]) Q st = Q (.int (if j > i then j else i)) st := rfl
@[simp] theorem bi_min2 (i j : Int) : wp (biop .min [.int i, .int j]) Q st = Q (.int (if j < i then j else i)) st := rfl
@[simp] theorem bi_repr (d : D) : wp (biop .repr [d]) Q st = wpO (reprOf st d) (fun z => Q (.str z) st) := by
  show wp (fun s => match reprOf s d with
    | some z => .ok (.str z) s
    | none => .err) Q st = _
  simp only [wp]
  cases reprOf st d <;> rfl
@[simp] theorem mt_ty_o (m : Mt) (n : Nat) {Q : Unit → Sto → Prop} (hm : m ≠ .upper) (hj : m ≠ .join) (hg : m ≠ .get) (hi : m ≠ .items) : wp (mtTy m (.ob n)) Q st = wpO (st[n]?.bind Cell.seq) (fun _ => Q () st) := by
  cases m <;> first | contradiction | skip
  all_goals
    show wp (rd n fun c => c.seq.map fun _ => ()) Q st = _
    rw [wp_rdO]
    cases st[n]? with
    | none => rfl
    | some c => cases c <;> rfl
@[simp] theorem mt_ty_u (z : Str) {Q : Unit → Sto → Prop} : wp (mtTy .upper (.str z)) Q st = Q () st := rfl
@[simp] theorem mt_ty_j (z : Str) {Q : Unit → Sto → Prop} : wp (mtTy .join (.str z)) Q st = Q () st := rfl
@[simp] theorem m_append (n : Nat) (d : D) : wp (mtop .append (.ob n) [d]) Q st = wpO (st[n]?.bind Cell.seq) fun ds => ds.length + 1 ≤ 16000000 ∧ Q .non (st.set n (.lst (ds ++ [d]))) := by
  show wp (do
    let ds ← lstOf n
    lenOk (ds.length + 1)
    setC n (.lst (ds ++ [d]))
    pure .non) Q st = _
  unfold lstOf
  simp only [wp_bind, wp_rdO, wp_lenOk, wp_setC, wp_pure]
  exact wpO_len fun v => by
    rw [and_left_comm]
@[simp] theorem m_extend (n m : Nat) : wp (mtop .extend (.ob n) [.ob m]) Q st = ((n != m) = true ∧ wpO (st[n]?.bind Cell.seq) fun ds => wpO (st[m]?.bind Cell.seq) fun es => ds.length + es.length ≤ 16000000 ∧ Q .non (st.set n (.lst (ds ++ es)))) := by
  show wp (do
    need (n != m)
    let ds ← lstOf n
    let es ← lstOf m
    lenOk (ds.length + es.length)
    setC n (.lst (ds ++ es))
    pure .non) Q st = _
  unfold lstOf
  simp only [wp_bind, wp_need, wp_rdO, wp_lenOk, wp_setC, wp_pure]
  congr 1
  exact wpO_len fun v => by
    cases st[m]?.bind Cell.seq with
    | none => simp
    | some es =>
      simp only [wpO_some]
      rw [and_left_comm]
@[simp] theorem m_upper (z : Str) : wp (mtop .upper (.str z) []) Q st = (z.length ≤ 5000000 ∧ Q (.str (Txt.upper z)) st) := by
  show wp (do
    need (decide (z.length ≤ 5000000))
    pure (.str (Txt.upper z))) Q st = _
  simp
@[simp] theorem m_join (z : Str) (n : Nat) : wp (mtop .join (.str z) [.ob n]) Q st = wpO (st[n]?.bind Cell.seq) fun ds => wpO (allStr ds) fun xs => (xs.map (·.length)).sum + xs.length * z.length ≤ 16000000 ∧ Q (.str (Txt.join z xs)) st := by
  show wp (do
    let ds ← seqOf (.ob n)
    let xs ← ofO (allStr ds)
    lenOk ((xs.map (·.length)).sum + xs.length * z.length)
    pure (.str (Txt.join z xs))) Q st = _
  simp only [wp_bind, sqo, wp_rdO, wp_ofOO, wp_lenOk, wp_pure]
theorem m_index (n : Nat) (d : D) : wp (mtop .index (.ob n) [d]) Q st = wpO (st[n]?.bind Cell.seq) fun ds => (d.okEq && (D.tup ds).okEq) = true ∧ wpO (ds.findIdx? fun z => PyData.eqv z.py d.py) fun j => Q (.int j) st := by
  show wp (do
    let ds ← seqOf (.ob n)
    need (d.okEq && (D.tup ds).okEq)
    match ds.findIdx? fun z => PyData.eqv z.py d.py with
    | some j => pure (.int j)
    | none => fail) Q st = _
  simp only [wp_bind, sqo, wp_rdO, wp_need]
  congr 1
  funext ds
  congr 1
  cases ds.findIdx? fun z => PyData.eqv z.py d.py <;> rfl
/-! ### slices -/
@[simp] theorem sl_t (ds : List D) (lo hi : Option Int) : wp (sliop (.tup ds) lo hi) Q st = Q (.tup (cutD ds lo hi)) st := rfl
@[simp] theorem sl_s (z : Str) (lo hi : Option Int) : wp (sliop (.str z) lo hi) Q st = (z.length ≤ 16000000 ∧ Q (.str (L2.cutS z lo hi)) st) := by
  show wp (do lenOk z.length; pure (.str (L2.cutS z lo hi))) Q st = _
  rw [wp_bind, wp_lenOk]
  rfl
@[simp] theorem sl_r (ds : List D) (lo hi : Option Int) : wp (sliop (.ro ds) lo hi) Q st = Q (.ob st.length) (st ++ [.lst (cutD ds lo hi)]) := rfl
@[simp] theorem sl_o (n : Nat) (lo hi : Option Int) : wp (sliop (.ob n) lo hi) Q st = wpO (st[n]?.bind Cell.seq) fun ds => Q (.ob st.length) (st ++ [.lst (cutD ds lo hi)]) := by
  show wp (do
    let ds ← seqOf (.ob n)
    newC (.lst (cutD ds lo hi))) Q st = _
  simp only [wp_bind, sqo, wp_rdO, wp_newC]
/-! ### walks -/
section
variable {Q : List D × Gd → Sto → Prop}
@[simp] theorem wk_t (ds : List D) : wp (walkOf .seq [.tup ds]) Q st = Q (ds, fun _ => true) st := rfl
@[simp] theorem wk_r (ds : List D) : wp (walkOf .seq [.ro ds]) Q st = Q (ds, fun _ => true) st := rfl
@[simp] theorem wk_o (n : Nat) : wp (walkOf .seq [.ob n]) Q st = wpO (st[n]?.bind Cell.seq) fun ds => Q (ds, fun s => decide (s[n]?.bind Cell.seq = some ds)) st := by
  show wp (do
    let ds ← seqOf (.ob n)
    pure (ds, gdOf (.ob n) ds)) Q st = _
  simp only [wp_bind, sqo, wp_rdO]
  rfl
@[simp] theorem wk_r1 (n : Int) : wp (walkOf .rng1 [.int n]) Q st = (small n = true ∧ Q (rangeD 0 n.toNat, fun _ => true) st) := by
  show wp (do
    need (small n)
    pure (rangeD 0 n.toNat, fun _ => true)) Q st = _
  simp only [wp_bind, wp_need]
  rfl
@[simp] theorem wk_r2 (a b : Int) : wp (walkOf .rng2 [.int a, .int b]) Q st = ((small a && small b) = true ∧ Q (rangeD a (b - a).toNat, fun _ => true) st) := by
  show wp (do
    need (small a && small b)
    pure (rangeD a (b - a).toNat, fun _ => true)) Q st = _
  simp only [wp_bind, wp_need]
  rfl
@[simp] theorem wk_z (ds es : List D) : wp (walkOf .zip [.tup ds, .tup es]) Q st = Q ((ds.zip es).map fun p => D.tup [p.1, p.2], fun _ => true) st := by
  show wp (do
    let ds ← (pure ds : M (List D))
    let es ← (pure es : M (List D))
    need (isL (.tup ds) == isL (.tup es))
    pure ((ds.zip es).map fun p => D.tup [p.1, p.2], fun s => gdOf (.tup ds) ds s && gdOf (.tup es) es s)) Q st = _
  simp only [wp_bind, wp_pure, wp_need]
  simp [isL, gdOf]
end
end
/-! ### loops -/
theorem wp_for {tg : Tg} {body : Env → M (Fl × Env)} {g : Gd} {Q : Fl × Env → Sto → Prop} (I : Nat → Env → Sto → Prop) : ∀ {ds : List D} {i : Nat} {env : Env} {st : Sto}, I i env st →
    (∀ j d env st, ds[j]? = some d → I (i + j) env st → g st = true ∧ wpO (asgT tg d env) fun env' => wp (body env') (fun r s => match r.1 with
      | .ret v => Q (.ret v, r.2) s
      | .brk => Q (.next, r.2) s
      | _ => I (i + j + 1) r.2 s) st) → (∀ env st, I (i + ds.length) env st → g st = true ∧ Q (.next, env) st) → wp (forL tg body g ds env) Q st
  | [], i, env, st, h0, hs, he => by
    rw [forL, wp_bind, wp_chk]
    exact he env st h0
  | d :: ds, i, env, st, h0, hs, he => by
    obtain ⟨h1, h2⟩ := hs 0 d env st rfl h0
    rw [forL, wp_bind, wp_chk]
    refine ⟨h1, ?_⟩
    rw [wp_bind, wp_ofOO]
    cases e : asgT tg d env with
    | none =>
      rw [e] at h2
      exact h2
    | some env' =>
      rw [e] at h2
      show wp _ Q st
      rw [wp_bind]
      refine wp_mono h2 fun r s q => ?_
      obtain ⟨f, e2⟩ := r
      have go : I (i + 0 + 1) e2 s → wp (forL tg body g ds e2) Q s := fun h => wp_for I (ds := ds) (i := i + 1) h (fun j d env st hj hI => by
        have := hs (j + 1) d env st (by simpa using hj) (by rw [show i + (j + 1) = i + 1 + j by omega]; exact hI)
        rw [show i + (j + 1) + 1 = i + 1 + j + 1 by omega] at this
        exact this) fun env st hI => he env st (by rw [show i + (d :: ds).length = i + 1 + ds.length by simp; omega]; exact hI)
      cases f with
      | next => exact go q
      | cont => exact go q
      | ret v => exact q
      | brk => exact q
theorem wp_comp {tg : Tg} {t : Env → M Bool} {f : Env → M D} {g : Gd} {env : Env} {Q : List D → Sto → Prop} (I : Nat → List D → Sto → Prop) : ∀ {ds : List D} {i : Nat} {acc : List D} {st : Sto}, I i acc st →
    (∀ j d acc st, ds[j]? = some d → I (i + j) acc st → g st = true ∧ wpO (asgT tg d env) fun env' => wp (t env') (fun b s => if b = true then wp (f env') (fun v s => acc.length + 1 ≤ 16000000 ∧ I (i + j + 1) (acc ++ [v]) s) s else I (i + j + 1) acc s) st) →
    (∀ acc st, I (i + ds.length) acc st → g st = true ∧ Q acc st) → wp (compL tg t f g env ds acc) Q st
  | [], i, acc, st, h0, hs, he => by
    rw [compL, wp_bind, wp_chk]
    exact he acc st h0
  | d :: ds, i, acc, st, h0, hs, he => by
    obtain ⟨h1, h2⟩ := hs 0 d acc st rfl h0
    rw [compL, wp_bind, wp_chk]
    refine ⟨h1, ?_⟩
    rw [wp_bind, wp_ofOO]
    have go : ∀ acc s, I (i + 0 + 1) acc s → wp (compL tg t f g env ds acc) Q s := fun acc s h => wp_comp I (ds := ds) (i := i + 1) h (fun j d acc st hj hI => by
      have := hs (j + 1) d acc st (by simpa using hj) (by rw [show i + (j + 1) = i + 1 + j by omega]; exact hI)
      rw [show i + (j + 1) + 1 = i + 1 + j + 1 by omega] at this
      exact this) fun acc st hI => he acc st (by rw [show i + (d :: ds).length = i + 1 + ds.length by simp; omega]; exact hI)
    cases e : asgT tg d env with
    | none =>
      rw [e] at h2
      exact h2
    | some env' =>
      rw [e] at h2
      show wp _ Q st
      rw [wp_bind]
      refine wp_mono h2 fun b s q => ?_
      cases b with
      | true =>
        rw [if_pos rfl] at q
        rw [if_pos rfl, wp_bind]
        refine wp_mono q fun v s q => ?_
        rw [wp_bind, wp_lenOk]
        exact ⟨q.1, go _ _ q.2⟩
      | false =>
        rw [if_neg (by simp)] at q
        rw [if_neg (by simp)]
        exact go _ _ q
/-- a comprehension without tests: item by item -/
theorem wp_compE {tg : Tg} {f : Env → M D} {g : Gd} {env : Env} {Q : List D → Sto → Prop} {G : Ctx} {ds : List D} {st : Sto} (R : Sto → Sto → Prop) (P : Nat → D → Prop) (refl : R st st) (hl : ds.length ≤ 16000000)
    (hs : ∀ j d s, ds[j]? = some d → R st s → g s = true ∧ wpO (asgT tg d env) fun env' => wp (f env') (fun v s' => R st s' ∧ P j v) s) (he : ∀ s vs, R st s → vs.length = ds.length → (∀ j v, vs[j]? = some v → P j v) → g s = true ∧ Q vs s) :
    wp (compL tg (fun env => calmly (evTs G [] env)) f g env ds []) Q st := by
  refine wp_comp (fun i acc s => R st s ∧ acc.length = i ∧ ∀ j v, acc[j]? = some v → P j v) (i := 0) ⟨refl, rfl, fun j v h => by simp at h⟩ (fun j d acc s hj ⟨h1, h2, h3⟩ => ?_) fun acc s ⟨h1, h2, h3⟩ => he s acc h1 (by simpa using h2) h3
  obtain ⟨k1, k2⟩ := hs j d s hj h1
  refine ⟨k1, ?_⟩
  have hj2 : j < ds.length := (List.getElem?_eq_some_iff.mp hj).1
  cases e : asgT tg d env with
  | none =>
    rw [e] at k2
    exact k2
  | some env' =>
    rw [e] at k2
    simp only [wpO_some, wp_calmly, wts_nil, if_true] at k2 ⊢
    refine wp_mono k2 fun v s' ⟨q1, q2⟩ => ⟨by omega, q1, by simp [h2], fun i w hi => ?_⟩
    by_cases hh : i < acc.length
    · rw [List.getElem?_append_left hh] at hi
      exact h3 i w hi
    · rw [List.getElem?_append_right (by omega)] at hi
      have : i - acc.length = 0 := by
        by_cases z : i - acc.length = 0
        · exact z
        · exfalso
          have : ([v] : List D)[i - acc.length]? = none := by
            rw [List.getElem?_eq_none]
            simp
            omega
          rw [this] at hi
          cases hi
      rw [this] at hi
      simp at hi
      subst hi
      have : i = j := by omega
      subst this
      exact q2
end Y

/-! What the laws' helpers do. -/
namespace Y
open PySem
/-- the store goes on: what lies outside A stays -/
structure Ch (A : List Nat) (s s' : Sto) : Prop where
  len : s.length ≤ s'.length
  keep : ∀ i, i < s.length → i ∉ A → s'[i]? = s[i]?
theorem Ch.refl (A : List Nat) (s : Sto) : Ch A s s := ⟨Nat.le_refl _, fun _ _ _ => rfl⟩
theorem Ch.trans {A : List Nat} {s s1 s2 : Sto} (h : Ch A s s1) (k : Ch A s1 s2) : Ch A s s2 := ⟨Nat.le_trans h.len k.len, fun i hi hA => (k.keep i (Nat.lt_of_lt_of_le hi h.len) hA).trans (h.keep i hi hA)⟩
theorem Ch.mono {A B : List Nat} {s s1 : Sto} (h : Ch A s s1) (k : ∀ i ∈ A, i ∈ B) : Ch B s s1 := ⟨h.len, fun i hi hA => h.keep i hi fun z => hA (k i z)⟩
theorem Ch.get {A : List Nat} {s s1 : Sto} {i : Nat} {c : Cell} (h : Ch A s s1) (hc : s[i]? = some c) (hA : i ∉ A) : s1[i]? = some c := by
  rw [h.keep i (List.getElem?_eq_some_iff.mp hc).1 hA]
  exact hc
theorem Ch.app (A : List Nat) (s t : Sto) : Ch A s (s ++ t) := ⟨by simp, fun i hi _ => List.getElem?_append_left hi⟩
theorem Ch.set (s : Sto) (a : Nat) (c : Cell) : Ch [a] s (s.set a c) := ⟨by simp, fun i hi hA => by
  rw [List.getElem?_set_ne]
  simp at hA
  exact fun e => hA e.symm⟩
/-- a feed -/
def Fd (s : Sto) (a : Nat) : Prop := ∃ f0 f1 : Int, s[a]? = some (.lst [.int f0, .int f1]) ∧ 0 ≤ f0 ∧ 0 < f1
theorem Fd.keep {A : List Nat} {s s1 : Sto} {a : Nat} (h : Fd s a) (c : Ch A s s1) (hA : a ∉ A) : Fd s1 a := by
  obtain ⟨f0, f1, h1, h2⟩ := h
  exact ⟨f0, f1, c.get h1 hA, h2⟩
def takeFn : Fn := ⟨2, 4, [(.ite (.cmp .gt (.sub (.var 0) (.cst (.int 0))) (.cst (.int 0))) [(.asg (.nm 3) (.bin .mod (.sub (.var 0) (.cst (.int 0))) (.var 1))), (.setI (.var 0) (.cst (.int 0)) (.bin .fdv (.sub (.var 0) (.cst (.int 0))) (.var 1))), (.ret (.var 3))] []), (.asg (.nm 2) (.bin .mod (.bin .mul (.sub (.var 0) (.cst (.int 1))) (.cst (.int 48271))) (.cst (.int 2147483647)))), (.setI (.var 0) (.cst (.int 1)) (.bin .add (.bin .mod (.bin .add (.bin .mul (.var 2) (.cst (.int 40692))) (.cst (.int 30103))) (.cst (.int 2147483399))) (.cst (.int 1)))), (.ret (.bin .mod (.bin .fdv (.bin .add (.bin .mul (.var 2) (.cst (.int 2147483647))) (.sub (.var 0) (.cst (.int 1)))) (.cst (.int 8191))) (.var 1)))]⟩
theorem take_ok {P : Prog} {W n i a : Nat} {m : Int} {st : Sto} {Q : D → Sto → Prop} (h : P.fns[i]? = some takeFn) (hf : Fd st a) (h0 : 0 < m) (h1 : m < 1073741824)
    (k : ∀ (r : Int) (s : Sto), 0 ≤ r → r < m → Ch [a] st s → s.length = st.length → Fd s a → Q (.int r) s) : wp (evF P W (n + 1) i [.ob a, .int m]) Q st := by
  obtain ⟨f0, f1, hc, hf0, hf1⟩ := hf
  have hlt : a < st.length := (List.getElem?_eq_some_iff.mp hc).1
  refine wp_evF h rfl ?_
  simp [takeFn, hc, h0, h1, bigZ, List.getElem?_set_self']
  split
  · rename_i hp
    refine k _ _ (Int.emod_nonneg _ (by omega)) (Int.emod_lt_of_pos _ h0) (Ch.set _ _ _) (by simp) ⟨f0 / m, f1, by simp [hlt], Int.ediv_nonneg hf0 (by omega), hf1⟩
  · refine k _ _ (Int.emod_nonneg _ (by omega)) (Int.emod_lt_of_pos _ h0) (Ch.set _ _ _) (by simp) ⟨f0, _, by simp [hlt]; rfl, hf0, ?_⟩
    have := Int.emod_nonneg (f1 * 48271 % 2147483647 * 40692 + 30103) (b := 2147483399) (by omega)
    omega

/-! ### words -/
abbrev sl (x : Str) : List Nat := x.cps.toList
theorem sl_app (x y : Str) : sl (x ++ y) = sl x ++ sl y := by
  show (x.cps ++ y.cps).toList = _
  simp
theorem len_sl (x : Str) : x.length = (sl x).length := by
  show x.cps.size = _
  simp
@[simp] theorem len_app (x y : Str) : (x ++ y).length = x.length + y.length := by
  rw [len_sl, len_sl, len_sl, sl_app, List.length_append]
@[simp] theorem len_one (c : Nat) : (⟨#[c]⟩ : Str).length = 1 := rfl
theorem len_cut (z : Str) (lo hi : Option Int) : (L2.cutS z lo hi).length ≤ HT.sIx z.length z.length hi - HT.sIx z.length 0 lo := by
  rw [len_sl]
  show (((sl z).drop _).take _).toArray.toList.length ≤ _
  simp
  omega
theorem len_cut2 (z : Str) (lo hi : Option Int) : (L2.cutS z lo hi).length ≤ z.length - HT.sIx z.length 0 lo := by
  rw [len_sl]
  show (((sl z).drop _).take _).toArray.toList.length ≤ _
  have e : z.length = z.cps.size := rfl
  simp
  omega
/-- small letters all -/
def Lt (x : Str) : Prop := ∀ c ∈ sl x, 97 ≤ c ∧ c ≤ 122
theorem Lt.app {x y : Str} (hx : Lt x) (hy : Lt y) : Lt (x ++ y) := fun c hc => by
  rw [sl_app, List.mem_append] at hc
  exact hc.elim (hx c) (hy c)
theorem Lt.cut {x : Str} (hx : Lt x) (lo hi : Option Int) : Lt (L2.cutS x lo hi) := fun c hc => by
  have h : c ∈ (((sl x).drop (HT.sIx x.length 0 lo)).take (HT.sIx x.length x.length hi - HT.sIx x.length 0 lo)).toArray.toList := hc
  simp only [List.toList_toArray] at h
  exact hx c (List.mem_of_mem_drop (List.mem_of_mem_take h))
theorem Lt.one {c : Nat} (h : 97 ≤ c ∧ c ≤ 122) : Lt ⟨#[c]⟩ := fun d hd => by
  have : d ∈ [c] := hd
  rw [List.mem_singleton] at this
  subst this
  exact h
theorem Lt.ok {x : Str} (h : Lt x) : PyData.strOk x = true := by
  unfold PyData.strOk
  rw [Array.all_eq_true_iff_forall_mem]
  intro c hc
  have := h c (Array.mem_toList_iff.mpr hc)
  simp
  omega
theorem Lt.q : Lt "q" := by
  unfold Lt
  decide +kernel
def abc : Str := "abcdefghijklmnopqrstuvwxyz"
theorem abc_lt : Lt abc := by
  unfold Lt
  decide +kernel
theorem abc_len : abc.length = 26 := by decide +kernel
theorem len_q : ("q" : Str).length = 1 := by decide +kernel
theorem abc_at {i : Int} (h0 : 0 ≤ i) (h1 : i < 26) : ∃ c, L2.atI abc.cps.toList i = some c ∧ 97 ≤ c ∧ c ≤ 122 := by
  obtain ⟨c, h, hm⟩ := at_int (xs := abc.cps.toList) h0 (by
    have := abc_len
    rw [len_sl] at this
    rw [show (abc.cps.toList.length : Int) = 26 from by exact_mod_cast this]
    exact h1)
  exact ⟨c, h, abc_lt c hm⟩
theorem all_strs : ∀ xs : List Str, allStr (xs.map D.str) = some xs
  | [] => rfl
  | x :: xs => by
    show (allStr (xs.map D.str)).map (x :: ·) = _
    rw [all_strs xs]
    rfl
theorem strs_of {ds : List D} : (∀ (j : Nat) (d : D), ds[j]? = some d → ∃ x, d = .str x) → ∃ xs : List Str, ds = xs.map D.str := by
  induction ds with
  | nil => exact fun _ => ⟨[], rfl⟩
  | cons d ds ih =>
    intro h
    obtain ⟨x, rfl⟩ := h 0 d rfl
    obtain ⟨xs, rfl⟩ := ih fun j d hd => h (j + 1) d (by simpa using hd)
    exact ⟨x :: xs, rfl⟩
theorem at_neg {a : Type} {xs : List a} {k : Nat} {v : a} (h0 : 0 < k) (h : k ≤ xs.length) (hv : xs[xs.length - k]? = some v) : L2.atI xs (-(k : Int)) = some v := by
  unfold L2.atI L2.ixN
  rw [if_neg (by omega), if_pos (by omega)]
  show xs[((-(k : Int)) + (xs.length : Int)).toNat]? = some v
  rw [show ((-(k : Int)) + (xs.length : Int)).toNat = xs.length - k by omega]
  exact hv
theorem ix_neg {n k : Nat} (h0 : 0 < k) (h : k ≤ n) : L2.ixN n (-(k : Int)) = some (n - k) := by
  unfold L2.ixN
  rw [if_neg (by omega), if_pos (by omega)]
  congr 1
  omega
/-- a word of small letters, not longer than n -/
structure Wd (n : Nat) (x : Str) : Prop where
  lt : Lt x
  len : x.length ≤ n
theorem glue_ok {n : Nat} : ∀ (xs : List Str), (∀ x ∈ xs, Wd n x) → Wd (n * xs.length) (Txt.join "" xs) := by
  have h : ∀ xs : List Str, (∀ x ∈ xs, Wd n x) → Wd (n * xs.length) (Str.join "" xs) := by
    intro xs
    induction xs with
    | nil => exact fun _ => ⟨fun c hc => (by cases hc), Nat.zero_le _⟩
    | cons x r ih =>
      intro h
      cases r with
      | nil =>
        have := h x List.mem_cons_self
        simpa [Str.join] using this
      | cons z r =>
        have h1 := h x List.mem_cons_self
        have h2 := ih fun y hy => h y (List.mem_cons_of_mem _ hy)
        have e : Str.join "" (x :: z :: r) = x ++ "" ++ Str.join "" (z :: r) := rfl
        rw [e]
        refine ⟨(h1.lt.app fun c hc => (by cases hc)).app h2.lt, ?_⟩
        rw [len_app, len_app]
        have e0 : ("" : Str).length = 0 := rfl
        have := h1.len
        have := h2.len
        simp only [List.length_cons, Nat.mul_add, Nat.mul_one] at *
        omega
  intro xs hx
  rw [show Txt.join "" xs = Str.join "" xs from StrLaws.glued_eq_join _ _]
  exact h xs hx

/-! ### the feed -/
def feedFn : Fn := ⟨2, 4, [(.asg (.nm 2) (.bin .add (.bin .mul (.cst (.int 7907)) (.var 1)) (.cst (.int 13579)))), (.ite (.cmp .lt (.var 1) (.bi .len [(.var 0)])) [(.asg (.nm 2) (.sub (.var 0) (.var 1)))] [(.ite (.cmp .gt (.bi .len [(.var 0)]) (.cst (.int 0))) [(.asg (.nm 2) (.bin .add (.bin .mul (.bin .mod (.sub (.var 0) (.bin .mod (.var 1) (.bi .len [(.var 0)]))) (.cst (.int 2147483629))) (.cst (.int 31))) (.bin .mul (.cst (.int 7907)) (.var 1))))] [])]), (.asg (.nm 3) (.cst (.int 0))), (.ite (.cmp .ge (.var 2) (.bin .pow (.cst (.int 10)) (.cst (.int 18)))) [(.asg (.nm 3) (.var 2))] []), (.ret (.lst [(.var 3), (.bin .add (.bin .mod (.bin .add (.bin .mul (.bin .mod (.var 2) (.cst (.int 2147483629))) (.cst (.int 48271))) (.bin .mul (.cst (.int 40692)) (.var 1))) (.cst (.int 2147483646))) (.cst (.int 1)))]))]⟩
theorem ints_at {ns : List Int} {i : Int} (h0 : 0 ≤ i) (h1 : i < ns.length) : ∃ z, L2.atI (ns.map D.int) i = some (.int z) := by
  obtain ⟨v, h, hm⟩ := at_int (xs := ns.map D.int) h0 (by simpa using h1)
  rw [List.mem_map] at hm
  obtain ⟨z, _, rfl⟩ := hm
  exact ⟨z, h⟩
theorem feed_ok {P : Prog} {W n i : Nat} {ns : List Int} {k : Int} {st : Sto} {Q : D → Sto → Prop} (h : P.fns[i]? = some feedFn) (h0 : 0 ≤ k)
    (kk : ∀ s, Ch [] st s → s.length = st.length + 1 → Fd s st.length → Q (.ob st.length) s) : wp (evF P W (n + 1) i [.ro (ns.map D.int), .int k]) Q st := by
  have fin : ∀ f0 f1 : Int, 0 ≤ f0 → Q (.ob st.length) (st ++ [.lst [.int f0, .int (f1 % 2147483646 + 1)]]) := fun f0 f1 hf => by
    refine kk _ (Ch.app _ _ _) (by simp) ⟨f0, _, by simp; rfl, hf, ?_⟩
    have := Int.emod_nonneg f1 (b := 2147483646) (by omega)
    omega
  refine wp_evF h rfl ?_
  by_cases h1 : k < ns.length
  · obtain ⟨z, hz⟩ := ints_at h0 h1
    by_cases h2 : (1000000000000000000 : Int) ≤ z
    · simp [feedFn, bigZ, h1, hz, h2]
      exact fin _ _ (by omega)
    · simp [feedFn, bigZ, h1, hz, h2]
      exact fin _ _ (by omega)
  · by_cases h3 : 0 < ns.length
    · obtain ⟨z, hz⟩ := ints_at (ns := ns) (i := k % ns.length) (Int.emod_nonneg _ (by omega)) (Int.emod_lt_of_pos _ (by omega))
      by_cases h2 : (1000000000000000000 : Int) ≤ z % 2147483629 * 31 + 7907 * k
      · simp [feedFn, bigZ, h1, h3, hz, h2]
        exact fin _ _ (by omega)
      · simp [feedFn, bigZ, h1, h3, hz, h2]
        exact fin _ _ (by omega)
    · by_cases h2 : (1000000000000000000 : Int) ≤ 7907 * k + 13579
      · simp [feedFn, bigZ, h1, h3, h2]
        exact fin _ _ (by omega)
      · simp [feedFn, bigZ, h1, h3, h2]
        exact fin _ _ (by omega)
end Y

namespace Y
open PySem
def namesFn (t : Nat) : Fn := ⟨2, 11, [(.asg (.nm 2) (.cst (.str abc))), (.asg (.nm 3) (.mt .join (.cst (.str "")) [(.comp (.sub (.var 2) (.call t [(.var 0), (.cst (.int 26))])) (.nm 6) .rng1 [(.call t [(.var 0), (.cst (.int 4))])] [])])), (.asg (.tp [(.nm 7), (.nm 8)]) (.tup [(.call t [(.var 0), (.cst (.int 26))]), (.call t [(.var 0), (.bin .add (.bi .len [(.var 3)]) (.cst (.int 1)))])])), (.asg (.nm 4) (.call t [(.var 0), (.cst (.int 4))])), (.asg (.nm 5) (.lst [])), (.for_ (.nm 6) .rng1 [(.var 1)] [(.asg (.nm 9) (.sub (.var 2) (.bin .mod (.bin .add (.var 7) (.bin .mul (.cst (.int 7)) (.var 6))) (.cst (.int 26))))), (.asg (.nm 10) (.bin .add (.bin .add (.sli (.var 3) none (some (.var 8))) (.var 9)) (.sli (.var 3) (some (.var 8)) (some (.bin .mod (.bin .add (.var 4) (.var 6)) (.cst (.int 4))))))), (.ite (.cmp .inn (.var 10) (.tup [(.cst (.str "def")), (.cst (.str "let")), (.cst (.str "tell")), (.cst (.str "loop")), (.cst (.str "pick")), (.cst (.str "call"))])) [(.asg (.nm 10) (.bin .add (.var 10) (.cst (.str "q"))))] []), (.expr (.mt .append (.var 5) [(.var 10)]))]), (.ite (.and (.cmp .gt (.var 1) (.cst (.int 1))) (.and (.cmp .lt (.bi .len [(.sub (.var 5) (.neg (.cst (.int 2))))]) (.cst (.int 4))) (.cmp .eq (.call t [(.var 0), (.cst (.int 4))]) (.cst (.int 0))))) [(.setI (.var 5) (.neg (.cst (.int 1))) (.bin .add (.sub (.var 5) (.neg (.cst (.int 2)))) (.cst (.str "q"))))] []), (.ret (.var 5))]⟩
theorem range_get {lo : Int} {n j : Nat} {d : D} (h : (rangeD lo n)[j]? = some d) : j < n ∧ d = .int (lo + j) := by
  unfold rangeD at h
  rw [List.getElem?_map] at h
  by_cases hj : j < n
  · rw [List.getElem?_range hj] at h
    cases h
    exact ⟨hj, rfl⟩
  · rw [List.getElem?_eq_none (by simpa using hj)] at h
    cases h
@[simp] theorem range_len (lo : Int) (n : Nat) : (rangeD lo n).length = n := by simp [rangeD]
/-- the stem, the letter: a word of at most five -/
theorem piece_ok {z : Str} {c : Nat} {at_ e : Int} (hz : Wd 3 z) (hc : 97 ≤ c ∧ c ≤ 122) (h0 : 0 ≤ at_) : Wd 4 (L2.cutS z none (some at_) ++ ⟨#[c]⟩ ++ L2.cutS z (some at_) (some e)) := by
  refine ⟨((hz.lt.cut _ _).app (Lt.one hc)).app (hz.lt.cut _ _), ?_⟩
  have h1 := len_cut z none (some at_)
  have h2 := len_cut2 z (some at_) (some e)
  obtain ⟨k, rfl⟩ := Int.eq_ofNat_of_zero_le h0
  rw [show HT.sIx z.length z.length (some ((k : Nat) : Int)) = min k z.length from HT.sIx_nat _ _ _] at h1
  rw [show HT.sIx z.length 0 (some ((k : Nat) : Int)) = min k z.length from HT.sIx_nat _ _ _] at h2
  have := hz.len
  simp only [len_app, len_one]
  omega

theorem Ch.beyond {A : List Nat} {s s1 : Sto} {b : Nat} {c : Cell} (h : Ch A s s1) (hb : s.length ≤ b) : Ch A s (s1.set b c) := ⟨by simpa using h.len, fun i hi hA => by
  rw [List.getElem?_set_ne (by omega)]
  exact h.keep i hi hA⟩
theorem names_ok {P : Prog} {W n i t a : Nat} {m : Int} {st : Sto} {Q : D → Sto → Prop} (h : P.fns[i]? = some (namesFn t)) (ht : P.fns[t]? = some takeFn) (hf : Fd st a) (h0 : 0 < m) (h1 : m < 1000)
    (k : ∀ (b : Nat) (xs : List Str) (s : Sto), st.length ≤ b → s[b]? = some (.lst (xs.map D.str)) → (xs.length : Int) = m → (∀ x ∈ xs, Wd 5 x) → Ch [a] st s → Fd s a → Q (.ob b) s) : wp (evF P W (n + 2) i [.ob a, .int m]) Q st := by
  have tk : ∀ {m : Int} {st : Sto} {Q : D → Sto → Prop}, Fd st a → 0 < m → m < 1073741824 → (∀ (r : Int) (s : Sto), 0 ≤ r → r < m → Ch [a] st s → s.length = st.length → Fd s a → Q (.int r) s) → wp (evF P W (n + 1) t [.ob a, .int m]) Q st := fun hf h0 h1 k => take_ok ht hf h0 h1 k
  refine wp_evF h rfl ?_
  have al : ∀ s : Sto, Fd s a → a < s.length := fun s ⟨_, _, h, _⟩ => (List.getElem?_eq_some_iff.mp h).1
  simp [namesFn]
  refine tk hf (by omega) (by omega) fun r0 s0 p0 q0 c0 l0 f0 => ?_
  have hsm : small r0 = true := by
    unfold small
    simp
    omega
  simp [hsm]
  refine wp_compE (fun s s' => Ch [a] s s' ∧ s'.length = s.length ∧ Fd s' a) (fun _ v => ∃ c : Nat, v = .str ⟨#[c]⟩ ∧ 97 ≤ c ∧ c ≤ 122) ⟨Ch.refl _ _, rfl, f0⟩ (by simp; omega) (fun j d s hj ⟨c1, l1, f1⟩ => ?_) fun s vs ⟨c1, l1, f1⟩ hl hP => ?_
  · obtain ⟨hj1, rfl⟩ := range_get hj
    simp [Tg.vars, wipeE]
    refine tk f1 (by omega) (by omega) fun r s2 p2 q2 c2 l2 f2 => ?_
    obtain ⟨c, hc, hc1, hc2⟩ := abc_at p2 q2
    have hl26 := abc_len
    simp [abc_len, hc]
    exact ⟨⟨c1.trans c2, l2.trans l1, f2⟩, hc1, hc2⟩
  · have hP2 : ∃ zs : List Str, vs = zs.map D.str ∧ ∀ z ∈ zs, Wd 1 z := by
      obtain ⟨zs, rfl⟩ := strs_of (ds := vs) fun j d hd => by
        obtain ⟨c, hc, _⟩ := hP j d hd
        exact ⟨_, hc⟩
      refine ⟨zs, rfl, fun z hz => ?_⟩
      obtain ⟨j, hj⟩ := List.mem_iff_getElem?.mp hz
      obtain ⟨c, hc, h1⟩ := hP j (.str z) (by simp [hj])
      cases hc
      exact ⟨Lt.one h1, Nat.le_refl _⟩
    obtain ⟨zs, rfl, hz⟩ := hP2
    have hzl : zs.length ≤ 3 := by
      simp at hl
      omega
    have hst := glue_ok (n := 1) zs hz
    have hsum : (zs.map (·.length)).sum ≤ 3 := by
      have : ∀ zs : List Str, (∀ z ∈ zs, Wd 1 z) → (zs.map (·.length)).sum ≤ zs.length := by
        intro zs
        induction zs with
        | nil => simp
        | cons z r ih =>
          intro h
          have h1 := (h z List.mem_cons_self).len
          have h2 := ih fun y hy => h y (List.mem_cons_of_mem _ hy)
          simp only [List.map_cons, List.sum_cons, List.length_cons]
          omega
      have := this zs hz
      omega
    have e0 : (Str.ofString "").length = 0 := rfl
    simp [all_strs, e0]
    generalize hZ : Txt.join (Str.ofString "") zs = z
    have hz3 : Wd 3 z := by
      subst hZ
      exact ⟨hst.lt, by have := hst.len; omega⟩
    have hlz := hz3.len
    refine ⟨by omega, ?_⟩
    have fA : Fd (s ++ [Cell.lst (List.map D.str zs)]) a := f1.keep (Ch.app [] _ _) (by simp)
    have cA : Ch [a] st (s ++ [Cell.lst (List.map D.str zs)]) := (c0.trans c1).trans (Ch.app _ _ _)
    have lA : st.length < (s ++ [Cell.lst (List.map D.str zs)]).length := by
      have := c0.len
      have := c1.len
      simp
      omega
    generalize s ++ [Cell.lst (List.map D.str zs)] = sA at fA cA lA ⊢
    refine tk fA (by omega) (by omega) fun r1 s1 p1 q1 c2 l2 f2 => ⟨by omega, ?_⟩
    refine tk f2 (by omega) (by omega) fun r2 s2 p2 q2 c3 l3 f3 => ?_
    refine tk f3 (by omega) (by omega) fun r3 s3 p3 q3 c4 l4 f4 => ?_
    have hsm2 : small m = true := by
      unfold small
      simp
      omega
    refine ⟨hsm2, ?_⟩
    have c5 : Ch [a] st s3 := ((cA.trans c2).trans c3).trans c4
    have l5 : st.length < s3.length := by omega
    clear c2 c3 c4 cA l2 l3 l4 lA
    have aL := al s3 f4
    refine wp_for (fun i env s => ∃ x6 x9 x10 xs, env = [some (D.ob a), some (D.int m), some (D.str abc), some (D.str z), some (D.int r3), some (D.ob s3.length), x6, some (D.int r1), some (D.int r2), x9, x10] ∧
      Ch [a] st s ∧ Fd s a ∧ s[s3.length]? = some (.lst (xs.map D.str)) ∧ xs.length = i ∧ ∀ x ∈ xs, Wd 5 x) (i := 0) ⟨none, none, none, [], rfl, c5.trans (Ch.app _ _ _), f4.keep (Ch.app [] _ _) (by simp), by simp, rfl, by simp⟩ ?_ ?_
    · rintro j d env s6 hj ⟨x6, x9, x10, xs, rfl, c6, f6, hb, hxl, hxs⟩
      obtain ⟨hj1, rfl⟩ := range_get hj
      obtain ⟨c, hc, hc1, hc2⟩ := abc_at (i := (r1 + 7 * ((0 : Int) + (j : Int))) % 26) (Int.emod_nonneg _ (by omega)) (Int.emod_lt_of_pos _ (by omega))
      have hp := piece_ok (e := (r3 + ((0 : Int) + (j : Int))) % 4) hz3 ⟨hc1, hc2⟩ p2
      have hpl := hp.len
      have hl26 := abc_len
      have h1l := len_cut2 z none (some r2)
      have h2l := len_cut2 z (some r2) (some ((r3 + (j : Int)) % 4))
      simp only [Int.zero_add] at hc hp hpl
      have haq := hp.lt.app Lt.q
      have hlq : (L2.cutS z none (some r2) ++ ⟨#[c]⟩ ++ L2.cutS z (some r2) (some ((r3 + (j : Int)) % 4)) ++ Str.ofString "q").length ≤ 5 := by
        rw [len_app, show (Str.ofString "q").length = 1 from len_q]
        omega
      have hq1 := len_q
      simp [hc, abc_len, keyOk1, bigZ, hb]
      generalize L2.cutS z none (some r2) ++ ⟨#[c]⟩ ++ L2.cutS z (some r2) (some ((r3 + (j : Int)) % 4)) = w at hp hpl haq hlq ⊢
      have put : ∀ x : Str, Wd 5 x → xs.length ≤ 15999999 ∧ Ch [a] st (List.set s6 s3.length (Cell.lst (List.map D.str xs ++ [D.str x]))) ∧ Fd (List.set s6 s3.length (Cell.lst (List.map D.str xs ++ [D.str x]))) a ∧
          ∃ y, (List.set s6 s3.length (Cell.lst (List.map D.str xs ++ [D.str x])))[s3.length]? = some (Cell.lst (List.map D.str y)) ∧ y.length = j + 1 ∧ ∀ z ∈ y, Wd 5 z := fun x hx => by
        have hlt := (List.getElem?_eq_some_iff.mp hb).1
        refine ⟨by omega, c6.beyond (by omega), f6.keep (Ch.set _ _ _) (by simp; omega), xs ++ [x], by simp [hlt], by simp; omega, fun z hz => ?_⟩
        rw [List.mem_append, List.mem_singleton] at hz
        rcases hz with hz | rfl
        · exact hxs z hz
        · exact hx
      refine ⟨by omega, by omega, by omega, by omega, ?_⟩
      split
      · exact ⟨by omega, put _ ⟨haq, hlq⟩⟩
      · exact put w ⟨hp.lt, by omega⟩
    · rintro env s6 ⟨x6, x9, x10, xs, rfl, c6, f6, hb, hxl, hxs⟩
      refine ⟨rfl, ?_⟩
      have hxm : (xs.length : Int) = m := by
        simp at hxl
        omega
      by_cases hm : 1 < m
      · have h2 : xs.length - 2 < xs.length := by omega
        have hat := at_neg (xs := xs.map D.str) (k := 2) (v := .str xs[xs.length - 2]) (by omega) (by simp; omega) (by simp [h2])
        have hat : L2.atI (xs.map D.str) (-2) = some (.str xs[xs.length - 2]) := hat
        have hw := hxs _ (List.getElem_mem h2)
        generalize xs[xs.length - 2] = w at hat hw
        have hwl := hw.len
        simp [hm, hb, hat]
        refine ⟨by omega, ?_⟩
        split
        · refine tk f6 (by omega) (by omega) fun r s7 p7 q7 c7 l7 f7 => ?_
          have hb7 := c7.get hb (by simp; omega)
          have hix : L2.ixN xs.length (-1) = some (xs.length - 1) := ix_neg (k := 1) (by omega) (by omega)
          have hlq := len_q
          by_cases hr : r = 0
          · simp [hr, hb7, hat, hix]
            refine ⟨by omega, ?_⟩
            have hlt := (List.getElem?_eq_some_iff.mp hb7).1
            refine k _ (xs.set (xs.length - 1) (w ++ Str.ofString "q")) _ (by omega) (by simp [hlt]) (by simpa using hxm) (fun x hx => ?_) ((c6.trans c7).beyond (by omega)) (f7.keep (Ch.set _ _ _) (by simp; omega))
            rcases List.mem_or_eq_of_mem_set hx with hx | rfl
            · exact hxs x hx
            · exact ⟨hw.lt.app Lt.q, by rw [len_app]; omega⟩
          · simp [hr]
            exact k _ xs s7 (by omega) hb7 hxm hxs (c6.trans c7) f7
        · exact k _ xs s6 (by omega) hb hxm hxs c6 f6
      · simp [hm]
        exact k _ xs s6 (by omega) hb hxm hxs c6 f6
end Y

namespace Y
open PySem
/-- a comprehension that draws from a feed -/
theorem wp_compF {a : Nat} {tg : Tg} {f : Env → M D} {g : Gd} {env : Env} {Q : List D → Sto → Prop} {G : Ctx} {ds : List D} {st : Sto} (P : Nat → D → Prop) (hf : Fd st a) (hl : ds.length ≤ 16000000)
    (hs : ∀ j d s, ds[j]? = some d → Ch [a] st s → Fd s a → g s = true ∧ wpO (asgT tg d env) fun env' => wp (f env') (fun v s' => Ch [a] s s' ∧ Fd s' a ∧ P j v) s)
    (he : ∀ s vs, Ch [a] st s → Fd s a → vs.length = ds.length → (∀ j v, vs[j]? = some v → P j v) → g s = true ∧ Q vs s) :
    wp (compL tg (fun env => calmly (evTs G [] env)) f g env ds []) Q st :=
  wp_compE (fun s s' => Ch [a] s s' ∧ Fd s' a) P ⟨Ch.refl _ _, hf⟩ hl (fun j d s hj ⟨c1, f1⟩ => by
    obtain ⟨h1, h2⟩ := hs j d s hj c1 f1
    refine ⟨h1, ?_⟩
    cases e : asgT tg d env with
    | none =>
      rw [e] at h2
      exact h2
    | some env' =>
      rw [e] at h2
      exact wp_mono h2 fun v s' ⟨q1, q2, q3⟩ => ⟨⟨c1.trans q1, q2⟩, q3⟩) fun s vs ⟨c1, f1⟩ hl hP => he s vs c1 f1 hl hP
theorem list_of {ds : List D} {b : Type} {mk : b → D} {P : b → Prop} : (∀ (j : Nat) (d : D), ds[j]? = some d → ∃ x, d = mk x ∧ P x) → ∃ xs : List b, ds = xs.map mk ∧ ∀ x ∈ xs, P x := by
  induction ds with
  | nil => exact fun _ => ⟨[], rfl, by simp⟩
  | cons d ds ih =>
    intro h
    obtain ⟨x, rfl, hx⟩ := h 0 d rfl
    obtain ⟨xs, rfl, hxs⟩ := ih fun j d hd => h (j + 1) d (by simpa using hd)
    refine ⟨x :: xs, rfl, fun y hy => ?_⟩
    rcases List.mem_cons.mp hy with rfl | hy
    · exact hx
    · exact hxs y hy
/-! ### a shape -/
def shapeFn (nm t : Nat) : Fn := ⟨1, 7, [(.asg (.nm 1) (.call nm [(.var 0), (.cst (.int 4))])), (.asg (.nm 2) (.comp (.bin .add (.mt .upper (.sli (.var 5) none (some (.cst (.int 1)))) []) (.sli (.var 5) (some (.cst (.int 1))) none)) (.nm 5) .seq [(.sli (.var 1) none (some (.call t [(.var 0), (.cst (.int 4))])))] [])), (.asg (.nm 3) (.call nm [(.var 0), (.cst (.int 3))])), (.asg (.nm 4) (.comp (.tup [(.sub (.var 3) (.var 6)), (.bin .add (.cst (.int 1)) (.call t [(.var 0), (.cst (.int 2))]))]) (.nm 6) .rng1 [(.sub (.lst [(.cst (.int 1)), (.cst (.int 2)), (.cst (.int 3)), (.cst (.int 2)), (.cst (.int 3)), (.cst (.int 1)), (.cst (.int 2)), (.cst (.int 0))]) (.call t [(.var 0), (.cst (.int 8))]))] [])), (.ret (.tup [(.bi .tuple [(.var 2)]), (.bi .tuple [(.var 4)])]))]⟩
/-- a name of a fixed thing -/
structure Fx (x : Str) : Prop where
  ok : PyData.strOk x = true
  len : x.length ≤ 8
def actD (q : Str × Int) : D := .tup [.str q.1, .int q.2]
structure Act (q : Str × Int) : Prop where
  wd : Wd 5 q.1
  lo : 1 ≤ q.2
  hi : q.2 ≤ 2
def shapeD (fx : List Str) (ac : List (Str × Int)) : D := .tup [.tup (fx.map D.str), .tup (ac.map actD)]
structure Shp (fx : List Str) (ac : List (Str × Int)) : Prop where
  nf : fx.length ≤ 3
  na : ac.length ≤ 3
  fx : ∀ x ∈ fx, Fx x
  ac : ∀ q ∈ ac, Act q
theorem up_one : ∀ i : Fin 26, Txt.upper ⟨#[97 + i.val]⟩ = ⟨#[65 + i.val]⟩ := by decide +kernel
theorem up_nil : Txt.upper ⟨#[]⟩ = ⟨#[]⟩ := by decide +kernel
theorem up_ok {x : Str} (h : Wd 1 x) : PyData.strOk (Txt.upper x) = true ∧ (Txt.upper x).length ≤ 1 := by
  obtain ⟨⟨l⟩⟩ := x
  cases l with
  | nil =>
    rw [show (⟨{ toList := [] }⟩ : Str) = ⟨#[]⟩ from rfl, up_nil]
    exact ⟨by decide +kernel, Nat.zero_le _⟩
  | cons c r =>
    cases r with
    | cons d r =>
      have : r.length + 1 + 1 ≤ 1 := h.len
      omega
    | nil =>
      have hc := h.lt c (List.mem_singleton.mpr rfl)
      have := up_one ⟨c - 97, by omega⟩
      rw [show 97 + (c - 97) = c by omega, show 65 + (c - 97) = c - 32 by omega] at this
      rw [show (⟨{ toList := [c] }⟩ : Str) = ⟨#[c]⟩ from rfl, this]
      refine ⟨?_, Nat.le_refl _⟩
      unfold PyData.strOk
      simp
      omega
theorem ok_app {x y : Str} (hx : PyData.strOk x = true) (hy : PyData.strOk y = true) : PyData.strOk (x ++ y) = true := by
  show (x.cps ++ y.cps).all (· < 0x110000) = true
  unfold PyData.strOk at hx hy
  rw [Array.all_append, hx, hy]
  rfl
theorem cut1 {x : Str} : (L2.cutS x none (some 1)).length ≤ 1 := by
  have := len_cut x none (some 1)
  rw [show HT.sIx x.length x.length (some 1) = min 1 x.length from HT.sIx_nat _ _ 1] at this
  omega
theorem cutD_mem {xs : List D} {lo hi : Option Int} {d : D} {j : Nat} (h : (cutD xs lo hi)[j]? = some d) : d ∈ xs := List.mem_of_mem_drop (List.mem_of_mem_take (List.mem_of_getElem? h))
theorem cutD_len (xs : List D) {k : Int} (h0 : 0 ≤ k) : ((cutD xs none (some k)).length : Int) ≤ k := by
  obtain ⟨n, rfl⟩ := Int.eq_ofNat_of_zero_le h0
  unfold cutD
  rw [show HT.sIx xs.length xs.length (some ((n : Nat) : Int)) = min n xs.length from HT.sIx_nat _ _ n]
  simp
  omega
theorem shape_ok {P : Prog} {W n i nm t a : Nat} {st : Sto} {Q : D → Sto → Prop} (h : P.fns[i]? = some (shapeFn nm t)) (hnm : P.fns[nm]? = some (namesFn t)) (ht : P.fns[t]? = some takeFn) (hf : Fd st a)
    (k : ∀ (fx : List Str) (ac : List (Str × Int)) (s : Sto), Shp fx ac → Ch [a] st s → Fd s a → Q (shapeD fx ac) s) : wp (evF P W (n + 3) i [.ob a]) Q st := by
  refine wp_evF h rfl ?_
  have al : ∀ s : Sto, Fd s a → a < s.length := fun s ⟨_, _, h, _⟩ => (List.getElem?_eq_some_iff.mp h).1
  have aL := al st hf
  simp [shapeFn]
  refine names_ok hnm ht hf (by omega) (by omega) fun b1 x1 s1 p1 hb1 l1 w1 c1 f1 => ?_
  refine take_ok ht f1 (by omega) (by omega) fun r2 s2 p2 q2 c2 l2 f2 => ?_
  have hb2 := c2.get hb1 (by simp; omega)
  simp [hb2]
  have lc := cutD_len (List.map D.str x1) p2
  refine wp_compF (a := a) (fun _ d => ∃ x, d = .str x ∧ Fx x) (f2.keep (Ch.app [] _ _) (by simp)) (by omega) (fun j d s hj c3 f3 => ?_) fun s vs c3 f3 hl hP => ?_
  · have hm := cutD_mem hj
    rw [List.mem_map] at hm
    obtain ⟨x, hx, rfl⟩ := hm
    have hg := c3.get (i := s2.length) (c := .lst (cutD (List.map D.str x1) none (some r2))) (by simp) (by simp; have := al s2 f2; omega)
    have hw := w1 x hx
    have hwl := hw.len
    have hc1 := cut1 (x := x)
    obtain ⟨u1, u2⟩ := up_ok (x := L2.cutS x none (some 1)) ⟨hw.lt.cut _ _, hc1⟩
    have hc2 := len_cut2 x (some 1) none
    simp [hg, Tg.vars, wipeE]
    refine ⟨by omega, by omega, by omega, by omega, Ch.refl _ _, f3, ok_app u1 (hw.lt.cut _ _).ok, ?_⟩
    rw [len_app]
    omega
  · obtain ⟨fx, rfl, hfx⟩ := list_of hP
    have hg := c3.get (i := s2.length) (c := .lst (cutD (List.map D.str x1) none (some r2))) (by simp) (by simp; have := al s2 f2; omega)
    have nf : fx.length ≤ 3 := by
      simp at hl
      omega
    simp [hg]
    have c4 : Ch [a] st (s ++ [Cell.lst (fx.map D.str)]) := (((c1.trans c2).trans (Ch.app _ _ _)).trans c3).trans (Ch.app _ _ _)
    have f4 : Fd (s ++ [Cell.lst (fx.map D.str)]) a := f3.keep (Ch.app [] _ _) (by simp)
    have hF : (s ++ [Cell.lst (fx.map D.str)])[s.length]? = some (Cell.lst (fx.map D.str)) := by simp
    have aS := al s f3
    generalize s ++ [Cell.lst (fx.map D.str)] = s4 at c4 f4 hF ⊢
    have lS : s.length < s4.length := (List.getElem?_eq_some_iff.mp hF).1
    refine names_ok hnm ht f4 (by omega) (by omega) fun b5 x5 s5 p5 hb5 l5 w5 c5 f5 => ?_
    have hF5 := c5.get hF (by simp; omega)
    refine take_ok ht (f5.keep (Ch.app [] _ _) (by simp)) (by omega) (by omega) fun r6 s6 p6 q6 c6 l6 f6 => ?_
    have a5 := al s5 f5
    have hl6 := c6.get (i := s5.length) (c := .lst [.int 1, .int 2, .int 3, .int 2, .int 3, .int 1, .int 2, .int 0]) (by simp) (by simp; omega)
    have hpick : ∃ z : Int, L2.atI [D.int 1, .int 2, .int 3, .int 2, .int 3, .int 1, .int 2, .int 0] r6 = some (.int z) ∧ 0 ≤ z ∧ z ≤ 3 := by
      obtain ⟨v, hv, hm⟩ := at_int (xs := [D.int 1, .int 2, .int 3, .int 2, .int 3, .int 1, .int 2, .int 0]) p6 (by simp; omega)
      simp at hm
      rcases hm with rfl | rfl | rfl | rfl | rfl | rfl | rfl | rfl
      all_goals exact ⟨_, hv, by omega, by omega⟩
    obtain ⟨z, hz, z0, z3⟩ := hpick
    have hsm : small z = true := by
      unfold small
      simp
      omega
    simp [hl6, hz, hsm]
    have c56 : Ch [a] s5 s6 := (Ch.app _ _ _).trans c6
    have hb6 := c56.get hb5 (by simp; omega)
    have hF6 := c56.get hF5 (by simp; omega)
    refine wp_compF (a := a) (fun _ d => ∃ q, d = actD q ∧ Act q) f6 (by simp; omega) (fun j d s hj c7 f7 => ?_) fun s vs c7 f7 hl hP => ?_
    · obtain ⟨hj1, rfl⟩ := range_get hj
      have hb7 := c7.get hb6 (by simp; omega)
      have hjx : j < x5.length := by omega
      have hat := at_nat (xs := x5.map D.str) (j := j) (v := .str x5[j]) (by simp [hjx])
      simp [Tg.vars, wipeE, hb7, hat]
      refine take_ok ht f7 (by omega) (by omega) fun r8 s8 p8 q8 c8 l8 f8 => ?_
      simp
      exact ⟨c8, f8, x5[j], 1 + r8, rfl, w5 _ (List.getElem_mem hjx), by show 1 ≤ 1 + r8; omega, by show 1 + r8 ≤ 2; omega⟩
    · obtain ⟨ac, rfl, hac⟩ := list_of hP
      have hF7 := c7.get hF6 (by simp; omega)
      have na : ac.length ≤ 3 := by
        simp at hl
        omega
      have hlt7 := (List.getElem?_eq_some_iff.mp hF7).1
      simp [List.getElem?_append_left hlt7, hF7]
      exact k fx ac _ ⟨nf, na, hfx, hac⟩ (((c4.trans c5).trans c56).trans (c7.trans (Ch.app _ _ _))) (f7.keep (Ch.app [] _ _) (by simp))
end Y

namespace Y
open PySem
/-! ### a world -/
def worldFn (t : Nat) : Fn := ⟨3, 10, [(.asg (.nm 3) (.bi .tuple [(.comp (.call t [(.var 0), (.var 2)]) (.nm 7) .seq [(.sub (.var 1) (.cst (.int 0)))] [])])), (.asg (.nm 4) (.lst [])), (.for_ (.tp [(.nm 5), (.nm 6)]) .seq [(.sub (.var 1) (.cst (.int 1)))] [(.ite (.cmp .eq (.var 6) (.cst (.int 1))) [(.expr (.mt .append (.var 4) [(.bi .tuple [(.comp (.call t [(.var 0), (.var 2)]) (.nm 8) .rng1 [(.var 2)] [])])]))] [(.expr (.mt .append (.var 4) [(.bi .tuple [(.comp (.bi .tuple [(.comp (.call t [(.var 0), (.var 2)]) (.nm 8) .rng1 [(.var 2)] [])]) (.nm 9) .rng1 [(.var 2)] [])])]))])]), (.ret (.tup [(.var 2), (.var 3), (.bi .tuple [(.var 4)])]))]⟩
/-- things below m -/
def Below (m : Int) (xs : List Int) : Prop := ∀ x ∈ xs, 0 ≤ x ∧ x < m
structure Row (m : Int) (d : D) : Prop where
  ex : ∃ xs : List Int, d = .tup (xs.map D.int) ∧ (xs.length : Int) = m ∧ Below m xs
structure Tbl (m r : Int) (d : D) : Prop where
  ex : (r = 1 ∧ Row m d) ∨ (r = 2 ∧ ∃ rows : List D, d = .tup rows ∧ (rows.length : Int) = m ∧ ∀ e ∈ rows, Row m e)
def worldD (m : Int) (th : List Int) (tb : List D) : D := .tup [.int m, .tup (th.map D.int), .tup tb]
structure Wld (m : Int) (nf : Nat) (ac : List (Str × Int)) (th : List Int) (tb : List D) : Prop where
  nf : th.length = nf
  th : Below m th
  nt : tb.length = ac.length
  tb : ∀ (j : Nat) (d : D) (q : Str × Int), tb[j]? = some d → ac[j]? = some q → Tbl m q.2 d
theorem rowC {P : Prog} {W n t a : Nat} {m : Int} {e0 : Env} {v : Nat} {g : Gd} {ds : List D} {st : Sto} {Q : List D → Sto → Prop} {G : Ctx} (ht : P.fns[t]? = some takeFn) (hf : Fd st a) (hm0 : 0 < m) (hm1 : m < 1000) (h0 : e0[0]? = some (some (.ob a))) (h2 : e0[2]? = some (some (.int m))) (hv : v < e0.length)
    (v0 : v ≠ 0) (v2 : v ≠ 2) (hl : ds.length ≤ 1000) (hg : ∀ s, Ch [a] st s → g s = true) (k : ∀ (s : Sto) (xs : List Int), Ch [a] st s → Fd s a → xs.length = ds.length → Below m xs → Q (xs.map D.int) s) :
    wp (compL (.nm v) (fun env => calmly (evTs G [] env)) (fun env => calmly (evE (cxF P W (n + 1)) (.call t [(.var 0), (.var 2)]) env)) g e0 ds []) Q st := by
  refine wp_compF (a := a) (fun _ d => ∃ x : Int, d = .int x ∧ 0 ≤ x ∧ x < m) hf (by omega) (fun j d s hj c1 f1 => ⟨hg s c1, ?_⟩) fun s vs c1 f1 hl2 hP => ?_
  · have e : asgT (.nm v) d e0 = some (e0.set v (some d)) := by
      unfold asgT
      rw [if_pos hv]
    rw [e]
    have g0 : (e0.set v (some d))[0]? = some (some (.ob a)) := by rw [List.getElem?_set_ne v0]; exact h0
    have g2 : (e0.set v (some d))[2]? = some (some (.int m)) := by rw [List.getElem?_set_ne v2]; exact h2
    simp only [wpO_some, wp_calmly, we_call, wes_cons, wes_nil, we_var, g0, g2, Option.bind_some, id_eq, wp_ofO_some]
    exact take_ok ht f1 hm0 (by omega) fun r s2 p2 q2 c2 l2 f2 => ⟨c2, f2, r, rfl, p2, q2⟩
  · obtain ⟨xs, rfl, hx⟩ := list_of hP
    exact ⟨hg s c1, k s xs c1 f1 (by simpa using hl2) hx⟩
theorem world_ok {P : Prog} {W n i t a : Nat} {fd : List D} {ac : List (Str × Int)} {m : Int} {st : Sto} {Q : D → Sto → Prop} (h : P.fns[i]? = some (worldFn t)) (ht : P.fns[t]? = some takeFn) (hf : Fd st a) (hm0 : 0 < m) (hm1 : m < 1000) (hfd : fd.length ≤ 1000) (hac : ac.length ≤ 1000)
    (hr : ∀ q ∈ ac, q.2 = 1 ∨ q.2 = 2) (k : ∀ (th : List Int) (tb : List D) (s : Sto), Wld m fd.length ac th tb → Ch [a] st s → Fd s a → Q (worldD m th tb) s) : wp (evF P W (n + 2) i [.ob a, .tup [.tup fd, .tup (ac.map actD)], .int m]) Q st := by
  refine wp_evF h rfl ?_
  have al : ∀ s : Sto, Fd s a → a < s.length := fun s ⟨_, _, h, _⟩ => (List.getElem?_eq_some_iff.mp h).1
  have aL := al st hf
  have hsm : small m = true := by
    unfold small
    simp
    omega
  simp [worldFn]
  refine rowC ht hf hm0 hm1 (by simp [Tg.vars, wipeE]) (by simp [Tg.vars, wipeE]) (by simp [Tg.vars, wipeE]) (by omega) (by omega) hfd (fun _ _ => rfl) fun s0 th c0 f0 lth bth => ?_
  have aS := al s0 f0
  have l0 := c0.len
  have c1 : Ch [a] st (s0 ++ [Cell.lst (th.map D.int), Cell.lst []]) := c0.trans (Ch.app _ _ _)
  have f1 : Fd (s0 ++ [Cell.lst (th.map D.int), Cell.lst []]) a := f0.keep (Ch.app [] _ _) (by simp)
  have b1 : (s0 ++ [Cell.lst (th.map D.int), Cell.lst []])[s0.length + 1]? = some (Cell.lst []) := by simp
  generalize s0 ++ [Cell.lst (th.map D.int), Cell.lst []] = s1 at c1 f1 b1 ⊢
  generalize hbb : s0.length + 1 = b at b1 ⊢
  refine wp_for (fun i env s => ∃ x5 x6 tb, env = [some (D.ob a), some (.tup [.tup fd, .tup (ac.map actD)]), some (D.int m), some (.tup (th.map D.int)), some (.ob b), x5, x6, none, none, none] ∧
    Ch [a] st s ∧ Fd s a ∧ s[b]? = some (.lst tb) ∧ tb.length = i ∧ ∀ (j : Nat) (d : D) (q : Str × Int), tb[j]? = some d → ac[j]? = some q → Tbl m q.2 d) (i := 0) ⟨none, none, [], by simp, c1, f1, b1, rfl, by simp⟩ ?_ ?_
  · intro j d env s hj
    rintro ⟨x5, x6, tb, rfl, c2, f2, hb, ltb, ptb⟩
    rw [List.getElem?_map] at hj
    cases hq : ac[j]? with
    | none =>
      rw [hq] at hj
      cases hj
    | some q =>
      rw [hq] at hj
      cases hj
      have hqm := List.mem_of_getElem? hq
      have hjl := (List.getElem?_eq_some_iff.mp hq).1
      obtain ⟨nm, r⟩ := q
      have put : ∀ (s2 : Sto) (d : D), Ch [a] s s2 → Fd s2 a → Tbl m r d → s2[b]?.bind Cell.seq = some tb ∧ tb.length + 1 ≤ 16000000 ∧ Ch [a] st (List.set s2 b (Cell.lst (tb ++ [d]))) ∧ Fd (List.set s2 b (Cell.lst (tb ++ [d]))) a ∧
          (List.set s2 b (Cell.lst (tb ++ [d])))[b]? = some (.lst (tb ++ [d])) ∧ (tb ++ [d]).length = 0 + j + 1 ∧ ∀ (j : Nat) (e : D) (q : Str × Int), (tb ++ [d])[j]? = some e → ac[j]? = some q → Tbl m q.2 e := fun s2 d c3 f3 hd => by
        have hb3 := c3.get hb (by simp; omega)
        have hlt := (List.getElem?_eq_some_iff.mp hb3).1
        refine ⟨by rw [hb3]; rfl, by omega, (c2.trans c3).beyond (by omega), f3.keep (Ch.set _ _ _) (by simp; omega), by simp [hlt], by simp; omega, fun j2 e q2 he hq2 => ?_⟩
        by_cases hh : j2 < tb.length
        · rw [List.getElem?_append_left hh] at he
          exact ptb j2 e q2 he hq2
        · have : j2 = tb.length := by
            have := (List.getElem?_eq_some_iff.mp he).1
            simp at this
            omega
          subst this
          rw [List.getElem?_append_right (Nat.le_refl _)] at he
          simp at he
          subst he
          have : tb.length = j := by omega
          rw [this, hq] at hq2
          cases hq2
          exact hd
      rcases hr _ hqm with h1 | h2
      · have h1 : r = 1 := h1
        subst h1
        simp [actD, hsm, hb]
        refine rowC ht f2 hm0 hm1 (by simp [Tg.vars, wipeE]) (by simp [Tg.vars, wipeE]) (by simp [Tg.vars, wipeE]) (by omega) (by omega) (by simp; omega) (fun _ _ => rfl) fun s3 xs c3 f3 lx bx => ?_
        simp at lx
        obtain ⟨p1, p2, p3, p4, p5, p6, p7⟩ := put (s3 ++ [Cell.lst (xs.map D.int)]) (.tup (xs.map D.int)) (c3.trans (Ch.app _ _ _)) (f3.keep (Ch.app [] _ _) (by simp)) ⟨.inl ⟨rfl, xs, rfl, by omega, bx⟩⟩
        simp [p1]
        exact ⟨by omega, p3, p4, tb ++ [.tup (xs.map D.int)], p5, by simpa using p6, fun j3 d3 a3 b3 e1 e2 => p7 j3 d3 (a3, b3) e1 e2⟩
      · have h2 : r = 2 := h2
        subst h2
        simp [actD, hsm, hb]
        refine wp_compF (a := a) (fun _ d => ∃ e : D, d = e ∧ Row m e) f2 (by simp; omega) (fun j2 d2 s3 hj2 c3 f3 => ?_) fun s3 vs c3 f3 hl hP => ?_
        · obtain ⟨hj3, rfl⟩ := range_get hj2
          simp [Tg.vars, wipeE, hsm]
          refine rowC ht f3 hm0 hm1 (by simp [Tg.vars, wipeE]) (by simp [Tg.vars, wipeE]) (by simp [Tg.vars, wipeE]) (by omega) (by omega) (by simp; omega) (fun _ _ => rfl) fun s4 xs c4 f4 lx bx => ?_
          simp at lx
          exact ⟨c4.trans (Ch.app _ _ _), f4.keep (Ch.app [] _ _) (by simp), ⟨xs, rfl, by omega, bx⟩⟩
        · have hrows : ∀ e ∈ vs, Row m e := fun e he => by
            obtain ⟨j4, h4⟩ := List.mem_iff_getElem?.mp he
            obtain ⟨e', rfl, h5⟩ := hP j4 e h4
            exact h5
          simp at hl
          obtain ⟨p1, p2, p3, p4, p5, p6, p7⟩ := put (s3 ++ [Cell.lst vs]) (.tup vs) (c3.trans (Ch.app _ _ _)) (f3.keep (Ch.app [] _ _) (by simp)) ⟨.inr ⟨rfl, vs, rfl, by omega, hrows⟩⟩
          simp [p1]
          exact ⟨by omega, p3, p4, tb ++ [.tup vs], p5, by simpa using p6, fun j3 d3 a3 b3 e1 e2 => p7 j3 d3 (a3, b3) e1 e2⟩
  · rintro env s ⟨x5, x6, tb, rfl, c2, f2, hb, ltb, ptb⟩
    refine ⟨rfl, ?_⟩
    simp [hb]
    exact k th tb s ⟨by simpa using lth, bth, by simpa using ltb, ptb⟩ c2 f2
end Y

/-! Plain data: texts, small ints, tuples of such. -/
namespace Y
open PySem
def small12 (i : Int) : Prop := -999999999999 ≤ i ∧ i ≤ 999999999999
/-- plain, at most h tuples deep, of weight at most B -/
inductive Pln : Nat → Nat → D → Prop
  | int {h B : Nat} {i : Int} : small12 i → 41 ≤ B → Pln h B (.int i)
  | str {h B : Nat} {x : Str} : PyData.strOk x = true → x.length ≤ B → Pln h B (.str x)
  | tup {h B C : Nat} {ds : List D} : (∀ d ∈ ds, Pln h C d) → ds.length * (C + 1) ≤ B → Pln (h + 1) B (.tup ds)
theorem Pln.mono {h B : Nat} {d : D} (p : Pln h B d) : ∀ {k C : Nat}, h ≤ k → B ≤ C → Pln k C d := by
  induction p with
  | int h1 h2 => exact fun _ hc => .int h1 (Nat.le_trans h2 hc)
  | str h1 h2 => exact fun _ hc => .str h1 (Nat.le_trans h2 hc)
  | tup h1 h2 ih =>
    intro k C hk hc
    cases k with
    | zero => omega
    | succ k => exact .tup (fun d hd => ih d hd (by omega) (Nat.le_refl _)) (Nat.le_trans h2 hc)
theorem pys_map : ∀ ds : List D, D.pys ds = ds.map D.py
  | [] => rfl
  | d :: ds => by
    rw [D.pys, pys_map ds]
    rfl
theorem flats_all : ∀ ds : List D, (∀ d ∈ ds, d.flat = true) → D.flats ds = true
  | [], _ => rfl
  | d :: ds, h => by
    rw [D.flats, h d List.mem_cons_self, flats_all ds fun e he => h e (List.mem_cons_of_mem _ he)]
    rfl
theorem deps_all {k : Nat} : ∀ ds : List D, (∀ d ∈ ds, d.dep ≤ k) → D.deps ds ≤ k
  | [], _ => Nat.zero_le _
  | d :: ds, h => by
    rw [D.deps]
    have h1 := h d List.mem_cons_self
    have h2 := deps_all ds fun e he => h e (List.mem_cons_of_mem _ he)
    omega
theorem Pln.flat {h B : Nat} {d : D} (p : Pln h B d) : d.flat = true := by
  induction p with
  | int => rfl
  | str h1 _ => exact h1
  | tup _ _ ih => exact flats_all _ ih
theorem Pln.dep {h B : Nat} {d : D} (p : Pln h B d) : d.dep ≤ h := by
  induction p with
  | int => exact Nat.zero_le _
  | str _ _ => exact Nat.zero_le _
  | tup _ _ ih =>
    rw [D.dep]
    exact Nat.succ_le_succ (deps_all _ ih)
theorem Pln.okEq {h B : Nat} {d : D} (p : Pln h B d) (hh : h ≤ 40) : d.okEq = true := by
  unfold D.okEq
  rw [p.flat, Bool.true_and]
  exact decide_eq_true (Nat.le_trans p.dep hh)
theorem mapO_map {a b : Type} {f : a → Option b} {g : a → b} : ∀ xs : List a, (∀ x ∈ xs, f x = some (g x)) → mapO f xs = some (xs.map g)
  | [], _ => rfl
  | x :: xs, h => by
    rw [mapO, h x List.mem_cons_self, mapO_map xs fun y hy => h y (List.mem_cons_of_mem _ hy)]
    rfl
theorem Pln.deep {h B : Nat} {d : D} (p : Pln h B d) (st : Sto) : ∀ {n : Nat}, h < n → deepPy n st d = some d.py := by
  induction p with
  | int =>
    intro n hn
    cases n with
    | zero => omega
    | succ n => rfl
  | str _ _ =>
    intro n hn
    cases n with
    | zero => omega
    | succ n => rfl
  | @tup h B C ds h1 h2 ih =>
    intro n hn
    cases n with
    | zero => omega
    | succ n =>
      show (mapO (deepPy n st) ds).bind (fun ps => some (PyData.tuple ps)) = some (.tuple (D.pys ds))
      rw [mapO_map (g := D.py) ds fun d hd => ih d hd (by omega), pys_map]
      rfl
theorem lay_all : ∀ ds : List PyData, (∀ d ∈ ds, d.canLay0 = true) → PyData.canLayAll0 ds = true
  | [], _ => rfl
  | d :: ds, h => by
    rw [PyData.canLayAll0, h d List.mem_cons_self, lay_all ds fun e he => h e (List.mem_cons_of_mem _ he)]
    rfl
theorem showable_all : ∀ ds : List PyData, (∀ d ∈ ds, d.showable = true) → PyData.showableAll ds = true
  | [], _ => rfl
  | d :: ds, h => by
    rw [PyData.showableAll, h d List.mem_cons_self, showable_all ds fun e he => h e (List.mem_cons_of_mem _ he)]
    rfl
theorem short_all {B : Nat} : ∀ ds : List PyData, (∀ d ∈ ds, d.intsShort B = true) → PyData.intsShortAll B ds = true
  | [], _ => rfl
  | d :: ds, h => by
    rw [PyData.intsShortAll, h d List.mem_cons_self, short_all ds fun e he => h e (List.mem_cons_of_mem _ he)]
    rfl
theorem weight_all {k : Nat} : ∀ ds : List PyData, (∀ d ∈ ds, d.weight ≤ k) → PyData.weightAll ds ≤ ds.length * (k + 1)
  | [], _ => Nat.zero_le _
  | d :: ds, h => by
    rw [PyData.weightAll]
    have h1 := h d List.mem_cons_self
    have h2 := weight_all ds fun e he => h e (List.mem_cons_of_mem _ he)
    rw [List.length_cons, Nat.add_mul]
    omega
theorem depth_all {k : Nat} : ∀ ds : List PyData, (∀ d ∈ ds, d.depth ≤ k) → PyData.depthAll ds ≤ k
  | [], _ => by simp [PyData.depthAll]
  | d :: ds, h => by
    rw [PyData.depthAll]
    have h1 := h d List.mem_cons_self
    have h2 := depth_all ds fun e he => h e (List.mem_cons_of_mem _ he)
    omega
structure Lay (h B : Nat) (p : PyData) : Prop where
  lay : p.canLay0 = true
  dep : p.depth ≤ h + 1
  wt : p.weight ≤ B
  show_ : p.showable = true
  short : p.intsShort 13 = true
theorem small_log {i : Int} (h : small12 i) : i.natAbs.log2 < 41 := by
  by_cases h0 : i.natAbs = 0
  · rw [h0]
    decide
  · rw [Nat.log2_lt h0]
    obtain ⟨h1, h2⟩ := h
    omega
theorem Pln.lay {h B : Nat} {d : D} (p : Pln h B d) : Lay h B d.py := by
  induction p with
  | @int h B i h1 h2 =>
    have hl := small_log h1
    refine ⟨rfl, by simp [D.py, PyData.depth], ?_, ?_, ?_⟩
    · show (if i == 0 then 0 else i.natAbs.log2 + 1) ≤ B
      split <;> omega
    · show decide (i.natAbs.log2 < 1920) = true
      exact decide_eq_true (by omega)
    · show decide ((PyData.shown (.int i)).length ≤ 13) = true
      exact decide_eq_true (PyData.shown_int_le2 (by have := h1.1; omega) (by have := h1.2; omega))
  | @str h B x h1 h2 => exact ⟨h1, by simp [D.py, PyData.depth], h2, rfl, rfl⟩
  | @tup h B C ds h1 h2 ih =>
    have im : ∀ {P : PyData → Prop}, (∀ d ∈ ds, P d.py) → ∀ p ∈ D.pys ds, P p := fun hp p hm => by
      rw [pys_map, List.mem_map] at hm
      obtain ⟨d, hd, rfl⟩ := hm
      exact hp d hd
    refine ⟨lay_all _ (im fun d hd => (ih d hd).lay), ?_, ?_, showable_all _ (im fun d hd => (ih d hd).show_), short_all _ (im fun d hd => (ih d hd).short)⟩
    · have := depth_all (k := h + 1) (D.pys ds) (im fun d hd => (ih d hd).dep)
      show PyData.depth (.tuple (D.pys ds)) ≤ _
      rw [PyData.depth]
      omega
    · have := weight_all (k := C) (D.pys ds) (im fun d hd => (ih d hd).wt)
      show PyData.weight (.tuple (D.pys ds)) ≤ _
      rw [PyData.weight]
      rw [pys_map, List.length_map] at this
      rw [pys_map]
      omega
theorem Pln.repr {h B : Nat} {ds : List D} (p : Pln h B (.tup ds)) (hh : h ≤ 19) (hB : B ≤ 1048576) (st : Sto) : reprOf st (.tup ds) = some (PyData.shown (D.py (.tup ds))) := by
  unfold reprOf
  rw [if_pos (show isRef (.tup ds) = true from rfl), p.deep st (by omega)]
  have L := p.lay
  show (if ((D.py (.tup ds)).layable0 && (D.py (.tup ds)).showable && (D.py (.tup ds)).intsShort 13) = true then some (D.py (.tup ds)).shown else none) = _
  rw [if_pos]
  unfold PyData.layable0
  rw [L.lay, L.show_, L.short, decide_eq_true (Nat.le_trans L.dep (by omega)), decide_eq_true (Nat.le_trans L.wt hB)]
  rfl
theorem Pln.eqv {h B : Nat} {d : D} (p : Pln h B d) : PyData.eqv d.py d.py = true := SeqAt.eqv_refl _ p.lay.lay
end Y

namespace Y
open PySem
/-- a comprehension of tests that all hold -/
theorem wp_compT {tg : Tg} {f : Env → M D} {g : Gd} {env : Env} {Q : List D → Sto → Prop} {G : Ctx} {ds : List D} {st : Sto} (hl : ds.length ≤ 16000000) (hg : ∀ s : Sto, Ch [] st s → g s = true)
    (hs : ∀ (j : Nat) (d : D) (s : Sto), ds[j]? = some d → Ch [] st s → wpO (asgT tg d env) fun env' => wp (f env') (fun v s' => v = .bl true ∧ Ch [] s s') s)
    (he : ∀ s, Ch [] st s → Q (List.replicate ds.length (.bl true)) s) : wp (compL tg (fun env => calmly (evTs G [] env)) f g env ds []) Q st := by
  refine wp_compE (fun s s' => Ch [] s s') (fun _ v => v = .bl true) (Ch.refl _ _) hl (fun j d s hj c1 => ⟨hg s c1, ?_⟩) fun s vs c1 hl2 hP => ⟨hg s c1, ?_⟩
  · have h2 := hs j d s hj c1
    cases e : asgT tg d env with
    | none =>
      rw [e] at h2
      exact h2
    | some env' =>
      rw [e] at h2
      exact wp_mono h2 fun v s' ⟨q1, q2⟩ => ⟨c1.trans q2, q1⟩
  · have : vs = List.replicate ds.length (.bl true) := by
      rw [← hl2]
      refine List.eq_replicate_of_mem fun d hd => ?_
      obtain ⟨j, hj⟩ := List.mem_iff_getElem?.mp hd
      exact hP j d hj
    rw [this]
    exact he s c1
@[simp] theorem allBl_rep : ∀ n : Nat, allBl (List.replicate n (.bl true)) = some (List.replicate n true)
  | 0 => rfl
  | n + 1 => by
    rw [List.replicate_succ]
    show (allBl (List.replicate n (.bl true))).map (true :: ·) = _
    rw [allBl_rep n]
    rfl
@[simp] theorem all_rep (n : Nat) : (List.replicate n true).all id = true := by
  rw [List.all_eq_true]
  intro b hb
  exact (List.mem_replicate.mp hb).2
/-! ### alike -/
def alikeFn (i : Nat) : Fn := ⟨2, 4, [(.ite (.isi (.var 1) [.tuple]) [(.ite (.or (.not (.isi (.var 0) [.tuple])) (.cmp .ne (.bi .len [(.var 0)]) (.bi .len [(.var 1)]))) [(.ret (.cst (.bl false)))] []), (.ret (.bi .all [(.comp (.call i [(.var 2), (.var 3)]) (.tp [(.nm 2), (.nm 3)]) .zip [(.var 0), (.var 1)] [])]))] []), (.ite (.isi (.var 1) [.str]) [(.ret (.and (.isi (.var 0) [.str]) (.cmp .eq (.var 0) (.var 1))))] []), (.ret (.and (.isi (.var 0) [.int]) (.and (.not (.isi (.var 0) [.bool])) (.cmp .eq (.var 0) (.var 1)))))]⟩
theorem zip_self (ds : List D) : (ds.zip ds) = ds.map fun d => (d, d) := by
  induction ds with
  | nil => rfl
  | cons d ds ih => simp [ih]
theorem alike_ok {P : Prog} {W i B : Nat} (h : P.fns[i]? = some (alikeFn i)) {hh : Nat} {d : D} (p : Pln hh B d) (hB : B ≤ 1048576) : ∀ {n : Nat} {st : Sto} {Q : D → Sto → Prop}, hh ≤ n → (∀ s, Ch [] st s → Q (.bl true) s) → wp (evF P W (n + 1) i [d, d]) Q st := by
  induction p with
  | int h1 h2 =>
    intro n st Q hn k
    refine wp_evF h rfl ?_
    simp [alikeFn]
    exact k st (Ch.refl _ _)
  | str h1 h2 =>
    intro n st Q hn k
    refine wp_evF h rfl ?_
    simp [alikeFn]
    exact k st (Ch.refl _ _)
  | @tup hh B C ds h1 h2 ih =>
    intro n st Q hn k
    have hC : C ≤ 1048576 ∨ ds = [] := by
      cases ds with
      | nil => exact .inr rfl
      | cons d ds =>
        left
        rw [List.length_cons, Nat.add_mul] at h2
        omega
    have hl : ds.length ≤ B := by
      refine Nat.le_trans ?_ h2
      exact Nat.le_mul_of_pos_right _ (by omega)
    cases n with
    | zero => omega
    | succ n =>
      refine wp_evF h rfl ?_
      simp [alikeFn]
      refine wp_compT (by simp; omega) (fun _ _ => rfl) (fun j d s hj c1 => ?_) fun s c1 => ?_
      · rw [zip_self, List.getElem?_map, List.getElem?_map] at hj
        cases hd : ds[j]? with
        | none =>
          rw [hd] at hj
          cases hj
        | some e =>
          rw [hd] at hj
          cases hj
          have he := List.mem_of_getElem? hd
          simp [Tg.vars, Tg.varsL, wipeE]
          rcases hC with hC | hC
          · exact ih e he hC (by omega) fun s2 c2 => ⟨rfl, c2⟩
          · subst hC
            cases he
      · simp
        exact k _ (c1.trans (Ch.app _ _ _))
/-! ### whole numbers, things, tables -/
def wholeFn : Fn := ⟨1, 1, [(.ret (.and (.isi (.var 0) [.int]) (.not (.isi (.var 0) [.bool]))))]⟩
def thingFn (w : Nat) : Fn := ⟨2, 2, [(.ret (.and (.call w [(.var 1)]) (.chain .le .lt (.cst (.int 0)) (.var 1) (.var 0))))]⟩
def tableFn (th i : Nat) : Fn := ⟨3, 4, [(.ite (.or (.not (.isi (.var 2) [.tuple])) (.cmp .ne (.bi .len [(.var 2)]) (.var 0))) [(.ret (.cst (.bl false)))] []), (.ite (.cmp .eq (.var 1) (.cst (.int 1))) [(.ret (.bi .all [(.comp (.call th [(.var 0), (.var 3)]) (.nm 3) .seq [(.var 2)] [])]))] []), (.ret (.bi .all [(.comp (.call i [(.var 0), (.bin .sub (.var 1) (.cst (.int 1))), (.var 3)]) (.nm 3) .seq [(.var 2)] [])]))]⟩
section
variable {P : Prog} {W n w th tb : Nat} {st : Sto} {Q : D → Sto → Prop}
theorem whole_ok (h : P.fns[w]? = some wholeFn) (i : Int) (k : Q (.bl true) st) : wp (evF P W (n + 1) w [.int i]) Q st := by
  refine wp_evF h rfl ?_
  simp [wholeFn]
  exact k
theorem thing_ok (h : P.fns[th]? = some (thingFn w)) (hw : P.fns[w]? = some wholeFn) {m i : Int} (h0 : 0 ≤ i) (h1 : i < m) (k : Q (.bl true) st) : wp (evF P W (n + 2) th [.int m, .int i]) Q st := by
  refine wp_evF h rfl ?_
  simp [thingFn]
  refine whole_ok hw i ?_
  simp [h0, h1]
  exact k
theorem row_ok (h : P.fns[tb]? = some (tableFn th tb)) (hth : P.fns[th]? = some (thingFn w)) (hw : P.fns[w]? = some wholeFn) {m : Int} {d : D} (hm : m < 1000) (hr : Row m d) (k : ∀ s, Ch [] st s → Q (.bl true) s) : wp (evF P W (n + 3) tb [.int m, .int 1, d]) Q st := by
  obtain ⟨xs, rfl, hl, hb⟩ := hr.ex
  refine wp_evF h rfl ?_
  simp [tableFn, hl]
  refine wp_compT (by simp; omega) (fun _ _ => rfl) (fun j d s hj c1 => ?_) fun s c1 => ?_
  · rw [List.getElem?_map] at hj
    cases hd : xs[j]? with
    | none =>
      rw [hd] at hj
      cases hj
    | some x =>
      rw [hd] at hj
      cases hj
      obtain ⟨b1, b2⟩ := hb x (List.mem_of_getElem? hd)
      simp [Tg.vars, wipeE]
      exact thing_ok hth hw b1 b2 ⟨rfl, Ch.refl _ _⟩
  · simp
    exact k _ (c1.trans (Ch.app _ _ _))
theorem table_ok (h : P.fns[tb]? = some (tableFn th tb)) (hth : P.fns[th]? = some (thingFn w)) (hw : P.fns[w]? = some wholeFn) {m r : Int} {d : D} (hm : m < 1000) (hr : Tbl m r d) (k : ∀ s, Ch [] st s → Q (.bl true) s) : wp (evF P W (n + 4) tb [.int m, .int r, d]) Q st := by
  rcases hr.ex with ⟨rfl, hrow⟩ | ⟨rfl, rows, rfl, hl, hrows⟩
  · exact row_ok h hth hw hm hrow k
  · refine wp_evF h rfl ?_
    simp [tableFn, hl]
    refine wp_compT (by omega) (fun _ _ => rfl) (fun j d s hj c1 => ?_) fun s c1 => ?_
    · simp [Tg.vars, wipeE]
      exact row_ok h hth hw hm (hrows d (List.mem_of_getElem? hj)) fun s2 c2 => ⟨rfl, c2⟩
    · simp
      exact k _ (c1.trans (Ch.app _ _ _))
end
end Y

namespace Y
open PySem
def lookFn (w th tb : Nat) : Fn := ⟨2, 8, [(.ite (.or (.not (.isi (.var 1) [.tuple])) (.or (.cmp .ne (.bi .len [(.var 1)]) (.cst (.int 3))) (.or (.not (.call w [(.sub (.var 1) (.cst (.int 0)))])) (.cmp .lt (.sub (.var 1) (.cst (.int 0))) (.cst (.int 1)))))) [.never] []), (.asg (.tp [(.nm 2), (.nm 3), (.nm 4)]) (.var 1)), (.ite (.or (.not (.isi (.var 3) [.tuple])) (.cmp .ne (.bi .len [(.var 3)]) (.bi .len [(.sub (.var 0) (.cst (.int 0)))]))) [.never] []), (.ite (.not (.bi .all [(.comp (.call th [(.var 2), (.var 5)]) (.nm 5) .seq [(.var 3)] [])])) [.never] []), (.ite (.or (.not (.isi (.var 4) [.tuple])) (.cmp .ne (.bi .len [(.var 4)]) (.bi .len [(.sub (.var 0) (.cst (.int 1)))]))) [.never] []), (.ite (.not (.bi .all [(.comp (.call tb [(.var 2), (.sub (.var 6) (.cst (.int 1))), (.var 7)]) (.tp [(.nm 6), (.nm 7)]) .zip [(.sub (.var 0) (.cst (.int 1))), (.var 4)] [])])) [.never] []), (.ret (.cst (.bl true)))]⟩
section
variable {P : Prog} {W n i w th tb : Nat} {st : Sto} {Q : D → Sto → Prop}
theorem look_ok (h : P.fns[i]? = some (lookFn w th tb)) (hw : P.fns[w]? = some wholeFn) (hth : P.fns[th]? = some (thingFn w)) (htb : P.fns[tb]? = some (tableFn th tb)) {m : Int} {fx : List D} {ac : List (Str × Int)} {things : List Int} {tabs : List D}
    (h0 : 0 < m) (hm : m < 1000) (hf : fx.length ≤ 1000) (ha : ac.length ≤ 1000) (wd : Wld m fx.length ac things tabs) (k : ∀ s, Ch [] st s → Q (.bl true) s) : wp (evF P W (n + 5) i [.tup [.tup fx, .tup (ac.map actD)], worldD m things tabs]) Q st := by
  have w1 := wd.nf
  have w2 := wd.nt
  refine wp_evF h rfl ?_
  simp [lookFn, worldD]
  refine whole_ok hw m ?_
  have h00 : ¬ m < 1 := by omega
  simp [h00, w1]
  refine ⟨by omega, ?_⟩
  refine wp_compT (by simp; omega) (fun _ _ => rfl) (fun j d s hj c1 => ?_) fun s c1 => ?_
  · rw [List.getElem?_map] at hj
    cases hd : things[j]? with
    | none =>
      rw [hd] at hj
      cases hj
    | some x =>
      rw [hd] at hj
      cases hj
      obtain ⟨b1, b2⟩ := wd.th x (List.mem_of_getElem? hd)
      simp [Tg.vars, wipeE]
      exact thing_ok hth hw b1 b2 ⟨rfl, Ch.refl _ _⟩
  · simp [w2]
    refine wp_compT (by simp; omega) (fun _ _ => rfl) (fun j d s2 hj c2 => ?_) fun s2 c2 => ?_
    · rw [List.getElem?_map] at hj
      cases hz : ((ac.map actD).zip tabs)[j]? with
      | none =>
        rw [hz] at hj
        cases hj
      | some p =>
        rw [hz] at hj
        cases hj
        rw [List.getElem?_zip_eq_some] at hz
        obtain ⟨z1, z2⟩ := hz
        rw [List.getElem?_map] at z1
        cases ha : ac[j]? with
        | none =>
          rw [ha] at z1
          cases z1
        | some q =>
          rw [ha] at z1
          obtain ⟨pa, pb⟩ := p
          cases z1
          simp [Tg.vars, Tg.varsL, wipeE, actD]
          exact table_ok htb hth hw hm (wd.tb j pb q z2 ha) fun s3 c3 => ⟨rfl, c3⟩
    · simp
      exact k _ (((c1.trans (Ch.app _ _ _)).trans c2).trans (Ch.app _ _ _))
end

/-! ### done -/
def doneFn : Fn := ⟨4, 7, [(.asg (.nm 4) (.sub (.sub (.var 1) (.cst (.int 2))) (.mt .index (.comp (.sub (.var 6) (.cst (.int 0))) (.nm 6) .seq [(.sub (.var 0) (.cst (.int 1)))] []) [(.var 2)]))), (.for_ (.nm 5) .seq [(.var 3)] [(.asg (.nm 4) (.sub (.var 4) (.var 5)))]), (.ret (.var 4))]⟩
/-- going down a table -/
def goD : D → List Int → Option D
  | d, [] => some d
  | .tup ds, i :: is => (L2.atI ds i).bind fun e => goD e is
  | _, _ :: _ => none
theorem done_ok {P : Prog} {W n i : Nat} {st : Sto} {Q : D → Sto → Prop} (h : P.fns[i]? = some doneFn) {fx : D} {ac : List (Str × Int)} {e0 e1 : D} {tabs : List D} {x : Str} {is : List Int} {j : Nat} {t d : D} (hl : ac.length ≤ 1000) (hok : ∀ q ∈ ac, PyData.strOk q.1 = true) (hx : PyData.strOk x = true)
    (hj : ac.findIdx? (fun q => decide (q.1 = x)) = some j) (ht : tabs[j]? = some t) (hd : goD t is = some d) (k : ∀ s, Ch [] st s → Q d s) : wp (evF P W (n + 1) i [.tup [fx, .tup (ac.map actD)], .tup [e0, e1, .tup tabs], .str x, .tup (is.map D.int)]) Q st := by
  refine wp_evF h rfl ?_
  simp [doneFn]
  refine wp_compE (fun s s' => Ch [] s s') (fun j v => ∃ q, ac[j]? = some q ∧ v = .str q.1) (Ch.refl _ _) (by simp; omega) (fun j d s hj c1 => ⟨rfl, ?_⟩) fun s vs c1 hl2 hP => ⟨rfl, ?_⟩
  · rw [List.getElem?_map] at hj
    cases ha : ac[j]? with
    | none =>
      rw [ha] at hj
      cases hj
    | some q =>
      rw [ha] at hj
      cases hj
      simp [Tg.vars, wipeE, actD]
      exact c1
  · have e : vs = ac.map fun q => D.str q.1 := by
      refine List.ext_getElem? fun j => ?_
      rw [List.getElem?_map]
      cases hv : vs[j]? with
      | none =>
        rw [List.getElem?_eq_none_iff] at hv
        simp at hl2
        rw [List.getElem?_eq_none (by omega)]
        rfl
      | some v =>
        obtain ⟨q, hq, rfl⟩ := hP j v hv
        rw [hq]
        rfl
    subst e
    have ok1 : (D.tup (ac.map fun q => D.str q.1)).okEq = true := by
      have f1 : D.flats (ac.map fun q => D.str q.1) = true := flats_all _ fun d hd => by
        rw [List.mem_map] at hd
        obtain ⟨q, hq, rfl⟩ := hd
        exact hok q hq
      have f2 : D.deps (ac.map fun q => D.str q.1) ≤ 0 := deps_all _ fun d hd => by
        rw [List.mem_map] at hd
        obtain ⟨q, hq, rfl⟩ := hd
        exact Nat.le_refl _
      unfold D.okEq
      rw [D.flat, f1, D.dep]
      exact decide_eq_true (by omega)
    have hfi : (ac.map fun q => D.str q.1).findIdx? (fun z => PyData.eqv z.py (D.str x).py) = some j := by
      rw [List.findIdx?_map]
      rw [← hj]
      congr 1
    rw [m_index]
    simp [okEq_str hx, ok1, hfi, at_nat ht]
    have c2 := c1.trans (Ch.app [] s [Cell.lst (ac.map fun q => D.str q.1)])
    generalize s ++ [Cell.lst (ac.map fun q => D.str q.1)] = s2 at c2 ⊢
    refine wp_for (fun i env s => s = s2 ∧ ∃ x4 x5, env = [some (D.tup [fx, .tup (ac.map actD)]), some (.tup [e0, e1, .tup tabs]), some (.str x), some (.tup (is.map D.int)), some x4, x5, none] ∧ goD x4 (is.drop i) = some d) (i := 0) ⟨rfl, t, none, rfl, by simpa using hd⟩ ?_ ?_
    · rintro i d2 env s hi ⟨rfl, x4, x5, rfl, hg⟩
      rw [List.getElem?_map] at hi
      cases ha : is[i]? with
      | none =>
        rw [ha] at hi
        cases hi
      | some z =>
        rw [ha] at hi
        cases hi
        have hlt := (List.getElem?_eq_some_iff.mp ha)
        obtain ⟨hlt, hz⟩ := hlt
        rw [Nat.zero_add, List.drop_eq_getElem_cons hlt, hz] at hg
        cases x4 with
        | tup ds =>
          have hg : (L2.atI ds z).bind (fun e => goD e (is.drop (i + 1))) = some d := hg
          rw [Option.bind_eq_some_iff] at hg
          obtain ⟨e, h1, h2⟩ := hg
          simp [h1]
          exact h2
        | _ => cases hg
    · rintro env s ⟨rfl, x4, x5, rfl, hg⟩
      refine ⟨rfl, ?_⟩
      simp at hg ⊢
      cases hg
      exact k _ c2

/-! ### the wider ones -/
def wshapeFn : Fn := ⟨3, 5, [(.asg (.tp [(.nm 3), (.nm 4)]) (.var 0)), (.ret (.tup [(.var 3), (.bin .add (.var 4) (.tup [(.tup [(.var 1), (.var 2)])]))]))]⟩
def wworldFn : Fn := ⟨2, 5, [(.asg (.tp [(.nm 2), (.nm 3), (.nm 4)]) (.var 0)), (.ret (.tup [(.var 2), (.var 3), (.bin .add (.var 4) (.tup [(.var 1)]))]))]⟩
theorem wshape_ok {P : Prog} {W n i : Nat} {st : Sto} {Q : D → Sto → Prop} (h : P.fns[i]? = some wshapeFn) {f d r : D} {ds : List D} (hl : ds.length ≤ 1000) (k : Q (.tup [f, .tup (ds ++ [.tup [d, r]])]) st) : wp (evF P W (n + 1) i [.tup [f, .tup ds], d, r]) Q st := by
  refine wp_evF h rfl ?_
  simp [wshapeFn]
  exact ⟨by omega, k⟩
theorem wworld_ok {P : Prog} {W n i : Nat} {st : Sto} {Q : D → Sto → Prop} (h : P.fns[i]? = some wworldFn) {a b t : D} {ds : List D} (hl : ds.length ≤ 1000) (k : Q (.tup [a, b, .tup (ds ++ [t])]) st) : wp (evF P W (n + 1) i [.tup [a, b, .tup ds], t]) Q st := by
  refine wp_evF h rfl ?_
  simp [wworldFn]
  exact ⟨by omega, k⟩
end Y

namespace Y
open PySem
/-! ### plain data of the law -/
theorem pln_strs {fx : List Str} {n k : Nat} (h : ∀ x ∈ fx, PyData.strOk x = true ∧ x.length ≤ k) (hn : fx.length ≤ n) : Pln 1 (n * (k + 1)) (.tup (fx.map D.str)) := by
  refine .tup (C := k) (fun d hd => ?_) (by rw [List.length_map]; exact Nat.mul_le_mul_right _ hn)
  rw [List.mem_map] at hd
  obtain ⟨x, hx, rfl⟩ := hd
  exact .str (h x hx).1 (h x hx).2
theorem small_of {i m : Int} (h0 : 0 ≤ i) (h1 : i < m) (hm : m < 1000) : small12 i := ⟨by omega, by omega⟩
theorem pln_ints {xs : List Int} {n : Nat} {m : Int} (h : Below m xs) (hm : m < 1000) (hn : xs.length ≤ n) : Pln 1 (n * 42) (.tup (xs.map D.int)) := by
  refine .tup (C := 41) (fun d hd => ?_) (by rw [List.length_map]; exact Nat.mul_le_mul_right _ hn)
  rw [List.mem_map] at hd
  obtain ⟨x, hx, rfl⟩ := hd
  exact .int (small_of (h x hx).1 (h x hx).2 hm) (Nat.le_refl _)
/-- a deed: a word of at most six signs, its places -/
structure Dd (q : Str × Int) : Prop where
  wd : Wd 6 q.1
  lo : 1 ≤ q.2
  hi : q.2 ≤ 2
theorem pln_act {q : Str × Int} (h : Dd q) : Pln 1 84 (actD q) := by
  refine .tup (C := 41) (fun d hd => ?_) (by simp)
  simp at hd
  rcases hd with rfl | rfl
  · exact .str h.wd.lt.ok (by have := h.wd.len; omega)
  · exact .int ⟨by have := h.lo; omega, by have := h.hi; omega⟩ (Nat.le_refl _)
theorem pln_shape {fx : List Str} {ac : List (Str × Int)} (hf : ∀ x ∈ fx, Fx x) (nf : fx.length ≤ 3) (ha : ∀ q ∈ ac, Dd q) (na : ac.length ≤ 4) : Pln 3 1000 (shapeD fx ac) := by
  refine .tup (C := 340) (fun d hd => ?_) (by simp)
  simp at hd
  rcases hd with rfl | rfl
  · exact (pln_strs (fun x hx => ⟨(hf x hx).ok, (hf x hx).len⟩) nf).mono (by omega) (by omega)
  · refine .tup (C := 84) (fun d hd => ?_) (by rw [List.length_map]; omega)
    rw [List.mem_map] at hd
    obtain ⟨q, hq, rfl⟩ := hd
    exact pln_act (ha q hq)
theorem pln_row {m : Int} {d : D} (hm : m ≤ 4) (h : Row m d) : Pln 1 168 d := by
  obtain ⟨xs, rfl, hl, hb⟩ := h.ex
  exact (pln_ints (n := 4) hb (by omega) (by omega)).mono (by omega) (by omega)
theorem pln_tbl {m r : Int} {d : D} (hm : m ≤ 4) (h : Tbl m r d) : Pln 2 676 d := by
  rcases h.ex with ⟨rfl, hrow⟩ | ⟨rfl, rows, rfl, hl, hr⟩
  · exact (pln_row hm hrow).mono (by omega) (by omega)
  · exact .tup (C := 168) (fun d hd => pln_row hm (hr d hd)) (by omega)
theorem pln_world {m : Int} {th : List Int} {tb : List D} (h0 : 0 < m) (hm : m ≤ 4) (ht : Below m th) (nt : th.length ≤ 3) (hb : ∀ d ∈ tb, ∃ r, Tbl m r d) (nb : tb.length ≤ 4) : Pln 4 8200 (worldD m th tb) := by
  refine .tup (C := 2708) (fun d hd => ?_) (by simp)
  simp at hd
  rcases hd with rfl | rfl | rfl
  · exact .int ⟨by omega, by omega⟩ (by omega)
  · exact (pln_ints ht (by omega) nt).mono (by omega) (by omega)
  · exact .tup (C := 676) (fun d hd => by
      obtain ⟨r, hr⟩ := hb d hd
      exact pln_tbl hm hr) (by omega)
theorem Wld.tbs {m : Int} {nf : Nat} {ac : List (Str × Int)} {th : List Int} {tb : List D} (h : Wld m nf ac th tb) : ∀ d ∈ tb, ∃ r, Tbl m r d := fun d hd => by
  obtain ⟨j, hj⟩ := List.mem_iff_getElem?.mp hd
  have hl := (List.getElem?_eq_some_iff.mp hj).1
  rw [h.nt] at hl
  exact ⟨_, h.tb j d ac[j] hj (by simp [hl])⟩
/-- a wider world -/
theorem Wld.more {m : Int} {nf : Nat} {ac : List (Str × Int)} {th : List Int} {tb : List D} (h : Wld m nf ac th tb) {q : Str × Int} {t : D} (ht : Tbl m q.2 t) : Wld m nf (ac ++ [q]) th (tb ++ [t]) := by
  refine ⟨h.nf, h.th, by simp [h.nt], fun j d p hj hp => ?_⟩
  by_cases hl : j < tb.length
  · rw [List.getElem?_append_left hl] at hj
    rw [List.getElem?_append_left (by have := h.nt; omega)] at hp
    exact h.tb j d p hj hp
  · have hj2 := (List.getElem?_eq_some_iff.mp hj).1
    simp at hj2
    have e : j = tb.length := by omega
    subst e
    rw [List.getElem?_append_right (by omega)] at hj
    rw [h.nt, List.getElem?_append_right (by omega)] at hp
    simp at hj hp
    subst hj hp
    exact ht
/-- going down a row, a table -/
theorem go_row {m x : Int} {d : D} (h : Row m d) (h0 : 0 ≤ x) (h1 : x < m) : ∃ ds z, d = .tup ds ∧ L2.atI ds x = some (.int z) := by
  obtain ⟨xs, rfl, hl, hb⟩ := h.ex
  obtain ⟨z, hz⟩ := ints_at (ns := xs) h0 (by omega)
  exact ⟨_, z, rfl, hz⟩

def scriptR (ns : List Int) : D := .ro (ns.map D.int)
def law67 : Fn := ⟨1, 15, [(.for_ (.nm 1) .rng2 [(.cst (.int 1)), (.bin .add (.cst (.int 2)) (.bi .len [(.sli (.var 0) (some (.cst (.int 1))) (some (.cst (.int 9))))]))] [(.asg (.nm 2) (.call 7 [(.var 0), (.var 1)])), (.asg (.nm 3) (.call 10 [(.var 2)])), (.asg (.nm 4) (.bin .add (.cst (.int 1)) (.call 8 [(.var 2), (.cst (.int 4))]))), (.asg (.nm 5) (.call 11 [(.var 2), (.var 3), (.var 4)])), (.asg (.nm 6) (.bin .add (.cst (.str "wider")) (.sub (.cst (.str "abcdefgh")) (.call 8 [(.var 2), (.cst (.int 8))])))), (.asg (.nm 7) (.bin .add (.cst (.int 1)) (.call 8 [(.var 2), (.cst (.int 2))]))), (.asg (.nm 8) (.sub (.sub (.call 11 [(.var 2), (.tup [(.tup []), (.tup [(.tup [(.var 6), (.var 7)])])]), (.var 4)]) (.cst (.int 2))) (.cst (.int 0)))), (.asg (.nm 9) (.bi .repr [(.tup [(.var 3), (.var 5), (.var 8)])])), (.asg (.nm 10) (.call 5 [(.var 3), (.var 6), (.var 7)])), (.asg (.nm 11) (.call 6 [(.var 5), (.var 8)])), (.ite (.not (.call 12 [(.var 10), (.tup [(.sub (.var 3) (.cst (.int 0))), (.bin .add (.sub (.var 3) (.cst (.int 1))) (.tup [(.tup [(.var 6), (.var 7)])]))])])) [(.ret (.cst (.bl false)))] []), (.ite (.or (.not (.call 12 [(.var 11), (.tup [(.sub (.var 5) (.cst (.int 0))), (.sub (.var 5) (.cst (.int 1))), (.bin .add (.sub (.var 5) (.cst (.int 2))) (.tup [(.var 8)]))])])) (.cmp .isnot (.call 3 [(.var 10), (.var 11)]) (.cst (.bl true)))) [(.ret (.cst (.bl false)))] []), (.asg (.nm 12) (.comp (.call 8 [(.var 2), (.var 4)]) (.nm 14) .rng1 [(.var 7)] [])), (.asg (.nm 13) (.sub (.var 8) (.sub (.var 12) (.cst (.int 0))))), (.ite (.cmp .eq (.var 7) (.cst (.int 2))) [(.asg (.nm 13) (.sub (.var 13) (.sub (.var 12) (.cst (.int 1)))))] []), (.ite (.or (.cmp .ne (.call 4 [(.var 10), (.var 11), (.var 6), (.bi .tuple [(.var 12)])]) (.var 13)) (.cmp .ne (.bi .repr [(.tup [(.var 3), (.var 5), (.var 8)])]) (.var 9))) [(.ret (.cst (.bl false)))] [])]), (.ret (.cst (.bl true)))]⟩
def fns67 : List Fn := [wholeFn, thingFn 0, tableFn 1 2, lookFn 0 1 2, doneFn, wshapeFn, wworldFn, feedFn, takeFn, namesFn 8, shapeFn 9 8, worldFn 8, alikeFn 12, law67]
def wide : Str := "wider"
def eight : Str := "abcdefgh"
theorem wide_lt : Lt wide := by
  unfold Lt
  decide +kernel
theorem wide_len : wide.length = 5 := by decide +kernel
theorem eight_lt : Lt eight := by
  unfold Lt
  decide +kernel
theorem eight_len : eight.length = 8 := by decide +kernel
theorem eight_at {i : Int} (h0 : 0 ≤ i) (h1 : i < 8) : ∃ c, L2.atI eight.cps.toList i = some c ∧ 97 ≤ c ∧ c ≤ 122 := by
  obtain ⟨c, h, hm⟩ := at_int (xs := eight.cps.toList) h0 (by
    have := eight_len
    rw [len_sl] at this
    rw [show (eight.cps.toList.length : Int) = 8 from by exact_mod_cast this]
    exact h1)
  exact ⟨c, h, eight_lt c hm⟩
abbrev P67 : Prog := ⟨fns67, []⟩
theorem turn67 {W n : Nat} {ns : List Int} {j : Int} {st : Sto} {Q : Fl × Env → Sto → Prop} (hj : 0 ≤ j) (x2 x3 x4 x5 x6 x7 x8 x9 x10 x11 x12 x13 x14 : Option D) (k : ∀ x2 x3 x4 x5 x6 x7 x8 x9 x10 x11 x12 x13 x14 s, Q (.next, [some (scriptR ns), some (.int j), x2, x3, x4, x5, x6, x7, x8, x9, x10, x11, x12, x13, x14]) s) :
    wp (evSs (cxF P67 W (n + 20)) [(.asg (.nm 2) (.call 7 [(.var 0), (.var 1)])), (.asg (.nm 3) (.call 10 [(.var 2)])), (.asg (.nm 4) (.bin .add (.cst (.int 1)) (.call 8 [(.var 2), (.cst (.int 4))]))), (.asg (.nm 5) (.call 11 [(.var 2), (.var 3), (.var 4)])), (.asg (.nm 6) (.bin .add (.cst (.str wide)) (.sub (.cst (.str eight)) (.call 8 [(.var 2), (.cst (.int 8))])))), (.asg (.nm 7) (.bin .add (.cst (.int 1)) (.call 8 [(.var 2), (.cst (.int 2))]))), (.asg (.nm 8) (.sub (.sub (.call 11 [(.var 2), (.tup [(.tup []), (.tup [(.tup [(.var 6), (.var 7)])])]), (.var 4)]) (.cst (.int 2))) (.cst (.int 0)))), (.asg (.nm 9) (.bi .repr [(.tup [(.var 3), (.var 5), (.var 8)])])), (.asg (.nm 10) (.call 5 [(.var 3), (.var 6), (.var 7)])), (.asg (.nm 11) (.call 6 [(.var 5), (.var 8)])), (.ite (.not (.call 12 [(.var 10), (.tup [(.sub (.var 3) (.cst (.int 0))), (.bin .add (.sub (.var 3) (.cst (.int 1))) (.tup [(.tup [(.var 6), (.var 7)])]))])])) [(.ret (.cst (.bl false)))] []), (.ite (.or (.not (.call 12 [(.var 11), (.tup [(.sub (.var 5) (.cst (.int 0))), (.sub (.var 5) (.cst (.int 1))), (.bin .add (.sub (.var 5) (.cst (.int 2))) (.tup [(.var 8)]))])])) (.cmp .isnot (.call 3 [(.var 10), (.var 11)]) (.cst (.bl true)))) [(.ret (.cst (.bl false)))] []), (.asg (.nm 12) (.comp (.call 8 [(.var 2), (.var 4)]) (.nm 14) .rng1 [(.var 7)] [])), (.asg (.nm 13) (.sub (.var 8) (.sub (.var 12) (.cst (.int 0))))), (.ite (.cmp .eq (.var 7) (.cst (.int 2))) [(.asg (.nm 13) (.sub (.var 13) (.sub (.var 12) (.cst (.int 1)))))] []), (.ite (.or (.cmp .ne (.call 4 [(.var 10), (.var 11), (.var 6), (.bi .tuple [(.var 12)])]) (.var 13)) (.cmp .ne (.bi .repr [(.tup [(.var 3), (.var 5), (.var 8)])]) (.var 9))) [(.ret (.cst (.bl false)))] [])]
      [some (scriptR ns), some (.int j), x2, x3, x4, x5, x6, x7, x8, x9, x10, x11, x12, x13, x14]) Q st := by
  have F7 : P67.fns[7]? = some feedFn := rfl
  have F10 : P67.fns[10]? = some (shapeFn 9 8) := rfl
  have F9 : P67.fns[9]? = some (namesFn 8) := rfl
  have F8 : P67.fns[8]? = some takeFn := rfl
  have F11 : P67.fns[11]? = some (worldFn 8) := rfl
  have F5 : P67.fns[5]? = some wshapeFn := rfl
  have F6 : P67.fns[6]? = some wworldFn := rfl
  have F12 : P67.fns[12]? = some (alikeFn 12) := rfl
  have F3 : P67.fns[3]? = some (lookFn 0 1 2) := rfl
  have F4 : P67.fns[4]? = some doneFn := rfl
  have F0 : P67.fns[0]? = some wholeFn := rfl
  have F1 : P67.fns[1]? = some (thingFn 0) := rfl
  have F2 : P67.fns[2]? = some (tableFn 1 2) := rfl
  generalize hP : P67 = P at *
  simp only [scriptR] at k
  simp [scriptR]
  refine feed_ok F7 hj fun s0 c0 l0 f0 => ?_
  try simp
  generalize st.length = a at f0 ⊢
  refine shape_ok F10 F9 F8 f0 fun fx ac s1 sh c1 f1 => ?_
  try simp
  refine take_ok F8 f1 (by omega) (by omega) fun r2 s2 p2 q2 c2 l2 f2 => ?_
  try simp
  have hna := sh.na
  have hnf := sh.nf
  refine world_ok F11 F8 f2 (by omega) (by omega) (fd := fx.map D.str) (by simp; omega) (by omega) (fun q hq => ?_) fun th tb s3 wd c3 f3 => ?_
  · have h1 := (sh.ac q hq).lo
    have h2 := (sh.ac q hq).hi
    omega
  try simp
  have hth := wd.nf
  have htb := wd.nt
  simp at hth
  refine take_ok F8 f3 (by omega) (by omega) fun r4 s4 p4 q4 c4 l4 f4 => ?_
  obtain ⟨c, hc, hc1, hc2⟩ := eight_at p4 q4
  have hwl := wide_len
  simp [eight_len, hc, wide_len]
  have hw6 : Wd 6 (wide ++ ⟨#[c]⟩) := ⟨wide_lt.app (Lt.one ⟨hc1, hc2⟩), by rw [len_app, wide_len]; exact Nat.le_refl _⟩
  have hw6l : (wide ++ ⟨#[c]⟩).length = 6 := by rw [len_app, wide_len]; rfl
  generalize wide ++ ⟨#[c]⟩ = w at hw6 hw6l ⊢
  refine take_ok F8 f4 (by omega) (by omega) fun r5 s5 p5 q5 c5 l5 f5 => ?_
  try simp
  refine world_ok F11 F8 f5 (by omega) (by omega) (fd := []) (ac := [(w, 1 + r5)]) (by simp) (by simp) (fun q hq => ?_) fun th2 tb2 s6 wd2 c6 f6 => ?_
  · simp at hq
    subst hq
    show 1 + r5 = 1 ∨ 1 + r5 = 2
    omega
  have ht2 : ∃ t, tb2 = [t] ∧ Tbl (1 + r2) (1 + r5) t := by
    have h1 := wd2.nt
    match tb2, h1 with
    | [t], _ => exact ⟨t, rfl, wd2.tb 0 t (w, 1 + r5) rfl rfl⟩
  obtain ⟨t, rfl, htt⟩ := ht2
  have pS : Pln 3 1000 (shapeD fx ac) := pln_shape sh.fx hnf (fun q hq => ⟨⟨(sh.ac q hq).wd.lt, Nat.le_trans (sh.ac q hq).wd.len (by omega)⟩, (sh.ac q hq).lo, (sh.ac q hq).hi⟩) (by omega)
  have pW : Pln 4 8200 (worldD (1 + r2) th tb) := pln_world (by omega) (by omega) wd.th (by omega) wd.tbs (by omega)
  have pT : Pln 2 676 t := pln_tbl (by omega) htt
  have pA : Pln 5 24603 (.tup [shapeD fx ac, worldD (1 + r2) th tb, t]) := .tup (C := 8200) (fun d hd => by
    simp at hd
    rcases hd with rfl | rfl | rfl
    · exact pS.mono (by omega) (by omega)
    · exact pW
    · exact pT.mono (by omega) (by omega)) (by simp)
  simp [worldD]
  obtain ⟨z0, rep⟩ : ∃ z0, ∀ s : Sto, reprOf s (.tup [shapeD fx ac, .tup [.int (1 + r2), .tup (th.map D.int), .tup tb], t]) = some z0 := ⟨_, fun s => pA.repr (by omega) (by omega) s⟩
  rw [rep]
  simp
  refine wshape_ok F5 (f := .tup (fx.map D.str)) (ds := ac.map actD) (by simp; omega) ?_
  refine wworld_ok F6 (by omega) ?_
  have eA : ac.map actD ++ [D.tup [.str w, .int (1 + r5)]] = (ac ++ [(w, 1 + r5)]).map actD := by simp [actD]
  simp only [shapeD, s_tup, at_0, at_1, wpO_some, b_addt, List.length_map, List.length_cons, List.length_nil, eA]
  refine ⟨by omega, ?_⟩
  have wd2' := wd.more (q := (w, 1 + r5)) htt
  have hdd : ∀ q ∈ ac ++ [(w, 1 + r5)], Dd q := fun q hq => by
    rw [List.mem_append, List.mem_singleton] at hq
    rcases hq with hq | rfl
    · exact ⟨⟨(sh.ac q hq).wd.lt, Nat.le_trans (sh.ac q hq).wd.len (by omega)⟩, (sh.ac q hq).lo, (sh.ac q hq).hi⟩
    · exact ⟨hw6, by show 1 ≤ 1 + r5; omega, by show 1 + r5 ≤ 2; omega⟩
  have hfi : (ac ++ [(w, 1 + r5)]).findIdx? (fun q => decide (q.1 = w)) = some ac.length := by
    rw [List.findIdx?_append]
    have : ac.findIdx? (fun q => decide (q.1 = w)) = none := by
      rw [List.findIdx?_eq_none_iff]
      intro q hq
      refine decide_eq_false fun e => ?_
      have := (sh.ac q hq).wd.len
      rw [e] at this
      omega
    rw [this]
    simp
  have hl2 : (ac ++ [(w, 1 + r5)]).length ≤ 4 := by simp; omega
  have htb2 : (tb ++ [t])[ac.length]? = some t := by rw [← htb]; simp
  have hlt2 : (tb ++ [t]).length ≤ 4 := by simp; omega
  generalize ac ++ [(w, 1 + r5)] = ac2 at wd2' hdd hfi hl2 ⊢
  generalize tb ++ [t] = tb2 at wd2' htb2 hlt2 ⊢
  have pS2 : Pln 3 1000 (.tup [.tup (fx.map D.str), .tup (ac2.map actD)]) := pln_shape sh.fx hnf hdd hl2
  have pW2 : Pln 4 8200 (.tup [.int (1 + r2), .tup (th.map D.int), .tup tb2]) := pln_world (by omega) (by omega) wd.th (by omega) wd2'.tbs hlt2
  refine alike_ok F12 pS2 (by omega) (by omega) fun s7 c7 => ?_
  simp
  refine ⟨by omega, alike_ok F12 pW2 (by omega) (by omega) fun s8 c8 => ?_⟩
  simp
  refine look_ok F3 F0 F1 F2 (fx := fx.map D.str) (ac := ac2) (things := th) (tabs := tb2) (by omega) (by omega) (by simp; omega) (by omega) (by simpa using wd2') fun s9 c9 => ?_
  have hsm : small (1 + r5) = true := by
    unfold small
    simp
    omega
  simp [hsm]
  have f9 : Fd s9 a := ((f6.keep c7 (by simp)).keep c8 (by simp)).keep c9 (by simp)
  refine wp_compF (a := a) (fun _ d => ∃ x : Int, d = .int x ∧ 0 ≤ x ∧ x < 1 + r2) f9 (by simp; omega) (fun j d s hj c10 f10 => ⟨rfl, ?_⟩) fun s10 vs c10 f10 hl10 hP => ⟨rfl, ?_⟩
  · obtain ⟨hj1, rfl⟩ := range_get hj
    simp [Tg.vars, wipeE]
    exact take_ok F8 f10 (by omega) (by omega) fun r s2 p2 q2 c2 l2 f2 => ⟨c2, f2, r, rfl, p2, q2⟩
  · obtain ⟨xs, rfl, hx⟩ := list_of hP
    simp at hl10
    have hdone : ∀ {s : Sto} {is : List Int} {z : Int} {Q : D → Sto → Prop}, goD t is = some (.int z) → (∀ s', Ch [] s s' → Q (.int z) s') → wp (evF P W (n + 20) 4 [.tup [.tup (fx.map D.str), .tup (ac2.map actD)], .tup [.int (1 + r2), .tup (th.map D.int), .tup tb2], .str w, .tup (is.map D.int)]) Q s := fun hg kk =>
      done_ok F4 (by omega) (fun q hq => (hdd q hq).wd.lt.ok) hw6.lt.ok hfi htb2 hg kk
    have rep2 : ∀ s : Sto, reprOf s (.tup [.tup [.tup (fx.map D.str), .tup (ac.map actD)], .tup [.int (1 + r2), .tup (th.map D.int), .tup tb], t]) = some z0 := rep
    rcases htt.ex with ⟨e1, hrow⟩ | ⟨e2, rows, et, hlr, hrows⟩
    · have hx1 : ∃ x, xs = [x] := by
        have : xs.length = 1 := by omega
        match xs, this with
        | [x], _ => exact ⟨x, rfl⟩
      obtain ⟨x, rfl⟩ := hx1
      obtain ⟨b1, b2⟩ := hx x (by simp)
      obtain ⟨ds, z, rfl, hz⟩ := go_row hrow b1 b2
      have hg : goD (.tup ds) [x] = some (.int z) := by
        show (L2.atI ds x).bind (fun e => goD e []) = _
        rw [hz]
        rfl
      have hn2 : ¬ (1 + r5 = 2) := by omega
      simp [hz, hn2]
      refine hdone hg fun s11 c11 => ?_
      simp [rep2]
      exact k _ _ _ _ _ _ _ _ _ _ _ _ _ _
    · have hx2 : ∃ x y, xs = [x, y] := by
        have : xs.length = 2 := by omega
        match xs, this with
        | [x, y], _ => exact ⟨x, y, rfl⟩
      obtain ⟨x, y, rfl⟩ := hx2
      obtain ⟨b1, b2⟩ := hx x (by simp)
      obtain ⟨b3, b4⟩ := hx y (by simp)
      subst et
      obtain ⟨row, hr1, hr2⟩ := at_int (xs := rows) b1 (by omega)
      obtain ⟨ds, z, rfl, hz⟩ := go_row (hrows row hr2) b3 b4
      have hg : goD (.tup rows) [x, y] = some (.int z) := by
        show (L2.atI rows x).bind (fun e => goD e [y]) = _
        rw [hr1]
        show (L2.atI ds y).bind (fun e => goD e []) = _
        rw [hz]
        rfl
      simp [hr1, e2, hz]
      refine hdone hg fun s11 c11 => ?_
      simp [rep2]
      exact k _ _ _ _ _ _ _ _ _ _ _ _ _ _

theorem law67_ok {W N n : Nat} (hN : N = n + 20 + 1) (ns : List Int) (hl : ns.length ≤ 63) : ∃ st, evF P67 W N 13 [scriptR ns] [] = .ok (.bl true) st := by
  subst hN
  have F13 : P67.fns[13]? = some law67 := rfl
  have T := @turn67 W n ns
  generalize P67 = P at F13 T ⊢
  have w : wp (evF P W (n + 20 + 1) 13 [scriptR ns]) (fun v _ => v = .bl true) [] := by
    refine wp_evF F13 rfl ?_
    have hcl : (cutD (ns.map D.int) (some 1) (some 9)).length ≤ 63 := by
      unfold cutD
      simp
      omega
    have hsm : small (2 + ((cutD (ns.map D.int) (some 1) (some 9)).length : Int)) = true := by
      unfold small
      simp
      omega
    have hs1 : small 1 = true := by decide
    simp [law67, scriptR, hsm, hs1]
    refine wp_for (fun i env s => ∃ x1 x2 x3 x4 x5 x6 x7 x8 x9 x10 x11 x12 x13 x14, env = [some (.ro (ns.map D.int)), x1, x2, x3, x4, x5, x6, x7, x8, x9, x10, x11, x12, x13, x14]) (i := 0) ⟨_, _, _, _, _, _, _, _, _, _, _, _, _, _, rfl⟩ ?_ ?_
    · rintro j d env s hj ⟨x1, x2, x3, x4, x5, x6, x7, x8, x9, x10, x11, x12, x13, x14, rfl⟩
      obtain ⟨hj1, rfl⟩ := range_get hj
      refine ⟨rfl, ?_⟩
      rw [asg_s, asg_0]
      show wp _ _ s
      exact T (j := 1 + j) (by omega) x2 x3 x4 x5 x6 x7 x8 x9 x10 x11 x12 x13 x14 fun y2 y3 y4 y5 y6 y7 y8 y9 y10 y11 y12 y13 y14 s2 => ⟨_, _, _, _, _, _, _, _, _, _, _, _, _, _, rfl⟩
    · rintro env s ⟨x1, x2, x3, x4, x5, x6, x7, x8, x9, x10, x11, x12, x13, x14, rfl⟩
      refine ⟨rfl, ?_⟩
      simp
  obtain ⟨v, s, h1, h2⟩ := wp_ok w
  subst h2
  exact ⟨s, h1⟩
end Y

namespace Y
open PySem PySem.Spec PyProof.Rows L2
set_option maxHeartbeats 0
abbrev tp (i : Nat) : Stmt := PySem.Challenge.pw_shapefree_k67_wider_shapes_and_worlds.main.body.getD i (.Pass ⟨0, 0, 0, 0⟩)
abbrev fiOf (i : Nat) (x : Str) (ps N : List Str) : Fi := ⟨x, ps, N, defArgs (tp i), defBody (tp i), defScope (tp i)⟩
def fis : List Fi := [
  fiOf 4 "is_whole" ["thing"] ["thing"],
  fiOf 6 "is_thing" ["size", "thing"] ["size", "thing"],
  fiOf 7 "is_table" ["size", "places", "thing"] ["size", "places", "thing", "one"],
  fiOf 8 "look_world" ["shape", "world"] ["shape", "world", "size", "things", "tables", "thing", "deed", "table"],
  fiOf 9 "done" ["shape", "world", "d", "things"] ["shape", "world", "d", "things", "found", "thing", "deed"],
  fiOf 11 "wider_shape" ["shape", "d", "places"] ["shape", "d", "places", "fixed", "deeds"],
  fiOf 12 "wider_world" ["world", "table"] ["world", "table", "n", "things", "tables"],
  fiOf 14 "_law_feed" ["_law_script", "_law_k"] ["_law_script", "_law_k", "_law_cell", "_law_own"],
  fiOf 15 "_law_take" ["_law_feed_here", "_law_many"] ["_law_feed_here", "_law_many", "_law_one", "_law_digit"],
  fiOf 16 "_law_names" ["_law_feed_here", "_law_many"] ["_law_feed_here", "_law_many", "_law_letters", "_law_stem", "_law_turn", "_law_names_here", "_law_k", "_law_first", "_law_at", "_law_sign", "_law_name"],
  fiOf 17 "_law_shape" ["_law_feed_here"] ["_law_feed_here", "_law_stem", "_law_fixed", "_law_names_here", "_law_acts", "_law_name", "_law_k"],
  fiOf 18 "_law_world" ["_law_feed_here", "_law_shape_here", "_law_n"] ["_law_feed_here", "_law_shape_here", "_law_n", "_law_things", "_law_tables", "_law_d", "_law_reach", "_law_c", "_law_k", "_law_j"],
  fiOf 19 "_law_alike" ["_law_found", "_law_due"] ["_law_found", "_law_due", "_law_one", "_law_other"],
  fiOf 20 "law" ["_law_script"] ["_law_script", "_law_k", "_law_feed_here", "_law_shape_here", "_law_n", "_law_world_here", "_law_d", "_law_reach", "_law_table", "_law_kept", "_law_wide", "_law_other", "_law_things", "_law_due", "_law_j"]]
set_option maxRecDepth 1000000 in
theorem tr_eq : trFns fis = some fns67 := by kernel_rfl
theorem fi_b : ∀ fi ∈ fis, fiB fi = true := by decide +kernel
theorem fi_bind : ∀ fi ∈ fis, BindF fi := by
  intro fi hm
  simp only [fis, List.mem_cons, List.not_mem_nil, or_false] at hm
  rcases hm with rfl | rfl | rfl | rfl | rfl | rfl | rfl | rfl | rfl | rfl | rfl | rfl | rfl | rfl
  · exact fun _ _ _ _ _ _ us hl => match us, hl with | [_], _ => rfl
  · exact fun _ _ _ _ _ _ us hl => match us, hl with | [_, _], _ => rfl
  · exact fun _ _ _ _ _ _ us hl => match us, hl with | [_, _, _], _ => rfl
  · exact fun _ _ _ _ _ _ us hl => match us, hl with | [_, _], _ => rfl
  · exact fun _ _ _ _ _ _ us hl => match us, hl with | [_, _, _, _], _ => rfl
  · exact fun _ _ _ _ _ _ us hl => match us, hl with | [_, _, _], _ => rfl
  · exact fun _ _ _ _ _ _ us hl => match us, hl with | [_, _], _ => rfl
  · exact fun _ _ _ _ _ _ us hl => match us, hl with | [_, _], _ => rfl
  · exact fun _ _ _ _ _ _ us hl => match us, hl with | [_, _], _ => rfl
  · exact fun _ _ _ _ _ _ us hl => match us, hl with | [_, _], _ => rfl
  · exact fun _ _ _ _ _ _ us hl => match us, hl with | [_], _ => rfl
  · exact fun _ _ _ _ _ _ us hl => match us, hl with | [_, _, _], _ => rfl
  · exact fun _ _ _ _ _ _ us hl => match us, hl with | [_, _], _ => rfl
  · exact fun _ _ _ _ _ _ us hl => match us, hl with | [_], _ => rfl
def fa : List He.Fa := fis.map (fun fi => .glo fi.x) ++ freeN.map .free
abbrev RR : PySem.W.OpenRow := PySem.W.OpenLaw.row PySem.Challenge.rw_shapefree_k67_wider_shapes_and_worlds
abbrev hk : PySem.W.Hook := He.hookD 4 fa (fis.map Fi.dd)
def ob (s : PySem.W.SharedT) : He.AlD := He.obsDG 4 fa (fis.map Fi.dd) (HandSHeadRun.getT s)
theorem ob_eq (s : PySem.W.SharedT) : ob s = hk.obs s.abs := He.obsDG_eq (HandSHeadRun.getT_eq s)
def loose : List Str := ["ShapeError", "NoWorld", "is_whole", "is_thing", "is_table", "look_world", "done", "wider_shape", "wider_world", "_law_feed", "_law_take", "_law_names", "_law_shape", "_law_world", "_law_alike"]
theorem run (w : World) : HandSHeadRun.RunEq RR (PySem.W.view RR.prog [20]) hk ob 3000 loose w := by
  intro os
  kernel_rfl
theorem facts {P : Program} {w : World} {K : PySem.W.Frag} {h : Heap} {mg : Str → Option Value} {fad : Addr} (inK : K.In h) (ns : h.Ns mainGlobals mg) (named : mg ("law" : Str) = some (.ref fad)) (c : He.SaysD fa (fis.map Fi.dd) K) :
    ∃ fd : FuncData, (∀ (s : Shared) (v : Value), BindsTo s fd ⟨[v], []⟩ [("_law_script", v)]) ∧ ∀ base : Heap, K.In base → base.Ns mainGlobals mg → FnY P w K mg base CX0 60 fad fd ["_law_script"] (spY K (fun _ => 0) 1 (evF ⟨fns67, []⟩ 1000 60 13)) :=
  facts_of (li := 13) (fi := fiOf 20 "law" ["_law_script"] ["_law_script", "_law_k", "_law_feed_here", "_law_shape_here", "_law_n", "_law_world_here", "_law_d", "_law_reach", "_law_table", "_law_kept", "_law_wide", "_law_other", "_law_things", "_law_due", "_law_j"]) tr_eq fi_b fi_bind rfl rfl rfl (fun _ => rfl) inK ns named c
end Y
open PySem PySem.W PySem.Calls PyProof.Rows
theorem PySem.Challenge.cw_shapefree_k67_wider_shapes_and_worlds_holds : PySem.Challenge.rw_shapefree_k67_wider_shapes_and_worlds.Holds := by
  w_on; o_law
  refine HandSHeadRun.head_any (r := OpenLaw.row PySem.Challenge.rw_shapefree_k67_wider_shapes_and_worlds) (q := view (OpenLaw.row PySem.Challenge.rw_shapefree_k67_wider_shapes_and_worlds).prog [20]) (H := Y.hk) (ob := Y.ob) (M := 3000) (loose := Y.loose) (d := HandSHeadRun.topDef (OpenLaw.row PySem.Challenge.rw_shapefree_k67_wider_shapes_and_worlds).prog 20) (kwd := []) Y.ob_eq
    (by kernel_rfl) (fun s => by kernel_rfl) Y.run (by kernel_rfl) (by kernel_rfl) (by kernel_rfl) (by rfl) (by first | assumption | decide +kernel) (by decide +kernel) ⟨rfl, rfl, rfl, rfl, rfl, by decide +kernel⟩ ?toy ?walk
  case toy => w_witness2
  case walk =>
    refine Y.end_law (l := PySem.Challenge.rw_shapefree_k67_wider_shapes_and_worlds) (n := 63) (k := 60) (x := "_law_script") rfl (by decide) (by kernel_rfl) ⟨rfl, by decide, by decide⟩ fun w mg fad h said ns named0 => ?_
    obtain ⟨K, inK, c⟩ := said
    have named : mg ("law" : PySem.Str) = some (.ref fad) := by
      have e : (HandSHeadRun.topDef (OpenLaw.row PySem.Challenge.rw_shapefree_k67_wider_shapes_and_worlds).prog 20).name = ("law" : PySem.Str) := by kernel_rfl
      rw [← e]
      exact named0
    obtain ⟨fd, binds, all⟩ := Y.facts (P := PySem.Challenge.rw_shapefree_k67_wider_shapes_and_worlds.prog) (w := w) inK ns named c
    exact ⟨K, fd, _, _, inK, binds, fun ns hl => Y.law67_ok (W := 1000) (N := 60) (n := 39) rfl ns hl, all⟩
