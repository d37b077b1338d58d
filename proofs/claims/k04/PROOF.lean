import PyProof.Rows.All
import Wide.All
import OpenK.AllK
import Wide.FinOn
import HandS.ForMost
import HandS.Zip
import HandS.Flow
import HandS.IsInst
import HandS.TupAny
import HandS.Style
import HandS.RaiseMore
import HandS.Deep
import HandS.TupMul
import HandS.Wide
import HandS.WideBits
import KE.DataMinMax
import KE.KRevSl
import HandS.TupLe
import KE.GoesMore
import HandS.Iter
import HandS.Lambda
import HandS.SortKw
import HandS.Sort
import KE.KMinKey
import KE.GoesEnum
import HandS.Walk
import HandS.TupSets
import HandS.Conv
import HandS.Rev
import HandS.EndBits
import HandS.Words
import KE.KNestM
import PyProof.P3Eq
import PyProof.ReprReads
import PyProof.Rows.StrIntSpec
import HandS.Text
import PyProof.StrLawsRepr
import PySem.Challenge.RW_stepforms_k04_what_is_a_table
set_option Elab.async false
set_option linter.all false
set_option maxRecDepth 100000
/-! Px1: a small language of data and its meaning; no machine here. -/
namespace Px
open PySem

/-- what a name may hold: data, or the handle of a list that may change, or the script (cut, no more) -/
inductive D where
  | p (d : PyData)
  | r (n : Nat)
  | s (xs : List PyData)
  | t (xs : List (PyData ⊕ Nat))
/-- what stands at a handle: a list that may change; one that is never changed again; a list that holds handles -/
inductive O where
  | lst (xs : List PyData)
  | frz (xs : List PyData)
  | nst (xs : List D)
def O.flat : O → Bool
  | .nst _ => false
  | _ => true
def D.below (k : Nat) : D → Bool
  | .r n => decide (n < k)
  | .t xs => xs.all fun x => match x with
    | .inr n => decide (n < k)
    | .inl _ => true
  | _ => true
/-- a list of lists knows of the first k handles alone -/
def O.cl (k : Nat) : O → Bool
  | .nst xs => xs.all (D.below k)
  | _ => true
/-- an exception: its class, what it keeps -/
abbrev Exn := Nat × List PyData
inductive Out (α : Type) where
  | ok (a : α) (h : List O)
  | no
  | ex (x : Exn) (h : List O)
def M (α : Type) : Type := List O → Out α
@[inline] def M.ret {α : Type} (a : α) : M α := fun h => .ok a h
@[inline] def M.bnd {α β : Type} (m : M α) (f : α → M β) : M β := fun h => match m h with
  | .ok a h' => f a h'
  | .no => .no
  | .ex _ _ => .no
instance : Monad M where
  pure := M.ret
  bind := M.bnd
def M.opt {α : Type} (o : Option α) : M α := fun h => match o with
  | some a => .ok a h
  | none => .no
def M.no {α : Type} : M α := fun _ => .no
/-- what is raised -/
def getX {α : Type} (m : M α) : M Exn := fun h => match m h with
  | .ex x h' => .ok x h'
  | _ => .no
/-- the one, or else the other -/
def orX {α : Type} (m n : M α) : M α := fun h => match m h with
  | .ok x h' => .ok x h'
  | _ => n h

def drf (h : List O) : D → Option PyData
  | .p d => some d
  | .r n => match h[n]? with
    | some (.lst xs) => some (.list xs)
    | some (.frz xs) => some (.list xs)
    | some (.nst _) => none
    | none => none
  | .s _ => none
  | .t _ => none
/-- read what a handle holds now -/
def rd (d : D) : M PyData := fun h => M.opt (drf h d) h
def rdS : D → M PyData
  | .s xs => M.ret (.list xs)
  | d => rd d
/-- as a value that is kept: a list that might change is from now on never changed -/
def val1 : D → M PyData
  | .p d => M.ret d
  | .r n => fun h => match h[n]? with
    | some (.lst xs) => .ok (.list xs) (h.set n (.frz xs))
    | some (.frz xs) => .ok (.list xs) h
    | some (.nst _) => .no
    | none => .no
  | .s _ => M.no
  | .t _ => M.no
def valL : List D → M (List PyData)
  | [] => pure []
  | d :: r => do
    let x ← val1 d
    let xs ← valL r
    pure (x :: xs)
/-- as val1; a list of lists, with all of these -/
def valN : D → M PyData
  | .p d => M.ret d
  | .r n => fun h => match h[n]? with
    | some (.lst xs) => .ok (.list xs) (h.set n (.frz xs))
    | some (.frz xs) => .ok (.list xs) h
    | some (.nst xs) => (match valL xs h with
      | .ok ds h1 => .ok (.list ds) (h1.set n (.frz ds))
      | _ => .no)
    | none => .no
  | .s _ => M.no
  | .t _ => M.no
/-- an item of a tuple that holds handles -/
def itD : PyData ⊕ Nat → D
  | .inl d => .p d
  | .inr n => .r n
def valLL : List (PyData ⊕ Nat) → M (List PyData)
  | [] => pure []
  | d :: r => do
    let x ← valN (itD d)
    let xs ← valLL r
    pure (x :: xs)
/-- as valN; a tuple of handles, with all of these -/
def val : D → M PyData
  | .p d => M.ret d
  | .r n => fun h => match h[n]? with
    | some (.lst xs) => .ok (.list xs) (h.set n (.frz xs))
    | some (.frz xs) => .ok (.list xs) h
    | some (.nst xs) => (match valL xs h with
      | .ok ds h1 => .ok (.list ds) (h1.set n (.frz ds))
      | _ => .no)
    | none => .no
  | .s _ => M.no
  | .t xs => fun h => (match valLL xs h with
      | .ok ds h1 => .ok (.tuple ds) h1
      | _ => .no)

def rds : List D → M (List PyData)
  | [] => pure []
  | d :: r => do
    let x ← rd d
    let xs ← rds r
    pure (x :: xs)

inductive BOp where | add | sub | mul | mod | fdv | pow | shl | shr | band
inductive COp where | eq | ne | lt | le | gt | ge | mem | nmem
inductive Bl where | len | abs | max | min | sum | all | any | int | str | repr | tuple
inductive Kd where | int | bool | tuple | list | str
  deriving DecidableEq

inductive T where
  | nil | cons (a tl : T)
  | var (i : Nat) | non | int (i : Int) | str (s : Str) | bl (b : Bool)
  | glob (g : Nat)
  | bin (op : BOp) (a b : T) | neg (a : T) | not (a : T)
  | cmp (op : COp) (a b : T) | chn (o1 o2 : COp) (a b c : T)
  | isN (a : T) | isNN (a : T) | isB (b : Bool) (a : T) | isNB (b : Bool) (a : T)
  | and (a b : T) | or (a b : T) | ife (c a b : T)
  | tup (es : T) | lst (es : T)
  | ix (a i : T) | sl (a lo hi : T) | slr (a : T)
  | ixn (a i : T) | lnn (a : T)
  | call (f : Nat) (es : T) | callW (f : Nat) (es : T)
  | gget (g : Nat) (a d : T)
  | blt (b : Bl) (es : T) | lof (a : T) | srt (a : T) | lrg (a b : T)
  | isi (a : T) (k : Kd)
  | comp (own is : List Nat) (tp : Bool) (it cond elt : T)
  | rng1 (a : T) | rng2 (a b : T) | zip (es : T) | enm (es : T) | rev (es : T)
  | consL (a tl : T) | consN (a tl : T) | tupN (es : T) | ixp (a i : T) | pop (x i : T)
  | minl (i : Nat) (it elt : T)

/-! ### the values of the operations -/
def okBits (i : Int) : Bool := decide (i.natAbs.log2 < 400000)
def binD : BOp → PyData → PyData → Option PyData
  | .add, .int i, .int j => some (.int (i + j))
  | .add, .tuple xs, .tuple ys => if xs.length + ys.length ≤ 2 ^ 23 then some (.tuple (xs ++ ys)) else none
  | .add, .list xs, .list ys => if xs.length + ys.length ≤ 2 ^ 23 then some (.list (xs ++ ys)) else none
  | .add, .str x, .str y => if x.length + y.length ≤ 2 ^ 23 then some (.str (x ++ y)) else none
  | .sub, .int i, .int j => some (.int (i - j))
  | .mul, .int i, .int j => if okBits i && okBits j then some (.int (i * j)) else none
  | .mul, .tuple xs, .int j => if xs.length ≤ 1000 ∧ -(2 ^ 63) ≤ j ∧ j ≤ 1000 then some (.tuple (List.replicate j.toNat xs).flatten) else none
  | .mul, .list xs, .int j => if xs.length ≤ 1 ∧ -(2 ^ 63) ≤ j ∧ j ≤ 1000 then some (.list (List.replicate j.toNat xs).flatten) else none
  | .mod, .int i, .int j => if j = 0 then none else some (.int (i.fmod j))
  | .fdv, .int i, .int j => if j ≠ 0 ∧ j.natAbs.log2 < 9000 then some (.int (i.fdiv j)) else none
  | .pow, .int i, .int j => if 0 ≤ j ∧ j ≤ 1000 ∧ i.natAbs.log2 < 100000 then some (.int (i ^ j.toNat)) else none
  | .shl, .int i, .int j => if 0 ≤ j ∧ j ≤ 1000 ∧ i.natAbs < 2 ^ 64 then some (.int (i * 2 ^ j.toNat)) else none
  | .shr, .int i, .int j => if 0 ≤ j ∧ j ≤ 100 then some (.int (i / 2 ^ j.toNat)) else none
  | .band, .int i, .int j => if 0 ≤ i ∧ j = 1 then some (.int (i % 2)) else none
  | _, _, _ => none
def shp (d : PyData) : Bool := SeqAt.shaped d
def flat : PyData → Bool
  | .list _ | .tuple _ | .dict _ => false
  | _ => true
/-- neither a list nor a tuple nor a dict, and no float -/
def flat1 : PyData → Bool
  | .none | .bool _ | .int _ | .str _ => true
  | _ => false
/-- x in ys -/
def memD (x : PyData) : PyData → Option Bool
  | .list ys => if shp x && shp (.list ys) then some (ys.any fun z => PyData.eqv z x) else none
  | .tuple ys => if flat1 x && ys.all flat1 then some (ys.any fun z => PyData.eqv z x) else none
  | .str b => (match x with
    | .str a => some (!(Builtin.Str.occurrences b a 0 b.length 1).isEmpty)
    | _ => none)
  | _ => none
def cmpD : COp → PyData → PyData → Option Bool
  | .eq, x, y => if shp x && shp y then some (PyData.eqv x y) else none
  | .ne, x, y => if shp x && shp y then some (!PyData.eqv x y) else none
  | .lt, .int i, .int j => some (decide (i < j))
  | .le, .int i, .int j => some (decide (i ≤ j))
  | .gt, .int i, .int j => some (decide (j < i))
  | .ge, .int i, .int j => some (decide (j ≤ i))
  | .gt, .bool b, .int j => some (decide (j < if b then 1 else 0))
  | .mem, x, y => memD x y
  | .nmem, x, y => (memD x y).map (!·)
  | _, _, _ => none
def truthD : PyData → Option Bool
  | .none => some false
  | .bool b => some b
  | .int i => some (i != 0)
  | .list xs => some (!xs.isEmpty)
  | .tuple xs => some (!xs.isEmpty)
  | _ => none
def intOf : PyData → Option Int
  | .int i => some i
  | _ => none
def intsOf : List PyData → Option (List Int)
  | [] => some []
  | .int i :: r => (intsOf r).map (i :: ·)
  | _ :: _ => none
def boolsOf : List PyData → Option (List Bool)
  | [] => some []
  | .bool i :: r => (boolsOf r).map (i :: ·)
  | _ :: _ => none
def seqOf : PyData → Option (List PyData)
  | .list xs => some xs
  | .tuple xs => some xs
  | _ => none
def ixD (d : PyData) (i : PyData) : Option PyData := match i with
  | .int i => (seqOf d).bind fun xs => L2.atI xs i
  | _ => none
def cutL {α : Type} (xs : List α) (lo hi : Option Int) : List α := (xs.drop (HT.sIx xs.length 0 lo)).take (HT.sIx xs.length xs.length hi - HT.sIx xs.length 0 lo)
def slD (d : PyData) (lo hi : Option Int) : Option PyData := match d with
  | .tuple xs => some (.tuple (cutL xs lo hi))
  | .list xs => some (.list (cutL xs lo hi))
  | _ => none
def isiD (d : PyData) : Kd → Option Bool
  | .int => some (match d with | .int _ => true | .bool _ => true | _ => false)
  | .bool => some (match d with | .bool _ => true | _ => false)
  | .tuple => some (match d with | .tuple _ => true | _ => false)
  | .list => some (match d with | .list _ => true | _ => false)
  | .str => some (match d with | .str _ => true | _ => false)
def maxL : Int → List Int → Int
  | m, [] => m
  | m, n :: r => maxL (if n > m then n else m) r
def minL : Int → List Int → Int
  | m, [] => m
  | m, n :: r => minL (if n < m then n else m) r
/-- the greatest, the least of a list of whole numbers -/
def mostD (f : Int → List Int → Int) (xs : List PyData) : Option PyData := match intsOf xs with
  | some (n :: r) => some (.int (f n r))
  | _ => none
/-- pairs of whole numbers -/
def pairsOf : List PyData → Option (List (Int × Int))
  | [] => some []
  | .tuple [.int i, .int j] :: r => (pairsOf r).map ((i, j) :: ·)
  | _ :: _ => none
def pairLt (p q : Int × Int) : Bool := decide (p.1 < q.1) || (decide (p.1 = q.1) && decide (p.2 < q.2))
def minP : Int × Int → List (Int × Int) → Int × Int
  | m, [] => m
  | m, n :: r => minP (if pairLt n m then n else m) r
def leastD (xs : List PyData) : Option PyData := match intsOf xs with
  | some (n :: r) => some (.int (minL n r))
  | _ => match pairsOf xs with
    | some (n :: r) => let p := minP n r; some (.tuple [.int p.1, .int p.2])
    | _ => none
def bltD : Bl → List PyData → Option PyData
  | .len, [.list xs] => some (.int xs.length)
  | .len, [.tuple xs] => some (.int xs.length)
  | .abs, [.int i] => some (.int (if i < 0 then -i else i))
  | .max, [.int i, .int j] => some (.int (if j > i then j else i))
  | .min, [.int i, .int j] => some (.int (if j < i then j else i))
  | .max, [.list xs] => mostD maxL xs
  | .min, [.list xs] => leastD xs
  | .sum, [.list xs] => (intsOf xs).map fun ns => .int ns.sum
  | .all, [.list xs] => (boolsOf xs).map fun bs => .bool (bs.all id)
  | .any, [.list xs] => (boolsOf xs).map fun bs => .bool (bs.any id)
  | .int, [.bool b] => some (.int (if b then 1 else 0))
  | .int, [.int i] => some (.int i)
  | .str, [.int i] => if i.natAbs.log2 < 1920 then some (.str (toString i)) else none
  | .repr, [d] => if PyData.showable d && !PyData.hasDict d && decide (d.depth ≤ 64) && decide (d.shown.length ≤ 2 ^ 24) then some (.str d.shown) else none
  | .tuple, [.list xs] => some (.tuple xs)
  | .tuple, [.tuple xs] => some (.tuple xs)
  | _, _ => none

/-! ### names -/
abbrev Env := List (Option D)
def wipe (ρ : Env) : List Nat → Env
  | [] => ρ
  | v :: vs => (wipe ρ vs).set v none
def bindAll : List Nat → List PyData → Env → Option Env
  | [], [], ρ => some ρ
  | i :: is, d :: ds, ρ => bindAll is ds (ρ.set i (some (.p d)))
  | _, _, _ => none
/-- a target of names alone: one, or a tuple of them -/
def bindG (is : List Nat) (tp : Bool) (d : PyData) (ρ : Env) : Option Env :=
  if tp then (match d with | .tuple ds => bindAll is ds ρ | _ => none)
  else (match is with | [i] => some (ρ.set i (some (.p d))) | _ => none)

/-! ### calls: the callee sees the lists that it is handed alone -/
def norm (h : List O) : D → Option D
  | .p d => some (.p d)
  | .t _ => none
  | .s xs => some (.s xs)
  | .r n => match h[n]? with
    | some (.lst _) => some (.r n)
    | some (.frz xs) => some (.p (.list xs))
    | some (.nst _) => none
    | none => none
def handles : List D → List Nat
  | [] => []
  | .p _ :: r => handles r
  | .s _ :: r => handles r
  | .t _ :: r => handles r
  | .r n :: r => let l := handles r; if n ∈ l then l else n :: l
def subOf (h : List O) : List Nat → Option (List O)
  | [] => some []
  | n :: r => match h[n]?, subOf h r with
    | some o, some l => some (o :: l)
    | _, _ => none
def rename (idx : List Nat) : D → D
  | .p d => .p d
  | .s xs => .s xs
  | .t xs => .t xs
  | .r n => .r (idx.idxOf n)
def putBack (h : List O) : List Nat → List O → List O
  | n :: r, o :: l => (putBack h r l).set n o
  | _, _ => h
def callF (F : Nat → List D → M (PyData × Bool)) (f : Nat) (ds : List D) : M (PyData × Bool) := fun h =>
  match ds.mapM (norm h) with
  | none => .no
  | some ds => match subOf h (handles ds) with
    | none => .no
    | some sub => match F f (ds.map (rename (handles ds))) sub with
      | .no => .no
      | .ex x h' => if (h'.take (handles ds).length).all O.flat then .ex x (putBack h (handles ds) h') else .no
      | .ok v h' => if (h'.take (handles ds).length).all O.flat then .ok v (putBack h (handles ds) h') else .no

/-! ### expressions -/
def compL (is : List Nat) (tp : Bool) (ρ : Env) (cond : Env → M Bool) (elt : Env → M PyData) : List PyData → M (List PyData)
  | [] => pure []
  | x :: xs => do
    let ρ1 ← M.opt (bindG is tp x ρ)
    if ← cond ρ1 then
      let y ← elt ρ1
      let ys ← compL is tp ρ cond elt xs
      pure (y :: ys)
    else compL is tp ρ cond elt xs
def rangeL (lo hi : Int) : List PyData := (List.range (hi - lo).toNat).map fun i => .int (lo + (i : Nat))
def rngD : List PyData → Option (List PyData)
  | [.int n] => if -(2 ^ 62) ≤ n ∧ n < 2 ^ 62 then some (rangeL 0 n) else none
  | [.int a, .int b] => if -(2 ^ 62) ≤ a ∧ a < 2 ^ 62 ∧ -(2 ^ 62) ≤ b ∧ b < 2 ^ 62 then some (rangeL a b) else none
  | _ => none
def zipD (xs ys : List PyData) : List PyData := List.zipWith (fun x y => .tuple [x, y]) xs ys
def zipDs : List PyData → Option (List PyData)
  | [.list xs, .list ys] => some (zipD xs ys)
  | [.tuple xs, .tuple ys] => some (zipD xs ys)
  | [.list xs, .tuple ys] => some (zipD xs ys)
  | [.tuple xs, .list ys] => some (zipD xs ys)
  | _ => none
def enumD (xs : List PyData) : List PyData := xs.zipIdx.map fun p => .tuple [.int (p.2 : Nat), p.1]

def enumDs : List PyData → Option (List PyData)
  | [.list xs] => some (enumD xs)
  | [.tuple xs] => some (enumD xs)
  | _ => none

/-- an exception's class: its name, its fields, which classes it is of -/
structure XCls where
  name : Str
  fields : List Str
  up : List Nat
structure Pg where
  gl : List PyData
  ds : List (List (Str × Option PyData)) := []
  xs : List XCls := []

/-- the list that a handle holds now, which may change -/
def liv (d : D) : M (Nat × List PyData) := fun h => match d with
  | .p _ => .no
  | .s _ => .no
  | .t _ => .no
  | .r n => match h[n]? with
    | some (.lst xs) => .ok (n, xs) h
    | _ => .no
/-- the list of lists that a handle holds now -/
def livN (d : D) : M (Nat × List D) := fun h => match d with
  | .p _ => .no
  | .s _ => .no
  | .t _ => .no
  | .r n => match h[n]? with
    | some (.nst xs) => .ok (n, xs) h
    | _ => .no
def put (n : Nat) (xs : List PyData) : M Unit := fun h => .ok () (h.set n (.lst xs))
def putN (n : Nat) (xs : List D) : M Unit := fun h => .ok () (h.set n (.nst xs))
def newL (xs : List PyData) : M D := fun h => .ok (.r h.length) (h ++ [.lst xs])
def newN (xs : List D) : M D := fun h => .ok (.r h.length) (h ++ [.nst xs])
/-- what a tuple that holds handles is made of -/
def ofD : D → Option (PyData ⊕ Nat)
  | .p d => some (.inl d)
  | .r n => some (.inr n)
  | _ => none
def ofDs : List D → Option (List (PyData ⊕ Nat))
  | [] => some []
  | d :: r => match ofD d, ofDs r with
    | some x, some xs => some (x :: xs)
    | _, _ => none
def newP (xs : List D) : M D := M.opt ((ofDs xs).map D.t)
/-- the handles that a tuple holds -/
def livP : D → M (List D)
  | .t xs => M.ret (xs.map itD)
  | _ => M.no
/-- the key of each number -/
def keysL (i : Nat) (ρ : Env) (elt : Env → M D) : List Int → M (List Int)
  | [] => pure []
  | n :: r => do
    let y ← elt (ρ.set i (some (.p (.int n))))
    let y ← rd y
    let k ← M.opt (intOf y)
    let ks ← keysL i ρ elt r
    pure (k :: ks)
/-- the first one with the least key -/
def argL : Int × Int → List (Int × Int) → Int
  | m, [] => m.1
  | m, p :: r => argL (if p.2 < m.2 then p else m) r
def argD (ns ks : List Int) : Option Int := match ns.zip ks with
  | [] => none
  | p :: r => some (argL p r)
/-- as compL; each item a new list -/
def compN (is : List Nat) (tp : Bool) (ρ : Env) (cond : Env → M Bool) (elt : Env → M (List PyData)) : List PyData → M (List D)
  | [] => pure []
  | x :: xs => do
    let ρ1 ← M.opt (bindG is tp x ρ)
    if ← cond ρ1 then
      let ys ← elt ρ1
      let d ← newL ys
      let ds ← compN is tp ρ cond elt xs
      pure (d :: ds)
    else compN is tp ρ cond elt xs
def strOf : PyData → Option Str
  | .str s => some s
  | _ => none
/-- a written dict's value, where it is known, else d -/
def getD (t : List (Str × Option PyData)) (x : Str) (d : PyData) : Option PyData := (t.lookup x).map fun o => o.getD d

/-- the modes of an expression: its value or handle; its truth; as a comprehension's test; items that are kept; arguments; a part of a slice; what is gone along -/
structure Sm where
  ev : Env → M D
  tst : Env → M Bool
  cnd : Env → M Bool
  evs : Env → M (List PyData)
  eva : Env → M (List D)
  part : Env → M (Option Int)
  iter : Env → M (List PyData)
  frs : Env → M (List PyData)
  frn : Env → M (List D) := fun _ => M.no
  xm : Env → M Exn := fun _ => M.no
def dTst (e : Env → M D) : Env → M Bool := fun ρ => do
  let x ← e ρ
  let x ← rd x
  M.opt (truthD x)
def Sm.of (e : Env → M D) : Sm where
  ev := e
  tst := dTst e
  cnd := dTst e
  evs := fun _ => M.no
  eva := fun _ => M.no
  part := fun ρ => do
    let x ← e ρ
    let x ← rd x
    let i ← M.opt (intOf x)
    pure (some i)
  iter := fun ρ => do
    let x ← e ρ
    let x ← val x
    M.opt (seqOf x)
  frs := fun _ => M.no
/-- an expression that makes a new list -/
def Sm.new (f : Env → M (List PyData)) : Sm := { Sm.of (fun ρ => do
    let xs ← f ρ
    pure (.p (.list xs))) with frs := f }
def Sm.none : Sm := ⟨fun _ => M.no, fun _ => M.no, fun _ => M.no, fun _ => M.no, fun _ => M.no, fun _ => M.no, fun _ => M.no, fun _ => M.no, fun _ => M.no, fun _ => M.no⟩
def Sm.withTst (s : Sm) (t : Env → M Bool) : Sm := { s with tst := t, cnd := t }

section
variable (G : Pg) (F : Nat → List D → M (PyData × Bool))
def zBin (op : BOp) (x y : D) : M D := do
  let x ← rd x
  let y ← rd y
  let z ← M.opt (binD op x y)
  pure (.p z)
def eBin (op : BOp) (a b : Env → M D) : Env → M D := fun ρ => do
  let x ← a ρ
  let y ← b ρ
  zBin op x y
/-- [..] * n; one list and another one -/
def eBinF (op : BOp) (a b : Env → M D) (f : Env → M (List PyData)) : Env → M (List PyData) := fun ρ => match op with
  | .mul => do
    let xs ← f ρ
    let y ← b ρ
    let y ← rd y
    let j ← M.opt (intOf y)
    if xs.length ≤ 1 ∧ -(2 ^ 63) ≤ j ∧ j ≤ 2 ^ 23 then pure (List.replicate j.toNat xs).flatten else M.no
  | _ => M.no
def eNeg (a : Env → M D) : Env → M D := fun ρ => do
  let x ← a ρ
  let x ← rd x
  let i ← M.opt (intOf x)
  pure (.p (.int (-i)))
def zCmp (op : COp) (x y : D) : M D := do
  let x ← rd x
  let y ← rd y
  let z ← M.opt (cmpD op x y)
  pure (.p (.bool z))
def eCmp (op : COp) (a b : Env → M D) : Env → M D := fun ρ => do
  let x ← a ρ
  let y ← b ρ
  zCmp op x y
def eChn (o1 o2 : COp) (a b c : Env → M D) : Env → M D := fun ρ => do
  let x ← a ρ
  let y ← b ρ
  let x ← rd x
  let y1 ← rd y
  let k ← M.opt (cmpD o1 x y1)
  if k then
    let z ← c ρ
    let y2 ← rd y
    let z ← rd z
    let k2 ← M.opt (cmpD o2 y2 z)
    pure (.p (.bool k2))
  else pure (.p (.bool false))
def eAnd (a b : Env → M D) : Env → M D := fun ρ => do
  let x ← a ρ
  let y ← rd x
  let k ← M.opt (truthD y)
  if k then b ρ else pure x
def eOr (a b : Env → M D) : Env → M D := fun ρ => do
  let x ← a ρ
  let y ← rd x
  let k ← M.opt (truthD y)
  if k then pure x else b ρ
def zIx (x y : D) : M D := do
  let x ← rd x
  let y ← rd y
  let z ← M.opt (ixD x y)
  pure (.p z)
def eIx (a i : Env → M D) : Env → M D := fun ρ => do
  let x ← a ρ
  let y ← i ρ
  zIx x y
def eSl (a : Env → M D) (lo hi : Env → M (Option Int)) : Env → M D := fun ρ => do
  let x ← a ρ
  let l ← lo ρ
  let u ← hi ρ
  let x ← rdS x
  let z ← M.opt (slD x l u)
  pure (.p z)
/-! sorted, of tuples of so many small whole numbers -/
def intsL : List PyData → Option (List Int)
  | [] => some []
  | .int i :: r => (intsL r).map (i :: ·)
  | _ => none
def tupsL : List PyData → Option (List (List Int))
  | [] => some []
  | .tuple xs :: r => (intsL xs).bind fun ns => (tupsL r).map (ns :: ·)
  | _ => none
def toT (k : List Int) : PyData := .tuple (k.map .int)
def codeK : List Int → Int
  | [] => 0
  | d :: r => d * 64 ^ r.length + codeK r
def insK (x : List Int) : List (List Int) → List (List Int)
  | [] => [x]
  | y :: r => if codeK x ≤ codeK y then x :: y :: r else y :: insK x r
def sortK : List (List Int) → List (List Int)
  | [] => []
  | x :: r => insK x (sortK r)
def chainK : List (List Int) → Bool
  | [] => true
  | x :: r => r.all (fun y => decide (codeK x < codeK y)) && chainK r
def sideK : List (List Int) → Nat
  | [] => 1
  | x :: _ => x.length
def srtD : PyData → Option PyData
  | .list xs => (tupsL xs).bind fun ks => if decide (ks.length < 64) && decide (1 ≤ sideK ks) && ks.all (fun k => decide (k.length = sideK ks) && k.all fun m => decide (0 ≤ m) && decide (m < 64)) && chainK (sortK ks) then some (.list ((sortK ks).map toT)) else none
  | _ => none
def lstOf : PyData → Option (List PyData)
  | .list xs => some xs
  | .tuple xs => some xs
  | _ => none
def isBD (b : Bool) : PyData → Option Bool
  | .bool k => some (decide (k = b))
  | _ => none
def revD : PyData → Option PyData
  | .tuple xs => some (.tuple xs.reverse)
  | .list xs => some (.list xs.reverse)
  | _ => none
def lsOf : PyData → Option (List PyData)
  | .list xs => some xs
  | _ => none
def isNone : D → Bool
  | .p .none => true
  | _ => false
def sem : T → Sm
  | .nil => { Sm.none with cnd := fun _ => pure true, evs := fun _ => pure [], eva := fun _ => pure [], part := fun _ => pure .none }
  | .cons a tl => { Sm.none with
      evs := fun ρ => do
        let x ← (sem a).ev ρ
        let x ← val x
        let xs ← (sem tl).evs ρ
        pure (x :: xs)
      eva := fun ρ => do
        let x ← (sem a).ev ρ
        let xs ← (sem tl).eva ρ
        pure (x :: xs)
      xm := fun ρ => orX ((sem a).xm ρ) (do
        let x ← (sem a).ev ρ
        let _ ← val x
        (sem tl).xm ρ) }
  | .var i => .of fun ρ => M.opt (ρ[i]?.bind id)
  | .non => .of fun _ => pure (.p .none)
  | .int i => .of fun _ => pure (.p (.int i))
  | .str s => .of fun _ => pure (.p (.str s))
  | .bl b => .of fun _ => pure (.p (.bool b))
  | .glob g => .of fun _ => do
    let d ← M.opt G.gl[g]?
    pure (.p d)
  | .bin op a b => { Sm.of (eBin op (sem a).ev (sem b).ev) with frs := eBinF op (sem a).ev (sem b).ev (sem a).frs }
  | .neg a => .of (eNeg (sem a).ev)
  | .not a => (Sm.of fun ρ => do
      let k ← dTst (sem a).ev ρ
      pure (.p (.bool (!k)))).withTst fun ρ => do
      let k ← (sem a).tst ρ
      pure (!k)
  | .cmp op a b => .of (eCmp op (sem a).ev (sem b).ev)
  | .chn o1 o2 a b c => .of (eChn o1 o2 (sem a).ev (sem b).ev (sem c).ev)
  | .isN a => .of fun ρ => do
    let x ← (sem a).ev ρ
    pure (.p (.bool (isNone x)))
  | .isNN a => .of fun ρ => do
    let x ← (sem a).ev ρ
    pure (.p (.bool (!isNone x)))
  | .isB b a => { Sm.of (fun ρ => do
    let x ← (sem a).ev ρ
    let x ← rd x
    let k ← M.opt (isBD b x)
    pure (.p (.bool k))) with xm := (sem a).xm }
  | .isNB b a => .of fun ρ => do
    let x ← (sem a).ev ρ
    let x ← rd x
    let k ← M.opt (isBD b x)
    pure (.p (.bool (!k)))
  | .and a b => (Sm.of (eAnd (sem a).ev (sem b).ev)).withTst fun ρ => do
      let k ← (sem a).tst ρ
      if k then (sem b).tst ρ else pure false
  | .or a b => (Sm.of (eOr (sem a).ev (sem b).ev)).withTst fun ρ => do
      let k ← (sem a).tst ρ
      if k then pure true else (sem b).tst ρ
  | .ife c a b => { (Sm.of fun ρ => do
      let k ← (sem c).tst ρ
      if k then (sem a).ev ρ else (sem b).ev ρ).withTst (fun ρ => do
      let k ← (sem c).tst ρ
      if k then (sem a).tst ρ else (sem b).tst ρ) with xm := fun ρ => orX ((sem c).xm ρ) (do
      let k ← (sem c).tst ρ
      if k then (sem a).xm ρ else (sem b).xm ρ) }
  | .tup es => { Sm.of (fun ρ => do
    let ds ← (sem es).evs ρ
    if ds.length ≤ 2 ^ 23 then pure (.p (.tuple ds)) else M.no) with xm := (sem es).xm }
  | .lst es => .new fun ρ => do
    let ds ← (sem es).evs ρ
    if ds.length ≤ 2 ^ 23 then pure ds else M.no
  | .ix a i => .of (eIx (sem a).ev (sem i).ev)
  | .sl a lo hi => .of (eSl (sem a).ev (sem lo).part (sem hi).part)
  | .slr a => .of fun ρ => do
    let x ← (sem a).ev ρ
    let x ← rd x
    let y ← M.opt (revD x)
    pure (.p y)
  | .ixn a i => .of fun ρ => do
    let x ← (sem a).ev ρ
    let y ← (sem i).ev ρ
    let r ← livN x
    let y ← rd y
    let i ← M.opt (intOf y)
    M.opt (L2.atI r.2 i)
  | .lnn a => .of fun ρ => do
    let x ← (sem a).ev ρ
    let r ← livN x
    pure (.p (.int r.2.length))
  | .gget g a d => .of fun ρ => do
    let x ← (sem a).ev ρ
    let y ← (sem d).ev ρ
    let x ← rd x
    let y ← val y
    let t ← M.opt G.ds[g]?
    let x ← M.opt (strOf x)
    let z ← M.opt (getD t x y)
    pure (.p z)
  | .callW f es => { Sm.of (fun ρ => do
      let ds ← (sem es).eva ρ
      let v ← F f ds
      pure (.p v.1)) with
      xm := fun ρ => do
        let ds ← (sem es).eva ρ
        getX (F f ds)
      frs := fun ρ => do
        let ds ← (sem es).eva ρ
        let v ← F f ds
        match v with
        | (.list xs, true) => pure xs
        | _ => M.no }
  | .call f es => { Sm.of (fun ρ => do
      let ds ← (sem es).eva ρ
      let v ← callF F f ds
      pure (.p v.1)) with
      xm := fun ρ => do
        let ds ← (sem es).eva ρ
        getX (callF F f ds)
      frs := fun ρ => do
        let ds ← (sem es).eva ρ
        let v ← callF F f ds
        match v with
        | (.list xs, true) => pure xs
        | _ => M.no }
  | .blt b es => .of fun ρ => do
    let ds ← (sem es).eva ρ
    let xs ← rds ds
    let z ← M.opt (bltD b xs)
    pure (.p z)
  | .lof a => .new fun ρ => do
    let x ← (sem a).ev ρ
    let x ← rd x
    M.opt (seqOf x)
  | .srt a => .of fun ρ => do
    let x ← (sem a).ev ρ
    let x ← rd x
    let y ← M.opt (srtD x)
    pure (.p y)
  | .lrg a b => .of fun ρ => do
    let x ← (sem a).ev ρ
    let y ← (sem b).ev ρ
    let x ← rd x
    let i ← M.opt (intOf x)
    let y ← rd y
    let j ← M.opt (intOf y)
    if -1000000 ≤ i ∧ i ≤ 1000000 ∧ -1000000 ≤ j ∧ j ≤ 1000000 then pure (.p (.list (rangeL i j))) else M.no
  | .isi a k => .of fun ρ => do
    let x ← (sem a).ev ρ
    let x ← rd x
    let z ← M.opt (isiD x k)
    pure (.p (.bool z))
  | .comp own is tp it cond elt => { Sm.new (fun ρ => do
    let xs ← (sem it).iter ρ
    if xs.length ≤ 2 ^ 23 then
      compL is tp (wipe ρ own) (sem cond).cnd (fun ρ1 => do
        let y ← (sem elt).ev ρ1
        val y) xs
    else M.no) with frn := fun ρ => do
    let xs ← (sem it).iter ρ
    if xs.length ≤ 2 ^ 23 then
      compN is tp (wipe ρ own) (sem cond).cnd (sem elt).frs xs
    else M.no }
  | .rng1 a => { Sm.none with iter := fun ρ => do
      let x ← (sem a).ev ρ
      let x ← val x
      M.opt (rngD [x]) }
  | .rng2 a b => { Sm.none with iter := fun ρ => do
      let x ← (sem a).ev ρ
      let x ← val x
      let y ← (sem b).ev ρ
      let y ← val y
      M.opt (rngD [x, y]) }
  | .zip es => { Sm.none with iter := fun ρ => do
      let ds ← (sem es).evs ρ
      M.opt (zipDs ds) }
  | .enm es => { Sm.none with iter := fun ρ => do
      let ds ← (sem es).evs ρ
      M.opt (enumDs ds) }
  | .rev a => { Sm.none with iter := fun ρ => do
      let x ← (sem a).ev ρ
      let x ← val x
      let xs ← M.opt (seqOf x)
      pure xs.reverse }
  | .consL a tl => { Sm.none with
      eva := fun ρ => do
        let xs ← (sem a).frs ρ
        let x ← newL xs
        let xs ← (sem tl).eva ρ
        pure (x :: xs) }
  | .consN a tl => { Sm.none with
      eva := fun ρ => do
        let xs ← (sem a).frn ρ
        let x ← newN xs
        let xs ← (sem tl).eva ρ
        pure (x :: xs) }
  | .tupN es => .of fun ρ => do
    let ds ← (sem es).eva ρ
    if ds.length ≤ 2 ^ 23 then newP ds else M.no
  | .ixp a i => .of fun ρ => do
    let x ← (sem a).ev ρ
    let y ← (sem i).ev ρ
    let r ← livP x
    let y ← rd y
    let i ← M.opt (intOf y)
    M.opt (L2.atI r i)
  | .pop x i => .of fun ρ => do
    let o ← (sem x).ev ρ
    let y ← (sem i).ev ρ
    let y ← rd y
    let i ← M.opt (intOf y)
    let r ← liv o
    if -(2 ^ 63) ≤ i ∧ i < 2 ^ 63 then
      let k ← M.opt (seqIndex? i r.2.length)
      let d ← M.opt r.2[k]?
      put r.1 (r.2.eraseIdx k)
      pure (.p d)
    else M.no
  | .minl i it elt => .of fun ρ => do
    let x ← (sem it).ev ρ
    let x ← val x
    let xs ← M.opt (lsOf x)
    let ns ← M.opt (intsOf xs)
    let ks ← keysL i ρ (sem elt).ev ns
    let z ← M.opt (argD ns ks)
    pure (.p (.int z))
end

/-! ### statements -/
/-- what stands in an except suite -/
inductive Hs where
  | set (i : Nat) (e : T)
inductive S where
  | skip | seq (a b : S)
  | set (i : Nat) (e : T)
  | setT (is : List Nat) (e : T)
  | par (i j : Nat) (a b : T)
  | par3 (i j l : Nat) (a b c : T)
  | new (i : Nat) (e : T)
  | ixs (x : T) (i e : T)
  | swp (x : T) (i x2 : T) (j : T) (a b : T)
  | app (x e : T)
  | ext (x e : T)
  | newN (i : Nat) (e : T)
  | ixsF (x : T) (i e : T)
  | swn (x : T) (i x2 : T) (j : T) (a b : T)
  | appF (x e : T)
  | expr (e : T)
  | ife (c : T) (a b : S)
  | for_ (is : List Nat) (tp : Bool) (it : T) (b : S)
  | whl (c : T) (b : S)
  | ret (e : T) | retF (e : T) | retN
  | brk | cont
  | bad
  | setP (is : List Nat) (e : T)
  | forN (i : Nat) (x : T) (b : S)
  | ins (x i e : T)
  | rvs (x : T)
  | raise (c : Nat) (es : T)
  | xs (e : T) (s : S)
  | tryA (b : S) (c : Nat) (hd : Hs)
inductive Fl where
  | nx | bk | ct | rt (d : D) | ex (x : Exn)
def W : Nat := 1000000000

section
variable (G : Pg) (F : Nat → List D → M (PyData × Bool))
def loopF (is : List Nat) (tp : Bool) (body : Env → M (Fl × Env)) : List PyData → Env → M (Fl × Env)
  | [], ρ => pure (.nx, ρ)
  | x :: xs, ρ => do
    let ρ1 ← M.opt (bindG is tp x ρ)
    let r ← body ρ1
    match r with
    | (.nx, ρ2) => loopF is tp body xs ρ2
    | (.ct, ρ2) => loopF is tp body xs ρ2
    | (.bk, ρ2) => pure (.nx, ρ2)
    | (.rt d, ρ2) => pure (.rt d, ρ2)
    | (.ex x, ρ2) => pure (.ex x, ρ2)
/-- along the handles that a list holds: k turns are left -/
def loopN (i : Nat) (o : D) (body : Env → M (Fl × Env)) : Nat → Nat → Env → M (Fl × Env)
  | 0, j, ρ => do
    let r ← livN o
    if r.2.length = j then pure (.nx, ρ) else M.no
  | k + 1, j, ρ => do
    let r ← livN o
    let d ← M.opt r.2[j]?
    let r ← body (ρ.set i (some d))
    match r with
    | (.nx, ρ2) => loopN i o body k (j + 1) ρ2
    | (.ct, ρ2) => loopN i o body k (j + 1) ρ2
    | (.bk, ρ2) => pure (.nx, ρ2)
    | (.rt d, ρ2) => pure (.rt d, ρ2)
    | (.ex x, ρ2) => pure (.ex x, ρ2)
def setAll : List Nat → List D → Env → Option Env
  | [], [], ρ => some ρ
  | i :: is, d :: ds, ρ => setAll is ds (ρ.set i (some d))
  | _, _, _ => none
def loopW (c : Env → M Bool) (body : Env → M (Fl × Env)) : Nat → Env → M (Fl × Env)
  | 0, _ => M.no
  | n + 1, ρ => do
    let k ← c ρ
    if k then
      let r ← body ρ
      match r with
      | (.nx, ρ2) => loopW c body n ρ2
      | (.ct, ρ2) => loopW c body n ρ2
      | (.bk, ρ2) => pure (.nx, ρ2)
      | (.rt d, ρ2) => pure (.rt d, ρ2)
      | (.ex x, ρ2) => pure (.ex x, ρ2)
    else pure (.nx, ρ)
def setAt (x i e : D) : M Unit := do
  let y ← val e
  let r ← liv x
  let i ← rd i
  let i ← M.opt (intOf i)
  let k ← M.opt (L2.ixN r.2.length i)
  put r.1 (r.2.set k y)
def setAtN (x i d : D) : M Unit := do
  let r ← livN x
  let i ← rd i
  let i ← M.opt (intOf i)
  let k ← M.opt (L2.ixN r.2.length i)
  putN r.1 (r.2.set k d)
/-- whether an exception is of a class -/
def isX (c : Nat) (x : Exn) : Bool := match G.xs[x.1]? with
  | some k => k.up.contains c
  | none => false
def hdl : Hs → Exn → Env → M (Fl × Env)
  | .set i e, _, ρ => do
    let d ← (sem G F e).ev ρ
    pure (.nx, ρ.set i (some d))
def exec : S → Env → M (Fl × Env)
  | .raise c es, ρ => do
    let ds ← (sem G F es).evs ρ
    pure (.ex (c, ds), ρ)
  | .xs e s, ρ => fun h => match (sem G F e).xm ρ h with
    | .ok x h' => .ok (.ex x, ρ) h'
    | _ => exec s ρ h
  | .tryA b c hd, ρ => do
    let r ← exec b ρ
    match r with
    | (.ex x, ρ1) => if isX G c x then hdl G F hd x ρ1 else M.no
    | r => pure r
  | .setP is e, ρ => do
    let d ← (sem G F e).ev ρ
    let ds ← livP d
    let ρ1 ← M.opt (setAll is ds ρ)
    pure (.nx, ρ1)
  | .forN i x b, ρ => do
    let o ← (sem G F x).ev ρ
    let r ← livN o
    loopN i o (fun ρ => exec b ρ) r.2.length 0 ρ
  | .ins x i e, ρ => do
    let o ← (sem G F x).ev ρ
    let y ← (sem G F i).ev ρ
    let d ← (sem G F e).ev ρ
    let d ← val d
    let y ← rd y
    let i ← M.opt (intOf y)
    let r ← liv o
    if r.2.length < 2 ^ 23 ∧ 0 ≤ i ∧ i < 2 ^ 63 then
      put r.1 (r.2.take i.toNat ++ [d] ++ r.2.drop i.toNat)
      pure (.nx, ρ)
    else M.no
  | .rvs x, ρ => do
    let o ← (sem G F x).ev ρ
    let r ← liv o
    put r.1 r.2.reverse
    pure (.nx, ρ)
  | .newN i e, ρ => do
    let xs ← (sem G F e).frn ρ
    let d ← newN xs
    pure (.nx, ρ.set i (some d))
  | .ixsF x i e, ρ => do
    let xs ← (sem G F e).frs ρ
    let d ← newL xs
    let o ← (sem G F x).ev ρ
    let i ← (sem G F i).ev ρ
    setAtN o i d
    pure (.nx, ρ)
  | .swn x i x2 j a b, ρ => do
    let d1 ← (sem G F a).ev ρ
    let d2 ← (sem G F b).ev ρ
    let o ← (sem G F x).ev ρ
    let i ← (sem G F i).ev ρ
    setAtN o i d1
    let o2 ← (sem G F x2).ev ρ
    let j ← (sem G F j).ev ρ
    setAtN o2 j d2
    pure (.nx, ρ)
  | .appF x e, ρ => do
    let o ← (sem G F x).ev ρ
    let xs ← (sem G F e).frs ρ
    let d ← newL xs
    let r ← livN o
    if r.2.length < 2 ^ 23 then
      putN r.1 (r.2 ++ [d])
      pure (.nx, ρ)
    else M.no
  | .skip, ρ => pure (.nx, ρ)
  | .seq a b, ρ => do
    let r ← exec a ρ
    match r with
    | (.nx, ρ1) => exec b ρ1
    | r => pure r
  | .set i e, ρ => do
    let d ← (sem G F e).ev ρ
    pure (.nx, ρ.set i (some d))
  | .setT is e, ρ => do
    let d ← (sem G F e).ev ρ
    let d ← rd d
    let ρ1 ← M.opt (bindG is true d ρ)
    pure (.nx, ρ1)
  | .par i j a b, ρ => do
    let x ← (sem G F a).ev ρ
    let y ← (sem G F b).ev ρ
    pure (.nx, (ρ.set i (some x)).set j (some y))
  | .par3 i j l a b c, ρ => do
    let x ← (sem G F a).ev ρ
    let y ← (sem G F b).ev ρ
    let z ← (sem G F c).ev ρ
    pure (.nx, ((ρ.set i (some x)).set j (some y)).set l (some z))
  | .bad, _ => M.no
  | .new i e, ρ => do
    let xs ← (sem G F e).frs ρ
    let d ← newL xs
    pure (.nx, ρ.set i (some d))
  | .ixs x i e, ρ => do
    let d ← (sem G F e).ev ρ
    let d ← val d
    let o ← (sem G F x).ev ρ
    let i ← (sem G F i).ev ρ
    setAt o i (.p d)
    pure (.nx, ρ)
  | .swp x i x2 j a b, ρ => do
    let d1 ← (sem G F a).ev ρ
    let d1 ← val d1
    let d2 ← (sem G F b).ev ρ
    let d2 ← val d2
    let o ← (sem G F x).ev ρ
    let i ← (sem G F i).ev ρ
    setAt o i (.p d1)
    let o2 ← (sem G F x2).ev ρ
    let j ← (sem G F j).ev ρ
    setAt o2 j (.p d2)
    pure (.nx, ρ)
  | .app x e, ρ => do
    let o ← (sem G F x).ev ρ
    let d ← (sem G F e).ev ρ
    let d ← val d
    let r ← liv o
    if r.2.length < 2 ^ 23 then
      put r.1 (r.2 ++ [d])
      pure (.nx, ρ)
    else M.no
  | .ext x e, ρ => do
    let o ← (sem G F x).ev ρ
    let d ← (sem G F e).ev ρ
    let d ← val d
    let ys ← M.opt (lstOf d)
    let r ← liv o
    if r.2.length + ys.length ≤ 1000000 then
      put r.1 (r.2 ++ ys)
      pure (.nx, ρ)
    else M.no
  | .expr e, ρ => do
    let _ ← (sem G F e).ev ρ
    pure (.nx, ρ)
  | .ife c a b, ρ => do
    let k ← (sem G F c).tst ρ
    if k then exec a ρ else exec b ρ
  | .for_ is tp it b, ρ => do
    let xs ← (sem G F it).iter ρ
    loopF is tp (fun ρ => exec b ρ) xs ρ
  | .whl c b, ρ => loopW (sem G F c).tst (fun ρ => exec b ρ) W ρ
  | .ret e, ρ => do
    let d ← (sem G F e).ev ρ
    pure (.rt d, ρ)
  | .retF e, ρ => do
    let xs ← (sem G F e).frs ρ
    let d ← newL xs
    pure (.rt d, ρ)
  | .retN, ρ => pure (.rt (.p .none), ρ)
  | .brk, ρ => pure (.bk, ρ)
  | .cont, ρ => pure (.ct, ρ)
end

structure Fn where
  np : Nat
  ns : Nat
  body : S
/-- what a def hands back: data; and whether it is a list of its own that nothing else holds; where lists of lists have got new rows, all that was made stays -/
def handed (k : Nat) (d : D) : M (PyData × Bool) := fun h => if (h.take k).all (O.cl k) then (match d with
  | .p d => .ok (d, false) (h.take k)
  | .s _ => .no
  | .t _ => .no
  | .r n => match h[n]? with
    | some (.lst xs) => if k ≤ n then .ok (.list xs, true) (h.take k) else .no
    | some (.frz xs) => .ok (.list xs, false) (h.take k)
    | some (.nst _) => .no
    | none => .no) else (match d with
  | .p d => .ok (d, false) h
  | _ => .no)
def runFn (G : Pg) (F : Nat → List D → M (PyData × Bool)) (fn : Fn) (ds : List D) : M (PyData × Bool) := fun h =>
  if ds.length = fn.np then (do
    let r ← exec G F fn.body (ds.map some ++ List.replicate (fn.ns - fn.np) none)
    match r.1 with
    | .nx => handed h.length (.p .none)
    | .rt d => handed h.length d
    | .ex x => fun h1 => if (h1.take h.length).all (O.cl h.length) then .ex x (h1.take h.length) else .no
    | _ => M.no : M (PyData × Bool)) h
  else .no
def callN (G : Pg) (fns : List Fn) : Nat → Nat → List D → M (PyData × Bool)
  | 0, _, _ => M.no
  | n + 1, f, ds => match fns[f]? with
    | some fn => runFn G (callN G fns n) fn ds
    | none => M.no
end Px

/-! Px2: data as it lies in the heap; the operations of the machine on it. -/
namespace Px
open PySem PySem.Spec PyProof.Rows L2

/-! ### data in a heap -/
mutual
inductive Rp (K : PySem.W.Frag) (H : Hp) : V → PyData → Prop
  | non : Rp K H .non .none
  | bl (b : Bool) : Rp K H (.bl b) (.bool b)
  | int (i : Int) : Rp K H (.int i) (.int i)
  | str (x : Str) : Rp K H (.str x) (.str x)
  | lst {a : Addr} {xs : List V} {ds : List PyData} : H a = some (.lst xs) → RpL K H xs ds → Rp K H (.ref a) (.list ds)
  | tup {a : Addr} {xs : List V} {ds : List PyData} : SqT K H a xs → RpL K H xs ds → Rp K H (.ref a) (.tuple ds)
inductive RpL (K : PySem.W.Frag) (H : Hp) : List V → List PyData → Prop
  | nil : RpL K H [] []
  | cons {v : V} {vs : List V} {d : PyData} {ds : List PyData} : Rp K H v d → RpL K H vs ds → RpL K H (v :: vs) (d :: ds)
end
def Sub (H H' : Hp) : Prop := ∀ a o, H a = some o → H' a = some o
theorem Sub.refl (H : Hp) : Sub H H := fun _ _ h => h
theorem Sub.trans {H H1 H2 : Hp} (a : Sub H H1) (b : Sub H1 H2) : Sub H H2 := fun c o h => b c o (a c o h)
theorem Sub.sqT {K : PySem.W.Frag} {H H' : Hp} (s : Sub H H') {a : Addr} {xs : List V} (h : SqT K H a xs) : SqT K H' a xs := by
  rcases h with (h | ⟨o, h⟩) | h
  · exact .inl (.inl (s _ _ h))
  · exact .inl (.inr ⟨o, s _ _ h⟩)
  · exact .inr h
theorem Sub.sqL {K : PySem.W.Frag} {H H' : Hp} (s : Sub H H') {a : Addr} {xs : List V} (h : SqL K H a xs) : SqL K H' a xs := by
  rcases h with (h | ⟨o, h⟩) | h
  · exact .inl (.inl (s _ _ h))
  · exact .inl (.inr ⟨o, s _ _ h⟩)
  · exact .inr h
theorem Sub.upd {H : Hp} {p : Addr} {o : HO} (h : H p = none) : Sub H (upd H p o) := fun b x e => by
  rw [upd_ne (ne_of_none e h)]
  exact e
section
variable {K : PySem.W.Frag} {G H H' : Hp}
mutual
theorem Rp.mono (s : Sub H H') : ∀ {v : V} {d : PyData}, Rp K H v d → Rp K H' v d
  | _, _, .non => .non
  | _, _, .bl b => .bl b
  | _, _, .int i => .int i
  | _, _, .str x => .str x
  | _, _, .lst h r => .lst (s _ _ h) (RpL.mono s r)
  | _, _, .tup h r => .tup (s.sqT h) (RpL.mono s r)
theorem RpL.mono (s : Sub H H') : ∀ {v : List V} {d : List PyData}, RpL K H v d → RpL K H' v d
  | _, _, .nil => .nil
  | _, _, .cons h r => .cons (Rp.mono s h) (RpL.mono s r)
end
mutual
theorem Rp.dp : ∀ {v : V} {d : PyData}, Rp K H v d → Dp K H v d
  | _, _, .non => .non
  | _, _, .bl b => .bl b
  | _, _, .int i => .int i
  | _, _, .str x => .str x
  | _, _, .lst h r => .lst (SqL.of h) (RpL.dp r)
  | _, _, .tup h r => .tup h (RpL.dp r)
theorem RpL.dp : ∀ {v : List V} {d : List PyData}, RpL K H v d → DpAll K H v d
  | _, _, .nil => .nil
  | _, _, .cons h r => .cons (Rp.dp h) (RpL.dp r)
end
theorem RpL.len : ∀ {v : List V} {d : List PyData}, RpL K H v d → v.length = d.length
  | _, _, .nil => rfl
  | _, _, .cons _ r => by simp [RpL.len r]
theorem RpL.get : ∀ {v : List V} {d : List PyData} {i : Nat} {x : PyData}, RpL K H v d → d[i]? = some x → ∃ y, v[i]? = some y ∧ Rp K H y x
  | _, _, _, _, .nil, e => by simp at e
  | _, _, 0, _, .cons h r, e => by simp at e; subst e; exact ⟨_, rfl, h⟩
  | _, _, i + 1, x, .cons h r, e => by
    obtain ⟨y, e1, e2⟩ := RpL.get (i := i) (x := x) r (by simpa using e)
    exact ⟨y, by simpa using e1, e2⟩
theorem RpL.getV : ∀ {v : List V} {d : List PyData} {i : Nat} {y : V}, RpL K H v d → v[i]? = some y → ∃ x, d[i]? = some x ∧ Rp K H y x
  | _, _, _, _, .nil, e => by simp at e
  | _, _, 0, _, .cons h r, e => by simp at e; subst e; exact ⟨_, rfl, h⟩
  | _, _, i + 1, x, .cons h r, e => by
    obtain ⟨y, e1, e2⟩ := RpL.getV (i := i) (y := x) r (by simpa using e)
    exact ⟨y, by simpa using e1, e2⟩
theorem RpL.append : ∀ {v w : List V} {d e : List PyData}, RpL K H v d → RpL K H w e → RpL K H (v ++ w) (d ++ e)
  | _, _, _, _, .nil, s => s
  | _, _, _, _, .cons h r, s => .cons h (RpL.append r s)
theorem RpL.take : ∀ {v : List V} {d : List PyData} (n : Nat), RpL K H v d → RpL K H (v.take n) (d.take n)
  | _, _, 0, _ => .nil
  | _, _, _ + 1, .nil => .nil
  | _, _, n + 1, .cons h r => .cons h (RpL.take n r)
theorem RpL.drop : ∀ {v : List V} {d : List PyData} (n : Nat), RpL K H v d → RpL K H (v.drop n) (d.drop n)
  | _, _, 0, r => r
  | _, _, _ + 1, .nil => .nil
  | _, _, n + 1, .cons _ r => RpL.drop n r
theorem RpL.set : ∀ {v : List V} {d : List PyData} (n : Nat) {y : V} {x : PyData}, Rp K H y x → RpL K H v d → RpL K H (v.set n y) (d.set n x)
  | _, _, _, _, _, _, .nil => .nil
  | _, _, 0, _, _, k, .cons _ r => .cons k r
  | _, _, n + 1, _, _, k, .cons h r => .cons h (RpL.set n k r)
theorem RpL.reverse : ∀ {v : List V} {d : List PyData}, RpL K H v d → RpL K H v.reverse d.reverse
  | _, _, .nil => .nil
  | _, _, .cons h r => by
    rw [List.reverse_cons, List.reverse_cons]
    exact (RpL.reverse r).append (.cons h .nil)
theorem RpL.rep {v : List V} {d : List PyData} (r : RpL K H v d) : ∀ n : Nat, RpL K H (List.replicate n v).flatten (List.replicate n d).flatten
  | 0 => .nil
  | n + 1 => by
    rw [List.replicate_succ, List.replicate_succ, List.flatten_cons, List.flatten_cons]
    exact r.append (RpL.rep r n)
theorem RpL.ints : ∀ {vs : List V} {ds : List PyData} {ns : List Int}, RpL K H vs ds → intsOf ds = some ns → vs = ns.map V.int
  | _, _, _, .nil, e => by
    simp only [intsOf, Option.some.injEq] at e
    subst e; rfl
  | _, d :: ds, ns, .cons h r, e => by
    cases h with
    | int i =>
      simp only [intsOf] at e
      obtain ⟨ms, e1, rfl⟩ := Option.map_eq_some_iff.mp e
      rw [RpL.ints r e1]; rfl
    | _ => simp [intsOf] at e
theorem RpL.bools : ∀ {vs : List V} {ds : List PyData} {ns : List Bool}, RpL K H vs ds → boolsOf ds = some ns → vs = ns.map V.bl
  | _, _, _, .nil, e => by
    simp only [boolsOf, Option.some.injEq] at e
    subst e; rfl
  | _, d :: ds, ns, .cons h r, e => by
    cases h with
    | bl i =>
      simp only [boolsOf] at e
      obtain ⟨ms, e1, rfl⟩ := Option.map_eq_some_iff.mp e
      rw [RpL.bools r e1]; rfl
    | _ => simp [boolsOf] at e
theorem RpL.ofInts : ∀ ns : List Int, RpL K H (ns.map V.int) (ns.map PyData.int)
  | [] => .nil
  | n :: r => .cons (.int n) (RpL.ofInts r)

/-- data at a value: for good (in G), or the list that stands there now -/
def Rt (K : PySem.W.Frag) (G H : Hp) (v : V) (d : PyData) : Prop :=
  Rp K G v d ∨ ∃ a vs xs, v = .ref a ∧ d = .list xs ∧ H a = some (.lst vs) ∧ RpL K G vs xs
theorem Rt.rp (s : Sub G H) {v : V} {d : PyData} (h : Rt K G H v d) : Rp K H v d := by
  rcases h with h | ⟨a, vs, xs, rfl, rfl, h1, h2⟩
  · exact h.mono s
  · exact .lst h1 (h2.mono s)
theorem Rt.int {v : V} {i : Int} (h : Rt K G H v (.int i)) : v = .int i := by
  rcases h with h | ⟨a, vs, xs, rfl, e, h1, h2⟩
  · cases h; rfl
  · cases e
theorem Rt.bl {v : V} {i : Bool} (h : Rt K G H v (.bool i)) : v = .bl i := by
  rcases h with h | ⟨a, vs, xs, rfl, e, h1, h2⟩
  · cases h; rfl
  · cases e
theorem Rt.str {v : V} {i : Str} (h : Rt K G H v (.str i)) : v = .str i := by
  rcases h with h | ⟨a, vs, xs, rfl, e, h1, h2⟩
  · cases h; rfl
  · cases e
theorem Rt.non {v : V} (h : Rt K G H v .none) : v = .non := by
  rcases h with h | ⟨a, vs, xs, rfl, e, h1, h2⟩
  · cases h; rfl
  · cases e
theorem Rt.tup {v : V} {ds : List PyData} (h : Rt K G H v (.tuple ds)) : ∃ a vs, v = .ref a ∧ SqT K G a vs ∧ RpL K G vs ds := by
  rcases h with h | ⟨a, vs, xs, rfl, e, h1, h2⟩
  · cases h with
    | tup h1 h2 => exact ⟨_, _, rfl, h1, h2⟩
  · cases e
theorem Rt.lst (s : Sub G H) {v : V} {ds : List PyData} (h : Rt K G H v (.list ds)) : ∃ a vs, v = .ref a ∧ H a = some (.lst vs) ∧ RpL K G vs ds := by
  rcases h with h | ⟨a, vs, xs, rfl, e, h1, h2⟩
  · cases h with
    | lst h1 h2 => exact ⟨_, _, rfl, s _ _ h1, h2⟩
  · cases e; exact ⟨_, _, rfl, h1, h2⟩

/-- new things were made, all else is as it was -/
structure New (G H G' H' : Hp) : Prop where
  g : Sub G G'
  h : Sub H H'
  s : Sub G' H'
  n : ∀ a o, G' a = some o → G a = some o ∨ H a = none
  t : ∀ a ps, G' a = some (.tbl ps) → G a = some (.tbl ps)
theorem New.refl (s : Sub G H) : New G H G H := ⟨Sub.refl _, Sub.refl _, s, fun _ _ h => .inl h, fun _ _ h => h⟩
theorem New.upd {p : Addr} {o : HO} (s : Sub G H) (h : H p = none) (nt : ∀ ps, o ≠ .tbl ps := by intro _ z; cases z) : New G H (upd G p o) (upd H p o) := by
  have hg : G p = none := by
    cases e : G p with
    | none => rfl
    | some u => rw [s _ _ e] at h; cases h
  refine ⟨Sub.upd hg, Sub.upd h, fun a u e => ?_, fun a u e => ?_, fun a ps e => ?_⟩
  · by_cases ha : a = p
    · subst ha; rw [upd_same] at e ⊢; exact e
    · rw [upd_ne ha] at e ⊢; exact s _ _ e
  · by_cases ha : a = p
    · subst ha; exact .inr h
    · rw [upd_ne ha] at e; exact .inl e
  · by_cases ha : a = p
    · subst ha; rw [upd_same] at e; cases e; exact absurd rfl (nt ps)
    · rw [upd_ne ha] at e; exact e
/-- data is handed on, whatever was made for it -/
def Kp (K : PySem.W.Frag) (G H : Hp) (d : PyData) (Q : VK) : Prop := ∀ v' G' H', New G H G' H' → Rp K G' v' d → Q v' H'
theorem Kp.same {d : PyData} {Q : VK} (q : Kp K G H d Q) (s : Sub G H) {v : V} (h : Rp K G v d) : Q v H := q v G H (New.refl s) h
theorem Kp.tup {ds : List PyData} {vs : List V} {Q : VK} (q : Kp K G H (.tuple ds) Q) (s : Sub G H) (h : RpL K G vs ds) {p : Addr} (hp : H p = none) : Q (.ref p) (upd H p (.tup vs)) := by
  have N := New.upd (o := .tup vs) s hp
  exact q _ _ _ N (.tup (SqT.of upd_same) (h.mono N.g))
theorem Kp.lst {ds : List PyData} {vs : List V} {Q : VK} (q : Kp K G H (.list ds) Q) (s : Sub G H) (h : RpL K G vs ds) {p : Addr} (hp : H p = none) : Q (.ref p) (upd H p (.lst vs)) := by
  have N := New.upd (o := .lst vs) s hp
  exact q _ _ _ N (.lst upd_same (h.mono N.g))
end

/-! ### two-place operations -/
def rB (K : PySem.W.Frag) (op : BOp) : R2 := fun x y H Q => ∃ G dx dy d, Sub G H ∧ Rt K G H x dx ∧ Rt K G H y dy ∧ binD op dx dy = some d ∧ Kp K G H d Q
def rC (K : PySem.W.Frag) (op : COp) : R2 := fun x y H Q => ∃ G dx dy d, Sub G H ∧ Rt K G H x dx ∧ Rt K G H y dy ∧ cmpD op dx dy = some d ∧ Q (.bl d) H
def opOf : BOp → Operator
  | .add => .Add | .sub => .Sub | .mul => .Mult | .mod => .Mod | .fdv => .FloorDiv | .pow => .Pow | .shl => .LShift | .shr => .RShift | .band => .BitAnd
def cmpOf : COp → CmpOp
  | .eq => .Eq | .ne => .NotEq | .lt => .Lt | .le => .LtE | .gt => .Gt | .ge => .GtE | .mem => .In | .nmem => .NotIn
theorem line_ok : (2 : Nat) ^ 23 ≤ sizeLine := by decide
section
variable {X : Cx}
theorem Rp.flat {K : PySem.W.Frag} {H : Hp} {v : V} {d : PyData} (r : Rp K H v d) (f : flat1 d = true) : flatV v = true := by
  cases r <;> first | rfl | simp [flat1] at f
theorem Rp.eqf {K : PySem.W.Frag} {H : Hp} {v w : V} {d e : PyData} (r : Rp K H v d) (r2 : Rp K H w e) (f : flat1 d = true) (f2 : flat1 e = true) : eqV w v = PyData.eqv e d := by
  cases r <;> first
    | (simp [flat1] at f; done)
    | (cases r2 <;> first
      | (simp [flat1] at f2; done)
      | (simp [eqV, PyData.eqv]; done)
      | (simp only [eqV, PyData.eqv]; rfl))
theorem RpL.flat {K : PySem.W.Frag} {H : Hp} : ∀ {vs : List V} {ds : List PyData}, RpL K H vs ds → ds.all flat1 = true → vs.all flatV = true
  | _, _, .nil, _ => rfl
  | _, _, .cons r rs, f => by
    rw [List.all_cons, Bool.and_eq_true] at f ⊢
    exact ⟨r.flat f.1, RpL.flat rs f.2⟩
theorem RpL.inf {K : PySem.W.Frag} {H : Hp} {v : V} {d : PyData} (r : Rp K H v d) (f : flat1 d = true) : ∀ {vs : List V} {ds : List PyData}, RpL K H vs ds → ds.all flat1 = true → inV v vs = ds.any fun z => PyData.eqv z d
  | _, _, .nil, _ => rfl
  | _, _, .cons r2 rs, g => by
    rw [List.all_cons, Bool.and_eq_true] at g
    have ih := RpL.inf r f rs g.2
    unfold inV at ih ⊢
    rw [List.any_cons, List.any_cons, ih, r.eqf r2 f g.1]
/-- x in y, x not in y -/
theorem sound_mem (hu : X.A.units + 65 < cLine) {pins : List (Addr × Obj)} {s : Shared} {σ : L2.St} {H G : Hp} {x y : V} {v u : Value} {Q : VK} {dx dy : PyData} {k : Bool} (I : Inv X pins σ H s) (rx : RelV x v) (ry : RelV y u) (sb : Sub G H) (hx : Rt X.K G H x dx) (hy : Rt X.K G H y dy) (e : memD dx dy = some k) :
    (Q (.bl k) H → wpAny (model X.prog X.w) X.A (compareOp .In v u) (EP X pins σ Q) X.xe s) ∧ (Q (.bl (!k)) H → wpAny (model X.prog X.w) X.A (compareOp .NotIn v u) (EP X pins σ Q) X.xe s) := by
  unfold memD at e
  split at e
  · simp only [Option.ite_none_right_eq_some, Option.some.injEq, Bool.and_eq_true] at e
    obtain ⟨⟨e1, e2⟩, e3⟩ := e
    subst e3
    exact ⟨fun q => op_inD hu pins s σ H x y v u Q I rx ry ⟨dx, _, (hx.rp sb).dp, (hy.rp sb).dp, e1, e2, q⟩, fun q => op_notInD hu pins s σ H x y v u Q I rx ry ⟨dx, _, (hx.rp sb).dp, (hy.rp sb).dp, e1, e2, q⟩⟩
  · simp only [Option.ite_none_right_eq_some, Option.some.injEq, Bool.and_eq_true] at e
    obtain ⟨⟨e1, e2⟩, e3⟩ := e
    subst e3
    obtain ⟨a, vs, rfl, h1, h2⟩ := hy.tup
    have h2 := h2.mono sb
    have hx := hx.rp sb
    rw [← RpL.inf hx e1 h2 e2]
    exact ⟨fun q => op_in_seq pins s σ H x _ v u Q I rx ry ⟨a, vs, rfl, .inr (sb.sqT h1), hx.flat e1, h2.flat e2, by simpa using q⟩, fun q => op_notIn_seq pins s σ H x _ v u Q I rx ry ⟨a, vs, rfl, .inr (sb.sqT h1), hx.flat e1, h2.flat e2, by simpa using q⟩⟩
  · split at e
    · simp only [Option.some.injEq] at e
      subst e
      exact ⟨fun q => op_in_str pins s σ H x y v u Q I rx ry ⟨_, _, hx.str, hy.str, q⟩, fun q => op_notin_str pins s σ H x y v u Q I rx ry ⟨_, _, hx.str, hy.str, q⟩⟩
    · cases e
  · cases e
theorem gives_gt_bool_int (a : Bool) (b : Int) (u : Tok) : Gives (Builtin.«int.__gt__» ⟨[.bool a, .int b u], []⟩) (.val (.bool (decide (b < if a = true then (1 : Int) else 0)))) :=
  .of_wp fun M A E s Q h => by obtain ⟨hp, g, d, tk, os⟩ := s; wp_walk; exact ⟨_, rfl, h⟩
theorem gt_bool_int {prog : Program} {w : World} {A : Around} {E : Value → Shared → Prop} {s : Shared} {a : Bool} {b : Int} {u : Tok} {Q : Value → Shared → Prop} (h : Q (.bool (decide (b < if a = true then (1 : Int) else 0))) s) :
    wpAny (model prog w) A (compareOp .Gt (.bool a) (.int b u)) Q E s := by
  show wpAny (model prog w) A (richCompare .Gt (.bool a) (.int b u)) Q E s
  exact SeqAt.rc_left_or rfl (typeIs_int s b u) (by decide) F.sub_int_bool F.slot_bool_gt
    (call_gives F.slot_bool_gt rfl F.entry_int_gt (F.args_int_gt_2 _ _) (gives_gt_bool_int a b u) ⟨nofun, h⟩) (.inl rfl)
theorem sound_cmp (hu : X.A.units + 65 < cLine) (op : COp) : OpR X (compareOp (cmpOf op)) (rC X.K op) := by
  intro pins s σ H x y v u Q I rx ry h
  obtain ⟨G, dx, dy, d, sb, hx, hy, e, q⟩ := h
  cases op with
  | eq =>
    simp only [cmpD, Option.ite_none_right_eq_some, Option.some.injEq, Bool.and_eq_true] at e
    obtain ⟨⟨e1, e2⟩, e3⟩ := e
    exact op_eqD (by omega) pins s σ H x y v u Q I rx ry ⟨dx, dy, (hx.rp sb).dp, (hy.rp sb).dp, e1, e2, e3 ▸ q⟩
  | ne =>
    simp only [cmpD, Option.ite_none_right_eq_some, Option.some.injEq, Bool.and_eq_true] at e
    obtain ⟨⟨e1, e2⟩, e3⟩ := e
    exact op_neD (by omega) pins s σ H x y v u Q I rx ry ⟨dx, dy, (hx.rp sb).dp, (hy.rp sb).dp, e1, e2, e3 ▸ q⟩
  | lt =>
    cases dx <;> cases dy <;> simp only [cmpD, Option.some.injEq, reduceCtorEq] at e
    exact op_lt pins s σ H x y v u Q I rx ry ⟨_, _, hx.int, hy.int, by subst e; exact q⟩
  | le =>
    cases dx <;> cases dy <;> simp only [cmpD, Option.some.injEq, reduceCtorEq] at e
    exact op_le pins s σ H x y v u Q I rx ry ⟨_, _, hx.int, hy.int, by subst e; exact q⟩
  | gt =>
    cases dx <;> cases dy <;> simp only [cmpD, Option.some.injEq, reduceCtorEq] at e
    · subst e
      have zx := hx.bl
      subst zx
      have zy := hy.int
      subst zy
      have zv : v = .bool _ := rx
      subst zv
      obtain ⟨t, rfl⟩ := ry
      exact gt_bool_int (fin_bl I q rfl)
    · exact op_gt pins s σ H x y v u Q I rx ry ⟨_, _, hx.int, hy.int, by subst e; exact q⟩
  | ge =>
    cases dx <;> cases dy <;> simp only [cmpD, Option.some.injEq, reduceCtorEq] at e
    exact op_ge pins s σ H x y v u Q I rx ry ⟨_, _, hx.int, hy.int, by subst e; exact q⟩
  | mem =>
    simp only [cmpD] at e
    exact (sound_mem hu I rx ry sb hx hy e).1 q
  | nmem =>
    simp only [cmpD, Option.map_eq_some_iff] at e
    obtain ⟨k, e, rfl⟩ := e
    exact (sound_mem hu I rx ry sb hx hy e).2 q
end
end Px

namespace Px
open PySem PySem.Spec PyProof.Rows L2

/-! tuple * int: by one, of nothing; by nought and below -/
theorem tmul_same (l : Addr) (items : Array Value) (n : Nat) (dd : Option Addr) (sl : Array (Option Value)) (x : Int) (u : Tok) (c0 : (decide (x < -(2 ^ 63)) || decide (x ≥ 2 ^ 63)) = false)
    (c1 : (items.isEmpty || x == 1) = true) :
    Meets (Builtin.«tuple.__mul__» ⟨[.ref l, .int x u], []⟩) (fun _ R s =>
      s.heap.get? l = some { cls := .type "tuple", dict := dd, data := .seq items n, slots := sl } ∧ R (.ok (.ret (Value.ref l))) s) :=
  .of_wp fun prog w A R s h => by
    obtain ⟨hp, g, d, tk, os⟩ := s
    obtain ⟨hl, h⟩ := h
    have idx := AutoSeq1.idx_int
    wp_walk using wpAny_loadPart' hl
    repeat (first
      | (refine wpAny_ite_false (decide_eq_false (by rw [c0]; exact Bool.false_ne_true)) ?_; wp_walk using wpAny_loadPart' hl)
      | (refine wpAny_ite_true (decide_eq_true c1) ?_; wp_walk using wpAny_loadPart' hl))
    exact ⟨_, rfl, h⟩
theorem tmul_none (l : Addr) (items : Array Value) (n : Nat) (dd : Option Addr) (sl : Array (Option Value)) (x : Int) (u : Tok) (c0 : (decide (x < -(2 ^ 63)) || decide (x ≥ 2 ^ 63)) = false)
    (c1 : (items.isEmpty || x == 1) = false) (c2 : (decide (x ≤ 0) || items.isEmpty) = true) :
    Meets (Builtin.«tuple.__mul__» ⟨[.ref l, .int x u], []⟩) (fun _ R s =>
      s.heap.get? l = some { cls := .type "tuple", dict := dd, data := .seq items n, slots := sl } ∧
        R (.ok (.ret (Value.ref s.heap.objs.size))) { s with heap := s.heap.push { cls := Value.type "tuple", data := Data.seq #[] }, toks := s.toks }) :=
  .of_wp fun prog w A R s h => by
    obtain ⟨hp, g, d, tk, os⟩ := s
    obtain ⟨hl, h⟩ := h
    have idx := AutoSeq1.idx_int
    wp_walk using wpAny_loadPart' hl
    repeat (first
      | (refine wpAny_ite_false (decide_eq_false (by rw [c0]; exact Bool.false_ne_true)) ?_; wp_walk using wpAny_loadPart' hl)
      | (refine wpAny_ite_false (decide_eq_false (by rw [c1]; exact Bool.false_ne_true)) ?_; wp_walk using wpAny_loadPart' hl)
      | (refine wpAny_ite_true (decide_eq_true c2) ?_; wp_walk using wpAny_loadPart' hl))
    exact ⟨_, rfl, h⟩

theorem size_small {n : Nat} (h : n ≤ 1000) : n ≤ sizeLine := Nat.le_trans h (by decide)
section
variable {X : Cx}
/-- a tuple times any int below a thousand -/
def rMulT (K : PySem.W.Frag) : R2 := fun x y H Q => ∃ l k xs, x = .ref l ∧ y = .int k ∧ SqT K H l xs ∧ -(2 ^ 63) ≤ k ∧ k ≤ 1000 ∧ xs.length ≤ 1000 ∧
  ((xs = [] ∨ k = 1) → Q (.ref l) H) ∧ (xs ≠ [] → k ≠ 1 → ∀ p, H p = none → Q (.ref p) (upd H p (.tup (List.replicate k.toNat xs).flatten)))
theorem op_mulT : OpR X (binaryOp .Mult) (rMulT X.K) := by
  intro pins s σ H x y v u Q I rx ry h
  obtain ⟨l, k, xs, rfl, rfl, hT, h0, h1, hz, q1, q2⟩ := h
  by_cases hk : 2 ≤ k ∧ xs ≠ []
  · exact op_repT pins s σ H _ _ v u Q I rx ry ⟨l, k, xs, rfl, rfl, hT, hk.2, hk.1, h1, hz, q2 hk.2 (by omega)⟩
  cases rx
  obtain ⟨t, rfl⟩ := ry
  obtain ⟨its, r, ⟨⟨cls, dd, data, sl⟩, ho, hc, n, hd⟩, hs⟩ := I.tuple hT
  simp only at hc hd
  subst hc hd
  have c0 : (decide (k < -(2 ^ 63)) || decide (k ≥ 2 ^ 63)) = false := by
    rw [decide_eq_false (by omega), decide_eq_false (by omega)] <;> rfl
  have go : ∀ {R : Result → Shared → Prop}, codeAny (model X.prog X.w) X.A (.builtin "tuple.__mul__" ⟨[.ref l, .int k t], []⟩) R s → True := fun _ => trivial
  have emp : its.toArray.isEmpty = decide (xs = []) := by
    cases r with
    | nil => rfl
    | cons _ _ => rfl
  by_cases same : xs = [] ∨ k = 1
  · refine wpAny_binaryOp_repeat_ref (T := "tuple") (U := "int") (by decide) ⟨_, ho, rfl⟩ (fun s' => typeIs_int s' k t) noFill_tuple_mul F.fills_int_mul F.slot_int_rmul repeat_tuple F.slot_int_index.lookup
      (call_meets F.slot_int_rmul (typeIs_int s k t) F.entry_int_rmul (F.args_int_rmul_2 _ _) (int_rmul_tuple k t l its.toArray n dd sl) ⟨ho, rfl, ⟨_, ho, rfl⟩, ?_⟩)
    refine call_meets F.slot_tuple_mul ⟨_, ho, rfl⟩ F.entry_tuple_mul (F.args_tuple_mul_2 _ _) (tmul_same l its.toArray n dd sl k t c0 ?_) ⟨ho, ?_⟩
    · rw [emp]
      rcases same with e | e
      · rw [decide_eq_true e]; rfl
      · subst e; simp
    · exact ⟨.ref l, H, I, rfl, q1 same⟩
  · have ne : xs ≠ [] := fun e => same (.inl e)
    have nk : k ≠ 1 := fun e => same (.inr e)
    have le : k ≤ 0 := by
      by_cases h2 : 2 ≤ k
      · exact absurd ⟨h2, ne⟩ hk
      · omega
    have c1 : (its.toArray.isEmpty || k == 1) = false := by
      rw [emp, decide_eq_false ne, Bool.false_or]
      exact beq_eq_false_iff_ne.mpr nk
    refine wpAny_binaryOp_repeat_ref (T := "tuple") (U := "int") (by decide) ⟨_, ho, rfl⟩ (fun s' => typeIs_int s' k t) noFill_tuple_mul F.fills_int_mul F.slot_int_rmul repeat_tuple F.slot_int_index.lookup
      (call_meets F.slot_int_rmul (typeIs_int s k t) F.entry_int_rmul (F.args_int_rmul_2 _ _) (int_rmul_tuple k t l its.toArray n dd sl) ⟨ho, rfl, ⟨_, ho, rfl⟩, ?_⟩)
    refine call_meets F.slot_tuple_mul ⟨_, ho, rfl⟩ F.entry_tuple_mul (F.args_tuple_mul_2 _ _) (tmul_none l its.toArray n dd sl k t c0 c1 (by rw [decide_eq_true le]; rfl)) ⟨ho, ?_⟩
    have z : k.toNat = 0 := by omega
    have q := q2 ne nk s.heap.objs.size (I.hok.fresh (Nat.le_refl _))
    rw [z] at q
    refine ⟨.ref s.heap.objs.size, _, I.laid (t' := s.toks) (o := .tup []) (fun b ob q => Heap.get?_push_of_some _ q) (Nat.le_refl _) ?_, rfl, q⟩
    exact ⟨Nat.zero_le _, [], .nil, IsTup.new _ _⟩
end
end Px

namespace Px
open PySem PySem.Spec PyProof.Rows L2
section
variable {X : Cx} {K : PySem.W.Frag} {G H : Hp}
theorem rw23 {n : Nat} (h : n ≤ 2 ^ 23) : n ≤ sizeLine := Nat.le_trans h line_ok

theorem sound_bin (op : BOp) : OpR X (binaryOp (opOf op)) (rB X.K op) := by
  intro pins s σ H x y v u Q I rx ry h
  obtain ⟨G, dx, dy, d, sb, hx, hy, e, q⟩ := h
  cases op with
  | add =>
    cases dx <;> cases dy <;> simp only [binD, Option.some.injEq, Option.ite_none_right_eq_some, reduceCtorEq] at e
    · subst e
      exact op_add pins s σ H x y v u Q I rx ry ⟨_, _, hx.int, hy.int, q.same sb (.int _)⟩
    · obtain ⟨hz, rfl⟩ := e
      exact op_add_str pins s σ H x y v u Q I rx ry ⟨_, _, hx.str, hy.str, rw23 hz, q.same sb (.str _)⟩
    · obtain ⟨hz, rfl⟩ := e
      obtain ⟨a, vs, rfl, h1, h2⟩ := hx.lst sb
      obtain ⟨b, ws, rfl, h3, h4⟩ := hy.lst sb
      exact op_cat pins s σ H _ _ v u Q I rx ry ⟨a, b, vs, ws, rfl, rfl, h1, h3, by rw [h2.len, h4.len]; exact rw23 hz, fun p hp => q.lst sb (h2.append h4) hp⟩
    · obtain ⟨hz, rfl⟩ := e
      obtain ⟨a, vs, rfl, h1, h2⟩ := hx.tup
      obtain ⟨b, ws, rfl, h3, h4⟩ := hy.tup
      refine op_catA pins s σ H _ _ v u Q I rx ry ⟨a, b, vs, ws, rfl, rfl, sb.sqT h1, sb.sqT h3, by rw [h2.len, h4.len]; exact rw23 hz, fun z => ?_, fun _ z => ?_, fun _ _ p hp => q.tup sb (h2.append h4) hp⟩
      · subst z; cases h2; exact q.same sb (.tup h3 h4)
      · subst z; cases h4; rw [List.append_nil] at q; exact q.same sb (.tup h1 h2)
  | sub =>
    cases dx <;> cases dy <;> simp only [binD, Option.some.injEq, reduceCtorEq] at e
    subst e
    exact op_sub pins s σ H x y v u Q I rx ry ⟨_, _, hx.int, hy.int, q.same sb (.int _)⟩
  | mul =>
    cases dx <;> cases dy <;> simp only [binD, Option.some.injEq, Option.ite_none_right_eq_some, reduceCtorEq, okBits, Bool.and_eq_true, decide_eq_true_eq] at e
    · obtain ⟨⟨h1, h2⟩, rfl⟩ := e
      exact op_mulW pins s σ H x y v u Q I rx ry ⟨_, _, hx.int, hy.int, by unfold CMulW; omega, q.same sb (.int _)⟩
    · obtain ⟨⟨h1, h2, h3⟩, rfl⟩ := e
      obtain ⟨a, vs, rfl, k1, k2⟩ := hx.lst sb
      exact op_rep pins s σ H _ _ v u Q I rx ry ⟨a, _, vs, rfl, hy.int, k1, h2, by omega, rw23 (by
        rw [k2.len]
        have h4 := Nat.mul_le_mul h1 (show (Int.toNat ‹Int›) ≤ 1000 by omega)
        omega), fun p hp => q.lst sb (k2.rep _) hp⟩
    · obtain ⟨⟨h1, h2, h3⟩, rfl⟩ := e
      obtain ⟨a, vs, rfl, k1, k2⟩ := hx.tup
      refine op_mulT pins s σ H _ _ v u Q I rx ry ⟨a, _, vs, rfl, hy.int, sb.sqT k1, h2, h3, by rw [k2.len]; exact h1, fun z => ?_, fun _ _ p hp => q.tup sb (k2.rep _) hp⟩
      rcases z with rfl | rfl
      · cases k2
        have e0 : ∀ n : Nat, (List.replicate n ([] : List PyData)).flatten = [] := fun n => by
          rw [List.flatten_eq_nil_iff]; intro l hl; exact (List.mem_replicate.mp hl).2
        rw [e0] at q
        exact q.same sb (.tup k1 .nil)
      · have e1 : (List.replicate (1 : Int).toNat ‹List PyData›).flatten = ‹List PyData› := by simp
        rw [e1] at q
        exact q.same sb (.tup k1 k2)
  | mod =>
    cases dx <;> cases dy <;> simp only [binD, Option.some.injEq, Option.ite_none_left_eq_some, reduceCtorEq] at e
    obtain ⟨h1, rfl⟩ := e
    exact op_modN pins s σ H x y v u Q I rx ry ⟨_, _, hx.int, hy.int, h1, q.same sb (.int _)⟩
  | fdv =>
    cases dx <;> cases dy <;> simp only [binD, Option.some.injEq, Option.ite_none_right_eq_some, reduceCtorEq] at e
    obtain ⟨⟨h1, h2⟩, rfl⟩ := e
    have rule : OpR X (binaryOp .FloorDiv) (rI (fun _ j => j ≠ 0 ∧ j.natAbs.log2 < 9000) fun i j => .int (i.fdiv j)) :=
      opI fun i j _ _ _ _ _ hc q => floordiv_int hc.1 q (.inl (PyProof.noPylong_of_log2 hc.2))
    exact rule pins s σ H x y v u Q I rx ry ⟨_, _, hx.int, hy.int, ⟨h1, h2⟩, q.same sb (.int _)⟩
  | pow =>
    cases dx <;> cases dy <;> simp only [binD, Option.some.injEq, Option.ite_none_right_eq_some, reduceCtorEq] at e
    obtain ⟨⟨h1, h2, h3⟩, rfl⟩ := e
    have rule : OpR X (binaryOp .Pow) (rI (fun i j => 0 ≤ j ∧ j ≤ 1000 ∧ i.natAbs.log2 < 100000) fun i j => .int (i ^ j.toNat)) :=
      opI fun i j _ _ _ _ _ hc q => pow_int hc.1 (by
        have b : Builtin.Int.intBits i ≤ i.natAbs.log2 + 1 := by
          unfold Builtin.Int.intBits
          split <;> omega
        have b2 : (Builtin.Int.intBits i : Int) ≤ 100000 := by have := hc.2.2; omega
        have b3 : (Builtin.Int.intBits i : Int) * j ≤ 100000 * 1000 := Int.mul_le_mul b2 hc.2.1 hc.1 (by decide)
        omega) q
    exact rule pins s σ H x y v u Q I rx ry ⟨_, _, hx.int, hy.int, ⟨h1, h2, h3⟩, q.same sb (.int _)⟩
  | shl =>
    cases dx <;> cases dy <;> simp only [binD, Option.some.injEq, Option.ite_none_right_eq_some, reduceCtorEq] at e
    obtain ⟨⟨h1, h2, h3⟩, rfl⟩ := e
    exact op_shl pins s σ H x y v u Q I rx ry ⟨_, _, hx.int, hy.int, ⟨h1, by omega, h3⟩, q.same sb (.int _)⟩
  | shr =>
    cases dx <;> cases dy <;> simp only [binD, Option.some.injEq, Option.ite_none_right_eq_some, reduceCtorEq] at e
    obtain ⟨⟨h1, h2⟩, rfl⟩ := e
    exact op_shr pins s σ H x y v u Q I rx ry ⟨_, _, hx.int, hy.int, h1, q.same sb (.int _)⟩
  | band =>
    cases dx <;> cases dy <;> simp only [binD, Option.some.injEq, Option.ite_none_right_eq_some, reduceCtorEq] at e
    obtain ⟨⟨h1, h2⟩, rfl⟩ := e
    rename_i i j
    subst h2
    obtain ⟨n, rfl⟩ := Int.eq_ofNat_of_zero_le h1
    exact op_odd pins s σ H x y v u Q I rx ry ⟨n, hx.int, hy.int, q.same sb (by rw [show ((n : Int) % 2) = ((n % 2 : Nat) : Int) from rfl]; exact .int _)⟩

/-! ### items and slices -/
def rIx (K : PySem.W.Frag) : R2 := fun x y H Q => ∃ G dx dy d, Sub G H ∧ Rt K G H x dx ∧ Rt K G H y dy ∧ ixD dx dy = some d ∧ Kp K G H d Q
theorem atI_rp {vs : List V} {ds : List PyData} {i : Int} {d : PyData} (r : RpL K G vs ds) (h : atI ds i = some d) : ∃ v, atI vs i = some v ∧ Rp K G v d := by
  unfold atI at h ⊢
  rw [r.len]
  obtain ⟨k, e1, e2⟩ := Option.bind_eq_some_iff.mp h
  obtain ⟨v, e3, e4⟩ := r.get e2
  exact ⟨v, by rw [e1]; exact e3, e4⟩
theorem sound_ix : IxR X (rIx X.K) := by
  intro value slice pins s σ H x y v u Q I rx ry h hs
  obtain ⟨G, dx, dy, d, sb, hx, hy, e, q⟩ := h
  cases dy <;> simp only [ixD, reduceCtorEq] at e
  obtain ⟨xs, e1, e2⟩ := Option.bind_eq_some_iff.mp e
  cases dx <;> simp only [seqOf, reduceCtorEq, Option.some.injEq] at e1
  · subst e1
    obtain ⟨a, vs, rfl, h1, h2⟩ := hx.lst sb
    obtain ⟨z, e3, e4⟩ := atI_rp h2 e2
    exact ix_list value slice pins s σ H _ y v u Q I rx ry ⟨a, vs, _, z, rfl, hy.int, SqL.of h1, e3, q.same sb e4⟩ hs
  · subst e1
    obtain ⟨a, vs, rfl, h1, h2⟩ := hx.tup
    obtain ⟨z, e3, e4⟩ := atI_rp h2 e2
    exact ix_tup value slice pins s σ H _ y v u Q I rx ry ⟨a, vs, _, z, rfl, hy.int, sb.sqT h1, e3, q.same sb e4⟩ hs
theorem cutL_rp {vs : List V} {ds : List PyData} {lo hi : Option Int} (r : RpL K G vs ds) : RpL K G (cutV vs lo hi) (cutL ds lo hi) := by
  unfold cutV cutL
  rw [r.len]
  exact (r.drop _).take _
def rSl (K : PySem.W.Frag) : V → Option Int → Option Int → Hp → VK → Prop := fun x lo hi H Q => ∃ G dx d, Sub G H ∧ (Rt K G H x dx ∨ ∃ a vs xs, x = .ref a ∧ dx = .list xs ∧ SqL K H a vs ∧ RpL K G vs xs) ∧ slD dx lo hi = some d ∧ Kp K G H d Q
theorem sound_sl : L2.SlR X (rSl X.K) := by
  intro pins s σ H x v vl vu lo hi sl Q I rx hs pl pu h
  obtain ⟨G, dx, d, sb, hx, e, q⟩ := h
  cases dx <;> simp only [slD, reduceCtorEq, Option.some.injEq] at e
  · subst e
    have key : ∃ a vs, x = .ref a ∧ SqL X.K H a vs ∧ RpL X.K G vs ‹List PyData› := by
      rcases hx with hx | ⟨a, vs, xs, rfl, e, h1, h2⟩
      · obtain ⟨a, vs, rfl, h1, h2⟩ := hx.lst sb
        exact ⟨a, vs, rfl, SqL.of h1, h2⟩
      · cases e; exact ⟨a, vs, rfl, h1, h2⟩
    obtain ⟨a, vs, rfl, h1, h2⟩ := key
    exact sl_list pins s σ H _ v vl vu lo hi sl Q I rx hs pl pu ⟨a, vs, rfl, h1, fun p hp => q.lst sb (cutL_rp h2) hp⟩
  · subst e
    have hx : Rt X.K G H x (.tuple ‹List PyData›) := by
      rcases hx with hx | ⟨a, vs, xs, rfl, e, h1, h2⟩
      · exact hx
      · cases e
    obtain ⟨a, vs, rfl, h1, h2⟩ := hx.tup
    refine sl_tupA pins s σ H _ v vl vu lo hi sl Q I rx hs pl pu ⟨a, vs, rfl, sb.sqT h1, fun z => ?_, fun _ p hp => q.tup sb (cutL_rp h2) hp⟩
    have e1 : cutL ‹List PyData› lo hi = ‹List PyData› := by
      unfold cutL
      rw [← h2.len, z.1, z.2]
      simp [h2.len]
    rw [e1] at q
    exact q.same sb (.tup h1 h2)

/-! ### truth -/
theorem truth_of (sb : Sub G H) {x : V} {d : PyData} {k : Bool} (h : Rt K G H x d) (e : truthD d = some k) : TruV K x H k := by
  cases d <;> simp only [truthD, reduceCtorEq, Option.some.injEq] at e
  · rw [h.non]; exact e.symm
  · rw [h.bl]; exact e.symm
  · rw [h.int]; exact e.symm
  · obtain ⟨a, vs, rfl, h1, h2⟩ := h.lst sb
    refine .inl ⟨vs, SqL.of h1, ?_⟩
    rw [← e]; cases h2 <;> rfl
  · obtain ⟨a, vs, rfl, h1, h2⟩ := h.tup
    refine .inr (.inl ⟨vs, sb.sqT h1, ?_⟩)
    rw [← e]; cases h2 <;> rfl
end
end Px

namespace Px
open PySem PySem.Spec PyProof.Rows L2

inductive RtL (K : PySem.W.Frag) (G H : Hp) : List V → List PyData → Prop
  | nil : RtL K G H [] []
  | cons {v : V} {vs : List V} {d : PyData} {ds : List PyData} : Rt K G H v d → RtL K G H vs ds → RtL K G H (v :: vs) (d :: ds)
def blName : Bl → Str
  | .len => "len" | .abs => "abs" | .max => "max" | .min => "min" | .sum => "sum" | .all => "all" | .any => "any" | .int => "int" | .str => "str" | .repr => "repr" | .tuple => "tuple"
def blVal : Bl → Value
  | .len => .builtin "len" | .abs => .builtin "abs" | .max => .builtin "max" | .min => .builtin "min" | .sum => .builtin "sum" | .all => .builtin "all" | .any => .builtin "any"
  | .int => .type "int" | .str => .type "str" | .repr => .builtin "repr" | .tuple => .type "tuple"
def rK (K : PySem.W.Frag) (b : Bl) : List V → Hp → VK → Prop := fun xs H Q => ∃ G ds d, Sub G H ∧ RtL K G H xs ds ∧ bltD b ds = some d ∧ Kp K G H d Q
section
variable {X : Cx} {K : PySem.W.Frag} {G H : Hp}
theorem RtL.one {xs : List V} {d : PyData} (h : RtL K G H xs [d]) : ∃ v, xs = [v] ∧ Rt K G H v d := by
  cases h with
  | cons h r => cases r; exact ⟨_, rfl, h⟩
theorem RtL.two {xs : List V} {d e : PyData} (h : RtL K G H xs [d, e]) : ∃ v w, xs = [v, w] ∧ Rt K G H v d ∧ Rt K G H w e := by
  cases h with
  | cons h r =>
    obtain ⟨w, rfl, k⟩ := r.one
    exact ⟨_, w, rfl, h, k⟩
theorem call_reprD (hg : X.A.guards = some []) (hu : X.A.units + 70 < cLine) : CallR X (.builtin "repr") (fun xs H Q => ∃ x d, xs = [x] ∧ Dp X.K H x d ∧ d.showable = true ∧ d.hasDict = false ∧ d.depth ≤ 64 ∧ d.shown.length ≤ sizeLine ∧ Q (.str d.shown) H) := by
  intro pins s σ H xs us Q I r h
  obtain ⟨x, d, rfl, hd, h1, h2, h3, h4, q⟩ := h
  obtain ⟨u, rfl, ru⟩ := vals1 r
  obtain ⟨as, rd⟩ := Dp.reads I d x u hd ru
  have fin : ∀ t, EP X pins σ Q (.str d.shown t) { s with toks := s.toks + 1 } := fun t => ⟨.str _, H, I.tok _, ⟨_, rfl⟩, q⟩
  cases hd with
  | non => cases ru; exact PySem.P.repr_of_none ⟨.str _, H, I.tok _, ⟨_, rfl⟩, by simpa only [PyData.shown] using q⟩
  | bl b => cases ru; exact PySem.P.repr_of_bool ⟨.str _, H, I.tok _, ⟨_, rfl⟩, by simpa only [PyData.shown] using q⟩
  | int i =>
    obtain ⟨t, rfl⟩ := ru
    exact PySem.P.repr_of_int (by simpa [PyData.showable] using h1) ⟨.str _, H, I.tok _, ⟨_, rfl⟩, by simpa only [PyData.shown] using q⟩
  | str z =>
    obtain ⟨t, rfl⟩ := ru
    exact PySem.P.repr_of_str ⟨.str _, H, I.tok _, ⟨_, rfl⟩, by simpa only [PyData.shown] using q⟩ (by simpa only [PyData.shown] using h4)
  | lst _ _ =>
    cases ru
    exact repr_of_reads' rd h1 (fun z => by rw [h2] at z; cases z) hg (by omega) (fun _ _ e => e) (fun h' u tk k => ⟨.str _, H, I.kept k, ⟨_, rfl⟩, q⟩) h4
  | tup _ _ =>
    cases ru
    exact repr_of_reads' rd h1 (fun z => by rw [h2] at z; cases z) hg (by omega) (fun _ _ e => e) (fun h' u tk k => ⟨.str _, H, I.kept k, ⟨_, rfl⟩, q⟩) h4
theorem maxL_mem : ∀ (ns : List Int) (m : Int), (maxL m ns = m ∨ maxL m ns ∈ ns) ∧ m ≤ maxL m ns ∧ ∀ y ∈ ns, y ≤ maxL m ns
  | [], m => ⟨.inl rfl, Int.le_refl _, fun y h => by cases h⟩
  | n :: r, m => by
    unfold maxL
    obtain ⟨a, b, c⟩ := maxL_mem r (if n > m then n else m)
    refine ⟨?_, ?_, fun y hy => ?_⟩
    · rcases a with a | a
      · split at a
        · exact .inr (by rw [if_pos ‹_›, a]; exact List.mem_cons_self)
        · exact .inl (by rw [if_neg ‹_›]; exact a)
      · exact .inr (List.mem_cons_of_mem _ a)
    · split at b
      · rw [if_pos ‹_›]; omega
      · rw [if_neg ‹_›]; exact b
    · rcases List.mem_cons.mp hy with rfl | hy
      · split at b
        · rw [if_pos ‹_›]; exact b
        · rw [if_neg ‹_›]; omega
      · exact c y hy
theorem minL_mem : ∀ (ns : List Int) (m : Int), (minL m ns = m ∨ minL m ns ∈ ns) ∧ minL m ns ≤ m ∧ ∀ y ∈ ns, minL m ns ≤ y
  | [], m => ⟨.inl rfl, Int.le_refl _, fun y h => by cases h⟩
  | n :: r, m => by
    unfold minL
    obtain ⟨a, b, c⟩ := minL_mem r (if n < m then n else m)
    refine ⟨?_, ?_, fun y hy => ?_⟩
    · rcases a with a | a
      · split at a
        · exact .inr (by rw [if_pos ‹_›, a]; exact List.mem_cons_self)
        · exact .inl (by rw [if_neg ‹_›]; exact a)
      · exact .inr (List.mem_cons_of_mem _ a)
    · split at b
      · rw [if_pos ‹_›]; omega
      · rw [if_neg ‹_›]; exact b
    · rcases List.mem_cons.mp hy with rfl | hy
      · split at b
        · rw [if_pos ‹_›]; exact b
        · rw [if_neg ‹_›]; omega
      · exact c y hy
def prD (p : Int × Int) : PyData := .tuple [.int p.1, .int p.2]
theorem pairsOf_eq : ∀ {xs : List PyData} {ps : List (Int × Int)}, pairsOf xs = some ps → xs = ps.map prD
  | [], ps, e => by cases e; rfl
  | x :: r, ps, e => by
    unfold pairsOf at e
    split at e
    · rename_i h; cases h
    · rename_i h
      cases h
      obtain ⟨ms, e1, rfl⟩ := Option.map_eq_some_iff.mp e
      rw [pairsOf_eq e1]
      rfl
    · cases e
theorem lt_pair (p q : Int × Int) : PySem.W.dataLt (prD p) (prD q) = pairLt p q := by
  obtain ⟨i, j⟩ := p
  obtain ⟨k, l⟩ := q
  unfold prD pairLt
  rw [PySem.W.dataLt_tuple]
  by_cases h : i = k
  · subst h
    rw [PySem.W.dataLt_all_yes (by simp [PySem.W.alike]) (by simp [PyData.eqv])]
    by_cases h2 : j = l
    · subst h2
      rw [PySem.W.dataLt_all_yes (by simp [PySem.W.alike]) (by simp [PyData.eqv])]
      simp [PySem.W.keyToksAll, PyProof.Rows.lexLt, PyProof.Rows.itemLt]
    · rw [PySem.W.dataLt_all_no (by simp [PySem.W.alike]) (by simpa [PyData.eqv] using h2), PySem.W.dataLt_int]
      simp
  · rw [PySem.W.dataLt_all_no (by simp [PySem.W.alike]) (by simpa [PyData.eqv] using h), PySem.W.dataLt_int]
    simp [h]
theorem min_pair : ∀ (ps : List (Int × Int)) (p : Int × Int), PySem.W.minD (prD p) (ps.map prD) = prD (minP p ps)
  | [], p => rfl
  | q :: r, p => by
    unfold minP
    rw [← min_pair r]
    unfold PySem.W.minD
    rw [List.map_cons, List.foldl_cons, lt_pair]
    congr 1
    split <;> rfl
theorem RtL_lst {xs : List V} {ys : List PyData} (sb : Sub G H) (hx : RtL K G H xs [.list ys]) : ∃ a vs, xs = [.ref a] ∧ H a = some (.lst vs) ∧ RpL K H vs ys := by
  obtain ⟨v, rfl, h⟩ := hx.one
  obtain ⟨a, vs, rfl, h1, h2⟩ := h.lst sb
  exact ⟨a, vs, rfl, h1, h2.mono sb⟩
/-- max of a list of whole numbers -/
theorem sound_max (hc : X.calm = true) {pins : List (Addr × Obj)} {s : Shared} {σ : L2.St} {xs : List V} {us : List Value} {Q : VK} {ys : List PyData} {d : PyData} (I : Inv X pins σ H s) (r : Vals xs us) (sb : Sub G H) (hx : RtL X.K G H xs [.list ys]) (e : mostD maxL ys = some d) (q : Kp X.K G H d Q) :
    wpAny (model X.prog X.w) X.A (call (.builtin "max") us) (EP X pins σ Q) X.xe s := by
  unfold mostD at e
  split at e
  · rename_i n ns hi
    cases e
    obtain ⟨v, rfl, h⟩ := hx.one
    obtain ⟨a, vs, rfl, h1, h2⟩ := h.lst sb
    have h3 := h2.ints hi
    subst h3
    refine cr_max hc pins s σ H _ us Q I r ⟨a, n :: ns, rfl, SqL.of h1, by simp, fun m hm hy => ?_⟩
    obtain ⟨a1, a2, a3⟩ := maxL_mem ns n
    have e1 : m ≤ maxL n ns := by
      rcases List.mem_cons.mp hm with rfl | hm
      · exact a2
      · exact a3 m hm
    have e2 : maxL n ns ≤ m := by
      rcases a1 with a1 | a1
      · rw [a1]; exact hy n List.mem_cons_self
      · exact hy _ (List.mem_cons_of_mem _ a1)
    rw [Int.le_antisymm e1 e2]
    exact q.same sb (.int _)
  · cases e
theorem alike_pairs (ps : List (Int × Int)) : PySem.W.AlikeAll (ps.map prD) := by
  refine ⟨fun x hx y hy => ?_, fun x hx => ?_⟩
  · obtain ⟨p, _, rfl⟩ := List.mem_map.mp hx
    obtain ⟨q, _, rfl⟩ := List.mem_map.mp hy
    simp [prD, PySem.W.alike, PySem.W.alikeAll]
  · obtain ⟨p, _, rfl⟩ := List.mem_map.mp hx
    simp [prD]
theorem depth_pairs : ∀ ps : List (Int × Int), PyData.depthAll (ps.map prD) ≤ 2
  | [] => by simp [PyData.depthAll]
  | p :: r => by
    have := depth_pairs r
    simp [PyData.depthAll, prD, PyData.depth] at this ⊢
    omega
/-- min of a list of whole numbers, or of pairs of such -/
theorem sound_min (hc : X.calm = true) (hu : X.A.units + 70 < cLine) {pins : List (Addr × Obj)} {s : Shared} {σ : L2.St} {xs : List V} {us : List Value} {Q : VK} {ys : List PyData} {d : PyData} (I : Inv X pins σ H s) (r : Vals xs us) (sb : Sub G H) (hx : RtL X.K G H xs [.list ys]) (e : leastD ys = some d) (q : Kp X.K G H d Q) :
    wpAny (model X.prog X.w) X.A (call (.builtin "min") us) (EP X pins σ Q) X.xe s := by
  unfold leastD at e
  split at e
  · rename_i n ns hi
    cases e
    obtain ⟨v, rfl, h⟩ := hx.one
    obtain ⟨a, vs, rfl, h1, h2⟩ := h.lst sb
    have h3 := h2.ints hi
    subst h3
    refine cr_min hc pins s σ H _ us Q I r ⟨a, n :: ns, rfl, SqL.of h1, by simp, fun m hm hy => ?_⟩
    obtain ⟨a1, a2, a3⟩ := minL_mem ns n
    have e1 : minL n ns ≤ m := by
      rcases List.mem_cons.mp hm with rfl | hm
      · exact a2
      · exact a3 m hm
    have e2 : m ≤ minL n ns := by
      rcases a1 with a1 | a1
      · rw [a1]; exact hy n List.mem_cons_self
      · exact hy _ (List.mem_cons_of_mem _ a1)
    rw [Int.le_antisymm e2 e1]
    exact q.same sb (.int _)
  · split at e
    · rename_i p ps hp
      cases e
      have hys := pairsOf_eq hp
      subst hys
      obtain ⟨v, rfl, h⟩ := hx.one
      obtain ⟨a, vs, rfl, h1, h2⟩ := h.lst sb
      obtain ⟨its, rv, hl, _⟩ := I.list (SqL.of h1)
      obtain ⟨as, h4⟩ := Dp.readsAll I _ _ its (h2.mono sb).dp rv
      rw [Vals.ref1 r]
      have hd := depth_pairs (p :: ps)
      refine PySem.W.min_list_data (I.ok.hd hc) hl.isList (x := prD p) (xs := ps.map prD) (as := as) h4 (alike_pairs (p :: ps)) (by show X.A.units + 1 + PyData.depthAll ((p :: ps).map prD) < cLine; omega) fun i v' h' tk bs hv hr hk => ?_
      have hvi : its[i]? = some v' := by simpa using hv
      have hi : i < its.length := (List.getElem?_eq_some_iff.mp hvi).1
      have hlv := rv.length
      obtain ⟨w, hw⟩ : ∃ w, vs[i]? = some w := ⟨_, List.getElem?_eq_getElem (by omega)⟩
      obtain ⟨u, hu2, ru⟩ := rv.get hw
      rw [hvi] at hu2
      cases hu2
      obtain ⟨dx, hdx, rdx⟩ := h2.getV hw
      have J : Inv X pins σ H { s with heap := h', toks := tk } := I.kept hk
      obtain ⟨cs, hcs⟩ := Dp.reads J dx w v' (rdx.mono sb).dp ru
      have hm := (hcs.unique _ _ hr).1
      rw [min_pair] at hm
      refine ⟨w, H, J, ru, q.same sb ?_⟩
      have : dx = .tuple [.int (minP p ps).1, .int (minP p ps).2] := hm
      rw [← this]
      exact rdx
    · cases e
theorem sound_call (hc : X.calm = true) (hg : X.A.guards = some []) (hu : X.A.units + 70 < cLine) (b : Bl) : CallR X (blVal b) (rK X.K b) := by
  intro pins s σ H xs us Q I r h
  obtain ⟨G, ds, d, sb, hx, e, q⟩ := h
  cases b with
  | len =>
    match ds, e with
    | [.list ys], e =>
      simp only [bltD, Option.some.injEq] at e
      subst e
      obtain ⟨v, rfl, h⟩ := hx.one
      obtain ⟨a, vs, rfl, h1, h2⟩ := h.lst sb
      exact call_len_seq pins s σ H _ us Q I r ⟨a, vs, rfl, .inl (SqL.of h1), by rw [h2.len]; exact q.same sb (.int _)⟩
    | [.tuple ys], e =>
      simp only [bltD, Option.some.injEq] at e
      subst e
      obtain ⟨v, rfl, h⟩ := hx.one
      obtain ⟨a, vs, rfl, h1, h2⟩ := h.tup
      exact call_len_seq pins s σ H _ us Q I r ⟨a, vs, rfl, .inr (sb.sqT h1), by rw [h2.len]; exact q.same sb (.int _)⟩
  | abs =>
    match ds, e with
    | [.int i], e =>
      simp only [bltD, Option.some.injEq] at e
      subst e
      obtain ⟨v, rfl, h⟩ := hx.one
      exact call_abs pins s σ H _ us Q I r ⟨i, by rw [h.int], q.same sb (.int _)⟩
  | max =>
    match ds, e with
    | [.int i, .int j], e =>
      simp only [bltD, Option.some.injEq] at e
      subst e
      obtain ⟨v, w, rfl, h, k⟩ := hx.two
      exact call_max2 hc pins s σ H _ us Q I r ⟨i, j, by rw [h.int, k.int], q.same sb (.int _)⟩
    | [.list ys], e => exact sound_max hc I r sb hx e q
  | min =>
    match ds, e with
    | [.int i, .int j], e =>
      simp only [bltD, Option.some.injEq] at e
      subst e
      obtain ⟨v, w, rfl, h, k⟩ := hx.two
      exact call_min2 hc pins s σ H _ us Q I r ⟨i, j, by rw [h.int, k.int], q.same sb (.int _)⟩
    | [.list ys], e => exact sound_min hc hu I r sb hx e q
  | sum =>
    match ds, e with
    | [.list ys], e =>
      simp only [bltD] at e
      obtain ⟨ns, e1, rfl⟩ := Option.map_eq_some_iff.mp e
      obtain ⟨v, rfl, h⟩ := hx.one
      obtain ⟨a, vs, rfl, h1, h2⟩ := h.lst sb
      exact cr_sum hc pins s σ H _ us Q I r ⟨a, ns, rfl, by rw [← h2.ints e1]; exact SqL.of h1, q.same sb (.int _)⟩
  | all =>
    match ds, e with
    | [.list ys], e =>
      simp only [bltD] at e
      obtain ⟨ns, e1, rfl⟩ := Option.map_eq_some_iff.mp e
      obtain ⟨v, rfl, h⟩ := hx.one
      obtain ⟨a, vs, rfl, h1, h2⟩ := h.lst sb
      exact cr_all hc pins s σ H _ us Q I r ⟨a, ns, rfl, by rw [← h2.bools e1]; exact SqL.of h1, q.same sb (.bl _)⟩
  | any =>
    match ds, e with
    | [.list ys], e =>
      simp only [bltD] at e
      obtain ⟨ns, e1, rfl⟩ := Option.map_eq_some_iff.mp e
      obtain ⟨v, rfl, h⟩ := hx.one
      obtain ⟨a, vs, rfl, h1, h2⟩ := h.lst sb
      exact cr_any hc pins s σ H _ us Q I r ⟨a, ns, rfl, by rw [← h2.bools e1]; exact SqL.of h1, q.same sb (.bl _)⟩
  | int =>
    match ds, e with
    | [.int i], e =>
      simp only [bltD, Option.some.injEq] at e
      subst e
      obtain ⟨v, rfl, h⟩ := hx.one
      exact call_int1 pins s σ H _ us Q I r (.inl ⟨i, by rw [h.int], q.same sb (.int _)⟩)
    | [.bool i], e =>
      simp only [bltD, Option.some.injEq] at e
      subst e
      obtain ⟨v, rfl, h⟩ := hx.one
      exact call_int1 pins s σ H _ us Q I r (.inr ⟨i, by rw [h.bl], q.same sb (.int _)⟩)
  | str =>
    match ds, e with
    | [.int i], e =>
      simp only [bltD, Option.some.injEq, Option.ite_none_right_eq_some] at e
      obtain ⟨hz, rfl⟩ := e
      obtain ⟨v, rfl, h⟩ := hx.one
      exact call_str_int pins s σ H _ us Q I r ⟨i, by rw [h.int], hz, q.same sb (.str _)⟩
  | repr =>
    match ds, e with
    | [d], e =>
      simp only [bltD, Option.some.injEq, Option.ite_none_right_eq_some, Bool.and_eq_true, decide_eq_true_eq, Bool.not_eq_true'] at e
      obtain ⟨⟨⟨⟨h1, h2⟩, h3⟩, h4⟩, rfl⟩ := e
      obtain ⟨v, rfl, h⟩ := hx.one
      exact call_reprD hg hu pins s σ H _ us Q I r ⟨v, d, rfl, (h.rp sb).dp, h1, h2, h3, h4, q.same sb (.str _)⟩
  | tuple =>
    match ds, e with
    | [.list ys], e =>
      simp only [bltD, Option.some.injEq] at e
      subst e
      obtain ⟨v, rfl, h⟩ := hx.one
      obtain ⟨a, vs, rfl, h1, h2⟩ := h.lst sb
      exact call_tuple_of pins s σ H _ us Q I r ⟨a, vs, rfl, .inl ⟨SqL.of h1, fun p hp => q.tup sb h2 hp⟩⟩
    | [.tuple ys], e =>
      simp only [bltD, Option.some.injEq] at e
      subst e
      obtain ⟨v, rfl, h⟩ := hx.one
      obtain ⟨a, vs, rfl, h1, h2⟩ := h.tup
      exact call_tuple_of pins s σ H _ us Q I r ⟨a, vs, rfl, .inr ⟨sb.sqT h1, q.same sb (.tup h1 h2)⟩⟩

/-! ### isinstance -/
def kdName : Kd → String
  | .int => "int" | .bool => "bool" | .tuple => "tuple" | .list => "list" | .str => "str"
def tyName : PyData → String
  | .none => "NoneType" | .bool _ => "bool" | .int _ => "int" | .str _ => "str" | .list _ => "list" | .tuple _ => "tuple" | .dict _ => "dict"
theorem Rp.tyx {v : V} {d : PyData} (h : Rp K H v d) : TyX K H v (.type (tyName d)) := by
  cases h with
  | non => exact .base .non
  | bl b => exact .base (.bl b)
  | int i => exact .base (.int i)
  | str x => exact .base (.str x)
  | lst h _ => exact .base (.lst h)
  | tup h _ =>
    rcases h with (h | ⟨o, h⟩) | ⟨o, its, n, h1, h2, _⟩
    · exact .base (.tup h)
    · exact .fTuple h
    · exact .kTuple h1 h2
theorem kit_d {d : PyData} {k : Kd} {b : Bool} (h : isiD d k = some b) (nd : ∀ kv, d ≠ .dict kv) : PySem.W.kitOne K (.type (tyName d)) (.type (kdName k)) = some b := by
  cases d <;> cases k <;> simp only [isiD, Option.some.injEq] at h <;> subst h <;> first
    | exact absurd rfl (nd _)
    | (simp only [tyName, kdName]; exact kit_ty (by decide +kernel))
def rI2 (K : PySem.W.Frag) (k : Kd) : List V → Hp → VK → Prop := fun xs H Q => ∃ G x d b, xs = [x, .ty (kdName k)] ∧ Sub G H ∧ Rt K G H x d ∧ isiD d k = some b ∧ Q (.bl b) H
theorem sound_isi (k : Kd) : CallR X (.builtin "isinstance") (rI2 X.K k) := by
  intro pins s σ H xs us Q I r h
  obtain ⟨G, x, d, b, rfl, sb, hx, e, q⟩ := h
  have hp := hx.rp sb
  refine call_isi pins s σ H _ us Q I r ⟨x, _, _, _, b, rfl, .ty _, hp.tyx, kit_d e (fun kv z => ?_), q⟩
  subst z
  cases hp
end
end Px

/-! Px2e: t[::-1]; a written dict's get. -/
namespace Px
open PySem PySem.Spec PyProof.Rows L2 HT
section
variable {prog : Program} {w : World} {A : Around} {E : Value → Shared → Prop} {s : Shared}
theorem sliceApplied_rev {sl : Addr} {vl vu : Value} {n : Nat} {vs : Value} {Q : Int × Int × Nat → Shared → Prop} (hs : s.heap.IsSliceOf sl vl vu vs) (pl : IsPart vl none) (pu : IsPart vu none) (ps : IsPart vs (some (-1)))
    (h : Q ((n : Int) - 1, -1, n) s) : wpAny (model prog w) A (Builtin.Slice.sliceApplied (.ref sl) (pure (n : Int))) Q E s := by
  obtain ⟨os, hos, hcs, hds⟩ := id hs
  unfold Builtin.Slice.sliceApplied Builtin.Slice.sliceFields
  refine wpAny_bind (wpAny_bind (wpAny_field hos hds (x := vl) rfl (wpAny_bind (wpAny_field hos hds (x := vu) rfl (wpAny_bind (wpAny_field hos hds (x := vs) rfl (wpAny_pure ?_)))))))
  refine wpAny_bind (slicePart_ ps ?_)
  show wpAny _ _ (if ((-1 : Int) == 0) = true then _ else _) _ _ s
  rw [if_neg (by decide)]
  refine wpAny_bind (slicePart_ pl (wpAny_bind (slicePart_ pu (wpAny_bind (wpAny_pure ?_)))))
  have e1 : Builtin.Slice.sliceAdjust none none (-1) (n : Int) = ((n : Int) - 1, -1) := rfl
  have e2 : Builtin.Slice.slicePlaces ((n : Int) - 1) (-1) (-1) = n := by
    unfold Builtin.Slice.slicePlaces
    have h1 : ¬ ((-1 : Int) > 0) := by decide
    have h2 : (-(-1) : Int) = 1 := by decide
    simp only [h1, if_false, h2, Int.ediv_one]
    split <;> omega
  show wpAny _ _ (match Builtin.Slice.sliceAdjust none none (-1) (n : Int) with | (lo, hi) => pure (lo, (-1 : Int), Builtin.Slice.slicePlaces lo hi (-1))) _ _ s
  rw [e1]
  show wpAny _ _ (pure ((n : Int) - 1, (-1 : Int), Builtin.Slice.slicePlaces ((n : Int) - 1) (-1) (-1))) _ _ s
  rw [e2]
  exact wpAny_pure h
theorem pick_rev (xs : Array Value) : ((List.range xs.size).filterMap fun (k : Nat) => xs[(((xs.size : Int) - 1) + (k : Int) * (-1)).toNat]?).toArray = xs.toList.reverse.toArray := by
  have e : (fun (k : Nat) => xs[(((xs.size : Int) - 1) + (k : Int) * (-1)).toNat]?) = fun k => xs[xs.size - 1 - k]? := by
    funext k
    have : (((xs.size : Int) - 1) + (k : Int) * (-1)).toNat = xs.size - 1 - k := by omega
    rw [this]
  rw [e]
  have h := congrArg (fun l => l.filterMap (xs[·]?)) (PySem.W.krv_range xs.size)
  simp only [List.filterMap_map, List.filterMap_reverse, PySem.W.krv_all] at h
  exact congrArg List.toArray h
theorem getItem_tuple_rev {t sl : Addr} {items : Array Value} {vl vu vs : Value} {Q : Value → Shared → Prop} (ht : IsTup s.heap t items) (hs : s.heap.IsSliceOf sl vl vu vs) (pl : IsPart vl none) (pu : IsPart vu none) (ps : IsPart vs (some (-1)))
    (h : Q (.ref s.heap.objs.size) { s with heap := s.heap.push { cls := .type "tuple", data := .seq items.toList.reverse.toArray } })
    (hsz : items.size ≤ sizeLine) : wpAny (model prog w) A (getItem (.ref t) (.ref sl)) Q E s := by
  have htake : sizeOk (.seq items.toList.reverse.toArray) := by
    show items.toList.reverse.toArray.size ≤ sizeLine
    rw [List.size_toArray, List.length_reverse, Array.length_toList]
    exact hsz
  obtain ⟨os, hos, hcs, hds⟩ := id hs
  have hTs : s.TypeIs (.ref sl) "slice" := ⟨os, hos, hcs⟩
  unfold getItem
  try with_reducible refine wpAny_holding ?_
  first | refine wpAny_bind (wpAny_pure ?_) | skip
  refine wpAny_bind (wpAny_sequenceKey ht.typeIs (by decide) ?_)
  refine wpAny_bind (wpAny_callSpecial?_slot (name := Str.ofString "__getitem__") ht.typeIs PyProof.Rows.slot_tuple_getitem
    (wpAny_call_entry PyProof.Rows.slot_tuple_getitem ht.typeIs entry_tuple_getitem ?_ (args_tuple_getitem _ _)))
  show wpAny _ _ (Builtin.Tuple.tupleItemsOf (.ref t) >>= _) _ _ s
  refine wpAny_bind (tupleItemsOf_ ht ?_)
  refine wpAny_bind (wpAny_typeOf hTs ?_)
  rw [if_pos (by decide)]
  refine wpAny_bind (sliceApplied_rev hs pl pu ps ?_)
  have hno : ¬ (((items.size : Int) - 1 == 0 && (-1 : Int) == 1 && items.size == items.size) = true) := by
    intro q
    rw [Bool.and_eq_true, Bool.and_eq_true] at q
    have := eq_of_beq q.1.2
    omega
  show wpAny _ _ (if ((items.size : Int) - 1 == 0 && (-1 : Int) == 1 && items.size == items.size) = true then _ else _) _ _ s
  rw [if_neg hno, pick_rev]
  first
    | exact wpAny_bind (m := Builtin.Tuple.tupleExact _) (wpAny_newObj_type (wpAny_pure ⟨_, rfl, wpAny_pure h⟩) htake)
    | exact wpAny_bind (m := Builtin.Tuple.tupleExact _) (wpAny_newObj_type (wpAny_bind (wpAny_pure (wpAny_pure ⟨_, rfl, wpAny_pure h⟩))) htake)
    | exact wpAny_bind (wpAny_bind (m := Builtin.Tuple.tupleExact _) (wpAny_newObj_type (wpAny_pure (wpAny_pure ⟨_, rfl, wpAny_pure h⟩)) htake))
    | exact wpAny_bind (wpAny_bind (m := Builtin.Tuple.tupleExact _) (wpAny_newObj_type (wpAny_pure ⟨_, rfl, wpAny_pure h⟩) htake))
end
section
variable {X : Cx}
def tRevB (K : PySem.W.Frag) (te : TE) : TE := fun σ H Q => te σ H fun x H1 => ∃ a xs, x = .ref a ∧ ((SqT K H1 a xs ∧ ∀ p, H1 p = none → Q (.ref p) (upd H1 p (.tup xs.reverse))) ∨ (SqL K H1 a xs ∧ ∀ p, H1 p = none → Q (.ref p) (upd H1 p (.lst xs.reverse))))
theorem pe_revB {e : Expr} {te : TE} {k : Nat} {p1 p2 p3 pos : Pos} (he : PE X e te) : PE X (.Subscript e (.Slice none none (some (.UnaryOp .USub (.Constant (.int 1) k p1) p2)) p3) pos) (tRevB X.K te) := by
  refine ⟨fun pins s σ H Q I h => ?_⟩
  refine Subscript_ (thn (he.run pins s σ H _ I h) fun v s1 ⟨x, H1, I1, r1, q1⟩ => ?_)
  obtain ⟨a, xs, ex, q⟩ := q1
  subst ex
  cases r1
  have hst : PO X (some (.UnaryOp .USub (.Constant (.int 1) k p1) p2)) (tPart (tUn (rU fun i => .int (-i)) (tC (.int 1)))) := po_some (pe_un un_neg pe_int)
  refine wpAny_Slice (thn (po_none.run pins s1 σ H1 (fun o H2 => o = none ∧ H2 = H1) I1 ⟨rfl, rfl⟩) fun vl s2 ⟨l, H2, I2, pl, el, e2⟩ => ?_)
  subst el e2
  refine thn (po_none.run pins s2 σ H2 (fun o H3 => o = none ∧ H3 = H2) I2 ⟨rfl, rfl⟩) fun vu s3 ⟨u, H3, I3, pu, eu, e3⟩ => ?_
  subst eu e3
  refine thn (hst.run pins s3 σ H3 (fun o H4 => o = some (-1) ∧ H4 = H3) I3 ⟨1, rfl, -1, rfl, rfl, rfl⟩) fun vs s4 ⟨o, H4, I4, ps, eo, e4⟩ => ?_
  subst eo e4
  have I5 : Inv X pins σ H4 { s4 with heap := s4.heap.push { cls := .type "slice", data := .fields #[vl, vu, vs] } } := I4.kept (t' := s4.toks) fun b ob q => Heap.get?_push_of_some _ q
  show wpAny (model X.prog X.w) X.A (subscriptTail e (.Slice none none (some (.UnaryOp .USub (.Constant (.int 1) k p1) p2)) p3) (.ref a) (.ref s4.heap.objs.size)) (EP X pins σ Q) X.xe { s4 with heap := s4.heap.push { cls := .type "slice", data := .fields #[vl, vu, vs] } }
  rcases q with ⟨hx, q⟩ | ⟨hx, q⟩
  · obtain ⟨its, r, ht, hz⟩ := I5.tuple hx
    have hlen := r.length
    refine tail_any (ops := [.ref a, .ref s4.heap.objs.size]) ht.typeIs (PyProof.Rows.slot_tuple_getitem.lookup) ?_ (by with_unfolding_all rfl)
    refine getItem_tuple_rev ht (Heap.IsSliceOf.new _ vl vu vs) pl pu ps ?_ (by rw [List.size_toArray]; omega)
    refine ⟨.ref _, _, I5.laid (t' := s4.toks) (o := .tup xs.reverse) (fun b ob q => Heap.get?_push_of_some _ q) (Nat.le_refl _) ?_, rfl, q _ (I5.hok.fresh (Nat.le_refl _))⟩
    exact ⟨by rw [List.length_reverse]; exact hz, _, r.reverse, IsTup.new _ _⟩
  · obtain ⟨its, r, ht, hz⟩ := I5.list hx
    have hlen := r.length
    refine tail_any (ops := [.ref a, .ref s4.heap.objs.size]) ht.isList.typeIs (PySem.slot_list_getitem.lookup) ?_ (by with_unfolding_all rfl)
    refine wpAny_getItem_list_slice ht.isList (Heap.IsSliceOf.new _ vl vu vs) pl pu ps (by decide) ?_ (by rw [List.size_toArray]; omega)
    rw [PySem.W.krv_pick]
    refine ⟨.ref _, _, I5.laid (t' := s4.toks) (o := .lst xs.reverse) (fun b ob q => Heap.get?_push_of_some _ q) (Nat.le_refl _) ?_, rfl, q _ (I5.hok.fresh (Nat.le_refl _))⟩
    exact ⟨by rw [List.length_reverse]; exact hz, _, 0, r.reverse, Heap.get?_push_size _ rfl⟩

/-! ### D.get(k, d), D a written dict -/
def KAt (K : PySem.W.Frag) (w : World) (a : Addr) (x : Str) (o : Option Value) : Prop := ∃ es n, K.lookup a = some ⟨.type "dict", none, .dict es n, #[]⟩ ∧ PySem.W.KeysLit w.params es.toList ∧ (a == sysModules) = false ∧ PySem.W.nsIn K a x = some o
def tKGet (K : PySem.W.Frag) (w : World) (a : Addr) (tk td : TE) : TE := fun σ H Q => tk σ H fun y H1 => td σ H1 fun z H2 => ∃ x o, y = .str x ∧ KAt K w a x o ∧ ∀ v, RelO (some v) (some (o.getD .none)) ∨ (o = none ∧ v = z) → (match o with | some u => RelV v u | none => v = z) → Q v H2
theorem pe_kget {x : Str} {p apos cpos : Pos} {e f : Expr} {tk td : TE} {a : Addr} (hg : Gl X x) (hm : X.mg x = some (.ref a)) (hdb : (x == ("__debug__" : Str)) = false) (he : PE X e tk) (hf : PE X f td) (m : M2 X (.Name x p) "get" apos e f cpos)
    (hd : ∃ es n, X.K.lookup a = some ⟨.type "dict", none, .dict es n, #[]⟩ ∧ PySem.W.KeysLit X.w.params es.toList ∧ (a == sysModules) = false) :
    PE X (.Call (.Attribute (.Name x p) "get" apos) [e, f] [] cpos) (fun σ H Q => tk σ H fun y H1 => td σ H1 fun z H2 => ∃ x o, y = .str x ∧ PySem.W.nsIn X.K a x = some o ∧ ∃ v, (match o with | some u => RelV v u | none => v = z) ∧ Q v H2) := by
  refine ⟨fun pins s σ H Q I h => ?_⟩
  obtain ⟨es, n, hl, hk, low⟩ := hd
  refine wpAny_Call_method m.base m.few m.line PySem.F.plainAttrs_dict PySem.F.slot_dict_get PySem.F.type_dict_get ?_
  refine ld_glob I hg hm ?_ hdb
  have ob := I.kIn a _ hl
  refine ⟨⟨_, ob, rfl⟩, fun b q => ?_, ?_⟩
  · cases q
    exact ⟨_, ob, rfl⟩
  rw [m.trees]
  refine Calls.callWith_builtin rfl (Calls.evalArgs_plain (Calls.spliced_cons (thn (he.run pins s σ H _ I h) fun iv s2 ⟨y, H2, I2, ry, q2⟩ =>
    Calls.spliced_cons (thn (hf.run pins s2 σ H2 _ I2 q2) fun fv s3 ⟨z, H3, I3, rz, x, o, ey, hn, v, hv, q3⟩ => Calls.spliced_nil ?_))))
  subst ey
  obtain ⟨t, rfl⟩ := (show ∃ t, iv = Value.str x t from ry)
  have hm' := PySem.W.mapOf_K (prog := X.prog) (w := X.w) I3.kIn hl hk
  have fk := PySem.W.find_K hl hn
  refine call_meetsIn PySem.F.slot_dict_get hm'.typeIs PySem.F.entry_dict_get (PySem.F.args_dict_get_3 _ _ _) (meets_dict_get_default (strKind X.prog X.w) a (strKind_is X.prog X.w x t) low fv) ⟨_, hm', ?_⟩
  simp only [fk]
  refine ⟨v, H3, I3.tok _, ?_, q3⟩
  cases o with
  | none => cases hv; exact rz
  | some u => exact hv
end
end Px

/-! Px2f: enumerate(tuple). -/
namespace Px
open PySem PySem.Spec PyProof.Rows L2
open AutoSeq1 (wpAny_loadPart')
set_option maxHeartbeats 1000000 in
theorem meets_enumerate_newT (l : Addr) (items : Array Value) (n : Nat) (dct : Option Addr) (sl : Array (Option Value)) :
    Meets (Builtin.«enumerate.__new__» ⟨[.type "enumerate", .ref l], []⟩) (fun _ R s => s.heap.get? l = some { cls := .type "tuple", dict := dct, data := .seq items n, slots := sl } ∧
      R (.ok (.ret (.ref (s.heap.push { cls := .type "tuple_iterator", data := .fields #[.ref l, .int 0 0] }).objs.size)))
        { s with heap := (s.heap.push { cls := .type "tuple_iterator", data := .fields #[.ref l, .int 0 0] }).push { cls := .type "enumerate", data := .fields #[.none, .bool false, .ref s.heap.objs.size, rawInt 0, .none, .none] } }) :=
  .of_wp fun prog w A R s h => by
    obtain ⟨hp, g, d, tk, os⟩ := s; obtain ⟨hl, h⟩ := h
    have hsub := sub_enumerate
    have hL : Heap.IsTuple (Shared.heap ⟨hp, g, d, tk, os⟩) l items := ⟨_, hl, rfl, n, rfl⟩
    wp_walk using wpAny_loadPart' hl
    refine wpAny_stack_any fun st => wpAny_pure ?_
    split
    · rename_i c _ _ _ _ _
      cases (c == Value.type "enumerate")
      · wp_walk using wpAny_loadPart' hl, wpAny_pyIter_tuple hL
        exact ⟨_, rfl, h⟩
      · wp_walk using wpAny_loadPart' hl, wpAny_pyIter_tuple hL
        exact ⟨_, rfl, h⟩
    · wp_walk using wpAny_loadPart' hl, wpAny_pyIter_tuple hL
      exact ⟨_, rfl, h⟩
section
variable {prog : Program} {w : World} {A : Around} {E : Value → Shared → Prop} {s : Shared}
theorem call_enumerate_tuple {l : Addr} {items : Array Value} {Q : Value → Shared → Prop} (hL : s.heap.IsTuple l items)
    (h : ∀ h', IsEnum h' (s.heap.objs.size + 1) s.heap.objs.size 0 .none → h'.IsTupleIter s.heap.objs.size l 0 → h'.objs.size = s.heap.objs.size + 2 →
      (∀ b o, s.heap.get? b = some o → h'.get? b = some o) → Q (.ref (s.heap.objs.size + 1)) { s with heap := h' }) :
    wpAny (model prog w) A (call (.type "enumerate") [.ref l]) Q E s := by
  obtain ⟨⟨c, dct, dt, sl⟩, hl, hc, n, hd⟩ := hL
  replace hc : c = .type "tuple" := hc
  replace hd : dt = .seq items n := hd
  subst hc hd
  refine callType_new F.called_enumerate (by decide) (F.typeCall_enumerate_1 _) (F.newCall_enumerate_1 _) (fun obj => F.args_object_init_2 obj _) F.entry_enumerate_new
    (meets_enumerate_newT l items n dct sl) ⟨hl, ?_⟩
  have hz : (s.heap.push { cls := .type "tuple_iterator", data := .fields #[.ref l, .int 0 0] }).objs.size = s.heap.objs.size + 1 := Heap.size_push ..
  show _ ∧ _
  rw [hz]
  have he : IsEnum ((s.heap.push { cls := .type "tuple_iterator", data := .fields #[.ref l, .int 0 0] }).push
      { cls := .type "enumerate", data := .fields #[.none, .bool false, .ref s.heap.objs.size, rawInt 0, .none, .none] }) (s.heap.objs.size + 1) s.heap.objs.size 0 .none := by
    have := Heap.get?_push_size (s.heap.push { cls := .type "tuple_iterator", data := .fields #[.ref l, .int 0 0] })
      (o := { cls := .type "enumerate", data := .fields #[.none, .bool false, .ref s.heap.objs.size, rawInt 0, .none, .none] }) rfl
    rw [hz] at this; exact this
  refine ⟨⟨_, he, rfl⟩, h _ he ⟨_, Heap.get?_push_of_some _ (Heap.get?_push_size _ rfl), rfl, rfl⟩ (by rw [Heap.size_push, hz]) fun b o x => Heap.get?_push_of_some _ (Heap.get?_push_of_some _ x)⟩
end
/-- the tuple at a, each item in a new pair with its place -/
def IteT (K : PySem.W.Frag) (a : Addr) : It :=
  ⟨fun i H => ∃ (xs : List V) (x : V), SqT K H a xs ∧ xs[i]? = some x, fun i H v H' => ∃ T x, v = .ref T ∧ H T = none ∧ H' = upd H T (.tup [.int (i : Nat), x]) ∧ ∀ xs, SqT K H a xs → xs[i]? = some x, fun i H => ∃ xs : List V, SqT K H a xs ∧ i = xs.length⟩
theorem turn_enumT {P : Program} {w : World} {K : PySem.W.Frag} {elts : List Expr} {kk : Nat} {tpos : Pos} (a e it : Addr) (ha : a ≠ it) (hae : e ≠ a) :
    Turn P w K (.Tuple elts kk tpos) (IteT K a) [e, it] e (fun i h => (∃ old, IsEnum h e it ((i : Nat) : Int) old) ∧ h.IsTupleIter it a i ∧ e ≠ it) where
  mem := by simp
  obj := fun i h st b hb => by
    obtain ⟨⟨old, he⟩, ⟨o, ho, hc, hd⟩, _⟩ := st
    have e' : b = e ∨ b = it := by simpa using hb
    rcases e' with z | z
    · rw [z]; exact ⟨_, he, fun v q => nomatch q⟩
    · rw [z]; exact ⟨o, ho, fun v q => by rw [hd] at q; cases q⟩
  keep := fun i h h' st k => let ⟨⟨old, he⟩, hi, hne⟩ := st; ⟨⟨old, k e (by simp) _ he⟩, hi.at fun o q => k it (by simp) o q, hne⟩
  item := by
    intro X hP hw hK hc i pins s σ H E I hf st hg
    subst hP hw hK
    obtain ⟨⟨old, he⟩, hit, hne⟩ := st
    obtain ⟨xs, x, hq, hx⟩ := hg
    obtain ⟨its, rv, p, hz⟩ := I.tuple hq
    obtain ⟨u, hu, ru⟩ := rv.get hx
    have hel : e < s.heap.objs.size := Heap.lt_size he
    have hil : it < s.heap.objs.size := by obtain ⟨_, q, _⟩ := hit; exact Heap.lt_size q
    have hilt : i < its.toArray.size := by
      have := (List.getElem?_eq_some_iff.mp hu).1
      simpa using this
    refine wpAny_pyNext_enum_itemD (Draws.tuple (prog := X.prog) (w := X.w) (A := X.A.in1) (I.ok.hd hc) it a ha its.toArray) he ⟨hit, p⟩ hilt hne (by simp [hne, hae]) fun x2 h' tk hP ho hst hT hsz hk => ?_
    obtain ⟨hit', _⟩ := hst
    have e2 : x2 = u := by
      have : its.toArray[i]? = some u := by simpa using hu
      rw [hP] at this
      exact Option.some.inj this
    subst e2
    refine ⟨_, rfl, wpAny_letOwnedTupleGo_enum (s := { s with heap := h', toks := tk + 1 }) ho fun h'' he' sb => ?_⟩
    have hT2 : h''.get? s.heap.objs.size = some { cls := .type "tuple", data := .seq #[.int i tk, x2] } := (sb.2 _ (Nat.ne_of_gt hel)).trans hT
    have new : ObjOk X.prog X.w (upd H s.heap.objs.size (.tup [.int (i : Nat), x])) h'' s.heap.objs.size (.tup [.int (i : Nat), x]) :=
      ⟨by show 2 ≤ sizeLine; decide, [.int i tk, x2], .cons ⟨_, rfl⟩ (.cons ru .nil), ⟨_, hT2, rfl, _, rfl⟩⟩
    have I1 : Inv X pins σ (upd H s.heap.objs.size (.tup [.int (i : Nat), x])) { s with heap := h'', toks := tk + 1 } :=
      I.turnedNew (ch := [e, it]) (fun b ob hb q => (sb.2 b (fun z => hb (by simp [z]))).trans (hk b ob (fun z => hb (by simp [z])) (fun z => hb (by simp [z])) q)) hf (Nat.le_refl _) new
    refine ⟨.ref s.heap.objs.size, _, I1, rfl, ⟨_, x, rfl, I.hok.fresh (Nat.le_refl _), rfl, fun ys hy => by rw [I.tuple_inj hy hq]; exact hx⟩, ⟨⟨x2, ?_⟩, hit'.at fun o q => (sb.2 it (Ne.symm hne)).trans q, hne⟩, fun b hb => ?_⟩
    · have e1 : ((i + 1 : Nat) : Int) = (i : Int) + 1 := by omega
      rw [e1]; exact he'
    · have hb' : b < s.heap.objs.size := by
        have e' : b = e ∨ b = it := by simpa using hb
        rcases e' with z | z
        · rw [z]; exact hel
        · rw [z]; exact hil
      rw [upd_ne (Nat.ne_of_lt hb')]
      exact (hf b hb).1
  done := by
    intro X hP hw hK hc i pins s σ H E I hf st hg
    subst hP hw hK
    obtain ⟨⟨old, he⟩, hit, hne⟩ := st
    obtain ⟨xs, hq, hx⟩ := hg
    obtain ⟨its, rv, p, hz⟩ := I.tuple hq
    obtain ⟨f0, f1, f2, f3, f4, f5⟩ := hf it (by simp)
    have hl : i = its.toArray.size := by rw [List.size_toArray, hx]; exact rv.length
    subst hl
    exact wpAny_pyNext_enum_endD (Draws.tuple (prog := X.prog) (w := X.w) (A := X.A.in1) (I.ok.hd hc) it a ha its.toArray) he ⟨hit, p⟩ fun h' eb => ⟨rfl, I.turned (t' := s.toks) (fun b o hb q => eb b o hb q) f0 f1 f3 f4 f5⟩
  self := fun A i s Q E st h => let ⟨⟨_, he⟩, _⟩ := st; wpAny_pyIter_enum he h
def iEnumT (K : PySem.W.Frag) (ta : TA) : TI := fun σ H R => ta σ H fun vs H1 => ∃ a xs, vs = [.ref a] ∧ SqT K H1 a xs ∧ R (IteT K a) H1
theorem pi_enumT {X : Cx} {e : Expr} {ta : TA} {p pos tpos : Pos} {elts : List Expr} {kk : Nat} (hg : Gl X "enumerate") (hm : X.mg "enumerate" = none) (ha : PA X [e] ta) (hs : starEach [e] X.env = [(false, eval e X.env)] := by rfl) :
    PI X (.Tuple elts kk tpos) (.Call (.Name "enumerate" p) [e] [] pos) (iEnumT X.K ta) := by
  refine ⟨fun pins s σ H R I h => ?_⟩
  refine Call_ (ld_blt I hg hm boot_enumerate (PyProof.Rows.callWith_type1 (thn (ha.run pos pins s σ H _ I h) fun us s1 ⟨vs, H1, I1, r1, q1⟩ => ?_) hs rfl))
  obtain ⟨a, xs, ex, hq, q⟩ := q1
  subst ex
  cases r1 with
  | cons r rr =>
    cases rr
    cases r
    obtain ⟨its, rv, p', hz⟩ := I1.tuple hq
    have al : a < s1.heap.objs.size := by obtain ⟨_, q, _⟩ := p'; exact Heap.lt_size q
    refine call_enumerate_tuple (show s1.heap.IsTuple a its.toArray from p') fun h' he hit hsz hk => wpAny_pyIter_enum he ?_
    have I2 : Inv X pins σ H1 { s1 with heap := h' } := I1.kept (t' := s1.toks) hk
    refine ⟨s1.heap.objs.size + 1, [s1.heap.objs.size + 1, s1.heap.objs.size], _, _, H1, rfl, I2, turn_enumT a (s1.heap.objs.size + 1) s1.heap.objs.size (Nat.ne_of_lt al) (Nat.ne_of_gt (Nat.lt_succ_of_lt al)), ⟨⟨.none, he⟩, hit, Nat.succ_ne_self _⟩, fun b hb => ?_, q⟩
    have e' : b = s1.heap.objs.size + 1 ∨ b = s1.heap.objs.size := by simpa using hb
    have hle : s1.heap.objs.size ≤ b := by
      rcases e' with z | z
      · rw [z]; exact Nat.le_add_right _ _
      · rw [z]; exact Nat.le_refl _
    exact I1.fpOk hle (I1.hok.fresh hle)
end Px

set_option maxHeartbeats 2000000
/-! Pl1: a lambda of one parameter as a key of min, at the hand layer. -/
namespace Lm
open PySem PySem.Spec PyProof.Rows L2 LamX

/-- one parameter, no cell of its own; captured names and globals -/
structure Lam1 (sc scope : Scope) (a : Str) : Prop where
  kind : scope.kind = .function
  co : scope.isCoroutine = false
  gen : scope.isGenerator = false
  own : ∀ y ∈ scope.names, y.2 ≠ .cell ∧ (y.2 = .local → y.1 = a)
  free : ∀ y ∈ scope.names, y.2 = .free → sc.names.lookup y.1 = some .cell ∨ sc.names.lookup y.1 = some .free
  par : scope.names.lookup a = some .local
def lam1B (sc scope : Scope) (a : Str) : Bool :=
  decide (scope.kind = .function) && !scope.isCoroutine && !scope.isGenerator && (scope.names.all fun y => !decide (y.2 = .cell) && (!decide (y.2 = .local) || decide (y.1 = a)) && (!decide (y.2 = .free) || decide (sc.names.lookup y.1 = some .cell) || decide (sc.names.lookup y.1 = some .free))) &&
    decide (scope.names.lookup a = some .local)
theorem lam1_by {sc scope : Scope} {a : Str} (h : lam1B sc scope a = true) : Lam1 sc scope a := by
  unfold lam1B at h
  simp only [Bool.and_eq_true, Bool.or_eq_true, Bool.not_eq_true', decide_eq_true_eq, decide_eq_false_iff_not, List.all_eq_true] at h
  obtain ⟨⟨⟨⟨h1, h2⟩, h3⟩, h4⟩, h5⟩ := h
  refine ⟨h1, h2, h3, fun y hy => ⟨(h4 y hy).1.1, fun e => ?_⟩, fun y hy e => ?_, h5⟩
  · rcases (h4 y hy).1.2 with z | z
    · exact absurd e z
    · exact z
  · rcases (h4 y hy).2 with (z | z) | z
    · exact absurd e z
    · exact .inl z
    · exact .inr z
theorem Lam1.has {X : Cx} {scope : Scope} {a : Str} (L : Lam1 X.env.scope scope a) (ok : X.Ok) : ∀ y ∈ scope.names, y.2 = .free → ∃ c, X.env.cells.lookup y.1 = some c := fun y hy e => by
  rcases L.free y hy e with k | k
  · exact ok.has _ (.inl k)
  · exact ok.has _ (.inr k)
/-- the context of the lambda's body; nothing is let out -/
def lamC (X : Cx) (A : Around) (outer : List Env) (s : Shared) (H : Hp) (scope : Scope) (f c' : Addr) : Cx where
  prog := X.prog
  w := X.w
  K := X.K
  mg := X.mg
  base := X.base
  A := A.deeper (lamEnv X scope s.heap.objs.size f c')
  N := X.N
  s_0 := s
  H_0 := H
  env := lamEnv X scope s.heap.objs.size f c'
  outer := outer
  stack := lamEnv X scope s.heap.objs.size f c' :: outer
  ex := []
  fn := fun _ => false
  calm := true
  pn := []
  xe := fun _ _ => False
section
variable {X : Cx} {pins : List (Addr × Obj)} {σ : L2.St} {H : Hp} {s : Shared}
theorem lam1_start {A : Around} {scope : Scope} {f c' : Addr} {h₁ : Heap} {tk i : Nat} {a : Str} {v : V} {u : Value} (I : Inv X pins σ H s) (L : Lam1 X.env.scope scope a) (e0 : Env0 X.prog X.w X.K X.mg X.base A X.stack s H) (hd : A.handled = none)
    (hN : X.N.Nodup) (hi : X.N[i]? = some a) (ru : RelV v u) (hns : h₁.Ns s.heap.objs.size fun y => ([(a, u)] : List (Str × Value)).reverse.lookup y) (kp : ∀ b o, s.heap.get? b = some o → h₁.get? b = some o) :
    Inv (lamC X A X.stack s H scope f c') [] (σ.set i (some v)) H { s with heap := h₁, toks := tk } := by
  have hfree := L.has I.ok
  have cm : ∀ {y c}, (cloFrom X.env.cells scope.names []).lookup y = some c → X.env.cells.lookup y = some c := fun {y c} e => by
    rcases cloFrom_mem (PySem.mem_of_lookup e) with hm | ⟨h1, h2⟩
    · cases hm
    · obtain ⟨c1, hc⟩ := hfree _ h1 rfl
      have hc : X.env.cells.lookup y = some c1 := hc
      have e2 : c = c1 := by
        rw [h2, hc] <;> rfl
      rw [e2]
      exact hc
  have look : ∀ {y}, scope.names.lookup y = some .free → ∃ c, (cloFrom X.env.cells scope.names []).lookup y = some c := fun {y} hl => by
    have hy : (y, NameKind.free) ∈ scope.names := PySem.mem_of_lookup hl
    exact mem_lookup (cloFrom_has (cells := X.env.cells) (acc := []) hy)
  have cellK : ∀ {c : Addr} {v : Option Value}, s.heap.IsCell c v → h₁.IsCell c v := fun {c v} ⟨o, ho, hd⟩ => ⟨_, kp _ _ ho, hd⟩
  have noA : ∀ b : Addr, b ∉ (lamC X A X.stack s H scope f c').ex := fun b z => absurd (show b ∈ ([] : List Addr) from z) (by simp)
  have hiσ : i < σ.length := by rw [I.len]; exact (List.getElem?_eq_some_iff.mp hi).1
  refine ⟨⟨e0.mod, L.kind, rfl, rfl, Nat.le_refl _, fun y z c e1 e2 => I.ok.inj y z c (cm e1) (cm e2), fun y hy => ?_, fun y c z _ => ?_, fun _ => hd, Around.frames_deeper e0.frames, .inr ⟨rfl, rfl⟩, fun b z => absurd z (noA b), e0.bs, e0.bsz, fun b _ _ => noA b, fun b z => absurd z (noA b), e0.funs, e0.frf⟩,
    rfl, e0.bare, Un.kept kp, ⟨_, hns, fun j y w e1 e2 e3 => ?_⟩, fun y c e => ?_, e0.hok.fresh (Nat.le_refl _), fun y c e => ?_, fun q hq => absurd (show q ∈ ([] : List (Addr × Obj)) ++ [] from hq) (by simp), e0.hok.kept kp, by rw [List.length_set]; exact I.len⟩
  · have hy : scope.names.lookup y = some .cell ∨ scope.names.lookup y = some .free := hy
    rcases hy with hy | hy
    · exact absurd rfl (L.own _ (PySem.mem_of_lookup hy)).1
    · exact look hy
  · have z : false = true := z
    cases z
  · have e1 : X.N[j]? = some y := e1
    have e3 : Vis scope y := e3
    rcases e3 with k | k | k
    · have hy : y = a := (L.own _ (PySem.mem_of_lookup k)).2 rfl
      subst hy
      have hj : j = i := nodup_ix hN e1 hi
      subst hj
      rw [List.getElem?_set_self hiσ] at e2
      cases e2
      exact ⟨u, ru, .inl ⟨k, by simp⟩⟩
    · exact absurd rfl (L.own _ (PySem.mem_of_lookup k)).1
    · have hya : y ≠ a := fun z => by
        rw [z, L.par] at k
        cases k
      have hj : i ≠ j := fun z => by
        subst z
        rw [hi] at e1
        exact hya (Option.some.inj e1).symm
      rw [List.getElem?_set_ne hj] at e2
      obtain ⟨m, hn, hl⟩ := I.loc
      have hvis : Vis X.env.scope y := (L.free _ (PySem.mem_of_lookup k) rfl).elim (fun k => .inr (.inl k)) (fun k => .inr (.inr k))
      obtain ⟨w', r, q⟩ := hl j y w e1 e2 hvis
      obtain ⟨c2, h2⟩ := look k
      refine ⟨w', r, .inr ⟨.inr k, c2, h2, ?_⟩⟩
      have c1 := cm h2
      rcases q with ⟨k', _⟩ | ⟨_, c3, e', z⟩
      · have k' : X.env.scope.names.lookup y = some .local := k'
        rcases L.free _ (PySem.mem_of_lookup k) rfl with k2 | k2 <;> rw [show X.env.scope.names.lookup y = _ from k2] at k' <;> cases k'
      · rw [c1] at e'
        cases e'
        exact cellK z
  · obtain ⟨w', z⟩ := I.cell y c (cm e)
    exact ⟨w', cellK z⟩
  · obtain ⟨v, o, ho, hd⟩ := I.cell y c (cm e)
    exact I.freeC y c (cm e)
/-- the lambda called, within the def that made it -/
theorem lam1_call {A : Around} {f c' : Addr} {pm ctv : Value} {params : Arguments} {body : Expr} {scope : Scope} {i : Nat} {a : Str} {v : V} {u : Value} {tb : TE} {Q : VK} (I : Inv X pins σ H s) (L : Lam1 X.env.scope scope a)
    (hf : s.heap.get? f = some (PySem.W.kla_obj "<lambda>" (X.env.qual ++ "<lambda>") params body scope (cloFrom X.env.cells scope.names []) pm c' ctv)) (hco : H c' = some (CodeO c' (X.env.qual ++ "<lambda>")))
    (hbind : bindArgs (PySem.W.kla_fn "<lambda>" (X.env.qual ++ "<lambda>") params body scope (cloFrom X.env.cells scope.names []) pm (.ref c') ctv) ⟨[u], []⟩ = pure [(a, u)])
    (e0 : Env0 X.prog X.w X.K X.mg X.base A X.stack s H) (hd : A.handled = none) (hdp : A.depth < recursionLimit) (hN : X.N.Nodup) (hi : X.N[i]? = some a) (ru : RelV v u)
    (hbody : PE (lamC X A X.stack s H scope f c') body tb) (ht : tb (σ.set i (some v)) H Q) :
    wpAny (model X.prog X.w) A (call (.ref f) [u]) (EP X pins σ Q) (fun _ _ => False) s := by
  obtain ⟨⟨oc, vs, t, hoc, hdc, hvc⟩, _, _⟩ := I.hok c' _ hco
  have rc : codeAny (model X.prog X.w) A (.call (.ref f) ⟨[u], []⟩) (CR C8.CX0 X.stack X.prog X.w H s Q C8.E0) s := by
    refine PySem.W.kla_callFunE hdp hf rfl L.co L.gen rfl ⟨c', oc, vs, t, rfl, hoc, hdc, hvc⟩ ?_
    rw [hbind]
    refine wpAny_pure (wpAny_newFunctionEnv (fun y hy => (L.own y hy).1) (fun y hy => ?_) (fun h₁ hns hsb => ⟨I.nolimit.fresh _ hsb, ?_⟩) L.kind)
    · have e : y = (a, u) := by simpa using hy
      subst e
      exact L.par
    show codeAny _ _ (.expr body (lamEnv X scope s.heap.objs.size f c')) _ _
    have kp : ∀ b o, s.heap.get? b = some o → h₁.get? b = some o := fun b o e => hsb.extBut b o (Nat.ne_of_lt (Heap.lt_size e)) (Heap.get?_push_of_some _ e)
    have J : Inv (lamC X A X.stack s H scope f c') [] (σ.set i (some v)) H { s with heap := h₁, toks := s.toks + ([(a, u)] : List (Str × Value)).length } := lam1_start I L e0 hd hN hi ru hns kp
    refine PySem.W.kla_codeExpr (wpAny_mono (hbody.run [] _ _ H Q J ht) (fun v s' hq => ?_) fun e s' hq => False.elim hq)
    obtain ⟨w', H', J', rv, q⟩ := hq
    exact ⟨w', H', J'.os, J'.bare, J'.base, J'.hok, rv, q⟩
  refine wpAny_call (codeAny_mono rc fun r s' hq => ?_)
  cases r with
  | error e => exact (show False from hq).elim
  | ok fl =>
    cases fl with
    | ret u => exact I.after hq
    | next => exact False.elim hq
    | brk => exact False.elim hq
    | cont => exact False.elim hq
end
/-! ### min(xs, key=f) -/
section
variable {X : Cx} {pins : List (Addr × Obj)} {σ : L2.St} {l f It S : Addr} {xs : List V} {R : Result → Shared → Prop}
theorem kmin_loop (kf : Nat → Int) (J : Nat → Hp → Prop) (hc : X.calm = true) (hSI : S ≠ It) (hl : ∀ i H, J i H → SqL X.K H l xs)
    (turn : ∀ (i : Nat) (v : V) (u : Value) (pins' : List (Addr × Obj)) (s : Shared) (H : Hp), xs[i]? = some v → RelV v u → Inv X pins' σ H s → J i H → wpAny (model X.prog X.w) X.A.in1 (call (.ref f) [u]) (EP X pins' σ fun w H' => w = .int (kf i) ∧ J (i + 1) H') (fun _ _ => False) s)
    (hR : ∀ (i : Nat) (v : V) (u : Value) (H : Hp) (s : Shared), xs[i]? = some v → RelV v u → (∀ j, j < xs.length → kf i ≤ kf j ∧ (j < i → kf i < kf j)) → J xs.length H → Inv X pins σ H s → R (.ok (.ret u)) s) :
    ∀ (r j i : Nat) (s : Shared) (H : Hp) (vb : V) (ub : Value) (tb : Tok) (c : Nat), xs.length - (j + 1) = r → j + 1 ≤ xs.length → Inv X pins σ H s → J (j + 1) H → s.heap.get? S = some (seqObj "list" #[ub, .int (kf i) tb] c) → s.heap.IsListIter It l (j + 1) →
      FpOk X pins H S → FpOk X pins H It → xs[i]? = some vb → RelV vb ub → i ≤ j → (∀ j', j' ≤ j → kf i ≤ kf j' ∧ (j' < i → kf i < kf j')) →
      codeAny (model X.prog X.w) X.A (.builtin "min.loop" ⟨[.ref It, .ref f, .ref S], []⟩) R s := by
  have hname : (toString "min" ++ toString ".loop" : String) = "min.loop" := by decide
  intro r
  induction r with
  | zero =>
    intro j i s H vb ub tb c hr hj I hJ hS hit fS fI hvb rb hij hbest
    have hin : j + 1 = xs.length := by omega
    obtain ⟨its, rv, p, hz⟩ := I.list (hl _ _ hJ)
    have hlv := rv.length
    obtain ⟨f0, f1, f2, f3, f4, f5⟩ := fI
    obtain ⟨g0, g1, g2, g3, g4, g5⟩ := fS
    refine codeAny_builtin PySem.F.entry_min_loop ?_
    rw [Around.under_plainId PySem.F.plain_min_loop _]
    show wpAny _ X.A.in1 (seqItems? (.ref S) >>= _) _ _ _
    refine wpAny_bind (wpAny_seqItems hS rfl ?_)
    show wpAny _ X.A.in1 (tryCatch (pyNext (.ref It)) _ >>= _) _ _ _
    refine wpAny_bind (wpAny_tryCatch (wpAny_pyNext_list_end (show X.A.in1.handled = none from I.ok.hd hc) hit p.isList (by simp; omega) fun h' eb => ?_))
    have I1 : Inv X pins σ H { s with heap := h' } := I.turned (t' := s.toks) (fun b o hb e => eb b o hb e) f0 f1 f3 f4 f5
    have hS' := eb S _ hSI hS
    show wpAny _ X.A.in1 (updateSeq S (fun _ => #[]) >>= _) _ _ _
    refine wpAny_bind ?_
    refine wpAny_updateSeq hS' rfl (wpAny_bind (wpAny_letGo (wpAny_pure ?_)))
    have s1 := Heap.SameBut.update h' S (Obj.mapSeq fun _ => (#[] : Array Value))
    exact hR i vb ub H _ hvb rb (fun j' hj' => hbest j' (by omega)) (by rw [← hin]; exact hJ) (I1.turned (t' := s.toks) (fun b o hb e => (s1.2 b hb).trans e) g0 g1 g3 g4 g5)
  | succ r ih =>
    intro j i s H vb ub tb c hr hj I hJ hS hit fS fI hvb rb hij hbest
    have hlt : j + 1 < xs.length := by omega
    obtain ⟨its, rv, p, hz⟩ := I.list (hl _ _ hJ)
    have hlv := rv.length
    obtain ⟨f0, f1, f2, f3, f4, f5⟩ := id fI
    obtain ⟨g0, g1, g2, g3, g4, g5⟩ := id fS
    obtain ⟨v, hv⟩ : ∃ v, xs[j + 1]? = some v := ⟨_, List.getElem?_eq_getElem hlt⟩
    obtain ⟨u, hu, ru⟩ := rv.get hv
    refine codeAny_builtin PySem.F.entry_min_loop ?_
    rw [Around.under_plainId PySem.F.plain_min_loop _]
    show wpAny _ X.A.in1 (seqItems? (.ref S) >>= _) _ _ _
    refine wpAny_bind (wpAny_seqItems hS rfl ?_)
    show wpAny _ X.A.in1 (tryCatch (pyNext (.ref It)) _ >>= _) _ _ _
    refine wpAny_bind (wpAny_tryCatch (wpAny_pyNext_list_item hit p.isList (x := u) (by simpa using hu) fun h' st' sb => ?_))
    have I1 : Inv X pins σ H { s with heap := h' } := I.turned (t' := s.toks) (fun b o hb e => (sb.2 b hb).trans e) f0 f1 f3 f4 f5
    have hS1 : h'.get? S = some (seqObj "list" #[ub, .int (kf i) tb] c) := (sb.2 S hSI).trans hS
    obtain ⟨oI, hoI, hoc, hod⟩ := id st'
    have I2 := I1.pinned (fp := [S, It]) (fun b hb => by
      rcases List.mem_cons.mp hb with rfl | hb
      · exact ⟨g0, g1, g2, g3, g4, g5⟩
      · rw [List.mem_singleton.mp hb]; exact ⟨f0, f1, f2, f3, f4, f5⟩) (fun b hb => by
      rcases List.mem_cons.mp hb with rfl | hb
      · exact ⟨_, hS1, fun v z => by cases z⟩
      · rw [List.mem_singleton.mp hb]; exact ⟨oI, hoI, fun v z => by rw [hod] at z; cases z⟩)
    show wpAny _ X.A.in1 (tryCatch (holding [u] (call (.ref f) [u])) _ >>= _) _ _ _
    refine wpAny_bind (wpAny_tryCatch (wpAny_holding (wpAny_mono (turn (j + 1) v u _ _ H hv ru I2 hJ) (fun x s2 he => ?_) fun _ _ hF => hF.elim)))
    obtain ⟨w, H2, I3, rw', ew, hJ2⟩ := he
    subst ew
    obtain ⟨t2, rfl⟩ := rw'
    have pinS := I3.pin (S, _) (List.mem_append_right _ (List.mem_append_right _ (mem_pinsAt (by simp) hS1)))
    have pinI := I3.pin (It, _) (List.mem_append_right _ (List.mem_append_right _ (mem_pinsAt (by simp) hoI)))
    have I4 := I3.unpinned
    have fS2 : FpOk X pins H2 S := ⟨pinS.2.1, g1, g2, g3, g4, g5⟩
    have fI2 : FpOk X pins H2 It := ⟨pinI.2.1, f1, f2, f3, f4, f5⟩
    have hit2 : s2.heap.IsListIter It l (j + 1 + 1) := ⟨oI, pinI.1, hoc, hod⟩
    have hS2 : s2.heap.get? S = some (seqObj "list" #[ub, .int (kf i) tb] c) := pinS.1
    show wpAny _ X.A.in1 (tryCatch (holding [u, .int (kf (j + 1)) t2] (richCompare .Lt (.int (kf (j + 1)) t2) (.int (kf i) tb) >>= _)) _ >>= _) _ _ _
    refine wpAny_bind (wpAny_tryCatch (wpAny_holding (wpAny_bind (CmpOf.ints_lt (prog := X.prog) (w := X.w) (A := X.A.in1) (P := fun i v => ∃ t, v = .int (kf i) t) kf (fun i v h => h) (j + 1) i _ _ _ _ _ ⟨t2, rfl⟩ ⟨tb, rfl⟩ ?_))))
    refine wpAny_bind (wpAny_holding (wpAny_truthy_bool ?_))
    refine wpAny_bind (wpAny_letGo (wpAny_pure ?_))
    by_cases hb' : kf (j + 1) < kf i
    · have s1 := Heap.SameBut.update s2.heap S (Obj.mapSeq fun _ => #[u, .int (kf (j + 1)) t2])
      obtain ⟨c2, hc2⟩ : ∃ c2, (s2.heap.update S (Obj.mapSeq fun _ => #[u, .int (kf (j + 1)) t2])).get? S = some (seqObj "list" #[u, .int (kf (j + 1)) t2] c2) := ⟨_, get?_update_seq hS2 fun _ => #[u, .int (kf (j + 1)) t2]⟩
      simp only [hb', decide_true, if_true]
      refine wpAny_bind ?_
      refine wpAny_updateSeq hS2 rfl (wpAny_bind (wpAny_letGo ?_))
      rw [hname]
      have I5 := I4.turned (t' := s2.toks) (fun b o hb e => (s1.2 b hb).trans e) fS2.1 g1 g3 g4 g5
      refine wpAny_pure ⟨plainId_quiet PySem.F.plain_min_loop _, ih (j + 1) (j + 1) _ H2 v u t2 c2 (by omega) hlt I5 hJ2 hc2 ⟨oI, (s1.2 It hSI.symm).trans pinI.1, hoc, hod⟩ fS2 fI2 hv ru (Nat.le_refl _) fun j' hj' => ?_⟩
      by_cases e : j' = j + 1
      · subst e
        exact ⟨by omega, fun _ => by omega⟩
      · have hb1 := hbest j' (by omega)
        have hb2 := hb1.1
        exact ⟨by omega, fun _ => by omega⟩
    · simp only [hb', decide_false, Bool.false_eq_true, if_false]
      refine wpAny_bind (wpAny_letGo ?_)
      rw [hname]
      refine wpAny_pure ⟨plainId_quiet PySem.F.plain_min_loop _, ih (j + 1) i _ H2 vb ub tb c (by omega) hlt I4 hJ2 hS2 hit2 fS2 fI2 hvb rb (by omega) fun j' hj' => ?_⟩
      by_cases e : j' = j + 1
      · subst e
        exact ⟨by omega, fun _ => by omega⟩
      · exact hbest j' (by omega)
theorem kmin_call {s : Shared} {H : Hp} {Q : VK} (kf : Nat → Int) (J : Nat → Hp → Prop) (hc : X.calm = true) (I : Inv X pins σ H s) (h0 : J 0 H) (hne : 0 < xs.length) (hl : ∀ i H, J i H → SqL X.K H l xs)
    (turn : ∀ (i : Nat) (v : V) (u : Value) (pins' : List (Addr × Obj)) (s : Shared) (H : Hp), xs[i]? = some v → RelV v u → Inv X pins' σ H s → J i H → wpAny (model X.prog X.w) X.A.in1 (call (.ref f) [u]) (EP X pins' σ fun w H' => w = .int (kf i) ∧ J (i + 1) H') (fun _ _ => False) s)
    (hQ : ∀ (i : Nat) (v : V) (H : Hp), xs[i]? = some v → (∀ j, j < xs.length → kf i ≤ kf j ∧ (j < i → kf i < kf j)) → J xs.length H → Q v H) :
    wpAny (model X.prog X.w) X.A (call (.builtin "min") [.ref l] [(Str.ofString "key", .ref f)]) (EP X pins σ Q) X.xe s := by
  have hname : (toString "min" ++ toString ".loop" : String) = "min.loop" := by decide
  obtain ⟨its, rv, p, hz⟩ := I.list (hl _ _ h0)
  have hlv := rv.length
  refine kmk_tree PySem.F.kind_min PySem.F.plain_min PySem.F.entry_min (kmk_min_key _ _) ?_
  show wpAny _ X.A.in1 (Builtin.Builtins.bindParams "min" ["key", "default"] 0 ⟨[], [(Str.ofString "key", .ref f)]⟩ >>= _) _ _ s
  refine wpAny_bind (wpAny_of_eq (show Builtin.Builtins.bindParams "min" ["key", "default"] 0 ⟨[], [(Str.ofString "key", .ref f)]⟩ = pure [some (.ref f), none] from rfl) ?_)
  refine wpAny_bind (wpAny_pure ?_)
  refine wpAny_bind (wpAny_pyIter_list p.isList ?_)
  refine wpAny_bind (wpAny_newList ?_ (Nat.zero_le _))
  rw [hname]
  have kk : ∀ b o, s.heap.get? b = some o → ((s.heap.push { cls := .type "list_iterator", data := .fields #[.ref l, .int 0 0] }).push (seqObj "list" #[] 0)).get? b = some o := fun b o e => Heap.get?_push_of_some _ (Heap.get?_push_of_some _ e)
  have gI : ((s.heap.push { cls := .type "list_iterator", data := .fields #[.ref l, .int 0 0] }).push (seqObj "list" #[] 0)).get? s.heap.objs.size = some { cls := .type "list_iterator", data := .fields #[.ref l, .int 0 0] } :=
    Heap.get?_push_of_some _ (Heap.get?_push_size _ rfl)
  have hS : (s.heap.push { cls := .type "list_iterator", data := .fields #[.ref l, .int 0 0] }).objs.size = s.heap.objs.size + 1 := size_push' ..
  have gS : ((s.heap.push { cls := .type "list_iterator", data := .fields #[.ref l, .int 0 0] }).push (seqObj "list" #[] 0)).get? (s.heap.push { cls := .type "list_iterator", data := .fields #[.ref l, .int 0 0] }).objs.size = some (seqObj "list" #[] 0) := Heap.get?_push_size _ rfl
  have hSI : (s.heap.push { cls := .type "list_iterator", data := .fields #[.ref l, .int 0 0] }).objs.size ≠ s.heap.objs.size := by rw [hS]; exact Nat.ne_of_gt (Nat.lt_succ_self _)
  have I0 : Inv X pins σ H { s with heap := (s.heap.push { cls := .type "list_iterator", data := .fields #[.ref l, .int 0 0] }).push (seqObj "list" #[] 0) } := I.kept (t' := s.toks) kk
  have fI : FpOk X pins H s.heap.objs.size := I.fpOk (Nat.le_refl _) (I.hok.fresh (Nat.le_refl _))
  have fS : FpOk X pins H (s.heap.push { cls := .type "list_iterator", data := .fields #[.ref l, .int 0 0] }).objs.size := I.fpOk (by rw [hS]; exact Nat.le_succ _) (I.hok.fresh (by rw [hS]; exact Nat.le_succ _))
  obtain ⟨g0, g1, g2, g3, g4, g5⟩ := id fS
  obtain ⟨f0, f1, f2, f3, f4, f5⟩ := id fI
  obtain ⟨v, hv⟩ : ∃ v, xs[0]? = some v := ⟨_, List.getElem?_eq_getElem hne⟩
  obtain ⟨u, hu, ru⟩ := rv.get hv
  obtain ⟨its', rv', p', hz'⟩ := I0.list (hl _ _ h0)
  obtain ⟨u', hu', ru'⟩ := rv'.get hv
  refine wpAny_pure ⟨plainId_quiet PySem.F.plain_min_loop _, ?_⟩
  refine codeAny_builtin PySem.F.entry_min_loop ?_
  rw [Around.under_plainId PySem.F.plain_min_loop _]
  show wpAny _ X.A.in1 (seqItems? (.ref _) >>= _) _ _ _
  refine wpAny_bind (wpAny_seqItems gS rfl ?_)
  show wpAny _ X.A.in1 (tryCatch (pyNext (.ref s.heap.objs.size)) _ >>= _) _ _ _
  refine wpAny_bind (wpAny_tryCatch (wpAny_pyNext_list_item (i := 0) ⟨_, gI, rfl, rfl⟩ p'.isList (x := u') (by simpa using hu') fun h' st' sb => ?_))
  have I1 : Inv X pins σ H { s with heap := h' } := I0.turned (t' := s.toks) (fun b o hb e => (sb.2 b hb).trans e) f0 f1 f3 f4 f5
  have hS1 := (sb.2 _ hSI).trans gS
  obtain ⟨oI, hoI, hoc, hod⟩ := id st'
  have I2 := I1.pinned (fp := [_, _]) (fun b hb => by
      rcases List.mem_cons.mp hb with rfl | hb
      · exact fS
      · rw [List.mem_singleton.mp hb]; exact fI) (fun b hb => by
      rcases List.mem_cons.mp hb with rfl | hb
      · exact ⟨_, hS1, fun v z => by cases z⟩
      · rw [List.mem_singleton.mp hb]; exact ⟨oI, hoI, fun v z => by rw [hod] at z; cases z⟩)
  show wpAny _ X.A.in1 (tryCatch (holding [u'] (call (.ref f) [u'])) _ >>= _) _ _ _
  refine wpAny_bind (wpAny_tryCatch (wpAny_holding (wpAny_mono (turn 0 v u' _ _ H hv ru' I2 h0) (fun x s2 he => ?_) fun _ _ hF => hF.elim)))
  obtain ⟨w, H2, I3, rw', ew, hJ2⟩ := he
  subst ew
  obtain ⟨t2, rfl⟩ := rw'
  have pinS := I3.pin (_, _) (List.mem_append_right _ (List.mem_append_right _ (mem_pinsAt (by simp) hS1)))
  have pinI := I3.pin (_, _) (List.mem_append_right _ (List.mem_append_right _ (mem_pinsAt (by simp) hoI)))
  have I4 := I3.unpinned
  have fS2 : FpOk X pins H2 (s.heap.push { cls := .type "list_iterator", data := .fields #[.ref l, .int 0 0] }).objs.size := ⟨pinS.2.1, g1, g2, g3, g4, g5⟩
  have fI2 : FpOk X pins H2 s.heap.objs.size := ⟨pinI.2.1, f1, f2, f3, f4, f5⟩
  have s1 := Heap.SameBut.update s2.heap (s.heap.push { cls := .type "list_iterator", data := .fields #[.ref l, .int 0 0] }).objs.size (Obj.mapSeq fun _ => #[u', .int (kf 0) t2])
  obtain ⟨c2, hc2⟩ : ∃ c2, (s2.heap.update (s.heap.push { cls := .type "list_iterator", data := .fields #[.ref l, .int 0 0] }).objs.size (Obj.mapSeq fun _ => #[u', .int (kf 0) t2])).get? (s.heap.push { cls := .type "list_iterator", data := .fields #[.ref l, .int 0 0] }).objs.size = some (seqObj "list" #[u', .int (kf 0) t2] c2) := ⟨_, get?_update_seq pinS.1 fun _ => #[u', .int (kf 0) t2]⟩
  show wpAny _ X.A.in1 (updateSeq _ (fun _ => #[u', .int (kf 0) t2]) >>= _) _ _ _
  refine wpAny_bind ?_
  refine wpAny_updateSeq pinS.1 rfl ?_
  rw [hname]
  have I5 := I4.turned (t' := s2.toks) (fun b o hb e => (s1.2 b hb).trans e) fS2.1 g1 g3 g4 g5
  refine wpAny_pure ⟨plainId_quiet PySem.F.plain_min_loop _, kmin_loop kf J hc hSI hl turn (fun i v u H s hv ru hb hJ I => ?_) _ 0 0 _ H2 v u' t2 c2 rfl hne I5 hJ2 hc2 ⟨oI, (s1.2 _ hSI.symm).trans pinI.1, hoc, hod⟩ fS2 fI2 hv ru' (Nat.le_refl _) fun j' hj' => ?_⟩
  · exact ⟨v, H, I, ru, hQ i v H hv hb hJ⟩
  · have e : j' = 0 := by omega
    subst e
    exact ⟨by omega, fun h => absurd h (Nat.lt_irrefl _)⟩
end
/-! ### the lambda as a tracked object -/
def LamO (f c' : Addr) (q : Str) (params : Arguments) (body : Expr) (scope : Scope) (clos : List (Str × Addr)) : HO := .ext fun h => ∃ pm ctv, h.get? f = some (PySem.W.kla_obj "<lambda>" q params body scope clos pm c' ctv)
theorem lamO_ok {P : Program} {w : World} {H : Hp} {h : Heap} {f c' : Addr} {q : Str} {params : Arguments} {body : Expr} {scope : Scope} {clos : List (Str × Addr)} {pm ctv : Value} (e : h.get? f = some (PySem.W.kla_obj "<lambda>" q params body scope clos pm c' ctv)) :
    ObjOk P w H h f (LamO f c' q params body scope clos) :=
  ⟨⟨pm, ctv, e⟩, ⟨_, e⟩, fun h1 h2 ⟨pm, ctv, z⟩ k => ⟨pm, ctv, k _ z⟩⟩
theorem lamO_at {P : Program} {w : World} {H : Hp} {h : Heap} {f c' : Addr} {q : Str} {params : Arguments} {body : Expr} {scope : Scope} {clos : List (Str × Addr)} (hok : HOk P w H h) (e : H f = some (LamO f c' q params body scope clos)) :
    ∃ pm ctv, h.get? f = some (PySem.W.kla_obj "<lambda>" q params body scope clos pm c' ctv) := by
  have x : ObjOk P w H h f (.ext fun h => ∃ pm ctv, h.get? f = some (PySem.W.kla_obj "<lambda>" q params body scope clos pm c' ctv)) := hok f _ e
  exact x.1
section
variable {X : Cx} {pins : List (Addr × Obj)} {σ : L2.St} {H : Hp} {s : Shared}
/-- an object that was not tracked is from now on -/
theorem track {f : Addr} {o : HO} (I : Inv X pins σ H s) (F : FpOk X pins H f) (ok : ObjOk X.prog X.w (upd H f o) s.heap f o) : Inv X pins σ (upd H f o) s := by
  obtain ⟨f0, f1, f2, f3, f4, f5⟩ := F
  have ne : ∀ b u, H b = some u → b ≠ f := fun b u e z => by rw [z, f0] at e; cases e
  exact I.step (h' := s.heap) (g' := s.gens) (d' := s.drawn) (t' := s.toks) (ch := [f]) (fun b hb => by rw [List.mem_singleton.mp hb]; exact ⟨f3, f1, f4, f5⟩) (fun b u _ _ _ e _ => e) (fun b u _ _ _ e _ => ⟨u.slots, e⟩)
    (fun b u hc e n => by rw [upd_ne (fun z => hc (by simp [z]))]; exact n) (fun b u _ e => ⟨u, e⟩) (fun b xs e => by rw [upd_ne (ne b _ e)]; exact e) (fun b u v e => by rw [upd_ne (ne b _ e)]; exact e)
    (fun b ps e => ⟨#[], by rw [upd_ne (ne b _ e), e]; simp⟩) (fun m hm => hm) (fun b u e => by
      by_cases hb : b = f
      · subst hb
        rw [upd_same] at e
        cases e
        exact ok
      · rw [upd_ne hb] at e
        exact (I.hok b u e).stay (fun c v _ q => q) (fun c q => by rw [upd_ne (ne c _ q)]; exact q) fun c xs q => by rw [upd_ne (ne c _ q)]; exact q) I.bare
/-- as lam_make2; the lambda is a new object -/
def ExtT (H H' : Hp) : Prop := ∀ b o, H b = some o → H' b = some o ∨ ∃ ps ps', o = .tbl ps ∧ H' b = some (.tbl ps')
theorem ExtT.of {H H' : Hp} (h : ∀ b o, H b = some o → H' b = some o) : ExtT H H' := fun b o e => .inl (h b o e)
theorem ExtT.trans {H H1 H2 : Hp} (a : ExtT H H1) (b : ExtT H1 H2) : ExtT H H2 := fun c o e => by
  rcases a c o e with q | ⟨ps, ps', rfl, q⟩
  · exact b c o q
  · rcases b c _ q with q2 | ⟨_, ps2, _, q2⟩ <;> exact .inr ⟨ps, _, rfl, q2⟩
theorem lam_made {T : List (Addr × Str)} {c P : Addr} {params : Arguments} {body : Expr} {scope : Scope} {pos : Pos} {E : Value → Shared → Prop} {Q : Value → Shared → Prop} (I : Inv X pins σ H s) (TB : TabB X.base X.mg c P) (hcode : X.env.code = .ref c)
    (hm : (P, X.env.qual ++ "<lambda>") ∈ T) (hu : ∀ p ∈ T, p.1 = P → p.2 = X.env.qual ++ "<lambda>") (hT : Tabs T H) (hdef : defaultsOf params X.env = ([], [])) (hfree : ∀ y ∈ scope.names, y.2 = .free → ∃ c, X.env.cells.lookup y.1 = some c)
    (k : ∀ (f c' : Addr) (pm ctv : Value) (H1 : Hp) (s' : Shared), Inv X pins σ H1 s' → ExtT H H1 → Tabs T H1 → s.heap.objs.size ≤ f →
      s'.heap.get? f = some (PySem.W.kla_obj "<lambda>" (X.env.qual ++ "<lambda>") params body scope (cloFrom X.env.cells scope.names []) pm c' ctv) → H1 f = none → H1 c' = some (CodeO c' (X.env.qual ++ "<lambda>")) → Q (.ref f) s') :
    wpAny (model X.prog X.w) X.A (eval (.Lambda params body scope pos) X.env) Q E s := by
  obtain ⟨qs, hP, ht, ha⟩ := hT _ hm
  refine PySem.W.kla_eval hdef ?_
  have bP := TB.bm.keeps I.bk
  have hP2 : s.heap.get? P = some { cls := .none, data := .fields qs } := I.hok P _ hP
  cases hc : codeAmong pos qs.toList with
  | some cv =>
    obtain ⟨c', e, hco⟩ := ha pos cv hc
    subst e
    refine PySem.W.kla_makeFunctionHit (mg := X.mg) (c := c) (P := P) (ps := qs) (closure_ok hfree) I.ok.glob (I.mod.glob.keeps I.bk) hcode (TB.code.keeps I.bk) hP2 ht hc bP fun ctv g tk hx hsz => ?_
    have J : Inv X pins σ H { s with heap := g.push (PySem.W.kla_obj "<lambda>" (X.env.qual ++ "<lambda>") params body scope (cloFrom X.env.cells scope.names []) ((X.mg "__name__").getD .none) c' ctv), toks := tk } := I.kept fun b o e => Heap.get?_push_of_some _ (hx b o e)
    exact k g.objs.size c' ((X.mg "__name__").getD .none) ctv H _ J (ExtT.of fun _ _ e => e) hT hsz (Heap.get?_push_size _ rfl) (I.hok.fresh hsz) hco
  | none =>
    refine PySem.W.kla_makeFunction (mg := X.mg) (c := c) (P := P) (ps := qs) (closure_ok hfree) I.ok.glob (I.mod.glob.keeps I.bk) hcode (TB.code.keeps I.bk) hP2 ht hc TB.gP bP fun c' ctv g tk hx hge hlt hrec htb => ?_
    obtain ⟨c2, oc, vs, t, e2, hoc, hd, hv⟩ := hrec
    cases e2
    have hsz : s.heap.objs.size ≤ g.objs.size := Nat.le_trans hge (Nat.le_of_lt hlt)
    have nC : H c' = none := I.hok.fresh hge
    have J := inv_table (t' := tk) (more := #[rawInt pos.line, rawInt pos.col, .ref c']) (h' := g.push (PySem.W.kla_obj "<lambda>" (X.env.qual ++ "<lambda>") params body scope (cloFrom X.env.cells scope.names []) ((X.mg "__name__").getD .none) c' ctv)) I hP
      (fun b o hb e => Heap.get?_push_of_some _ (hx b o hb e)) (Heap.get?_push_of_some _ htb) hge ⟨oc, vs, t, Heap.get?_push_of_some _ hoc, hd, hv⟩
    have hE : ExtN H (upd (upd H P (.tbl (qs ++ #[rawInt pos.line, rawInt pos.col, .ref c']))) c' (CodeO c' (X.env.qual ++ "<lambda>"))) := fun b o e n => by
      rw [upd_ne (ne_of_none e nC), upd_ne (fun z => n qs (Option.some.inj (e.symm.trans (by rw [z]; exact hP))))]; exact e
    have hT3 : ExtT H (upd (upd H P (.tbl (qs ++ #[rawInt pos.line, rawInt pos.col, .ref c']))) c' (CodeO c' (X.env.qual ++ "<lambda>"))) := fun b o e => by
      by_cases hb : b = P
      · rw [hb, hP] at e
        cases e
        exact .inr ⟨_, _, rfl, by rw [hb, upd_ne (ne_of_none hP nC), upd_same]⟩
      · exact .inl (by rw [upd_ne (ne_of_none e nC), upd_ne hb]; exact e)
    have eL : (qs ++ #[rawInt pos.line, rawInt pos.col, .ref c']).toList = qs.toList ++ [rawInt pos.line, rawInt pos.col, .ref c'] := by simp
    refine k g.objs.size c' ((X.mg "__name__").getD .none) ctv _ _ J hT3 (fun p hp => ?_) hsz (Heap.get?_push_size _ rfl) ?_ upd_same
    · by_cases hb : p.1 = P
      · rw [hu p hp hb, hb]
        refine ⟨_, by rw [upd_ne (ne_of_none hP nC), upd_same], by rw [eL]; exact PySem.TriplesOk_snoc _ _ _ _ ht, fun p' cv hcv => ?_⟩
        rw [eL] at hcv
        rcases among_app _ ht hcv with z | z
        · obtain ⟨c0, e1, e2⟩ := ha p' cv z
          exact ⟨c0, e1, hE _ _ e2 codeO_ne⟩
        · exact ⟨c', z, upd_same⟩
      · obtain ⟨ps', a1, a2, a3⟩ := hT p hp
        refine ⟨ps', by rw [upd_ne (ne_of_none a1 nC), upd_ne hb]; exact a1, a2, fun p' cv hcv => ?_⟩
        obtain ⟨c0, e1, e2⟩ := a3 p' cv hcv
        exact ⟨c0, e1, hE _ _ e2 codeO_ne⟩
    · rw [upd_ne (Nat.ne_of_gt hlt), upd_ne (Nat.ne_of_gt (Nat.lt_of_lt_of_le (Heap.lt_size hP2) hsz))]
      exact I.hok.fresh hsz
end
section
variable {X : Cx}
/-- min(xs, key=lambda a: body): J, what holds behind so many turns -/
def rMinK (X : Cx) (T : List (Addr × Str)) (i : Nat) (tb : TE) (σ : L2.St) (Q : VK) (x : V) (H1 : Hp) : Prop := Tabs T H1 ∧ ∀ H2, ExtT H1 H2 → Tabs T H2 → ∃ (l : Addr) (xs : List V) (kf : Nat → Int) (J : Nat → Hp → Prop), x = .ref l ∧ 0 < xs.length ∧ J 0 H2 ∧
  (∀ j H, J j H → SqL X.K H l xs ∧ ∀ b φ, H2 b = some (.ext φ) → H b = some (.ext φ)) ∧
  (∀ (j : Nat) v H, xs[j]? = some v → J j H → tb (σ.set i (some v)) H fun w H' => w = .int (kf j) ∧ J (j + 1) H') ∧
  ∀ (j : Nat) v H, xs[j]? = some v → (∀ k, k < xs.length → kf j ≤ kf k ∧ (k < j → kf j < kf k)) → J xs.length H → Q v H
def tMinK (X : Cx) (T : List (Addr × Str)) (i : Nat) (te tb : TE) : TE := fun σ H Q => te σ H fun x H1 => rMinK X T i tb σ Q x H1
def oneV (R : V → Hp → Prop) : List V → Hp → Prop
  | [x], H => R x H
  | _, _ => False
theorem pe_minKey {T : List (Addr × Str)} {c P : Addr} {params : Arguments} {body e : Expr} {scope : Scope} {i : Nat} {a : Str} {te tb : TE} {p lpos kpos pos : Pos} (hg : Gl X "min") (hm : X.mg "min" = none) (hc : X.calm = true) (hN : X.N.Nodup) (hi : X.N[i]? = some a) (ha : PE X e te)
    (TB : TabB X.base X.mg c P) (hcode : X.env.code = .ref c) (hmT : (P, X.env.qual ++ "<lambda>") ∈ T) (hu : ∀ p ∈ T, p.1 = P → p.2 = X.env.qual ++ "<lambda>") (hdp : X.A.depth < recursionLimit) (L : Lam1 X.env.scope scope a) (hdef : defaultsOf params X.env = ([], []))
    (hbind : ∀ (q : Str) (cl : List (Str × Addr)) (pm cv ctv u : Value), bindArgs (PySem.W.kla_fn "<lambda>" q params body scope cl pm cv ctv) ⟨[u], []⟩ = pure [(a, u)])
    (hbody : ∀ (s : Shared) (H : Hp) (f c' : Addr), PE (lamC X X.A.in1 X.stack s H scope f c') body tb)
    (he : starEach [e] X.env = [(false, eval e X.env)]) :
    PE X (.Call (.Name "min" p) [e] [⟨some "key", .Lambda params body scope lpos, kpos⟩] pos) (tMinK X T i te tb) := by
  refine ⟨fun pins s σ H Q I h => ?_⟩
  refine wpAny_Call_Name_kw (ld_blt I hg hm (show bootBuiltins "min" = some (.builtin "min") by decide +kernel) ?_ (by decide) (by decide))
  have h' : tCons te tNil σ H (oneV (rMinK X T i tb σ Q)) := h
  have e1 : backTo pos (starEach [e] X.env) = (false, eval e X.env) :: backTo pos (starEach [] X.env) := by rw [he]; rfl
  refine PyProof.Rows.callWith_kw (thn ((pa_cons ha pa_nil he).run pos pins s σ H _ I h') fun us s1 q1 => ?_) e1 (by rw [he]; rfl)
  obtain ⟨vs, H1, I1, r1, q1⟩ := q1
  obtain ⟨x, rfl⟩ : ∃ x, vs = [x] := by
    match vs, q1 with
    | [x], _ => exact ⟨x, rfl⟩
  obtain ⟨T1, q1⟩ := q1
  show wpAny _ _ (evalAll [(do let v ← eval (.Lambda params body scope lpos) X.env; standAt pos; pure v)]) _ _ s1
  refine wpAny_evalAll_cons (wpAny_bind (lam_made I1 TB hcode hmT hu T1 hdef (L.has I1.ok) fun f c' pm ctv H2 s2 I2 eN T2 hsz hf hfn hco => wpAny_bind (wpAny_standAt (wpAny_pure (wpAny_evalAll_nil ?_)))))
  have F := I1.fpOk hsz hfn
  have J0 := track I2 F (lamO_ok (H := upd H2 f (LamO f c' (X.env.qual ++ "<lambda>") params body scope (cloFrom X.env.cells scope.names []))) hf)
  have g3 : ∀ b o, H2 b = some o → upd H2 f (LamO f c' (X.env.qual ++ "<lambda>") params body scope (cloFrom X.env.cells scope.names [])) b = some o := fun b o e => by rw [upd_ne (ne_of_none e hfn)]; exact e
  obtain ⟨l, xs, kf, J, rfl, hne, h0, hJ, hturn, hQ⟩ := q1 _ (eN.trans (ExtT.of g3)) (T2.ext g3)
  obtain ⟨u, rfl, ru⟩ := vals1 r1
  obtain rfl : u = Value.ref l := ru
  show wpAny _ _ (call (.builtin "min") [.ref l] [(Str.ofString "key", .ref f)]) _ _ s2
  refine kmin_call kf J hc J0 h0 hne (fun i H hj => (hJ i H hj).1) (fun j v u pins' s H hv ru I hj => ?_) hQ
  obtain ⟨pm', ctv', hf'⟩ := lamO_at I.hok ((hJ j H hj).2 f _ upd_same)
  exact lam1_call I L hf' ((hJ j H hj).2 c' _ (by rw [upd_ne (ne_of_none hco hfn)]; exact hco)) (hbind _ _ _ _ _ _) I.env0.in1 (I.ok.hd hc) hdp hN hi ru (hbody s H f c') (hturn j v H hv hj)
end
end Lm

/-! Px3: the state of the small language and the machine's. -/
namespace Px
open PySem PySem.Spec PyProof.Rows L2

/-- what is settled for good, and where the handles lie -/
structure Wd where
  G : Hp
  io : Nat → Addr
/-- the items of a tuple that holds handles -/
inductive RTL (K : PySem.W.Frag) (m : Wd) (n : Nat) : List V → List (PyData ⊕ Nat) → Prop
  | nil : RTL K m n [] []
  | inl {v : V} {vs : List V} {d : PyData} {xs : List (PyData ⊕ Nat)} : Rp K m.G v d → RTL K m n vs xs → RTL K m n (v :: vs) (.inl d :: xs)
  | inr {k : Nat} {vs : List V} {xs : List (PyData ⊕ Nat)} : k < n → RTL K m n vs xs → RTL K m n (.ref (m.io k) :: vs) (.inr k :: xs)
/-- a value: n handles stand -/
def RD (K : PySem.W.Frag) (m : Wd) (n : Nat) (v : V) : D → Prop
  | .p d => Rp K m.G v d
  | .r k => k < n ∧ v = .ref (m.io k)
  | .s xs => ∃ a vs, v = .ref a ∧ SqL K m.G a vs ∧ RpL K m.G vs xs
  | .t xs => ∃ a vs, v = .ref a ∧ SqT K m.G a vs ∧ RTL K m n vs xs
inductive RDL (K : PySem.W.Frag) (m : Wd) (n : Nat) : List V → List D → Prop
  | nil : RDL K m n [] []
  | cons {v : V} {vs : List V} {d : D} {ds : List D} : RD K m n v d → RDL K m n vs ds → RDL K m n (v :: vs) (d :: ds)
/-- the defs whose text may hold a lambda; their code objects and tables -/
def lamNames : List Str := ["clear_below"]
def csOf (K : PySem.W.Frag) : List (Addr × Addr) := lamNames.filterMap fun x => PySem.W.tabIn K x
def tbOf (K : PySem.W.Frag) : List (Addr × Str) := lamNames.filterMap fun x => (PySem.W.tabIn K x).map fun cp => (cp.2, x ++ ".<locals>." ++ "<lambda>")
theorem Tabs_upd {T : List (Addr × Str)} {H : Hp} {a : Addr} {o : HO} (t : LamX.Tabs T H) (h1 : ∀ ps, H a ≠ some (.tbl ps)) (h2 : ∀ φ, H a ≠ some (.ext φ)) : LamX.Tabs T (upd H a o) := fun p hp => by
  obtain ⟨ps, e1, e2, e3⟩ := t p hp
  refine ⟨ps, ?_, e2, fun pos cv hc => ?_⟩
  · rw [upd_ne (fun z => h1 ps (by rw [← z]; exact e1))]; exact e1
  · obtain ⟨c, e4, e5⟩ := e3 pos cv hc
    exact ⟨c, e4, by rw [upd_ne (fun z => h2 _ (by rw [← z]; exact e5))]; exact e5⟩
structure Rel (K : PySem.W.Frag) (m : Wd) (h : List O) (H : Hp) : Prop where
  sub : Sub m.G H
  liv : ∀ (n : Nat) xs, h[n]? = some (.lst xs) → m.G (m.io n) = none ∧ ∃ vs, H (m.io n) = some (.lst vs) ∧ RpL K m.G vs xs
  frz : ∀ (n : Nat) xs, h[n]? = some (.frz xs) → ∃ vs, m.G (m.io n) = some (.lst vs) ∧ RpL K m.G vs xs
  nst : ∀ (n : Nat) xs, h[n]? = some (.nst xs) → m.G (m.io n) = none ∧ ∃ vs, H (m.io n) = some (.lst vs) ∧ RDL K m h.length vs xs
  inj : ∀ i j, i < h.length → j < h.length → m.io i = m.io j → i = j
  tab : LamX.Tabs (tbOf K) H
  gt : ∀ a ps, m.G a ≠ some (.tbl ps)
theorem gt_upd {G : Hp} {p : Addr} {o : HO} (g : ∀ a ps, G a ≠ some (.tbl ps)) (nt : ∀ ps, o ≠ .tbl ps := by intro _ z; cases z) : ∀ a ps, upd G p o a ≠ some (.tbl ps) := fun a ps e => by
  by_cases ha : a = p
  · subst ha; rw [upd_same] at e; cases e; exact absurd rfl (nt ps)
  · rw [upd_ne ha] at e; exact g a ps e
/-- the names -/
structure SR (K : PySem.W.Frag) (m : Wd) (n : Nat) (σ : L2.St) (ρ : Env) : Prop where
  len : σ.length = ρ.length
  get : ∀ (i : Nat) d, ρ[i]? = some (some d) → ∃ v, σ[i]? = some (some v) ∧ RD K m n v d
/-- what may have come about -/
structure Ext (m m' : Wd) (h h' : List O) (H H' : Hp) : Prop where
  g : Sub m.G m'.G
  io : ∀ n, n < h.length → m'.io n = m.io n
  len : h.length ≤ h'.length
  fr : ∀ a o, H a = some o → (∀ n, n < h.length → m.io n ≠ a) → H' a = some o ∨ ∃ ps ps', o = .tbl ps ∧ H' a = some (.tbl ps')
  nw : ∀ n, h.length ≤ n → n < h'.length → H (m'.io n) = none
  gn : ∀ a o, m'.G a = some o → m.G a = some o ∨ H a = none ∨ ∃ n, n < h.length ∧ m.io n = a
section
variable {K : PySem.W.Frag} {m m' m2 : Wd} {h h' h2 : List O} {H H' H2 : Hp}
theorem Ext.frN (E : Ext m m' h h' H H') {a : Addr} {o : HO} (e : H a = some o) (ne : ∀ n, n < h.length → m.io n ≠ a) (z : H' a = none) : False := by
  rcases E.fr a o e ne with q | ⟨_, _, _, q⟩ <;> rw [z] at q <;> cases q
theorem Ext.frL (E : Ext m m' h h' H H') {a : Addr} {o : HO} (e : H a = some o) (nt : ∀ ps, o ≠ .tbl ps) (ne : ∀ n, n < h.length → m.io n ≠ a) : H' a = some o := by
  rcases E.fr a o e ne with q | ⟨ps, _, q, _⟩
  · exact q
  · exact absurd q (nt ps)
theorem Rel.trk (R : Rel K m h H) {n : Nat} (hn : n < h.length) : ∃ o, H (m.io n) = some o := by
  cases e : h[n] with
  | lst xs =>
    obtain ⟨_, vs, h1, _⟩ := R.liv n xs (by rw [List.getElem?_eq_getElem hn, e])
    exact ⟨_, h1⟩
  | frz xs =>
    obtain ⟨vs, h1, _⟩ := R.frz n xs (by rw [List.getElem?_eq_getElem hn, e])
    exact ⟨_, R.sub _ _ h1⟩
  | nst xs =>
    obtain ⟨_, vs, h1, _⟩ := R.nst n xs (by rw [List.getElem?_eq_getElem hn, e])
    exact ⟨_, h1⟩
theorem Ext.refl (m : Wd) (h : List O) (H : Hp) : Ext m m h h H H := ⟨Sub.refl _, fun _ _ => rfl, Nat.le_refl _, fun _ _ e _ => .inl e, fun _ a b => absurd (Nat.lt_of_lt_of_le b a) (Nat.lt_irrefl _), fun _ _ e => .inl e⟩
theorem Ext.trans (R : Rel K m' h' H') (a : Ext m m' h h' H H') (b : Ext m' m2 h' h2 H' H2) : Ext m m2 h h2 H H2 := by
  have key : ∀ n o, h.length ≤ n → n < h'.length → ∀ c, H c = some o → m'.io n ≠ c := fun n o h1 h2 c e z => by
    have := a.nw n h1 h2
    rw [z, e] at this; cases this
  refine ⟨a.g.trans b.g, fun n hn => (b.io n (Nat.lt_of_lt_of_le hn a.len)).trans (a.io n hn), Nat.le_trans a.len b.len, fun c o e ne => ?_, fun n h1 h2 => ?_, fun c o e => ?_⟩
  · have ne2 : ∀ n, n < h'.length → m'.io n ≠ c := fun n hn => by
      by_cases hl : n < h.length
      · rw [a.io n hl]; exact ne n hl
      · exact key n o (Nat.le_of_not_lt hl) hn c e
    rcases a.fr c o e ne with q | ⟨ps, ps', rfl, q⟩
    · exact b.fr c o q ne2
    · rcases b.fr c _ q ne2 with q2 | ⟨_, ps2, _, q2⟩
      · exact .inr ⟨ps, _, rfl, q2⟩
      · exact .inr ⟨ps, _, rfl, q2⟩
  · by_cases hl : n < h'.length
    · rw [b.io n hl]; exact a.nw n h1 hl
    · have z := b.nw n (Nat.le_of_not_lt hl) h2
      cases e : H (m2.io n) with
      | none => rfl
      | some o =>
        exfalso
        by_cases q : ∃ k, k < h.length ∧ m.io k = m2.io n
        · obtain ⟨k, hk, e2⟩ := q
          obtain ⟨o2, e3⟩ := R.trk (Nat.lt_of_lt_of_le hk a.len)
          rw [a.io k hk, e2, z] at e3; cases e3
        · exact a.frN e (fun k hk e2 => q ⟨k, hk, e2⟩) z
  · rcases b.gn c o e with e | e | ⟨n, hn, rfl⟩
    · exact a.gn c o e
    · by_cases q : ∃ k, k < h.length ∧ m.io k = c
      · exact .inr (.inr q)
      · cases z : H c with
        | none => exact .inr (.inl rfl)
        | some u =>
          exact (a.frN z (fun k hk y => q ⟨k, hk, y⟩) e).elim
    · by_cases hl : n < h.length
      · exact .inr (.inr ⟨n, hl, (a.io n hl).symm⟩)
      · exact .inr (.inl (a.nw n (Nat.le_of_not_lt hl) hn))
theorem RTL.ext {n n' : Nat} (g : Sub m.G m'.G) (hio : ∀ k, k < n → m'.io k = m.io k) (hn : n ≤ n') : ∀ {vs : List V} {xs : List (PyData ⊕ Nat)}, RTL K m n vs xs → RTL K m' n' vs xs
  | _, _, .nil => .nil
  | _, _, .inl r rs => .inl (r.mono g) (RTL.ext g hio hn rs)
  | _, _, .inr hk rs => by
    rw [← hio _ hk]
    exact .inr (Nat.lt_of_lt_of_le hk hn) (RTL.ext g hio hn rs)
theorem RD.ext {n n' : Nat} (g : Sub m.G m'.G) (hio : ∀ k, k < n → m'.io k = m.io k) (hn : n ≤ n') {v : V} : ∀ {d : D}, RD K m n v d → RD K m' n' v d
  | .p _, r => Rp.mono g r
  | .r k, r => ⟨Nat.lt_of_lt_of_le r.1 hn, by rw [hio k r.1]; exact r.2⟩
  | .s xs, ⟨a, vs, e, h1, h2⟩ => ⟨a, vs, e, g.sqL h1, h2.mono g⟩
  | .t xs, ⟨a, vs, e, h1, h2⟩ => ⟨a, vs, e, g.sqT h1, h2.ext g hio hn⟩
theorem RDL.ext {n n' : Nat} (g : Sub m.G m'.G) (hio : ∀ k, k < n → m'.io k = m.io k) (hn : n ≤ n') : ∀ {vs : List V} {ds : List D}, RDL K m n vs ds → RDL K m' n' vs ds
  | _, _, .nil => .nil
  | _, _, .cons h r => .cons (RD.ext g hio hn h) (RDL.ext g hio hn r)
theorem RDL.len {n : Nat} : ∀ {vs : List V} {ds : List D}, RDL K m n vs ds → vs.length = ds.length
  | _, _, .nil => rfl
  | _, _, .cons _ r => by simp [RDL.len r]
theorem RDL.get {n : Nat} : ∀ {vs : List V} {ds : List D} {i : Nat} {d : D}, RDL K m n vs ds → ds[i]? = some d → ∃ v, vs[i]? = some v ∧ RD K m n v d
  | _, _, _, _, .nil, e => by simp at e
  | _, _, 0, _, .cons h r, e => by simp at e; subst e; exact ⟨_, rfl, h⟩
  | _, _, i + 1, x, .cons h r, e => by
    obtain ⟨y, e1, e2⟩ := RDL.get (i := i) (d := x) r (by simpa using e)
    exact ⟨y, by simpa using e1, e2⟩
theorem Ext.rd (x : Ext m m' h h' H H') {v : V} {d : D} (r : RD K m h.length v d) : RD K m' h'.length v d := r.ext x.g x.io x.len
theorem Ext.rdl (x : Ext m m' h h' H H') {v : List V} {d : List D} (r : RDL K m h.length v d) : RDL K m' h'.length v d := r.ext x.g x.io x.len
theorem Ext.sr (x : Ext m m' h h' H H') {σ : L2.St} {ρ : Env} (r : SR K m h.length σ ρ) : SR K m' h'.length σ ρ :=
  ⟨r.len, fun i d e => let ⟨v, h1, h2⟩ := r.get i d e; ⟨v, h1, x.rd h2⟩⟩
/-- new things were made -/
theorem Rel.new {G' : Hp} (R : Rel K m h H) (N : New m.G H G' H') : Rel K { m with G := G' } h H' ∧ Ext m { m with G := G' } h h H H' := by
  refine ⟨⟨N.s, fun n xs e => ?_, fun n xs e => ?_, fun n xs e => ?_, R.inj, R.tab.ext fun b o e => N.h b o e, fun a ps z => R.gt a ps (N.t a ps z)⟩, ⟨N.g, fun _ _ => rfl, Nat.le_refl _, fun a o e _ => .inl (N.h a o e), fun _ a b => absurd (Nat.lt_of_lt_of_le b a) (Nat.lt_irrefl _), fun a o e => (N.n a o e).elim .inl fun z => .inr (.inl z)⟩⟩
  · obtain ⟨h1, vs, h2, h3⟩ := R.liv n xs e
    refine ⟨?_, vs, N.h _ _ h2, h3.mono N.g⟩
    cases q : G' (m.io n) with
    | none => exact q
    | some o =>
      rcases N.n _ _ q with z | z
      · rw [h1] at z; cases z
      · rw [h2] at z; cases z
  · obtain ⟨vs, h1, h2⟩ := R.frz n xs e
    exact ⟨vs, N.g _ _ h1, h2.mono N.g⟩
  · obtain ⟨h1, vs, h2, h3⟩ := R.nst n xs e
    refine ⟨?_, vs, N.h _ _ h2, RDL.ext (m' := { m with G := G' }) N.g (fun _ _ => rfl) (Nat.le_refl _) h3⟩
    cases q : G' (m.io n) with
    | none => exact q
    | some o =>
      rcases N.n _ _ q with z | z
      · rw [h1] at z; cases z
      · rw [h2] at z; cases z
/-- what a handle holds -/
theorem Rel.drf (R : Rel K m h H) {v : V} {d : D} {x : PyData} (r : RD K m h.length v d) (e : drf h d = some x) : Rt K m.G H v x := by
  cases d with
  | p d =>
    simp only [Px.drf, Option.some.injEq] at e
    subst e; exact .inl r
  | s xs => simp [Px.drf] at e
  | t xs => simp [Px.drf] at e
  | r n =>
    obtain ⟨hn, rfl⟩ := r
    simp only [Px.drf] at e
    split at e
    · rename_i xs q
      simp only [Option.some.injEq] at e
      subst e
      obtain ⟨h1, vs, h2, h3⟩ := R.liv n xs q
      exact .inr ⟨_, vs, xs, rfl, rfl, h2, h3⟩
    · rename_i xs q
      simp only [Option.some.injEq] at e
      subst e
      obtain ⟨vs, h1, h2⟩ := R.frz n xs q
      exact .inl (.lst h1 h2)
    · cases e
    · cases e
/-- a list is from now on never changed -/
theorem Rel.freezeG (R : Rel K m h H) {n : Nat} {xs : List PyData} {vs : List V} (hn : n < h.length) (h1 : m.G (m.io n) = none) (h2 : H (m.io n) = some (.lst vs)) (h3 : RpL K m.G vs xs) :
    ∃ G', Rel K { m with G := G' } (h.set n (.frz xs)) H ∧ Ext m { m with G := G' } h (h.set n (.frz xs)) H H ∧ Rp K G' (.ref (m.io n)) (.list xs) := by
  have sg : Sub m.G (upd m.G (m.io n) (.lst vs)) := Sub.upd h1
  refine ⟨upd m.G (m.io n) (.lst vs), ⟨fun a o q => ?_, fun k ys q => ?_, fun k ys q => ?_, fun k ys q => ?_, fun i j hi hj => R.inj i j (by simpa using hi) (by simpa using hj), R.tab, gt_upd R.gt⟩,
    ⟨sg, fun _ _ => rfl, by simp, fun a o q _ => .inl q, fun k a b => by rw [List.length_set] at b; omega, fun a o q => ?_⟩, .lst upd_same (h3.mono sg)⟩
  · have q : upd m.G (m.io n) (.lst vs) a = some o := q
    by_cases ha : a = m.io n
    · subst ha; rw [upd_same] at q; rw [h2]; exact q
    · rw [upd_ne ha] at q; exact R.sub _ _ q
  · by_cases hk : n = k
    · subst hk; rw [List.getElem?_set_self hn] at q; cases q
    · rw [List.getElem?_set_ne hk] at q
      obtain ⟨k1, ws, k2, k3⟩ := R.liv k ys q
      have hkl : k < h.length := (List.getElem?_eq_some_iff.mp q).1
      refine ⟨?_, ws, k2, k3.mono sg⟩
      show upd m.G (m.io n) _ (m.io k) = none
      rw [upd_ne (fun z => hk (R.inj _ _ hn hkl z.symm))]; exact k1
  · by_cases hk : n = k
    · subst hk
      rw [List.getElem?_set_self hn] at q
      cases q
      exact ⟨vs, upd_same, h3.mono sg⟩
    · rw [List.getElem?_set_ne hk] at q
      obtain ⟨ws, k1, k2⟩ := R.frz k ys q
      exact ⟨ws, sg _ _ k1, k2.mono sg⟩
  · by_cases hk : n = k
    · subst hk; rw [List.getElem?_set_self hn] at q; cases q
    · rw [List.getElem?_set_ne hk] at q
      obtain ⟨k1, ws, k2, k3⟩ := R.nst k ys q
      have hkl : k < h.length := (List.getElem?_eq_some_iff.mp q).1
      refine ⟨?_, ws, k2, RDL.ext (m' := { m with G := upd m.G (m.io n) (.lst vs) }) sg (fun _ _ => rfl) (by simp) k3⟩
      show upd m.G (m.io n) _ (m.io k) = none
      rw [upd_ne (fun z => hk (R.inj _ _ hn hkl z.symm))]; exact k1
  · have q : upd m.G (m.io n) (.lst vs) a = some o := q
    by_cases ha : a = m.io n
    · exact .inr (.inr ⟨n, hn, ha.symm⟩)
    · rw [upd_ne ha] at q; exact .inl q
theorem Rel.freeze (R : Rel K m h H) {n : Nat} {xs : List PyData} (e : h[n]? = some (.lst xs)) :
    ∃ G', Rel K { m with G := G' } (h.set n (.frz xs)) H ∧ Ext m { m with G := G' } h (h.set n (.frz xs)) H H ∧ Rp K G' (.ref (m.io n)) (.list xs) :=
  let ⟨h1, vs, h2, h3⟩ := R.liv n xs e
  R.freezeG (List.getElem?_eq_some_iff.mp e).1 h1 h2 h3
theorem Rel.val1 (R : Rel K m h H) {v : V} {d : D} {x : PyData} (r : RD K m h.length v d) (e : val1 d h = .ok x h') :
    ∃ G', Rel K { m with G := G' } h' H ∧ Ext m { m with G := G' } h h' H H ∧ Rp K G' v x := by
  cases d with
  | p d =>
    simp only [Px.val1, M.ret, Out.ok.injEq] at e
    obtain ⟨rfl, rfl⟩ := e
    exact ⟨m.G, R, Ext.refl _ _ _, r⟩
  | s xs => simp [Px.val1, M.no] at e
  | t xs => simp [Px.val1, M.no] at e
  | r n =>
    obtain ⟨hn, rfl⟩ := r
    simp only [Px.val1] at e
    split at e
    · rename_i xs q
      cases e
      exact R.freeze q
    · rename_i xs q
      cases e
      obtain ⟨vs, h1, h2⟩ := R.frz n xs q
      exact ⟨m.G, R, Ext.refl _ _ _, .lst h1 h2⟩
    · cases e
    · cases e
theorem val1_nst {d : D} {x : PyData} (e : val1 d h = .ok x h') {n : Nat} {ys : List D} (q : h[n]? = some (.nst ys)) : h'[n]? = some (.nst ys) := by
  cases d with
  | p d =>
    simp only [Px.val1, M.ret, Out.ok.injEq] at e
    obtain ⟨rfl, rfl⟩ := e
    exact q
  | s xs => simp [Px.val1, M.no] at e
  | t xs => simp [Px.val1, M.no] at e
  | r k =>
    simp only [Px.val1] at e
    split at e
    · rename_i xs q2
      cases e
      by_cases hk : k = n
      · subst hk; rw [q] at q2; cases q2
      · rw [List.getElem?_set_ne hk]; exact q
    · cases e; exact q
    · cases e
    · cases e
theorem Rel.valL : ∀ {ds : List D} {m : Wd} {h h' : List O} {vs : List V} {xs : List PyData}, Rel K m h H → RDL K m h.length vs ds → valL ds h = .ok xs h' →
    ∃ G', Rel K { m with G := G' } h' H ∧ Ext m { m with G := G' } h h' H H ∧ RpL K G' vs xs ∧ ∀ (n : Nat) ys, h[n]? = some (.nst ys) → h'[n]? = some (.nst ys)
  | [], m, h, h', _, xs, R, .nil, e => by
    have e : (Out.ok [] h : Out (List PyData)) = .ok xs h' := e
    cases e
    exact ⟨m.G, R, Ext.refl _ _ _, .nil, fun _ _ q => q⟩
  | d :: ds, m, h, h', _, xs, R, .cons r rs, e => by
    have e : M.bnd (Px.val1 d) (fun x => M.bnd (Px.valL ds) fun xs => M.ret (x :: xs)) h = .ok xs h' := e
    unfold M.bnd at e
    cases e1 : Px.val1 d h with
    | no => rw [e1] at e; cases e
    | ex _ _ => rw [e1] at e; cases e
    | ok x h1 =>
      rw [e1] at e
      dsimp only at e
      cases e2 : Px.valL ds h1 with
      | no => rw [e2] at e; cases e
      | ex _ _ => rw [e2] at e; cases e
      | ok ys h2 =>
        rw [e2] at e
        simp only [M.ret, Out.ok.injEq] at e
        obtain ⟨rfl, rfl⟩ := e
        obtain ⟨G1, R1, E1, r1⟩ := R.val1 r e1
        obtain ⟨G2, R2, E2, r2, k2⟩ := Rel.valL R1 (E1.rdl rs) e2
        exact ⟨G2, R2, E1.trans R1 E2, .cons (r1.mono E2.g) r2, fun n ys q => k2 n ys (val1_nst e1 q)⟩
theorem Rel.valN (R : Rel K m h H) {v : V} {d : D} {x : PyData} (r : RD K m h.length v d) (e : valN d h = .ok x h') :
    ∃ G', Rel K { m with G := G' } h' H ∧ Ext m { m with G := G' } h h' H H ∧ Rp K G' v x := by
  cases d with
  | p d =>
    simp only [Px.valN, M.ret, Out.ok.injEq] at e
    obtain ⟨rfl, rfl⟩ := e
    exact ⟨m.G, R, Ext.refl _ _ _, r⟩
  | s xs => simp [Px.valN, M.no] at e
  | t xs => simp [Px.valN, M.no] at e
  | r n =>
    obtain ⟨hn, rfl⟩ := r
    simp only [Px.valN] at e
    split at e
    · rename_i xs q
      cases e
      exact R.freeze q
    · rename_i xs q
      cases e
      obtain ⟨vs, h1, h2⟩ := R.frz n xs q
      exact ⟨m.G, R, Ext.refl _ _ _, .lst h1 h2⟩
    · rename_i xs q
      obtain ⟨g1, vs, g2, g3⟩ := R.nst n xs q
      split at e
      · rename_i ds h1 e1
        cases e
        obtain ⟨G1, R1, E1, r1, k1⟩ := Rel.valL R g3 e1
        have q1 := k1 n xs q
        have hn1 := (List.getElem?_eq_some_iff.mp q1).1
        obtain ⟨g4, _⟩ := R1.nst n xs q1
        obtain ⟨G2, R2, E2, r2⟩ := R1.freezeG hn1 g4 g2 r1
        exact ⟨G2, R2, E1.trans R1 E2, r2⟩
      · cases e
    · cases e
theorem RTL.rd {n : Nat} : ∀ {vs : List V} {xs : List (PyData ⊕ Nat)}, RTL K m n vs xs → RDL K m n vs (xs.map itD)
  | _, _, .nil => .nil
  | _, _, .inl r rs => .cons (d := .p _) r (RTL.rd rs)
  | _, _, .inr hk rs => .cons (d := .r _) ⟨hk, rfl⟩ (RTL.rd rs)
theorem Rel.valLL : ∀ {ds : List (PyData ⊕ Nat)} {m : Wd} {h h' : List O} {vs : List V} {xs : List PyData}, Rel K m h H → RDL K m h.length vs (ds.map itD) → valLL ds h = .ok xs h' →
    ∃ G', Rel K { m with G := G' } h' H ∧ Ext m { m with G := G' } h h' H H ∧ RpL K G' vs xs
  | [], m, h, h', _, xs, R, .nil, e => by
    have e : (Out.ok [] h : Out (List PyData)) = .ok xs h' := e
    cases e
    exact ⟨m.G, R, Ext.refl _ _ _, .nil⟩
  | d :: ds, m, h, h', _, xs, R, .cons r rs, e => by
    have e : M.bnd (Px.valN (itD d)) (fun x => M.bnd (Px.valLL ds) fun xs => M.ret (x :: xs)) h = .ok xs h' := e
    unfold M.bnd at e
    cases e1 : Px.valN (itD d) h with
    | no => rw [e1] at e; cases e
    | ex _ _ => rw [e1] at e; cases e
    | ok x h1 =>
      rw [e1] at e
      dsimp only at e
      cases e2 : Px.valLL ds h1 with
      | no => rw [e2] at e; cases e
      | ex _ _ => rw [e2] at e; cases e
      | ok ys h2 =>
        rw [e2] at e
        simp only [M.ret, Out.ok.injEq] at e
        obtain ⟨rfl, rfl⟩ := e
        obtain ⟨G1, R1, E1, r1⟩ := R.valN r e1
        obtain ⟨G2, R2, E2, r2⟩ := Rel.valLL R1 (E1.rdl rs) e2
        exact ⟨G2, R2, E1.trans R1 E2, .cons (r1.mono E2.g) r2⟩
theorem Rel.val (R : Rel K m h H) {v : V} {d : D} {x : PyData} (r : RD K m h.length v d) (e : val d h = .ok x h') :
    ∃ G', Rel K { m with G := G' } h' H ∧ Ext m { m with G := G' } h h' H H ∧ Rp K G' v x := by
  cases d with
  | p d =>
    simp only [Px.val, M.ret, Out.ok.injEq] at e
    obtain ⟨rfl, rfl⟩ := e
    exact ⟨m.G, R, Ext.refl _ _ _, r⟩
  | s xs => simp [Px.val, M.no] at e
  | t xs =>
    obtain ⟨a, vs, rfl, g2, g3⟩ := r
    simp only [Px.val] at e
    split at e
    · rename_i ds h1 e1
      cases e
      obtain ⟨G1, R1, E1, r1⟩ := Rel.valLL R g3.rd e1
      exact ⟨G1, R1, E1, .tup (E1.g.sqT g2) r1⟩
    · cases e
  | r n =>
    obtain ⟨hn, rfl⟩ := r
    simp only [Px.val] at e
    split at e
    · rename_i xs q
      cases e
      exact R.freeze q
    · rename_i xs q
      cases e
      obtain ⟨vs, h1, h2⟩ := R.frz n xs q
      exact ⟨m.G, R, Ext.refl _ _ _, .lst h1 h2⟩
    · rename_i xs q
      obtain ⟨g1, vs, g2, g3⟩ := R.nst n xs q
      split at e
      · rename_i ds h1 e1
        cases e
        obtain ⟨G1, R1, E1, r1, k1⟩ := Rel.valL R g3 e1
        have q1 := k1 n xs q
        have hn1 := (List.getElem?_eq_some_iff.mp q1).1
        obtain ⟨g4, _⟩ := R1.nst n xs q1
        obtain ⟨G2, R2, E2, r2⟩ := R1.freezeG hn1 g4 g2 r1
        exact ⟨G2, R2, E1.trans R1 E2, r2⟩
      · cases e
    · cases e
/-- a list is changed -/
theorem Rel.put (R : Rel K m h H) {n : Nat} {xs ys : List PyData} {vs : List V} (e : h[n]? = some (.lst xs)) (r : RpL K m.G vs ys) :
    Rel K m (h.set n (.lst ys)) (upd H (m.io n) (.lst vs)) ∧ Ext m m h (h.set n (.lst ys)) H (upd H (m.io n) (.lst vs)) := by
  obtain ⟨h1, ws, h2, h3⟩ := R.liv n xs e
  have hn : n < h.length := (List.getElem?_eq_some_iff.mp e).1
  have ne : ∀ k, k < h.length → n ≠ k → m.io k ≠ m.io n := fun k hk z q => z (R.inj _ _ hn hk q.symm)
  refine ⟨⟨fun a o q => ?_, fun k zs q => ?_, fun k zs q => ?_, fun k zs q => ?_, fun i j hi hj => R.inj i j (by simpa using hi) (by simpa using hj), Tabs_upd R.tab (fun ps z => by rw [h2] at z; cases z) (fun φ z => by rw [h2] at z; cases z), R.gt⟩,
    ⟨Sub.refl _, fun _ _ => rfl, by simp, fun a o q z => ?_, fun k a b => by rw [List.length_set] at b; omega, fun _ _ q => .inl q⟩⟩
  · rw [upd_ne (fun z => by rw [z, h1] at q; cases q)]; exact R.sub _ _ q
  · by_cases hk : n = k
    · subst hk
      rw [List.getElem?_set_self hn] at q
      cases q
      exact ⟨h1, vs, upd_same, r⟩
    · rw [List.getElem?_set_ne hk] at q
      obtain ⟨k1, us, k2, k3⟩ := R.liv k zs q
      have hkl : k < h.length := (List.getElem?_eq_some_iff.mp q).1
      exact ⟨k1, us, by rw [upd_ne (ne k hkl hk)]; exact k2, k3⟩
  · by_cases hk : n = k
    · subst hk; rw [List.getElem?_set_self hn] at q; cases q
    · rw [List.getElem?_set_ne hk] at q
      exact R.frz k zs q
  · by_cases hk : n = k
    · subst hk; rw [List.getElem?_set_self hn] at q; cases q
    · rw [List.getElem?_set_ne hk] at q
      obtain ⟨k1, us, k2, k3⟩ := R.nst k zs q
      have hkl : k < h.length := (List.getElem?_eq_some_iff.mp q).1
      exact ⟨k1, us, by rw [upd_ne (ne k hkl hk)]; exact k2, by rw [List.length_set]; exact k3⟩
  · rw [upd_ne (fun y => z n hn y.symm)]; exact .inl q
/-- a list of lists is changed -/
theorem Rel.putN (R : Rel K m h H) {n : Nat} {xs ys : List D} {vs : List V} (e : h[n]? = some (.nst xs)) (r : RDL K m h.length vs ys) :
    Rel K m (h.set n (.nst ys)) (upd H (m.io n) (.lst vs)) ∧ Ext m m h (h.set n (.nst ys)) H (upd H (m.io n) (.lst vs)) := by
  obtain ⟨h1, ws, h2, h3⟩ := R.nst n xs e
  have hn : n < h.length := (List.getElem?_eq_some_iff.mp e).1
  have ne : ∀ k, k < h.length → n ≠ k → m.io k ≠ m.io n := fun k hk z q => z (R.inj _ _ hn hk q.symm)
  refine ⟨⟨fun a o q => ?_, fun k zs q => ?_, fun k zs q => ?_, fun k zs q => ?_, fun i j hi hj => R.inj i j (by simpa using hi) (by simpa using hj), Tabs_upd R.tab (fun ps z => by rw [h2] at z; cases z) (fun φ z => by rw [h2] at z; cases z), R.gt⟩,
    ⟨Sub.refl _, fun _ _ => rfl, by simp, fun a o q z => ?_, fun k a b => by rw [List.length_set] at b; omega, fun _ _ q => .inl q⟩⟩
  · rw [upd_ne (fun z => by rw [z, h1] at q; cases q)]; exact R.sub _ _ q
  · by_cases hk : n = k
    · subst hk; rw [List.getElem?_set_self hn] at q; cases q
    · rw [List.getElem?_set_ne hk] at q
      obtain ⟨k1, us, k2, k3⟩ := R.liv k zs q
      have hkl : k < h.length := (List.getElem?_eq_some_iff.mp q).1
      exact ⟨k1, us, by rw [upd_ne (ne k hkl hk)]; exact k2, k3⟩
  · by_cases hk : n = k
    · subst hk; rw [List.getElem?_set_self hn] at q; cases q
    · rw [List.getElem?_set_ne hk] at q
      exact R.frz k zs q
  · by_cases hk : n = k
    · subst hk
      rw [List.getElem?_set_self hn] at q
      cases q
      exact ⟨h1, vs, upd_same, by rw [List.length_set]; exact r⟩
    · rw [List.getElem?_set_ne hk] at q
      obtain ⟨k1, us, k2, k3⟩ := R.nst k zs q
      have hkl : k < h.length := (List.getElem?_eq_some_iff.mp q).1
      exact ⟨k1, us, by rw [upd_ne (ne k hkl hk)]; exact k2, by rw [List.length_set]; exact k3⟩
  · rw [upd_ne (fun y => z n hn y.symm)]; exact .inl q
/-- a new list gets a handle -/
theorem Rel.pushG (R : Rel K m h H) {p : Addr} {ob : O} (g : m.G p = none) (ne : ∀ n, n < h.length → m.io n ≠ p)
    (h1 : ∀ xs, ob = .lst xs → ∃ vs, H p = some (.lst vs) ∧ RpL K m.G vs xs) (h2 : ∀ xs, ob ≠ .frz xs) (h3 : ∀ xs, ob = .nst xs → ∃ vs, H p = some (.lst vs) ∧ RDL K m h.length vs xs) :
    Rel K { m with io := fun n => if n < h.length then m.io n else p } (h ++ [ob]) H := by
  have io1 : ∀ n, n < h.length → (if n < h.length then m.io n else p) = m.io n := fun n hn => if_pos hn
  have io2 : (if h.length < h.length then m.io h.length else p) = p := if_neg (Nat.lt_irrefl _)
  have ex : ∀ {vs : List V} {xs : List D}, RDL K m h.length vs xs → RDL K { m with io := fun n => if n < h.length then m.io n else p } (h ++ [ob]).length vs xs := fun r =>
    RDL.ext (m := m) (m' := { m with io := fun n => if n < h.length then m.io n else p }) (Sub.refl _) (fun k hk => io1 k hk) (by simp) r
  refine ⟨R.sub, fun n ys q => ?_, fun n ys q => ?_, fun n ys q => ?_, fun i j hi hj q => ?_, R.tab, R.gt⟩
  · by_cases hn : n < h.length
    · rw [List.getElem?_append_left hn] at q
      show m.G (if n < h.length then m.io n else p) = none ∧ ∃ vs, H (if n < h.length then m.io n else p) = _ ∧ _
      rw [io1 n hn]; exact R.liv n ys q
    · have hl := (List.getElem?_eq_some_iff.mp q).1
      have : n = h.length := by simp at hl; omega
      subst this
      rw [List.getElem?_append_right (Nat.le_refl _)] at q
      simp at q
      subst q
      obtain ⟨vs, e, r⟩ := h1 ys rfl
      show m.G (if h.length < h.length then m.io h.length else p) = none ∧ ∃ vs, H (if h.length < h.length then m.io h.length else p) = _ ∧ _
      rw [io2]; exact ⟨g, vs, e, r⟩
  · by_cases hn : n < h.length
    · rw [List.getElem?_append_left hn] at q
      show ∃ vs, m.G (if n < h.length then m.io n else p) = _ ∧ _
      rw [io1 n hn]; exact R.frz n ys q
    · have hl := (List.getElem?_eq_some_iff.mp q).1
      have : n = h.length := by simp at hl; omega
      subst this
      rw [List.getElem?_append_right (Nat.le_refl _)] at q
      simp at q
      exact absurd q (h2 ys)
  · by_cases hn : n < h.length
    · rw [List.getElem?_append_left hn] at q
      obtain ⟨a, vs, b, c⟩ := R.nst n ys q
      show m.G (if n < h.length then m.io n else p) = none ∧ ∃ vs, H (if n < h.length then m.io n else p) = _ ∧ _
      rw [io1 n hn]
      exact ⟨a, vs, b, ex c⟩
    · have hl := (List.getElem?_eq_some_iff.mp q).1
      have : n = h.length := by simp at hl; omega
      subst this
      rw [List.getElem?_append_right (Nat.le_refl _)] at q
      simp at q
      obtain ⟨vs, e, r⟩ := h3 ys q
      show m.G (if h.length < h.length then m.io h.length else p) = none ∧ ∃ vs, H (if h.length < h.length then m.io h.length else p) = _ ∧ _
      rw [io2]; exact ⟨g, vs, e, ex r⟩
  · have hi : i < h.length + 1 := by simpa using hi
    have hj : j < h.length + 1 := by simpa using hj
    have q : (if i < h.length then m.io i else p) = (if j < h.length then m.io j else p) := q
    by_cases h1 : i < h.length <;> by_cases h2 : j < h.length
    · rw [if_pos h1, if_pos h2] at q; exact R.inj i j h1 h2 q
    · rw [if_pos h1, if_neg h2] at q; exact absurd q (ne i h1)
    · rw [if_neg h1, if_pos h2] at q; exact absurd q.symm (ne j h2)
    · omega
theorem Rel.push (R : Rel K m h H) {p : Addr} {xs : List PyData} {vs : List V} (e : H p = some (.lst vs)) (g : m.G p = none) (r : RpL K m.G vs xs) (ne : ∀ n, n < h.length → m.io n ≠ p) :
    Rel K { m with io := fun n => if n < h.length then m.io n else p } (h ++ [.lst xs]) H :=
  R.pushG g ne (fun ys z => by cases z; exact ⟨vs, e, r⟩) (fun ys z => by cases z) (fun ys z => by cases z)
theorem Rel.pushN (R : Rel K m h H) {p : Addr} {xs : List D} {vs : List V} (e : H p = some (.lst vs)) (g : m.G p = none) (r : RDL K m h.length vs xs) (ne : ∀ n, n < h.length → m.io n ≠ p) :
    Rel K { m with io := fun n => if n < h.length then m.io n else p } (h ++ [.nst xs]) H :=
  R.pushG g ne (fun ys z => by cases z) (fun ys z => by cases z) (fun ys z => by cases z; exact ⟨vs, e, r⟩)
end
end Px

/-! Px4: which expression of the text a term stands for; runs taken apart. -/
namespace Px
open PySem PySem.Spec PyProof.Rows L2

/-! ### runs taken apart -/
section
variable {α β : Type} {h h' : List O}
theorem bnd_ok {x : M α} {f : α → M β} {b : β} : (x >>= f) h = .ok b h' ↔ ∃ a h1, x h = .ok a h1 ∧ f a h1 = .ok b h' := by
  show M.bnd x f h = _ ↔ _
  unfold M.bnd
  cases x h with
  | ok a h1 =>
    constructor
    · intro q
      exact ⟨a, h1, rfl, q⟩
    · rintro ⟨a', h1', e, q⟩
      cases e
      exact q
  | no =>
    constructor
    · intro q
      cases q
    · rintro ⟨a', h1', e, q⟩
      cases e
  | ex y h1 =>
    constructor
    · intro q
      cases q
    · rintro ⟨a', h1', e, q⟩
      cases e
theorem pure_ok {a b : α} : (pure a : M α) h = .ok b h' ↔ a = b ∧ h = h' := by
  show M.ret a h = _ ↔ _
  simp [M.ret]
theorem opt_ok {o : Option α} {b : α} : M.opt o h = .ok b h' ↔ o = some b ∧ h = h' := by
  cases o <;> simp [M.opt]
theorem no_ok {b : α} : (M.no : M α) h = .ok b h' ↔ False := by simp [M.no]
theorem rd_ok {d : D} {b : PyData} : rd d h = .ok b h' ↔ drf h d = some b ∧ h = h' := by
  show M.opt (drf h d) h = _ ↔ _
  exact opt_ok
theorem ite_ok {c : Prop} [Decidable c] {x y : M α} {b : α} : (if c then x else y) h = .ok b h' ↔ (if c then x h = .ok b h' else y h = .ok b h') := by
  split <;> rfl
end

/-! ### the wishes -/
section
variable (K : PySem.W.Frag)
def tD (f : Env → M D) : TE := fun σ H Q => ∃ m ρ h d h', Rel K m h H ∧ SR K m h.length σ ρ ∧ f ρ h = .ok d h' ∧
  ∀ m' v H', Ext m m' h h' H H' → Rel K m' h' H' → RD K m' h'.length v d → Q v H'
def tT (f : Env → M Bool) : TT := fun σ H Q => ∃ m ρ h b h', Rel K m h H ∧ SR K m h.length σ ρ ∧ f ρ h = .ok b h' ∧
  ∀ m' H', Ext m m' h h' H H' → Rel K m' h' H' → Q b H'
def tAr (f : Env → M (List D)) : TA := fun σ H Q => ∃ m ρ h ds h', Rel K m h H ∧ SR K m h.length σ ρ ∧ f ρ h = .ok ds h' ∧
  ∀ m' vs H', Ext m m' h h' H H' → Rel K m' h' H' → RDL K m' h'.length vs ds → Q vs H'
def tVs (f : Env → M (List PyData)) : TA := fun σ H Q => ∃ m ρ h ds h', Rel K m h H ∧ SR K m h.length σ ρ ∧ f ρ h = .ok ds h' ∧
  ∀ m' vs H', Ext m m' h h' H H' → Rel K m' h' H' → RpL K m'.G vs ds → Q vs H'
def tPt (f : Env → M (Option Int)) : TO := fun σ H Q => ∃ m ρ h i h', Rel K m h H ∧ SR K m h.length σ ρ ∧ f ρ h = .ok i h' ∧
  ∀ m' H', Ext m m' h h' H H' → Rel K m' h' H' → Q i H'
/-- J yields the items xs, one at a turn, as long as what is settled stays -/
def Yl (G0 : Hp) (xs : List PyData) (J : It) : Prop := ∀ i H, Sub G0 H → (i < xs.length → J.go i H) ∧ (i = xs.length → J.stop i H) ∧
  ∀ G x H' d, xs[i]? = some d → Sub G0 G → Sub G H → J.yld i H x H' → ∃ G', New G H G' H' ∧ Rp K G' x d
def tIt (f : Env → M (List PyData)) : TI := fun σ H R => ∃ m ρ h xs h', Rel K m h H ∧ SR K m h.length σ ρ ∧ f ρ h = .ok xs h' ∧
  ∀ m' J H', Ext m m' h h' H H' → Rel K m' h' H' → Yl K m'.G xs J → R J H'
/-- a new list: nothing knows of it -/
def tFr (f : Env → M (List PyData)) : TE := fun σ H Q => ∃ m ρ h xs h', Rel K m h H ∧ SR K m h.length σ ρ ∧ f ρ h = .ok xs h' ∧
  ∀ m' p vs H', Ext m m' h h' H H' → Rel K m' h' H' → H' p = some (.lst vs) → RpL K m'.G vs xs → m'.G p = none → (∀ n, n < h'.length → m'.io n ≠ p) → H p = none → Q (.ref p) H'
/-- a new list of handles -/
def tFn (f : Env → M (List D)) : TE := fun σ H Q => ∃ m ρ h xs h', Rel K m h H ∧ SR K m h.length σ ρ ∧ f ρ h = .ok xs h' ∧
  ∀ m' p vs H', Ext m m' h h' H H' → Rel K m' h' H' → H' p = some (.lst vs) → RDL K m' h'.length vs xs → m'.G p = none → (∀ n, n < h'.length → m'.io n ≠ p) → H p = none → Q (.ref p) H'
end
section
variable {X : Cx} {e : Expr} {es : List Expr}
theorem wkE {t t' : TE} (h : PE X e t') (w : ∀ σ H Q, t σ H Q → t' σ H Q) : PE X e t := ⟨fun pins s σ H Q I q => h.run pins s σ H Q I (w σ H Q q)⟩
theorem wkT {t t' : TT} (h : PT X e t') (w : ∀ σ H Q, t σ H Q → t' σ H Q) : PT X e t := ⟨fun pins s σ H Q I q => h.run pins s σ H Q I (w σ H Q q)⟩
theorem wkW {t t' : TT} (h : PW X e t') (w : ∀ σ H Q, t σ H Q → t' σ H Q) : PW X e t := ⟨fun wh pins s σ H Q I q => h.run wh pins s σ H Q I (w σ H Q q)⟩
theorem wkA {t t' : TA} (h : PA X es t') (w : ∀ σ H Q, t σ H Q → t' σ H Q) : PA X es t := ⟨fun pos pins s σ H Q I q => h.run pos pins s σ H Q I (w σ H Q q)⟩
theorem wkO {o : Option Expr} {t t' : TO} (h : PO X o t') (w : ∀ σ H Q, t σ H Q → t' σ H Q) : PO X o t := ⟨fun pins s σ H Q I q => h.run pins s σ H Q I (w σ H Q q)⟩
theorem wkI {tg : Expr} {t t' : TI} (h : PI X tg e t') (w : ∀ σ H Q, t σ H Q → t' σ H Q) : PI X tg e t := ⟨fun pins s σ H Q I q => h.run pins s σ H Q I (w σ H Q q)⟩
end

/-! ### which expression a term stands for -/
structure Cc where
  N : List Str
  sc : Scope
  fns : List Str
  gls : List Str
  dss : List Str
  lam : Bool := false
/-- within a comprehension's block -/
def Cc.inS (C : Cc) (scope : Scope) : Cc := { C with sc := L2.relS scope C.sc, lam := false }
/-- within a lambda -/
def Cc.inL (C : Cc) (scope : Scope) : Cc := { C with sc := scope, fns := [], lam := false }
def visB (sc : Scope) (x : Str) : Bool := match sc.names.lookup x with
  | some .local => true
  | some .cell => true
  | some .free => true
  | _ => false
def glB (sc : Scope) (x : Str) : Bool := match sc.names.lookup x with
  | some .globalImplicit => true
  | _ => false
def nmB (x : Str) : Bool := !(x == ("__debug__" : Str)) && !(x == ("__classdict__" : Str)) && !(x == ("__name__" : Str))
def opB : BOp → Operator → Bool
  | .add, .Add | .sub, .Sub | .mul, .Mult | .mod, .Mod | .fdv, .FloorDiv | .pow, .Pow | .shl, .LShift | .shr, .RShift | .band, .BitAnd => true
  | _, _ => false
def copB : COp → CmpOp → Bool
  | .eq, .Eq | .ne, .NotEq | .lt, .Lt | .le, .LtE | .gt, .Gt | .ge, .GtE | .mem, .In | .nmem, .NotIn => true
  | _, _ => false
/-- neither a star nor a slice -/
def simple : Expr → Bool
  | .Slice .. => false
  | .Starred .. => false
  | _ => true
structure Ck where
  e : Cc → Expr → Bool
  b : Cc → BoolOp → List Expr → Bool
  l : Cc → List Expr → Bool
  o : Cc → Option Expr → Bool
  i : Cc → Bool → Expr → Bool
/-- an expression that no and, or, list of arguments, slice's part is -/
def Ck.of (f : Cc → Expr → Bool) : Ck where
  e := f
  b := fun C _ es => match es with
    | [x] => f C x
    | _ => false
  l := fun _ _ => false
  o := fun C x => match x with
    | some x => f C x
    | none => false
  i := fun C _ x => f C x
def nameCall (f : Cc → Str → List Expr → Bool) (C : Cc) (e : Expr) : Bool := match e with
  | .Call (.Name x _) es [] _ => glB C.sc x && nmB x && f C x es
  | _ => false
def chkTgt (N : List Str) (ok : Str → Bool) : List Nat → Bool → Expr → Bool
  | [i], false, .Name x _ => decide (N[i]? = some x) && ok x
  | is, true, .Tuple es _ _ => decide (is.length = es.length) && (is.zip es).all fun p => match p.2 with
    | .Name x _ => decide (N[p.1]? = some x) && ok x
    | _ => false
  | _, _, _ => false
def ownOf (N : List Str) (own : List Nat) : List (Str × Nat) := own.filterMap fun i => (N[i]?).map fun x => (x, i)
def cellOrLoc (sc : Scope) (x : Str) : Bool := match sc.names.lookup x with
  | some .local => true
  | some .cell => true
  | _ => false
/-- a comprehension's tests: none, or one -/
def chkIf (l : List Expr → Bool) (e : Expr → Bool) : List Expr → Bool
  | [] => l []
  | [z] => e z
  | _ => false
def chk1 (f : Expr → Bool) : List Expr → Bool
  | [y] => f y
  | _ => false
def chk2 (f g : Expr → Bool) : List Expr → Bool
  | [y, z] => f y && g z
  | _ => false
def chkR1 (f : Cc → Expr → Bool) (C : Cc) (x : Str) (xs : List Expr) : Bool := decide (x = ("range" : Str)) && chk1 (fun y => simple y && f C y) xs
def chkR2 (f g : Cc → Expr → Bool) (C : Cc) (x : Str) (xs : List Expr) : Bool := decide (x = ("range" : Str)) && chk2 (fun y => simple y && f C y) (fun y => simple y && g C y) xs
def chkZ (n : Str) (k : Nat) (l : Cc → List Expr → Bool) (C : Cc) (x : Str) (xs : List Expr) : Bool := decide (x = n) && decide (xs.length = k) && l C xs
def Ck.it (f : Cc → Bool → Expr → Bool) : Ck := ⟨fun _ _ => false, fun _ _ _ => false, fun _ _ => false, fun _ _ => false, f⟩
def noArg : T → Bool
  | .nil => true
  | _ => false
/-- x, T of isinstance(x, T) -/
def chkIs (f : Expr → Bool) (g : Str → Bool) : List Expr → Bool
  | [y, .Name z _] => f y && g z
  | _ => false
def compB (own is : List Nat) (tp : Bool) (it : Cc → Bool → Expr → Bool) (elt : Cc → Expr → Bool) (cl : Cc → List Expr → Bool) (ce : Cc → Expr → Bool) (C : Cc) (e : Expr) : Bool := match e with
    | .ListComp y [⟨tg, iter, ifs, 0⟩] scope _ =>
      blkC C.N C.sc scope (ownOf C.N own) && decide ((ownOf C.N own).map (·.2) = own) && is.all (fun i => decide (i ∈ own)) && it C tp iter &&
        chkTgt C.N (fun x => cellOrLoc scope x) is tp tg && elt (C.inS scope) y && simple iter &&
        chkIf (cl C) (ce (C.inS scope)) ifs
    | _ => false
/-- x[::-1] -/
def revB (f : Expr → Bool) : Expr → Bool
  | .Subscript x (.Slice none none (some (.UnaryOp .USub (.Constant (.int j) _ _) _)) _) _ => decide (j = 1) && f x
  | _ => false
/-- D.get(x, y) -/
def getB (f : Str → Bool) (g h : Expr → Bool) : Expr → Bool
  | .Call (.Attribute (.Name x _) n apos) xs [] cpos => f x && decide (n = ("get" : Str)) && (apos.endLine == cpos.line) && chk2 g h xs
  | _ => false
theorem revB_shape {f : Expr → Bool} {e : Expr} (h : revB f e = true) : ∃ x k p1 p2 p3 p, e = .Subscript x (.Slice none none (some (.UnaryOp .USub (.Constant (.int 1) k p1) p2)) p3) p ∧ f x = true := by
  unfold revB at h
  split at h
  · simp only [Bool.and_eq_true, decide_eq_true_eq] at h
    obtain ⟨rfl, h⟩ := h
    exact ⟨_, _, _, _, _, _, rfl, h⟩
  · cases h
theorem getB_shape {f : Str → Bool} {g h : Expr → Bool} {e : Expr} (c : getB f g h e = true) : ∃ x p apos y z cpos, e = .Call (.Attribute (.Name x p) "get" apos) [y, z] [] cpos ∧ f x = true ∧ (apos.endLine == cpos.line) = true ∧ g y = true ∧ h z = true := by
  unfold getB at c
  split at c
  · simp only [Bool.and_eq_true, decide_eq_true_eq] at c
    obtain ⟨⟨⟨c1, rfl⟩, c2⟩, c3⟩ := c
    unfold chk2 at c3
    split at c3
    · rw [Bool.and_eq_true] at c3
      exact ⟨_, _, _, _, _, _, rfl, c1, c2, c3.1, c3.2⟩
    · cases c3
  · cases c
/-- x.n(y), x a name -/
def methB (n : Str) (f g : Expr → Bool) : Expr → Bool
  | .Call (.Attribute (.Name y p) m apos) [v] [] cpos => decide (m = n) && (apos.endLine == cpos.line) && f (.Name y p) && simple v && g v
  | _ => false
theorem methB_shape {n : Str} {f g : Expr → Bool} {e : Expr} (c : methB n f g e = true) : ∃ y p apos v cpos, e = .Call (.Attribute (.Name y p) n apos) [v] [] cpos ∧ (apos.endLine == cpos.line) = true ∧ f (.Name y p) = true ∧ simple v = true ∧ g v = true := by
  unfold methB at c
  split at c
  · simp only [Bool.and_eq_true, decide_eq_true_eq] at c
    obtain ⟨⟨⟨⟨rfl, c2⟩, c3⟩, c4⟩, c5⟩ := c
    exact ⟨_, _, _, _, _, rfl, c2, c3, c4, c5⟩
  · cases c
/-- the one parameter of a lambda -/
def oneArg : Arguments → Option Str
  | ⟨[], [⟨a, none, _⟩], none, [], [], none, []⟩ => some a
  | _ => none
/-- min(x, key=lambda a: body) -/
def minB (f : Expr → Bool) (g : Scope → Expr → Str → Bool) : Expr → Bool
  | .Call (.Name x _) [y] [⟨some k, .Lambda params body scope _, _⟩] _ => decide (x = ("min" : Str)) && decide (k = ("key" : Str)) && simple y && f y && (match oneArg params with
    | some a => g scope body a
    | none => false)
  | _ => false
def chk : T → Ck
  | .nil => { e := fun _ _ => false, b := fun _ _ _ => false, l := fun _ es => es.isEmpty, o := fun _ x => x.isNone, i := fun _ _ _ => false }
  | .cons a tl => { e := fun _ _ => false, b := fun _ _ _ => false, l := fun C es => match es with
      | x :: r => simple x && (chk a).e C x && (chk tl).l C r
      | [] => false, o := fun _ _ => false, i := fun _ _ _ => false }
  | .var i => .of fun C e => match e with
    | .Name x _ => decide (C.N[i]? = some x) && visB C.sc x && nmB x
    | _ => false
  | .non => .of fun _ e => match e with
    | .Constant .none _ _ => true
    | _ => false
  | .int i => .of fun _ e => match e with
    | .Constant (.int j) _ _ => decide (i = j)
    | _ => false
  | .str i => .of fun _ e => match e with
    | .Constant (.str j) _ _ => decide (i = j)
    | _ => false
  | .bl i => .of fun _ e => match e with
    | .Constant (.bool j) _ _ => decide (i = j)
    | _ => false
  | .glob g => .of fun C e => match e with
    | .Name x _ => decide (C.gls[g]? = some x) && glB C.sc x && nmB x
    | _ => false
  | .bin op a b => .of fun C e => match e with
    | .BinOp x o y _ => opB op o && (chk a).e C x && (chk b).e C y
    | _ => false
  | .neg a => .of fun C e => match e with
    | .UnaryOp .USub x _ => (chk a).e C x
    | _ => false
  | .not a => .of fun C e => match e with
    | .UnaryOp .Not x _ => (chk a).e C x
    | _ => false
  | .cmp op a b => .of fun C e => match e with
    | .Compare x [o] [y] _ => copB op o && (chk a).e C x && (chk b).e C y
    | _ => false
  | .chn o1 o2 a b c => .of fun C e => match e with
    | .Compare x [p1, p2] [y, z] _ => copB o1 p1 && copB o2 p2 && (chk a).e C x && (chk b).e C y && (chk c).e C z
    | _ => false
  | .isN a => .of fun C e => match e with
    | .Compare x [.Is] [.Constant .none _ _] _ => (chk a).e C x
    | _ => false
  | .isB b a => .of fun C e => match e with
    | .Compare x [.Is] [.Constant (.bool k) _ _] _ => decide (k = b) && (chk a).e C x
    | _ => false
  | .isNB b a => .of fun C e => match e with
    | .Compare x [.IsNot] [.Constant (.bool k) _ _] _ => decide (k = b) && (chk a).e C x
    | _ => false
  | .isNN a => .of fun C e => match e with
    | .Compare x [.IsNot] [.Constant .none _ _] _ => (chk a).e C x
    | _ => false
  | .and a b =>
    let f : Cc → BoolOp → List Expr → Bool := fun C op es => match op, es with
      | .And, x :: y :: r => (chk a).e C x && (chk b).b C .And (y :: r)
      | _, _ => false
    let k := Ck.of fun C e => match e with
      | .BoolOp op es _ => f C op es
      | _ => false
    ⟨k.e, fun C op es => k.b C op es || f C op es, k.l, k.o, k.i⟩
  | .or a b =>
    let f : Cc → BoolOp → List Expr → Bool := fun C op es => match op, es with
      | .Or, x :: y :: r => (chk a).e C x && (chk b).b C .Or (y :: r)
      | _, _ => false
    let k := Ck.of fun C e => match e with
      | .BoolOp op es _ => f C op es
      | _ => false
    ⟨k.e, fun C op es => k.b C op es || f C op es, k.l, k.o, k.i⟩
  | .ife c a b => .of fun C e => match e with
    | .IfExp z x y _ => (chk c).e C z && (chk a).e C x && (chk b).e C y
    | _ => false
  | .tup es => .of fun C e => match e with
    | .Tuple xs _ _ => (chk es).l C xs
    | _ => false
  | .lst es => .of fun C e => match e with
    | .List xs _ => (chk es).l C xs
    | _ => false
  | .ix a i => .of fun C e => match e with
    | .Subscript x y _ => simple y && (chk a).e C x && (chk i).e C y
    | _ => false
  | .sl a lo hi => .of fun C e => match e with
    | .Subscript x (.Slice l u none _) _ => (chk a).e C x && (chk lo).o C l && (chk hi).o C u
    | _ => false
  | .slr a => .of fun C e => revB ((chk a).e C) e
  | .ixn a i => .of fun C e => match e with
    | .Subscript x y _ => simple y && (chk a).e C x && (chk i).e C y
    | _ => false
  | .lnn a => .of (nameCall fun C x xs => decide (x = ("len" : Str)) && chk1 (fun y => simple y && (chk a).e C y) xs)
  | .gget g a d => .of fun C e => getB (fun x => decide (C.dss[g]? = some x) && glB C.sc x && nmB x) (fun y => simple y && (chk a).e C y) (fun y => simple y && (chk d).e C y) e
  | .callW f es => .of (nameCall fun C x xs => decide (C.fns[f]? = some x) && !xs.isEmpty && (chk es).l C xs)
  | .call f es => .of (nameCall fun C x xs => decide (C.fns[f]? = some x) && (!xs.isEmpty || noArg es) && (chk es).l C xs)
  | .blt b es => .of (nameCall fun C x xs => decide (x = blName b) && !xs.isEmpty && (chk es).l C xs)
  | .lof a => .of (nameCall fun C x xs => decide (x = ("list" : Str)) && chk1 (fun y => simple y && (chk a).e C y) xs)
  | .srt a => .of (nameCall fun C x xs => decide (x = ("sorted" : Str)) && chk1 (fun y => simple y && (chk a).e C y) xs)
  | .lrg a b => .of (nameCall fun C x xs => decide (x = ("list" : Str)) && chk1 (fun y => simple y && nameCall (chkR2 (chk a).e (chk b).e) C y) xs)
  | .isi a k => .of (nameCall fun C x xs => decide (x = ("isinstance" : Str)) && chkIs (fun y => simple y && (chk a).e C y) (fun z => decide (z = Str.ofString (kdName k)) && glB C.sc z) xs)
  | .comp own is tp it cond elt => .of (compB own is tp (chk it).i (chk elt).e (chk cond).l (chk cond).e)
  | .rng1 a => .it fun C _ e => nameCall (chkR1 (chk a).e) C e
  | .rng2 a b => .it fun C _ e => nameCall (chkR2 (chk a).e (chk b).e) C e
  | .zip es => .it fun C tp e => tp && nameCall (chkZ "zip" 2 (chk es).l) C e
  | .enm es => .it fun C tp e => tp && nameCall (chkZ "enumerate" 1 (chk es).l) C e
  | .rev a => .it fun C _ e => nameCall (fun C x xs => decide (x = ("reversed" : Str)) && chk1 (fun y => simple y && (chk a).e C y) xs) C e
  | .consL a tl => { e := fun _ _ => false, b := fun _ _ _ => false, l := fun C es => match es with
      | x :: r => simple x && (chk a).e C x && (chk tl).l C r
      | [] => false, o := fun _ _ => false, i := fun _ _ _ => false }
  | .consN a tl => { e := fun _ _ => false, b := fun _ _ _ => false, l := fun C es => match es with
      | x :: r => simple x && (chk a).e C x && (chk tl).l C r
      | [] => false, o := fun _ _ => false, i := fun _ _ _ => false }
  | .tupN es => .of fun C e => match e with
    | .Tuple xs _ _ => (chk es).l C xs
    | _ => false
  | .ixp a i => .of fun C e => match e with
    | .Subscript x y _ => simple y && (chk a).e C x && (chk i).e C y
    | _ => false
  | .pop x i => .of fun C e => methB "pop" ((chk x).e C) ((chk i).e C) e
  | .minl i it elt => .of fun C e => C.lam && !C.fns.isEmpty && glB C.sc "min" && minB ((chk it).e C) (fun scope body a => Lm.lam1B C.sc scope a && decide (C.N[i]? = some a) && (chk elt).e (C.inL scope) body) e
end Px

/-! Px5: the terms' meaning is what the machine does: expressions, rule by rule. -/
namespace Px
open PySem PySem.Spec PyProof.Rows L2

section
variable {X : Cx} {K : PySem.W.Frag} {m m' : Wd} {h h' : List O} {H H' : Hp}

/-- data handed on: into a wish of data that is kept -/
theorem Rel.kp {d : PyData} {Q : VK} (R : Rel K m h H) (q : ∀ m' v H', Ext m m' h h H H' → Rel K m' h H' → RD K m' h.length v (.p d) → Q v H') : Kp K m.G H d Q := fun v G' H' N r =>
  let ⟨R', E⟩ := R.new N
  q _ v H' E R' r
theorem sd_con {e : Expr} {v : V} {d : PyData} (he : PE X e (tC v)) (r : ∀ G, Rp X.K G v d) : PE X e (tD X.K fun _ => pure (.p d)) :=
  wkE he fun σ H Q ⟨m, ρ, h, d', h', R, S, e, q⟩ => by
    obtain ⟨rfl, rfl⟩ := pure_ok.mp e
    exact q m v H (Ext.refl _ _ _) R (r m.G)
theorem sd_var {i : Nat} {x : Str} {pos : Pos} (hN : X.N[i]? = some x) (hv : Vis X.env.scope x) (hd : (x == ("__debug__" : Str)) = false) (hcd : (x == ("__classdict__" : Str)) = false) :
    PE X (.Name x pos) (tD X.K fun ρ => M.opt (ρ[i]?.bind id)) :=
  wkE (pe_var hN hv hd hcd) fun σ H Q ⟨m, ρ, h, d, h', R, S, e, q⟩ => by
    obtain ⟨k1, rfl⟩ := opt_ok.mp e
    have e2 : ρ[i]? = some (some d) := by
      cases q : ρ[i]? with
      | none => rw [q] at k1; cases k1
      | some o =>
        rw [q] at k1
        have : o = some d := k1
        rw [this]
    obtain ⟨v, h1, h2⟩ := S.get i d e2
    exact ⟨v, h1, q m v H (Ext.refl _ _ _) R h2⟩
/-- two operands, then an operation by what they hold -/
theorem sd_two {fa fb : Env → M D} {σ : L2.St} {H : Hp} {z : Env → D → D → M D} {R2' : V → V → Hp → Prop} {Q : VK}
    (hw : tD K (fun ρ => do
      let x ← fa ρ
      let y ← fb ρ
      z ρ x y) σ H Q)
    (hz : ∀ m ρ h x y d h' v w H, Rel K m h H → SR K m h.length σ ρ → RD K m h.length v x → RD K m h.length w y → z ρ x y h = .ok d h' →
      (∀ m' u H', Ext m m' h h' H H' → Rel K m' h' H' → RD K m' h'.length u d → Q u H') → R2' v w H) :
    tD K fa σ H fun v H1 => tD K fb σ H1 fun w H2 => R2' v w H2 := by
  obtain ⟨m, ρ, h, d, h', R, S, e, q⟩ := hw
  obtain ⟨x, h1, e1, e⟩ := bnd_ok.mp e
  obtain ⟨y, h2, e2, e⟩ := bnd_ok.mp e
  refine ⟨m, ρ, h, x, h1, R, S, e1, fun m1 v H1 E1 R1 r1 => ⟨m1, ρ, h1, y, h2, R1, E1.sr S, e2, fun m2 w H2 E2 R2 r2 => ?_⟩⟩
  exact hz m2 ρ h2 x y d h' v w H2 R2 (E2.sr (E1.sr S)) (E2.rd r1) r2 e fun m3 u H3 E3 R3 r3 => q m3 u H3 ((E1.trans R1 E2).trans R2 E3) R3 r3
theorem sd_bin {op : BOp} {a b : Expr} {fa fb : Env → M D} {pos : Pos} (ha : PE X a (tD X.K fa)) (hb : PE X b (tD X.K fb)) : PE X (.BinOp a (opOf op) b pos) (tD X.K (eBin op fa fb)) :=
  wkE (pe_op (sound_bin op) ha hb) fun σ H Q hw => sd_two (z := fun _ => zBin op) hw fun m ρ h x y d h' v w H R _ r1 r2 e q => by
    obtain ⟨x', h1, e1, e⟩ := bnd_ok.mp e
    obtain ⟨k1, rfl⟩ := rd_ok.mp e1
    obtain ⟨y', h1, e2, e⟩ := bnd_ok.mp e
    obtain ⟨k2, rfl⟩ := rd_ok.mp e2
    obtain ⟨z, h1, e3, e⟩ := bnd_ok.mp e
    obtain ⟨k3, rfl⟩ := opt_ok.mp e3
    obtain ⟨rfl, rfl⟩ := pure_ok.mp e
    exact ⟨m.G, x', y', z, R.sub, R.drf r1 k1, R.drf r2 k2, k3, R.kp q⟩
theorem sd_cmp (hu : X.A.units + 65 < cLine) {op : COp} {a b : Expr} {fa fb : Env → M D} {pos : Pos} (ha : PE X a (tD X.K fa)) (hb : PE X b (tD X.K fb)) (hm : behindInMarks (cmpOf op) b = false) :
    PE X (.Compare a [cmpOf op] [b] pos) (tD X.K (eCmp op fa fb)) ∧ PT X (.Compare a [cmpOf op] [b] pos) (tT X.K (dTst (eCmp op fa fb))) := by
  have key : ∀ {m : Wd} {ρ : Env} {h h' : List O} {x y d : D} {v w : V} {H : Hp}, Rel X.K m h H → RD X.K m h.length v x → RD X.K m h.length w y → zCmp op x y h = .ok d h' → ∃ z, d = .p (.bool z) ∧ h = h' ∧ ∀ Q : VK, Q (.bl z) H → rC X.K op v w H Q := fun R r1 r2 e => by
    obtain ⟨x', h1, e1, e⟩ := bnd_ok.mp e
    obtain ⟨k1, rfl⟩ := rd_ok.mp e1
    obtain ⟨y', h1, e2, e⟩ := bnd_ok.mp e
    obtain ⟨k2, rfl⟩ := rd_ok.mp e2
    obtain ⟨z, h1, e3, e⟩ := bnd_ok.mp e
    obtain ⟨k3, rfl⟩ := opt_ok.mp e3
    obtain ⟨rfl, rfl⟩ := pure_ok.mp e
    exact ⟨z, rfl, rfl, fun Q q => ⟨_, x', y', z, R.sub, R.drf r1 k1, R.drf r2 k2, k3, q⟩⟩
  refine ⟨wkE (pe_cmpR (sound_cmp hu op) ha hb hm) fun σ H Q hw => sd_two (z := fun _ => zCmp op) hw fun m ρ h x y d h' v w H R _ r1 r2 e q => ?_, wkT (pt_cmpR (sound_cmp hu op) ha hb hm) fun σ H Q hw => ?_⟩
  · obtain ⟨z, rfl, rfl, k⟩ := key (ρ := ρ) R r1 r2 e
    exact k Q (q m _ H (Ext.refl _ _ _) R (.bl z))
  · obtain ⟨m, ρ, h, b', h', R, S, e, q⟩ := hw
    obtain ⟨d, h1, ee, et⟩ := bnd_ok.mp e
    refine sd_two (z := fun _ => zCmp op) (Q := fun u H1 => ∃ k, u = .bl k ∧ Q k H1) ⟨m, ρ, h, d, h1, R, S, ee, fun m1 u H1 E1 R1 r1 => ?_⟩ fun m ρ h x y d h' v w H R _ r1 r2 e q => ?_
    · obtain ⟨y, h2, e2, et⟩ := bnd_ok.mp et
      obtain ⟨k2, rfl⟩ := rd_ok.mp e2
      obtain ⟨k3, rfl⟩ := opt_ok.mp et
      have s := R1.drf r1 k2
      obtain ⟨x, h2, e4, ef⟩ := bnd_ok.mp ee
      obtain ⟨y', h3, e5, eg⟩ := bnd_ok.mp ef
      obtain ⟨x', h4, e6, eh⟩ := bnd_ok.mp eg
      obtain ⟨y'', h5, e7, ei⟩ := bnd_ok.mp eh
      obtain ⟨z, h6, e8, ej⟩ := bnd_ok.mp ei
      obtain ⟨rfl, rfl⟩ := pure_ok.mp ej
      simp only [drf, Option.some.injEq] at k2
      subst k2
      simp only [truthD, Option.some.injEq] at k3
      subst k3
      exact ⟨_, s.bl, q m1 H1 E1 R1⟩
    · obtain ⟨z, rfl, rfl, k⟩ := key (ρ := ρ) R r1 r2 e
      exact k _ (q m _ H (Ext.refl _ _ _) R (.bl z))
theorem sd_neg {a : Expr} {fa : Env → M D} {pos : Pos} (ha : PE X a (tD X.K fa)) : PE X (.UnaryOp .USub a pos) (tD X.K (eNeg fa)) :=
  wkE (pe_un un_neg ha) fun σ H Q ⟨m, ρ, h, d, h', R, S, e, q⟩ => by
    obtain ⟨x, h1, e1, e⟩ := bnd_ok.mp e
    obtain ⟨y, h2, e2, e⟩ := bnd_ok.mp e
    obtain ⟨k2, rfl⟩ := rd_ok.mp e2
    obtain ⟨i, h2, e3, e⟩ := bnd_ok.mp e
    obtain ⟨k3, rfl⟩ := opt_ok.mp e3
    obtain ⟨rfl, rfl⟩ := pure_ok.mp e
    refine ⟨m, ρ, h, x, h1, R, S, e1, fun m1 v H1 E1 R1 r1 => ?_⟩
    cases y <;> simp only [intOf, reduceCtorEq, Option.some.injEq] at k3
    subst k3
    exact ⟨_, (R1.drf r1 k2).int, q m1 _ H1 E1 R1 (.int _)⟩
/-- a value's truth as a test -/
theorem sd_tst {a : Expr} {fa : Env → M D} (ha : PE X a (tD X.K fa)) (he : ∀ whole, isTrue a X.env whole = (do let v ← whole; standAt a.pos; holding [v] (truthy v))) : PT X a (tT X.K (dTst fa)) :=
  wkT (pt_truth ha he) fun σ H Q ⟨m, ρ, h, b, h', R, S, e, q⟩ => by
    obtain ⟨x, h1, e1, e⟩ := bnd_ok.mp e
    obtain ⟨y, h2, e2, e⟩ := bnd_ok.mp e
    obtain ⟨k2, rfl⟩ := rd_ok.mp e2
    obtain ⟨k3, rfl⟩ := opt_ok.mp e
    exact ⟨m, ρ, h, x, h1, R, S, e1, fun m1 v H1 E1 R1 r1 => ⟨b, truth_of R1.sub (R1.drf r1 k2) k3, q m1 H1 E1 R1⟩⟩
theorem sd_not {a : Expr} {fa : Env → M Bool} {pos : Pos} (ha : PT X a (tT X.K fa)) : PT X (.UnaryOp .Not a pos) (tT X.K fun ρ => do
      let k ← fa ρ
      pure (!k)) :=
  wkT (pt_not ha) fun σ H Q ⟨m, ρ, h, b, h', R, S, e, q⟩ => by
    obtain ⟨k, h1, e1, e⟩ := bnd_ok.mp e
    obtain ⟨rfl, rfl⟩ := pure_ok.mp e
    exact ⟨m, ρ, h, k, h1, R, S, e1, fun m1 H1 E1 R1 => q m1 H1 E1 R1⟩
theorem sd_notV {a : Expr} {fa : Env → M D} {pos : Pos} (ha : PE X a (tD X.K fa)) : PE X (.UnaryOp .Not a pos) (tD X.K fun ρ => do
      let k ← dTst fa ρ
      pure (.p (.bool (!k)))) :=
  wkE (pe_notT ha) fun σ H Q ⟨m, ρ, h, b, h', R, S, e, q⟩ => by
    obtain ⟨k, h1, e1, e⟩ := bnd_ok.mp e
    obtain ⟨rfl, rfl⟩ := pure_ok.mp e
    obtain ⟨x, h1, e2, e1⟩ := bnd_ok.mp e1
    obtain ⟨y, h2, e3, e1⟩ := bnd_ok.mp e1
    obtain ⟨k3, rfl⟩ := rd_ok.mp e3
    obtain ⟨k4, rfl⟩ := opt_ok.mp e1
    exact ⟨m, ρ, h, x, _, R, S, e2, fun m1 v H1 E1 R1 r1 => ⟨k, truth_of R1.sub (R1.drf r1 k3) k4, q m1 _ H1 E1 R1 (.bl _)⟩⟩

theorem sd_ix {a b : Expr} {fa fb : Env → M D} {pos : Pos} (ha : PE X a (tD X.K fa)) (hb : PE X b (tD X.K fb)) (hs : PlainIx b) : PE X (.Subscript a b pos) (tD X.K (eIx fa fb)) :=
  wkE (pe_ix sound_ix ha hb hs) fun σ H Q hw => sd_two (z := fun _ => zIx) hw fun m ρ h x y d h' v w H R _ r1 r2 e q => by
    obtain ⟨x', h1, e1, e⟩ := bnd_ok.mp e
    obtain ⟨k1, rfl⟩ := rd_ok.mp e1
    obtain ⟨y', h1, e2, e⟩ := bnd_ok.mp e
    obtain ⟨k2, rfl⟩ := rd_ok.mp e2
    obtain ⟨z, h1, e3, e⟩ := bnd_ok.mp e
    obtain ⟨k3, rfl⟩ := opt_ok.mp e3
    obtain ⟨rfl, rfl⟩ := pure_ok.mp e
    exact ⟨m.G, x', y', z, R.sub, R.drf r1 k1, R.drf r2 k2, k3, R.kp q⟩
theorem sd_sl {a : Expr} {lo hi : Option Expr} {fa : Env → M D} {fl fu : Env → M (Option Int)} {pos p2 : Pos} (ha : PE X a (tD X.K fa)) (hl : PO X lo (tPt X.K fl)) (hu : PO X hi (tPt X.K fu)) :
    PE X (.Subscript a (.Slice lo hi none p2) pos) (tD X.K (eSl fa fl fu)) :=
  wkE (pe_slice sound_sl ha hl hu) fun σ H Q ⟨m, ρ, h, d, h', R, S, e, q⟩ => by
    obtain ⟨x, h1, e1, e⟩ := bnd_ok.mp e
    obtain ⟨l, h2, e2, e⟩ := bnd_ok.mp e
    obtain ⟨u, h3, e3, e⟩ := bnd_ok.mp e
    obtain ⟨y, h4, e4, e⟩ := bnd_ok.mp e
    obtain ⟨z, h5, e5, e⟩ := bnd_ok.mp e
    obtain ⟨k5, rfl⟩ := opt_ok.mp e5
    obtain ⟨rfl, rfl⟩ := pure_ok.mp e
    have er : h3 = h4 := by
      cases x with
      | s xs =>
        simp only [rdS, M.ret, Out.ok.injEq] at e4
        exact e4.2
      | p d => exact (rd_ok.mp e4).2
      | r n => exact (rd_ok.mp e4).2
      | t xs => exact (rd_ok.mp e4).2
    subst er
    refine ⟨m, ρ, h, x, h1, R, S, e1, fun m1 v H1 E1 R1 r1 => ⟨m1, ρ, h1, l, h2, R1, E1.sr S, e2, fun m2 H2 E2 R2 => ⟨m2, ρ, h2, u, h3, R2, E2.sr (E1.sr S), e3, fun m3 H3 E3 R3 => ?_⟩⟩⟩
    have r3 := E3.rd (E2.rd r1)
    refine ⟨m3.G, y, z, R3.sub, ?_, k5, R3.kp fun m4 w H4 E4 R4 r4 => q m4 w H4 (((E1.trans R1 E2).trans R2 E3).trans R3 E4) R4 r4⟩
    cases x with
    | s xs =>
      simp only [rdS, M.ret, Out.ok.injEq] at e4
      obtain ⟨rfl, _⟩ := e4
      obtain ⟨a, vs, rfl, h1, h2⟩ := r3
      exact .inr ⟨a, vs, xs, rfl, rfl, R3.sub.sqL h1, h2⟩
    | t d => exact .inl (R3.drf r3 (rd_ok.mp e4).1)
    | p d => exact .inl (R3.drf r3 (rd_ok.mp e4).1)
    | r n => exact .inl (R3.drf r3 (rd_ok.mp e4).1)
theorem sd_part0 : PO X none (tPt X.K fun _ => pure none) :=
  wkO po_none fun σ H Q ⟨m, ρ, h, d, h', R, S, e, q⟩ => by
    obtain ⟨rfl, rfl⟩ := pure_ok.mp e
    exact q m H (Ext.refl _ _ _) R
theorem sd_part {a : Expr} {fa : Env → M D} (ha : PE X a (tD X.K fa)) : PO X (some a) (tPt X.K fun ρ => do
    let x ← fa ρ
    let x ← rd x
    let i ← M.opt (intOf x)
    pure (some i)) :=
  wkO (po_some ha) fun σ H Q ⟨m, ρ, h, d, h', R, S, e, q⟩ => by
    obtain ⟨x, h1, e1, e⟩ := bnd_ok.mp e
    obtain ⟨y, h2, e2, e⟩ := bnd_ok.mp e
    obtain ⟨k2, rfl⟩ := rd_ok.mp e2
    obtain ⟨i, h2, e3, e⟩ := bnd_ok.mp e
    obtain ⟨k3, rfl⟩ := opt_ok.mp e3
    obtain ⟨rfl, rfl⟩ := pure_ok.mp e
    refine ⟨m, ρ, h, x, h1, R, S, e1, fun m1 v H1 E1 R1 r1 => ⟨i, ?_, q m1 H1 E1 R1⟩⟩
    cases y <;> simp only [intOf, reduceCtorEq, Option.some.injEq] at k3
    subst k3
    exact (R1.drf r1 k2).int
theorem sd_isN {a : Expr} {fa : Env → M D} {j : Nat} {pos pos' : Pos} (ha : PE X a (tD X.K fa)) :
    PE X (.Compare a [.Is] [.Constant .none j pos'] pos) (tD X.K fun ρ => do
      let x ← fa ρ
      pure (.p (.bool (isNone x)))) ∧ PT X (.Compare a [.Is] [.Constant .none j pos'] pos) (tT X.K (dTst fun ρ => do
      let x ← fa ρ
      pure (.p (.bool (isNone x))))) := by
  have key : ∀ {m : Wd} {n : Nat} {v : V} {x : D}, RD X.K m n v x → decide (v = V.non) = isNone x := fun {m n v x} r => by
    cases x with
    | p d => cases r <;> simp [isNone]
    | r k => obtain ⟨_, rfl⟩ := r; simp [isNone]
    | s xs => obtain ⟨_, _, rfl, _⟩ := r; simp [isNone]
    | t xs => obtain ⟨_, _, rfl, _⟩ := r; simp [isNone]
  refine ⟨wkE (pe_cmpR op_isN ha pe_non (nomark _)) fun σ H Q ⟨m, ρ, h, d, h', R, S, e, q⟩ => ?_, wkT (pt_cmpR op_isN ha pe_non (nomark _)) fun σ H Q ⟨m, ρ, h, b, h', R, S, e, q⟩ => ?_⟩
  · obtain ⟨x, h1, e1, e⟩ := bnd_ok.mp e
    obtain ⟨rfl, rfl⟩ := pure_ok.mp e
    exact ⟨m, ρ, h, x, h1, R, S, e1, fun m1 v H1 E1 R1 r1 => ⟨rfl, q m1 _ H1 E1 R1 (by rw [key r1]; exact .bl _)⟩⟩
  · obtain ⟨d, h1, e1, e⟩ := bnd_ok.mp e
    obtain ⟨y, h2, e2, e⟩ := bnd_ok.mp e
    obtain ⟨k2, rfl⟩ := rd_ok.mp e2
    obtain ⟨k3, rfl⟩ := opt_ok.mp e
    obtain ⟨x, h2, e3, e1⟩ := bnd_ok.mp e1
    obtain ⟨rfl, rfl⟩ := pure_ok.mp e1
    simp only [drf, Option.some.injEq] at k2
    subst k2
    simp only [truthD, Option.some.injEq] at k3
    subst k3
    exact ⟨m, ρ, h, x, _, R, S, e3, fun m1 v H1 E1 R1 r1 => ⟨rfl, _, rfl, by rw [key r1]; exact q m1 H1 E1 R1⟩⟩
theorem sd_isNN {a : Expr} {fa : Env → M D} {j : Nat} {pos pos' : Pos} (ha : PE X a (tD X.K fa)) :
    PE X (.Compare a [.IsNot] [.Constant .none j pos'] pos) (tD X.K fun ρ => do
      let x ← fa ρ
      pure (.p (.bool (!isNone x)))) ∧ PT X (.Compare a [.IsNot] [.Constant .none j pos'] pos) (tT X.K (dTst fun ρ => do
      let x ← fa ρ
      pure (.p (.bool (!isNone x))))) := by
  have key : ∀ {m : Wd} {n : Nat} {v : V} {x : D}, RD X.K m n v x → decide (v = V.non) = isNone x := fun {m n v x} r => by
    cases x with
    | p d => cases r <;> simp [isNone]
    | r k => obtain ⟨_, rfl⟩ := r; simp [isNone]
    | s xs => obtain ⟨_, _, rfl, _⟩ := r; simp [isNone]
    | t xs => obtain ⟨_, _, rfl, _⟩ := r; simp [isNone]
  refine ⟨wkE (pe_cmpR op_notN ha pe_non (nomark _)) fun σ H Q ⟨m, ρ, h, d, h', R, S, e, q⟩ => ?_, wkT (pt_cmpR op_notN ha pe_non (nomark _)) fun σ H Q ⟨m, ρ, h, b, h', R, S, e, q⟩ => ?_⟩
  · obtain ⟨x, h1, e1, e⟩ := bnd_ok.mp e
    obtain ⟨rfl, rfl⟩ := pure_ok.mp e
    exact ⟨m, ρ, h, x, h1, R, S, e1, fun m1 v H1 E1 R1 r1 => ⟨rfl, q m1 _ H1 E1 R1 (by rw [key r1]; exact .bl _)⟩⟩
  · obtain ⟨d, h1, e1, e⟩ := bnd_ok.mp e
    obtain ⟨y, h2, e2, e⟩ := bnd_ok.mp e
    obtain ⟨k2, rfl⟩ := rd_ok.mp e2
    obtain ⟨k3, rfl⟩ := opt_ok.mp e
    obtain ⟨x, h2, e3, e1⟩ := bnd_ok.mp e1
    obtain ⟨rfl, rfl⟩ := pure_ok.mp e1
    simp only [drf, Option.some.injEq] at k2
    subst k2
    simp only [truthD, Option.some.injEq] at k3
    subst k3
    exact ⟨m, ρ, h, x, _, R, S, e3, fun m1 v H1 E1 R1 r1 => ⟨rfl, _, rfl, by rw [key r1]; exact q m1 H1 E1 R1⟩⟩
theorem sd_isB {a : Expr} {fa : Env → M D} {b : Bool} {j : Nat} {pos pos' : Pos} (ha : PE X a (tD X.K fa)) :
    PE X (.Compare a [.Is] [.Constant (.bool b) j pos'] pos) (tD X.K fun ρ => do
      let x ← fa ρ
      let x ← rd x
      let k ← M.opt (isBD b x)
      pure (.p (.bool k))) ∧ PT X (.Compare a [.Is] [.Constant (.bool b) j pos'] pos) (tT X.K (dTst fun ρ => do
      let x ← fa ρ
      let x ← rd x
      let k ← M.opt (isBD b x)
      pure (.p (.bool k)))) := by
  refine ⟨wkE (pe_cmpR op_is_bl ha pe_bl (nomark _)) fun σ H Q ⟨m, ρ, h, d, h', R, S, e, q⟩ => ?_, wkT (pt_cmpR op_is_bl ha pe_bl (nomark _)) fun σ H Q ⟨m, ρ, h, c, h', R, S, e, q⟩ => ?_⟩
  · obtain ⟨x, h1, e1, e⟩ := bnd_ok.mp e
    obtain ⟨y, h2, e2, e⟩ := bnd_ok.mp e
    obtain ⟨k2, rfl⟩ := rd_ok.mp e2
    obtain ⟨z, h2, e3, e⟩ := bnd_ok.mp e
    obtain ⟨k3, rfl⟩ := opt_ok.mp e3
    obtain ⟨rfl, rfl⟩ := pure_ok.mp e
    refine ⟨m, ρ, h, x, _, R, S, e1, fun m1 v H1 E1 R1 r1 => ?_⟩
    cases y <;> simp only [isBD, reduceCtorEq, Option.some.injEq] at k3
    subst k3
    exact ⟨_, _, (R1.drf r1 k2).bl, rfl, q m1 _ H1 E1 R1 (.bl _)⟩
  · obtain ⟨d, h1, e1, e⟩ := bnd_ok.mp e
    obtain ⟨y, h2, e2, e⟩ := bnd_ok.mp e
    obtain ⟨k2, rfl⟩ := rd_ok.mp e2
    obtain ⟨k3, rfl⟩ := opt_ok.mp e
    obtain ⟨x, h3, e3, e1⟩ := bnd_ok.mp e1
    obtain ⟨u, h4, e4, e1⟩ := bnd_ok.mp e1
    obtain ⟨k4, rfl⟩ := rd_ok.mp e4
    obtain ⟨z, h4, e5, e1⟩ := bnd_ok.mp e1
    obtain ⟨k5, rfl⟩ := opt_ok.mp e5
    obtain ⟨rfl, rfl⟩ := pure_ok.mp e1
    simp only [drf, Option.some.injEq] at k2
    subst k2
    simp only [truthD, Option.some.injEq] at k3
    subst k3
    refine ⟨m, ρ, h, x, _, R, S, e3, fun m1 v H1 E1 R1 r1 => ?_⟩
    cases u <;> simp only [isBD, reduceCtorEq, Option.some.injEq] at k5
    subst k5
    exact ⟨_, _, (R1.drf r1 k4).bl, rfl, _, rfl, q m1 H1 E1 R1⟩
theorem sd_isNB {a : Expr} {fa : Env → M D} {b : Bool} {j : Nat} {pos pos' : Pos} (ha : PE X a (tD X.K fa)) :
    PE X (.Compare a [.IsNot] [.Constant (.bool b) j pos'] pos) (tD X.K fun ρ => do
      let x ← fa ρ
      let x ← rd x
      let k ← M.opt (isBD b x)
      pure (.p (.bool (!k)))) ∧ PT X (.Compare a [.IsNot] [.Constant (.bool b) j pos'] pos) (tT X.K (dTst fun ρ => do
      let x ← fa ρ
      let x ← rd x
      let k ← M.opt (isBD b x)
      pure (.p (.bool (!k))))) := by
  refine ⟨wkE (pe_cmpR op_isnot_bl ha pe_bl (nomark _)) fun σ H Q ⟨m, ρ, h, d, h', R, S, e, q⟩ => ?_, wkT (pt_cmpR op_isnot_bl ha pe_bl (nomark _)) fun σ H Q ⟨m, ρ, h, c, h', R, S, e, q⟩ => ?_⟩
  · obtain ⟨x, h1, e1, e⟩ := bnd_ok.mp e
    obtain ⟨y, h2, e2, e⟩ := bnd_ok.mp e
    obtain ⟨k2, rfl⟩ := rd_ok.mp e2
    obtain ⟨z, h2, e3, e⟩ := bnd_ok.mp e
    obtain ⟨k3, rfl⟩ := opt_ok.mp e3
    obtain ⟨rfl, rfl⟩ := pure_ok.mp e
    refine ⟨m, ρ, h, x, _, R, S, e1, fun m1 v H1 E1 R1 r1 => ?_⟩
    cases y <;> simp only [isBD, reduceCtorEq, Option.some.injEq] at k3
    subst k3
    exact ⟨_, _, (R1.drf r1 k2).bl, rfl, q m1 _ H1 E1 R1 (.bl _)⟩
  · obtain ⟨d, h1, e1, e⟩ := bnd_ok.mp e
    obtain ⟨y, h2, e2, e⟩ := bnd_ok.mp e
    obtain ⟨k2, rfl⟩ := rd_ok.mp e2
    obtain ⟨k3, rfl⟩ := opt_ok.mp e
    obtain ⟨x, h3, e3, e1⟩ := bnd_ok.mp e1
    obtain ⟨u, h4, e4, e1⟩ := bnd_ok.mp e1
    obtain ⟨k4, rfl⟩ := rd_ok.mp e4
    obtain ⟨z, h4, e5, e1⟩ := bnd_ok.mp e1
    obtain ⟨k5, rfl⟩ := opt_ok.mp e5
    obtain ⟨rfl, rfl⟩ := pure_ok.mp e1
    simp only [drf, Option.some.injEq] at k2
    subst k2
    simp only [truthD, Option.some.injEq] at k3
    subst k3
    refine ⟨m, ρ, h, x, _, R, S, e3, fun m1 v H1 E1 R1 r1 => ?_⟩
    cases u <;> simp only [isBD, reduceCtorEq, Option.some.injEq] at k5
    subst k5
    exact ⟨_, _, (R1.drf r1 k4).bl, rfl, _, rfl, q m1 H1 E1 R1⟩
/-! and, or, .. if .. else -/
theorem sd_andT {a b : Expr} {rest : List Expr} {pos : Pos} {fa fb : Env → M Bool} (ha : PT X a (tT X.K fa)) (hb : PW X (.BoolOp .And (b :: rest) pos) (tT X.K fb)) : PW X (.BoolOp .And (a :: b :: rest) pos) (tT X.K fun ρ => do
      let k ← fa ρ
      if k then fb ρ else pure false) :=
  wkW (pw_and ha hb) fun σ H Q ⟨m, ρ, h, d, h', R, S, e, q⟩ => by
    obtain ⟨k, h1, e1, e⟩ := bnd_ok.mp e
    refine ⟨m, ρ, h, k, h1, R, S, e1, fun m1 H1 E1 R1 => ?_⟩
    cases k with
    | true => exact iteT ⟨m1, ρ, h1, d, h', R1, E1.sr S, e, fun m2 H2 E2 R2 => q m2 H2 (E1.trans R1 E2) R2⟩
    | false =>
      obtain ⟨rfl, rfl⟩ := pure_ok.mp e
      exact iteF (q m1 H1 E1 R1)
theorem sd_orT {a b : Expr} {rest : List Expr} {pos : Pos} {fa fb : Env → M Bool} (ha : PT X a (tT X.K fa)) (hb : PW X (.BoolOp .Or (b :: rest) pos) (tT X.K fb)) : PW X (.BoolOp .Or (a :: b :: rest) pos) (tT X.K fun ρ => do
      let k ← fa ρ
      if k then pure true else fb ρ) :=
  wkW (pw_or ha hb) fun σ H Q ⟨m, ρ, h, d, h', R, S, e, q⟩ => by
    obtain ⟨k, h1, e1, e⟩ := bnd_ok.mp e
    refine ⟨m, ρ, h, k, h1, R, S, e1, fun m1 H1 E1 R1 => ?_⟩
    cases k with
    | false => exact iteF ⟨m1, ρ, h1, d, h', R1, E1.sr S, e, fun m2 H2 E2 R2 => q m2 H2 (E1.trans R1 E2) R2⟩
    | true =>
      obtain ⟨rfl, rfl⟩ := pure_ok.mp e
      exact iteT (q m1 H1 E1 R1)
theorem sd_andV {a b : Expr} {rest : List Expr} {pos : Pos} {fa fb : Env → M D} (ha : PE X a (tD X.K fa)) (hb : PE X (.BoolOp .And (b :: rest) pos) (tD X.K fb)) : PE X (.BoolOp .And (a :: b :: rest) pos) (tD X.K (eAnd fa fb)) :=
  wkE (pe_andT ha hb) fun σ H Q ⟨m, ρ, h, d, h', R, S, e, q⟩ => by
    obtain ⟨x, h1, e1, e⟩ := bnd_ok.mp e
    obtain ⟨y, h2, e2, e⟩ := bnd_ok.mp e
    obtain ⟨k2, rfl⟩ := rd_ok.mp e2
    obtain ⟨k, h2, e3, e⟩ := bnd_ok.mp e
    obtain ⟨k3, rfl⟩ := opt_ok.mp e3
    refine ⟨m, ρ, h, x, h1, R, S, e1, fun m1 v H1 E1 R1 r1 => ⟨k, truth_of R1.sub (R1.drf r1 k2) k3, ?_⟩⟩
    cases k with
    | true => exact iteT ⟨m1, ρ, h1, d, h', R1, E1.sr S, e, fun m2 w H2 E2 R2 r2 => q m2 w H2 (E1.trans R1 E2) R2 r2⟩
    | false =>
      obtain ⟨rfl, rfl⟩ := pure_ok.mp e
      exact iteF (q m1 v H1 E1 R1 r1)
theorem sd_orV {a b : Expr} {rest : List Expr} {pos : Pos} {fa fb : Env → M D} (ha : PE X a (tD X.K fa)) (hb : PE X (.BoolOp .Or (b :: rest) pos) (tD X.K fb)) : PE X (.BoolOp .Or (a :: b :: rest) pos) (tD X.K (eOr fa fb)) :=
  wkE (pe_orT ha hb) fun σ H Q ⟨m, ρ, h, d, h', R, S, e, q⟩ => by
    obtain ⟨x, h1, e1, e⟩ := bnd_ok.mp e
    obtain ⟨y, h2, e2, e⟩ := bnd_ok.mp e
    obtain ⟨k2, rfl⟩ := rd_ok.mp e2
    obtain ⟨k, h2, e3, e⟩ := bnd_ok.mp e
    obtain ⟨k3, rfl⟩ := opt_ok.mp e3
    refine ⟨m, ρ, h, x, h1, R, S, e1, fun m1 v H1 E1 R1 r1 => ⟨k, truth_of R1.sub (R1.drf r1 k2) k3, ?_⟩⟩
    cases k with
    | false => exact iteF ⟨m1, ρ, h1, d, h', R1, E1.sr S, e, fun m2 w H2 E2 R2 r2 => q m2 w H2 (E1.trans R1 E2) R2 r2⟩
    | true =>
      obtain ⟨rfl, rfl⟩ := pure_ok.mp e
      exact iteT (q m1 v H1 E1 R1 r1)
theorem sd_ife {c a b : Expr} {pos : Pos} {fc : Env → M Bool} {fa fb : Env → M D} (hc : PT X c (tT X.K fc)) (ha : PE X a (tD X.K fa)) (hb : PE X b (tD X.K fb)) : PE X (.IfExp c a b pos) (tD X.K fun ρ => do
      let k ← fc ρ
      if k then fa ρ else fb ρ) :=
  wkE (pe_ifExp hc ha hb) fun σ H Q ⟨m, ρ, h, d, h', R, S, e, q⟩ => by
    obtain ⟨k, h1, e1, e⟩ := bnd_ok.mp e
    refine ⟨m, ρ, h, k, h1, R, S, e1, fun m1 H1 E1 R1 => ?_⟩
    cases k with
    | true => exact iteT ⟨m1, ρ, h1, d, h', R1, E1.sr S, e, fun m2 w H2 E2 R2 r2 => q m2 w H2 (E1.trans R1 E2) R2 r2⟩
    | false => exact iteF ⟨m1, ρ, h1, d, h', R1, E1.sr S, e, fun m2 w H2 E2 R2 r2 => q m2 w H2 (E1.trans R1 E2) R2 r2⟩
theorem pt_ifExp {c a b : Expr} {pos : Pos} {tc ta tb : TT} (hc : PT X c tc) (ha : PT X a ta) (hb : PT X b tb) : PT X (.IfExp c a b pos) (fun σ H Q => tc σ H fun k H1 => if k = true then ta σ H1 Q else tb σ H1 Q) := by
  refine ⟨fun pins s σ H Q I hw => ?_⟩
  rw [show isTrue (.IfExp c a b pos) X.env (eval (.IfExp c a b pos) X.env) = (do
    if ← isTrue c X.env (eval c X.env) then isTrue a X.env (eval a X.env) else isTrue b X.env (eval b X.env)) from rfl]
  refine wpAny_bind (thn (hc.run pins s σ H _ I hw) fun k s1 ⟨H1, I1, q1⟩ => ?_)
  cases k with
  | true => exact ha.run pins s1 σ H1 Q I1 (by rw [if_pos rfl] at q1; exact q1)
  | false => exact hb.run pins s1 σ H1 Q I1 (by rw [if_neg Bool.false_ne_true] at q1; exact q1)
theorem sd_ifeT {c a b : Expr} {pos : Pos} {fc fa fb : Env → M Bool} (hc : PT X c (tT X.K fc)) (ha : PT X a (tT X.K fa)) (hb : PT X b (tT X.K fb)) : PT X (.IfExp c a b pos) (tT X.K fun ρ => do
      let k ← fc ρ
      if k then fa ρ else fb ρ) :=
  wkT (pt_ifExp hc ha hb) fun σ H Q ⟨m, ρ, h, d, h', R, S, e, q⟩ => by
    obtain ⟨k, h1, e1, e⟩ := bnd_ok.mp e
    refine ⟨m, ρ, h, k, h1, R, S, e1, fun m1 H1 E1 R1 => ?_⟩
    cases k with
    | true => exact iteT ⟨m1, ρ, h1, d, h', R1, E1.sr S, e, fun m2 H2 E2 R2 => q m2 H2 (E1.trans R1 E2) R2⟩
    | false => exact iteF ⟨m1, ρ, h1, d, h', R1, E1.sr S, e, fun m2 H2 E2 R2 => q m2 H2 (E1.trans R1 E2) R2⟩
end
end Px

/-! Px6: arguments, displays, calls. -/
namespace Px
open PySem PySem.Spec PyProof.Rows L2

theorem star_cons {e : Expr} {es : List Expr} {env : L2.Cx} (h : simple e = true) : starEach (e :: es) env.env = (false, eval e env.env) :: starEach es env.env := by
  cases e <;> first
    | rfl
    | (simp [simple] at h)
theorem star_any {X : Cx} {pos : Pos} : ∀ {es : List Expr}, (∀ e ∈ es, simple e = true) → (backTo pos (starEach es X.env)).any (·.1) = false
  | [], _ => rfl
  | e :: r, h => by
    rw [star_cons (h e (by simp))]
    show (backTo pos ((false, eval e X.env) :: starEach r X.env)).any (·.1) = false
    unfold backTo
    rw [List.map_cons, List.any_cons]
    exact star_any (es := r) fun x hx => h x (by simp [hx])
theorem plain_ix {e : Expr} (h : simple e = true) : PlainIx e := fun o i => by
  cases e <;> first
    | rfl
    | (simp [simple] at h)
theorem folded_none {X : Cx} {e : Expr} (h : ∀ a b c, e ≠ .Set a b c) : ∀ x, foldedSetIterable e X.env x = pure x := fun x => by
  cases e <;> first
    | rfl
    | exact absurd rfl (h _ _ _)
section
variable {X : Cx} {K : PySem.W.Frag} {m m' : Wd} {h h' : List O} {H H' : Hp}
theorem sd_ar0 : PA X [] (tAr X.K fun _ => pure []) :=
  wkA pa_nil fun σ H Q ⟨m, ρ, h, d, h', R, S, e, q⟩ => by
    obtain ⟨rfl, rfl⟩ := pure_ok.mp e
    exact q m [] H (Ext.refl _ _ _) R .nil
theorem sd_ar1 {a : Expr} {es : List Expr} {fa : Env → M D} {fs : Env → M (List D)} (hs : simple a = true) (ha : PE X a (tD X.K fa)) (hr : PA X es (tAr X.K fs)) : PA X (a :: es) (tAr X.K fun ρ => do
      let x ← fa ρ
      let xs ← fs ρ
      pure (x :: xs)) :=
  wkA (pa_cons ha hr (star_cons hs)) fun σ H Q ⟨m, ρ, h, d, h', R, S, e, q⟩ => by
    obtain ⟨x, h1, e1, e⟩ := bnd_ok.mp e
    obtain ⟨xs, h2, e2, e⟩ := bnd_ok.mp e
    obtain ⟨rfl, rfl⟩ := pure_ok.mp e
    exact ⟨m, ρ, h, x, h1, R, S, e1, fun m1 v H1 E1 R1 r1 => ⟨m1, ρ, h1, xs, h2, R1, E1.sr S, e2, fun m2 vs H2 E2 R2 r2 => q m2 _ H2 (E1.trans R1 E2) R2 (.cons (E2.rd r1) r2)⟩⟩
theorem sd_vs0 : PA X [] (tVs X.K fun _ => pure []) :=
  wkA pa_nil fun σ H Q ⟨m, ρ, h, d, h', R, S, e, q⟩ => by
    obtain ⟨rfl, rfl⟩ := pure_ok.mp e
    exact q m [] H (Ext.refl _ _ _) R .nil
theorem sd_vs1 {a : Expr} {es : List Expr} {fa : Env → M D} {fs : Env → M (List PyData)} (hs : simple a = true) (ha : PE X a (tD X.K fa)) (hr : PA X es (tVs X.K fs)) : PA X (a :: es) (tVs X.K fun ρ => do
      let x ← fa ρ
      let x ← val x
      let xs ← fs ρ
      pure (x :: xs)) :=
  wkA (pa_cons ha hr (star_cons hs)) fun σ H Q ⟨m, ρ, h, d, h', R, S, e, q⟩ => by
    obtain ⟨x, h1, e1, e⟩ := bnd_ok.mp e
    obtain ⟨y, h2, e2, e⟩ := bnd_ok.mp e
    obtain ⟨xs, h3, e3, e⟩ := bnd_ok.mp e
    obtain ⟨rfl, rfl⟩ := pure_ok.mp e
    refine ⟨m, ρ, h, x, h1, R, S, e1, fun m1 v H1 E1 R1 r1 => ?_⟩
    obtain ⟨G', R2, E2, r2⟩ := R1.val r1 e2
    exact ⟨_, ρ, h2, xs, h3, R2, E2.sr (E1.sr S), e3, fun m3 vs H3 E3 R3 r3 => q m3 _ H3 ((E1.trans R1 E2).trans R2 E3) R3 (.cons (r2.mono E3.g) r3)⟩
theorem sd_tup {es : List Expr} {fs : Env → M (List PyData)} {k : Nat} {pos : Pos} (hr : PA X es (tVs X.K fs)) : PE X (.Tuple es k pos) (tD X.K fun ρ => do
    let ds ← fs ρ
    if ds.length ≤ 2 ^ 23 then pure (.p (.tuple ds)) else M.no) :=
  wkE (pe_tup hr) fun σ H Q ⟨m, ρ, h, d, h', R, S, e, q⟩ => by
    obtain ⟨ds, h1, e1, e⟩ := bnd_ok.mp e
    rw [ite_ok] at e
    split at e
    · rename_i hl
      obtain ⟨rfl, rfl⟩ := pure_ok.mp e
      refine ⟨m, ρ, h, ds, h1, R, S, e1, fun m1 vs H1 E1 R1 r1 => ⟨by rw [r1.len]; exact rw23 hl, fun p hp => ?_⟩⟩
      exact (R1.kp (Q := Q) fun m2 v H2 E2 R2 r2 => q m2 v H2 (E1.trans R1 E2) R2 r2).tup R1.sub r1 hp
    · exact (no_ok.mp e).elim
/-- from a new list to one that is settled -/
theorem fr_wish {f : Env → M (List PyData)} {σ : L2.St} {Q : VK} (hw : tD K (fun ρ => do
    let xs ← f ρ
    pure (.p (.list xs))) σ H Q) : tFr K f σ H Q := by
    obtain ⟨m, ρ, h, d, h', R, S, e, q⟩ := hw
    obtain ⟨ds, h1, e1, e⟩ := bnd_ok.mp e
    obtain ⟨rfl, rfl⟩ := pure_ok.mp e
    refine ⟨m, ρ, h, ds, h1, R, S, e1, fun m1 p vs H1 E1 R1 hp r1 g ne nw => ?_⟩
    have sg : Sub m1.G (upd m1.G p (.lst vs)) := Sub.upd g
    refine q { m1 with G := upd m1.G p (.lst vs) } _ H1 ⟨E1.g.trans sg, E1.io, E1.len, E1.fr, E1.nw, fun a o z => ?_⟩ ⟨fun a o z => ?_, fun n xs z => ?_, fun n xs z => ?_, fun n xs z => ?_, R1.inj, R1.tab, gt_upd R1.gt⟩ (.lst upd_same (r1.mono sg))
    · have z : upd m1.G p (.lst vs) a = some o := z
      by_cases ha : a = p
      · subst ha; exact .inr (.inl nw)
      · rw [upd_ne ha] at z; exact E1.gn a o z
    · have z : upd m1.G p (.lst vs) a = some o := z
      by_cases ha : a = p
      · subst ha; rw [upd_same] at z; rw [hp]; exact z
      · rw [upd_ne ha] at z; exact R1.sub _ _ z
    · obtain ⟨k1, ws, k2, k3⟩ := R1.liv n xs z
      refine ⟨?_, ws, k2, k3.mono sg⟩
      show upd m1.G p (.lst vs) (m1.io n) = none
      rw [upd_ne (ne n (List.getElem?_eq_some_iff.mp z).1)]; exact k1
    · obtain ⟨ws, k1, k2⟩ := R1.frz n xs z
      exact ⟨ws, sg _ _ k1, k2.mono sg⟩
    · obtain ⟨k1, ws, k2, k3⟩ := R1.nst n xs z
      refine ⟨?_, ws, k2, RDL.ext (m := m1) (m' := { m1 with G := upd m1.G p (.lst vs) }) sg (fun _ _ => rfl) (Nat.le_refl _) k3⟩
      show upd m1.G p (.lst vs) (m1.io n) = none
      rw [upd_ne (ne n (List.getElem?_eq_some_iff.mp z).1)]; exact k1
theorem fr_ev {e : Expr} {f : Env → M (List PyData)} (hf : PE X e (tFr X.K f)) : PE X e (tD X.K fun ρ => do
    let xs ← f ρ
    pure (.p (.list xs))) := wkE hf fun σ H Q hw => fr_wish hw
/-- a list just laid at p -/
theorem fr_laid {xs : List PyData} {vs : List V} {p : Addr} {Q : VK} (R : Rel K m h H) (r : RpL K m.G vs xs) (hp : H p = none)
    (q : ∀ m' p vs H', Ext m m' h h H H' → Rel K m' h H' → H' p = some (.lst vs) → RpL K m'.G vs xs → m'.G p = none → (∀ n, n < h.length → m'.io n ≠ p) → H p = none → Q (.ref p) H') : Q (.ref p) (upd H p (.lst vs)) := by
  have ne : ∀ n, n < h.length → m.io n ≠ p := fun n hn z => by
    obtain ⟨o, e⟩ := R.trk hn
    rw [z, hp] at e; cases e
  have hg : m.G p = none := by
    cases e : m.G p with
    | none => rfl
    | some u => rw [R.sub _ _ e] at hp; cases hp
  refine q m p vs _ ⟨Sub.refl _, fun _ _ => rfl, Nat.le_refl _, fun a o e _ => .inl (Sub.upd hp a o e), fun _ a b => absurd (Nat.lt_of_lt_of_le b a) (Nat.lt_irrefl _), fun _ _ e => .inl e⟩
    ⟨fun a o e => Sub.upd hp a o (R.sub _ _ e), fun n xs e => ?_, R.frz, fun n xs e => ?_, R.inj, R.tab.ext fun b o e => Sub.upd hp b o e, R.gt⟩ upd_same r hg ne hp
  · obtain ⟨k1, ws, k2, k3⟩ := R.liv n xs e
    exact ⟨k1, ws, Sub.upd hp _ _ k2, k3⟩
  · obtain ⟨k1, ws, k2, k3⟩ := R.nst n xs e
    exact ⟨k1, ws, Sub.upd hp _ _ k2, k3⟩
theorem sd_lst {es : List Expr} {fs : Env → M (List PyData)} {pos : Pos} (hr : PA X es (tVs X.K fs)) : PE X (.List es pos) (tFr X.K fun ρ => do
    let ds ← fs ρ
    if ds.length ≤ 2 ^ 23 then pure ds else M.no) :=
  wkE (pe_lst hr) fun σ H Q ⟨m, ρ, h, d, h', R, S, e, q⟩ => by
    obtain ⟨ds, h1, e1, e⟩ := bnd_ok.mp e
    rw [ite_ok] at e
    split at e
    · rename_i hl
      obtain ⟨rfl, rfl⟩ := pure_ok.mp e
      refine ⟨m, ρ, h, ds, h1, R, S, e1, fun m1 vs H1 E1 R1 r1 => ⟨by rw [r1.len]; exact rw23 hl, fun p hp => ?_⟩⟩
      exact fr_laid R1 r1 hp fun m2 p vs H2 E2 R2 a b c d f => q m2 p vs H2 (E1.trans R1 E2) R2 a b c d (by
        cases z : H p with
        | none => rfl
        | some o =>
          exfalso
          by_cases w : ∃ n, n < h.length ∧ m.io n = p
          · obtain ⟨n, hn, rfl⟩ := w
            exact d n (Nat.lt_of_lt_of_le hn E1.len) (by rw [E2.io n (Nat.lt_of_lt_of_le hn E1.len), E1.io n hn])
          · exact E1.frN z (fun n hn y => w ⟨n, hn, y⟩) f)
    · exact (no_ok.mp e).elim
/-- new behind what came about before -/
theorem Ext.old {p : Addr} {m2 : Wd} {h2 : List O} (E1 : Ext m m' h h' H H') (ne : ∀ n, n < h'.length → m'.io n ≠ p) (f : H' p = none) : H p = none := by
  cases z : H p with
  | none => rfl
  | some o =>
    exfalso
    by_cases w : ∃ n, n < h.length ∧ m.io n = p
    · obtain ⟨n, hn, rfl⟩ := w
      exact ne n (Nat.lt_of_lt_of_le hn E1.len) (E1.io n hn)
    · exact E1.frN z (fun n hn y => w ⟨n, hn, y⟩) f
/-- a new list at a handle -/
theorem push_ext {m1 : Wd} {h1 : List O} {H1 : Hp} {p : Addr} {ob : O} (E1 : Ext m m1 h h1 H H1) (nw : H p = none) : Ext m { m1 with io := fun n => if n < h1.length then m1.io n else p } h (h1 ++ [ob]) H H1 := by
  refine ⟨E1.g, fun n hn => ?_, by rw [List.length_append]; exact Nat.le_trans E1.len (Nat.le_add_right _ _), E1.fr, fun n a b => ?_, E1.gn⟩
  · show (if n < h1.length then m1.io n else p) = _
    rw [if_pos (Nat.lt_of_lt_of_le hn E1.len)]; exact E1.io n hn
  · show H (if n < h1.length then m1.io n else p) = none
    by_cases hl : n < h1.length
    · rw [if_pos hl]; exact E1.nw n a hl
    · rw [if_neg hl]; exact nw
theorem push_rd {m1 : Wd} {h1 : List O} {p : Addr} {ob : O} : RD K { m1 with io := fun n => if n < h1.length then m1.io n else p } (h1 ++ [ob]).length (.ref p) (.r h1.length) := by
  refine ⟨by simp, ?_⟩
  show V.ref p = .ref (if h1.length < h1.length then m1.io h1.length else p)
  rw [if_neg (Nat.lt_irrefl _)]
theorem sd_arL {a : Expr} {es : List Expr} {fa : Env → M (List PyData)} {fs : Env → M (List D)} (hs : simple a = true) (ha : PE X a (tFr X.K fa)) (hr : PA X es (tAr X.K fs)) : PA X (a :: es) (tAr X.K fun ρ => do
      let xs ← fa ρ
      let x ← newL xs
      let xs ← fs ρ
      pure (x :: xs)) :=
  wkA (pa_cons ha hr (star_cons hs)) fun σ H Q ⟨m, ρ, h, d, h', R, S, e, q⟩ => by
    obtain ⟨x, h1, e1, e⟩ := bnd_ok.mp e
    obtain ⟨y, h2, e2, e⟩ := bnd_ok.mp e
    simp only [newL, Out.ok.injEq] at e2
    obtain ⟨rfl, rfl⟩ := e2
    obtain ⟨xs, h3, e3, e⟩ := bnd_ok.mp e
    obtain ⟨rfl, rfl⟩ := pure_ok.mp e
    refine ⟨m, ρ, h, x, h1, R, S, e1, fun m1 p vs H1 E1 R1 hp r1 g ne nw => ?_⟩
    have E2 := push_ext (ob := .lst x) E1 nw
    have R2 := R1.push hp g r1 ne
    exact ⟨_, ρ, _, xs, h3, R2, E2.sr S, e3, fun m3 ws H3 E3 R3 r3 => q m3 _ H3 (E2.trans R2 E3) R3 (.cons (E3.rd push_rd) r3)⟩
theorem sd_arN {a : Expr} {es : List Expr} {fa : Env → M (List D)} {fs : Env → M (List D)} (hs : simple a = true) (ha : PE X a (tFn X.K fa)) (hr : PA X es (tAr X.K fs)) : PA X (a :: es) (tAr X.K fun ρ => do
      let xs ← fa ρ
      let x ← newN xs
      let xs ← fs ρ
      pure (x :: xs)) :=
  wkA (pa_cons ha hr (star_cons hs)) fun σ H Q ⟨m, ρ, h, d, h', R, S, e, q⟩ => by
    obtain ⟨x, h1, e1, e⟩ := bnd_ok.mp e
    obtain ⟨y, h2, e2, e⟩ := bnd_ok.mp e
    simp only [newN, Out.ok.injEq] at e2
    obtain ⟨rfl, rfl⟩ := e2
    obtain ⟨xs, h3, e3, e⟩ := bnd_ok.mp e
    obtain ⟨rfl, rfl⟩ := pure_ok.mp e
    refine ⟨m, ρ, h, x, h1, R, S, e1, fun m1 p vs H1 E1 R1 hp r1 g ne nw => ?_⟩
    have E2 := push_ext (ob := .nst x) E1 nw
    have R2 := R1.pushN hp g r1 ne
    exact ⟨_, ρ, _, xs, h3, R2, E2.sr S, e3, fun m3 ws H3 E3 R3 r3 => q m3 _ H3 (E2.trans R2 E3) R3 (.cons (E3.rd push_rd) r3)⟩
theorem ofDs_rtl {n : Nat} : ∀ {vs : List V} {ds : List D} {xs : List (PyData ⊕ Nat)}, RDL K m n vs ds → ofDs ds = some xs → RTL K m n vs xs
  | _, _, xs, .nil, e => by cases e; exact .nil
  | _, _, xs, .cons (d := d) r rs, e => by
    unfold ofDs at e
    split at e
    · rename_i x ys e1 e2
      cases e
      have ih := ofDs_rtl rs e2
      cases d with
      | p d => cases e1; exact .inl r ih
      | r k =>
        cases e1
        obtain ⟨hk, rfl⟩ := r
        exact .inr hk ih
      | s _ => cases e1
      | t _ => cases e1
    · cases e
/-- a tuple that holds handles -/
theorem sd_tupN {es : List Expr} {fs : Env → M (List D)} {k : Nat} {pos : Pos} (hr : PA X es (tAr X.K fs)) : PE X (.Tuple es k pos) (tD X.K fun ρ => do
    let ds ← fs ρ
    if ds.length ≤ 2 ^ 23 then newP ds else M.no) :=
  wkE (pe_tup hr) fun σ H Q ⟨m, ρ, h, d, h', R, S, e, q⟩ => by
    obtain ⟨ds, h1, e1, e⟩ := bnd_ok.mp e
    rw [ite_ok] at e
    split at e
    · rename_i hl
      obtain ⟨k1, rfl⟩ := opt_ok.mp (show M.opt ((ofDs ds).map Px.D.t) h1 = _ from e)
      obtain ⟨xs, k2, rfl⟩ := Option.map_eq_some_iff.mp k1
      refine ⟨m, ρ, h, ds, h1, R, S, e1, fun m1 vs H1 E1 R1 r1 => ⟨by rw [RDL.len r1]; exact rw23 hl, fun p hp => ?_⟩⟩
      have N := New.upd (o := .tup vs) R1.sub hp
      obtain ⟨R2, E2⟩ := R1.new N
      exact q _ _ _ (E1.trans R1 E2) R2 ⟨p, vs, rfl, SqT.of upd_same, ofDs_rtl (E2.rdl r1) k2⟩
    · exact (no_ok.mp e).elim
/-- the arguments' data, for a built-in -/
theorem rds_ok (R : Rel K m h H) : ∀ {ds : List D} {vs : List V} {xs : List PyData} {h2 : List O}, RDL K m h.length vs ds → rds ds h = .ok xs h2 → h2 = h ∧ RtL K m.G H vs xs := by
  intro ds
  induction ds with
  | nil =>
    intro vs xs h2 r e
    cases r
    obtain ⟨rfl, e2⟩ := pure_ok.mp (show (pure [] : M (List PyData)) h = _ from e)
    exact ⟨e2.symm, .nil⟩
  | cons d ds ih =>
    intro vs xs h2 r e
    cases r with
    | cons r rs =>
      obtain ⟨x, h1, e1, e2⟩ := bnd_ok.mp (show (rd d >>= fun x => rds ds >>= fun xs => pure (x :: xs)) h = _ from e)
      obtain ⟨k1, e5⟩ := rd_ok.mp e1
      rw [← e5] at e2
      obtain ⟨xs, h3, e3, e4⟩ := bnd_ok.mp e2
      obtain ⟨rfl, e6⟩ := pure_ok.mp e4
      obtain ⟨e7, rr⟩ := ih rs e3
      exact ⟨e6.symm.trans e7, .cons (R.drf r k1) rr⟩
theorem sd_blt (hc : X.calm = true) (hg : X.A.guards = some []) (hu : X.A.units + 70 < cLine) {b : Bl} {a : Expr} {es : List Expr} {fs : Env → M (List D)} {p pos : Pos} (hgl : Gl X (blName b)) (hm : X.mg (blName b) = none)
    (hs : ∀ e ∈ a :: es, simple e = true) (ha : PA X (a :: es) (tAr X.K fs)) : PE X (.Call (.Name (blName b) p) (a :: es) [] pos) (tD X.K fun ρ => do
    let ds ← fs ρ
    let xs ← rds ds
    let z ← M.opt (bltD b xs)
    pure (.p z)) := by
  have main : PE X (.Call (.Name (blName b) p) (a :: es) [] pos) (tCB (rK X.K b) (tAr X.K fs)) := by
    have s1 := star_cons (es := es) (env := X) (hs a (by simp))
    have s2 : (backTo pos (starEach es X.env)).any (·.1) = false := star_any fun e he => hs e (by simp [he])
    cases b with
    | int => exact pe_callTy (sound_call hc hg hu .int) hgl hm (by decide +kernel) ha (by decide) (by decide) s1 s2
    | str => exact pe_callTy (sound_call hc hg hu .str) hgl hm (by decide +kernel) ha (by decide) (by decide) s1 s2
    | tuple => exact pe_callTy (sound_call hc hg hu .tuple) hgl hm (by decide +kernel) ha (by decide) (by decide) s1 s2
    | len => exact pe_callB (sound_call hc hg hu .len) hgl hm (by decide +kernel) ha (by decide) (by decide) s1 s2
    | abs => exact pe_callB (sound_call hc hg hu .abs) hgl hm (by decide +kernel) ha (by decide) (by decide) s1 s2
    | max => exact pe_callB (sound_call hc hg hu .max) hgl hm (by decide +kernel) ha (by decide) (by decide) s1 s2
    | min => exact pe_callB (sound_call hc hg hu .min) hgl hm (by decide +kernel) ha (by decide) (by decide) s1 s2
    | sum => exact pe_callB (sound_call hc hg hu .sum) hgl hm (by decide +kernel) ha (by decide) (by decide) s1 s2
    | all => exact pe_callB (sound_call hc hg hu .all) hgl hm (by decide +kernel) ha (by decide) (by decide) s1 s2
    | any => exact pe_callB (sound_call hc hg hu .any) hgl hm (by decide +kernel) ha (by decide) (by decide) s1 s2
    | repr => exact pe_callB (sound_call hc hg hu .repr) hgl hm (by decide +kernel) ha (by decide) (by decide) s1 s2
  refine wkE main fun σ H Q ⟨m, ρ, h, d, h', R, S, e, q⟩ => ?_
  obtain ⟨ds, h1, e1, e⟩ := bnd_ok.mp e
  obtain ⟨xs, h2, e2, e⟩ := bnd_ok.mp e
  obtain ⟨z, h3, e3, e⟩ := bnd_ok.mp e
  obtain ⟨k3, rfl⟩ := opt_ok.mp e3
  obtain ⟨rfl, rfl⟩ := pure_ok.mp e
  refine ⟨m, ρ, h, ds, h1, R, S, e1, fun m1 vs H1 E1 R1 r1 => ?_⟩
  obtain ⟨rfl, r2⟩ := rds_ok R1 r1 e2
  exact ⟨m1.G, xs, z, R1.sub, r2, k3, R1.kp fun m2 v H2 E2 R2 r2 => q m2 v H2 (E1.trans R1 E2) R2 r2⟩
theorem sd_isi {k : Kd} {a : Expr} {fa : Env → M D} {p p2 pos : Pos} (hgl : Gl X "isinstance") (hm : X.mg "isinstance" = none) (hgk : Gl X (Str.ofString (kdName k))) (hmk : X.mg (Str.ofString (kdName k)) = none)
    (hs : simple a = true) (ha : PE X a (tD X.K fa)) : PE X (.Call (.Name "isinstance" p) [a, .Name (Str.ofString (kdName k)) p2] [] pos) (tD X.K fun ρ => do
    let x ← fa ρ
    let x ← rd x
    let z ← M.opt (isiD x k)
    pure (.p (.bool z))) := by
  have kn : PE X (.Name (Str.ofString (kdName k)) p2) (tC (.ty (kdName k))) := by
    cases k <;> exact pe_bltn hgk hmk (by decide +kernel) rfl (by decide) (by decide)
  refine wkE (pe_callB (sound_isi k) hgl hm (by decide +kernel) (pa_cons ha (pa_cons kn pa_nil (star_cons rfl)) (star_cons hs)) (by decide) (by decide) (star_cons hs) (star_any fun e he => by
    simp at he; subst he; rfl)) fun σ H Q ⟨m, ρ, h, d, h', R, S, e, q⟩ => ?_
  obtain ⟨x, h1, e1, e⟩ := bnd_ok.mp e
  obtain ⟨y, h2, e2, e⟩ := bnd_ok.mp e
  obtain ⟨k2, rfl⟩ := rd_ok.mp e2
  obtain ⟨z, h3, e3, e⟩ := bnd_ok.mp e
  obtain ⟨k3, rfl⟩ := opt_ok.mp e3
  obtain ⟨rfl, rfl⟩ := pure_ok.mp e
  exact ⟨m, ρ, h, x, _, R, S, e1, fun m1 v H1 E1 R1 r1 => ⟨m1.G, v, y, z, rfl, R1.sub, R1.drf r1 k2, k3, q m1 _ H1 E1 R1 (.bl _)⟩⟩
theorem sd_lof {a : Expr} {fa : Env → M D} {p pos : Pos} (hgl : Gl X "list") (hm : X.mg "list" = none) (hs : simple a = true) (ha : PE X a (tD X.K fa)) : PE X (.Call (.Name "list" p) [a] [] pos) (tFr X.K fun ρ => do
    let x ← fa ρ
    let x ← rd x
    M.opt (seqOf x)) :=
  wkE (pe_callTy call_list_of hgl hm (by decide +kernel) (pa_cons ha pa_nil (star_cons hs)) (by decide) (by decide) (star_cons hs) rfl) fun σ H Q ⟨m, ρ, h, d, h', R, S, e, q⟩ => by
    obtain ⟨x, h1, e1, e⟩ := bnd_ok.mp e
    obtain ⟨y, h2, e2, e⟩ := bnd_ok.mp e
    obtain ⟨k2, rfl⟩ := rd_ok.mp e2
    obtain ⟨k3, rfl⟩ := opt_ok.mp e
    refine ⟨m, ρ, h, x, _, R, S, e1, fun m1 v H1 E1 R1 r1 => ?_⟩
    have s := R1.drf r1 k2
    have key : ∃ p vs, v = .ref p ∧ (SqL X.K H1 p vs ∨ SqT X.K H1 p vs) ∧ RpL X.K m1.G vs d := by
      cases y <;> simp only [seqOf, reduceCtorEq, Option.some.injEq] at k3
      · subst k3
        obtain ⟨a, vs, rfl, k1, k2⟩ := s.lst R1.sub
        exact ⟨a, vs, rfl, .inl (SqL.of k1), k2⟩
      · subst k3
        obtain ⟨a, vs, rfl, k1, k2⟩ := s.tup
        exact ⟨a, vs, rfl, .inr (R1.sub.sqT k1), k2⟩
    obtain ⟨p, vs, rfl, k4, k5⟩ := key
    exact ⟨p, vs, rfl, k4, fun l hl => fr_laid R1 k5 hl fun m2 p vs H2 E2 R2 a b c d f => q m2 p vs H2 (E1.trans R1 E2) R2 a b c d (E1.old (m2 := m2) (h2 := h1) (fun n hn => by rw [← E2.io n hn]; exact d n hn) f)⟩
/-- [..] * n -/
theorem sd_rep {a b : Expr} {ff : Env → M (List PyData)} {fb : Env → M D} {pos : Pos} (ha : PE X a (tFr X.K ff)) (hb : PE X b (tD X.K fb)) : PE X (.BinOp a .Mult b pos) (tFr X.K fun ρ => do
    let xs ← ff ρ
    let y ← fb ρ
    let y ← rd y
    let j ← M.opt (intOf y)
    if xs.length ≤ 1 ∧ -(2 ^ 63) ≤ j ∧ j ≤ 2 ^ 23 then pure (List.replicate j.toNat xs).flatten else M.no) :=
  wkE (pe_op op_rep ha hb) fun σ H Q ⟨m, ρ, h, d, h', R, S, e, q⟩ => by
    obtain ⟨xs, h1, e1, e⟩ := bnd_ok.mp e
    obtain ⟨x, h2, e2, e⟩ := bnd_ok.mp e
    obtain ⟨y, h3, e3, e⟩ := bnd_ok.mp e
    obtain ⟨k3, rfl⟩ := rd_ok.mp e3
    obtain ⟨j, h4, e4, e⟩ := bnd_ok.mp e
    obtain ⟨k4, rfl⟩ := opt_ok.mp e4
    rw [ite_ok] at e
    split at e
    · rename_i hl
      obtain ⟨rfl, rfl⟩ := pure_ok.mp e
      refine ⟨m, ρ, h, xs, h1, R, S, e1, fun m1 p vs H1 E1 R1 hp r1 g ne nw => ⟨m1, ρ, h1, x, _, R1, E1.sr S, e2, fun m2 w H2 E2 R2 r2 => ?_⟩⟩
      have hp2 := E2.frL hp (fun ps z => by cases z) ne
      refine ⟨p, j, vs, rfl, ?_, hp2, hl.2.1, by omega, ?_, fun l hl2 => ?_⟩
      · cases y <;> simp only [intOf, reduceCtorEq, Option.some.injEq] at k4
        subst k4
        exact (R2.drf r2 k3).int
      · rw [r1.len]
        have : xs.length * j.toNat ≤ 1 * 2 ^ 23 := Nat.mul_le_mul hl.1 (by omega)
        exact rw23 (by omega)
      · exact fr_laid R2 ((r1.mono E2.g).rep _) hl2 fun m3 p vs H3 E3 R3 a b c d f => q m3 p vs H3 ((E1.trans R1 E2).trans R2 E3) R3 a b c d ((E1.trans R1 E2).old (m2 := m2) (h2 := h) (fun n hn => by rw [← E3.io n hn]; exact d n hn) f)
    · exact (no_ok.mp e).elim
end
end Px

/-! Px7: a def of the text, called. -/
namespace Px
open PySem PySem.Spec PyProof.Rows L2

abbrev Callee := List D → M (PyData × Bool)
/-- what a def hands back -/
def HR (K : PySem.W.Frag) (m : Wd) (n : Nat) (H H' : Hp) (v : V) (r : PyData × Bool) : Prop :=
  (r.2 = false ∧ Rp K m.G v r.1) ∨ (r.2 = true ∧ ∃ p vs xs, r.1 = .list xs ∧ v = .ref p ∧ H' p = some (.lst vs) ∧ RpL K m.G vs xs ∧ m.G p = none ∧ (∀ k, k < n → m.io k ≠ p) ∧ H p = none)
def spD (K : PySem.W.Frag) (F : Callee) : List V → Hp → VK → Prop := fun vs H Q => ∃ m h ds r h', Rel K m h H ∧ RDL K m h.length vs ds ∧ F ds h = .ok r h' ∧
  ∀ m' v H', Ext m m' h h' H H' → Rel K m' h' H' → HR K m' h'.length H H' v r → Q v H'
/-- the def at fa keeps its promise wherever k more calls find room and nothing is being shown -/
structure FG (P : Program) (w : World) (K : PySem.W.Frag) (mg : Str → Option Value) (base : Heap) (k : Nat) (fa : Addr) (sp : List V → Hp → VK → Prop) : Prop where
  run : ∀ (A : Around) (outer : List PySem.Env) (s : Shared) (H : Hp) (us : List Value) (vs : List V) (Q : VK), Room k A → A.guards = some [] → Env0 P w K mg base A outer s H → Vals vs us → sp vs H Q →
    codeAny (model P w) A (.call (.ref fa) ⟨us, []⟩) (CR L2.CX0 outer P w H s Q L2.E0) s
theorem FG.imp {P : Program} {w : World} {K : PySem.W.Frag} {mg : Str → Option Value} {base : Heap} {k : Nat} {fa : Addr} {sp sp' : List V → Hp → VK → Prop} (F : FG P w K mg base k fa sp) (h : ∀ vs H Q, sp' vs H Q → sp vs H Q) : FG P w K mg base k fa sp' :=
  ⟨fun A outer s H us vs Q hr hg e0 hv q => F.run A outer s H us vs Q hr hg e0 hv (h _ _ _ q)⟩
section
variable {X : Cx} {K : PySem.W.Frag} {m m' : Wd} {h h' : List O} {H H' : Hp}
theorem pe_fg {k : Nat} {fa : Addr} {sp : List V → Hp → VK → Prop} {x : Str} {p pos : Pos} {e : Expr} {es : List Expr} {t : TA} (F : FG X.prog X.w X.K X.mg X.base k fa sp) (hr : Room k X.A) (hgd : X.A.guards = some [])
    (hg : Gl X x) (hm : X.mg x = some (.ref fa)) (hk : PySem.W.keepIn X.K (.ref fa) = true) (ha : PA X (e :: es) t) (hdb : (x == ("__debug__" : Str)) = false)
    (he : starEach (e :: es) X.env = (false, eval e X.env) :: starEach es X.env) (hpl : (backTo pos (starEach es X.env)).any (·.1) = false) :
    PE X (.Call (.Name x p) (e :: es) [] pos) (fun σ H Q => t σ H fun vs H1 => sp vs H1 Q) := by
  constructor
  intro pins s σ H Q I h
  apply wpAny_Call_Name_kw
  apply ld_glob I hg hm _ hdb
  apply PySem.W.callWith_K (h₀ := X.base) I.ok.mod.kin hk _ he hpl
  refine thn (ha.run pos pins s σ H _ I h) fun us s1 hq => ?_
  obtain ⟨vs, H1, I1, r, q⟩ := hq
  refine ⟨I1.kIn, wpAny_call (codeAny_mono (F.run X.A X.stack s1 H1 us vs Q hr hgd I1.env0 r q) fun r s' hq => ?_)⟩
  match r, hq with
  | .error _, hq => exact False.elim hq
  | .ok (.ret u), hq => exact I1.after hq
  | .ok .next, hq => exact False.elim hq
  | .ok .brk, hq => exact False.elim hq
  | .ok .cont, hq => exact False.elim hq

/-- a call that hands in nothing -/
theorem pe_fg0 {k : Nat} {fa : Addr} {sp : List V → Hp → VK → Prop} {x : Str} {p pos : Pos} (F : FG X.prog X.w X.K X.mg X.base k fa sp) (hr : Room k X.A) (hgd : X.A.guards = some [])
    (hg : Gl X x) (hm : X.mg x = some (.ref fa)) (hk : PySem.W.keepIn X.K (.ref fa) = true) (hdb : (x == ("__debug__" : Str)) = false) :
    PE X (.Call (.Name x p) [] [] pos) (fun σ H Q => sp [] H Q) := by
  constructor
  intro pins s σ H Q I h
  apply wpAny_Call_Name_kw
  apply ld_glob I hg hm _ hdb
  refine PySem.W.callWith_K0 I.kIn hk (wpAny_call (codeAny_mono (F.run X.A X.stack s H [] [] Q hr hgd I.env0 .nil h) fun r s' hq => ?_))
  match r, hq with
  | .error _, hq => exact False.elim hq
  | .ok (.ret u), hq => exact I.after hq
  | .ok .next, hq => exact False.elim hq
  | .ok .brk, hq => exact False.elim hq
  | .ok .cont, hq => exact False.elim hq

/-! the lists that a callee sees -/
theorem norm_ok {R : Rel K m h H} : ∀ {ds es : List D} {vs : List V}, RDL K m h.length vs ds → ds.mapM (norm h) = some es → RDL K m h.length vs es ∧ ∀ n, .r n ∈ es → ∃ xs, h[n]? = some (.lst xs)
  | [], es, _, .nil, e => by
    simp at e
    subst e
    exact ⟨.nil, fun n hn => by cases hn⟩
  | d :: ds, es, _, .cons r rs, e => by
    rw [List.mapM_cons] at e
    obtain ⟨x, e1, e2⟩ := Option.bind_eq_some_iff.mp e
    obtain ⟨xs, e3, e4⟩ := Option.bind_eq_some_iff.mp e2
    cases e4
    obtain ⟨k1, k2⟩ := norm_ok (R := R) rs e3
    have key : RD K m h.length ‹V› x ∧ ∀ n, x = .r n → ∃ ys, h[n]? = some (.lst ys) := by
      cases d with
      | p d =>
        simp only [norm, Option.some.injEq] at e1
        subst e1
        exact ⟨r, fun n z => nomatch z⟩
      | s zs =>
        simp only [norm, Option.some.injEq] at e1
        subst e1
        exact ⟨r, fun n z => nomatch z⟩
      | t zs => cases e1
      | r n =>
        simp only [norm] at e1
        split at e1
        · rename_i ys q
          simp only [Option.some.injEq] at e1
          subst e1
          refine ⟨r, fun k z => ?_⟩
          cases z
          exact ⟨ys, q⟩
        · rename_i ys q
          simp only [Option.some.injEq] at e1
          subst e1
          obtain ⟨ws, k3, k4⟩ := R.frz n ys q
          obtain ⟨_, rfl⟩ := r
          exact ⟨.lst k3 k4, fun k z => nomatch z⟩
        · cases e1
        · cases e1
    refine ⟨.cons key.1 k1, fun n hn => ?_⟩
    rcases List.mem_cons.mp hn with z | z
    · exact key.2 n z.symm
    · exact k2 n z
theorem norm_t : ∀ {ds es : List D}, ds.mapM (norm h) = some es → ∀ xs, .t xs ∉ es
  | [], es, e => by
    simp at e
    subst e
    exact fun xs z => by cases z
  | d :: ds, es, e => by
    rw [List.mapM_cons] at e
    obtain ⟨x, e1, e2⟩ := Option.bind_eq_some_iff.mp e
    obtain ⟨xs, e3, e4⟩ := Option.bind_eq_some_iff.mp e2
    cases e4
    intro ys hy
    rcases List.mem_cons.mp hy with rfl | hy
    · cases d with
      | p d => cases e1
      | s d => cases e1
      | t d => cases e1
      | r n =>
        simp only [norm] at e1
        split at e1 <;> cases e1
    · exact norm_t e3 ys hy
theorem handles_mem : ∀ {ds : List D} {n : Nat}, n ∈ handles ds ↔ .r n ∈ ds
  | [], n => by simp [handles]
  | .p d :: r, n => by simp [handles, handles_mem (ds := r)]
  | .s d :: r, n => by simp [handles, handles_mem (ds := r)]
  | .t d :: r, n => by simp [handles, handles_mem (ds := r)]
  | .r k :: r, n => by
    have ih := fun n => handles_mem (ds := r) (n := n)
    simp only [handles, List.mem_cons, D.r.injEq]
    split
    · rename_i hk
      constructor
      · intro z; exact .inr ((ih n).mp z)
      · rintro (rfl | z)
        · exact hk
        · exact (ih n).mpr z
    · rw [List.mem_cons, ih n]
theorem handles_nodup : ∀ ds : List D, (handles ds).Nodup
  | [] => List.nodup_nil
  | .p d :: r => handles_nodup r
  | .s d :: r => handles_nodup r
  | .t d :: r => handles_nodup r
  | .r k :: r => by
    simp only [handles]
    split
    · exact handles_nodup r
    · rename_i hk
      exact List.nodup_cons.mpr ⟨hk, handles_nodup r⟩
theorem subOf_ok : ∀ {idx : List Nat} {sub : List O}, subOf h idx = some sub → sub.length = idx.length ∧ ∀ (j n : Nat), idx[j]? = some n → h[n]? = sub[j]? ∧ n < h.length
  | [], sub, e => by
    simp only [subOf, Option.some.injEq] at e
    subst e
    exact ⟨rfl, fun j n z => by simp at z⟩
  | k :: r, sub, e => by
    simp only [subOf] at e
    split at e
    · rename_i o l e1 e2
      simp only [Option.some.injEq] at e
      subst e
      obtain ⟨k1, k2⟩ := subOf_ok e2
      refine ⟨by simp [k1], fun j n z => ?_⟩
      cases j with
      | zero =>
        simp at z
        subst z
        exact ⟨by rw [e1]; rfl, (List.getElem?_eq_some_iff.mp e1).1⟩
      | succ j =>
        have := k2 j n (by simpa using z)
        simpa using this
    · cases e
theorem put_len : ∀ (idx : List Nat) (l : List O), (putBack h idx l).length = h.length
  | [], _ => rfl
  | _ :: _, [] => rfl
  | n :: r, o :: l => by
    simp only [putBack, List.length_set]
    exact put_len r l
theorem put_out : ∀ {idx : List Nat} {l : List O} {n : Nat}, n ∉ idx → (putBack h idx l)[n]? = h[n]?
  | [], _, _, _ => rfl
  | _ :: _, [], _, _ => rfl
  | k :: r, o :: l, n, hn => by
    simp only [putBack]
    rw [List.getElem?_set_ne (fun z => hn (by simp [z]))]
    exact put_out (fun z => hn (by simp [z]))
theorem put_in : ∀ {idx : List Nat} {l : List O} {j n : Nat}, idx.Nodup → idx.length ≤ l.length → idx[j]? = some n → n < h.length → (putBack h idx l)[n]? = l[j]?
  | [], _, _, _, _, _, e, _ => by simp at e
  | k :: r, [], _, _, _, hl, _, _ => by simp at hl
  | k :: r, o :: l, 0, n, nd, hl, e, hn => by
    simp at e
    subst e
    simp only [putBack]
    rw [List.getElem?_set_self (by rw [put_len]; exact hn)]
    rfl
  | k :: r, o :: l, j + 1, n, nd, hl, e, hn => by
    have e : r[j]? = some n := by simpa using e
    have hk : k ≠ n := fun z => (List.nodup_cons.mp nd).1 (by rw [z]; exact List.mem_of_getElem? e)
    simp only [putBack]
    rw [List.getElem?_set_ne hk]
    have := put_in (l := l) (List.nodup_cons.mp nd).2 (by simpa using hl) e hn
    simpa using this
theorem idx_get {idx : List Nat} {n : Nat} (hn : n ∈ idx) : idx[idx.idxOf n]? = some n ∧ idx.idxOf n < idx.length := by
  have hl := List.idxOf_lt_length_of_mem hn
  exact ⟨by rw [List.getElem?_eq_getElem hl]; simp, hl⟩
theorem ren_ok {m0 : Wd} {idx : List Nat} (g : m0.G = m.G) (hio : ∀ j n, idx[j]? = some n → m0.io j = m.io n) : ∀ {ds : List D} {vs : List V} {n : Nat}, (∀ k, .r k ∈ ds → k ∈ idx) → (∀ xs, .t xs ∉ ds) → RDL K m n vs ds → RDL K m0 idx.length vs (ds.map (rename idx))
  | [], _, _, _, _, .nil => .nil
  | d :: ds, _, _, hm, ht, .cons r rs => by
    refine .cons ?_ (ren_ok g hio (fun k hk => hm k (by simp [hk])) (fun xs hx => ht xs (by simp [hx])) rs)
    cases d with
    | p d => show Rp K m0.G _ d; rw [g]; exact r
    | s xs =>
      obtain ⟨a, vs, e, h1, h2⟩ := r
      exact ⟨a, vs, e, by rw [g]; exact h1, by rw [g]; exact h2⟩
    | t xs => exact absurd (List.mem_cons_self) (ht xs)
    | r k =>
      obtain ⟨h1, h2⟩ := idx_get (hm k (by simp))
      exact ⟨h2, by rw [hio _ _ h1]; exact r.2⟩
/-- a call: from the callee's view back to the caller's -/
theorem call_back {F : Nat → List D → M (PyData × Bool)} {f : Nat} {ds : List D} {vs : List V} {r : PyData × Bool} {Q : VK} (R : Rel K m h H) (rd : RDL K m h.length vs ds) (e : callF F f ds h = .ok r h')
    (q : ∀ m' v H', Ext m m' h h' H H' → Rel K m' h' H' → HR K m' h'.length H H' v r → Q v H') : spD K (F f) vs H Q := by
  unfold callF at e
  split at e
  · cases e
  rename_i es he
  split at e
  · cases e
  rename_i sub hs
  split at e
  · cases e
  · split at e <;> cases e
  rename_i v2 h2 hf
  split at e
  case isFalse => cases e
  rename_i hfl
  simp only [Out.ok.injEq] at e
  obtain ⟨rfl, rfl⟩ := e
  obtain ⟨k1, k2⟩ := norm_ok (R := R) rd he
  obtain ⟨s1, s2⟩ := subOf_ok hs
  have hlst : ∀ k, k ∈ handles es → ∃ xs, h[k]? = some (.lst xs) := fun k hk => k2 k (handles_mem.mp hk)
  generalize hidx : handles es = idx at hs hf s1 s2 q hfl hlst
  have nd : idx.Nodup := by rw [← hidx]; exact handles_nodup es
  have hmem : ∀ k, .r k ∈ es → k ∈ idx := fun k hk => by rw [← hidx]; exact handles_mem.mpr hk
  have hioG : ∀ j n, idx[j]? = some n → m.io (idx.getD j 0) = m.io n := fun j n z => by rw [List.getD_eq_getElem?_getD, z]; rfl
  refine ⟨⟨m.G, fun j => m.io (idx.getD j 0)⟩, sub, _, v2, h2, ⟨R.sub, fun j xs z => ?_, fun j xs z => ?_, fun j xs z => ?_, fun i j hi hj z => ?_, R.tab, R.gt⟩, ?_, hf, fun m' v H' E R' hr => ?_⟩
  · have hj : j < idx.length := by rw [← s1]; exact (List.getElem?_eq_some_iff.mp z).1
    obtain ⟨a1, a2⟩ := s2 j idx[j] (List.getElem?_eq_getElem hj)
    have := R.liv idx[j] xs (by rw [a1]; exact z)
    show m.G (m.io (idx.getD j 0)) = none ∧ ∃ vs, H (m.io (idx.getD j 0)) = _ ∧ _
    rw [hioG j _ (List.getElem?_eq_getElem hj)]
    exact this
  · have hj : j < idx.length := by rw [← s1]; exact (List.getElem?_eq_some_iff.mp z).1
    obtain ⟨a1, a2⟩ := s2 j idx[j] (List.getElem?_eq_getElem hj)
    have := R.frz idx[j] xs (by rw [a1]; exact z)
    show ∃ vs, m.G (m.io (idx.getD j 0)) = _ ∧ _
    rw [hioG j _ (List.getElem?_eq_getElem hj)]
    exact this
  · have hj : j < idx.length := by rw [← s1]; exact (List.getElem?_eq_some_iff.mp z).1
    obtain ⟨a1, a2⟩ := s2 j idx[j] (List.getElem?_eq_getElem hj)
    obtain ⟨ys, a3⟩ := hlst _ (List.getElem_mem hj)
    rw [a1, z] at a3
    cases a3
  · rw [s1] at hi hj
    have z : m.io (idx.getD i 0) = m.io (idx.getD j 0) := z
    rw [hioG i _ (List.getElem?_eq_getElem hi), hioG j _ (List.getElem?_eq_getElem hj)] at z
    have := R.inj _ _ (s2 i _ (List.getElem?_eq_getElem hi)).2 (s2 j _ (List.getElem?_eq_getElem hj)).2 z
    exact (List.getElem_inj nd).mp this
  · rw [s1]
    exact ren_ok (m := m) (m0 := ⟨m.G, fun j => m.io (idx.getD j 0)⟩) rfl hioG hmem (norm_t he) k1
  · have hlen : idx.length ≤ h2.length := by rw [← s1]; exact E.len
    have inL : ∀ {k : Nat}, k ∈ idx → ∃ j, idx[j]? = some k ∧ j < sub.length := fun hk => ⟨_, (idx_get hk).1, by rw [s1]; exact (idx_get hk).2⟩
    have ioE : ∀ {j k : Nat}, idx[j]? = some k → j < sub.length → m'.io j = m.io k := fun h1 h2 => (E.io _ h2).trans (hioG _ _ h1)
    have out : ∀ {k : Nat}, k < h.length → k ∉ idx → ∀ n, n < sub.length → m.io (idx.getD n 0) ≠ m.io k := fun {k} hk hn n h1 z => by
      rw [s1] at h1
      rw [hioG n _ (List.getElem?_eq_getElem h1)] at z
      have := R.inj _ _ (s2 n _ (List.getElem?_eq_getElem h1)).2 hk z
      exact hn (by rw [← this]; exact List.getElem_mem h1)
    have E2 : Ext m ⟨m'.G, m.io⟩ h (putBack h idx h2) H H' := by
      refine ⟨E.g, fun _ _ => rfl, by rw [put_len]; exact Nat.le_refl _, fun a o z ne => E.fr a o z fun n hn => ?_, fun n h1 h2 => ?_, fun a o z => ?_⟩
      · rw [s1] at hn
        show m.io (idx.getD n 0) ≠ a
        rw [hioG n _ (List.getElem?_eq_getElem hn)]
        exact ne _ (s2 n _ (List.getElem?_eq_getElem hn)).2
      · rw [put_len] at h2; omega
      · rcases E.gn a o z with z | z | ⟨n, hn, z⟩
        · exact .inl z
        · exact .inr (.inl z)
        · rw [s1] at hn
          have z : m.io (idx.getD n 0) = a := z
          rw [hioG n _ (List.getElem?_eq_getElem hn)] at z
          exact .inr (.inr ⟨_, (s2 n _ (List.getElem?_eq_getElem hn)).2, z⟩)
    have R2 : Rel K ⟨m'.G, m.io⟩ (putBack h idx h2) H' := by
      refine ⟨R'.sub, fun k xs z => ?_, fun k xs z => ?_, fun k xs z => ?_, fun i j hi hj => R.inj i j (by rw [put_len] at hi; exact hi) (by rw [put_len] at hj; exact hj), R'.tab, R'.gt⟩
      · have hk : k < h.length := by have := (List.getElem?_eq_some_iff.mp z).1; rw [put_len] at this; exact this
        by_cases hi : k ∈ idx
        · obtain ⟨j, e1, e2⟩ := inL hi
          rw [put_in nd hlen e1 hk] at z
          have := R'.liv j xs z
          rw [ioE e1 e2] at this
          exact this
        · rw [put_out hi] at z
          obtain ⟨g1, vs, g2, g3⟩ := R.liv k xs z
          refine ⟨?_, vs, E.frL g2 (fun ps z => by cases z) (out hk hi), g3.mono E.g⟩
          cases w : m'.G (m.io k) with
          | none => rfl
          | some o =>
            exfalso
            rcases E.gn _ o w with y | y | ⟨n, hn, y⟩
            · have y : m.G (m.io k) = some o := y
              rw [g1] at y; cases y
            · rw [g2] at y; cases y
            · exact out hk hi n hn y
      · have hk : k < h.length := by have := (List.getElem?_eq_some_iff.mp z).1; rw [put_len] at this; exact this
        by_cases hi : k ∈ idx
        · obtain ⟨j, e1, e2⟩ := inL hi
          rw [put_in nd hlen e1 hk] at z
          have := R'.frz j xs z
          rw [ioE e1 e2] at this
          exact this
        · rw [put_out hi] at z
          obtain ⟨vs, g2, g3⟩ := R.frz k xs z
          exact ⟨vs, E.g _ _ g2, g3.mono E.g⟩
      · have hk : k < h.length := by have := (List.getElem?_eq_some_iff.mp z).1; rw [put_len] at this; exact this
        by_cases hi : k ∈ idx
        · exfalso
          obtain ⟨j, e1, e2⟩ := inL hi
          rw [put_in nd hlen e1 hk] at z
          have hj : j < idx.length := by rw [← s1]; exact e2
          have z2 : (h2.take idx.length)[j]? = some (.nst xs) := by rw [List.getElem?_take_of_lt hj]; exact z
          have := List.all_eq_true.mp hfl _ (List.mem_of_getElem? z2)
          cases this
        · rw [put_out hi] at z
          obtain ⟨g1, vs, g2, g3⟩ := R.nst k xs z
          refine ⟨?_, vs, E.frL g2 (fun ps z => by cases z) (out hk hi), ?_⟩
          · cases w : m'.G (m.io k) with
            | none => rfl
            | some o =>
              exfalso
              rcases E.gn _ o w with y | y | ⟨n, hn, y⟩
              · have y : m.G (m.io k) = some o := y
                rw [g1] at y; cases y
              · rw [g2] at y; cases y
              · exact out hk hi n hn y
          · rw [put_len]
            exact RDL.ext (m := m) (m' := ⟨m'.G, m.io⟩) E.g (fun _ _ => rfl) (Nat.le_refl _) g3
    refine q _ v H' E2 R2 ?_
    rcases hr with ⟨a1, a2⟩ | ⟨a1, p, ws, xs, a2, a3, a4, a5, a6, a7, a8⟩
    · exact .inl ⟨a1, a2⟩
    · refine .inr ⟨a1, p, ws, xs, a2, a3, a4, a5, a6, fun k hk z => ?_, a8⟩
      rw [put_len] at hk
      obtain ⟨o, w⟩ := R.trk hk
      rw [z, a8] at w
      cases w
/-- a def's call as a value, and as a new list -/
theorem sd_callM {F : Nat → List D → M (PyData × Bool)} {CF : List D → M (PyData × Bool)} {f : Nat} (hC : ∀ {m : Wd} {h h' : List O} {H : Hp} {ds : List D} {vs : List V} {r : PyData × Bool} {Q : VK}, Rel X.K m h H → RDL X.K m h.length vs ds → CF ds h = .ok r h' → (∀ m' v H', Ext m m' h h' H H' → Rel X.K m' h' H' → HR X.K m' h'.length H H' v r → Q v H') → spD X.K (F f) vs H Q) {E : Expr} {fs : Px.Env → M (List D)}
    (main : PE X E (fun σ H Q => tAr X.K fs σ H fun vs H1 => spD X.K (F f) vs H1 Q)) :
    PE X E (tD X.K fun ρ => do
      let ds ← fs ρ
      let v ← CF ds
      pure (.p v.1)) ∧ PE X E (tFr X.K fun ρ => do
      let ds ← fs ρ
      let v ← CF ds
      match v with
      | (.list xs, true) => pure xs
      | _ => M.no) := by
  refine ⟨wkE main fun σ H Q ⟨m, ρ, h, d, h', R, S, e, q⟩ => ?_, wkE main fun σ H Q ⟨m, ρ, h, d, h', R, S, e, q⟩ => ?_⟩
  · obtain ⟨ds, h1, e1, e⟩ := bnd_ok.mp e
    obtain ⟨r, h2, e2, e⟩ := bnd_ok.mp e
    obtain ⟨rfl, rfl⟩ := pure_ok.mp e
    refine ⟨m, ρ, h, ds, h1, R, S, e1, fun m1 vs H1 E1 R1 r1 => hC R1 r1 e2 fun m2 v H2 E2 R2 hr => ?_⟩
    have E3 := E1.trans R1 E2
    rcases hr with ⟨a1, a2⟩ | ⟨a1, p, ws, xs, a2, rfl, a4, a5, a6, a7, a8⟩
    · exact q m2 v H2 E3 R2 a2
    · have sg : Sub m2.G (upd m2.G p (.lst ws)) := Sub.upd a6
      have a9 := E1.old (m2 := m2) (h2 := h2) (p := p) (fun n hn => by rw [← E2.io n hn]; exact a7 n (Nat.lt_of_lt_of_le hn E2.len)) a8
      refine q { m2 with G := upd m2.G p (.lst ws) } _ H2 ⟨E3.g.trans sg, E3.io, E3.len, E3.fr, E3.nw, fun a o z => ?_⟩ ⟨fun a o z => ?_, fun n xs z => ?_, fun n xs z => ?_, fun n xs z => ?_, R2.inj, R2.tab, gt_upd R2.gt⟩ (by rw [a2]; exact .lst upd_same (a5.mono sg))
      · have z : upd m2.G p (.lst ws) a = some o := z
        by_cases ha : a = p
        · subst ha; exact .inr (.inl a9)
        · rw [upd_ne ha] at z; exact E3.gn a o z
      · have z : upd m2.G p (.lst ws) a = some o := z
        by_cases ha : a = p
        · subst ha; rw [upd_same] at z; rw [a4]; exact z
        · rw [upd_ne ha] at z; exact R2.sub _ _ z
      · obtain ⟨k1, us, k2, k3⟩ := R2.liv n xs z
        refine ⟨?_, us, k2, k3.mono sg⟩
        show upd m2.G p (.lst ws) (m2.io n) = none
        rw [upd_ne (a7 n (List.getElem?_eq_some_iff.mp z).1)]; exact k1
      · obtain ⟨us, k1, k2⟩ := R2.frz n xs z
        exact ⟨us, sg _ _ k1, k2.mono sg⟩
      · obtain ⟨k1, us, k2, k3⟩ := R2.nst n xs z
        refine ⟨?_, us, k2, RDL.ext (m := m2) (m' := { m2 with G := upd m2.G p (.lst ws) }) sg (fun _ _ => rfl) (Nat.le_refl _) k3⟩
        show upd m2.G p (.lst ws) (m2.io n) = none
        rw [upd_ne (a7 n (List.getElem?_eq_some_iff.mp z).1)]; exact k1
  · obtain ⟨ds, h1, e1, e⟩ := bnd_ok.mp e
    obtain ⟨r, h2, e2, e⟩ := bnd_ok.mp e
    have key : r = (.list d, true) ∧ h2 = h' := by
      split at e
      · obtain ⟨rfl, rfl⟩ := pure_ok.mp e
        exact ⟨rfl, rfl⟩
      · exact (no_ok.mp e).elim
    obtain ⟨rfl, rfl⟩ := key
    refine ⟨m, ρ, h, ds, h1, R, S, e1, fun m1 vs H1 E1 R1 r1 => hC R1 r1 e2 fun m2 v H2 E2 R2 hr => ?_⟩
    rcases hr with ⟨a1, a2⟩ | ⟨a1, p, ws, xs, a2, rfl, a4, a5, a6, a7, a8⟩
    · cases a1
    · cases a2
      exact q m2 p ws H2 (E1.trans R1 E2) R2 a4 a5 a6 a7 (E1.old (m2 := m2) (h2 := h2) (p := p) (fun n hn => by rw [← E2.io n hn]; exact a7 n (Nat.lt_of_lt_of_le hn E2.len)) a8)
/-- a def's call as a value, and as a new list -/
theorem sd_callG {k : Nat} {fa : Addr} {F : Nat → List D → M (PyData × Bool)} {CF : List D → M (PyData × Bool)} {f : Nat} (hC : ∀ {m : Wd} {h h' : List O} {H : Hp} {ds : List D} {vs : List V} {r : PyData × Bool} {Q : VK}, Rel X.K m h H → RDL X.K m h.length vs ds → CF ds h = .ok r h' → (∀ m' v H', Ext m m' h h' H H' → Rel X.K m' h' H' → HR X.K m' h'.length H H' v r → Q v H') → spD X.K (F f) vs H Q) {x : Str} {p pos : Pos} {e : Expr} {es : List Expr} {fs : Px.Env → M (List D)} (FF : FG X.prog X.w X.K X.mg X.base k fa (spD X.K (F f))) (hr : Room k X.A) (hgd : X.A.guards = some [])
    (hg : Gl X x) (hm : X.mg x = some (.ref fa)) (hk : PySem.W.keepIn X.K (.ref fa) = true) (ha : PA X (e :: es) (tAr X.K fs)) (hdb : (x == ("__debug__" : Str)) = false) (hs : ∀ y ∈ e :: es, simple y = true) :
    PE X (.Call (.Name x p) (e :: es) [] pos) (tD X.K fun ρ => do
      let ds ← fs ρ
      let v ← CF ds
      pure (.p v.1)) ∧ PE X (.Call (.Name x p) (e :: es) [] pos) (tFr X.K fun ρ => do
      let ds ← fs ρ
      let v ← CF ds
      match v with
      | (.list xs, true) => pure xs
      | _ => M.no) := by
  exact sd_callM hC (pe_fg (p := p) (pos := pos) FF hr hgd hg hm hk ha hdb (star_cons (hs e (by simp))) (star_any fun y hy => hs y (by simp [hy])))
/-- a call that hands in nothing -/
theorem sd_call0 {k : Nat} {fa : Addr} {F : Nat → List D → M (PyData × Bool)} {f : Nat} {x : Str} {p pos : Pos} (FF : FG X.prog X.w X.K X.mg X.base k fa (spD X.K (F f))) (hr : Room k X.A) (hgd : X.A.guards = some [])
    (hg : Gl X x) (hm : X.mg x = some (.ref fa)) (hk : PySem.W.keepIn X.K (.ref fa) = true) (hdb : (x == ("__debug__" : Str)) = false) :
    PE X (.Call (.Name x p) [] [] pos) (tD X.K fun ρ => do
      let ds ← (pure [] : M (List D))
      let v ← callF F f ds
      pure (.p v.1)) ∧ PE X (.Call (.Name x p) [] [] pos) (tFr X.K fun ρ => do
      let ds ← (pure [] : M (List D))
      let v ← callF F f ds
      match v with
      | (.list xs, true) => pure xs
      | _ => M.no) :=
  sd_callM (fs := fun _ => pure []) (CF := fun ds => callF F f ds) (fun R rl e q => call_back R rl e q) (wkE (pe_fg0 (p := p) (pos := pos) FF hr hgd hg hm hk hdb) fun σ H Q ⟨m, ρ, h, ds, h', R, S, e, q⟩ => by
    obtain ⟨rfl, rfl⟩ := pure_ok.mp e
    exact q m [] H (Ext.refl m h H) R .nil)
theorem sd_call {k : Nat} {fa : Addr} {F : Nat → List D → M (PyData × Bool)} {f : Nat} {x : Str} {p pos : Pos} {e : Expr} {es : List Expr} {fs : Px.Env → M (List D)} (FF : FG X.prog X.w X.K X.mg X.base k fa (spD X.K (F f))) (hr : Room k X.A) (hgd : X.A.guards = some [])
    (hg : Gl X x) (hm : X.mg x = some (.ref fa)) (hk : PySem.W.keepIn X.K (.ref fa) = true) (ha : PA X (e :: es) (tAr X.K fs)) (hdb : (x == ("__debug__" : Str)) = false) (hs : ∀ y ∈ e :: es, simple y = true) :
    PE X (.Call (.Name x p) (e :: es) [] pos) (tD X.K fun ρ => do
      let ds ← fs ρ
      let v ← callF F f ds
      pure (.p v.1)) ∧ PE X (.Call (.Name x p) (e :: es) [] pos) (tFr X.K fun ρ => do
      let ds ← fs ρ
      let v ← callF F f ds
      match v with
      | (.list xs, true) => pure xs
      | _ => M.no) := sd_callG (CF := fun ds => callF F f ds) (fun R rl e q => call_back R rl e q) FF hr hgd hg hm hk ha hdb hs
/-- a def that sees all lists -/
theorem sd_callW {k : Nat} {fa : Addr} {F : Nat → List D → M (PyData × Bool)} {f : Nat} {x : Str} {p pos : Pos} {e : Expr} {es : List Expr} {fs : Px.Env → M (List D)} (FF : FG X.prog X.w X.K X.mg X.base k fa (spD X.K (F f))) (hr : Room k X.A) (hgd : X.A.guards = some [])
    (hg : Gl X x) (hm : X.mg x = some (.ref fa)) (hk : PySem.W.keepIn X.K (.ref fa) = true) (ha : PA X (e :: es) (tAr X.K fs)) (hdb : (x == ("__debug__" : Str)) = false) (hs : ∀ y ∈ e :: es, simple y = true) :
    PE X (.Call (.Name x p) (e :: es) [] pos) (tD X.K fun ρ => do
      let ds ← fs ρ
      let v ← F f ds
      pure (.p v.1)) ∧ PE X (.Call (.Name x p) (e :: es) [] pos) (tFr X.K fun ρ => do
      let ds ← fs ρ
      let v ← F f ds
      match v with
      | (.list xs, true) => pure xs
      | _ => M.no) := sd_callG (CF := fun ds => F f ds) (fun R rl e q => ⟨_, _, _, _, _, R, rl, e, q⟩) FF hr hgd hg hm hk ha hdb hs
end
end Px

/-! Px2g: zip of two, each a list or a tuple. -/
namespace Px
open PySem PySem.Spec PyProof.Rows L2
/-- a list where k is so, else a tuple -/
def SqK (k : Bool) (K : PySem.W.Frag) (H : Hp) (a : Addr) (xs : List V) : Prop := if k then SqL K H a xs else SqT K H a xs
def OfK (k : Bool) (h : Heap) (a : Addr) (its : Array Value) : Prop := if k then h.IsList a its else h.IsTuple a its
def ItK (k : Bool) (h : Heap) (it a : Addr) (i : Nat) : Prop := if k then h.IsListIter it a i else h.IsTupleIter it a i
def obK (k : Bool) (a : Addr) : Obj := if k then { cls := .type "list_iterator", data := .fields #[.ref a, .int 0 0] } else { cls := .type "tuple_iterator", data := .fields #[.ref a, .int 0 0] }
theorem begK (k : Bool) (a : Addr) (its : Array Value) : Begins (.ref a) (obK k a) fun h => OfK k h a its := by
  cases k
  · exact begins_tuple a its
  · exact begins_list a its
theorem drwK {prog : Program} {w : World} {A : Around} (hh : A.handled = none) (k : Bool) (it a : Addr) (ne : a ≠ it) (its : Array Value) :
    Draws prog w A it [it, a] its.size (fun i v => its[i]? = some v) (fun i h => ItK k h it a i ∧ OfK k h a its) := by
  cases k
  · exact Draws.tuple hh it a ne its
  · exact Draws.list hh it a ne its
theorem ItK.over {k : Bool} {h h' : Heap} {it a : Addr} {i : Nat} (st : ItK k h it a i) (g : ∀ o, h.get? it = some o → h'.get? it = some o) : ItK k h' it a i := by
  cases k
  · exact Heap.IsTupleIter.at st g
  · exact Heap.IsListIter.at st g
theorem ItK.is {k : Bool} {h : Heap} {it a : Addr} {i : Nat} (st : ItK k h it a i) : ∃ o, h.get? it = some o ∧ ∃ fs, o.data = .fields fs := by
  cases k
  · obtain ⟨o, e, _, d⟩ := st
    exact ⟨o, e, _, d⟩
  · obtain ⟨o, e, _, d⟩ := st
    exact ⟨o, e, _, d⟩
theorem ItK.new {k : Bool} {h : Heap} {it a : Addr} (e : h.get? it = some (obK k a)) : ItK k h it a 0 := by
  cases k
  · exact ⟨_, e, rfl, rfl⟩
  · exact ⟨_, e, rfl, rfl⟩
/-- two of them walked together, the items in new pairs -/
def ItzK (K : PySem.W.Frag) (k1 k2 : Bool) (a b : Addr) : It :=
  ⟨fun i H => ∃ (xs ys : List V) (x y : V), SqK k1 K H a xs ∧ SqK k2 K H b ys ∧ xs[i]? = some x ∧ ys[i]? = some y,
    fun i H v H' => ∃ T x y, v = .ref T ∧ H T = none ∧ H' = upd H T (.tup [x, y]) ∧ (∀ xs, SqK k1 K H a xs → xs[i]? = some x) ∧ ∀ ys, SqK k2 K H b ys → ys[i]? = some y,
    fun i H => ∃ xs ys : List V, SqK k1 K H a xs ∧ SqK k2 K H b ys ∧ i ≤ xs.length ∧ i ≤ ys.length ∧ (i = xs.length ∨ i = ys.length)⟩
section
variable {X : Cx} {pins : List (Addr × Obj)} {σ : L2.St} {H : Hp} {s : Shared} {k : Bool} {a : Addr} {xs ys : List V}
theorem SqK.is (I : L2.Inv X pins σ H s) (h : SqK k X.K H a xs) : ∃ us, Vals xs us ∧ OfK k s.heap a us.toArray := by
  cases k
  · obtain ⟨us, r, p, _⟩ := I.tuple h
    exact ⟨us, r, p⟩
  · obtain ⟨us, r, p, _⟩ := I.list h
    exact ⟨us, r, p.isList⟩
theorem SqK.inj (I : L2.Inv X pins σ H s) (h : SqK k X.K H a xs) (h' : SqK k X.K H a ys) : xs = ys := by
  cases k
  · exact I.tuple_inj h h'
  · exact I.list_inj h h'
end
theorem turn_zipK {P : Program} {w : World} {K : PySem.W.Frag} {elts : List Expr} {kk : Nat} {tpos : Pos} {k1 k2 : Bool} {a b z TI TO i1 i2 : Addr} (ap : ZipSep2 z TI TO i1 i2 [i1, a] [i2, b]) (na : a ≠ i1) (nb : b ≠ i2) :
    Turn P w K (.Tuple elts kk tpos) (ItzK K k1 k2 a b) [z, TI, TO, i1, i2] z (fun i h => IsZip h z TI TO .none ∧ IsPair h TI (.ref i1) (.ref i2) ∧ (∃ x y, IsPair h TO x y) ∧ ItK k1 h i1 a i ∧ ItK k2 h i2 b i) where
  mem := List.mem_cons_self
  obj := fun i h st c hc => by
    obtain ⟨g1, g2, ⟨x, y, g3⟩, g4, g5⟩ := st
    obtain ⟨o4, e4, f4, d4⟩ := g4.is
    obtain ⟨o5, e5, f5, d5⟩ := g5.is
    have cs : c = z ∨ c = TI ∨ c = TO ∨ c = i1 ∨ c = i2 := by simpa using hc
    rcases cs with rfl | rfl | rfl | rfl | rfl
    · exact ⟨_, g1, fun _ n => nomatch n⟩
    · exact ⟨_, g2, fun _ n => nomatch n⟩
    · exact ⟨_, g3, fun _ n => nomatch n⟩
    · exact ⟨o4, e4, fun _ n => by rw [d4] at n; cases n⟩
    · exact ⟨o5, e5, fun _ n => by rw [d5] at n; cases n⟩
  keep := fun i h h' st kp => by
    obtain ⟨g1, g2, ⟨x, y, g3⟩, g4, g5⟩ := st
    exact ⟨kp z (by simp) _ g1, kp TI (by simp) _ g2, ⟨x, y, kp TO (by simp) _ g3⟩, g4.over fun o e => kp i1 (by simp) o e, g5.over fun o e => kp i2 (by simp) o e⟩
  item := by
    intro X hP hw hK hc i pins s σ H E I hf st hg
    subst hP hw hK
    have hh : X.A.in1.handled = none := I.ok.hd hc
    obtain ⟨g1, g2, ⟨x0, y0, g3⟩, g4, g5⟩ := st
    obtain ⟨xs, ys, x, y, q1, q2, hx, hy⟩ := hg
    obtain ⟨us, r1, p1⟩ := q1.is I
    obtain ⟨ws, r2, p2⟩ := q2.is I
    obtain ⟨u, hu, ru⟩ := r1.get hx
    obtain ⟨v, hv, rv⟩ := r2.get hy
    have l1 : i < us.toArray.size := by simpa using (List.getElem?_eq_some_iff.mp hu).1
    have l2 : i < ws.toArray.size := by simpa using (List.getElem?_eq_some_iff.mp hv).1
    have zl : z < s.heap.objs.size := Heap.lt_size g1
    refine wpAny_pyNext_zipD2_item (i := i) ap (drwK hh k1 i1 a na us.toArray) (drwK hh k2 i2 b nb ws.toArray) g1 g2 g3 ⟨g4, p1⟩ ⟨g5, p2⟩ l1 l2 fun x1 x2 h1 tk P1 P2 m1 m3 m4 m5 mT _ kp => ?_
    have eu : x1 = u := by
      have : us.toArray[i]? = some u := by simpa using hu
      rw [this] at P1; cases P1; rfl
    have ev : x2 = v := by
      have : ws.toArray[i]? = some v := by simpa using hv
      rw [this] at P2; cases P2; rfl
    subst eu ev
    refine ⟨_, rfl, wpAny_letOwnedTupleGo_zip (s := { s with heap := h1, toks := tk }) m1 fun h2 m6 sb => ?_⟩
    have nT : h2.get? s.heap.objs.size = some { cls := .type "tuple", data := .seq #[x1, x2] } := (sb.2 _ (Nat.ne_of_gt zl)).trans mT
    have ob : ObjOk X.prog X.w (upd H s.heap.objs.size (.tup [x, y])) h2 s.heap.objs.size (.tup [x, y]) := by
      refine ⟨?_, [x1, x2], .cons ru (.cons rv .nil), ⟨_, nT, rfl, _, rfl⟩⟩
      show 2 ≤ sizeLine
      decide
    have out : ∀ c o, c ∉ [z, TI, TO, i1, i2] → s.heap.get? c = some o → h2.get? c = some o := fun c o nc e => by
      simp only [List.mem_cons, List.not_mem_nil, or_false, not_or] at nc
      obtain ⟨c1, c2, c3, c4, c5⟩ := nc
      exact (sb.2 _ c1).trans (kp c o c1 c3 c4 c5 e)
    have I1 : L2.Inv X pins σ (upd H s.heap.objs.size (.tup [x, y])) { s with heap := h2, toks := tk } := I.turnedNew (t' := tk) (ch := [z, TI, TO, i1, i2]) out hf (Nat.le_refl _) ob
    have n1 : i1 ≠ z := fun e => ap.zi1 e.symm
    have n2 : i2 ≠ z := fun e => ap.zi2 e.symm
    refine ⟨.ref s.heap.objs.size, _, I1, rfl, ⟨_, x, y, rfl, I.hok.fresh (Nat.le_refl _), rfl, fun l hl => by rw [SqK.inj I hl q1]; exact hx, fun l hl => by rw [SqK.inj I hl q2]; exact hy⟩,
      ⟨m6, ?_, ⟨x1, x2, ?_⟩, m4.1.over fun o e => (sb.2 _ n1).trans e, m5.1.over fun o e => (sb.2 _ n2).trans e⟩, fun c nc => ?_⟩
    · exact (sb.2 _ ap.TIz).trans (kp _ _ ap.TIz ap.TITO ap.TIi1 ap.TIi2 g2)
    · exact (sb.2 _ ap.TOz).trans m3
    · have lt : c < s.heap.objs.size := by
        obtain ⟨o4, e4, _⟩ := g4.is
        obtain ⟨o5, e5, _⟩ := g5.is
        have cs : c = z ∨ c = TI ∨ c = TO ∨ c = i1 ∨ c = i2 := by simpa using nc
        rcases cs with e | e | e | e | e
        · rw [e]; exact zl
        · rw [e]; exact Heap.lt_size g2
        · rw [e]; exact Heap.lt_size g3
        · rw [e]; exact Heap.lt_size e4
        · rw [e]; exact Heap.lt_size e5
      rw [upd_ne (Nat.ne_of_lt lt)]
      exact (hf c nc).1
  done := by
    intro X hP hw hK hc i pins s σ H E I hf st hg
    subst hP hw hK
    have hh : X.A.in1.handled = none := I.ok.hd hc
    obtain ⟨g1, g2, ⟨x0, y0, g3⟩, g4, g5⟩ := st
    obtain ⟨xs, ys, q1, q2, le1, le2, en⟩ := hg
    obtain ⟨us, r1, p1⟩ := q1.is I
    obtain ⟨ws, r2, p2⟩ := q2.is I
    have s1 : us.toArray.size = xs.length := by simpa using r1.length.symm
    have s2 : ws.toArray.size = ys.length := by simpa using r2.length.symm
    refine wpAny_pyNext_zipD2_end (i := i) ap (drwK hh k1 i1 a na us.toArray) (drwK hh k2 i2 b nb ws.toArray) g1 g2 g3 ⟨g4, p1⟩ ⟨g5, p2⟩ (by omega) (by omega) (by omega) fun h1 tk kp => ?_
    refine ⟨rfl, I.turnedL (t' := tk) (ch := [z, TI, TO, i1, i2]) (fun c o nc e => ?_) hf⟩
    simp only [List.mem_cons, List.not_mem_nil, or_false, not_or] at nc
    obtain ⟨c1, c2, c3, c4, c5⟩ := nc
    exact kp c o c1 c3 c4 c5 e
  self := fun A i s Q E st g => wpAny_pyIter_zip st.1 g
def iZipK (K : PySem.W.Frag) (ta : TA) : TI := fun σ H R => ta σ H fun vs H1 => ∃ k1 k2 a b xs ys, vs = [.ref a, .ref b] ∧ SqK k1 K H1 a xs ∧ SqK k2 K H1 b ys ∧ R (ItzK K k1 k2 a b) H1
theorem pi_zipK {X : Cx} {e e2 : Expr} {ta : TA} {p pos tpos : Pos} {elts : List Expr} {kk : Nat} (hg : Gl X "zip") (hm : X.mg "zip" = none) (ha : PA X [e, e2] ta)
    (hs : starEach [e, e2] X.env = (false, eval e X.env) :: starEach [e2] X.env) (hpl : (backTo pos (starEach [e2] X.env)).any (·.1) = false) :
    PI X (.Tuple elts kk tpos) (.Call (.Name "zip" p) [e, e2] [] pos) (iZipK X.K ta) := by
  constructor
  intro pins s σ H R I h
  refine Call_ ?_
  refine ld_blt I hg hm PyProof.Rows.boot_zip ?_
  refine PyProof.Rows.callWith_type1 (thn (ha.run pos pins s σ H _ I h) fun us s1 ⟨vs, H1, I1, r1, k1, k2, a, b, xs, ys, ex, q1, q2, q⟩ => ?_) hs hpl
  subst ex
  cases r1 with
  | cons ra rr =>
    cases rr with
    | cons rb rr =>
      cases rr
      cases ra
      cases rb
      obtain ⟨us, v1, p1⟩ := q1.is I1
      obtain ⟨ws, v2, p2⟩ := q2.is I1
      have la : a < s1.heap.objs.size := by
        cases k1
        · obtain ⟨_, e, _⟩ := p1; exact Heap.lt_size e
        · obtain ⟨_, e, _⟩ := p1; exact Heap.lt_size e
      have lb : b < s1.heap.objs.size := by
        cases k2
        · obtain ⟨_, e, _⟩ := p2; exact Heap.lt_size e
        · obtain ⟨_, e, _⟩ := p2; exact Heap.lt_size e
      refine zip_begins2 (begK k1 a us.toArray) (begK k2 b ws.toArray) p1 p2 fun h1 m1 m2 m3 m4 m5 _ kp => wpAny_pyIter_zip m1 ?_
      have I2 : L2.Inv X pins σ H1 { s1 with heap := h1 } := I1.kept (t' := s1.toks) kp
      have ap := zip_sep2 (N := s1.heap.objs.size) (fp1 := [a]) (fp2 := [b]) (fun c hc => by rw [List.mem_singleton.mp hc]; exact la) (fun c hc => by rw [List.mem_singleton.mp hc]; exact lb)
      refine ⟨s1.heap.objs.size + 4, [s1.heap.objs.size + 4, s1.heap.objs.size + 2, s1.heap.objs.size + 3, s1.heap.objs.size, s1.heap.objs.size + 1], _, _, H1, rfl, I2, turn_zipK ap (Nat.ne_of_lt la) (Nat.ne_of_lt (Nat.lt_succ_of_lt lb)), ⟨m1, m2, ⟨_, _, m3⟩, ItK.new m4, ItK.new m5⟩, fun c nc => ?_, q⟩
      have le : s1.heap.objs.size ≤ c := by
        have cs : c = s1.heap.objs.size + 4 ∨ c = s1.heap.objs.size + 2 ∨ c = s1.heap.objs.size + 3 ∨ c = s1.heap.objs.size ∨ c = s1.heap.objs.size + 1 := by simpa using nc
        rcases cs with e | e | e | e | e
        · rw [e]; exact Nat.le_add_right _ _
        · rw [e]; exact Nat.le_add_right _ _
        · rw [e]; exact Nat.le_add_right _ _
        · rw [e]; exact Nat.le_refl _
        · rw [e]; exact Nat.le_add_right _ _
      exact I1.fpOk le (I1.hok.fresh le)
end Px

/-! Px8: what is gone along; comprehensions; chains. -/
namespace Px
open PySem PySem.Spec PyProof.Rows L2

section
variable {X : Cx} {K : PySem.W.Frag} {m m' : Wd} {h h' : List O} {H H' : Hp}
theorem pi_or {tg e : Expr} {w1 w2 : TI} (h1 : PI X tg e w1) (h2 : PI X tg e w2) : PI X tg e (fun σ H R => w1 σ H R ∨ w2 σ H R) := ⟨fun pins s σ H R I q => q.elim (h1.run pins s σ H R I) (h2.run pins s σ H R I)⟩
theorem SqL.inj {K : PySem.W.Frag} {H : Hp} {a : Addr} {xs ys : List V} (h1 : H a = some (.lst xs)) (h2 : SqL K H a ys) (nk : K.lookup a = none) : ys = xs := by
  rcases h2 with (h2 | ⟨o, h2⟩) | ⟨o, its, n, h2, _⟩
  · rw [h1] at h2; cases h2; rfl
  · rw [h1] at h2; cases h2
  · rw [nk] at h2; cases h2
theorem yl_list {G : Hp} {a : Addr} {vs : List V} {xs : List PyData} (h1 : G a = some (.lst vs)) (r : RpL K G vs xs) : Yl K G xs (Itl K a) := fun i H s =>
  ⟨fun hi => ⟨vs, vs[i]'(by rw [r.len]; exact hi), SqL.of (s _ _ h1), List.getElem?_eq_getElem _⟩, fun hi => ⟨vs, SqL.of (s _ _ h1), by rw [r.len]; omega⟩, fun G' x H' d hd s1 s2 y => by
    obtain ⟨rfl, y⟩ := y
    have e := y vs (SqL.of (s _ _ h1))
    obtain ⟨v, e1, e2⟩ := r.get hd
    rw [e] at e1
    cases e1
    exact ⟨G', New.refl s2, e2.mono s1⟩⟩
theorem yl_tup {G : Hp} {a : Addr} {vs : List V} {xs : List PyData} (h1 : SqT K G a vs) (r : RpL K G vs xs) : Yl K G xs (Itt K a) := fun i H s =>
  ⟨fun hi => ⟨vs, vs[i]'(by rw [r.len]; exact hi), s.sqT h1, List.getElem?_eq_getElem _⟩, fun hi => ⟨vs, s.sqT h1, by rw [r.len]; omega⟩, fun G' x H' d hd s1 s2 y => by
    obtain ⟨rfl, y⟩ := y
    have e := y vs (s.sqT h1)
    obtain ⟨v, e1, e2⟩ := r.get hd
    rw [e] at e1
    cases e1
    exact ⟨G', New.refl s2, e2.mono s1⟩⟩
theorem yl_range {G : Hp} {lo hi : Int} : Yl K G (rangeL lo hi) (Itr lo (hi - lo).toNat) := fun i H s => by
  have hl : (rangeL lo hi).length = (hi - lo).toNat := by simp [rangeL]
  refine ⟨fun h => by rw [hl] at h; exact h, fun h => by rw [hl] at h; exact Nat.le_of_eq h.symm, fun G' x H' d hd s1 s2 y => ?_⟩
  obtain ⟨rfl, rfl⟩ := y
  have hi' : i < (rangeL lo hi).length := (List.getElem?_eq_some_iff.mp hd).1
  rw [hl] at hi'
  have e : (rangeL lo hi)[i]? = some (.int (lo + (i : Nat))) := by
    unfold rangeL
    rw [List.getElem?_map, List.getElem?_range hi']
    rfl
  rw [e] at hd
  cases hd
  exact ⟨G', New.refl s2, .int _⟩
theorem zip_get {xs ys : List PyData} {i : Nat} {d : PyData} (h : (zipD xs ys)[i]? = some d) : ∃ x y, xs[i]? = some x ∧ ys[i]? = some y ∧ d = .tuple [x, y] := by
  unfold zipD at h
  rw [List.getElem?_zipWith] at h
  split at h
  · rename_i x y e1 e2
    cases h
    exact ⟨x, y, e1, e2, rfl⟩
  · cases h
/-- what stands at a handle, by kind -/
def GqK (k : Bool) (K : PySem.W.Frag) (G : Hp) (a : Addr) (vs : List V) : Prop := if k then G a = some (.lst vs) else SqT K G a vs
theorem GqK.up {k : Bool} {G H : Hp} {a : Addr} {vs : List V} (h : GqK k K G a vs) (s : Sub G H) : SqK k K H a vs := by
  cases k
  · exact s.sqT h
  · exact SqL.of (s _ _ h)
theorem yl_zipK {k1 k2 : Bool} {G : Hp} {a b : Addr} {vs ws : List V} {xs ys : List PyData} (h1 : GqK k1 K G a vs) (r1 : RpL K G vs xs) (h2 : GqK k2 K G b ws) (r2 : RpL K G ws ys) : Yl K G (zipD xs ys) (ItzK K k1 k2 a b) := fun i H s => by
  have hl : (zipD xs ys).length = min xs.length ys.length := by simp [zipD]
  have l1 := r1.len
  have l2 := r2.len
  refine ⟨fun h => ⟨vs, ws, vs[i]'(by omega), ws[i]'(by omega), h1.up s, h2.up s, List.getElem?_eq_getElem _, List.getElem?_eq_getElem _⟩, fun h => ⟨vs, ws, h1.up s, h2.up s, by omega, by omega, by omega⟩, fun G' x H' d hd s1 s2 y => ?_⟩
  obtain ⟨T, v, w, rfl, hT, rfl, y1, y2⟩ := y
  obtain ⟨dx, dy, e1, e2, rfl⟩ := zip_get hd
  obtain ⟨v', k1, k2⟩ := r1.get e1
  obtain ⟨w', k3, k4⟩ := r2.get e2
  have z1 := y1 vs (h1.up s)
  have z2 := y2 ws (h2.up s)
  rw [k1] at z1; cases z1
  rw [k3] at z2; cases z2
  have N := New.upd (o := .tup [v, w]) s2 hT
  exact ⟨_, N, .tup (SqT.of upd_same) (.cons (k2.mono (s1.trans N.g)) (.cons (k4.mono (s1.trans N.g)) .nil))⟩
/-- along a list or a tuple -/
theorem sd_it {tg e : Expr} {f : Px.Env → M D} (he : PE X e (tD X.K f)) : PI X tg e (tIt X.K fun ρ => do
    let x ← f ρ
    let x ← val x
    M.opt (seqOf x)) :=
  wkI (pi_or (pi_list he) (pi_tup he)) fun σ H R' ⟨m, ρ, h, d, h', R, S, e, q⟩ => by
    obtain ⟨x, h1, e1, e⟩ := bnd_ok.mp e
    obtain ⟨y, h2, e2, e⟩ := bnd_ok.mp e
    obtain ⟨k3, rfl⟩ := opt_ok.mp e
    have fin : ∀ m1 v H1, Ext m m1 h h1 H H1 → Rel X.K m1 h1 H1 → RD X.K m1 h1.length v x →
        (∃ a vs, v = .ref a ∧ H1 a = some (.lst vs) ∧ R' (Itl X.K a) H1 ∧ y = .list d) ∨ (∃ a vs, v = .ref a ∧ SqT X.K H1 a vs ∧ R' (Itt X.K a) H1 ∧ y = .tuple d) := fun m1 v H1 E1 R1 r1 => by
      obtain ⟨G', R2, E2, r2⟩ := R1.val r1 e2
      cases y <;> simp only [seqOf, reduceCtorEq, Option.some.injEq] at k3
      · subst k3
        cases r2 with
        | lst a1 a2 => exact .inl ⟨_, _, rfl, R2.sub _ _ a1, q _ _ H1 (E1.trans R1 E2) R2 (yl_list a1 a2), rfl⟩
      · subst k3
        cases r2 with
        | tup a1 a2 => exact .inr ⟨_, _, rfl, R2.sub.sqT a1, q _ _ H1 (E1.trans R1 E2) R2 (yl_tup a1 a2), rfl⟩
    cases y <;> simp only [seqOf, reduceCtorEq, Option.some.injEq] at k3
    · refine .inl ⟨m, ρ, h, x, h1, R, S, e1, fun m1 v H1 E1 R1 r1 => ?_⟩
      rcases fin m1 v H1 E1 R1 r1 with ⟨a, vs, rfl, b, c, _⟩ | ⟨a, vs, rfl, b, c, z⟩
      · exact ⟨a, rfl, ⟨vs, SqL.of b⟩, c⟩
      · cases z
    · refine .inr ⟨m, ρ, h, x, h1, R, S, e1, fun m1 v H1 E1 R1 r1 => ?_⟩
      rcases fin m1 v H1 E1 R1 r1 with ⟨a, vs, rfl, b, c, z⟩ | ⟨a, vs, rfl, b, c, _⟩
      · cases z
      · exact ⟨a, rfl, ⟨vs, b⟩, c⟩
theorem two_args {α : Type} {xs : List α} (h : xs.length = 2) : ∃ a b, xs = [a, b] := by
  match xs, h with
  | [a, b], _ => exact ⟨a, b, rfl⟩
theorem one_arg {α : Type} {xs : List α} (h : xs.length = 1) : ∃ a, xs = [a] := by
  match xs, h with
  | [a], _ => exact ⟨a, rfl⟩
theorem sd_rng1 {tg a : Expr} {fa : Px.Env → M D} {p pos : Pos} (hg : Gl X "range") (hm : X.mg "range" = none) (hs : simple a = true) (ha : PE X a (tD X.K fa)) :
    PI X tg (.Call (.Name "range" p) [a] [] pos) (tIt X.K fun ρ => do
      let x ← fa ρ
      let x ← val x
      M.opt (rngD [x])) :=
  wkI (pi_range1 hg hm (sd_vs1 hs ha sd_vs0) (star_cons hs)) fun σ H R' ⟨m, ρ, h, d, h', R, S, e, q⟩ => by
    obtain ⟨x, h1, e1, e⟩ := bnd_ok.mp e
    obtain ⟨y, h2, e2, e⟩ := bnd_ok.mp e
    obtain ⟨k3, rfl⟩ := opt_ok.mp e
    refine ⟨m, ρ, h, [y], _, R, S, bnd_ok.mpr ⟨x, h1, e1, bnd_ok.mpr ⟨y, _, e2, rfl⟩⟩, fun m1 vs H1 E1 R1 r1 => ?_⟩
    match y, vs, r1, k3 with
    | .int n, _, .cons (.int _) .nil, k3 =>
      simp only [rngD, Option.ite_none_right_eq_some, Option.some.injEq] at k3
      obtain ⟨⟨b1, b2⟩, rfl⟩ := k3
      have y := yl_range (K := X.K) (G := m1.G) (lo := 0) (hi := n)
      rw [Int.sub_zero] at y
      exact ⟨n, rfl, b1, b2, q m1 _ H1 E1 R1 y⟩
theorem sd_rng2 {tg a b : Expr} {fa fb : Px.Env → M D} {p pos : Pos} (hg : Gl X "range") (hm : X.mg "range" = none) (hs : simple a = true) (hs2 : simple b = true) (ha : PE X a (tD X.K fa)) (hb : PE X b (tD X.K fb)) :
    PI X tg (.Call (.Name "range" p) [a, b] [] pos) (tIt X.K fun ρ => do
      let x ← fa ρ
      let x ← val x
      let y ← fb ρ
      let y ← val y
      M.opt (rngD [x, y])) :=
  wkI (pi_range2 hg hm (sd_vs1 hs ha (sd_vs1 hs2 hb sd_vs0)) ((star_cons hs).trans (by rw [star_cons hs2]; rfl)) (star_cons hs2)) fun σ H R' ⟨m, ρ, h, d, h', R, S, e, q⟩ => by
    obtain ⟨x, h1, e1, e⟩ := bnd_ok.mp e
    obtain ⟨y, h2, e2, e⟩ := bnd_ok.mp e
    obtain ⟨x2, h3, e3, e⟩ := bnd_ok.mp e
    obtain ⟨y2, h4, e4, e⟩ := bnd_ok.mp e
    obtain ⟨k3, rfl⟩ := opt_ok.mp e
    refine ⟨m, ρ, h, [y, y2], _, R, S, bnd_ok.mpr ⟨x, h1, e1, bnd_ok.mpr ⟨y, _, e2, bnd_ok.mpr ⟨[y2], _, bnd_ok.mpr ⟨x2, h3, e3, bnd_ok.mpr ⟨y2, _, e4, rfl⟩⟩, rfl⟩⟩⟩, fun m1 vs H1 E1 R1 r1 => ?_⟩
    cases y <;> simp only [rngD, reduceCtorEq] at k3
    cases y2 <;> simp only [rngD, reduceCtorEq, Option.ite_none_right_eq_some, Option.some.injEq] at k3
    obtain ⟨⟨b1, b2, b3, b4⟩, rfl⟩ := k3
    match vs, r1 with
    | _, .cons (.int i) (.cons (.int j) .nil) => exact ⟨i, j, rfl, ⟨b1, b2, b3, b4⟩, q m1 _ H1 E1 R1 yl_range⟩
theorem sd_zip {elts : List Expr} {kk : Nat} {tpos : Pos} {es : List Expr} {fs : Px.Env → M (List PyData)} {p pos : Pos} (hg : Gl X "zip") (hm : X.mg "zip" = none) (hl : es.length = 2) (hs : ∀ e ∈ es, simple e = true) (ha : PA X es (tVs X.K fs)) :
    PI X (.Tuple elts kk tpos) (.Call (.Name "zip" p) es [] pos) (tIt X.K fun ρ => do
      let ds ← fs ρ
      M.opt (zipDs ds)) := by
  obtain ⟨a, b, rfl⟩ := two_args hl
  refine wkI (pi_zipK hg hm ha (star_cons (hs a (by simp))) (star_any fun e he => hs e (by simp at he; simp [he]))) fun σ H R' ⟨m, ρ, h, d, h', R, S, e, q⟩ => ?_
  obtain ⟨ds, h1, e1, e⟩ := bnd_ok.mp e
  obtain ⟨k3, rfl⟩ := opt_ok.mp e
  refine ⟨m, ρ, h, ds, _, R, S, e1, fun m1 vs H1 E1 R1 r1 => ?_⟩
  match ds, k3 with
  | [.list xs, .list ys], k3 =>
    simp only [zipDs, Option.some.injEq] at k3
    subst k3
    match vs, r1 with
    | _, .cons (.lst a1 a2) (.cons (.lst b1 b2) .nil) => exact ⟨true, true, _, _, _, _, rfl, SqL.of (R1.sub _ _ a1), SqL.of (R1.sub _ _ b1), q m1 _ H1 E1 R1 (yl_zipK (k1 := true) (k2 := true) a1 a2 b1 b2)⟩
  | [.tuple xs, .tuple ys], k3 =>
    simp only [zipDs, Option.some.injEq] at k3
    subst k3
    match vs, r1 with
    | _, .cons (.tup a1 a2) (.cons (.tup b1 b2) .nil) => exact ⟨false, false, _, _, _, _, rfl, R1.sub.sqT a1, R1.sub.sqT b1, q m1 _ H1 E1 R1 (yl_zipK (k1 := false) (k2 := false) a1 a2 b1 b2)⟩
  | [.list xs, .tuple ys], k3 =>
    simp only [zipDs, Option.some.injEq] at k3
    subst k3
    match vs, r1 with
    | _, .cons (.lst a1 a2) (.cons (.tup b1 b2) .nil) => exact ⟨true, false, _, _, _, _, rfl, SqL.of (R1.sub _ _ a1), R1.sub.sqT b1, q m1 _ H1 E1 R1 (yl_zipK (k1 := true) (k2 := false) a1 a2 b1 b2)⟩
  | [.tuple xs, .list ys], k3 =>
    simp only [zipDs, Option.some.injEq] at k3
    subst k3
    match vs, r1 with
    | _, .cons (.tup a1 a2) (.cons (.lst b1 b2) .nil) => exact ⟨false, true, _, _, _, _, rfl, R1.sub.sqT a1, SqL.of (R1.sub _ _ b1), q m1 _ H1 E1 R1 (yl_zipK (k1 := false) (k2 := true) a1 a2 b1 b2)⟩
theorem enum_get {xs : List PyData} {i : Nat} {d : PyData} (h : (enumD xs)[i]? = some d) : ∃ x, xs[i]? = some x ∧ d = .tuple [.int (i : Nat), x] := by
  unfold enumD at h
  rw [List.getElem?_map, List.getElem?_zipIdx] at h
  cases e : xs[i]? with
  | none => rw [e] at h; cases h
  | some x =>
    rw [e] at h
    simp at h
    exact ⟨x, rfl, h.symm⟩
theorem yl_enum {G : Hp} {a : Addr} {vs : List V} {xs : List PyData} (h1 : G a = some (.lst vs)) (r1 : RpL K G vs xs) : Yl K G (enumD xs) (Ite K a) := fun i H s => by
  have hl : (enumD xs).length = xs.length := by simp [enumD]
  have w := walk_enum (K := K) (a := a) (xs := vs)
  have l1 := r1.len
  have hG : SqL K H a vs := SqL.of (s _ _ h1)
  refine ⟨fun h => (w.goes i H (by omega) hG), fun h => by rw [show i = vs.length by omega]; exact w.stops H hG, fun G' x H' d hd s1 s2 y => ?_⟩
  obtain ⟨dx, e1, rfl⟩ := enum_get hd
  have hi : i < vs.length := by rw [l1]; exact (List.getElem?_eq_some_iff.mp e1).1
  obtain ⟨T, v, z, rfl, hT, rfl, y1, y2⟩ := w.yields i H x H' hi hG y
  cases y1
  obtain ⟨w', k3, k4⟩ := r1.get e1
  have y2 : vs[i]? = some z := y2
  have ez : w' = z := Option.some.inj (k3.symm.trans y2)
  rw [ez] at k4
  have N := New.upd (o := .tup [.int (i : Nat), z]) s2 hT
  exact ⟨_, N, .tup (SqT.of upd_same) (.cons (.int _) (.cons (k4.mono (s1.trans N.g)) .nil))⟩
theorem yl_enumT {G : Hp} {a : Addr} {vs : List V} {xs : List PyData} (h1 : SqT K G a vs) (r1 : RpL K G vs xs) : Yl K G (enumD xs) (IteT K a) := fun i H s => by
  have hl : (enumD xs).length = xs.length := by simp [enumD]
  have l1 := r1.len
  have hG : SqT K H a vs := s.sqT h1
  refine ⟨fun h => ?_, fun h => ⟨vs, hG, by omega⟩, fun G' x H' d hd s1 s2 y => ?_⟩
  · have hi : i < vs.length := by omega
    exact ⟨vs, vs[i], hG, List.getElem?_eq_getElem hi⟩
  obtain ⟨dx, e1, rfl⟩ := enum_get hd
  obtain ⟨T, z, rfl, hT, rfl, y2⟩ := y
  obtain ⟨w', k3, k4⟩ := r1.get e1
  have ez : w' = z := Option.some.inj (k3.symm.trans (y2 vs hG))
  rw [ez] at k4
  have N := New.upd (o := .tup [.int (i : Nat), z]) s2 hT
  exact ⟨_, N, .tup (SqT.of upd_same) (.cons (.int _) (.cons (k4.mono (s1.trans N.g)) .nil))⟩
theorem sd_enm {elts : List Expr} {kk : Nat} {tpos : Pos} {es : List Expr} {fs : Px.Env → M (List PyData)} {p pos : Pos} (hg : Gl X "enumerate") (hm : X.mg "enumerate" = none) (hl : es.length = 1) (hs : ∀ e ∈ es, simple e = true) (ha : PA X es (tVs X.K fs)) :
    PI X (.Tuple elts kk tpos) (.Call (.Name "enumerate" p) es [] pos) (tIt X.K fun ρ => do
      let ds ← fs ρ
      M.opt (enumDs ds)) := by
  obtain ⟨a, rfl⟩ := one_arg hl
  refine wkI (pi_or (pi_enum hg hm ha (star_cons (hs a (by simp)))) (pi_enumT hg hm ha (star_cons (hs a (by simp))))) fun σ H R' ⟨m, ρ, h, d, h', R, S, e, q⟩ => ?_
  obtain ⟨ds, h1, e1, e⟩ := bnd_ok.mp e
  obtain ⟨k3, rfl⟩ := opt_ok.mp e
  match ds, k3 with
  | [.list xs], k3 =>
    simp only [enumDs, Option.some.injEq] at k3
    subst k3
    refine .inl ⟨m, ρ, h, _, _, R, S, e1, fun m1 vs H1 E1 R1 r1 => ?_⟩
    match vs, r1 with
    | _, .cons (.lst a1 a2) .nil => exact ⟨_, _, rfl, SqL.of (R1.sub _ _ a1), q m1 _ H1 E1 R1 (yl_enum a1 a2)⟩
  | [.tuple xs], k3 =>
    simp only [enumDs, Option.some.injEq] at k3
    subst k3
    refine .inr ⟨m, ρ, h, _, _, R, S, e1, fun m1 vs H1 E1 R1 r1 => ?_⟩
    match vs, r1 with
    | _, .cons (.tup a1 a2) .nil => exact ⟨_, _, rfl, R1.sub.sqT a1, q m1 _ H1 E1 R1 (yl_enumT a1 a2)⟩

/-! ### targets -/
def gNs : List Nat → TGs
  | [] => gNil
  | i :: is => gCons (gName i) (gNs is)
def gT (K : PySem.W.Frag) (is : List Nat) (tp : Bool) : TG := if tp then gTup K is.length (gNs is) else (match is with
  | [i] => gName i
  | _ => fun _ _ _ _ => False)
theorem SR.set {n : Nat} {σ : L2.St} {ρ : Px.Env} {i : Nat} {v : V} {d : D} (S : SR K m n σ ρ) (r : RD K m n v d) : SR K m n (σ.set i (some v)) (ρ.set i (some d)) := by
  refine ⟨by rw [List.length_set, List.length_set]; exact S.len, fun j e hj => ?_⟩
  by_cases hij : i = j
  · subst hij
    by_cases hl : i < ρ.length
    · rw [List.getElem?_set_self hl] at hj
      cases hj
      exact ⟨v, List.getElem?_set_self (by rw [S.len]; exact hl), r⟩
    · rw [List.getElem?_eq_none (by simpa using hl)] at hj; cases hj
  · rw [List.getElem?_set_ne hij] at hj
    rw [List.getElem?_set_ne hij]
    exact S.get j e hj
theorem SR.wipe {n : Nat} {σ : L2.St} {ρ : Px.Env} (S : SR K m n σ ρ) : ∀ vs : List Nat, SR K m n (L2.wipe σ vs) (Px.wipe ρ vs)
  | [] => S
  | v :: vs => by
    have ih := SR.wipe S vs
    unfold L2.wipe Px.wipe
    refine ⟨by rw [List.length_set, List.length_set]; exact ih.len, fun j e hj => ?_⟩
    by_cases hij : v = j
    · subst hij
      by_cases hl : v < (Px.wipe ρ vs).length
      · rw [List.getElem?_set_self hl] at hj; cases hj
      · rw [List.getElem?_eq_none (by simpa using hl)] at hj; cases hj
    · rw [List.getElem?_set_ne hij] at hj
      rw [List.getElem?_set_ne hij]
      exact ih.get j e hj
theorem wipe_at (σ : L2.St) (j : Nat) : ∀ vs : List Nat, (L2.wipe σ vs)[j]? = if j ∈ vs then (if j < σ.length then some none else none) else σ[j]?
  | [] => by simp [L2.wipe]
  | v :: vs => by
    unfold L2.wipe
    by_cases hv : v = j
    · subst hv
      simp only [List.mem_cons, true_or, if_true]
      by_cases hl : v < σ.length
      · rw [List.getElem?_set_self (by rw [wipe_length]; exact hl), if_pos hl]
      · rw [List.getElem?_eq_none (by rw [List.length_set, wipe_length]; omega), if_neg hl]
    · rw [List.getElem?_set_ne hv, wipe_at σ j vs]
      have : j ∈ v :: vs ↔ j ∈ vs := by
        rw [List.mem_cons]
        exact ⟨fun z => z.elim (fun y => absurd y.symm hv) id, .inr⟩
      simp only [this]
theorem wipe_set {σ : L2.St} {vs : List Nat} {i : Nat} {v : Option V} (hi : i ∈ vs) : L2.wipe (σ.set i v) vs = L2.wipe σ vs := by
  apply List.ext_getElem?
  intro j
  rw [wipe_at, wipe_at, List.length_set]
  by_cases hj : j ∈ vs
  · rw [if_pos hj, if_pos hj]
  · rw [if_neg hj, if_neg hj, List.getElem?_set_ne (fun z => hj (by rw [← z]; exact hi))]
theorem wipe_wipe (σ : L2.St) (vs : List Nat) : L2.wipe (L2.wipe σ vs) vs = L2.wipe σ vs := by
  apply List.ext_getElem?
  intro j
  rw [wipe_at, wipe_at, wipe_length]
  by_cases hj : j ∈ vs
  · rw [if_pos hj, if_pos hj]
  · rw [if_neg hj, if_neg hj]
theorem bind_ns {n : Nat} {Q : L2.St → Hp → Prop} : ∀ {is : List Nat} {ds : List PyData} {vs : List V} {σ : L2.St} {ρ ρ1 : Px.Env}, bindAll is ds ρ = some ρ1 → RpL K m.G vs ds → SR K m n σ ρ →
    (∀ σ1, SR K m n σ1 ρ1 → (∀ own : List Nat, (∀ i ∈ is, i ∈ own) → L2.wipe σ1 own = L2.wipe σ own) → Q σ1 H) → gNs is vs σ H Q
  | [], [], _, σ, ρ, ρ1, e, .nil, S, q => by
    simp only [bindAll, Option.some.injEq] at e
    subst e
    exact ⟨rfl, q σ S fun _ _ => rfl⟩
  | [], _ :: _, _, _, _, _, e, _, _, _ => by simp [bindAll] at e
  | _ :: _, [], _, _, _, _, e, _, _, _ => by simp [bindAll] at e
  | i :: is, d :: ds, _, σ, ρ, ρ1, e, .cons r rs, S, q => by
    simp only [bindAll] at e
    refine ⟨_, _, rfl, bind_ns e rs (S.set (d := .p d) r) fun σ1 S1 w => q σ1 S1 fun own ho => ?_⟩
    rw [w own fun j hj => ho j (by simp [hj])]
    exact wipe_set (ho i (by simp))
theorem bind_gt {n : Nat} {is : List Nat} {tp : Bool} {d : PyData} {v : V} {σ : L2.St} {ρ ρ1 : Px.Env} {Q : L2.St → Hp → Prop} (sb : Sub m.G H) (e : bindG is tp d ρ = some ρ1) (r : Rp K m.G v d) (S : SR K m n σ ρ)
    (q : ∀ σ1, SR K m n σ1 ρ1 → (∀ own : List Nat, (∀ i ∈ is, i ∈ own) → L2.wipe σ1 own = L2.wipe σ own) → Q σ1 H) : gT K is tp v σ H Q := by
  unfold bindG at e
  unfold gT
  cases tp with
  | true =>
    simp only [if_true] at e ⊢
    split at e
    · rename_i ds
      cases r with
      | tup r1 r2 =>
        have hl : ds.length = is.length := by
          have key : ∀ {is : List Nat} {ds : List PyData} {ρ ρ1 : Px.Env}, bindAll is ds ρ = some ρ1 → ds.length = is.length := by
            intro is
            induction is with
            | nil => intro ds ρ ρ1 e; cases ds <;> simp [bindAll] at e ⊢
            | cons i is ih => intro ds ρ ρ1 e; cases ds with
              | nil => simp [bindAll] at e
              | cons d ds => simp only [bindAll] at e; simp [ih e]
          exact key e
        exact ⟨_, _, rfl, sb.sqT r1, r2.len.trans hl, bind_ns e r2 S q⟩
    · cases e
  | false =>
    simp only [Bool.false_eq_true, if_false] at e ⊢
    split at e
    · rename_i i
      simp only [Option.some.injEq] at e
      subst e
      exact q _ (S.set (d := .p d) r) fun own ho => wipe_set (ho i (by simp))
    · cases e
theorem pgs_of {ok : Str → Bool} (hN : X.N.Nodup) (hok : ∀ x, ok x = true → Loc X.env.scope x ∧ (X.fn x = true ∨ X.env.scope.names.lookup x = some .local)) : ∀ {is : List Nat} {es : List Expr},
    is.length = es.length → ((is.zip es).all fun p => match p.2 with
      | .Name x _ => decide (X.N[p.1]? = some x) && ok x
      | _ => false) = true → PGs X es (gNs is) ∧ (assignEach es X.env).length = is.length ∧ (assignEach es X.env).findIdx? (·.1) = none
  | [], [], _, _ => ⟨pgs_nil, rfl, rfl⟩
  | i :: is, e :: es, hl, h => by
    rw [List.zip_cons_cons, List.all_cons, Bool.and_eq_true] at h
    obtain ⟨h1, h2⟩ := h
    obtain ⟨a, b, c⟩ := pgs_of hN hok (is := is) (es := es) (by simpa using hl) h2
    cases e <;> simp only [Bool.false_eq_true] at h1
    rename_i x p
    simp only [Bool.and_eq_true, decide_eq_true_eq] at h1
    obtain ⟨h3, h4⟩ := hok x h1.2
    refine ⟨pgs_cons (pg_name hN h1.1 h3 h4) a rfl, ?_, ?_⟩
    · show ((false, assign (.Name x p) X.env) :: assignEach es X.env).length = _
      rw [List.length_cons, b]; rfl
    · show List.findIdx? (·.1) ((false, assign (.Name x p) X.env) :: assignEach es X.env) = none
      rw [List.findIdx?_cons]
      simp [c]
theorem pg_of {ok : Str → Bool} (hc : X.calm = true) (hN : X.N.Nodup) (hok : ∀ x, ok x = true → Loc X.env.scope x ∧ (X.fn x = true ∨ X.env.scope.names.lookup x = some .local)) {is : List Nat} {tp : Bool} {e : Expr} (h : chkTgt X.N ok is tp e = true) :
    PG X e (gT X.K is tp) := by
  unfold chkTgt at h
  split at h
  · simp only [Bool.and_eq_true, decide_eq_true_eq] at h
    obtain ⟨h3, h4⟩ := hok _ h.2
    exact pg_name hN h.1 h3 h4
  · simp only [Bool.and_eq_true, decide_eq_true_eq] at h
    obtain ⟨a, b, c⟩ := pgs_of hN hok h.1 h.2
    exact pg_tup hc a b c
  · cases h
end
end Px

/-! Px9: comprehensions, chains, all expressions. -/
namespace Px
open PySem PySem.Spec PyProof.Rows L2

section
variable {X : Cx} {K : PySem.W.Frag} {m m' : Wd} {h h' : List O} {H H' : Hp}
/-- what no name knows may change -/
theorem Rel.aside {p : Addr} {o : HO} (R : Rel K m h H) (g : m.G p = none) (ne : ∀ n, n < h.length → m.io n ≠ p) (nt : ∀ ps, H p ≠ some (.tbl ps)) (nx : ∀ φ, H p ≠ some (.ext φ)) : Rel K m h (upd H p o) := by
  refine ⟨fun a u e => ?_, fun n xs e => ?_, R.frz, fun n xs e => ?_, R.inj, Tabs_upd R.tab nt nx, R.gt⟩
  · rw [upd_ne (fun z => by rw [z, g] at e; cases e)]; exact R.sub _ _ e
  · obtain ⟨k1, vs, k2, k3⟩ := R.liv n xs e
    exact ⟨k1, vs, by rw [upd_ne (ne n (List.getElem?_eq_some_iff.mp e).1)]; exact k2, k3⟩
  · obtain ⟨k1, vs, k2, k3⟩ := R.nst n xs e
    exact ⟨k1, vs, by rw [upd_ne (ne n (List.getElem?_eq_some_iff.mp e).1)]; exact k2, k3⟩
theorem Ext.aside {p : Addr} {o : HO} (E : Ext m m' h h' H H') (f : H p = none) : Ext m m' h h' H (upd H' p o) :=
  ⟨E.g, E.io, E.len, fun a u e ne => by rw [upd_ne (fun z => by rw [z, f] at e; cases e)]; exact E.fr a u e ne, E.nw, E.gn⟩
/-- what stands aside is as it was behind what came about -/
theorem Ext.keep {p : Addr} {o : HO} (E : Ext m m' h h' H H') (R' : Rel K m' h' H') (e : H p = some o) (g : m.G p = none) (ne : ∀ n, n < h.length → m.io n ≠ p) (nt : ∀ ps, o ≠ .tbl ps := by intro _ z; cases z) : H' p = some o ∧ m'.G p = none ∧ ∀ n, n < h'.length → m'.io n ≠ p := by
  refine ⟨E.frL e nt ne, ?_, fun n hn z => ?_⟩
  · cases q : m'.G p with
    | none => rfl
    | some u =>
      exfalso
      rcases E.gn p u q with w | w | ⟨n, hn, w⟩
      · rw [g] at w; cases w
      · rw [e] at w; cases w
      · exact ne n hn w
  · by_cases hl : n < h.length
    · rw [E.io n hl] at z; exact ne n hl z
    · have := E.nw n (Nat.le_of_not_lt hl) hn
      rw [z, e] at this; cases this
/-- what a comprehension makes -/
def compF (own is : List Nat) (tp : Bool) (fi : Px.Env → M (List PyData)) (fc : Px.Env → M Bool) (fe : Px.Env → M D) : Px.Env → M (List PyData) := fun ρ => do
      let xs ← fi ρ
      if xs.length ≤ 2 ^ 23 then
        compL is tp (Px.wipe ρ own) fc (fun ρ1 => do
          let y ← fe ρ1
          val y) xs
      else M.no
theorem comp_lc {own is : List Nat} {tp : Bool} {fi : Px.Env → M (List PyData)} {fc : Px.Env → M Bool} {fe : Px.Env → M D} {σ : L2.St} {Q : VK} (his : ∀ i ∈ is, i ∈ own) (hw : tFr X.K (compF own is tp fi fc fe) σ H Q) :
    tLc (tIt X.K fi) (gT X.K is tp) (tT X.K fc) (tD X.K fe) own σ H Q := by
  obtain ⟨m, ρ, h, d, h', R, S, e, q⟩ := hw
  obtain ⟨xs, h1, e1, e⟩ := bnd_ok.mp e
  rw [ite_ok] at e
  split at e
  case isFalse => exact (no_ok.mp e).elim
  rename_i hlen
  refine ⟨m, ρ, h, xs, h1, R, S, e1, fun m1 J H1 E1 R1 yl D hD => ?_⟩
  have gD : m1.G D = none := by
    cases z : m1.G D with
    | none => rfl
    | some u => rw [R1.sub _ _ z] at hD; cases hD
  have nD : ∀ n, n < h1.length → m1.io n ≠ D := fun n hn z => by
    obtain ⟨o, w⟩ := R1.trk hn
    rw [z, hD] at w; cases w
  let St : Nat → Hp → Prop := fun i Hc => ∃ mi hi acc ys rest, i ≤ xs.length ∧ Ext m1 mi h1 hi H1 Hc ∧ Rel X.K mi hi Hc ∧ Hc D = some (.lst acc) ∧ RpL X.K mi.G acc ys ∧ mi.G D = none ∧ (∀ n, n < hi.length → mi.io n ≠ D) ∧ acc.length ≤ i ∧
    compL is tp (Px.wipe ρ own) fc (fun ρ1 => do
          let y ← fe ρ1
          val y) (xs.drop i) hi = .ok rest h' ∧ d = ys ++ rest
  refine ⟨fun i mm Hc => mm = xs.length - i ∧ St i Hc, ⟨xs.length, by simp, ?_⟩, fun i mm Hc hW => ?_⟩
  · refine ⟨m1, h1, [], [], d, Nat.zero_le _, (Ext.refl m1 h1 H1).aside hD, R1.aside gD nD (fun _ z => by rw [hD] at z; cases z) (fun _ z => by rw [hD] at z; cases z), upd_same, .nil, gD, nD, Nat.zero_le _, by simpa using e, rfl⟩
  · obtain ⟨rfl, mi, hi', acc, ys, rest, hle, E2, R2, eD, ra, g2, n2, la, ec, ed⟩ := hW
    have sb : Sub m1.G Hc := E2.g.trans R2.sub
    obtain ⟨y1, y2, y3⟩ := yl i Hc sb
    by_cases hlt : i < xs.length
    · refine .inr ⟨y1 hlt, fun H' => St (i + 1) H', fun H' w => ⟨xs.length - (i + 1), by omega, rfl, w⟩, fun x H' hy => ?_⟩
      have hx : xs[i]? = some xs[i] := List.getElem?_eq_getElem hlt
      obtain ⟨G3, N3, r3⟩ := y3 mi.G x H' _ hx E2.g R2.sub hy
      obtain ⟨R3, E3⟩ := R2.new N3
      obtain ⟨eD3, g3, n3⟩ := E3.keep R3 eD g2 n2
      rw [List.drop_eq_getElem_cons hlt] at ec
      obtain ⟨ρ1, h3, f1, ec⟩ := bnd_ok.mp ec
      obtain ⟨f0, rfl⟩ := opt_ok.mp f1
      have S3 : SR X.K { mi with G := G3 } hi'.length (L2.wipe σ own) (Px.wipe ρ own) := ((E3.sr (E2.sr (E1.sr S)))).wipe own
      refine bind_gt (m := { mi with G := G3 }) R3.sub f0 r3 S3 fun σ1 S4 w4 => ⟨?_, ?_⟩
      · rw [w4 own his, wipe_wipe]
      · obtain ⟨k, h4, f2, ec⟩ := bnd_ok.mp ec
        refine ⟨_, ρ1, hi', k, h4, R3, S4, f2, fun m4 H4 E4 R4 => ?_⟩
        obtain ⟨eD4, g4, n4⟩ := E4.keep R4 eD3 g3 n3
        have E24 := (E2.trans R2 E3).trans R3 E4
        cases k with
        | false =>
          refine iteF ⟨m4, h4, acc, ys, rest, hlt, E24, R4, eD4, ra.mono (E3.g.trans E4.g), g4, n4, by omega, ec, ed⟩
        | true =>
          have ec : (do
            let y ← (do
              let y ← fe ρ1
              val y : M PyData)
            let ys ← compL is tp (Px.wipe ρ own) fc (fun ρ1 => do
              let y ← fe ρ1
              val y) (xs.drop (i + 1))
            pure (y :: ys) : M (List PyData)) h4 = .ok rest h' := ec
          obtain ⟨y, h6, f3, ec⟩ := bnd_ok.mp ec
          obtain ⟨y0, h5, f4, f3⟩ := bnd_ok.mp f3
          obtain ⟨rest2, h7, f5, ec⟩ := bnd_ok.mp ec
          obtain ⟨rfl, rfl⟩ := pure_ok.mp ec
          refine iteT ⟨m4, ρ1, h4, y0, h5, R4, E4.sr S4, f4, fun m5 v H5 E5 R5 r5 => ?_⟩
          obtain ⟨eD5, g5, n5⟩ := E5.keep R5 eD4 g4 n4
          obtain ⟨G6, R6, E6, r6⟩ := R5.val r5 f3
          obtain ⟨eD6, g6, n6⟩ := E6.keep R6 eD5 g5 n5
          have E26 := (E24.trans R4 E5).trans R5 E6
          refine ⟨acc, eD5, by have := line_ok; omega, ?_⟩
          exact ⟨_, h6, acc ++ [v], ys ++ [y], rest2, hlt, E26.aside hD, R6.aside g6 n6 (fun _ z => by rw [eD6] at z; cases z) (fun _ z => by rw [eD6] at z; cases z), upd_same, (ra.mono (((E3.g.trans E4.g).trans E5.g).trans E6.g)).append (.cons r6 .nil), g6, n6, by simp; omega, f5, by rw [ed, List.append_assoc]; rfl⟩
    · have hi2 : i = xs.length := by omega
      refine .inl ⟨y2 hi2, ?_⟩
      subst hi2
      rw [List.drop_length] at ec
      obtain ⟨rfl, rfl⟩ := pure_ok.mp (show (pure [] : M (List PyData)) hi' = _ from ec)
      rw [List.append_nil] at ed
      subst ed
      exact q mi D acc Hc (E1.trans R1 E2) R2 eD ra g2 n2 (E1.old (m2 := m1) (h2 := h1) nD hD)
theorem sd_comp {elt tg iter : Expr} {ifs : List Expr} {scope : Scope} {own is : List Nat} {tp : Bool} {pos : Pos} {fi : Px.Env → M (List PyData)} {fc : Px.Env → M Bool} {fe : Px.Env → M D}
    (hc : X.calm = true) (hN : X.N.Nodup) (hi : PI X tg iter (tIt X.K fi)) (ok : BlkOk X.N X.env.scope scope (ownOf X.N own)) (hown : (ownOf X.N own).map (·.2) = own) (his : ∀ i ∈ is, i ∈ own)
    (hg : ∀ (s : Shared) (H : Hp) (C : Addr) (cl : List (Str × Addr)) (fp : List Addr), PG (X.blk s H scope (compEnvC scope cl C X.env) fp) tg (gT X.K is tp))
    (ht : ∀ (s : Shared) (H : Hp) (C : Addr) (cl : List (Str × Addr)) (fp : List Addr), PTs (X.blk s H scope (compEnvC scope cl C X.env) fp) ifs (tT X.K fc))
    (he : ∀ (s : Shared) (H : Hp) (C : Addr) (cl : List (Str × Addr)) (fp : List Addr), PE (X.blk s H scope (compEnvC scope cl C X.env) fp) elt (tD X.K fe)) (hs : ∀ x, foldedSetIterable iter X.env x = pure x) :
    PE X (.ListComp elt [⟨tg, iter, ifs, 0⟩] scope pos) (tFr X.K fun ρ => do
      let xs ← fi ρ
      if xs.length ≤ 2 ^ 23 then
        compL is tp (Px.wipe ρ own) fc (fun ρ1 => do
          let y ← fe ρ1
          val y) xs
      else M.no) := by
  have main := pe_lc (pos := pos) hc hN hi ok hg ht he hs
  rw [hown] at main
  exact wkE main fun σ H Q hw => comp_lc his hw
/-! ### lists of lists -/
theorem livN_ok {d : D} {r : Nat × List D} (e : livN d h = .ok r h') : d = .r r.1 ∧ h[r.1]? = some (.nst r.2) ∧ h = h' := by
  unfold livN at e
  split at e
  · cases e
  · cases e
  · cases e
  · split at e
    · rename_i q
      cases e
      exact ⟨rfl, q, rfl⟩
    · cases e
theorem atI_rd {n : Nat} {vs : List V} {ds : List D} {i : Int} {d : D} (r : RDL K m n vs ds) (h : atI ds i = some d) : ∃ v, atI vs i = some v ∧ RD K m n v d := by
  unfold atI at h ⊢
  rw [RDL.len r]
  obtain ⟨k, e1, e2⟩ := Option.bind_eq_some_iff.mp h
  obtain ⟨v, e3, e4⟩ := RDL.get r e2
  exact ⟨v, by rw [e1]; exact e3, e4⟩
def zIxn (x y : D) : M D := do
    let r ← livN x
    let y ← rd y
    let i ← M.opt (intOf y)
    M.opt (L2.atI r.2 i)
theorem sd_ixn {a b : Expr} {fa fb : Px.Env → M D} {pos : Pos} (ha : PE X a (tD X.K fa)) (hb : PE X b (tD X.K fb)) (hs : PlainIx b) : PE X (.Subscript a b pos) (tD X.K fun ρ => do
    let x ← fa ρ
    let y ← fb ρ
    let r ← livN x
    let y ← rd y
    let i ← M.opt (intOf y)
    M.opt (L2.atI r.2 i)) :=
  wkE (pe_ix ix_list ha hb hs) fun σ H Q hw => sd_two (z := fun _ => zIxn) hw fun m ρ h x y d h' v w H R _ r1 r2 e q => by
    obtain ⟨r, h1, e1, e⟩ := bnd_ok.mp e
    obtain ⟨rfl, k1, rfl⟩ := livN_ok e1
    obtain ⟨y', h1, e2, e⟩ := bnd_ok.mp e
    obtain ⟨k2, rfl⟩ := rd_ok.mp e2
    obtain ⟨i, h1, e3, e⟩ := bnd_ok.mp e
    obtain ⟨k3, rfl⟩ := opt_ok.mp e3
    obtain ⟨k4, rfl⟩ := opt_ok.mp e
    obtain ⟨g1, vs, g2, g3⟩ := R.nst _ _ k1
    obtain ⟨hn, rfl⟩ := r1
    obtain ⟨z, e4, e5⟩ := atI_rd g3 k4
    cases y' <;> simp only [intOf, reduceCtorEq, Option.some.injEq] at k3
    subst k3
    exact ⟨_, vs, _, z, rfl, (R.drf r2 k2).int, SqL.of g2, e4, q m z H (Ext.refl _ _ _) R e5⟩
theorem sd_lnn {a : Expr} {fa : Px.Env → M D} {p pos : Pos} (hgl : Gl X "len") (hm : X.mg "len" = none) (hs : simple a = true) (ha : PE X a (tD X.K fa)) : PE X (.Call (.Name "len" p) [a] [] pos) (tD X.K fun ρ => do
    let x ← fa ρ
    let r ← livN x
    pure (.p (.int r.2.length))) :=
  wkE (pe_callB call_len_seq hgl hm (by decide +kernel) (pa_cons ha pa_nil (star_cons hs)) (by decide) (by decide) (star_cons hs) rfl) fun σ H Q ⟨m, ρ, h, d, h', R, S, e, q⟩ => by
    obtain ⟨x, h1, e1, e⟩ := bnd_ok.mp e
    obtain ⟨r, h2, e2, e⟩ := bnd_ok.mp e
    obtain ⟨rfl, k2, rfl⟩ := livN_ok e2
    obtain ⟨rfl, rfl⟩ := pure_ok.mp e
    refine ⟨m, ρ, h, _, _, R, S, e1, fun m1 v H1 E1 R1 r1 => ?_⟩
    obtain ⟨g1, vs, g2, g3⟩ := R1.nst _ _ k2
    obtain ⟨hn, rfl⟩ := r1
    exact ⟨_, vs, rfl, .inl (SqL.of g2), by rw [RDL.len g3]; exact q m1 _ H1 E1 R1 (.int _)⟩
/-- what a comprehension of new lists makes -/
def compNF (own is : List Nat) (tp : Bool) (fi : Px.Env → M (List PyData)) (fc : Px.Env → M Bool) (fe : Px.Env → M (List PyData)) : Px.Env → M (List D) := fun ρ => do
      let xs ← fi ρ
      if xs.length ≤ 2 ^ 23 then compN is tp (Px.wipe ρ own) fc fe xs else M.no
theorem comp_lcN {own is : List Nat} {tp : Bool} {fi : Px.Env → M (List PyData)} {fc : Px.Env → M Bool} {fe : Px.Env → M (List PyData)} {σ : L2.St} {Q : VK} (his : ∀ i ∈ is, i ∈ own) (hw : tFn X.K (compNF own is tp fi fc fe) σ H Q) :
    tLc (tIt X.K fi) (gT X.K is tp) (tT X.K fc) (tFr X.K fe) own σ H Q := by
  obtain ⟨m, ρ, h, d, h', R, S, e, q⟩ := hw
  obtain ⟨xs, h1, e1, e⟩ := bnd_ok.mp e
  rw [ite_ok] at e
  split at e
  case isFalse => exact (no_ok.mp e).elim
  rename_i hlen
  refine ⟨m, ρ, h, xs, h1, R, S, e1, fun m1 J H1 E1 R1 yl D hD => ?_⟩
  have gD : m1.G D = none := by
    cases z : m1.G D with
    | none => rfl
    | some u => rw [R1.sub _ _ z] at hD; cases hD
  have nD : ∀ n, n < h1.length → m1.io n ≠ D := fun n hn z => by
    obtain ⟨o, w⟩ := R1.trk hn
    rw [z, hD] at w; cases w
  let St : Nat → Hp → Prop := fun i Hc => ∃ mi hi acc ys rest, i ≤ xs.length ∧ Ext m1 mi h1 hi H1 Hc ∧ Rel X.K mi hi Hc ∧ Hc D = some (.lst acc) ∧ RDL X.K mi hi.length acc ys ∧ mi.G D = none ∧ (∀ n, n < hi.length → mi.io n ≠ D) ∧ acc.length ≤ i ∧
    compN is tp (Px.wipe ρ own) fc fe (xs.drop i) hi = .ok rest h' ∧ d = ys ++ rest
  refine ⟨fun i mm Hc => mm = xs.length - i ∧ St i Hc, ⟨xs.length, by simp, ?_⟩, fun i mm Hc hW => ?_⟩
  · refine ⟨m1, h1, [], [], d, Nat.zero_le _, (Ext.refl m1 h1 H1).aside hD, R1.aside gD nD (fun _ z => by rw [hD] at z; cases z) (fun _ z => by rw [hD] at z; cases z), upd_same, .nil, gD, nD, Nat.zero_le _, by simpa using e, rfl⟩
  · obtain ⟨rfl, mi, hi', acc, ys, rest, hle, E2, R2, eD, ra, g2, n2, la, ec, ed⟩ := hW
    have sb : Sub m1.G Hc := E2.g.trans R2.sub
    obtain ⟨y1, y2, y3⟩ := yl i Hc sb
    by_cases hlt : i < xs.length
    · refine .inr ⟨y1 hlt, fun H' => St (i + 1) H', fun H' w => ⟨xs.length - (i + 1), by omega, rfl, w⟩, fun x H' hy => ?_⟩
      have hx : xs[i]? = some xs[i] := List.getElem?_eq_getElem hlt
      obtain ⟨G3, N3, r3⟩ := y3 mi.G x H' _ hx E2.g R2.sub hy
      obtain ⟨R3, E3⟩ := R2.new N3
      obtain ⟨eD3, g3, n3⟩ := E3.keep R3 eD g2 n2
      rw [List.drop_eq_getElem_cons hlt] at ec
      obtain ⟨ρ1, h3, f1, ec⟩ := bnd_ok.mp ec
      obtain ⟨f0, rfl⟩ := opt_ok.mp f1
      have S3 : SR X.K { mi with G := G3 } hi'.length (L2.wipe σ own) (Px.wipe ρ own) := ((E3.sr (E2.sr (E1.sr S)))).wipe own
      refine bind_gt (m := { mi with G := G3 }) R3.sub f0 r3 S3 fun σ1 S4 w4 => ⟨?_, ?_⟩
      · rw [w4 own his, wipe_wipe]
      · obtain ⟨k, h4, f2, ec⟩ := bnd_ok.mp ec
        refine ⟨_, ρ1, hi', k, h4, R3, S4, f2, fun m4 H4 E4 R4 => ?_⟩
        obtain ⟨eD4, g4, n4⟩ := E4.keep R4 eD3 g3 n3
        have E24 := (E2.trans R2 E3).trans R3 E4
        have ra4 : RDL X.K m4 h4.length acc ys := E4.rdl (E3.rdl ra)
        cases k with
        | false =>
          refine iteF ⟨m4, h4, acc, ys, rest, hlt, E24, R4, eD4, ra4, g4, n4, by omega, ec, ed⟩
        | true =>
          have ec : (do
            let ys ← fe ρ1
            let d ← newL ys
            let ds ← compN is tp (Px.wipe ρ own) fc fe (xs.drop (i + 1))
            pure (d :: ds) : M (List Px.D)) h4 = .ok rest h' := ec
          obtain ⟨y, h5, f3, ec⟩ := bnd_ok.mp ec
          obtain ⟨dd, h6, f4, ec⟩ := bnd_ok.mp ec
          simp only [newL, Out.ok.injEq] at f4
          obtain ⟨rfl, rfl⟩ := f4
          obtain ⟨rest2, h7, f5, ec⟩ := bnd_ok.mp ec
          obtain ⟨rfl, rfl⟩ := pure_ok.mp ec
          refine iteT ⟨m4, ρ1, h4, y, h5, R4, E4.sr S4, f3, fun m5 p vs H5 E5 R5 hp r5 g5' ne nw => ?_⟩
          obtain ⟨eD5, g5, n5⟩ := E5.keep R5 eD4 g4 n4
          have pD : p ≠ D := fun z => by rw [z, eD4] at nw; cases nw
          have R6 := R5.push hp g5' r5 ne
          have E56 : Ext m4 { m5 with io := fun n => if n < h5.length then m5.io n else p } h4 (h5 ++ [.lst y]) H4 H5 := by
            refine ⟨E5.g, fun n hn => ?_, by rw [List.length_append]; exact Nat.le_trans E5.len (Nat.le_add_right _ _), E5.fr, fun n a b => ?_, E5.gn⟩
            · show (if n < h5.length then m5.io n else p) = _
              rw [if_pos (Nat.lt_of_lt_of_le hn E5.len)]; exact E5.io n hn
            · show H4 (if n < h5.length then m5.io n else p) = none
              by_cases hl : n < h5.length
              · rw [if_pos hl]; exact E5.nw n a hl
              · rw [if_neg hl]; exact nw
          have n6 : ∀ n, n < (h5 ++ [Px.O.lst y]).length → (if n < h5.length then m5.io n else p) ≠ D := fun n hn => by
            by_cases hl : n < h5.length
            · rw [if_pos hl]; exact n5 n hl
            · rw [if_neg hl]; exact pD
          have E26 := E24.trans R4 E56
          refine ⟨acc, eD5, by have := line_ok; omega, ?_⟩
          refine ⟨{ m5 with io := fun n => if n < h5.length then m5.io n else p }, h5 ++ [.lst y], acc ++ [.ref p], ys ++ [.r h5.length], rest2, hlt, E26.aside hD, R6.aside g5 n6 (fun _ z => by rw [eD5] at z; cases z) (fun _ z => by rw [eD5] at z; cases z), upd_same, ?_, g5, n6, by simp; omega, f5, by rw [ed, List.append_assoc]; rfl⟩
          have app : ∀ {vs ws : List V} {ds es : List Px.D} {n : Nat} {m : Wd}, RDL X.K m n vs ds → RDL X.K m n ws es → RDL X.K m n (vs ++ ws) (ds ++ es) := fun {vs ws ds es n m} a b => by
            induction a with
            | nil => exact b
            | cons x _ ih => exact .cons x ih
          refine app (E56.rdl ra4) (.cons ⟨by simp, ?_⟩ .nil)
          show V.ref p = .ref (if h5.length < h5.length then m5.io h5.length else p)
          rw [if_neg (Nat.lt_irrefl _)]
    · have hi2 : i = xs.length := by omega
      refine .inl ⟨y2 hi2, ?_⟩
      subst hi2
      rw [List.drop_length] at ec
      obtain ⟨rfl, rfl⟩ := pure_ok.mp (show (pure [] : M (List Px.D)) hi' = _ from ec)
      rw [List.append_nil] at ed
      subst ed
      exact q mi D acc Hc (E1.trans R1 E2) R2 eD ra g2 n2 (E1.old (m2 := m1) (h2 := h1) nD hD)
theorem sd_compN {elt tg iter : Expr} {ifs : List Expr} {scope : Scope} {own is : List Nat} {tp : Bool} {pos : Pos} {fi : Px.Env → M (List PyData)} {fc : Px.Env → M Bool} {fe : Px.Env → M (List PyData)}
    (hc : X.calm = true) (hN : X.N.Nodup) (hi : PI X tg iter (tIt X.K fi)) (ok : BlkOk X.N X.env.scope scope (ownOf X.N own)) (hown : (ownOf X.N own).map (·.2) = own) (his : ∀ i ∈ is, i ∈ own)
    (hg : ∀ (s : Shared) (H : Hp) (C : Addr) (cl : List (Str × Addr)) (fp : List Addr), PG (X.blk s H scope (compEnvC scope cl C X.env) fp) tg (gT X.K is tp))
    (ht : ∀ (s : Shared) (H : Hp) (C : Addr) (cl : List (Str × Addr)) (fp : List Addr), PTs (X.blk s H scope (compEnvC scope cl C X.env) fp) ifs (tT X.K fc))
    (he : ∀ (s : Shared) (H : Hp) (C : Addr) (cl : List (Str × Addr)) (fp : List Addr), PE (X.blk s H scope (compEnvC scope cl C X.env) fp) elt (tFr X.K fe)) (hs : ∀ x, foldedSetIterable iter X.env x = pure x) :
    PE X (.ListComp elt [⟨tg, iter, ifs, 0⟩] scope pos) (tFn X.K (compNF own is tp fi fc fe)) := by
  have main := pe_lc (pos := pos) hc hN hi ok hg ht he hs
  rw [hown] at main
  exact wkE main fun σ H Q hw => comp_lcN his hw
theorem sd_slr {a : Expr} {fa : Px.Env → M D} {k : Nat} {p1 p2 p3 pos : Pos} (ha : PE X a (tD X.K fa)) : PE X (.Subscript a (.Slice none none (some (.UnaryOp .USub (.Constant (.int 1) k p1) p2)) p3) pos) (tD X.K fun ρ => do
    let x ← fa ρ
    let x ← rd x
    let y ← M.opt (revD x)
    pure (.p y)) :=
  wkE (pe_revB ha) fun σ H Q ⟨m, ρ, h, d, h', R, S, e, q⟩ => by
    obtain ⟨x, h1, e1, e⟩ := bnd_ok.mp e
    obtain ⟨y, h2, e2, e⟩ := bnd_ok.mp e
    obtain ⟨k2, rfl⟩ := rd_ok.mp e2
    obtain ⟨z, h2, e3, e⟩ := bnd_ok.mp e
    obtain ⟨k3, rfl⟩ := opt_ok.mp e3
    obtain ⟨rfl, rfl⟩ := pure_ok.mp e
    refine ⟨m, ρ, h, x, _, R, S, e1, fun m1 v H1 E1 R1 r1 => ?_⟩
    cases y <;> simp only [revD, reduceCtorEq, Option.some.injEq] at k3
    · subst k3
      obtain ⟨a, vs, rfl, h1, h2⟩ := (R1.drf r1 k2).lst R1.sub
      exact ⟨a, vs, rfl, .inr ⟨SqL.of h1, fun p hp => (R1.kp (Q := Q) fun m2 v H2 E2 R2 r2 => q m2 v H2 (E1.trans R1 E2) R2 r2).lst R1.sub h2.reverse hp⟩⟩
    · subst k3
      obtain ⟨a, vs, rfl, h1, h2⟩ := (R1.drf r1 k2).tup
      exact ⟨a, vs, rfl, .inl ⟨R1.sub.sqT h1, fun p hp => (R1.kp (Q := Q) fun m2 v H2 E2 R2 r2 => q m2 v H2 (E1.trans R1 E2) R2 r2).tup R1.sub h2.reverse hp⟩⟩
/-! ### sorted, of tuples of small whole numbers; list(range(a, b)) -/
theorem intsL_eq : ∀ {xs : List PyData} {ns : List Int}, intsL xs = some ns → xs = ns.map .int
  | [], ns, e => by cases e; rfl
  | x :: r, ns, e => by
    cases x <;> simp only [intsL, reduceCtorEq, Option.map_eq_some_iff] at e
    obtain ⟨ms, e1, rfl⟩ := e
    rw [intsL_eq e1]
    rfl
theorem tupsL_eq : ∀ {xs : List PyData} {ks : List (List Int)}, tupsL xs = some ks → xs = ks.map toT
  | [], ks, e => by cases e; rfl
  | x :: r, ks, e => by
    cases x <;> simp only [tupsL, reduceCtorEq] at e
    obtain ⟨ns, e1, e2⟩ := Option.bind_eq_some_iff.mp e
    obtain ⟨ms, e3, rfl⟩ := Option.map_eq_some_iff.mp e2
    rw [intsL_eq e1, tupsL_eq e3]
    rfl
theorem codeK_eq : ∀ ns : List Int, codeK ns = TS.code 64 ns
  | [] => rfl
  | d :: r => by
    show d * 64 ^ r.length + codeK r = d * 64 ^ r.length + TS.code 64 r
    rw [codeK_eq r]
theorem insK_perm (x : List Int) : ∀ l, (insK x l).Perm (x :: l)
  | [] => List.Perm.refl _
  | y :: r => by
    unfold insK
    split
    · exact List.Perm.refl _
    · exact ((insK_perm x r).cons y).trans (List.Perm.swap x y r)
theorem sortK_perm : ∀ l, (sortK l).Perm l
  | [] => List.Perm.refl _
  | x :: r => (insK_perm x _).trans ((sortK_perm r).cons x)
theorem chain_uniq : ∀ {ms ks : List (List Int)}, chainK ms = true → ks.Perm ms → ks.Pairwise (fun a b => codeK a ≤ codeK b) → ks = ms
  | [], ks, _, p, _ => p.eq_nil
  | m :: ms, [], _, p, _ => by have := p.length_eq; simp at this
  | m :: ms, k :: ks, c, p, w => by
    simp only [chainK, Bool.and_eq_true, List.all_eq_true, decide_eq_true_eq] at c
    rw [List.pairwise_cons] at w
    have hk : k ∈ m :: ms := p.mem_iff.mp List.mem_cons_self
    have hm : m ∈ k :: ks := p.mem_iff.mpr List.mem_cons_self
    have e : k = m := by
      rcases List.mem_cons.mp hk with z | z
      · exact z
      · rcases List.mem_cons.mp hm with u | u
        · exact u.symm
        · have a := c.1 k z
          have b := w.1 m u
          omega
    subst e
    rw [chain_uniq c.2 p.cons_inv w.2]
theorem rp_ints {G : Hp} : ∀ {vs : List V} {ns : List Int}, RpL K G vs (ns.map PyData.int) → vs = ns.map V.int
  | _, [], .nil => rfl
  | _, n :: r, .cons h t => by
    cases h
    rw [rp_ints t]
    rfl
theorem rp_toT {G : Hp} {v : V} {k : List Int} (h : Rp K G v (toT k)) : TupI K G v k := by
  obtain ⟨a, ws, rfl, h1, h2⟩ := (show Rt K G G v (.tuple (k.map .int)) from .inl h).tup
  rw [rp_ints h2] at h1
  exact ⟨a, rfl, h1⟩
theorem tupI_up {G H : Hp} (s : Sub G H) {v : V} {k : List Int} (h : TupI K G v k) : TupI K H v k := by
  obtain ⟨t, e, h⟩ := h
  exact ⟨t, e, s.sqT h⟩
theorem rp_memT {G : Hp} : ∀ {vs : List V} {ks : List (List Int)} {x : V}, RpL K G vs (ks.map toT) → x ∈ vs → ∃ k, k ∈ ks ∧ Rp K G x (toT k)
  | _, [], _, .nil, h => by cases h
  | _, k :: ks, x, .cons h t, m => by
    rcases List.mem_cons.mp m with rfl | m
    · exact ⟨k, List.mem_cons_self, h⟩
    · obtain ⟨k2, h2, h3⟩ := rp_memT t m
      exact ⟨k2, List.mem_cons_of_mem _ h2, h3⟩
theorem rp_permT {G : Hp} {ys vs : List V} (p : ys.Perm vs) : ∀ {ks : List (List Int)}, RpL K G vs (ks.map toT) → ∃ ls : List (List Int), ls.Perm ks ∧ RpL K G ys (ls.map toT) := by
  induction p with
  | nil => intro ks r; exact ⟨ks, List.Perm.refl _, r⟩
  | cons x _ ih =>
    intro ks r
    cases ks with
    | nil => cases r
    | cons k ks =>
      cases r with
      | cons h t =>
        obtain ⟨ls, h1, h2⟩ := ih t
        exact ⟨k :: ls, h1.cons k, .cons h h2⟩
  | swap x y l =>
    intro ks r
    match ks, r with
    | [], r => cases r
    | [k], .cons h t => cases t
    | k :: k2 :: ks, .cons h (.cons h2 t) => exact ⟨k2 :: k :: ks, List.Perm.swap _ _ _, .cons h2 (.cons h t)⟩
  | trans _ _ ih1 ih2 =>
    intro ks r
    obtain ⟨ls, h1, h2⟩ := ih2 r
    obtain ⟨ms, h3, h4⟩ := ih1 h2
    exact ⟨ms, h3.trans h1, h4⟩
theorem rp_wise {G H : Hp} (s : Sub G H) : ∀ {ys : List V} {ls : List (List Int)}, RpL K G ys (ls.map toT) → ys.Pairwise (fun x y => ∀ n m, TupI K H x n → TupI K H y m → TS.code 64 n ≤ TS.code 64 m) → ls.Pairwise fun a b => codeK a ≤ codeK b
  | _, [], _, _ => List.Pairwise.nil
  | _, k :: ls, .cons h t, w => by
    rw [List.pairwise_cons] at w ⊢
    refine ⟨fun b hb => ?_, rp_wise s t w.2⟩
    obtain ⟨i, hi⟩ := List.getElem?_of_mem (List.mem_map.mpr ⟨b, hb, rfl⟩ : toT b ∈ ls.map toT)
    obtain ⟨y, e1, e2⟩ := t.get hi
    have := w.1 y (List.mem_of_getElem? e1) k b (tupI_up s (rp_toT h)) (tupI_up s (rp_toT e2))
    rw [codeK_eq, codeK_eq]
    exact this
theorem sd_srt {a : Expr} {fa : Px.Env → M D} {p pos : Pos} (hgl : Gl X "sorted") (hm : X.mg "sorted" = none) (hs : simple a = true) (ha : PE X a (tD X.K fa)) : PE X (.Call (.Name "sorted" p) [a] [] pos) (tD X.K fun ρ => do
    let x ← fa ρ
    let x ← rd x
    let y ← M.opt (srtD x)
    pure (.p y)) := by
  have cr : CallR X (.builtin "sorted") (fun vs H Q => ∃ d : Nat, 1 ≤ d ∧ rSortU X.K d 64 vs H Q) := by
    intro pins s σ H vs us Q I r ⟨d, hd, h⟩
    exact cr_sortT hd pins s σ H vs us Q I r h
  refine wkE (pe_callB cr hgl hm (by decide +kernel) (pa_cons ha pa_nil (star_cons hs)) (by decide) (by decide) (star_cons hs) rfl) fun σ H Q ⟨m, ρ, h, d, h', R, S, e, q⟩ => ?_
  obtain ⟨x, h1, e1, e⟩ := bnd_ok.mp e
  obtain ⟨y, h2, e2, e⟩ := bnd_ok.mp e
  obtain ⟨k2, rfl⟩ := rd_ok.mp e2
  obtain ⟨z, h2, e3, e⟩ := bnd_ok.mp e
  obtain ⟨k3, rfl⟩ := opt_ok.mp e3
  obtain ⟨rfl, rfl⟩ := pure_ok.mp e
  refine ⟨m, ρ, h, x, _, R, S, e1, fun m1 v H1 E1 R1 r1 => ?_⟩
  cases y <;> simp only [srtD, reduceCtorEq] at k3
  obtain ⟨ks, k4, k5⟩ := Option.bind_eq_some_iff.mp k3
  split at k5
  case isFalse => cases k5
  rename_i c
  cases k5
  simp only [Bool.and_eq_true, decide_eq_true_eq, List.all_eq_true] at c
  obtain ⟨⟨⟨c1, c2⟩, c3⟩, c4⟩ := c
  obtain ⟨a, vs, rfl, h1, h2⟩ := (R1.drf r1 k2).lst R1.sub
  rw [tupsL_eq k4] at h2
  refine ⟨sideK ks, c2, a, vs, rfl, SqL.of h1, by rw [h2.len, List.length_map]; exact c1, fun x hx => ?_, fun ys p hp hw hn => ?_⟩
  · obtain ⟨k, hk, hr⟩ := rp_memT h2 hx
    have := c3 k hk
    exact ⟨k, tupI_up R1.sub (rp_toT hr), this.1, this.2⟩
  · obtain ⟨ls, l1, l2⟩ := rp_permT hp h2
    have e := chain_uniq c4 (l1.trans (sortK_perm ks).symm) (rp_wise R1.sub l2 hw)
    subst e
    exact (R1.kp (Q := Q) fun m2 v H2 E2 R2 r2 => q m2 v H2 (E1.trans R1 E2) R2 r2).lst R1.sub l2 hn
theorem rp_rng {G : Hp} (f : Nat → Int) : ∀ l : List Nat, RpL K G (l.map fun j => V.int (f j)) (l.map fun j => PyData.int (f j))
  | [] => .nil
  | n :: r => .cons (.int _) (rp_rng f r)
theorem sd_lrg {a b : Expr} {fa fb : Px.Env → M D} {p p2 pos pos2 : Pos} (hc : X.calm = true) (hgl : Gl X "list") (hm : X.mg "list" = none) (hgl2 : Gl X "range") (hm2 : X.mg "range" = none) (hs : simple a = true) (hs2 : simple b = true) (ha : PE X a (tD X.K fa)) (hb : PE X b (tD X.K fb)) :
    PE X (.Call (.Name "list" p) [.Call (.Name "range" p2) [a, b] [] pos2] [] pos) (tD X.K fun ρ => do
    let x ← fa ρ
    let y ← fb ρ
    let x ← rd x
    let i ← M.opt (intOf x)
    let y ← rd y
    let j ← M.opt (intOf y)
    if -1000000 ≤ i ∧ i ≤ 1000000 ∧ -1000000 ≤ j ∧ j ≤ 1000000 then pure (.p (.list (rangeL i j))) else M.no) := by
  have s1 : starEach [a, b] X.env = (false, eval a X.env) :: starEach [b] X.env := star_cons hs
  have s2 : starEach [b] X.env = (false, eval b X.env) :: starEach [] X.env := star_cons hs2
  refine wkE (pe_listRg hc hgl hm (prg_2 hgl2 hm2 ha hb s1 s2 (by rw [s2]; rfl)) (star_cons rfl)) fun σ H Q ⟨m, ρ, h, d, h', R, S, e, q⟩ => ?_
  obtain ⟨x, h1, e1, e⟩ := bnd_ok.mp e
  obtain ⟨y, h2, e2, e⟩ := bnd_ok.mp e
  obtain ⟨x1, h3, e3, e⟩ := bnd_ok.mp e
  obtain ⟨k3, rfl⟩ := rd_ok.mp e3
  obtain ⟨i, h4, e4, e⟩ := bnd_ok.mp e
  obtain ⟨k4, rfl⟩ := opt_ok.mp e4
  obtain ⟨y1, h5, e5, e⟩ := bnd_ok.mp e
  obtain ⟨k5, rfl⟩ := rd_ok.mp e5
  obtain ⟨j, h6, e6, e⟩ := bnd_ok.mp e
  obtain ⟨k6, rfl⟩ := opt_ok.mp e6
  rw [ite_ok] at e
  split at e
  case isFalse => exact (no_ok.mp e).elim
  rename_i c
  obtain ⟨rfl, rfl⟩ := pure_ok.mp e
  refine ⟨m, ρ, h, x, h1, R, S, e1, fun m1 v H1 E1 R1 r1 => ⟨m1, ρ, h1, y, _, R1, E1.sr S, e2, fun m2 w H2 E2 R2 r2 => ?_⟩⟩
  have i1 : v = .int i := by
    cases x1 <;> simp only [intOf, reduceCtorEq, Option.some.injEq] at k4
    subst k4
    exact (R2.drf (E2.rd r1) k3).int
  have j1 : w = .int j := by
    cases y1 <;> simp only [intOf, reduceCtorEq, Option.some.injEq] at k6
    subst k6
    exact (R2.drf r2 k5).int
  refine ⟨i, j, i1, j1, ⟨by omega, by omega, by omega, by omega, by omega⟩, fun p hp => ?_⟩
  exact (R2.kp (Q := Q) fun m3 v H3 E3 R3 r3 => q m3 v H3 ((E1.trans R1 E2).trans R2 E3) R3 r3).lst R2.sub (rp_rng (fun t => i + (t : Nat)) _) hp
theorem m2_of {x : Str} {n : Str} {p apos cpos : Pos} {e f : Expr} (he : simple e = true) (hf : simple f = true) (hl : (apos.endLine == cpos.line) = true) : M2 X (.Name x p) n apos e f cpos := by
  have s1 : starEach [e, f] X.env = [(false, eval e X.env), (false, eval f X.env)] := (star_cons he).trans (by rw [star_cons hf]; rfl)
  exact ⟨rfl, by rw [s1]; rfl, hl, by rw [s1]; rfl⟩
/-- a written dict of the module: what stands at some keys -/
def KTab (K : PySem.W.Frag) (w : World) (a : Addr) (t : List (Str × Option PyData)) : Prop := (∃ es n, K.lookup a = some ⟨.type "dict", none, .dict es n, #[]⟩ ∧ PySem.W.KeysLit w.params es.toList ∧ (a == sysModules) = false) ∧
  ∀ x o, t.lookup x = some o → match o with
    | none => PySem.W.nsIn K a x = some none
    | some d => ∃ v u, PySem.W.nsIn K a x = some (some u) ∧ RelV v u ∧ ∀ G, Rp K G v d
theorem sd_gget {x : Str} {a e : Expr} {fa fe : Px.Env → M D} {p apos cpos : Pos} {ad : Addr} {t : List (Str × Option PyData)} (hg : Gl X x) (hm : X.mg x = some (.ref ad)) (hdb : (x == ("__debug__" : Str)) = false) (kt : KTab X.K X.w ad t)
    (ha : PE X a (tD X.K fa)) (he : PE X e (tD X.K fe)) (hs : simple a = true) (hs2 : simple e = true) (hl : (apos.endLine == cpos.line) = true) :
    PE X (.Call (.Attribute (.Name x p) "get" apos) [a, e] [] cpos) (tD X.K fun ρ => do
    let x ← fa ρ
    let y ← fe ρ
    let x ← rd x
    let y ← val y
    let t ← M.opt (some t)
    let x ← M.opt (strOf x)
    let z ← M.opt (Px.getD t x y)
    pure (.p z)) :=
  wkE (pe_kget hg hm hdb ha he (m2_of hs hs2 hl) kt.1) fun σ H Q ⟨m, ρ, h, d, h', R, S, e, q⟩ => by
    obtain ⟨x, h1, e1, e⟩ := bnd_ok.mp e
    obtain ⟨y, h2, e2, e⟩ := bnd_ok.mp e
    obtain ⟨x', h3, e3, e⟩ := bnd_ok.mp e
    obtain ⟨k3, rfl⟩ := rd_ok.mp e3
    obtain ⟨y', h4, e4, e⟩ := bnd_ok.mp e
    obtain ⟨t', h5, e5, e⟩ := bnd_ok.mp e
    obtain ⟨k5, rfl⟩ := opt_ok.mp e5
    cases k5
    obtain ⟨z, h5, e6, e⟩ := bnd_ok.mp e
    obtain ⟨k6, rfl⟩ := opt_ok.mp e6
    obtain ⟨u, h5, e7, e⟩ := bnd_ok.mp e
    obtain ⟨k7, rfl⟩ := opt_ok.mp e7
    obtain ⟨rfl, rfl⟩ := pure_ok.mp e
    refine ⟨m, ρ, h, x, h1, R, S, e1, fun m1 v H1 E1 R1 r1 => ⟨m1, ρ, h1, y, _, R1, E1.sr S, e2, fun m2 w H2 E2 R2 r2 => ?_⟩⟩
    cases x' <;> simp only [strOf, reduceCtorEq, Option.some.injEq] at k6
    subst k6
    have ex := (R2.drf (E2.rd r1) k3).str
    unfold Px.getD at k7
    obtain ⟨o, k8, k9⟩ := Option.map_eq_some_iff.mp k7
    have kk := kt.2 _ o k8
    obtain ⟨G3, R3, E3, r3⟩ := R2.val r2 e4
    have E12 := (E1.trans R1 E2).trans R2 E3
    cases o with
    | none =>
      have k9 : y' = u := k9
      subst k9
      exact ⟨_, none, ex, kk, w, rfl, q _ w H2 E12 R3 r3⟩
    | some d =>
      have k9 : d = u := k9
      subst k9
      obtain ⟨v2, u2, a1, a2, a3⟩ := kk
      exact ⟨_, some u2, ex, a1, v2, a2, q _ v2 H2 E12 R3 (a3 _)⟩
theorem sd_if0 : PTs X [] (tT X.K fun _ => pure true) := by
  constructor
  intro pins s σ H Q I ⟨m, ρ, h, d, h', R, S, e, q⟩
  obtain ⟨rfl, rfl⟩ := pure_ok.mp e
  exact pts_nil.run pins s σ H Q I (q m H (Ext.refl _ _ _) R)
/-- a < b < c -/
theorem sd_chn (hu : X.A.units + 65 < cLine) {o1 o2 : COp} {a b c : Expr} {fa fb fc : Px.Env → M D} {pos : Pos} (ha : PE X a (tD X.K fa)) (hb : PE X b (tD X.K fb)) (hc : PE X c (tD X.K fc)) (hm : lastMarks [cmpOf o1, cmpOf o2] [b, c] = false) :
    PE X (.Compare a [cmpOf o1, cmpOf o2] [b, c] pos) (tD X.K (eChn o1 o2 fa fb fc)) ∧ PT X (.Compare a [cmpOf o1, cmpOf o2] [b, c] pos) (tT X.K (dTst (eChn o1 o2 fa fb fc))) := by
  have key : ∀ {σ : L2.St} {H : Hp} {Q : VK} {m : Wd} {ρ : Px.Env} {h h' : List O} {k : D}, Rel X.K m h H → SR X.K m h.length σ ρ → eChn o1 o2 fa fb fc ρ h = .ok k h' →
      ((∃ b, k = .p (.bool b)) ∧ ∀ (_ : ∀ m' H' b, k = .p (.bool b) → Ext m m' h h' H H' → Rel X.K m' h' H' → Q (.bl b) H'), tChain (rC X.K o1) (rC X.K o2) (tD X.K fa) (tD X.K fb) (tD X.K fc) σ H Q) := by
    intro σ H Q m ρ h h' k R S e
    obtain ⟨x, h1, e1, e⟩ := bnd_ok.mp e
    obtain ⟨y, h2, e2, e⟩ := bnd_ok.mp e
    obtain ⟨x1, h3, e3, e⟩ := bnd_ok.mp e
    obtain ⟨k3, rfl⟩ := rd_ok.mp e3
    obtain ⟨y1, h3, e4, e⟩ := bnd_ok.mp e
    obtain ⟨k4, rfl⟩ := rd_ok.mp e4
    obtain ⟨z, h3, e5, e⟩ := bnd_ok.mp e
    obtain ⟨k5, rfl⟩ := opt_ok.mp e5
    have sh : ∃ b, k = .p (.bool b) := by
      cases z with
      | true =>
        have e : (do
          let z ← fc ρ
          let y2 ← rd y
          let z ← rd z
          let k2 ← M.opt (cmpD o2 y2 z)
          pure (.p (.bool k2)) : M D) h2 = .ok k h' := e
        obtain ⟨w, h4, e6, e⟩ := bnd_ok.mp e
        obtain ⟨y2, h5, e7, e⟩ := bnd_ok.mp e
        obtain ⟨w2, h6, e8, e⟩ := bnd_ok.mp e
        obtain ⟨k2, h7, e9, e⟩ := bnd_ok.mp e
        obtain ⟨rfl, rfl⟩ := pure_ok.mp e
        exact ⟨k2, rfl⟩
      | false =>
        obtain ⟨rfl, rfl⟩ := pure_ok.mp (show (pure (.p (.bool false)) : M D) h2 = _ from e)
        exact ⟨false, rfl⟩
    refine ⟨sh, fun q => ⟨m, ρ, h, x, h1, R, S, e1, fun m1 v H1 E1 R1 r1 => ⟨m1, ρ, h1, y, h2, R1, E1.sr S, e2, fun m2 w H2 E2 R2 r2 => ?_⟩⟩⟩
    refine ⟨m2.G, x1, y1, z, R2.sub, R2.drf (E2.rd r1) k3, R2.drf r2 k4, k5, z, rfl, ?_⟩
    cases z with
    | false =>
      obtain ⟨rfl, rfl⟩ := pure_ok.mp (show (pure (.p (.bool false)) : M D) h2 = _ from e)
      exact iteF (q m2 H2 false rfl (E1.trans R1 E2) R2)
    | true =>
      have e : (do
        let z ← fc ρ
        let y2 ← rd y
        let z ← rd z
        let k2 ← M.opt (cmpD o2 y2 z)
        pure (.p (.bool k2)) : M D) h2 = .ok k h' := e
      obtain ⟨u, h4, e6, e⟩ := bnd_ok.mp e
      obtain ⟨y2, h5, e7, e⟩ := bnd_ok.mp e
      obtain ⟨k7, rfl⟩ := rd_ok.mp e7
      obtain ⟨w2, h6, e8, e⟩ := bnd_ok.mp e
      obtain ⟨k8, rfl⟩ := rd_ok.mp e8
      obtain ⟨k2, h7, e9, e⟩ := bnd_ok.mp e
      obtain ⟨k9, rfl⟩ := opt_ok.mp e9
      obtain ⟨rfl, rfl⟩ := pure_ok.mp e
      exact iteT ⟨m2, ρ, h2, u, _, R2, E2.sr (E1.sr S), e6, fun m3 v3 H3 E3 R3 r3 => ⟨m3.G, y2, w2, k2, R3.sub, R3.drf (E3.rd r2) k7, R3.drf r3 k8, k9, q m3 H3 k2 rfl ((E1.trans R1 E2).trans R2 E3) R3⟩⟩
  refine ⟨wkE (pe_chain (sound_cmp hu o1) (sound_cmp hu o2) ha hb hc hm) fun σ H Q ⟨m, ρ, h, d, h', R, S, e, q⟩ => ?_, wkT (pt_chain (sound_cmp hu o1) (sound_cmp hu o2) ha hb hc hm) fun σ H Q ⟨m, ρ, h, d, h', R, S, e, q⟩ => ?_⟩
  · obtain ⟨⟨b, rfl⟩, k⟩ := key (Q := Q) (H := H) (σ := σ) R S e
    refine k fun m' H' b' eb E R' => ?_
    cases eb
    exact q m' _ H' E R' (.bl _)
  · obtain ⟨y, h2, ee, et⟩ := bnd_ok.mp e
    obtain ⟨⟨b, rfl⟩, k⟩ := key (Q := fun x H' => ∃ k, x = .bl k ∧ Q k H') (H := H) (σ := σ) R S ee
    obtain ⟨y, h3, e2, et⟩ := bnd_ok.mp et
    obtain ⟨k2, rfl⟩ := rd_ok.mp e2
    obtain ⟨k3, rfl⟩ := opt_ok.mp et
    simp only [drf, Option.some.injEq] at k2
    subst k2
    simp only [truthD, Option.some.injEq] at k3
    subst k3
    refine k fun m' H' b' eb E R' => ?_
    cases eb
    exact ⟨_, rfl, q m' H' E R'⟩
end
end Px

/-! Px9b: reversed, an item of a tuple of handles, pop, min by a lambda. -/
namespace Px
open PySem PySem.Spec PyProof.Rows L2
section
variable {X : Cx} {K : PySem.W.Frag} {m m' : Wd} {h h' : List O} {H H' : Hp}
theorem rev_get {α : Type} {xs : List α} {i : Nat} {d : α} (h : xs.reverse[i]? = some d) : i < xs.length ∧ xs[xs.length - 1 - i]? = some d := by
  have hi := (List.getElem?_eq_some_iff.mp h).1
  rw [List.length_reverse] at hi
  rw [List.getElem?_reverse hi] at h
  exact ⟨hi, h⟩
theorem yl_rev {G : Hp} {a : Addr} {vs : List V} {xs : List PyData} (h1 : SqL K G a vs) (s0 : ∀ H, Sub G H → SqL K H a vs) (r : RpL K G vs xs) : Yl K G xs.reverse (Itv K a vs.length) := fun i H s => by
  have hl := r.len
  refine ⟨fun hi => ?_, fun hi => ?_, fun G' x H' d hd s1 s2 y => ?_⟩
  · rw [List.length_reverse] at hi
    have hv : vs.length - 1 - i < vs.length := by omega
    exact ⟨by omega, vs, vs[vs.length - 1 - i], s0 H s, List.getElem?_eq_getElem hv⟩
  · rw [List.length_reverse] at hi
    show vs.length ≤ i
    omega
  · obtain ⟨rfl, y⟩ := y
    obtain ⟨hi, e⟩ := rev_get hd
    have e2 := y vs (s0 _ s)
    rw [hl] at e2
    obtain ⟨v, e1, e3⟩ := r.get e
    rw [e2] at e1
    cases e1
    exact ⟨G', New.refl s2, e3.mono s1⟩
theorem yl_revT {G : Hp} {a : Addr} {vs : List V} {xs : List PyData} (h1 : SqT K G a vs) (r : RpL K G vs xs) : Yl K G xs.reverse (RT.ItvT K a vs.length) := fun i H s => by
  have hl := r.len
  refine ⟨fun hi => ?_, fun hi => ?_, fun G' x H' d hd s1 s2 y => ?_⟩
  · rw [List.length_reverse] at hi
    have hv : vs.length - 1 - i < vs.length := by omega
    exact ⟨by omega, vs, vs[vs.length - 1 - i], s.sqT h1, List.getElem?_eq_getElem hv⟩
  · rw [List.length_reverse] at hi
    show vs.length ≤ i
    omega
  · obtain ⟨rfl, y⟩ := y
    obtain ⟨hi, e⟩ := rev_get hd
    have e2 := y vs (s.sqT h1)
    rw [hl] at e2
    obtain ⟨v, e1, e3⟩ := r.get e
    rw [e2] at e1
    cases e1
    exact ⟨G', New.refl s2, e3.mono s1⟩
theorem sd_rev {tg a : Expr} {fa : Px.Env → M D} {p pos : Pos} (hg : Gl X "reversed") (hm : X.mg "reversed" = none) (hs : simple a = true) (ha : PE X a (tD X.K fa)) :
    PI X tg (.Call (.Name "reversed" p) [a] [] pos) (tIt X.K fun ρ => do
      let x ← fa ρ
      let x ← val x
      let xs ← M.opt (seqOf x)
      pure xs.reverse) :=
  wkI (RT.pi_revA hg hm ha (star_cons hs)) fun σ H R' ⟨m, ρ, h, d, h', R, S, e, q⟩ => by
    obtain ⟨x, h1, e1, e⟩ := bnd_ok.mp e
    obtain ⟨y, h2, e2, e⟩ := bnd_ok.mp e
    obtain ⟨xs, h3, e3, e⟩ := bnd_ok.mp e
    obtain ⟨k3, rfl⟩ := opt_ok.mp e3
    obtain ⟨rfl, rfl⟩ := pure_ok.mp e
    refine ⟨m, ρ, h, x, h1, R, S, e1, fun m1 v H1 E1 R1 r1 => ?_⟩
    obtain ⟨G', R2, E2, r2⟩ := R1.val r1 e2
    cases y <;> simp only [seqOf, reduceCtorEq, Option.some.injEq] at k3
    · subst k3
      cases r2 with
      | lst a1 a2 => exact ⟨_, _, rfl, .inl ⟨SqL.of (R2.sub _ _ a1), q _ _ H1 (E1.trans R1 E2) R2 (yl_rev (SqL.of a1) (fun H s => SqL.of (s _ _ a1)) a2)⟩⟩
    · subst k3
      cases r2 with
      | tup a1 a2 => exact ⟨_, _, rfl, .inr ⟨R2.sub.sqT a1, q _ _ H1 (E1.trans R1 E2) R2 (yl_revT a1 a2)⟩⟩
def zIxp (x y : D) : M D := do
    let r ← livP x
    let y ← rd y
    let i ← M.opt (intOf y)
    M.opt (L2.atI r i)
theorem livP_ok {d : D} {r : List D} (e : livP d h = .ok r h') : ∃ xs, d = .t xs ∧ r = xs.map itD ∧ h = h' := by
  unfold livP at e
  split at e
  · simp only [M.ret, Out.ok.injEq] at e
    exact ⟨_, rfl, e.1.symm, e.2⟩
  · cases e
theorem sd_ixp {a b : Expr} {fa fb : Px.Env → M D} {pos : Pos} (ha : PE X a (tD X.K fa)) (hb : PE X b (tD X.K fb)) (hs : PlainIx b) : PE X (.Subscript a b pos) (tD X.K fun ρ => do
    let x ← fa ρ
    let y ← fb ρ
    let r ← livP x
    let y ← rd y
    let i ← M.opt (intOf y)
    M.opt (L2.atI r i)) :=
  wkE (pe_ix ix_tup ha hb hs) fun σ H Q hw => sd_two (z := fun _ => zIxp) hw fun m ρ h x y d h' v w H R _ r1 r2 e q => by
    obtain ⟨r, h1, e1, e⟩ := bnd_ok.mp e
    obtain ⟨xs, rfl, rfl, rfl⟩ := livP_ok e1
    obtain ⟨y', h1, e2, e⟩ := bnd_ok.mp e
    obtain ⟨k2, rfl⟩ := rd_ok.mp e2
    obtain ⟨i, h1, e3, e⟩ := bnd_ok.mp e
    obtain ⟨k3, rfl⟩ := opt_ok.mp e3
    obtain ⟨k4, rfl⟩ := opt_ok.mp e
    obtain ⟨a, vs, rfl, g2, g3⟩ := r1
    obtain ⟨z, e4, e5⟩ := atI_rd g3.rd k4
    cases y' <;> simp only [intOf, reduceCtorEq, Option.some.injEq] at k3
    subst k3
    exact ⟨_, vs, _, z, rfl, (R.drf r2 k2).int, R.sub.sqT g2, e4, q m z H (Ext.refl _ _ _) R e5⟩
theorem liv_ok {d : D} {r : Nat × List PyData} (e : liv d h = .ok r h') : d = .r r.1 ∧ h[r.1]? = some (.lst r.2) ∧ h = h' := by
  unfold liv at e
  split at e
  · cases e
  · cases e
  · cases e
  · split at e
    · rename_i q
      cases e
      exact ⟨rfl, q, rfl⟩
    · cases e
theorem RpL.erase {G : Hp} : ∀ {v : List V} {d : List PyData} (n : Nat), RpL K G v d → RpL K G (v.eraseIdx n) (d.eraseIdx n)
  | _, _, _, .nil => .nil
  | _, _, 0, .cons _ r => r
  | _, _, n + 1, .cons h r => .cons h (RpL.erase n r)
/-- at a handle stands a list -/
theorem Rel.isL (R : Rel K m h H) {n : Nat} (hn : n < h.length) : ∃ vs, H (m.io n) = some (.lst vs) := by
  cases q : h[n] with
  | lst ys =>
    obtain ⟨_, vs, k, _⟩ := R.liv n ys (by rw [List.getElem?_eq_getElem hn, q])
    exact ⟨vs, k⟩
  | frz ys =>
    obtain ⟨vs, k, _⟩ := R.frz n ys (by rw [List.getElem?_eq_getElem hn, q])
    exact ⟨vs, R.sub _ _ k⟩
  | nst ys =>
    obtain ⟨_, vs, k, _⟩ := R.nst n ys (by rw [List.getElem?_eq_getElem hn, q])
    exact ⟨vs, k⟩
theorem sd_pop {x : Str} {e : Expr} {fo fi : Px.Env → M D} {p apos cpos : Pos} (hl : (apos.endLine == cpos.line) = true) (ho : PE X (.Name x p) (tD X.K fo)) (hs : simple e = true) (he : PE X e (tD X.K fi)) :
    PE X (.Call (.Attribute (.Name x p) "pop" apos) [e] [] cpos) (tD X.K fun ρ => do
    let o ← fo ρ
    let y ← fi ρ
    let y ← rd y
    let i ← M.opt (intOf y)
    let r ← liv o
    if -(2 ^ 63) ≤ i ∧ i < 2 ^ 63 then
      let k ← M.opt (seqIndex? i r.2.length)
      let d ← M.opt r.2[k]?
      Px.put r.1 (r.2.eraseIdx k)
      pure (.p d)
    else M.no) :=
  wkE (pe_bm PySem.F.plainAttrs_list PySem.F.slot_list_pop PySem.F.type_list_pop mt_popAt ho (pa_cons he pa_nil (star_cons hs)) rfl (by rw [star_cons hs]; rfl) hl (star_cons hs) rfl) fun σ H Q ⟨m, ρ, h, d, h', R, S, e, q⟩ => by
    obtain ⟨o1, h1, e1, e⟩ := bnd_ok.mp e
    obtain ⟨y, h2, e2, e⟩ := bnd_ok.mp e
    obtain ⟨y', h3, e3, e⟩ := bnd_ok.mp e
    obtain ⟨k3, rfl⟩ := rd_ok.mp e3
    obtain ⟨i, h3, e4, e⟩ := bnd_ok.mp e
    obtain ⟨k4, rfl⟩ := opt_ok.mp e4
    obtain ⟨l, h3, e5, e⟩ := bnd_ok.mp e
    obtain ⟨rfl, l1, rfl⟩ := liv_ok e5
    rw [ite_ok] at e
    split at e
    case isFalse => exact (no_ok.mp e).elim
    rename_i hb
    obtain ⟨k, h3, e6, e⟩ := bnd_ok.mp e
    obtain ⟨k6, rfl⟩ := opt_ok.mp e6
    obtain ⟨dv, h3, e7, e⟩ := bnd_ok.mp e
    obtain ⟨k7, rfl⟩ := opt_ok.mp e7
    obtain ⟨u, h5, e8, e⟩ := bnd_ok.mp e
    obtain ⟨rfl, rfl⟩ := pure_ok.mp e
    simp only [Px.put, Out.ok.injEq, true_and] at e8
    subst e8
    refine ⟨m, ρ, h, _, h1, R, S, e1, fun m1 v H1 E1 R1 r1 => ?_⟩
    obtain ⟨hn, rfl⟩ := r1
    obtain ⟨vs0, k1⟩ := R1.isL hn
    refine ⟨.inl ⟨rfl, vs0, SqL.of k1⟩, ⟨m1, ρ, h1, y, _, R1, E1.sr S, e2, fun m2 v H2 E2 R2 r2 => ?_⟩⟩
    obtain ⟨g1, vs, g2, g3⟩ := R2.liv _ _ l1
    obtain ⟨R4, E4⟩ := R2.put l1 (g3.erase k)
    have io2 : m2.io l.1 = m1.io l.1 := E2.io _ hn
    cases y' <;> simp only [intOf, reduceCtorEq, Option.some.injEq] at k4
    subst k4
    obtain ⟨w, e9, r9⟩ := g3.get k7
    refine ⟨m1.io l.1, vs, _, k, w, rfl, by rw [(R2.drf r2 k3).int], by rw [← io2]; exact g2, hb.1, hb.2, by rw [g3.len]; exact k6, e9, ?_⟩
    rw [← io2]
    exact q m2 w _ (((E1.trans R1 E2)).trans R2 E4) R4 r9
/-! ### min by a lambda -/
theorem Rel.extT (R : Rel K m h H) (e : Lm.ExtT H H') (t : LamX.Tabs (tbOf K) H') : Rel K m h H' ∧ Ext m m h h H H' := by
  have L : ∀ {a : Addr} {vs : List V}, H a = some (.lst vs) → H' a = some (.lst vs) := fun {a vs} z => by
    rcases e _ _ z with q | ⟨_, _, q, _⟩
    · exact q
    · cases q
  refine ⟨⟨fun a o z => ?_, fun n xs z => ?_, R.frz, fun n xs z => ?_, R.inj, t, R.gt⟩, ⟨Sub.refl _, fun _ _ => rfl, Nat.le_refl _, fun a o z _ => e a o z, fun _ a b => absurd (Nat.lt_of_lt_of_le b a) (Nat.lt_irrefl _), fun _ _ z => .inl z⟩⟩
  · rcases e a o (R.sub _ _ z) with q | ⟨ps, _, rfl, _⟩
    · exact q
    · exact absurd z (R.gt a ps)
  · obtain ⟨k1, vs, k2, k3⟩ := R.liv n xs z
    exact ⟨k1, vs, L k2, k3⟩
  · obtain ⟨k1, vs, k2, k3⟩ := R.nst n xs z
    exact ⟨k1, vs, L k2, k3⟩
theorem argL_spec : ∀ (r : List (Int × Int)) (p : Int × Int) (j : Nat) (q : Int × Int), (p :: r)[j]? = some q → (∀ (k : Nat) s, (p :: r)[k]? = some s → q.2 ≤ s.2 ∧ (k < j → q.2 < s.2)) → argL p r = q.1
  | [], p, 0, q, e, _ => by cases e; rfl
  | [], p, j + 1, q, e, _ => by simp at e
  | s :: r, p, j, q, e, hq => by
    unfold argL
    have h0 := hq 0 p rfl
    have h1 := hq 1 s rfl
    match j, e with
    | 0, e =>
      cases e
      rw [if_neg (by have := h1.1; omega)]
      exact argL_spec r p 0 p rfl fun k z hz => by
        cases k with
        | zero => cases hz; exact ⟨Int.le_refl _, fun h => absurd h (Nat.lt_irrefl _)⟩
        | succ k => exact ⟨(hq (k + 2) z (by simpa using hz)).1, fun h => absurd h (Nat.not_lt_zero _)⟩
    | 1, e =>
      cases e
      rw [if_pos (by have := h0.2 (by decide); omega)]
      exact argL_spec r s 0 s rfl fun k z hz => by
        cases k with
        | zero => cases hz; exact ⟨Int.le_refl _, fun h => absurd h (Nat.lt_irrefl _)⟩
        | succ k => exact ⟨(hq (k + 2) z (by simpa using hz)).1, fun h => absurd h (Nat.not_lt_zero _)⟩
    | j + 2, e =>
      have e : r[j]? = some q := by simpa using e
      split
      · exact argL_spec r s (j + 1) q (by simpa using e) fun k z hz => by
          have := hq (k + 1) z (by simpa using hz)
          exact ⟨this.1, fun h => this.2 (by omega)⟩
      · exact argL_spec r p (j + 1) q (by simpa using e) fun k z hz => by
          cases k with
          | zero => cases hz; exact ⟨h0.1, fun _ => h0.2 (by omega)⟩
          | succ k =>
            have := hq (k + 2) z (by simpa using hz)
            exact ⟨this.1, fun h => this.2 (by omega)⟩
theorem keys_len {i : Nat} {ρ : Px.Env} {elt : Px.Env → M D} : ∀ {ns ks : List Int} {h h' : List O}, keysL i ρ elt ns h = .ok ks h' → ks.length = ns.length
  | [], ks, h, h', e => by
    obtain ⟨rfl, _⟩ := pure_ok.mp (show (pure [] : M (List Int)) h = _ from e)
    rfl
  | n :: r, ks, h, h', e => by
    obtain ⟨y, h1, _, e⟩ := bnd_ok.mp e
    obtain ⟨y', h2, _, e⟩ := bnd_ok.mp e
    obtain ⟨k, h3, _, e⟩ := bnd_ok.mp e
    obtain ⟨ks', h4, e4, e⟩ := bnd_ok.mp e
    obtain ⟨rfl, rfl⟩ := pure_ok.mp e
    simp [keys_len e4]
theorem arg_spec {ns ks : List Int} {z : Int} (e : argD ns ks = some z) (hl : ks.length = ns.length) {j : Nat} {n : Int} (hn : ns[j]? = some n) (hj : ∀ k, k < ns.length → ks.getD j 0 ≤ ks.getD k 0 ∧ (k < j → ks.getD j 0 < ks.getD k 0)) : n = z := by
  have hjl : j < ns.length := (List.getElem?_eq_some_iff.mp hn).1
  have zp : (ns.zip ks)[j]? = some (n, ks.getD j 0) := by
    rw [List.getElem?_zip_eq_some]
    exact ⟨hn, by rw [List.getD_eq_getElem?_getD, List.getElem?_eq_getElem (by omega)]; rfl⟩
  unfold argD at e
  split at e
  · cases e
  · rename_i p r hz
    cases e
    rw [hz] at zp
    refine (argL_spec r p j _ zp fun k s hs => ?_).symm
    rw [← hz, List.getElem?_zip_eq_some] at hs
    have hk : k < ns.length := (List.getElem?_eq_some_iff.mp hs.1).1
    have e2 : ks.getD k 0 = s.2 := by rw [List.getD_eq_getElem?_getD, hs.2]; rfl
    have := hj k hk
    rw [e2] at this
    exact this
theorem oneArg_shape {ps : Arguments} {a : Str} (h : oneArg ps = some a) : ∃ p, ps = ⟨[], [⟨a, none, p⟩], none, [], [], none, []⟩ := by
  unfold oneArg at h
  split at h
  · cases h; exact ⟨_, rfl⟩
  · cases h
theorem bind1 (a : Str) (pp : Pos) (q : Str) (body : Expr) (scope : Scope) (cl : List (Str × Addr)) (pm cv ctv u : Value) :
    bindArgs (PySem.W.kla_fn "<lambda>" q ⟨[], [⟨a, none, pp⟩], none, [], [], none, []⟩ body scope cl pm cv ctv) ⟨[u], []⟩ = pure [(a, u)] := by
  unfold bindArgs
  simp [seqItems?, List.lookup]
  rfl
theorem sd_minl {params : Arguments} {body e : Expr} {scope : Scope} {i : Nat} {a : Str} {c P : Addr} {fa fe : Px.Env → M D} {p lpos kpos pos : Pos} (hg : Gl X "min") (hm : X.mg "min" = none) (hc : X.calm = true) (hN : X.N.Nodup) (hi : X.N[i]? = some a)
    (hs : simple e = true) (ha : PE X e (tD X.K fa)) (TB : LamX.TabB X.base X.mg c P) (hcode : X.env.code = .ref c) (hmT : (P, X.env.qual ++ "<lambda>") ∈ tbOf X.K) (hu : ∀ p ∈ tbOf X.K, p.1 = P → p.2 = X.env.qual ++ "<lambda>")
    (hdp : X.A.depth < recursionLimit) (L : Lm.Lam1 X.env.scope scope a) (hp : oneArg params = some a)
    (hbody : ∀ (s : Shared) (H : Hp) (f c' : Addr), PE (Lm.lamC X X.A.in1 X.stack s H scope f c') body (tD X.K fe)) :
    PE X (.Call (.Name "min" p) [e] [⟨some "key", .Lambda params body scope lpos, kpos⟩] pos) (tD X.K fun ρ => do
      let x ← fa ρ
      let x ← val x
      let xs ← M.opt (lsOf x)
      let ns ← M.opt (intsOf xs)
      let ks ← keysL i ρ fe ns
      let z ← M.opt (argD ns ks)
      pure (.p (.int z))) := by
  obtain ⟨pp, rfl⟩ := oneArg_shape hp
  refine wkE (Lm.pe_minKey (p := p) (lpos := lpos) (kpos := kpos) (pos := pos) (T := tbOf X.K) hg hm hc hN hi ha TB hcode hmT hu hdp L rfl (fun _ _ _ _ _ _ => bind1 _ _ _ _ _ _ _ _ _ _) hbody (star_cons hs)) fun σ H Q ⟨m, ρ, h, d, h', R, S, e, q⟩ => ?_
  obtain ⟨x, h1, e1, e⟩ := bnd_ok.mp e
  obtain ⟨y, h2, e2, e⟩ := bnd_ok.mp e
  obtain ⟨xs, h3, e3, e⟩ := bnd_ok.mp e
  obtain ⟨k3, rfl⟩ := opt_ok.mp e3
  obtain ⟨ns, h3, e4, e⟩ := bnd_ok.mp e
  obtain ⟨k4, rfl⟩ := opt_ok.mp e4
  obtain ⟨ks, h4, e5, e⟩ := bnd_ok.mp e
  obtain ⟨z, h5, e6, e⟩ := bnd_ok.mp e
  obtain ⟨k6, rfl⟩ := opt_ok.mp e6
  obtain ⟨rfl, rfl⟩ := pure_ok.mp e
  refine ⟨m, ρ, h, x, h1, R, S, e1, fun m1 v H1 E1 R1 r1 => ⟨R1.tab, fun H3 eT T3 => ?_⟩⟩
  obtain ⟨G', R2, E2, r2⟩ := R1.val r1 e2
  obtain ⟨R3, E3⟩ := R2.extT eT T3
  have E03 := (E1.trans R1 E2).trans R2 E3
  have hkl := keys_len e5
  have hne : ns ≠ [] := fun z => by
    subst z
    simp [argD] at k6
  cases y <;> simp only [lsOf, reduceCtorEq, Option.some.injEq] at k3
  subst k3
  cases r2 with
  | @lst b vs _ a1 a2 =>
    have hv := a2.ints k4
    subst hv
    refine ⟨b, ns.map V.int, fun j => ks.getD j 0, fun j Hc => ∃ mj hj, Ext { m1 with G := G' } mj h2 hj H3 Hc ∧ Rel X.K mj hj Hc ∧ keysL i ρ fe (ns.drop j) hj = .ok (ks.drop j) h4, rfl, ?_, ⟨_, h2, Ext.refl _ _ _, R3, by simpa using e5⟩, fun j Hc hJ => ?_, fun j v Hc hv hJ => ?_, fun j v Hc hv hmin hJ => ?_⟩
    · rw [List.length_map]
      exact List.length_pos_iff.mpr hne
    · obtain ⟨mj, hj, Ej, Rj, ej⟩ := hJ
      refine ⟨SqL.of (Rj.sub _ _ (Ej.g _ _ a1)), fun b φ hb => Ej.frL hb (fun ps z => by cases z) fun n hn z => ?_⟩
      obtain ⟨ws, hw⟩ := R3.isL hn
      rw [z, hb] at hw
      cases hw
    · obtain ⟨mj, hj, Ej, Rj, ej⟩ := hJ
      rw [List.getElem?_map] at hv
      obtain ⟨n, hn, rfl⟩ := Option.map_eq_some_iff.mp hv
      have hjl : j < ns.length := (List.getElem?_eq_some_iff.mp hn).1
      have hnj : ns[j] = n := by rw [List.getElem?_eq_getElem hjl] at hn; exact Option.some.inj hn
      rw [List.drop_eq_getElem_cons hjl, hnj] at ej
      obtain ⟨w, h6, f1, ej⟩ := bnd_ok.mp ej
      obtain ⟨w', h7, f2, ej⟩ := bnd_ok.mp ej
      obtain ⟨g2, rfl⟩ := rd_ok.mp f2
      obtain ⟨k, h7, f3, ej⟩ := bnd_ok.mp ej
      obtain ⟨g3, rfl⟩ := opt_ok.mp f3
      obtain ⟨ks2, h8, f4, ej⟩ := bnd_ok.mp ej
      obtain ⟨g5, rfl⟩ := pure_ok.mp ej
      have hkj : ks[j]? = some k := by
        have : (ks.drop j)[0]? = some k := by rw [← g5]; rfl
        simpa using this
      have hk2 : ks.drop (j + 1) = ks2 := by
        have := congrArg List.tail g5
        rw [List.tail_drop] at this
        exact this.symm
      refine ⟨mj, ρ.set i (some (.p (.int n))), hj, w, h6, Rj, ((Ej.sr (E03.sr S)).set (d := .p (.int n)) (.int n)), f1, fun m5 v5 H5 E5 R5 r5 => ⟨?_, m5, h6, Ej.trans Rj E5, R5, by rw [hk2]; exact f4⟩⟩
      cases w' <;> simp only [intOf, reduceCtorEq, Option.some.injEq] at g3
      subst g3
      rw [(R5.drf r5 g2).int]
      show V.int _ = .int (ks.getD j 0)
      rw [List.getD_eq_getElem?_getD, hkj]
      rfl
    · obtain ⟨mj, hj, Ej, Rj, ej⟩ := hJ
      rw [List.length_map, List.drop_length] at ej
      obtain ⟨_, rfl⟩ := pure_ok.mp (show (pure [] : M (List Int)) hj = _ from ej)
      rw [List.getElem?_map] at hv
      obtain ⟨n, hn, rfl⟩ := Option.map_eq_some_iff.mp hv
      have := arg_spec k6 hkl hn (by simpa using hmin)
      subst this
      exact q mj _ Hc (E03.trans R3 Ej) Rj (.int _)
end
end Px

/-! Px10: every expression that a term stands for. -/
namespace Px
open PySem PySem.Spec PyProof.Rows L2

def bltNames : List Str := ["len", "abs", "max", "min", "sum", "all", "any", "int", "str", "repr", "tuple", "list", "isinstance", "bool", "range", "zip", "enumerate", "sorted", "reversed"]
structure XOk (X : Cx) (C : Cc) (gl : Pg) (F : Nat → List D → M (PyData × Bool)) (k : Nat) : Prop where
  N : X.N = C.N
  nd : X.N.Nodup
  sc : X.env.scope = C.sc
  calm : X.calm = true
  gd : X.A.guards = some []
  un : X.A.units + 70 < cLine
  room : C.fns ≠ [] → Room k X.A
  blt : ∀ x ∈ bltNames, X.mg x = none
  gls : ∀ (g : Nat) d x, gl.gl[g]? = some d → C.gls[g]? = some x → ∃ v u, X.mg x = some u ∧ RelV v u ∧ ∀ G, Rp X.K G v d
  dss : ∀ (g : Nat) t x, gl.ds[g]? = some t → C.dss[g]? = some x → ∃ a, X.mg x = some (.ref a) ∧ KTab X.K X.w a t
  cal : ∀ (f : Nat) x, C.fns[f]? = some x → ∃ fa, X.mg x = some (.ref fa) ∧ PySem.W.keepIn X.K (.ref fa) = true ∧ FG X.prog X.w X.K X.mg X.base k fa (spD X.K (F f))
  tab : C.lam = true → ∃ c P, X.env.code = .ref c ∧ LamX.TabB X.base X.mg c P ∧ (P, X.env.qual ++ "<lambda>") ∈ tbOf X.K ∧ ∀ p ∈ tbOf X.K, p.1 = P → p.2 = X.env.qual ++ "<lambda>"
theorem XOk.rm {X : Cx} {C : Cc} {gl : Pg} {F : Nat → List D → M (PyData × Bool)} {k : Nat} (x : XOk X C gl F k) {f : Nat} {n : Str} (h : C.fns[f]? = some n) : Room k X.A := x.room fun z => by rw [z] at h; simp at h
theorem XOk.lam {X : Cx} {C : Cc} {gl : Pg} {F : Nat → List D → M (PyData × Bool)} {k : Nat} (x : XOk X C gl F k) (hne : C.fns ≠ []) (scope : Scope) (s : Shared) (H : Hp) (f c' : Addr) : XOk (Lm.lamC X X.A.in1 X.stack s H scope f c') (C.inL scope) gl F 0 := by
  have r := x.room hne
  refine ⟨x.N, x.nd, rfl, rfl, x.gd, ?_, fun h => absurd rfl h, x.blt, x.gls, x.dss, fun f n h => ?_, fun h => ?_⟩
  · have := r.un
    show X.A.units + 1 + 3 + 70 < cLine
    omega
  · have h : ([] : List Str)[f]? = some n := h
    simp at h
  · cases h
theorem XOk.blk {X : Cx} {C : Cc} {gl : Pg} {F : Nat → List D → M (PyData × Bool)} {k : Nat} (x : XOk X C gl F k) (s : Shared) (H : Hp) (scope : Scope) (c : Addr) (cl : List (Str × Addr)) (fp : List Addr) :
    XOk (X.blk s H scope (compEnvC scope cl c X.env) fp) (C.inS scope) gl F k :=
  ⟨x.N, x.nd, by show relS scope X.env.scope = relS scope C.sc; rw [x.sc], x.calm, x.gd, x.un, x.room, x.blt, x.gls, x.dss, x.cal, fun h => by cases h⟩
theorem vis_of {sc : Scope} {x : Str} (h : visB sc x = true) : Vis sc x := by
  unfold visB at h
  split at h
  · exact .inl ‹_›
  · exact .inr (.inl ‹_›)
  · exact .inr (.inr ‹_›)
  · cases h
theorem gl_of {X : Cx} {sc : Scope} {x : Str} (hs : X.env.scope = sc) (h : glB sc x = true) : Gl X x := by
  unfold glB at h
  split at h
  · rename_i e
    show X.env.scope.names.lookup x = _
    rw [hs]; exact e
  · cases h
theorem nm_of {x : Str} (h : nmB x = true) : (x == ("__debug__" : Str)) = false ∧ (x == ("__classdict__" : Str)) = false ∧ x ≠ "__name__" := by
  simp only [nmB, Bool.and_eq_true, Bool.not_eq_true'] at h
  exact ⟨h.1.1, h.1.2, by simpa using h.2⟩
theorem call_of {f : Cc → Str → List Expr → Bool} {C : Cc} {e : Expr} (h : nameCall f C e = true) : ∃ x p es pos, e = .Call (.Name x p) es [] pos ∧ glB C.sc x = true ∧ nmB x = true ∧ f C x es = true := by
  unfold nameCall at h
  split at h
  · simp only [Bool.and_eq_true] at h
    exact ⟨_, _, _, _, rfl, h.1.1, h.1.2, h.2⟩
  · cases h

structure Snd (gl : Pg) (F : Nat → List D → M (PyData × Bool)) (ck : Ck) (sm : Sm) : Prop where
  e : ∀ X C k e, XOk X C gl F k → ck.e C e = true → PE X e (tD X.K sm.ev) ∧ PT X e (tT X.K sm.tst) ∧ PT X e (tT X.K sm.cnd)
  f : ∀ X C k e, XOk X C gl F k → ck.e C e = true → PE X e (tFr X.K sm.frs)
  n : ∀ X C k e, XOk X C gl F k → ck.e C e = true → PE X e (tFn X.K sm.frn)
  i : ∀ X C k e tp tg, XOk X C gl F k → ck.i C tp e = true → (tp = true → ∃ elts kk tpos, tg = Expr.Tuple elts kk tpos) → PI X tg e (tIt X.K sm.iter)
  b : ∀ X C k op es pos, XOk X C gl F k → ck.b C op es = true → PE X (.BoolOp op es pos) (tD X.K sm.ev) ∧ PW X (.BoolOp op es pos) (tT X.K sm.tst)
  l : ∀ X C k es, XOk X C gl F k → ck.l C es = true → PA X es (tAr X.K sm.eva) ∧ PA X es (tVs X.K sm.evs) ∧ ∀ e ∈ es, simple e = true
  o : ∀ X C k x, XOk X C gl F k → ck.o C x = true → PO X x (tPt X.K sm.part)
theorem fr_no {X : Cx} {e : Expr} {t : TE} (h : PE X e t) : PE X e (tFr X.K fun _ => M.no) := wkE h fun σ H Q ⟨m, ρ, h, d, h', R, S, e, q⟩ => (no_ok.mp e).elim
theorem fn_no {X : Cx} {e : Expr} {t : TE} (h : PE X e t) : PE X e (tFn X.K fun _ => M.no) := wkE h fun σ H Q ⟨m, ρ, h, d, h', R, S, e, q⟩ => (no_ok.mp e).elim
theorem it_no {X : Cx} {e tg : Expr} : PI X tg e (tIt X.K fun _ => M.no) := ⟨fun pins s σ H R I ⟨m, ρ, h, d, h', R', S, e, q⟩ => (no_ok.mp e).elim⟩
section
variable {gl : Pg} {F : Nat → List D → M (PyData × Bool)}
theorem b_one {g : Cc → Expr → Bool} {C : Cc} {op : BoolOp} {es : List Expr} (c : (Ck.of g).b C op es = true) : ∃ y, es = [y] ∧ g C y = true := by
  cases es with
  | nil => cases c
  | cons y r =>
    cases r with
    | nil => exact ⟨y, rfl, c⟩
    | cons _ _ => cases c
theorem o_one {g : Cc → Expr → Bool} {C : Cc} {x : Option Expr} (c : (Ck.of g).o C x = true) : ∃ y, x = some y ∧ g C y = true := by
  cases x with
  | none => cases c
  | some y => exact ⟨y, rfl, c⟩
theorem Snd.xm {ck : Ck} {sm : Sm} {g : Px.Env → M Exn} (S : Snd gl F ck sm) : Snd gl F ck { sm with xm := g } := ⟨S.e, S.f, S.n, S.i, S.b, S.l, S.o⟩
theorem snd_gen {g : Cc → Expr → Bool} {sm : Sm} (hp : sm.part = (Sm.of sm.ev).part) (hi : sm.iter = (Sm.of sm.ev).iter) (hn : sm.frn = fun _ => M.no)
    (h : ∀ X C k e, XOk X C gl F k → g C e = true → PE X e (tD X.K sm.ev) ∧ PT X e (tT X.K sm.tst) ∧ PT X e (tT X.K sm.cnd) ∧ PE X e (tFr X.K sm.frs)) : Snd gl F (Ck.of g) sm where
  e := fun X C k e x c => let ⟨a, b, d, _⟩ := h X C k e x c; ⟨a, b, d⟩
  f := fun X C k e x c => (h X C k e x c).2.2.2
  n := fun X C k e x c => by rw [hn]; exact fn_no (h X C k e x c).1
  i := fun X C k e tp tg x c _ => by rw [hi]; exact sd_it (h X C k e x c).1
  b := fun X C k op es pos x c => by
    obtain ⟨y, rfl, c⟩ := b_one c
    obtain ⟨a, b, _⟩ := h X C k y x c
    refine ⟨pe_one a, ?_⟩
    cases op with
    | And => exact pw_and1 b
    | Or => exact pw_or1 b
  l := fun X C k es x c => nomatch (show false = true from c)
  o := fun X C k y x c => by
    obtain ⟨z, rfl, c⟩ := o_one c
    rw [hp]; exact sd_part (h X C k z x c).1
theorem snd_of {g : Cc → Expr → Bool} {f : Px.Env → M D} (h : ∀ X C k e, XOk X C gl F k → g C e = true → PE X e (tD X.K f) ∧ PT X e (tT X.K (dTst f))) : Snd gl F (Ck.of g) (Sm.of f) :=
  snd_gen rfl rfl rfl fun X C k e x c => let ⟨a, b⟩ := h X C k e x c; ⟨a, b, b, fr_no a⟩
theorem snd_tst {g : Cc → Expr → Bool} {f : Px.Env → M D} {t : Px.Env → M Bool} (h : ∀ X C k e, XOk X C gl F k → g C e = true → PE X e (tD X.K f) ∧ PT X e (tT X.K t)) : Snd gl F (Ck.of g) ((Sm.of f).withTst t) :=
  snd_gen (sm := (Sm.of f).withTst t) rfl rfl rfl fun X C k e x c => let ⟨a, b⟩ := h X C k e x c; ⟨a, b, b, fr_no a⟩
theorem snd_new {g : Cc → Expr → Bool} {f : Px.Env → M (List PyData)} (h : ∀ X C k e, XOk X C gl F k → g C e = true → PE X e (tFr X.K f) ∧ ∀ whole, isTrue e X.env whole = (do let v ← whole; standAt e.pos; holding [v] (truthy v))) : Snd gl F (Ck.of g) (Sm.new f) :=
  snd_gen (sm := Sm.new f) rfl rfl rfl fun X C k e x c => let ⟨a, b⟩ := h X C k e x c; ⟨fr_ev a, sd_tst (fr_ev a) b, sd_tst (fr_ev a) b, a⟩
theorem snd_none {ck : Ck} {sm : Sm} (he : ∀ C e, ck.e C e = true → False) (hb : ∀ C op es, ck.b C op es = true → False) (hl : ∀ C es, ck.l C es = true → False) (ho : ∀ C x, ck.o C x = true → False)
    (hi : ∀ X C k e tp tg, XOk X C gl F k → ck.i C tp e = true → (tp = true → ∃ elts kk tpos, tg = Expr.Tuple elts kk tpos) → PI X tg e (tIt X.K sm.iter)) : Snd gl F ck sm :=
  ⟨fun X C k e x c => (he C e c).elim, fun X C k e x c => (he C e c).elim, fun X C k e x c => (he C e c).elim, hi, fun X C k op es pos x c => (hb C op es c).elim, fun X C k es x c => (hl C es c).elim, fun X C k y x c => (ho C y c).elim⟩
theorem ckof_no {g : Cc → Expr → Bool} (h : ∀ C e, g C e = true → False) : (∀ C e, (Ck.of g).e C e = true → False) ∧ (∀ C op es, (Ck.of g).b C op es = true → False) ∧ (∀ C es, (Ck.of g).l C es = true → False) ∧ (∀ C x, (Ck.of g).o C x = true → False) := by
  refine ⟨h, fun C op es c => ?_, fun C es c => ?_, fun C x c => ?_⟩
  · obtain ⟨y, _, c⟩ := b_one c
    exact h C y c
  · cases c
  · obtain ⟨y, _, c⟩ := o_one c
    exact h C y c
theorem op_eq_of {o : BOp} {p : Operator} (h : opB o p = true) : p = opOf o := by
  cases o <;> cases p <;> first | rfl | (simp [opB] at h)
theorem cop_eq_of {o : COp} {p : CmpOp} (h : copB o p = true) : p = cmpOf o := by
  cases o <;> cases p <;> first | rfl | (simp [copB] at h)
theorem notSet_of_nm {e : CmpOp} {b : Expr} (h : ∀ x y z, b ≠ .Set x y z) : behindInMarks e b = false := by
  cases b <;> first | rfl | exact absurd rfl (h _ _ _)
theorem marks_ne {o : COp} {p : CmpOp} {b : Expr} (h : copB o p = true) (hb : ∀ x y z, b ≠ .Set x y z) : behindInMarks (cmpOf o) b = false := by
  cases o <;> first | exact nomark b | exact notSet_of_nm hb
theorem last_ne {o1 o2 : COp} {p : CmpOp} {b c : Expr} (h : copB o2 p = true) (hc : ∀ x y z, c ≠ .Set x y z) : lastMarks [cmpOf o1, cmpOf o2] [b, c] = false := marks_ne (b := c) h hc
end
end Px

/-! Px11: the induction. -/
namespace Px
open PySem PySem.Spec PyProof.Rows L2
section
variable {gl : Pg} {F : Nat → List D → M (PyData × Bool)}
theorem gl_lit {X : Cx} {x : Str} (h : X.env.scope.names.lookup x = some .globalImplicit) : Gl X x := h
theorem snd_and {ca cb : Ck} {sa sb : Sm} (ha : Snd gl F ca sa) (hb : Snd gl F cb sb) :
    let f : Cc → BoolOp → List Expr → Bool := fun C op es => match op, es with
      | .And, x :: y :: r => ca.e C x && cb.b C .And (y :: r)
      | _, _ => false
    let k := Ck.of fun C e => match e with
      | .BoolOp op es _ => f C op es
      | _ => false
    Snd gl F ⟨k.e, fun C op es => k.b C op es || f C op es, k.l, k.o, k.i⟩ ((Sm.of (eAnd sa.ev sb.ev)).withTst fun ρ => do
      let k ← sa.tst ρ
      if k then sb.tst ρ else pure false) := by
  intro f k
  have main : ∀ X C k op es pos, XOk X C gl F k → f C op es = true → PE X (.BoolOp op es pos) (tD X.K (eAnd sa.ev sb.ev)) ∧ PW X (.BoolOp op es pos) (tT X.K fun ρ => do
      let k ← sa.tst ρ
      if k then sb.tst ρ else pure false) := by
    intro X C k op es pos x c
    match op, es, c with
    | .And, y :: z :: r, c =>
      have c : (ca.e C y && cb.b C .And (z :: r)) = true := c
      rw [Bool.and_eq_true] at c
      obtain ⟨a1, a2, _⟩ := ha.e X C k y x c.1
      obtain ⟨b1, b2⟩ := hb.b X C k .And (z :: r) pos x c.2
      exact ⟨sd_andV a1 b1, sd_andT a2 b2⟩
  have S := snd_tst (gl := gl) (F := F) (g := fun C e => match e with
      | .BoolOp op es _ => f C op es
      | _ => false) (f := eAnd sa.ev sb.ev) (t := fun ρ => do
      let k ← sa.tst ρ
      if k then sb.tst ρ else pure false) fun X C k e x c => by
    match e, c with
    | .BoolOp op es pos, c =>
      obtain ⟨a, b⟩ := main X C k op es pos x c
      exact ⟨a, b.pt⟩
  exact ⟨S.e, S.f, S.n, S.i, fun X C k op es pos x c => by
    have c := Bool.or_eq_true _ _ ▸ c
    rcases c with c | c
    · exact S.b X C k op es pos x c
    · exact main X C k op es pos x c, S.l, S.o⟩
theorem snd_or {ca cb : Ck} {sa sb : Sm} (ha : Snd gl F ca sa) (hb : Snd gl F cb sb) :
    let f : Cc → BoolOp → List Expr → Bool := fun C op es => match op, es with
      | .Or, x :: y :: r => ca.e C x && cb.b C .Or (y :: r)
      | _, _ => false
    let k := Ck.of fun C e => match e with
      | .BoolOp op es _ => f C op es
      | _ => false
    Snd gl F ⟨k.e, fun C op es => k.b C op es || f C op es, k.l, k.o, k.i⟩ ((Sm.of (eOr sa.ev sb.ev)).withTst fun ρ => do
      let k ← sa.tst ρ
      if k then pure true else sb.tst ρ) := by
  intro f k
  have main : ∀ X C k op es pos, XOk X C gl F k → f C op es = true → PE X (.BoolOp op es pos) (tD X.K (eOr sa.ev sb.ev)) ∧ PW X (.BoolOp op es pos) (tT X.K fun ρ => do
      let k ← sa.tst ρ
      if k then pure true else sb.tst ρ) := by
    intro X C k op es pos x c
    match op, es, c with
    | .Or, y :: z :: r, c =>
      have c : (ca.e C y && cb.b C .Or (z :: r)) = true := c
      rw [Bool.and_eq_true] at c
      obtain ⟨a1, a2, _⟩ := ha.e X C k y x c.1
      obtain ⟨b1, b2⟩ := hb.b X C k .Or (z :: r) pos x c.2
      exact ⟨sd_orV a1 b1, sd_orT a2 b2⟩
  have S := snd_tst (gl := gl) (F := F) (g := fun C e => match e with
      | .BoolOp op es _ => f C op es
      | _ => false) (f := eOr sa.ev sb.ev) (t := fun ρ => do
      let k ← sa.tst ρ
      if k then pure true else sb.tst ρ) fun X C k e x c => by
    match e, c with
    | .BoolOp op es pos, c =>
      obtain ⟨a, b⟩ := main X C k op es pos x c
      exact ⟨a, b.pt⟩
  exact ⟨S.e, S.f, S.n, S.i, fun X C k op es pos x c => by
    have c := Bool.or_eq_true _ _ ▸ c
    rcases c with c | c
    · exact S.b X C k op es pos x c
    · exact main X C k op es pos x c, S.l, S.o⟩
theorem call_name {X : Cx} {C : Cc} {k : Nat} (x : XOk X C gl F k) {n : Str} (hn : n ∈ bltNames) (hg : glB C.sc n = true) : Gl X n ∧ X.mg n = none := ⟨gl_of x.sc hg, x.blt n hn⟩
theorem cell_loc {scope sc : Scope} {x : Str} (h : cellOrLoc scope x = true) : ((relS scope sc).names.lookup x = some .local ∧ scope.names.lookup x = some .local) ∨ ((relS scope sc).names.lookup x = some .cell ∧ scope.names.lookup x = some .cell) := by
  unfold cellOrLoc at h
  split at h
  · rename_i e
    exact .inl ⟨lookup_relS_keep (by decide) e, e⟩
  · rename_i e
    exact .inr ⟨lookup_relS_keep (by decide) e, e⟩
  · cases h
theorem chk_notSet : ∀ (t : T) {C : Cc} {tp : Bool} {e : Expr}, (chk t).i C tp e = true → ∀ a b c, e ≠ .Set a b c := by
  intro t C tp e h a b c z
  subst z
  cases t <;> simp [chk, Ck.of, Ck.it, nameCall, compB, revB, getB, methB, minB] at h
theorem chk_notSetE : ∀ (t : T) {C : Cc} {e : Expr}, (chk t).e C e = true → ∀ a b c, e ≠ .Set a b c := by
  intro t C e h a b c z
  subst z
  cases t <;> simp [chk, Ck.of, Ck.it, nameCall, compB, revB, getB, methB, minB] at h
theorem snd_nil {G : Pg} : Snd gl F (chk .nil) (sem G F .nil) := by
  refine ⟨fun X C k e x c => ?_, fun X C k e x c => ?_, fun X C k e x c => ?_, fun X C k e tp tg x c => ?_, fun X C k op es pos x c => ?_, fun X C k es x c => ?_, fun X C k y x c => ?_⟩
  · cases c
  · cases c
  · cases c
  · cases c
  · cases c
  · have c : es.isEmpty = true := c
    cases es with
    | nil => exact ⟨sd_ar0, sd_vs0, fun e he => by cases he⟩
    | cons _ _ => cases c
  · have c : y.isNone = true := c
    cases y with
    | none => exact sd_part0
    | some _ => cases c
theorem snd_isB {G : Pg} {b : Bool} {a : T} (ha : Snd gl F (chk a) (sem G F a)) : Snd gl F (chk (.isB b a)) (sem G F (.isB b a)) := Snd.xm <| snd_of fun X C k e x c => by
    match e, c with
    | .Compare y [.Is] [.Constant (.bool b2) j p'] p, c =>
      have c1 : (decide (b2 = b) && (chk a).e C y) = true := c
      rw [Bool.and_eq_true, decide_eq_true_eq] at c1
      obtain ⟨hb, c2⟩ := c1
      subst hb
      obtain ⟨a1, _⟩ := ha.e X C k y x c2
      exact sd_isB a1
theorem snd_isNB {G : Pg} {b : Bool} {a : T} (ha : Snd gl F (chk a) (sem G F a)) : Snd gl F (chk (.isNB b a)) (sem G F (.isNB b a)) := snd_of fun X C k e x c => by
    match e, c with
    | .Compare y [.IsNot] [.Constant (.bool b2) j p'] p, c =>
      have c1 : (decide (b2 = b) && (chk a).e C y) = true := c
      rw [Bool.and_eq_true, decide_eq_true_eq] at c1
      obtain ⟨hb, c2⟩ := c1
      subst hb
      obtain ⟨a1, _⟩ := ha.e X C k y x c2
      exact sd_isNB a1
theorem snd_cons {G : Pg} {a tl : T} (ha : Snd gl F (chk a) (sem G F a)) (hb : Snd gl F (chk tl) (sem G F tl)) : Snd gl F (chk (.cons a tl)) (sem G F (.cons a tl)) := by
  refine ⟨fun X C k e x c => ?_, fun X C k e x c => ?_, fun X C k e x c => ?_, fun X C k e tp tg x c => ?_, fun X C k op es pos x c => ?_, fun X C k es x c => ?_, fun X C k y x c => ?_⟩
  · cases c
  · cases c
  · cases c
  · cases c
  · cases c
  · cases es with
    | nil => cases c
    | cons e r =>
      have c : (simple e && (chk a).e C e && (chk tl).l C r) = true := c
      simp only [Bool.and_eq_true] at c
      obtain ⟨a1, _⟩ := ha.e X C k e x c.1.2
      obtain ⟨b1, b2, b3⟩ := hb.l X C k r x c.2
      exact ⟨sd_ar1 c.1.1 a1 b1, sd_vs1 c.1.1 a1 b2, fun y hy => (List.mem_cons.mp hy).elim (fun z => z ▸ c.1.1) (b3 y)⟩
  · cases c
theorem snd_consL {G : Pg} {a tl : T} (ha : Snd gl F (chk a) (sem G F a)) (hb : Snd gl F (chk tl) (sem G F tl)) : Snd gl F (chk (.consL a tl)) (sem G F (.consL a tl)) := by
  refine ⟨fun X C k e x c => ?_, fun X C k e x c => ?_, fun X C k e x c => ?_, fun X C k e tp tg x c => ?_, fun X C k op es pos x c => ?_, fun X C k es x c => ?_, fun X C k y x c => ?_⟩
  · cases c
  · cases c
  · cases c
  · cases c
  · cases c
  · cases es with
    | nil => cases c
    | cons e r =>
      have c : (simple e && (chk a).e C e && (chk tl).l C r) = true := c
      simp only [Bool.and_eq_true] at c
      obtain ⟨b1, b2, b3⟩ := hb.l X C k r x c.2
      have h := sd_arL c.1.1 (ha.f X C k e x c.1.2) b1
      exact ⟨h, wkA h fun σ H Q ⟨m, ρ, h, d, h', R, S, e, q⟩ => (no_ok.mp (show (M.no : M (List PyData)) h = _ from e)).elim, fun y hy => (List.mem_cons.mp hy).elim (fun z => z ▸ c.1.1) (b3 y)⟩
  · cases c
theorem snd_consN {G : Pg} {a tl : T} (ha : Snd gl F (chk a) (sem G F a)) (hb : Snd gl F (chk tl) (sem G F tl)) : Snd gl F (chk (.consN a tl)) (sem G F (.consN a tl)) := by
  refine ⟨fun X C k e x c => ?_, fun X C k e x c => ?_, fun X C k e x c => ?_, fun X C k e tp tg x c => ?_, fun X C k op es pos x c => ?_, fun X C k es x c => ?_, fun X C k y x c => ?_⟩
  · cases c
  · cases c
  · cases c
  · cases c
  · cases c
  · cases es with
    | nil => cases c
    | cons e r =>
      have c : (simple e && (chk a).e C e && (chk tl).l C r) = true := c
      simp only [Bool.and_eq_true] at c
      obtain ⟨b1, b2, b3⟩ := hb.l X C k r x c.2
      have h := sd_arN c.1.1 (ha.n X C k e x c.1.2) b1
      exact ⟨h, wkA h fun σ H Q ⟨m, ρ, h, d, h', R, S, e, q⟩ => (no_ok.mp (show (M.no : M (List PyData)) h = _ from e)).elim, fun y hy => (List.mem_cons.mp hy).elim (fun z => z ▸ c.1.1) (b3 y)⟩
  · cases c
theorem tgt_tup {N : List Str} {ok : Str → Bool} {is : List Nat} {tp : Bool} {tg : Expr} (h : chkTgt N ok is tp tg = true) (ht : tp = true) : ∃ elts kk tpos, tg = Expr.Tuple elts kk tpos := by
  subst ht
  unfold chkTgt at h
  split at h
  · rename_i z
    cases z
  · exact ⟨_, _, _, rfl⟩
  · cases h
theorem one_shape {f : Expr → Bool} {es : List Expr} (h : chk1 f es = true) : ∃ y, es = [y] ∧ f y = true := by
  unfold chk1 at h
  split at h
  · exact ⟨_, rfl, h⟩
  · cases h
theorem two_shape {f g : Expr → Bool} {es : List Expr} (h : chk2 f g es = true) : ∃ y z, es = [y, z] ∧ f y = true ∧ g z = true := by
  unfold chk2 at h
  split at h
  · rw [Bool.and_eq_true] at h
    exact ⟨_, _, rfl, h.1, h.2⟩
  · cases h
theorem snd_it {f : Cc → Bool → Expr → Bool} {sm : Sm} (h : ∀ X C k e tp tg, XOk X C gl F k → f C tp e = true → (tp = true → ∃ elts kk tpos, tg = Expr.Tuple elts kk tpos) → PI X tg e (tIt X.K sm.iter)) : Snd gl F (Ck.it f) sm :=
  snd_none (fun _ _ c => by cases c) (fun _ _ _ c => by cases c) (fun _ _ c => by cases c) (fun _ _ c => by cases c) h
theorem is_shape {f : Expr → Bool} {g : Str → Bool} {es : List Expr} (h : chkIs f g es = true) : ∃ y z p, es = [y, .Name z p] ∧ f y = true ∧ g z = true := by
  unfold chkIs at h
  split at h
  · rw [Bool.and_eq_true] at h
    exact ⟨_, _, _, rfl, h.1, h.2⟩
  · cases h
theorem if_shape {l : List Expr → Bool} {e : Expr → Bool} {es : List Expr} (h : chkIf l e es = true) : (es = [] ∧ l [] = true) ∨ ∃ z, es = [z] ∧ e z = true := by
  unfold chkIf at h
  split at h
  · exact .inl ⟨rfl, h⟩
  · exact .inr ⟨_, rfl, h⟩
  · cases h
theorem snd_comp {own is : List Nat} {tp : Bool} {ci ce cc : Ck} {si se sc : Sm} (hns : ∀ {C : Cc} {tp : Bool} {e : Expr}, ci.i C tp e = true → ∀ a b c, e ≠ .Set a b c) (h0 : ∀ {X : Cx} {C C' : Cc} {k : Nat}, XOk X C gl F k → cc.l C' [] = true → PTs X [] (tT X.K sc.cnd))
    (hi : Snd gl F ci si) (he : Snd gl F ce se) (hc : Snd gl F cc sc) : Snd gl F (Ck.of (compB own is tp ci.i ce.e cc.l cc.e)) { Sm.new (fun ρ => do
    let xs ← si.iter ρ
    if xs.length ≤ 2 ^ 23 then
      compL is tp (Px.wipe ρ own) sc.cnd (fun ρ1 => do
        let y ← se.ev ρ1
        val y) xs
    else M.no) with frn := fun ρ => do
    let xs ← si.iter ρ
    if xs.length ≤ 2 ^ 23 then
      compN is tp (Px.wipe ρ own) sc.cnd se.frs xs
    else M.no } := by
    have parts : ∀ X C k e, XOk X C gl F k → compB own is tp ci.i ce.e cc.l cc.e C e = true → ∃ y tg iter ifs scope p, e = .ListComp y [⟨tg, iter, ifs, 0⟩] scope p ∧
        PI X tg iter (tIt X.K si.iter) ∧ BlkOk X.N X.env.scope scope (ownOf X.N own) ∧ (ownOf X.N own).map (·.2) = own ∧ (∀ i ∈ is, i ∈ own) ∧
        (∀ (s : Shared) (H : Hp) (C : Addr) (cl : List (Str × Addr)) (fp : List Addr), PG (X.blk s H scope (compEnvC scope cl C X.env) fp) tg (gT X.K is tp)) ∧
        (∀ (s : Shared) (H : Hp) (C : Addr) (cl : List (Str × Addr)) (fp : List Addr), PTs (X.blk s H scope (compEnvC scope cl C X.env) fp) ifs (tT X.K sc.cnd)) ∧
        (∀ (s : Shared) (H : Hp) (C : Addr) (cl : List (Str × Addr)) (fp : List Addr), PE (X.blk s H scope (compEnvC scope cl C X.env) fp) y (tD X.K se.ev)) ∧
        (∀ (s : Shared) (H : Hp) (C : Addr) (cl : List (Str × Addr)) (fp : List Addr), PE (X.blk s H scope (compEnvC scope cl C X.env) fp) y (tFr X.K se.frs)) ∧ (∀ x, foldedSetIterable iter X.env x = pure x) := fun X C k e x c => by
      unfold compB at c
      split at c
      case h_2 => cases c
      rename_i y tg iter ifs scope p
      rw [Bool.and_eq_true, Bool.and_eq_true, Bool.and_eq_true, Bool.and_eq_true, Bool.and_eq_true, Bool.and_eq_true, Bool.and_eq_true] at c
      obtain ⟨⟨⟨⟨⟨⟨⟨c1, c2⟩, c3⟩, c4⟩, c5⟩, c6⟩, c7⟩, c8⟩ := c
      refine ⟨y, tg, iter, ifs, scope, p, rfl, hi.i X C k iter tp tg x c4 (fun ht => tgt_tup c5 ht), by rw [x.N, x.sc]; exact blkOk_by c1, by rw [x.N]; exact of_decide_eq_true c2, fun i hi => of_decide_eq_true (List.all_eq_true.mp c3 i hi),
        fun s H cc cl fp => ?_, fun s H cc cl fp => ?_, fun s H cc cl fp => ?_, fun s H cc cl fp => ?_, folded_none (hns c4)⟩
      · have xb := x.blk s H scope cc cl fp
        refine pg_of (ok := fun n => cellOrLoc scope n) xb.calm xb.nd (fun n hn => ?_) (by rw [xb.N]; exact c5)
        rcases cell_loc (sc := X.env.scope) hn with ⟨h1, h2⟩ | ⟨h1, h2⟩
        · exact ⟨.inl h1, .inr h1⟩
        · refine ⟨.inr h1, .inl ?_⟩
          show (scope.names.lookup n == some NameKind.cell) = true
          rw [h2]; rfl
      · have xb := x.blk s H scope cc cl fp
        rcases if_shape c8 with ⟨rfl, c8⟩ | ⟨z, rfl, c8⟩
        · exact h0 (C' := C) xb c8
        · exact pts_one (hc.e _ _ k z xb c8).2.2
      · exact (he.e _ _ k y (x.blk s H scope cc cl fp) c6).1
      · exact he.f _ _ k y (x.blk s H scope cc cl fp) c6
    have S := snd_new (gl := gl) (F := F) (g := compB own is tp ci.i ce.e cc.l cc.e) (f := compF own is tp si.iter sc.cnd se.ev) fun X C k e x c => by
      obtain ⟨y, tg, iter, ifs, scope, p, rfl, a1, a2, a3, a4, a5, a6, a7, _, a8⟩ := parts X C k e x c
      exact ⟨sd_comp x.calm x.nd a1 a2 a3 a4 a5 a6 a7 a8, fun _ => rfl⟩
    exact ⟨S.e, S.f, fun X C k e x c => by
      obtain ⟨y, tg, iter, ifs, scope, p, rfl, a1, a2, a3, a4, a5, a6, _, a7, a8⟩ := parts X C k e x c
      exact sd_compN x.calm x.nd a1 a2 a3 a4 a5 a6 a7 a8, S.i, S.b, S.l, S.o⟩
theorem snd_srt {G : Pg} {a : T} (ha : Snd gl F (chk a) (sem G F a)) : Snd gl F (chk (.srt a)) (sem G F (.srt a)) := snd_of fun X C k e x c => by
    obtain ⟨n, p, ys, pos, rfl, h1, h2, h3⟩ := call_of c
    simp only [Bool.and_eq_true, decide_eq_true_eq] at h3
    obtain ⟨rfl, h4⟩ := h3
    obtain ⟨y, rfl, h5⟩ := one_shape h4
    rw [Bool.and_eq_true] at h5
    have h := sd_srt (p := p) (pos := pos) (gl_of x.sc h1) (x.blt _ (by decide)) h5.1 (ha.e X C k y x h5.2).1
    exact ⟨h, sd_tst h (fun _ => rfl)⟩
theorem snd_lrg {G : Pg} {a b : T} (ha : Snd gl F (chk a) (sem G F a)) (hb : Snd gl F (chk b) (sem G F b)) : Snd gl F (chk (.lrg a b)) (sem G F (.lrg a b)) := snd_of fun X C k e x c => by
    obtain ⟨n, p, ys, pos, rfl, h1, h2, h3⟩ := call_of c
    simp only [Bool.and_eq_true, decide_eq_true_eq] at h3
    obtain ⟨rfl, h4⟩ := h3
    obtain ⟨y, rfl, h5⟩ := one_shape h4
    rw [Bool.and_eq_true] at h5
    obtain ⟨n2, p2, ys2, pos2, rfl, g1, g2, g3⟩ := call_of h5.2
    simp only [chkR2, Bool.and_eq_true, decide_eq_true_eq] at g3
    obtain ⟨rfl, g4⟩ := g3
    obtain ⟨u, w, rfl, g5, g6⟩ := two_shape g4
    rw [Bool.and_eq_true] at g5 g6
    have h := sd_lrg (p := p) (p2 := p2) (pos := pos) (pos2 := pos2) x.calm (gl_of x.sc h1) (x.blt _ (by decide)) (gl_of x.sc g1) (x.blt _ (by decide)) g5.1 g6.1 (ha.e X C k u x g5.2).1 (hb.e X C k w x g6.2).1
    exact ⟨h, sd_tst h (fun _ => rfl)⟩
theorem snd_tupN {G : Pg} {es : T} (hes : Snd gl F (chk es) (sem G F es)) : Snd gl F (chk (.tupN es)) (sem G F (.tupN es)) := snd_of fun X C k e x c => by
    match e, c with
    | .Tuple ys j p, c =>
      obtain ⟨b1, _, _⟩ := hes.l X C k ys x c
      have h := sd_tupN (k := j) (pos := p) b1
      exact ⟨h, sd_tst h (fun _ => rfl)⟩
theorem snd_ixp {G : Pg} {a i : T} (ha : Snd gl F (chk a) (sem G F a)) (hi : Snd gl F (chk i) (sem G F i)) : Snd gl F (chk (.ixp a i)) (sem G F (.ixp a i)) := snd_of fun X C k e x c => by
    match e, c with
    | .Subscript y z p, c =>
      have c : (simple z && (chk a).e C y && (chk i).e C z) = true := c
      simp only [Bool.and_eq_true] at c
      have h := sd_ixp (pos := p) (ha.e X C k y x c.1.2).1 (hi.e X C k z x c.2).1 (plain_ix c.1.1)
      exact ⟨h, sd_tst h (fun _ => rfl)⟩
theorem snd_pop {G : Pg} {y i : T} (ha : Snd gl F (chk y) (sem G F y)) (hi : Snd gl F (chk i) (sem G F i)) : Snd gl F (chk (.pop y i)) (sem G F (.pop y i)) := snd_of fun X C k e x c => by
    obtain ⟨z, p, apos, v, cpos, rfl, c1, c2, c3, c4⟩ := methB_shape c
    have h := sd_pop (p := p) c1 (ha.e X C k _ x c2).1 c3 (hi.e X C k v x c4).1
    exact ⟨h, sd_tst h (fun _ => rfl)⟩
theorem snd_rev {G : Pg} {a : T} (ha : Snd gl F (chk a) (sem G F a)) : Snd gl F (chk (.rev a)) (sem G F (.rev a)) := snd_it fun X C k e tp tg x c ht => by
    obtain ⟨n, p, ys, pos, rfl, h1, h2, h3⟩ := call_of c
    simp only [Bool.and_eq_true, decide_eq_true_eq] at h3
    obtain ⟨rfl, h4⟩ := h3
    obtain ⟨y, rfl, h5⟩ := one_shape h4
    rw [Bool.and_eq_true] at h5
    exact sd_rev (gl_of x.sc h1) (x.blt _ (by decide)) h5.1 (ha.e X C k y x h5.2).1
theorem minB_shape {f : Expr → Bool} {g : Scope → Expr → Str → Bool} {e : Expr} (c : minB f g e = true) : ∃ p y params body scope lpos kpos pos a, e = .Call (.Name "min" p) [y] [⟨some "key", .Lambda params body scope lpos, kpos⟩] pos ∧ simple y = true ∧ f y = true ∧ oneArg params = some a ∧ g scope body a = true := by
  unfold minB at c
  split at c
  · simp only [Bool.and_eq_true, decide_eq_true_eq] at c
    obtain ⟨⟨⟨⟨rfl, rfl⟩, c3⟩, c4⟩, c5⟩ := c
    split at c5
    · exact ⟨_, _, _, _, _, _, _, _, _, rfl, c3, c4, ‹_›, c5⟩
    · cases c5
  · cases c
theorem snd_minl {G : Pg} {i : Nat} {a b : T} (ha : Snd gl F (chk a) (sem G F a)) (hb : Snd gl F (chk b) (sem G F b)) : Snd gl F (chk (.minl i a b)) (sem G F (.minl i a b)) := snd_of fun X C k e x c => by
    have c : (C.lam && !C.fns.isEmpty && glB C.sc "min" && minB ((chk a).e C) (fun scope body n => Lm.lam1B C.sc scope n && decide (C.N[i]? = some n) && (chk b).e (C.inL scope) body) e) = true := c
    simp only [Bool.and_eq_true, Bool.not_eq_true'] at c
    obtain ⟨⟨⟨c1, c2⟩, c3⟩, c4⟩ := c
    obtain ⟨p, y, params, body, scope, lpos, kpos, pos, n, rfl, d1, d2, d3, d4⟩ := minB_shape c4
    simp only [Bool.and_eq_true, decide_eq_true_eq] at d4
    obtain ⟨⟨e1, e2⟩, e3⟩ := d4
    obtain ⟨cc, P, f1, f2, f3, f4⟩ := x.tab c1
    have hne : C.fns ≠ [] := fun z => by rw [z] at c2; cases c2
    have r := x.room hne
    have h := sd_minl (p := p) (lpos := lpos) (kpos := kpos) (pos := pos) (gl_of x.sc c3) (x.blt _ (by decide)) x.calm x.nd (by rw [x.N]; exact e2) d1 (ha.e X C k y x d2).1 f2 f1 f3 f4 r.depth (by rw [x.sc]; exact Lm.lam1_by e1) d3
      (fun s H f c' => (hb.e _ _ 0 body (x.lam hne scope s H f c') e3).1)
    exact ⟨h, sd_tst h (fun _ => rfl)⟩
theorem sound (G : Pg) (hG : G = gl) : ∀ t : T, Snd gl F (chk t) (sem G F t)
  | .nil => snd_nil
  | .consL a tl => snd_consL (sound G hG a) (sound G hG tl)
  | .consN a tl => snd_consN (sound G hG a) (sound G hG tl)
  | .tupN es => snd_tupN (sound G hG es)
  | .ixp a i => snd_ixp (sound G hG a) (sound G hG i)
  | .pop y i => snd_pop (sound G hG y) (sound G hG i)
  | .minl i a b => snd_minl (sound G hG a) (sound G hG b)
  | .cons a tl => snd_cons (sound G hG a) (sound G hG tl)
  | .var i => snd_of fun X C k e x c => by
    match e, c with
    | .Name n p, c =>
      have c : (decide (C.N[i]? = some n) && visB C.sc n && nmB n) = true := c
      simp only [Bool.and_eq_true, decide_eq_true_eq] at c
      obtain ⟨n1, n2, _⟩ := nm_of c.2
      have h := sd_var (X := X) (i := i) (x := n) (pos := p) (by rw [x.N]; exact c.1.1) (by rw [x.sc]; exact vis_of c.1.2) n1 n2
      exact ⟨h, sd_tst h (fun _ => rfl)⟩
  | .non => snd_of fun X C k e x c => by
    match e, c with
    | .Constant .none j p, c =>
      have h := sd_con (X := X) (pe_non (j := j) (pos := p)) (fun G => .non)
      exact ⟨h, sd_tst h (fun _ => rfl)⟩
  | .int i => snd_of fun X C k e x c => by
    match e, c with
    | .Constant (.int z) j p, c =>
      have c : decide (i = z) = true := c
      have c := of_decide_eq_true c
      subst c
      have h := sd_con (X := X) (pe_int (i := i) (j := j) (pos := p)) (fun G => .int i)
      exact ⟨h, sd_tst h (fun _ => rfl)⟩
  | .str i => snd_of fun X C k e x c => by
    match e, c with
    | .Constant (.str z) j p, c =>
      have c : decide (i = z) = true := c
      have c := of_decide_eq_true c
      subst c
      have h := sd_con (X := X) (pe_str (x := i) (j := j) (pos := p)) (fun G => .str i)
      exact ⟨h, sd_tst h (fun _ => rfl)⟩
  | .bl i => snd_of fun X C k e x c => by
    match e, c with
    | .Constant (.bool z) j p, c =>
      have c : decide (i = z) = true := c
      have c := of_decide_eq_true c
      subst c
      have h := sd_con (X := X) (pe_bl (b := i) (j := j) (pos := p)) (fun G => .bl i)
      exact ⟨h, sd_tst h (fun _ => rfl)⟩
  | .glob g => snd_of fun X C k e x c => by
    match e, c with
    | .Name n p, c =>
      have c : (decide (C.gls[g]? = some n) && glB C.sc n && nmB n) = true := c
      simp only [Bool.and_eq_true, decide_eq_true_eq] at c
      obtain ⟨n1, n2, _⟩ := nm_of c.2
      have h : PE X (.Name n p) (tD X.K fun _ => do
        let d ← M.opt G.gl[g]?
        pure (.p d)) := by
        cases e : gl.gl[g]? with
        | none => exact ⟨fun pins s σ H Q I ⟨m, ρ, h, d, h', R, S, q, _⟩ => by
            obtain ⟨d', h1, e1, q⟩ := bnd_ok.mp q
            obtain ⟨k1, _⟩ := opt_ok.mp e1
            rw [hG, e] at k1; cases k1⟩
        | some d =>
          obtain ⟨v, u, h1, h2, h3⟩ := x.gls g d n e c.1.1
          refine wkE (pe_glob (gl_of x.sc c.1.2) h1 h2 n1) fun σ H Q ⟨m, ρ, h, d', h', R, S, q, qq⟩ => ?_
          obtain ⟨d2, h4, e1, q⟩ := bnd_ok.mp q
          obtain ⟨k1, rfl⟩ := opt_ok.mp e1
          obtain ⟨rfl, rfl⟩ := pure_ok.mp q
          rw [hG, e] at k1
          cases k1
          exact qq m v H (Ext.refl _ _ _) R (h3 _)
      exact ⟨h, sd_tst h (fun _ => rfl)⟩
  | .bin op a b => snd_gen (sm := { Sm.of (eBin op (sem G F a).ev (sem G F b).ev) with frs := eBinF op (sem G F a).ev (sem G F b).ev (sem G F a).frs }) rfl rfl rfl fun X C k e x c => by
    match e, c with
    | .BinOp y o z p, c =>
      have c : (opB op o && (chk a).e C y && (chk b).e C z) = true := c
      simp only [Bool.and_eq_true] at c
      obtain rfl := op_eq_of c.1.1
      obtain ⟨a1, _⟩ := (sound G hG a).e X C k y x c.1.2
      have a2 := (sound G hG a).f X C k y x c.1.2
      obtain ⟨b1, _⟩ := (sound G hG b).e X C k z x c.2
      have h := sd_bin (op := op) (pos := p) a1 b1
      refine ⟨h, sd_tst h (fun _ => rfl), sd_tst h (fun _ => rfl), ?_⟩
      cases op with
      | mul => exact sd_rep a2 b1
      | _ => exact fr_no h
  | .neg a => snd_of fun X C k e x c => by
    match e, c with
    | .UnaryOp .USub y p, c =>
      obtain ⟨a1, _⟩ := (sound G hG a).e X C k y x c
      have h := sd_neg (pos := p) a1
      exact ⟨h, sd_tst h (fun _ => rfl)⟩
  | .not a => snd_tst fun X C k e x c => by
    match e, c with
    | .UnaryOp .Not y p, c =>
      obtain ⟨a1, a2, _⟩ := (sound G hG a).e X C k y x c
      exact ⟨sd_notV a1, sd_not a2⟩
  | .cmp op a b => snd_of fun X C k e x c => by
    match e, c with
    | .Compare y [o] [z] p, c =>
      have c : (copB op o && (chk a).e C y && (chk b).e C z) = true := c
      simp only [Bool.and_eq_true] at c
      obtain ⟨a1, _⟩ := (sound G hG a).e X C k y x c.1.2
      obtain ⟨b1, _⟩ := (sound G hG b).e X C k z x c.2
      have hm := marks_ne (b := z) c.1.1 (chk_notSetE b c.2)
      obtain rfl := cop_eq_of c.1.1
      exact sd_cmp (by have := x.un; omega) a1 b1 hm
  | .chn o1 o2 a b c' => snd_of fun X C k e x c => by
    match e, c with
    | .Compare y [p1, p2] [z, w] p, c =>
      have c : (copB o1 p1 && copB o2 p2 && (chk a).e C y && (chk b).e C z && (chk c').e C w) = true := c
      simp only [Bool.and_eq_true] at c
      obtain ⟨a1, _⟩ := (sound G hG a).e X C k y x c.1.1.2
      obtain ⟨b1, _⟩ := (sound G hG b).e X C k z x c.1.2
      obtain ⟨c1, _⟩ := (sound G hG c').e X C k w x c.2
      have hm := last_ne (o1 := o1) (b := z) (c := w) c.1.1.1.2 (chk_notSetE c' c.2)
      obtain rfl := cop_eq_of c.1.1.1.1
      obtain rfl := cop_eq_of c.1.1.1.2
      exact sd_chn (by have := x.un; omega) a1 b1 c1 hm
  | .isN a => snd_of fun X C k e x c => by
    match e, c with
    | .Compare y [.Is] [.Constant .none j p'] p, c =>
      obtain ⟨a1, _⟩ := (sound G hG a).e X C k y x c
      exact sd_isN a1
  | .isNN a => snd_of fun X C k e x c => by
    match e, c with
    | .Compare y [.IsNot] [.Constant .none j p'] p, c =>
      obtain ⟨a1, _⟩ := (sound G hG a).e X C k y x c
      exact sd_isNN a1
  | .isB b a => snd_isB (sound G hG a)
  | .isNB b a => snd_isNB (sound G hG a)
  | .and a b => snd_and (sound G hG a) (sound G hG b)
  | .or a b => snd_or (sound G hG a) (sound G hG b)
  | .ife c' a b => Snd.xm <| snd_tst fun X C k e x c => by
    match e, c with
    | .IfExp z y w p, c =>
      have c : ((chk c').e C z && (chk a).e C y && (chk b).e C w) = true := c
      simp only [Bool.and_eq_true] at c
      obtain ⟨c1, c2, _⟩ := (sound G hG c').e X C k z x c.1.1
      obtain ⟨a1, a2, _⟩ := (sound G hG a).e X C k y x c.1.2
      obtain ⟨b1, b2, _⟩ := (sound G hG b).e X C k w x c.2
      exact ⟨sd_ife c2 a1 b1, sd_ifeT c2 a2 b2⟩
  | .tup es => Snd.xm <| snd_of fun X C k e x c => by
    match e, c with
    | .Tuple ys j p, c =>
      obtain ⟨_, b2, _⟩ := (sound G hG es).l X C k ys x c
      have h := sd_tup (k := j) (pos := p) b2
      exact ⟨h, sd_tst h (fun _ => rfl)⟩
  | .lst es => snd_new fun X C k e x c => by
    match e, c with
    | .List ys p, c =>
      obtain ⟨_, b2, _⟩ := (sound G hG es).l X C k ys x c
      exact ⟨sd_lst b2, fun _ => rfl⟩
  | .ix a i => snd_of fun X C k e x c => by
    match e, c with
    | .Subscript y z p, c =>
      have c : (simple z && (chk a).e C y && (chk i).e C z) = true := c
      simp only [Bool.and_eq_true] at c
      obtain ⟨a1, _⟩ := (sound G hG a).e X C k y x c.1.2
      obtain ⟨b1, _⟩ := (sound G hG i).e X C k z x c.2
      have h := sd_ix (pos := p) a1 b1 (plain_ix c.1.1)
      exact ⟨h, sd_tst h (fun _ => rfl)⟩
  | .sl a lo hi => snd_of fun X C k e x c => by
    match e, c with
    | .Subscript y (.Slice l u none p2) p, c =>
      have c : ((chk a).e C y && (chk lo).o C l && (chk hi).o C u) = true := c
      simp only [Bool.and_eq_true] at c
      obtain ⟨a1, _⟩ := (sound G hG a).e X C k y x c.1.1
      have h := sd_sl (pos := p) (p2 := p2) a1 ((sound G hG lo).o X C k l x c.1.2) ((sound G hG hi).o X C k u x c.2)
      exact ⟨h, sd_tst h (fun _ => rfl)⟩
  | .slr a => snd_of fun X C k e x c => by
    obtain ⟨y, k1, p1, p2, p3, pos, rfl, c2⟩ := revB_shape c
    have h := sd_slr (k := k1) (p1 := p1) (p2 := p2) (p3 := p3) (pos := pos) ((sound G hG a).e X C k y x c2).1
    exact ⟨h, sd_tst h (fun _ => rfl)⟩
  | .ixn a i => snd_of fun X C k e x c => by
    match e, c with
    | .Subscript y z p, c =>
      have c : (simple z && (chk a).e C y && (chk i).e C z) = true := c
      simp only [Bool.and_eq_true] at c
      obtain ⟨a1, _⟩ := (sound G hG a).e X C k y x c.1.2
      obtain ⟨b1, _⟩ := (sound G hG i).e X C k z x c.2
      have h := sd_ixn (pos := p) a1 b1 (plain_ix c.1.1)
      exact ⟨h, sd_tst h (fun _ => rfl)⟩
  | .lnn a => snd_of fun X C k e x c => by
    obtain ⟨n, p, ys, pos, rfl, h1, h2, h3⟩ := call_of c
    simp only [Bool.and_eq_true, decide_eq_true_eq] at h3
    obtain ⟨rfl, h4⟩ := h3
    obtain ⟨y, rfl, h5⟩ := one_shape h4
    rw [Bool.and_eq_true] at h5
    obtain ⟨a1, _⟩ := (sound G hG a).e X C k y x h5.2
    have h := sd_lnn (p := p) (pos := pos) (gl_of x.sc h1) (x.blt _ (by decide)) h5.1 a1
    exact ⟨h, sd_tst h (fun _ => rfl)⟩
  | .gget g a d => snd_of fun X C k e x c => by
    obtain ⟨z, p, apos, y, u, cpos, rfl, c0, c5, h5, h6⟩ := getB_shape c
    · simp only [Bool.and_eq_true, decide_eq_true_eq] at c0
      obtain ⟨⟨c1, c2⟩, c3⟩ := c0
      rw [Bool.and_eq_true] at h5 h6
      obtain ⟨n1, n2, _⟩ := nm_of c3
      obtain ⟨a1, _⟩ := (sound G hG a).e X C k y x h5.2
      obtain ⟨b1, _⟩ := (sound G hG d).e X C k u x h6.2
      have h : PE X (.Call (.Attribute (.Name z p) "get" apos) [y, u] [] cpos) (tD X.K fun ρ => do
        let x ← (sem G F a).ev ρ
        let y ← (sem G F d).ev ρ
        let x ← rd x
        let y ← val y
        let t ← M.opt G.ds[g]?
        let x ← M.opt (strOf x)
        let z ← M.opt (Px.getD t x y)
        pure (.p z)) := by
        cases e : gl.ds[g]? with
        | none => exact ⟨fun pins s σ H Q I ⟨m, ρ, h, d, h', R, S, q, _⟩ => by
            obtain ⟨d', h1, e1, q⟩ := bnd_ok.mp q
            obtain ⟨d', h1, e1, q⟩ := bnd_ok.mp q
            obtain ⟨d', h1, e1, q⟩ := bnd_ok.mp q
            obtain ⟨d', h1, e1, q⟩ := bnd_ok.mp q
            obtain ⟨d', h1, e1, q⟩ := bnd_ok.mp q
            obtain ⟨k1, _⟩ := opt_ok.mp e1
            rw [hG, e] at k1; cases k1⟩
        | some t =>
          obtain ⟨ad, g1, g2⟩ := x.dss g t z e c1
          have := sd_gget (p := p) (apos := apos) (cpos := cpos) (gl_of x.sc c2) g1 n1 g2 a1 b1 h5.1 h6.1 c5
          rw [show G.ds[g]? = some t from by rw [hG]; exact e]
          exact this
      exact ⟨h, sd_tst h (fun _ => rfl)⟩
  | .callW f es => Snd.xm <| snd_gen (sm := { Sm.of (fun ρ => do
      let ds ← (sem G F es).eva ρ
      let v ← F f ds
      pure (.p v.1)) with frs := fun ρ => do
      let ds ← (sem G F es).eva ρ
      let v ← F f ds
      match v with
      | (.list xs, true) => pure xs
      | _ => M.no }) rfl rfl rfl fun X C k e x c => by
    obtain ⟨n, p, ys, pos, rfl, h1, h2, h3⟩ := call_of c
    have h3 : (decide (C.fns[f]? = some n) && !ys.isEmpty && (chk es).l C ys) = true := h3
    simp only [Bool.and_eq_true, decide_eq_true_eq] at h3
    obtain ⟨n1, n2, _⟩ := nm_of h2
    obtain ⟨b1, _, b3⟩ := (sound G hG es).l X C k ys x h3.2
    obtain ⟨⟨h6, h7⟩, h8⟩ := h3
    obtain ⟨fa, g1, g2, g3⟩ := x.cal f n h6
    cases ys with
    | nil => cases h7
    | cons y r =>
      obtain ⟨k1, k2⟩ := sd_callW (p := p) (pos := pos) g3 (x.rm h6) x.gd (gl_of x.sc h1) g1 g2 b1 n1 b3
      exact ⟨k1, sd_tst k1 (fun _ => rfl), sd_tst k1 (fun _ => rfl), k2⟩
  | .call f es => Snd.xm <| snd_gen (sm := { Sm.of (fun ρ => do
      let ds ← (sem G F es).eva ρ
      let v ← callF F f ds
      pure (.p v.1)) with frs := fun ρ => do
      let ds ← (sem G F es).eva ρ
      let v ← callF F f ds
      match v with
      | (.list xs, true) => pure xs
      | _ => M.no }) rfl rfl rfl fun X C k e x c => by
    obtain ⟨n, p, ys, pos, rfl, h1, h2, h3⟩ := call_of c
    have h3 : (decide (C.fns[f]? = some n) && (!ys.isEmpty || noArg es) && (chk es).l C ys) = true := h3
    simp only [Bool.and_eq_true, decide_eq_true_eq] at h3
    obtain ⟨n1, n2, _⟩ := nm_of h2
    obtain ⟨b1, _, b3⟩ := (sound G hG es).l X C k ys x h3.2
    obtain ⟨⟨h6, h7⟩, h8⟩ := h3
    obtain ⟨fa, g1, g2, g3⟩ := x.cal f n h6
    cases ys with
    | nil =>
      cases es <;> first
        | (obtain ⟨k1, k2⟩ := sd_call0 (p := p) (pos := pos) g3 (x.rm h6) x.gd (gl_of x.sc h1) g1 g2 n1
           exact ⟨k1, sd_tst k1 (fun _ => rfl), sd_tst k1 (fun _ => rfl), k2⟩)
        | (simp [noArg] at h7)
    | cons y r =>
      obtain ⟨k1, k2⟩ := sd_call (p := p) (pos := pos) g3 (x.rm h6) x.gd (gl_of x.sc h1) g1 g2 b1 n1 b3
      exact ⟨k1, sd_tst k1 (fun _ => rfl), sd_tst k1 (fun _ => rfl), k2⟩
  | .blt b es => snd_of fun X C k e x c => by
    obtain ⟨n, p, ys, pos, rfl, h1, h2, h3⟩ := call_of c
    have h3 : (decide (n = blName b) && !ys.isEmpty && (chk es).l C ys) = true := h3
    simp only [Bool.and_eq_true, decide_eq_true_eq] at h3
    obtain ⟨b1, _, b3⟩ := (sound G hG es).l X C k ys x h3.2
    obtain ⟨⟨rfl, h4⟩, h5⟩ := h3
    cases ys with
    | nil => cases h4
    | cons y r =>
      have h := sd_blt (b := b) (p := p) (pos := pos) x.calm x.gd x.un (gl_of x.sc h1) (x.blt _ (by cases b <;> decide)) b3 b1
      exact ⟨h, sd_tst h (fun _ => rfl)⟩
  | .lof a => snd_new fun X C k e x c => by
    obtain ⟨n, p, ys, pos, rfl, h1, h2, h3⟩ := call_of c
    simp only [Bool.and_eq_true, decide_eq_true_eq] at h3
    obtain ⟨rfl, h4⟩ := h3
    obtain ⟨y, rfl, h5⟩ := one_shape h4
    rw [Bool.and_eq_true] at h5
    obtain ⟨a1, _⟩ := (sound G hG a).e X C k y x h5.2
    exact ⟨sd_lof (gl_of x.sc h1) (x.blt _ (by decide)) h5.1 a1, fun _ => rfl⟩
  | .srt a => snd_srt (sound G hG a)
  | .lrg a b => snd_lrg (sound G hG a) (sound G hG b)
  | .isi a kd => snd_of fun X C k e x c => by
    obtain ⟨n, p, ys, pos, rfl, h1, h2, h3⟩ := call_of c
    have h3 : (decide (n = ("isinstance" : Str)) && chkIs (fun y => simple y && (chk a).e C y) (fun z => decide (z = Str.ofString (kdName kd)) && glB C.sc z) ys) = true := h3
    simp only [Bool.and_eq_true, decide_eq_true_eq] at h3
    obtain ⟨rfl, h4⟩ := h3
    obtain ⟨y, z, p2, rfl, h5, h6⟩ := is_shape h4
    simp only [Bool.and_eq_true, decide_eq_true_eq] at h5 h6
    obtain ⟨rfl, h6⟩ := h6
    obtain ⟨a1, _⟩ := (sound G hG a).e X C k y x h5.2
    have h := sd_isi (k := kd) (p := p) (p2 := p2) (pos := pos) (gl_of x.sc h1) (x.blt _ (by decide)) (gl_of x.sc h6) (x.blt _ (by cases kd <;> decide)) h5.1 a1
    exact ⟨h, sd_tst h (fun _ => rfl)⟩
  | .comp own is tp it cond elt => snd_comp (fun {C tp e} c => chk_notSet it c) (fun {X C C' k} x c => by
      cases cond with
      | nil => exact sd_if0
      | _ => cases c) (sound G hG it) (sound G hG elt) (sound G hG cond)
  | .rng1 a => snd_it fun X C k e tp tg x c _ => by
    obtain ⟨n, p, ys, pos, rfl, h1, h2, h3⟩ := call_of c
    simp only [chkR1, Bool.and_eq_true, decide_eq_true_eq] at h3
    obtain ⟨rfl, h4⟩ := h3
    obtain ⟨y, rfl, h5⟩ := one_shape h4
    rw [Bool.and_eq_true] at h5
    exact sd_rng1 (gl_of x.sc h1) (x.blt _ (by decide)) h5.1 ((sound G hG a).e X C k y x h5.2).1
  | .rng2 a b => snd_it fun X C k e tp tg x c _ => by
    obtain ⟨n, p, ys, pos, rfl, h1, h2, h3⟩ := call_of c
    simp only [chkR2, Bool.and_eq_true, decide_eq_true_eq] at h3
    obtain ⟨rfl, h4⟩ := h3
    obtain ⟨y, z, rfl, h5, h6⟩ := two_shape h4
    rw [Bool.and_eq_true] at h5 h6
    exact sd_rng2 (gl_of x.sc h1) (x.blt _ (by decide)) h5.1 h6.1 ((sound G hG a).e X C k y x h5.2).1 ((sound G hG b).e X C k z x h6.2).1
  | .zip es => snd_it fun X C k e tp tg x c ht => by
    rw [Bool.and_eq_true] at c
    obtain ⟨n, p, ys, pos, rfl, h1, h2, h3⟩ := call_of c.2
    simp only [chkZ, Bool.and_eq_true, decide_eq_true_eq] at h3
    obtain ⟨⟨rfl, h4⟩, h5⟩ := h3
    obtain ⟨_, b2, b3⟩ := (sound G hG es).l X C k ys x h5
    obtain ⟨elts, kk, tpos, rfl⟩ := ht c.1
    exact sd_zip (gl_of x.sc h1) (x.blt _ (by decide)) h4 b3 b2
  | .enm es => snd_it fun X C k e tp tg x c ht => by
    rw [Bool.and_eq_true] at c
    obtain ⟨n, p, ys, pos, rfl, h1, h2, h3⟩ := call_of c.2
    simp only [chkZ, Bool.and_eq_true, decide_eq_true_eq] at h3
    obtain ⟨⟨rfl, h4⟩, h5⟩ := h3
    obtain ⟨_, b2, b3⟩ := (sound G hG es).l X C k ys x h5
    obtain ⟨elts, kk, tpos, rfl⟩ := ht c.1
    exact sd_enm (gl_of x.sc h1) (x.blt _ (by decide)) h4 b3 b2
  | .rev a => snd_rev (sound G hG a)
end
end Px

/-! Px12: statements, rule by rule. -/
namespace PySem
open PySem PyProof.Rows L2
set_option maxRecDepth 8000 in
theorem list_extend_anyTup (l : Addr) (items : Array Value) (n : Nat) (b : Addr) (items2 : Array Value) (n2 : Nat) (dct : Option Addr) (slt : Array (Option Value)) (hs0 : ¬(!items.isEmpty && Builtin.List.listTooLong (items.size + items2.size)) = true) (hs1 : items.size ≤ sizeLine) (hs2 : items.size + items2.size ≤ sizeLine + 1) :
    Meets (Builtin.«list.extend» ⟨[.ref l, .ref b], []⟩) (fun _ R s => s.heap.get? l = some { cls := .type "list", dict := none, data := .seq items n, slots := #[] } ∧ s.heap.get? b = some { cls := .type "tuple", dict := dct, data := .seq items2 n2, slots := slt } ∧ R (.ok (.ret Value.none)) { s with heap := s.heap.update l (Obj.mapSeq fun x => x ++ items2), toks := s.toks }) :=
  .of_wp fun prog w A R s h => by
    obtain ⟨hp, g, d, tk, os⟩ := s; obtain ⟨hl, hb, h⟩ := h; have f1 := AutoSeq1.idx_int; have f2 := AutoSeq1.sub_tuple_tuple; have f3 := AutoSeq1.sub_list_list; have f4 := AutoSeq1.sub_tuple_list; have f5 := AutoSeq1.sub_list_tuple;
    have hz' : (items ++ items2).size ≤ sizeLine + 1 := by rw [Array.size_append]; exact hs2
    wp_walk using (PySem.wpAny_updateSeq hl rfl (hz := hs1) (_hz' := hz')), AutoSeq1.wpAny_loadPart' hl, AutoSeq1.wpAny_loadPart' hb; exact ⟨_, rfl, h⟩
end PySem
namespace Px
open PySem PyProof.Rows L2
def rExtendB (K : PySem.W.Frag) : V → List V → Hp → VK → Prop := fun x vs H Q => ∃ l b xs zs, x = .ref l ∧ vs = [.ref b] ∧ H l = some (.lst xs) ∧ (H b = some (.lst zs) ∨ SqT K H b zs) ∧ xs.length + zs.length ≤ sizeLine ∧ Q .non (upd H l (.lst (xs ++ zs)))
theorem mt_extendB {X : Cx} : MtM X "list.extend" (rExtendB X.K) := by
  intro pins s σ H x vs v us Q I rx rv h
  obtain ⟨l, b, xs, zs, rfl, rfl, hH, hB, hz, q⟩ := h
  rcases hB with hB | hB
  · exact mt_extend pins s σ H _ _ v us Q I rx rv ⟨l, b, xs, zs, rfl, rfl, hH, hB, hz, q⟩
  cases rx
  obtain ⟨u, rfl, ru⟩ := rv.one
  cases ru
  obtain ⟨z, its, n, r, hl, e⟩ := I.lstM hH
  obtain ⟨its2, r2, ⟨o, ho, hc, n2, hd⟩, z2⟩ := I.tuple hB
  obtain ⟨cls, dct, dat, slt⟩ := o
  subst hc
  subst hd
  have hsz : its.toArray.size + its2.toArray.size ≤ sizeLine := by rw [List.size_toArray, List.size_toArray]; have := r.length; have := r2.length; omega
  have hlong : ¬ (!its.toArray.isEmpty && Builtin.List.listTooLong (its.toArray.size + its2.toArray.size)) = true := by
    rw [notLongL hsz, Bool.and_false]
    exact Bool.false_ne_true
  refine call_meets F.slot_list_extend ⟨_, e, rfl⟩ F.entry_list_extend (F.args_list_extend_2 _ _)
    (list_extend_anyTup l its.toArray n b its2.toArray n2 dct slt hlong (by rw [List.size_toArray]; have := r.length; omega) (by omega)) ⟨e, ho, ?_⟩
  refine ⟨.non, _, I.lset (its' := its ++ its2) hH e (by simp) (r.append r2) ?_, rfl, q⟩
  rw [List.length_append]
  omega
end Px
namespace Px
open PySem PySem.Spec PyProof.Rows L2

def FlOk (K : PySem.W.Frag) (m : Wd) (n : Nat) (D : Ends) (σ : L2.St) (H : Hp) : Fl → Prop
  | .nx => D.nx σ H
  | .bk => D.bk σ H
  | .ct => D.ct σ H
  | .rt d => ∀ v, RD K m n v d → D.rt v H
  | .ex _ => False
def tS (K : PySem.W.Frag) (f : Px.Env → M (Fl × Px.Env)) : TS := fun D σ H => ∃ m ρ h r h', Rel K m h H ∧ SR K m h.length σ ρ ∧ f ρ h = .ok r h' ∧
  ∀ m' σ' H', Ext m m' h h' H H' → Rel K m' h' H' → SR K m' h'.length σ' r.2 → FlOk K m' h'.length D σ' H' r.1
section
variable {X : Cx} {K : PySem.W.Frag} {m m' : Wd} {h h' : List O} {H H' : Hp}
theorem wkS {st : Stmt} {t t' : TS} (h : PS X st t') (w : ∀ D σ H, t D σ H → t' D σ H) : PS X st t := ⟨fun pins s σ H D I q => h.run pins s σ H D I (w D σ H q)⟩
theorem wkSs {st : List Stmt} {t t' : TS} (h : PSs X st t') (w : ∀ D σ H, t D σ H → t' D σ H) : PSs X st t := ⟨fun pins s σ H D I q => h.run pins s σ H D I (w D σ H q)⟩
theorem ss_nil : PSs X [] (tS X.K fun ρ => pure (.nx, ρ)) :=
  wkSs pss_nil fun D σ H ⟨m, ρ, h, r, h', R, S, e, q⟩ => by
    obtain ⟨rfl, rfl⟩ := pure_ok.mp e
    exact q m σ H (Ext.refl _ _ _) R S
theorem ss_cons {st : Stmt} {sts : List Stmt} {fa fb : Px.Env → M (Fl × Px.Env)} (ha : PS X st (tS X.K fa)) (hb : PSs X sts (tS X.K fb)) : PSs X (st :: sts) (tS X.K fun ρ => do
    let r ← fa ρ
    match r with
    | (.nx, ρ1) => fb ρ1
    | r => pure r) :=
  wkSs (pss_cons ha hb) fun D σ H ⟨m, ρ, h, r, h', R, S, e, q⟩ => by
    obtain ⟨⟨fl, ρ1⟩, h1, e1, e⟩ := bnd_ok.mp e
    refine ⟨m, ρ, h, (fl, ρ1), h1, R, S, e1, fun m1 σ1 H1 E1 R1 S1 => ?_⟩
    cases fl with
    | nx => exact ⟨m1, ρ1, h1, r, h', R1, S1, e, fun m2 σ2 H2 E2 R2 S2 => q m2 σ2 H2 (E1.trans R1 E2) R2 S2⟩
    | bk =>
      obtain ⟨rfl, rfl⟩ := pure_ok.mp e
      exact q m1 σ1 H1 E1 R1 S1
    | ct =>
      obtain ⟨rfl, rfl⟩ := pure_ok.mp e
      exact q m1 σ1 H1 E1 R1 S1
    | rt d =>
      obtain ⟨rfl, rfl⟩ := pure_ok.mp e
      exact q m1 σ1 H1 E1 R1 S1
    | ex x =>
      obtain ⟨rfl, rfl⟩ := pure_ok.mp e
      exact q m1 σ1 H1 E1 R1 S1
theorem ss_pass {pos : Pos} : PS X (.Pass pos) (tS X.K fun ρ => pure (.nx, ρ)) :=
  wkS ps_pass fun D σ H ⟨m, ρ, h, r, h', R, S, e, q⟩ => by
    obtain ⟨rfl, rfl⟩ := pure_ok.mp e
    exact q m σ H (Ext.refl _ _ _) R S
theorem ss_brk {pos : Pos} : PS X (.Break pos) (tS X.K fun ρ => pure (.bk, ρ)) :=
  wkS ps_break fun D σ H ⟨m, ρ, h, r, h', R, S, e, q⟩ => by
    obtain ⟨rfl, rfl⟩ := pure_ok.mp e
    exact q m σ H (Ext.refl _ _ _) R S
theorem ss_cont {pos : Pos} : PS X (.Continue pos) (tS X.K fun ρ => pure (.ct, ρ)) :=
  wkS ps_continue fun D σ H ⟨m, ρ, h, r, h', R, S, e, q⟩ => by
    obtain ⟨rfl, rfl⟩ := pure_ok.mp e
    exact q m σ H (Ext.refl _ _ _) R S
theorem ss_retN {pos : Pos} : PS X (.Return none pos) (tS X.K fun ρ => pure (.rt (.p .none), ρ)) :=
  wkS ps_retN fun D σ H ⟨m, ρ, h, r, h', R, S, e, q⟩ => by
    obtain ⟨rfl, rfl⟩ := pure_ok.mp e
    exact q m σ H (Ext.refl _ _ _) R S .non .non
theorem ss_ret {e : Expr} {f : Px.Env → M D} {pos : Pos} (he : PE X e (tD X.K f)) : PS X (.Return (some e) pos) (tS X.K fun ρ => do
    let d ← f ρ
    pure (.rt d, ρ)) :=
  wkS (ps_ret he) fun D σ H ⟨m, ρ, h, r, h', R, S, e, q⟩ => by
    obtain ⟨d, h1, e1, e⟩ := bnd_ok.mp e
    obtain ⟨rfl, rfl⟩ := pure_ok.mp e
    exact ⟨m, ρ, h, d, h1, R, S, e1, fun m1 v H1 E1 R1 r1 => q m1 σ H1 E1 R1 (E1.sr S) v r1⟩
theorem ss_bad {st : Stmt} : PS X st (tS X.K fun _ => M.no) := ⟨fun pins s σ H D I ⟨m, ρ, h, r, h', R, S, e, q⟩ => (no_ok.mp e).elim⟩
theorem ss_expr {e : Expr} {f : Px.Env → M D} {pos : Pos} (he : PE X e (tD X.K f)) (hs : swapsWith e none pos.line X.env = pure false) : PS X (.Expr e pos) (tS X.K fun ρ => do
    let _ ← f ρ
    pure (.nx, ρ)) :=
  wkS (ps_expr he hs) fun D σ H ⟨m, ρ, h, r, h', R, S, e, q⟩ => by
    obtain ⟨d, h1, e1, e⟩ := bnd_ok.mp e
    obtain ⟨rfl, rfl⟩ := pure_ok.mp e
    exact ⟨m, ρ, h, d, h1, R, S, e1, fun m1 v H1 E1 R1 r1 => q m1 σ H1 E1 R1 (E1.sr S)⟩
theorem ss_if {c : Expr} {a b : List Stmt} {fc : Px.Env → M Bool} {fa fb : Px.Env → M (Fl × Px.Env)} {pos : Pos} (hc : PT X c (tT X.K fc)) (ha : PSs X a (tS X.K fa)) (hb : PSs X b (tS X.K fb)) : PS X (.If c a b pos) (tS X.K fun ρ => do
    let k ← fc ρ
    if k then fa ρ else fb ρ) :=
  wkS (ps_if hc ha hb) fun D σ H ⟨m, ρ, h, r, h', R, S, e, q⟩ => by
    obtain ⟨k, h1, e1, e⟩ := bnd_ok.mp e
    refine ⟨m, ρ, h, k, h1, R, S, e1, fun m1 H1 E1 R1 => ?_⟩
    cases k with
    | true => exact iteT ⟨m1, ρ, h1, r, h', R1, E1.sr S, e, fun m2 σ2 H2 E2 R2 S2 => q m2 σ2 H2 (E1.trans R1 E2) R2 S2⟩
    | false => exact iteF ⟨m1, ρ, h1, r, h', R1, E1.sr S, e, fun m2 σ2 H2 E2 R2 S2 => q m2 σ2 H2 (E1.trans R1 E2) R2 S2⟩
theorem ss_set {i : Nat} {x : Str} {e : Expr} {f : Px.Env → M D} {pos pos' : Pos} (hN : X.N.Nodup) (hi : X.N[i]? = some x) (hx : Loc X.env.scope x) (hf : X.fn x = true ∨ X.env.scope.names.lookup x = some .local) (he : PE X e (tD X.K f)) (hs : swapsWith e (some (.Name x pos')) pos.line X.env = pure false) :
    PS X (.Assign [.Name x pos'] e pos) (tS X.K fun ρ => do
      let d ← f ρ
      pure (.nx, ρ.set i (some d))) :=
  wkS (ps_set hN hi hx he hs hf) fun D σ H ⟨m, ρ, h, r, h', R, S, e, q⟩ => by
    obtain ⟨d, h1, e1, e⟩ := bnd_ok.mp e
    obtain ⟨rfl, rfl⟩ := pure_ok.mp e
    exact ⟨m, ρ, h, d, h1, R, S, e1, fun m1 v H1 E1 R1 r1 => q m1 _ H1 E1 R1 ((E1.sr S).set r1)⟩
/-- a new list gets a handle at a name -/
theorem new_step {f : Px.Env → M (List PyData)} {i : Nat} {D : Ends} {σ : L2.St} {H : Hp} (hw : tS K (fun ρ => do
      let xs ← f ρ
      let d ← newL xs
      pure (.nx, ρ.set i (some d))) D σ H) : tFr K f σ H fun v H1 => D.nx (σ.set i (some v)) H1 := by
  obtain ⟨m, ρ, h, r, h', R, S, e, q⟩ := hw
  obtain ⟨xs, h1, e1, e⟩ := bnd_ok.mp e
  obtain ⟨d, h2, e2, e⟩ := bnd_ok.mp e
  obtain ⟨rfl, rfl⟩ := pure_ok.mp e
  simp only [newL, Out.ok.injEq] at e2
  obtain ⟨rfl, rfl⟩ := e2
  refine ⟨m, ρ, h, xs, h1, R, S, e1, fun m1 p vs H1 E1 R1 hp r1 g ne nw => ?_⟩
  have R2 := R1.push hp g r1 ne
  have E2 : Ext m { m1 with io := fun n => if n < h1.length then m1.io n else p } h (h1 ++ [.lst xs]) H H1 := by
    refine ⟨E1.g, fun n hn => ?_, by rw [List.length_append]; exact Nat.le_trans E1.len (Nat.le_add_right _ _), E1.fr, fun n a b => ?_, E1.gn⟩
    · show (if n < h1.length then m1.io n else p) = _
      rw [if_pos (Nat.lt_of_lt_of_le hn E1.len)]; exact E1.io n hn
    · show H (if n < h1.length then m1.io n else p) = none
      by_cases hl : n < h1.length
      · rw [if_pos hl]; exact E1.nw n a hl
      · rw [if_neg hl]; exact nw
  refine q _ _ H1 E2 R2 ((E2.sr S).set ⟨by simp, ?_⟩)
  show V.ref p = .ref (if h1.length < h1.length then m1.io h1.length else p)
  rw [if_neg (Nat.lt_irrefl _)]
/-- a new list of lists gets a handle at a name -/
theorem new_stepN {f : Px.Env → M (List Px.D)} {i : Nat} {D : Ends} {σ : L2.St} {H : Hp} (hw : tS K (fun ρ => do
      let xs ← f ρ
      let d ← newN xs
      pure (.nx, ρ.set i (some d))) D σ H) : tFn K f σ H fun v H1 => D.nx (σ.set i (some v)) H1 := by
  obtain ⟨m, ρ, h, r, h', R, S, e, q⟩ := hw
  obtain ⟨xs, h1, e1, e⟩ := bnd_ok.mp e
  obtain ⟨d, h2, e2, e⟩ := bnd_ok.mp e
  obtain ⟨rfl, rfl⟩ := pure_ok.mp e
  simp only [newN, Out.ok.injEq] at e2
  obtain ⟨rfl, rfl⟩ := e2
  refine ⟨m, ρ, h, xs, h1, R, S, e1, fun m1 p vs H1 E1 R1 hp r1 g ne nw => ?_⟩
  have E2 := push_ext (ob := .nst xs) E1 nw
  exact q _ _ H1 E2 (R1.pushN hp g r1 ne) ((E2.sr S).set push_rd)
/-- a new list is handed back -/
theorem ret_step {f : Px.Env → M (List PyData)} {D : Ends} {σ : L2.St} {H : Hp} (hw : tS K (fun ρ => do
      let xs ← f ρ
      let d ← newL xs
      pure (.rt d, ρ)) D σ H) : tFr K f σ H D.rt := by
  obtain ⟨m, ρ, h, r, h', R, S, e, q⟩ := hw
  obtain ⟨xs, h1, e1, e⟩ := bnd_ok.mp e
  obtain ⟨d, h2, e2, e⟩ := bnd_ok.mp e
  obtain ⟨rfl, rfl⟩ := pure_ok.mp e
  simp only [newL, Out.ok.injEq] at e2
  obtain ⟨rfl, rfl⟩ := e2
  refine ⟨m, ρ, h, xs, h1, R, S, e1, fun m1 p vs H1 E1 R1 hp r1 g ne nw => ?_⟩
  have R2 := R1.push hp g r1 ne
  have E2 : Ext m { m1 with io := fun n => if n < h1.length then m1.io n else p } h (h1 ++ [.lst xs]) H H1 := by
    refine ⟨E1.g, fun n hn => ?_, by rw [List.length_append]; exact Nat.le_trans E1.len (Nat.le_add_right _ _), E1.fr, fun n a b => ?_, E1.gn⟩
    · show (if n < h1.length then m1.io n else p) = _
      rw [if_pos (Nat.lt_of_lt_of_le hn E1.len)]; exact E1.io n hn
    · show H (if n < h1.length then m1.io n else p) = none
      by_cases hl : n < h1.length
      · rw [if_pos hl]; exact E1.nw n a hl
      · rw [if_neg hl]; exact nw
  refine q _ σ H1 E2 R2 (E2.sr S) (V.ref p) ⟨by simp, ?_⟩
  show V.ref p = .ref (if h1.length < h1.length then m1.io h1.length else p)
  rw [if_neg (Nat.lt_irrefl _)]
theorem ss_retF {e : Expr} {f : Px.Env → M (List PyData)} {pos : Pos} (he : PE X e (tFr X.K f)) : PS X (.Return (some e) pos) (tS X.K fun ρ => do
    let xs ← f ρ
    let d ← newL xs
    pure (.rt d, ρ)) :=
  wkS (ps_ret he) fun D σ H hw => ret_step hw
theorem ss_new {i : Nat} {x : Str} {e : Expr} {f : Px.Env → M (List PyData)} {pos pos' : Pos} (hN : X.N.Nodup) (hi : X.N[i]? = some x) (hx : Loc X.env.scope x) (hf : X.fn x = true ∨ X.env.scope.names.lookup x = some .local) (he : PE X e (tFr X.K f)) (hs : swapsWith e (some (.Name x pos')) pos.line X.env = pure false) :
    PS X (.Assign [.Name x pos'] e pos) (tS X.K fun ρ => do
      let xs ← f ρ
      let d ← newL xs
      pure (.nx, ρ.set i (some d))) :=
  wkS (ps_set hN hi hx he hs hf) fun D σ H hw => new_step hw
theorem ss_setT {is : List Nat} {tg e : Expr} {f : Px.Env → M D} {pos : Pos} (hg : PG X tg (gT X.K is true)) (he : PE X e (tD X.K f)) (hs : swapsWithSole [tg] e pos.line X.env = pure false) (hw : swappedStores [tg] e X.env = pure none)
    (h1 : (assignEach [tg] X.env).map (·.2) = [assign tg X.env]) : PS X (.Assign [tg] e pos) (tS X.K fun ρ => do
      let d ← f ρ
      let d ← rd d
      let ρ1 ← M.opt (bindG is true d ρ)
      pure (.nx, ρ1)) :=
  wkS (ps_asg he hg hs hw h1) fun D σ H ⟨m, ρ, h, r, h', R, S, e, q⟩ => by
    obtain ⟨d, h1, e1, e⟩ := bnd_ok.mp e
    obtain ⟨x, h2, e2, e⟩ := bnd_ok.mp e
    obtain ⟨k2, rfl⟩ := rd_ok.mp e2
    obtain ⟨ρ1, h2, e3, e⟩ := bnd_ok.mp e
    obtain ⟨k3, rfl⟩ := opt_ok.mp e3
    obtain ⟨rfl, rfl⟩ := pure_ok.mp e
    refine ⟨m, ρ, h, d, h1, R, S, e1, fun m1 v H1 E1 R1 r1 => ?_⟩
    have s := R1.drf r1 k2
    have s2 : Rp X.K m1.G v x := by
      rcases s with s | ⟨_, _, _, _, rfl, _⟩
      · exact s
      · simp [bindG] at k3
    exact bind_gt R1.sub k3 s2 (E1.sr S) fun σ1 S1 _ => q m1 σ1 H1 E1 R1 S1
theorem ss_par {i j : Nat} {x y : Str} {a b : Expr} {fa fb : Px.Env → M D} {px py pt pos : Pos} {kt k2 : Nat} {pt2 : Pos} (hc : X.calm = true) (hN : X.N.Nodup) (hi : X.N[i]? = some x) (hj : X.N[j]? = some y) (hij : i ≠ j)
    (hx : X.env.scope.names.lookup x = some .local) (hy : X.env.scope.names.lookup y = some .local) (sa : simple a = true) (sb : simple b = true) (ha : PE X a (tD X.K fa)) (hb : PE X b (tD X.K fb))
    (hw : swappedStores [.Tuple [.Name x px, .Name y py] kt pt] (.Tuple [a, b] k2 pt2) X.env = pure (some [x, y])) :
    PS X (.Assign [.Tuple [.Name x px, .Name y py] kt pt] (.Tuple [a, b] k2 pt2) pos) (tS X.K fun ρ => do
      let x ← fa ρ
      let y ← fb ρ
      pure (.nx, (ρ.set i (some x)).set j (some y))) :=
  wkS (ps_par hc hN hi hj hij hx hy (sd_ar1 sa ha (sd_ar1 sb hb sd_ar0)) hw rfl) fun D σ H ⟨m, ρ, h, r, h', R, S, e, q⟩ => by
    obtain ⟨d1, h1, e1, e⟩ := bnd_ok.mp e
    obtain ⟨d2, h2, e2, e⟩ := bnd_ok.mp e
    obtain ⟨rfl, rfl⟩ := pure_ok.mp e
    refine ⟨m, ρ, h, [d1, d2], h2, R, S, bnd_ok.mpr ⟨d1, h1, e1, bnd_ok.mpr ⟨[d2], h2, bnd_ok.mpr ⟨d2, h2, e2, bnd_ok.mpr ⟨[], h2, rfl, rfl⟩⟩, rfl⟩⟩, fun m1 vs H1 E1 R1 r1 => ?_⟩
    match vs, r1 with
    | [v, w], .cons r1 (.cons r2 .nil) => exact ⟨v, w, rfl, q m1 _ H1 E1 R1 (((E1.sr S).set r1).set r2)⟩
theorem ss_par3 {i j l : Nat} {x y z : Str} {a b c : Expr} {fa fb fc : Px.Env → M D} {px py pz pt pos : Pos} {kt k2 : Nat} {pt2 : Pos} (hc : X.calm = true) (hN : X.N.Nodup) (hi : X.N[i]? = some x) (hj : X.N[j]? = some y) (hl : X.N[l]? = some z) (hij : i ≠ j) (hil : i ≠ l) (hjl : j ≠ l)
    (hx : X.env.scope.names.lookup x = some .local) (hy : X.env.scope.names.lookup y = some .local) (hz : X.env.scope.names.lookup z = some .local) (sa : simple a = true) (sb : simple b = true) (sc : simple c = true) (ha : PE X a (tD X.K fa)) (hb : PE X b (tD X.K fb)) (hcc : PE X c (tD X.K fc))
    (hw : swappedStores [.Tuple [.Name x px, .Name y py, .Name z pz] kt pt] (.Tuple [a, b, c] k2 pt2) X.env = pure (some [x, y, z])) :
    PS X (.Assign [.Tuple [.Name x px, .Name y py, .Name z pz] kt pt] (.Tuple [a, b, c] k2 pt2) pos) (tS X.K fun ρ => do
      let x ← fa ρ
      let y ← fb ρ
      let z ← fc ρ
      pure (.nx, ((ρ.set i (some x)).set j (some y)).set l (some z))) :=
  wkS (ps_par3 hc hN hi hj hl hij hil hjl hx hy hz (sd_ar1 sa ha (sd_ar1 sb hb (sd_ar1 sc hcc sd_ar0))) hw rfl) fun D σ H ⟨m, ρ, h, r, h', R, S, e, q⟩ => by
    obtain ⟨d1, h1, e1, e⟩ := bnd_ok.mp e
    obtain ⟨d2, h2, e2, e⟩ := bnd_ok.mp e
    obtain ⟨d3, h3, e3, e⟩ := bnd_ok.mp e
    obtain ⟨rfl, rfl⟩ := pure_ok.mp e
    refine ⟨m, ρ, h, [d1, d2, d3], h3, R, S, bnd_ok.mpr ⟨d1, h1, e1, bnd_ok.mpr ⟨[d2, d3], h3, bnd_ok.mpr ⟨d2, h2, e2, bnd_ok.mpr ⟨[d3], h3, bnd_ok.mpr ⟨d3, h3, e3, bnd_ok.mpr ⟨[], h3, rfl, rfl⟩⟩, rfl⟩⟩, rfl⟩⟩, fun m1 vs H1 E1 R1 r1 => ?_⟩
    match vs, r1 with
    | [v, w, u], .cons r1 (.cons r2 (.cons r3 .nil)) => exact ⟨v, w, u, rfl, q m1 _ H1 E1 R1 ((((E1.sr S).set r1).set r2).set r3)⟩

/-! x[i] = e -/
/-- the store of a kept value by values -/
theorem set_step {o i : D} {ov iv v : V} {Q : Hp → Prop} {dv : PyData} (R : Rel K m h H) (ro : RD K m h.length ov o) (ri : RD K m h.length iv i) (rv : Rp K m.G v dv) (e : setAt o i (.p dv) h = .ok () h')
    (q : ∀ H', Ext m m h h' H H' → Rel K m h' H' → Q H') : rSetL ov iv v H Q := by
  obtain ⟨y, h1, e1, e⟩ := bnd_ok.mp e
  simp only [val, M.ret, Out.ok.injEq] at e1
  obtain ⟨rfl, rfl⟩ := e1
  obtain ⟨r, h2, e2, e⟩ := bnd_ok.mp e
  obtain ⟨rfl, l1, rfl⟩ := liv_ok e2
  obtain ⟨i1, h2, e3, e⟩ := bnd_ok.mp e
  obtain ⟨k3, rfl⟩ := rd_ok.mp e3
  obtain ⟨i2, h2, e4, e⟩ := bnd_ok.mp e
  obtain ⟨k4, rfl⟩ := opt_ok.mp e4
  obtain ⟨j, h2, e5, e⟩ := bnd_ok.mp e
  obtain ⟨k5, rfl⟩ := opt_ok.mp e5
  simp only [Px.put, Out.ok.injEq, true_and] at e
  subst e
  obtain ⟨hn, rfl⟩ := ro
  obtain ⟨g1, vs, g2, g3⟩ := R.liv _ _ l1
  cases i1 <;> simp only [intOf, reduceCtorEq, Option.some.injEq] at k4
  subst k4
  have ei := (R.drf ri k3).int
  obtain ⟨R2, E2⟩ := R.put l1 (g3.set j rv)
  exact ⟨_, vs, _, j, rfl, ei, g2, by rw [g3.len]; exact k5, q _ E2 R2⟩
theorem pg_ix {o i : Expr} {fo fi : Px.Env → M D} {pos : Pos} (ho : PE X o (tD X.K fo)) (hi : PE X i (tD X.K fi)) (hs : simple i = true) : PG X (.Subscript o i pos) (gSub (tD X.K fo) (tD X.K fi) rSetL) :=
  pg_sub ho hi set_list (by
    intro v
    cases i <;> first
      | rfl
      | (simp [simple] at hs))
theorem ss_ixs {o i e : Expr} {fo fi fe : Px.Env → M D} {tpos pos : Pos} (ho : PE X o (tD X.K fo)) (hi : PE X i (tD X.K fi)) (hs : simple i = true) (he : PE X e (tD X.K fe)) (hsw : swapsWith e (some (.Subscript o i tpos)) pos.line X.env = pure false) (hst : swappedStores [.Subscript o i tpos] e X.env = pure none) :
    PS X (.Assign [.Subscript o i tpos] e pos) (tS X.K fun ρ => do
      let d ← fe ρ
      let d ← val d
      let o ← fo ρ
      let i ← fi ρ
      setAt o i (.p d)
      pure (.nx, ρ)) :=
  wkS (ps_asg he (pg_ix ho hi hs) hsw hst rfl) fun D σ H ⟨m, ρ, h, r, h', R, S, e, q⟩ => by
    obtain ⟨d, h1, e1, e⟩ := bnd_ok.mp e
    obtain ⟨dv, h2, e2, e⟩ := bnd_ok.mp e
    obtain ⟨o1, h3, e3, e⟩ := bnd_ok.mp e
    obtain ⟨i1, h4, e4, e⟩ := bnd_ok.mp e
    obtain ⟨u, h5, e5, e⟩ := bnd_ok.mp e
    obtain ⟨rfl, rfl⟩ := pure_ok.mp e
    refine ⟨m, ρ, h, d, h1, R, S, e1, fun m1 v H1 E1 R1 r1 => ?_⟩
    obtain ⟨G', R2, E2, r2⟩ := R1.val r1 e2
    refine ⟨_, ρ, h2, o1, h3, R2, E2.sr (E1.sr S), e3, fun m3 ov H3 E3 R3 r3 => ⟨m3, ρ, h3, i1, h4, R3, E3.sr (E2.sr (E1.sr S)), e4, fun m4 iv H4 E4 R4 r4 => ?_⟩⟩
    refine set_step R4 (E4.rd r3) r4 (r2.mono (E3.g.trans E4.g)) e5 fun H5 E5 R5 => ?_
    have E6 := (((E1.trans R1 E2).trans R2 E3).trans R3 E4).trans R4 E5
    exact q m4 σ H5 E6 R5 (E6.sr S)
/-- x[i], y[j] = a, b -/
theorem ss_swp {o i o2 j a b : Expr} {fo fi fo2 fj fa fb : Px.Env → M D} {tp1 tp2 pt pt2 pos : Pos} {kt k2 : Nat} (hc : X.calm = true) (ho : PE X o (tD X.K fo)) (hi : PE X i (tD X.K fi)) (hs : simple i = true) (ho2 : PE X o2 (tD X.K fo2)) (hj : PE X j (tD X.K fj)) (hs2 : simple j = true)
    (sa : simple a = true) (sb : simple b = true) (ha : PE X a (tD X.K fa)) (hb : PE X b (tD X.K fb)) (hst : swappedStores [.Tuple [.Subscript o i tp1, .Subscript o2 j tp2] kt pt] (.Tuple [a, b] k2 pt2) X.env = pure none) :
    PS X (.Assign [.Tuple [.Subscript o i tp1, .Subscript o2 j tp2] kt pt] (.Tuple [a, b] k2 pt2) pos) (tS X.K fun ρ => do
      let d1 ← fa ρ
      let d1 ← val d1
      let d2 ← fb ρ
      let d2 ← val d2
      let o ← fo ρ
      let i ← fi ρ
      setAt o i (.p d1)
      let o2 ← fo2 ρ
      let j ← fj ρ
      setAt o2 j (.p d2)
      pure (.nx, ρ)) :=
  wkS (ps_asg (pe_tup (sd_vs1 sa ha (sd_vs1 sb hb sd_vs0))) (pg_tup hc (pgs_cons (pg_ix ho hi hs) (pgs_cons (pg_ix ho2 hj hs2) pgs_nil rfl) rfl) rfl rfl) rfl hst rfl) fun D σ H ⟨m, ρ, h, r, h', R, S, e, q⟩ => by
    obtain ⟨d1, h1, e1, e⟩ := bnd_ok.mp e
    obtain ⟨v1, h2, e2, e⟩ := bnd_ok.mp e
    obtain ⟨d2, h3, e3, e⟩ := bnd_ok.mp e
    obtain ⟨v2, h4, e4, e⟩ := bnd_ok.mp e
    obtain ⟨o1, h5, e5, e⟩ := bnd_ok.mp e
    obtain ⟨i1, h6, e6, e⟩ := bnd_ok.mp e
    obtain ⟨u1, h7, e7, e⟩ := bnd_ok.mp e
    obtain ⟨o3, h8, e8, e⟩ := bnd_ok.mp e
    obtain ⟨j1, h9, e9, e⟩ := bnd_ok.mp e
    obtain ⟨u2, h10, e10, e⟩ := bnd_ok.mp e
    obtain ⟨rfl, rfl⟩ := pure_ok.mp e
    refine ⟨m, ρ, h, [v1, v2], h4, R, S, bnd_ok.mpr ⟨d1, h1, e1, bnd_ok.mpr ⟨v1, h2, e2, bnd_ok.mpr ⟨[v2], h4, bnd_ok.mpr ⟨d2, h3, e3, bnd_ok.mpr ⟨v2, h4, e4, bnd_ok.mpr ⟨[], h4, rfl, rfl⟩⟩⟩, rfl⟩⟩⟩, fun m1 vs H1 E1 R1 r1 => ?_⟩
    match vs, r1 with
    | [w1, w2], .cons r1 (.cons r2 .nil) =>
      refine ⟨by show 2 ≤ sizeLine; decide, fun p hp => ?_⟩
      have N := New.upd (o := .tup [w1, w2]) R1.sub hp
      obtain ⟨R2, E2⟩ := R1.new N
      have E12 := E1.trans R1 E2
      refine ⟨p, _, rfl, SqT.of upd_same, rfl, w1, [w2], rfl, ?_⟩
      refine ⟨_, ρ, h4, o1, h5, R2, E12.sr S, e5, fun m3 ov H3 E3 R3 r3 => ⟨m3, ρ, h5, i1, h6, R3, E3.sr (E12.sr S), e6, fun m4 iv H4 E4 R4 r4 => ?_⟩⟩
      have E14 := (E12.trans R2 E3).trans R3 E4
      refine set_step R4 (E4.rd r3) r4 (r1.mono ((E2.g.trans E3.g).trans E4.g)) e7 fun H5 E5 R5 => ?_
      have E15 := E14.trans R4 E5
      refine ⟨w2, [], rfl, ?_⟩
      refine ⟨_, ρ, h7, o3, h8, R5, E15.sr S, e8, fun m6 ov2 H6 E6 R6 r6 => ⟨m6, ρ, h8, j1, h9, R6, E6.sr (E15.sr S), e9, fun m7 jv H7 E7 R7 r7 => ?_⟩⟩
      have E17 := (E15.trans R5 E6).trans R6 E7
      refine set_step R7 (E7.rd r6) r7 (r2.mono ((((E2.g.trans E3.g).trans E4.g).trans E5.g).trans (E6.g.trans E7.g))) e10 fun H8 E8 R8 => ?_
      have E18 := E17.trans R7 E8
      exact ⟨rfl, q m7 σ H8 E18 R8 (E18.sr S)⟩
/-! ### lists of lists -/
theorem ss_newN {i : Nat} {x : Str} {e : Expr} {f : Px.Env → M (List Px.D)} {pos pos' : Pos} (hN : X.N.Nodup) (hi : X.N[i]? = some x) (hx : Loc X.env.scope x) (hf : X.fn x = true ∨ X.env.scope.names.lookup x = some .local) (he : PE X e (tFn X.K f)) (hs : swapsWith e (some (.Name x pos')) pos.line X.env = pure false) :
    PS X (.Assign [.Name x pos'] e pos) (tS X.K fun ρ => do
      let xs ← f ρ
      let d ← newN xs
      pure (.nx, ρ.set i (some d))) :=
  wkS (ps_set hN hi hx he hs hf) fun D σ H hw => new_stepN hw
theorem RDL.set {n : Nat} : ∀ {v : List V} {d : List Px.D} (k : Nat) {y : V} {x : Px.D}, RD K m n y x → RDL K m n v d → RDL K m n (v.set k y) (d.set k x)
  | _, _, _, _, _, _, .nil => .nil
  | _, _, 0, _, _, k, .cons _ r => .cons k r
  | _, _, n + 1, _, _, k, .cons h r => .cons h (RDL.set n k r)
theorem set_stepN {o i d : Px.D} {ov iv v : V} {Q : Hp → Prop} (R : Rel K m h H) (ro : RD K m h.length ov o) (ri : RD K m h.length iv i) (rv : RD K m h.length v d) (e : setAtN o i d h = .ok () h')
    (q : ∀ H', Ext m m h h' H H' → Rel K m h' H' → Q H') : rSetL ov iv v H Q := by
  obtain ⟨r, h2, e2, e⟩ := bnd_ok.mp e
  obtain ⟨rfl, l1, rfl⟩ := livN_ok e2
  obtain ⟨i1, h2, e3, e⟩ := bnd_ok.mp e
  obtain ⟨k3, rfl⟩ := rd_ok.mp e3
  obtain ⟨i2, h2, e4, e⟩ := bnd_ok.mp e
  obtain ⟨k4, rfl⟩ := opt_ok.mp e4
  obtain ⟨j, h2, e5, e⟩ := bnd_ok.mp e
  obtain ⟨k5, rfl⟩ := opt_ok.mp e5
  simp only [Px.putN, Out.ok.injEq, true_and] at e
  subst e
  obtain ⟨hn, rfl⟩ := ro
  obtain ⟨g1, vs, g2, g3⟩ := R.nst _ _ l1
  cases i1 <;> simp only [intOf, reduceCtorEq, Option.some.injEq] at k4
  subst k4
  have ei := (R.drf ri k3).int
  obtain ⟨R2, E2⟩ := R.putN l1 (RDL.set j rv g3)
  exact ⟨_, vs, _, j, rfl, ei, g2, by rw [RDL.len g3]; exact k5, q _ E2 R2⟩
theorem ss_ixsF {o i e : Expr} {fo fi : Px.Env → M Px.D} {fe : Px.Env → M (List PyData)} {tpos pos : Pos} (ho : PE X o (tD X.K fo)) (hi : PE X i (tD X.K fi)) (hs : simple i = true) (he : PE X e (tFr X.K fe)) (hsw : swapsWith e (some (.Subscript o i tpos)) pos.line X.env = pure false) (hst : swappedStores [.Subscript o i tpos] e X.env = pure none) :
    PS X (.Assign [.Subscript o i tpos] e pos) (tS X.K fun ρ => do
      let xs ← fe ρ
      let d ← newL xs
      let o ← fo ρ
      let i ← fi ρ
      setAtN o i d
      pure (.nx, ρ)) :=
  wkS (ps_asg he (pg_ix ho hi hs) hsw hst rfl) fun D σ H ⟨m, ρ, h, r, h', R, S, e, q⟩ => by
    obtain ⟨xs, h1, e1, e⟩ := bnd_ok.mp e
    obtain ⟨dv, h2, e2, e⟩ := bnd_ok.mp e
    simp only [newL, Out.ok.injEq] at e2
    obtain ⟨rfl, rfl⟩ := e2
    obtain ⟨o1, h3, e3, e⟩ := bnd_ok.mp e
    obtain ⟨i1, h4, e4, e⟩ := bnd_ok.mp e
    obtain ⟨u, h5, e5, e⟩ := bnd_ok.mp e
    obtain ⟨rfl, rfl⟩ := pure_ok.mp e
    refine ⟨m, ρ, h, xs, h1, R, S, e1, fun m1 p vs H1 E1 R1 hp r1 g ne nw => ?_⟩
    have E2 := push_ext (ob := .lst xs) E1 nw
    have R2 := R1.push hp g r1 ne
    refine ⟨_, ρ, _, o1, h3, R2, E2.sr S, e3, fun m3 ov H3 E3 R3 r3 => ⟨m3, ρ, h3, i1, h4, R3, E3.sr (E2.sr S), e4, fun m4 iv H4 E4 R4 r4 => ?_⟩⟩
    refine set_stepN R4 (E4.rd r3) r4 (E4.rd (E3.rd push_rd)) e5 fun H5 E5 R5 => ?_
    have E6 := ((E2.trans R2 E3).trans R3 E4).trans R4 E5
    exact q m4 σ H5 E6 R5 (E6.sr S)
/-- x[i], y[j] = a, b of lists of lists -/
theorem ss_swn {o i o2 j a b : Expr} {fo fi fo2 fj fa fb : Px.Env → M Px.D} {tp1 tp2 pt pt2 pos : Pos} {kt k2 : Nat} (hc : X.calm = true) (ho : PE X o (tD X.K fo)) (hi : PE X i (tD X.K fi)) (hs : simple i = true) (ho2 : PE X o2 (tD X.K fo2)) (hj : PE X j (tD X.K fj)) (hs2 : simple j = true)
    (sa : simple a = true) (sb : simple b = true) (ha : PE X a (tD X.K fa)) (hb : PE X b (tD X.K fb)) (hst : swappedStores [.Tuple [.Subscript o i tp1, .Subscript o2 j tp2] kt pt] (.Tuple [a, b] k2 pt2) X.env = pure none) :
    PS X (.Assign [.Tuple [.Subscript o i tp1, .Subscript o2 j tp2] kt pt] (.Tuple [a, b] k2 pt2) pos) (tS X.K fun ρ => do
      let d1 ← fa ρ
      let d2 ← fb ρ
      let o ← fo ρ
      let i ← fi ρ
      setAtN o i d1
      let o2 ← fo2 ρ
      let j ← fj ρ
      setAtN o2 j d2
      pure (.nx, ρ)) :=
  wkS (ps_asg (pe_tup (sd_ar1 sa ha (sd_ar1 sb hb sd_ar0))) (pg_tup hc (pgs_cons (pg_ix ho hi hs) (pgs_cons (pg_ix ho2 hj hs2) pgs_nil rfl) rfl) rfl rfl) rfl hst rfl) fun D σ H ⟨m, ρ, h, r, h', R, S, e, q⟩ => by
    obtain ⟨d1, h2, e1, e⟩ := bnd_ok.mp e
    obtain ⟨d2, h4, e3, e⟩ := bnd_ok.mp e
    obtain ⟨o1, h5, e5, e⟩ := bnd_ok.mp e
    obtain ⟨i1, h6, e6, e⟩ := bnd_ok.mp e
    obtain ⟨u1, h7, e7, e⟩ := bnd_ok.mp e
    obtain ⟨o3, h8, e8, e⟩ := bnd_ok.mp e
    obtain ⟨j1, h9, e9, e⟩ := bnd_ok.mp e
    obtain ⟨u2, h10, e10, e⟩ := bnd_ok.mp e
    obtain ⟨rfl, rfl⟩ := pure_ok.mp e
    refine ⟨m, ρ, h, [d1, d2], h4, R, S, bnd_ok.mpr ⟨d1, h2, e1, bnd_ok.mpr ⟨[d2], h4, bnd_ok.mpr ⟨d2, h4, e3, bnd_ok.mpr ⟨[], h4, rfl, rfl⟩⟩, rfl⟩⟩, fun m1 vs H1 E1 R1 r1 => ?_⟩
    match vs, r1 with
    | [w1, w2], .cons r1 (.cons r2 .nil) =>
      refine ⟨by show 2 ≤ sizeLine; decide, fun p hp => ?_⟩
      have N := New.upd (o := .tup [w1, w2]) R1.sub hp
      obtain ⟨R2, E2⟩ := R1.new N
      have E12 := E1.trans R1 E2
      refine ⟨p, _, rfl, SqT.of upd_same, rfl, w1, [w2], rfl, ?_⟩
      refine ⟨_, ρ, h4, o1, h5, R2, E12.sr S, e5, fun m3 ov H3 E3 R3 r3 => ⟨m3, ρ, h5, i1, h6, R3, E3.sr (E12.sr S), e6, fun m4 iv H4 E4 R4 r4 => ?_⟩⟩
      have E14 := (E12.trans R2 E3).trans R3 E4
      refine set_stepN R4 (E4.rd r3) r4 (E4.rd (E3.rd (E2.rd r1))) e7 fun H5 E5 R5 => ?_
      have E15 := E14.trans R4 E5
      refine ⟨w2, [], rfl, ?_⟩
      refine ⟨_, ρ, h7, o3, h8, R5, E15.sr S, e8, fun m6 ov2 H6 E6 R6 r6 => ⟨m6, ρ, h8, j1, h9, R6, E6.sr (E15.sr S), e9, fun m7 jv H7 E7 R7 r7 => ?_⟩⟩
      have E17 := (E15.trans R5 E6).trans R6 E7
      refine set_stepN R7 (E7.rd r6) r7 (E7.rd (E6.rd (E5.rd (E4.rd (E3.rd (E2.rd r2)))))) e10 fun H8 E8 R8 => ?_
      have E18 := E17.trans R7 E8
      exact ⟨rfl, q m7 σ H8 E18 R8 (E18.sr S)⟩
/-- x.append(e), a new list -/
theorem ss_appF {x : Str} {e : Expr} {fo : Px.Env → M Px.D} {fe : Px.Env → M (List PyData)} {p apos cpos pos : Pos} (hl : (apos.endLine == cpos.line) = true) (ho : PE X (.Name x p) (tD X.K fo)) (hs : simple e = true) (he : PE X e (tFr X.K fe)) :
    PS X (.Expr (.Call (.Attribute (.Name x p) "append" apos) [e] [] cpos) pos) (tS X.K fun ρ => do
      let o ← fo ρ
      let xs ← fe ρ
      let d ← newL xs
      let r ← livN o
      if r.2.length < 2 ^ 23 then
        Px.putN r.1 (r.2 ++ [d])
        pure (.nx, ρ)
      else M.no) :=
  wkS (ps_expr (pe_bm PySem.F.plainAttrs_list PySem.F.slot_list_append PySem.F.type_list_append mt_append ho (pa_cons he pa_nil (star_cons hs)) rfl (by rw [star_cons hs]; rfl) hl (star_cons hs) rfl) rfl) fun D σ H ⟨m, ρ, h, r, h', R, S, e, q⟩ => by
    obtain ⟨o1, h1, e1, e⟩ := bnd_ok.mp e
    obtain ⟨xs, h2, e2, e⟩ := bnd_ok.mp e
    obtain ⟨dv, h3, e3, e⟩ := bnd_ok.mp e
    simp only [newL, Out.ok.injEq] at e3
    obtain ⟨rfl, rfl⟩ := e3
    obtain ⟨l, h4, e4, e⟩ := bnd_ok.mp e
    obtain ⟨rfl, l1, rfl⟩ := livN_ok e4
    rw [ite_ok] at e
    split at e
    case isFalse => exact (no_ok.mp e).elim
    rename_i hlen
    obtain ⟨u, h5, e5, e⟩ := bnd_ok.mp e
    obtain ⟨rfl, rfl⟩ := pure_ok.mp e
    simp only [Px.putN, Out.ok.injEq, true_and] at e5
    subst e5
    refine ⟨m, ρ, h, _, h1, R, S, e1, fun m1 v H1 E1 R1 r1 => ?_⟩
    have tr : ∃ o, H1 (m1.io l.1) = some o ∧ ∃ vs, o = .lst vs := by
      obtain ⟨hn, _⟩ := r1
      cases q : h1[l.1] with
      | lst ys =>
        obtain ⟨_, vs, k, _⟩ := R1.liv l.1 ys (by rw [List.getElem?_eq_getElem hn, q])
        exact ⟨_, k, vs, rfl⟩
      | frz ys =>
        obtain ⟨vs, k, _⟩ := R1.frz l.1 ys (by rw [List.getElem?_eq_getElem hn, q])
        exact ⟨_, R1.sub _ _ k, vs, rfl⟩
      | nst ys =>
        obtain ⟨_, vs, k, _⟩ := R1.nst l.1 ys (by rw [List.getElem?_eq_getElem hn, q])
        exact ⟨_, k, vs, rfl⟩
    obtain ⟨o, k1, vs0, rfl⟩ := tr
    obtain ⟨hn, rfl⟩ := r1
    refine ⟨.inl ⟨rfl, vs0, SqL.of k1⟩, ⟨m1, ρ, h1, xs, h2, R1, E1.sr S, e2, fun m2 p vs2 H2 E2 R2 hp r2 g ne nw => ?_⟩⟩
    have E3 := push_ext (ob := .lst xs) E2 nw
    have R3 := R2.push hp g r2 ne
    obtain ⟨g1, vs, g2, g3⟩ := R3.nst _ _ l1
    have app : RDL X.K { m2 with io := fun n => if n < h2.length then m2.io n else p } (h2 ++ [Px.O.lst xs]).length (vs ++ [.ref p]) (l.2 ++ [.r h2.length]) := by
      have key : ∀ {vs ws : List V} {ds es : List Px.D} {n : Nat} {m : Wd}, RDL X.K m n vs ds → RDL X.K m n ws es → RDL X.K m n (vs ++ ws) (ds ++ es) := fun {vs ws ds es n m} a b => by
        induction a with
        | nil => exact b
        | cons x _ ih => exact .cons x ih
      exact key g3 (.cons push_rd .nil)
    obtain ⟨R4, E4⟩ := R3.putN l1 app
    have E5 := (E1.trans R1 E3).trans R3 E4
    have io2 : (if l.1 < h2.length then m2.io l.1 else p) = m1.io l.1 := E3.io _ hn
    have g2 : H2 (if l.1 < h2.length then m2.io l.1 else p) = some (.lst vs) := g2
    have R4 : Rel X.K _ _ (upd H2 (if l.1 < h2.length then m2.io l.1 else p) (.lst (vs ++ [.ref p]))) := R4
    refine ⟨m1.io l.1, vs, .ref p, rfl, rfl, by rw [← io2]; exact g2, by rw [RDL.len g3]; have := line_ok; omega, ?_⟩
    rw [← io2]
    exact q _ σ _ E5 R4 (E5.sr S)
/-- x.append(e) -/
theorem ss_app {x : Str} {e : Expr} {fo fe : Px.Env → M D} {p apos cpos pos : Pos} (hl : (apos.endLine == cpos.line) = true) (ho : PE X (.Name x p) (tD X.K fo)) (hs : simple e = true) (he : PE X e (tD X.K fe)) :
    PS X (.Expr (.Call (.Attribute (.Name x p) "append" apos) [e] [] cpos) pos) (tS X.K fun ρ => do
      let o ← fo ρ
      let d ← fe ρ
      let d ← val d
      let r ← liv o
      if r.2.length < 2 ^ 23 then
        Px.put r.1 (r.2 ++ [d])
        pure (.nx, ρ)
      else M.no) :=
  wkS (ps_expr (pe_bm PySem.F.plainAttrs_list PySem.F.slot_list_append PySem.F.type_list_append mt_append ho (pa_cons he pa_nil (star_cons hs)) rfl (by rw [star_cons hs]; rfl) hl (star_cons hs) rfl) rfl) fun D σ H ⟨m, ρ, h, r, h', R, S, e, q⟩ => by
    obtain ⟨o1, h1, e1, e⟩ := bnd_ok.mp e
    obtain ⟨d1, h2, e2, e⟩ := bnd_ok.mp e
    obtain ⟨dv, h3, e3, e⟩ := bnd_ok.mp e
    obtain ⟨l, h4, e4, e⟩ := bnd_ok.mp e
    obtain ⟨rfl, l1, rfl⟩ := liv_ok e4
    rw [ite_ok] at e
    split at e
    case isFalse => exact (no_ok.mp e).elim
    rename_i hlen
    obtain ⟨u, h5, e5, e⟩ := bnd_ok.mp e
    obtain ⟨rfl, rfl⟩ := pure_ok.mp e
    simp only [Px.put, Out.ok.injEq, true_and] at e5
    subst e5
    refine ⟨m, ρ, h, _, h1, R, S, e1, fun m1 v H1 E1 R1 r1 => ?_⟩
    have tr : ∃ o, H1 (m1.io l.1) = some o ∧ ∃ vs, o = .lst vs := by
      obtain ⟨hn, _⟩ := r1
      cases q : h1[l.1] with
      | lst ys =>
        obtain ⟨_, vs, k, _⟩ := R1.liv l.1 ys (by rw [List.getElem?_eq_getElem hn, q])
        exact ⟨_, k, vs, rfl⟩
      | frz ys =>
        obtain ⟨vs, k, _⟩ := R1.frz l.1 ys (by rw [List.getElem?_eq_getElem hn, q])
        exact ⟨_, R1.sub _ _ k, vs, rfl⟩
      | nst ys =>
        obtain ⟨_, vs, k, _⟩ := R1.nst l.1 ys (by rw [List.getElem?_eq_getElem hn, q])
        exact ⟨_, k, vs, rfl⟩
    obtain ⟨o, k1, vs0, rfl⟩ := tr
    obtain ⟨hn, rfl⟩ := r1
    refine ⟨.inl ⟨rfl, vs0, SqL.of k1⟩, ⟨m1, ρ, h1, d1, h2, R1, E1.sr S, e2, fun m2 v H2 E2 R2 r2 => ?_⟩⟩
    obtain ⟨G', R3, E3, r3⟩ := R2.val r2 e3
    obtain ⟨g1, vs, g2, g3⟩ := R3.liv _ _ l1
    obtain ⟨R4, E4⟩ := R3.put l1 (g3.append (.cons r3 .nil))
    have E5 := ((E1.trans R1 E2).trans R2 E3).trans R3 E4
    have io2 : m2.io l.1 = m1.io l.1 := E2.io _ hn
    have g2 : H2 (m2.io l.1) = some (.lst vs) := g2
    have R4 : Rel X.K { m2 with G := G' } _ (upd H2 (m2.io l.1) (.lst (vs ++ [v]))) := R4
    refine ⟨m1.io l.1, vs, v, rfl, rfl, by rw [← io2]; exact g2, by rw [g3.len]; have := line_ok; omega, ?_⟩
    rw [← io2]
    exact q _ σ _ E5 R4 (E5.sr S)
/-- x.extend(e) -/
theorem ss_ext {x : Str} {e : Expr} {fo fe : Px.Env → M D} {p apos cpos pos : Pos} (hl : (apos.endLine == cpos.line) = true) (ho : PE X (.Name x p) (tD X.K fo)) (hs : simple e = true) (he : PE X e (tD X.K fe)) :
    PS X (.Expr (.Call (.Attribute (.Name x p) "extend" apos) [e] [] cpos) pos) (tS X.K fun ρ => do
      let o ← fo ρ
      let d ← fe ρ
      let d ← val d
      let ys ← M.opt (lstOf d)
      let r ← liv o
      if r.2.length + ys.length ≤ 1000000 then
        Px.put r.1 (r.2 ++ ys)
        pure (.nx, ρ)
      else M.no) :=
  wkS (ps_expr (pe_bm PySem.F.plainAttrs_list PySem.F.slot_list_extend PySem.F.type_list_extend mt_extendB ho (pa_cons he pa_nil (star_cons hs)) rfl (by rw [star_cons hs]; rfl) hl (star_cons hs) rfl) rfl) fun D σ H ⟨m, ρ, h, r, h', R, S, e, q⟩ => by
    obtain ⟨o1, h1, e1, e⟩ := bnd_ok.mp e
    obtain ⟨d1, h2, e2, e⟩ := bnd_ok.mp e
    obtain ⟨dv, h3, e3, e⟩ := bnd_ok.mp e
    obtain ⟨ys, h4, e6, e⟩ := bnd_ok.mp e
    obtain ⟨k6, rfl⟩ := opt_ok.mp e6
    obtain ⟨l, h4, e4, e⟩ := bnd_ok.mp e
    obtain ⟨rfl, l1, rfl⟩ := liv_ok e4
    rw [ite_ok] at e
    split at e
    case isFalse => exact (no_ok.mp e).elim
    rename_i hlen
    obtain ⟨u, h5, e5, e⟩ := bnd_ok.mp e
    obtain ⟨rfl, rfl⟩ := pure_ok.mp e
    simp only [Px.put, Out.ok.injEq, true_and] at e5
    subst e5
    refine ⟨m, ρ, h, _, h1, R, S, e1, fun m1 v H1 E1 R1 r1 => ?_⟩
    have tr : ∃ o, H1 (m1.io l.1) = some o ∧ ∃ vs, o = .lst vs := by
      obtain ⟨hn, _⟩ := r1
      cases q : h1[l.1] with
      | lst ys =>
        obtain ⟨_, vs, k, _⟩ := R1.liv l.1 ys (by rw [List.getElem?_eq_getElem hn, q])
        exact ⟨_, k, vs, rfl⟩
      | frz ys =>
        obtain ⟨vs, k, _⟩ := R1.frz l.1 ys (by rw [List.getElem?_eq_getElem hn, q])
        exact ⟨_, R1.sub _ _ k, vs, rfl⟩
      | nst ys =>
        obtain ⟨_, vs, k, _⟩ := R1.nst l.1 ys (by rw [List.getElem?_eq_getElem hn, q])
        exact ⟨_, k, vs, rfl⟩
    obtain ⟨o, k1, vs0, rfl⟩ := tr
    obtain ⟨hn, rfl⟩ := r1
    refine ⟨.inl ⟨rfl, vs0, SqL.of k1⟩, ⟨m1, ρ, h1, d1, h2, R1, E1.sr S, e2, fun m2 v H2 E2 R2 r2 => ?_⟩⟩
    obtain ⟨G', R3, E3, r3⟩ := R2.val r2 e3
    obtain ⟨g1, vs, g2, g3⟩ := R3.liv _ _ l1
    have key : ∃ b2 ws, v = .ref b2 ∧ (G' b2 = some (.lst ws) ∨ SqT X.K G' b2 ws) ∧ RpL X.K G' ws ys := by
      cases dv <;> simp only [lstOf, reduceCtorEq, Option.some.injEq] at k6
      · subst k6
        obtain ⟨b2, ws, rfl, w1, w2⟩ := (show Rt X.K G' G' v (.list _) from .inl r3).lst (Sub.refl _)
        exact ⟨b2, ws, rfl, .inl w1, w2⟩
      · subst k6
        obtain ⟨b2, ws, rfl, w1, w2⟩ := (show Rt X.K G' G' v (.tuple _) from .inl r3).tup
        exact ⟨b2, ws, rfl, .inr w1, w2⟩
    obtain ⟨b2, ws, rfl, w1, w2⟩ := key
    obtain ⟨R4, E4⟩ := R3.put l1 (g3.append w2)
    have E5 := ((E1.trans R1 E2).trans R2 E3).trans R3 E4
    have io2 : m2.io l.1 = m1.io l.1 := E2.io _ hn
    have g2 : H2 (m2.io l.1) = some (.lst vs) := g2
    have R4 : Rel X.K { m2 with G := G' } _ (upd H2 (m2.io l.1) (.lst (vs ++ ws))) := R4
    refine ⟨m1.io l.1, b2, vs, ws, rfl, rfl, by rw [← io2]; exact g2, w1.imp (R3.sub _ _) R3.sub.sqT, by rw [g3.len, w2.len]; have := line_ok; omega, ?_⟩
    rw [← io2]
    exact q _ σ _ E5 R4 (E5.sr S)
/-- x.insert(i, e) -/
theorem ss_ins {x : Str} {a b : Expr} {fo fi fe : Px.Env → M D} {p apos cpos pos : Pos} (hl : (apos.endLine == cpos.line) = true) (ho : PE X (.Name x p) (tD X.K fo)) (hs : simple a = true) (hs2 : simple b = true) (hi : PE X a (tD X.K fi)) (he : PE X b (tD X.K fe)) :
    PS X (.Expr (.Call (.Attribute (.Name x p) "insert" apos) [a, b] [] cpos) pos) (tS X.K fun ρ => do
      let o ← fo ρ
      let y ← fi ρ
      let d ← fe ρ
      let d ← val d
      let y ← rd y
      let i ← M.opt (intOf y)
      let r ← liv o
      if r.2.length < 2 ^ 23 ∧ 0 ≤ i ∧ i < 2 ^ 63 then
        Px.put r.1 (r.2.take i.toNat ++ [d] ++ r.2.drop i.toNat)
        pure (.nx, ρ)
      else M.no) :=
  wkS (ps_expr (pe_bm PySem.F.plainAttrs_list PySem.F.slot_list_insert PySem.F.type_list_insert mt_insert ho (pa_cons hi (pa_cons he pa_nil (star_cons hs2)) ((star_cons hs).trans (by first | (rw [star_cons hs2]; done) | (rw [star_cons hs2]; rfl)))) rfl (by rw [star_cons hs, star_cons hs2]; rfl) hl (star_cons hs) (by rw [star_cons hs2]; rfl)) rfl) fun D σ H ⟨m, ρ, h, r, h', R, S, e, q⟩ => by
    obtain ⟨o1, h1, e1, e⟩ := bnd_ok.mp e
    obtain ⟨y, h2, e2, e⟩ := bnd_ok.mp e
    obtain ⟨d1, h3, e3, e⟩ := bnd_ok.mp e
    obtain ⟨dv, h4, e4, e⟩ := bnd_ok.mp e
    obtain ⟨y', h5, e5, e⟩ := bnd_ok.mp e
    obtain ⟨k5, rfl⟩ := rd_ok.mp e5
    obtain ⟨i, h5, e6, e⟩ := bnd_ok.mp e
    obtain ⟨k6, rfl⟩ := opt_ok.mp e6
    obtain ⟨l, h5, e7, e⟩ := bnd_ok.mp e
    obtain ⟨rfl, l1, rfl⟩ := liv_ok e7
    rw [ite_ok] at e
    split at e
    case isFalse => exact (no_ok.mp e).elim
    rename_i hb
    obtain ⟨u, h5, e8, e⟩ := bnd_ok.mp e
    obtain ⟨rfl, rfl⟩ := pure_ok.mp e
    simp only [Px.put, Out.ok.injEq, true_and] at e8
    subst e8
    refine ⟨m, ρ, h, _, h1, R, S, e1, fun m1 v H1 E1 R1 r1 => ?_⟩
    obtain ⟨hn, rfl⟩ := r1
    obtain ⟨vs0, k1⟩ := R1.isL hn
    refine ⟨.inl ⟨rfl, vs0, SqL.of k1⟩, ⟨m1, ρ, h1, y, h2, R1, E1.sr S, e2, fun m2 v2 H2 E2 R2 r2 => ⟨m2, ρ, h2, d1, h3, R2, E2.sr (E1.sr S), e3, fun m3 v3 H3 E3 R3 r3 => ?_⟩⟩⟩
    obtain ⟨G', R4, E4, r4⟩ := R3.val r3 e4
    obtain ⟨g1, vs, g2, g3⟩ := R4.liv _ _ l1
    have g2 : H3 (m3.io l.1) = some (.lst vs) := g2
    obtain ⟨R5, E5⟩ := R4.put l1 (((g3.take i.toNat).append (.cons r4 .nil)).append (g3.drop i.toNat))
    have E6 := (((E1.trans R1 E2).trans R2 E3).trans R3 E4).trans R4 E5
    have io2 : m3.io l.1 = m1.io l.1 := (E3.io _ (Nat.lt_of_lt_of_le hn E2.len)).trans (E2.io _ hn)
    cases y' <;> simp only [intOf, reduceCtorEq, Option.some.injEq] at k6
    subst k6
    refine ⟨m1.io l.1, vs, _, v3, rfl, by rw [(R4.drf (E4.rd (E3.rd r2)) k5).int], by rw [← io2]; exact g2, by rw [g3.len]; exact Nat.lt_of_lt_of_le hb.1 line_ok, hb.2.1, hb.2.2, ?_⟩
    rw [← io2]
    exact q _ σ _ E6 R5 (E6.sr S)
theorem ss_rvs {x : Str} {fo : Px.Env → M D} {p apos cpos pos : Pos} (hl : (apos.endLine == cpos.line) = true) (ho : PE X (.Name x p) (tD X.K fo)) :
    PS X (.Expr (.Call (.Attribute (.Name x p) "reverse" apos) [] [] cpos) pos) (tS X.K fun ρ => do
      let o ← fo ρ
      let r ← liv o
      Px.put r.1 r.2.reverse
      pure (.nx, ρ)) :=
  wkS (ps_expr (pe_bm0 PySem.F.plainAttrs_list PySem.F.slot_list_reverse PySem.F.type_list_reverse mt_reverse ho rfl hl) rfl) fun D σ H ⟨m, ρ, h, r, h', R, S, e, q⟩ => by
    obtain ⟨o1, h1, e1, e⟩ := bnd_ok.mp e
    obtain ⟨l, h2, e2, e⟩ := bnd_ok.mp e
    obtain ⟨rfl, l1, rfl⟩ := liv_ok e2
    obtain ⟨u, h5, e8, e⟩ := bnd_ok.mp e
    obtain ⟨rfl, rfl⟩ := pure_ok.mp e
    simp only [Px.put, Out.ok.injEq, true_and] at e8
    subst e8
    refine ⟨m, ρ, h, _, _, R, S, e1, fun m1 v H1 E1 R1 r1 => ?_⟩
    obtain ⟨hn, rfl⟩ := r1
    obtain ⟨g1, vs, g2, g3⟩ := R1.liv _ _ l1
    obtain ⟨R5, E5⟩ := R1.put l1 g3.reverse
    refine ⟨.inl ⟨rfl, vs, SqL.of g2⟩, m1.io l.1, vs, rfl, rfl, g2, ?_⟩
    exact q _ σ _ (E1.trans R1 E5) R5 ((E1.trans R1 E5).sr S)
/-- a, b = x, x a tuple of handles -/
theorem set_ns {n : Nat} {Q : L2.St → Hp → Prop} : ∀ {is : List Nat} {ds : List D} {vs : List V} {σ : L2.St} {ρ ρ1 : Px.Env}, setAll is ds ρ = some ρ1 → RDL K m n vs ds → SR K m n σ ρ → (∀ σ1, SR K m n σ1 ρ1 → Q σ1 H) → gNs is vs σ H Q
  | [], [], _, σ, ρ, ρ1, e, .nil, S, q => by
    simp only [setAll, Option.some.injEq] at e
    subst e
    exact ⟨rfl, q σ S⟩
  | [], _ :: _, _, _, _, _, e, _, _, _ => by simp [setAll] at e
  | _ :: _, [], _, _, _, _, e, _, _, _ => by simp [setAll] at e
  | i :: is, d :: ds, _, σ, ρ, ρ1, e, .cons r rs, S, q => by
    simp only [setAll] at e
    exact ⟨_, _, rfl, set_ns e rs (S.set r) q⟩
theorem setAll_len : ∀ {is : List Nat} {ds : List D} {ρ ρ1 : Px.Env}, setAll is ds ρ = some ρ1 → ds.length = is.length
  | [], [], _, _, _ => rfl
  | [], _ :: _, _, _, e => by simp [setAll] at e
  | _ :: _, [], _, _, e => by simp [setAll] at e
  | i :: is, d :: ds, _, _, e => by
    simp only [setAll] at e
    simp [setAll_len e]
theorem ss_setP {is : List Nat} {tg e : Expr} {f : Px.Env → M D} {pos : Pos} (hg : PG X tg (gT X.K is true)) (he : PE X e (tD X.K f)) (hs : swapsWithSole [tg] e pos.line X.env = pure false) (hw : swappedStores [tg] e X.env = pure none)
    (h1 : (assignEach [tg] X.env).map (·.2) = [assign tg X.env]) : PS X (.Assign [tg] e pos) (tS X.K fun ρ => do
      let d ← f ρ
      let ds ← livP d
      let ρ1 ← M.opt (setAll is ds ρ)
      pure (.nx, ρ1)) :=
  wkS (ps_asg he hg hs hw h1) fun D σ H ⟨m, ρ, h, r, h', R, S, e, q⟩ => by
    obtain ⟨d, h1, e1, e⟩ := bnd_ok.mp e
    obtain ⟨ds, h2, e2, e⟩ := bnd_ok.mp e
    obtain ⟨xs, rfl, rfl, rfl⟩ := livP_ok e2
    obtain ⟨ρ1, h2, e3, e⟩ := bnd_ok.mp e
    obtain ⟨k3, rfl⟩ := opt_ok.mp e3
    obtain ⟨rfl, rfl⟩ := pure_ok.mp e
    refine ⟨m, ρ, h, _, h1, R, S, e1, fun m1 v H1 E1 R1 r1 => ?_⟩
    obtain ⟨a, vs, rfl, g2, g3⟩ := r1
    show gTup X.K is.length (gNs is) _ σ H1 _
    exact ⟨a, vs, rfl, R1.sub.sqT g2, (RDL.len g3.rd).trans (setAll_len k3), set_ns k3 g3.rd (E1.sr S) fun σ1 S1 => q m1 σ1 H1 E1 R1 S1⟩
end
end Px

set_option maxHeartbeats 4000000
/-! Px13: loops; every statement. -/
namespace Px
open PySem PySem.Spec PyProof.Rows L2
section
variable {X : Cx} {K : PySem.W.Frag} {m m' : Wd} {h h' : List O} {H H' : Hp}
theorem ss_for {is : List Nat} {tp : Bool} {tg iter : Expr} {body : List Stmt} {fi : Px.Env → M (List PyData)} {fb : Px.Env → M (Fl × Px.Env)} {pos : Pos} (hp : PassesOwn (model X.prog X.w) X.A X.env X.xe) (hc : X.calm = true) (hi : PI X tg iter (tIt X.K fi)) (hg : PG X tg (gT X.K is tp))
    (hb : PSs X body (tS X.K fb)) (hs : ∀ x, foldedSetIterable iter X.env x = pure x) : PS X (.For tg iter body [] pos) (tS X.K fun ρ => do
      let xs ← fi ρ
      loopF is tp fb xs ρ) :=
  wkS (ps_for hp hc hi hg hb hs) fun D σ H ⟨m, ρ, h, r, h', R, S, e, q⟩ => by
    obtain ⟨xs, h1, e1, e⟩ := bnd_ok.mp e
    refine ⟨m, ρ, h, xs, h1, R, S, e1, fun m1 J H1 E1 R1 yl => ?_⟩
    let St : Nat → L2.St → Hp → Prop := fun i σ Hc => ∃ mi ρi hi, i ≤ xs.length ∧ Ext m1 mi h1 hi H1 Hc ∧ Rel X.K mi hi Hc ∧ SR X.K mi hi.length σ ρi ∧ loopF is tp fb (xs.drop i) ρi hi = .ok r h'
    refine ⟨fun i mm σ Hc => mm = xs.length - i ∧ St i σ Hc, ⟨xs.length, by simp, m1, ρ, h1, Nat.zero_le _, Ext.refl _ _ _, R1, E1.sr S, by simpa using e⟩, fun i mm σi Hc hW => ?_⟩
    obtain ⟨rfl, mi, ρi, hi', hle, E2, R2, S2, ec⟩ := hW
    obtain ⟨y1, y2, y3⟩ := yl i Hc (E2.g.trans R2.sub)
    by_cases hlt : i < xs.length
    · refine .inr ⟨y1 hlt, St (i + 1), fun σ' H' w => ⟨xs.length - (i + 1), by omega, rfl, w⟩, fun x H' hy => ?_⟩
      obtain ⟨G3, N3, r3⟩ := y3 mi.G x H' _ (List.getElem?_eq_getElem hlt) E2.g R2.sub hy
      obtain ⟨R3, E3⟩ := R2.new N3
      rw [List.drop_eq_getElem_cons hlt] at ec
      obtain ⟨ρ1, h3, f1, ec⟩ := bnd_ok.mp ec
      obtain ⟨f0, rfl⟩ := opt_ok.mp f1
      refine bind_gt (m := { mi with G := G3 }) R3.sub f0 r3 (E3.sr S2) fun σ1 S4 _ => ?_
      obtain ⟨⟨fl, ρ2⟩, h4, f2, ec⟩ := bnd_ok.mp ec
      refine ⟨_, ρ1, hi', (fl, ρ2), h4, R3, S4, f2, fun m4 σ4 H4 E4 R4 S5 => ?_⟩
      have E24 := (E2.trans R2 E3).trans R3 E4
      cases fl with
      | nx => exact ⟨m4, ρ2, h4, hlt, E24, R4, S5, ec⟩
      | ct => exact ⟨m4, ρ2, h4, hlt, E24, R4, S5, ec⟩
      | bk =>
        obtain ⟨rfl, rfl⟩ := pure_ok.mp ec
        exact q m4 σ4 H4 (E1.trans R1 E24) R4 S5
      | rt d =>
        obtain ⟨rfl, rfl⟩ := pure_ok.mp ec
        exact q m4 σ4 H4 (E1.trans R1 E24) R4 S5
      | ex x =>
        obtain ⟨rfl, rfl⟩ := pure_ok.mp ec
        exact q m4 σ4 H4 (E1.trans R1 E24) R4 S5
    · have hi2 : i = xs.length := by omega
      refine .inl ⟨y2 hi2, ?_⟩
      subst hi2
      rw [List.drop_length] at ec
      obtain ⟨rfl, rfl⟩ := pure_ok.mp (show (pure (Fl.nx, ρi) : M (Fl × Px.Env)) hi' = _ from ec)
      exact q mi σi Hc (E1.trans R1 E2) R2 S2
/-- along the handles that a list holds -/
theorem ss_forN {i : Nat} {x : Str} {iter : Expr} {body : List Stmt} {fo : Px.Env → M D} {fb : Px.Env → M (Fl × Px.Env)} {p pos : Pos} (hp : PassesOwn (model X.prog X.w) X.A X.env X.xe) (hc : X.calm = true) (hN : X.N.Nodup) (hi : X.N[i]? = some x) (hx : Loc X.env.scope x) (hf : X.fn x = true ∨ X.env.scope.names.lookup x = some .local)
    (ho : PE X iter (tD X.K fo)) (hb : PSs X body (tS X.K fb)) (hs : ∀ x, foldedSetIterable iter X.env x = pure x) : PS X (.For (.Name x p) iter body [] pos) (tS X.K fun ρ => do
      let o ← fo ρ
      let r ← livN o
      loopN i o fb r.2.length 0 ρ) :=
  wkS (ps_for hp hc (pi_list ho) (pg_name hN hi hx hf) hb hs) fun D σ H ⟨m, ρ, h, r, h', R, S, e, q⟩ => by
    obtain ⟨o, h1, e1, e⟩ := bnd_ok.mp e
    obtain ⟨⟨n0, zs⟩, h2, e2, e⟩ := bnd_ok.mp e
    obtain ⟨rfl, l1, rfl⟩ := livN_ok e2
    dsimp only at l1 e
    refine ⟨m, ρ, h, _, h1, R, S, e1, fun m1 v H1 E1 R1 r1 => ?_⟩
    obtain ⟨hn, rfl⟩ := r1
    obtain ⟨_, vs0, k1, _⟩ := R1.nst _ _ l1
    let St : Nat → L2.St → Hp → Prop := fun j σ Hc => ∃ mi ρi hi, j ≤ zs.length ∧ Ext m1 mi h1 hi H1 Hc ∧ Rel X.K mi hi Hc ∧ SR X.K mi hi.length σ ρi ∧ loopN i (.r n0) fb (zs.length - j) j ρi hi = .ok r h'
    refine ⟨m1.io n0, rfl, ⟨vs0, SqL.of k1⟩, fun j mm σ Hc => mm = zs.length - j ∧ St j σ Hc, ⟨zs.length, by simp, m1, ρ, h1, Nat.zero_le _, Ext.refl _ _ _, R1, E1.sr S, by simpa using e⟩, fun j mm σi Hc hW => ?_⟩
    obtain ⟨rfl, mi, ρi, hi', hle, E2, R2, S2, ec⟩ := hW
    have io2 : mi.io n0 = m1.io n0 := E2.io _ hn
    by_cases hlt : j < zs.length
    · obtain ⟨z, hz⟩ : ∃ z, zs.length - j = z + 1 := ⟨zs.length - j - 1, by omega⟩
      rw [hz] at ec
      obtain ⟨⟨n1, ys⟩, h3, f1, ec⟩ := bnd_ok.mp ec
      obtain ⟨k2, l2, rfl⟩ := livN_ok f1
      have hn1 : n0 = n1 := by cases k2; rfl
      subst hn1
      dsimp only at l2 ec
      obtain ⟨d, h3, f2, ec⟩ := bnd_ok.mp ec
      obtain ⟨k3, rfl⟩ := opt_ok.mp f2
      obtain ⟨_, vs, g2, g3⟩ := R2.nst _ _ l2
      rw [io2] at g2
      obtain ⟨w, e4, e5⟩ := g3.get k3
      refine .inr ⟨⟨vs, w, SqL.of g2, e4⟩, St (j + 1), fun σ' H' w => ⟨zs.length - (j + 1), by omega, rfl, w⟩, fun x H' hy => ?_⟩
      obtain ⟨rfl, hy⟩ := hy
      have ew := hy vs (SqL.of g2)
      rw [e4] at ew
      cases ew
      obtain ⟨⟨fl, ρ2⟩, h4, f3, ec⟩ := bnd_ok.mp ec
      refine ⟨_, ρi.set i (some d), _, (fl, ρ2), h4, R2, S2.set e5, f3, fun m4 σ4 H4 E4 R4 S5 => ?_⟩
      have E24 := E2.trans R2 E4
      cases fl with
      | nx => exact ⟨m4, ρ2, h4, hlt, E24, R4, S5, by rw [show zs.length - (j + 1) = z by omega]; exact ec⟩
      | ct => exact ⟨m4, ρ2, h4, hlt, E24, R4, S5, by rw [show zs.length - (j + 1) = z by omega]; exact ec⟩
      | bk =>
        obtain ⟨rfl, rfl⟩ := pure_ok.mp ec
        exact q m4 σ4 H4 (E1.trans R1 E24) R4 S5
      | rt d =>
        obtain ⟨rfl, rfl⟩ := pure_ok.mp ec
        exact q m4 σ4 H4 (E1.trans R1 E24) R4 S5
      | ex x =>
        obtain ⟨rfl, rfl⟩ := pure_ok.mp ec
        exact q m4 σ4 H4 (E1.trans R1 E24) R4 S5
    · have hj : j = zs.length := by omega
      subst hj
      rw [Nat.sub_self] at ec
      obtain ⟨⟨n1, ys⟩, h3, f1, ec⟩ := bnd_ok.mp ec
      obtain ⟨k2, l2, rfl⟩ := livN_ok f1
      have hn1 : n0 = n1 := by cases k2; rfl
      subst hn1
      dsimp only at l2 ec
      obtain ⟨_, vs, g2, g3⟩ := R2.nst _ _ l2
      rw [io2] at g2
      rw [ite_ok] at ec
      split at ec
      case isFalse => exact (no_ok.mp ec).elim
      rename_i hl
      obtain ⟨rfl, rfl⟩ := pure_ok.mp ec
      exact .inl ⟨⟨vs, SqL.of g2, by rw [RDL.len g3]; omega⟩, q mi σi _ (E1.trans R1 E2) R2 S2⟩
theorem ss_whl {c : Expr} {body : List Stmt} {fc : Px.Env → M Bool} {fb : Px.Env → M (Fl × Px.Env)} {n : Nat} {pos : Pos} (hp : PassesOwn (model X.prog X.w) X.A X.env X.xe) (hc : PT X c (tT X.K fc)) (hb : PSs X body (tS X.K fb)) :
    PS X (.While c body [] pos) (tS X.K fun ρ => loopW fc fb n ρ) :=
  wkS (ps_while hp hc hb) fun D σ H ⟨m, ρ, h, r, h', R, S, e, q⟩ => by
    refine ⟨fun n σi Hc => ∃ mi ρi hi, Ext m mi h hi H Hc ∧ Rel X.K mi hi Hc ∧ SR X.K mi hi.length σi ρi ∧ loopW fc fb n ρi hi = .ok r h', ⟨n, m, ρ, h, Ext.refl _ _ _, R, S, e⟩, fun n σi Hc hW => ?_⟩
    obtain ⟨mi, ρi, hi, E2, R2, S2, ec⟩ := hW
    cases n with
    | zero => exact (no_ok.mp (show (M.no : M (Fl × Px.Env)) hi = _ from ec)).elim
    | succ n =>
      obtain ⟨k, h3, f1, ec⟩ := bnd_ok.mp ec
      refine ⟨mi, ρi, hi, k, h3, R2, S2, f1, fun m3 H3 E3 R3 => ?_⟩
      have E23 := E2.trans R2 E3
      cases k with
      | false =>
        obtain ⟨rfl, rfl⟩ := pure_ok.mp ec
        exact iteF (q m3 σi H3 E23 R3 (E3.sr S2))
      | true =>
        refine iteT ⟨fun σ' H' => ∃ mj ρj hj, Ext m mj h hj H H' ∧ Rel X.K mj hj H' ∧ SR X.K mj hj.length σ' ρj ∧ loopW fc fb n ρj hj = .ok r h', fun σ' H' w => ⟨n, Nat.lt_succ_self n, w⟩, ?_⟩
        have ec : (do
          let r ← fb ρi
          match r with
          | (.nx, ρ2) => loopW fc fb n ρ2
          | (.ct, ρ2) => loopW fc fb n ρ2
          | (.bk, ρ2) => pure (.nx, ρ2)
          | (.rt d, ρ2) => pure (.rt d, ρ2)
          | (.ex x, ρ2) => pure (.ex x, ρ2) : M (Fl × Px.Env)) h3 = .ok r h' := ec
        obtain ⟨⟨fl, ρ2⟩, h4, f2, ec⟩ := bnd_ok.mp ec
        refine ⟨m3, ρi, h3, (fl, ρ2), h4, R3, E3.sr S2, f2, fun m4 σ4 H4 E4 R4 S5 => ?_⟩
        have E24 := E23.trans R3 E4
        cases fl with
        | nx => exact ⟨m4, ρ2, h4, E24, R4, S5, ec⟩
        | ct => exact ⟨m4, ρ2, h4, E24, R4, S5, ec⟩
        | bk =>
          obtain ⟨rfl, rfl⟩ := pure_ok.mp ec
          exact q m4 σ4 H4 E24 R4 S5
        | rt d =>
          obtain ⟨rfl, rfl⟩ := pure_ok.mp ec
          exact q m4 σ4 H4 E24 R4 S5
        | ex x =>
          obtain ⟨rfl, rfl⟩ := pure_ok.mp ec
          exact q m4 σ4 H4 E24 R4 S5
/-- x = [..] of one line -/
theorem ss_setLc {elt tg iter : Expr} {ifs : List Expr} {scope : Scope} {own is : List Nat} {tp : Bool} {i : Nat} {y : Str} {py pos spos : Pos} {fi : Px.Env → M (List PyData)} {fc : Px.Env → M Bool} {fe : Px.Env → M D}
    (hc : X.calm = true) (hN : X.N.Nodup) (hy : X.N[i]? = some y) (hyl : X.env.scope.names.lookup y = some .local) (hsw : swapsWith (.ListComp elt [⟨tg, iter, ifs, 0⟩] scope pos) (some (.Name y py)) spos.line X.env = pure true)
    (hi : PI X tg iter (tIt X.K fi)) (ok : BlkOk X.N X.env.scope scope (ownOf X.N own)) (hown : (ownOf X.N own).map (·.2) = own) (his : ∀ i ∈ is, i ∈ own)
    (hg : ∀ (s : Shared) (H : Hp) (C : Addr) (cl : List (Str × Addr)) (fp : List Addr), PG (X.blk s H scope (compEnvC scope cl C X.env) fp) tg (gT X.K is tp))
    (ht : ∀ (s : Shared) (H : Hp) (C : Addr) (cl : List (Str × Addr)) (fp : List Addr), PTs (X.blk s H scope (compEnvC scope cl C X.env) fp) ifs (tT X.K fc))
    (he : ∀ (s : Shared) (H : Hp) (C : Addr) (cl : List (Str × Addr)) (fp : List Addr), PE (X.blk s H scope (compEnvC scope cl C X.env) fp) elt (tD X.K fe)) (hs : ∀ x, foldedSetIterable iter X.env x = pure x) :
    PS X (.Assign [.Name y py] (.ListComp elt [⟨tg, iter, ifs, 0⟩] scope pos) spos) (tS X.K fun ρ => do
      let d ← (Sm.new (compF own is tp fi fc fe)).ev ρ
      pure (.nx, ρ.set i (some d))) ∧
    PS X (.Assign [.Name y py] (.ListComp elt [⟨tg, iter, ifs, 0⟩] scope pos) spos) (tS X.K fun ρ => do
      let xs ← compF own is tp fi fc fe ρ
      let d ← newL xs
      pure (.nx, ρ.set i (some d))) := by
  have main := ps_setLc (pos := pos) hc hN hy hyl hsw hi ok hg ht he hs
  rw [hown] at main
  refine ⟨wkS main fun D σ H ⟨m, ρ, h, r, h', R, S, e, q⟩ => ?_, wkS main fun D σ H hw => comp_lc his (new_step hw)⟩
  obtain ⟨d, h1, e1, e⟩ := bnd_ok.mp e
  obtain ⟨rfl, rfl⟩ := pure_ok.mp e
  exact comp_lc (Q := fun x H1 => gName i x σ H1 D.nx) his (fr_wish ⟨m, ρ, h, d, h1, R, S, e1, fun m1 v H1 E1 R1 r1 => q m1 _ H1 E1 R1 ((E1.sr S).set r1)⟩)
end

theorem ss_setLcN {elt tg iter : Expr} {ifs : List Expr} {scope : Scope} {own is : List Nat} {tp : Bool} {i : Nat} {y : Str} {py pos spos : Pos} {fi : Px.Env → M (List PyData)} {fc : Px.Env → M Bool} {fe : Px.Env → M (List PyData)}
    (hc : X.calm = true) (hN : X.N.Nodup) (hy : X.N[i]? = some y) (hyl : X.env.scope.names.lookup y = some .local) (hsw : swapsWith (.ListComp elt [⟨tg, iter, ifs, 0⟩] scope pos) (some (.Name y py)) spos.line X.env = pure true)
    (hi : PI X tg iter (tIt X.K fi)) (ok : BlkOk X.N X.env.scope scope (ownOf X.N own)) (hown : (ownOf X.N own).map (·.2) = own) (his : ∀ i ∈ is, i ∈ own)
    (hg : ∀ (s : Shared) (H : Hp) (C : Addr) (cl : List (Str × Addr)) (fp : List Addr), PG (X.blk s H scope (compEnvC scope cl C X.env) fp) tg (gT X.K is tp))
    (ht : ∀ (s : Shared) (H : Hp) (C : Addr) (cl : List (Str × Addr)) (fp : List Addr), PTs (X.blk s H scope (compEnvC scope cl C X.env) fp) ifs (tT X.K fc))
    (he : ∀ (s : Shared) (H : Hp) (C : Addr) (cl : List (Str × Addr)) (fp : List Addr), PE (X.blk s H scope (compEnvC scope cl C X.env) fp) elt (tFr X.K fe)) (hs : ∀ x, foldedSetIterable iter X.env x = pure x) :
    PS X (.Assign [.Name y py] (.ListComp elt [⟨tg, iter, ifs, 0⟩] scope pos) spos) (tS X.K fun ρ => do
      let xs ← compNF own is tp fi fc fe ρ
      let d ← newN xs
      pure (.nx, ρ.set i (some d))) := by
  have main := ps_setLc (pos := pos) hc hN hy hyl hsw hi ok hg ht he hs
  rw [hown] at main
  exact wkS main fun D σ H hw => comp_lcN his (new_stepN hw)
/-! ### which statements a text stands for -/
def isLc : Expr → Bool
  | .ListComp .. => true
  | .SetComp .. => true
  | .DictComp .. => true
  | _ => false
theorem sw_none {X : Cx} {e : Expr} {t : Option Expr} {l : Nat} (h : isLc e = false) : swapsWith e t l X.env = pure false := by
  cases e <;> first
    | rfl
    | (simp [isLc] at h)
/-- into a place of a list a comprehension swaps nothing -/
theorem sw_sub {X : Cx} {e o i : Expr} {tpos : Pos} {l : Nat} : swapsWith e (some (.Subscript o i tpos)) l X.env = pure false := by
  cases e <;> rfl
/-- no swapped stores -/
def noSwB : List Expr → Expr → Bool
  | [.Tuple ts _ _], .Tuple vs _ _ => !(ts.length == 2 || ts.length == 3) || vs.all (foldedForSure 8) || ts.all (fun t => match t with
    | .Name .. => false
    | _ => true) && !ts.isEmpty
  | [.List ts _], .Tuple vs _ _ => false
  | _, _ => true
theorem nosw {X : Cx} {t v : Expr} (h : noSwB [t] v = true) : swappedStores [t] v X.env = pure none := by
  unfold noSwB at h
  split at h
  · rename_i ts k p vs k2 p2 he
    simp only [List.cons.injEq, and_true] at he
    subst he
    unfold swappedStores
    dsimp only
    split
    · rfl
    rename_i c1
    split
    · rfl
    simp only [Bool.or_eq_true, Bool.and_eq_true] at h
    rcases h with (h | h) | h
    · exfalso
      apply c1
      rw [h]; rfl
    · split
      · rfl
      · first | rfl | rw [if_pos h]
    · rw [if_pos]
      rw [List.filterMap_eq_nil_iff.mpr]
      · cases ts with
        | nil => simp at h
        | cons _ _ => rfl
      · intro x hx
        have := List.all_eq_true.mp h.1 x hx
        cases x <;> first | rfl | (simp at this)
  · cases h
  · rename_i n1 n2
    unfold swappedStores
    split
    · rename_i heq
      split at heq
      · exact (n1 _ _ _ _ _ _ (by assumption) rfl).elim
      · exact (n2 _ _ _ _ _ (by assumption) rfl).elim
      · cases heq
    · rfl
/-- one name of the pair is a cell: no swapped stores -/
def celB (sc : Scope) : List Expr → Expr → Bool
  | [.Tuple ts _ _], .Tuple _ _ _ => ts.any fun t => match t with
    | .Name x _ => match sc.names.lookup x with
      | some .cell => true
      | _ => false
    | _ => false
  | _, _ => false
theorem nosw_cel {X : Cx} {t v : Expr} (h : celB X.env.scope [t] v = true) : swappedStores [t] v X.env = pure none := by
  unfold celB at h
  split at h
  · rename_i ts k p vs k2 p2 he
    simp only [List.cons.injEq, and_true] at he
    subst he
    unfold swappedStores
    dsimp only
    split
    · rfl
    split
    · rfl
    rw [if_pos]
    obtain ⟨t, ht, hc⟩ := List.any_eq_true.mp h
    have key : ∀ (l : List Expr) (g : Expr → Option Str), t ∈ l → g t = none → (l.filterMap g).length ≠ l.length := fun l g hm hg => by
      have : ∀ l : List Expr, (l.filterMap g).length ≤ l.length := fun l => List.length_filterMap_le g l
      induction l with
      | nil => cases hm
      | cons a r ih =>
        rcases List.mem_cons.mp hm with e | e
        · subst e
          rw [List.filterMap_cons, hg]
          have := this r
          simp only [List.length_cons]
          omega
        · have ih := ih e
          rw [List.filterMap_cons]
          have := this r
          split <;> simp only [List.length_cons] <;> omega
    refine Bool.or_eq_true _ _ ▸ .inl ?_
    have := key ts (fun
      | .Name id pos => if X.env.kindOf id == some .local && pos.line == (ts.head?.map (·.pos.line)).getD 0 then some id else none
      | _ => none) ht (by
        split at hc
        · rename_i x q
          split at hc
          · rename_i e
            have e2 : X.env.kindOf x = some .cell := e
            show (if X.env.kindOf x == some .local && q.line == (ts.head?.map (·.pos.line)).getD 0 then some x else none) = none
            rw [e2]
            rfl
          · cases hc
        · cases hc)
    exact bne_iff_ne.mpr this
  · cases h
theorem blk_fun {X : Cx} (hk : X.env.scope.kind = .function) : X.env.blockKind = .function := by
  unfold PySem.Env.blockKind; rw [hk]; rfl
theorem sw_lc {X : Cx} {elt : Expr} {gs : List Comprehension} {scope : Scope} {p2 p : Pos} {y : Str} {l : Nat} (hk : X.env.scope.kind = .function) :
    swapsWith (.ListComp elt gs scope p2) (some (.Name y p)) l X.env = pure (X.env.kindOf y == some .local && p.line == p2.line && !(scope.names.any fun (n, k) => n == y && (k == .local || k == .cell))) := by
  unfold swapsWith
  simp only [blk_fun hk, Expr.pos]
  rfl
theorem dd2 {x y : Str} (h : x ≠ y) : [x, y].eraseDups = [x, y] := by
  have : (y == x) = false := beq_eq_false_iff_ne.mpr h.symm
  simp [List.eraseDups, List.eraseDupsBy, List.eraseDupsBy.loop, this]
theorem par_sw {X : Cx} {x y : Str} {px py pt pt2 : Pos} {kt k2 : Nat} {a b : Expr} (hk : X.env.scope.kind = .function) (hx : X.env.scope.names.lookup x = some .local) (hy : X.env.scope.names.lookup y = some .local) (hne : x ≠ y) (hl : (py.line == px.line) = true) (sa : simple a = true) (sb : simple b = true)
    (hf : [a, b].all (foldedForSure 8) = false) (hc : [a, b].all (constantsAlone 8) = false) : swappedStores [.Tuple [.Name x px, .Name y py] kt pt] (.Tuple [a, b] k2 pt2) X.env = pure (some [x, y]) := by
  have s1 : ([a, b].any fun | .Starred .. => true | _ => false) = false := by
    cases a <;> cases b <;> first | rfl | exact absurd sa Bool.false_ne_true | exact absurd sb Bool.false_ne_true
  have k1 : (X.env.kindOf x == some .local) = true := by
    have : X.env.kindOf x = some .local := hx
    rw [this]; rfl
  have k3 : (X.env.kindOf y == some .local) = true := by
    have : X.env.kindOf y = some .local := hy
    rw [this]; rfl
  unfold swappedStores
  dsimp only
  rw [blk_fun hk]
  refine Eq.trans (if_neg ?_) (Eq.trans (if_neg ?_) ?_)
  · exact fun z => Bool.false_ne_true z
  · exact fun z => Bool.false_ne_true (s1.symm.trans z)
  simp only [List.filterMap_cons, List.filterMap_nil, List.head?_cons, Option.map_some, Option.getD_some, Expr.pos, k1, k3, hl, beq_self_eq_true, Bool.and_self, if_true, dd2 hne]
  refine Eq.trans (if_neg ?_) (Eq.trans (if_neg ?_) (if_neg ?_))
  · exact fun z => Bool.false_ne_true z
  · rw [hf]; exact Bool.false_ne_true
  · rw [hc]; exact Bool.false_ne_true
theorem dd3 {x y z : Str} (h : x ≠ y) (h2 : x ≠ z) (h3 : y ≠ z) : [x, y, z].eraseDups = [x, y, z] := by
  have e1 : (y == x) = false := beq_eq_false_iff_ne.mpr h.symm
  have e2 : (z == x) = false := beq_eq_false_iff_ne.mpr h2.symm
  have e3 : (z == y) = false := beq_eq_false_iff_ne.mpr h3.symm
  simp [List.eraseDups, List.eraseDupsBy, List.eraseDupsBy.loop, e1, e2, e3]
theorem par_sw3 {X : Cx} {x y z : Str} {px py pz pt pt2 : Pos} {kt k2 : Nat} {a b c : Expr} (hk : X.env.scope.kind = .function) (hx : X.env.scope.names.lookup x = some .local) (hy : X.env.scope.names.lookup y = some .local) (hz : X.env.scope.names.lookup z = some .local) (hne : x ≠ y) (hn2 : x ≠ z) (hn3 : y ≠ z) (hl : (py.line == px.line) = true) (hl2 : (pz.line == px.line) = true)
    (sa : simple a = true) (sb : simple b = true) (sc : simple c = true)
    (hf : [a, b, c].all (foldedForSure 8) = false) (hc : [a, b, c].all (constantsAlone 8) = false) : swappedStores [.Tuple [.Name x px, .Name y py, .Name z pz] kt pt] (.Tuple [a, b, c] k2 pt2) X.env = pure (some [x, y, z]) := by
  have s1 : ([a, b, c].any fun | .Starred .. => true | _ => false) = false := by
    rw [List.any_eq_false]
    intro e he
    have hs : simple e = true := by
      simp only [List.mem_cons, List.not_mem_nil, or_false] at he
      rcases he with rfl | rfl | rfl <;> assumption
    cases e <;> first | exact Bool.false_ne_true | exact absurd hs Bool.false_ne_true
  have k1 : (X.env.kindOf x == some .local) = true := by
    have : X.env.kindOf x = some .local := hx
    rw [this]; rfl
  have k3 : (X.env.kindOf y == some .local) = true := by
    have : X.env.kindOf y = some .local := hy
    rw [this]; rfl
  have k4 : (X.env.kindOf z == some .local) = true := by
    have : X.env.kindOf z = some .local := hz
    rw [this]; rfl
  unfold swappedStores
  dsimp only
  rw [blk_fun hk]
  refine Eq.trans (if_neg ?_) (Eq.trans (if_neg ?_) ?_)
  · exact fun z => Bool.false_ne_true z
  · exact fun z => Bool.false_ne_true (s1.symm.trans z)
  simp only [List.filterMap_cons, List.filterMap_nil, List.head?_cons, Option.map_some, Option.getD_some, Expr.pos, k1, k3, k4, hl, hl2, beq_self_eq_true, Bool.and_self, if_true, dd3 hne hn2 hn3]
  refine Eq.trans (if_neg ?_) (Eq.trans (if_neg ?_) (if_neg ?_))
  · exact fun z => Bool.false_ne_true z
  · rw [hf]; exact Bool.false_ne_true
  · rw [hc]; exact Bool.false_ne_true

theorem sw_sole_tup {X : Cx} {elts : List Expr} {kk l : Nat} {tpos : Pos} {e : Expr} (h : isLc e = false) : swapsWithSole [.Tuple elts kk tpos] e l X.env = pure false := by
  exact sw_none (X := X) (t := some (.Tuple elts kk tpos)) (l := l) h
/-! ### the statements -/
structure Cs where
  s : Cc → Stmt → Bool
  b : Cc → List Stmt → Bool
def Cs.of (f : Cc → Stmt → Bool) : Cs := ⟨f, fun _ _ => false⟩
def isNm : Expr → Bool
  | .Name .. => true
  | _ => false
def locB (sc : Scope) (x : Str) : Bool := match sc.names.lookup x with
  | some .local => true
  | _ => false
def nmOk (C : Cc) (i : Nat) (x : Str) : Bool := decide (C.N[i]? = some x) && cellOrLoc C.sc x
def chkPar (C : Cc) (ts vs : List Expr) (ks : List Nat) : Bool := (ts.zip ks).all (fun p => match p.1 with
    | .Name x q => decide (C.N[p.2]? = some x) && locB C.sc x
    | _ => false) && vs.all simple && !vs.all (foldedForSure 8) && !vs.all (constantsAlone 8)
def chkS : S → Cs
  | .skip => ⟨fun _ st => match st with
    | .Pass _ => true
    | _ => false, fun _ st => st.isEmpty⟩
  | .seq a b => ⟨fun _ _ => false, fun C st => match st with
    | x :: r => (chkS a).s C x && (chkS b).b C r
    | [] => false⟩
  | .set i e => .of fun C st => match st with
    | .Assign [.Name x _] v _ => nmOk C i x && (chk e).e C v
    | _ => false
  | .new i e => .of fun C st => match st with
    | .Assign [.Name x _] v _ => nmOk C i x && (chk e).e C v
    | _ => false
  | .setT is e => .of fun C st => match st with
    | .Assign [t] v _ => chkTgt C.N (cellOrLoc C.sc) is true t && (chk e).e C v && !isLc v && (noSwB [t] v || celB C.sc [t] v)
    | _ => false
  | .newN i e => .of fun C st => match st with
    | .Assign [.Name x _] v _ => nmOk C i x && (chk e).e C v
    | _ => false
  | .ixsF x i e => .of fun C st => match st with
    | .Assign [.Subscript o j _] v _ => (chk x).e C o && (chk i).e C j && simple j && (chk e).e C v
    | _ => false
  | .swn x i x2 j a b => .of fun C st => match st with
    | .Assign [.Tuple [.Subscript o k _, .Subscript o2 k2 _] _ _] (.Tuple [v, w] _ _) _ => (chk x).e C o && (chk i).e C k && simple k && (chk x2).e C o2 && (chk j).e C k2 && simple k2 && simple v && simple w && (chk a).e C v && (chk b).e C w
    | _ => false
  | .appF x e => .of fun C st => match st with
    | .Expr (.Call (.Attribute (.Name y p) n apos) [v] [] cpos) _ => decide (n = ("append" : Str)) && (apos.endLine == cpos.line) && (chk x).e C (.Name y p) && simple v && (chk e).e C v
    | _ => false
  | .par i j a b => .of fun C st => match st with
    | .Assign [.Tuple [.Name x px, .Name y py] _ _] (.Tuple [v, w] _ _) _ => decide (i ≠ j) && decide (x ≠ y) && (py.line == px.line) && decide (C.N[i]? = some x) && decide (C.N[j]? = some y) && locB C.sc x && locB C.sc y && simple v && simple w &&
      !([v, w].all (foldedForSure 8)) && !([v, w].all (constantsAlone 8)) && (chk a).e C v && (chk b).e C w
    | _ => false
  | .par3 i j l a b c => .of fun C st => match st with
    | .Assign [.Tuple [.Name x px, .Name y py, .Name z pz] _ _] (.Tuple [v, w, u] _ _) _ => decide (i ≠ j) && decide (i ≠ l) && decide (j ≠ l) && decide (x ≠ y) && decide (x ≠ z) && decide (y ≠ z) && (py.line == px.line) && (pz.line == px.line) &&
      decide (C.N[i]? = some x) && decide (C.N[j]? = some y) && decide (C.N[l]? = some z) && locB C.sc x && locB C.sc y && locB C.sc z && simple v && simple w && simple u &&
      !([v, w, u].all (foldedForSure 8)) && !([v, w, u].all (constantsAlone 8)) && (chk a).e C v && (chk b).e C w && (chk c).e C u
    | _ => false
  | .ixs x i e => .of fun C st => match st with
    | .Assign [.Subscript o j _] v _ => (chk x).e C o && (chk i).e C j && simple j && (chk e).e C v
    | _ => false
  | .swp x i x2 j a b => .of fun C st => match st with
    | .Assign [.Tuple [.Subscript o k _, .Subscript o2 k2 _] _ _] (.Tuple [v, w] _ _) _ => (chk x).e C o && (chk i).e C k && simple k && (chk x2).e C o2 && (chk j).e C k2 && simple k2 && simple v && simple w && (chk a).e C v && (chk b).e C w
    | _ => false
  | .app x e => .of fun C st => match st with
    | .Expr (.Call (.Attribute (.Name y p) n apos) [v] [] cpos) _ => decide (n = ("append" : Str)) && (apos.endLine == cpos.line) && (chk x).e C (.Name y p) && simple v && (chk e).e C v
    | _ => false
  | .ext x e => .of fun C st => match st with
    | .Expr (.Call (.Attribute (.Name y p) n apos) [v] [] cpos) _ => decide (n = ("extend" : Str)) && (apos.endLine == cpos.line) && (chk x).e C (.Name y p) && simple v && (chk e).e C v
    | _ => false
  | .expr e => .of fun C st => match st with
    | .Expr v _ => (chk e).e C v && !isLc v
    | _ => false
  | .ife c a b => .of fun C st => match st with
    | .If t p q _ => (chk c).e C t && (chkS a).b C p && (chkS b).b C q
    | _ => false
  | .for_ is tp it b => .of fun C st => match st with
    | .For t iter body [] _ => (chk it).i C tp iter && chkTgt C.N (cellOrLoc C.sc) is tp t && (chkS b).b C body
    | _ => false
  | .whl c b => .of fun C st => match st with
    | .While t body [] _ => (chk c).e C t && (chkS b).b C body
    | _ => false
  | .ret e => .of fun C st => match st with
    | .Return (some v) _ => (chk e).e C v
    | _ => false
  | .retF e => .of fun C st => match st with
    | .Return (some v) _ => (chk e).e C v
    | _ => false
  | .retN => .of fun _ st => match st with
    | .Return none _ => true
    | _ => false
  | .brk => .of fun _ st => match st with
    | .Break _ => true
    | _ => false
  | .cont => .of fun _ st => match st with
    | .Continue _ => true
    | _ => false
  | .setP is e => .of fun C st => match st with
    | .Assign [t] v _ => chkTgt C.N (cellOrLoc C.sc) is true t && (chk e).e C v && !isLc v && (noSwB [t] v || celB C.sc [t] v)
    | _ => false
  | .forN i x b => .of fun C st => match st with
    | .For (.Name n _) iter body [] _ => nmOk C i n && (chk x).e C iter && (chkS b).b C body
    | _ => false
  | .ins x i e => .of fun C st => match st with
    | .Expr (.Call (.Attribute (.Name y p) n apos) [u, v] [] cpos) _ => decide (n = ("insert" : Str)) && (apos.endLine == cpos.line) && (chk x).e C (.Name y p) && simple u && simple v && (chk i).e C u && (chk e).e C v
    | _ => false
  | .rvs x => .of fun C st => match st with
    | .Expr (.Call (.Attribute (.Name y p) n apos) [] [] cpos) _ => decide (n = ("reverse" : Str)) && (apos.endLine == cpos.line) && (chk x).e C (.Name y p)
    | _ => false
  | .raise _ _ => .of fun _ _ => false
  | .xs _ _ => .of fun _ _ => false
  | .tryA _ _ _ => .of fun _ _ => false
  | .bad => .of fun _ _ => true
/-- within a def's own body -/
structure SOk (X : Cx) (C : Cc) (gl : Pg) (F : Nat → List D → M (PyData × Bool)) (k : Nat) : Prop where
  x : XOk X C gl F k
  kd : X.env.scope.kind = .function
  fn : ∀ y, X.fn y = true
  pas : PassesOwn (model X.prog X.w) X.A X.env X.xe
section
variable {gl : Pg} {F : Nat → List D → M (PyData × Bool)}
structure SndS (gl : Pg) (F : Nat → List D → M (PyData × Bool)) (ck : Cs) (f : Px.Env → M (Fl × Px.Env)) : Prop where
  s : ∀ X C k st, SOk X C gl F k → ck.s C st = true → PS X st (tS X.K f)
  b : ∀ X C k st, SOk X C gl F k → ck.b C st = true → PSs X st (tS X.K f)
theorem sndS_of {g : Cc → Stmt → Bool} {f : Px.Env → M (Fl × Px.Env)} (h : ∀ X C k st, SOk X C gl F k → g C st = true → PS X st (tS X.K f)) : SndS gl F (Cs.of g) f :=
  ⟨h, fun X C k st x c => nomatch (show false = true from c)⟩
theorem loc_of {sc : Scope} {x : Str} (h : cellOrLoc sc x = true) : Loc sc x := by
  unfold cellOrLoc at h
  split at h
  · exact .inl ‹_›
  · exact .inr ‹_›
  · cases h
theorem locB_of {sc : Scope} {x : Str} (h : locB sc x = true) : sc.names.lookup x = some .local := by
  unfold locB at h
  split at h
  · assumption
  · cases h
/-- the parts of a comprehension that a term stands for -/
theorem comp_parts (G : Pg) (hG : G = gl) {X : Cx} {C : Cc} {k : Nat} (x : XOk X C gl F k) {own is : List Nat} {tp : Bool} {it cond elt : T} {y tg iter : Expr} {ifs : List Expr} {scope : Scope} {p : Pos}
    (c : (chk (.comp own is tp it cond elt)).e C (.ListComp y [⟨tg, iter, ifs, 0⟩] scope p) = true) :
    PI X tg iter (tIt X.K (sem G F it).iter) ∧ BlkOk X.N X.env.scope scope (ownOf X.N own) ∧ (ownOf X.N own).map (·.2) = own ∧ (∀ i ∈ is, i ∈ own) ∧
    (∀ (s : Shared) (H : Hp) (C : Addr) (cl : List (Str × Addr)) (fp : List Addr), PG (X.blk s H scope (compEnvC scope cl C X.env) fp) tg (gT X.K is tp)) ∧
    (∀ (s : Shared) (H : Hp) (C : Addr) (cl : List (Str × Addr)) (fp : List Addr), PTs (X.blk s H scope (compEnvC scope cl C X.env) fp) ifs (tT X.K (sem G F cond).cnd)) ∧
    (∀ (s : Shared) (H : Hp) (C : Addr) (cl : List (Str × Addr)) (fp : List Addr), PE (X.blk s H scope (compEnvC scope cl C X.env) fp) y (tD X.K (sem G F elt).ev)) ∧ (∀ x, foldedSetIterable iter X.env x = pure x) ∧
    (∀ (s : Shared) (H : Hp) (C : Addr) (cl : List (Str × Addr)) (fp : List Addr), PE (X.blk s H scope (compEnvC scope cl C X.env) fp) y (tFr X.K (sem G F elt).frs)) := by
  have c : (blkC C.N C.sc scope (ownOf C.N own) && decide ((ownOf C.N own).map (·.2) = own) && is.all (fun i => decide (i ∈ own)) && (chk it).i C tp iter &&
    chkTgt C.N (fun x => cellOrLoc scope x) is tp tg && (chk elt).e (C.inS scope) y && simple iter &&
    chkIf ((chk cond).l C) ((chk cond).e (C.inS scope)) ifs) = true := c
  rw [Bool.and_eq_true, Bool.and_eq_true, Bool.and_eq_true, Bool.and_eq_true, Bool.and_eq_true, Bool.and_eq_true, Bool.and_eq_true] at c
  obtain ⟨⟨⟨⟨⟨⟨⟨c1, c2⟩, c3⟩, c4⟩, c5⟩, c6⟩, c7⟩, c8⟩ := c
  refine ⟨(sound G hG it).i X C k iter tp tg x c4 (tgt_tup c5), by rw [x.N, x.sc]; exact blkOk_by c1, by rw [x.N]; exact of_decide_eq_true c2, fun i hi => of_decide_eq_true (List.all_eq_true.mp c3 i hi),
    fun s H cc cl fp => ?_, fun s H cc cl fp => ?_, fun s H cc cl fp => ((sound G hG elt).e _ _ k y (x.blk s H scope cc cl fp) c6).1, folded_none (chk_notSet it c4), fun s H cc cl fp => (sound G hG elt).f _ _ k y (x.blk s H scope cc cl fp) c6⟩
  · have xb := x.blk s H scope cc cl fp
    refine pg_of (ok := fun n => cellOrLoc scope n) xb.calm xb.nd (fun n hn => ?_) (by rw [xb.N]; exact c5)
    rcases cell_loc (sc := X.env.scope) hn with ⟨h1, h2⟩ | ⟨h1, h2⟩
    · exact ⟨.inl h1, .inr h1⟩
    · refine ⟨.inr h1, .inl ?_⟩
      show (scope.names.lookup n == some NameKind.cell) = true
      rw [h2]; rfl
  · have xb := x.blk s H scope cc cl fp
    rcases if_shape c8 with ⟨rfl, c8⟩ | ⟨z, rfl, c8⟩
    · cases cond with
      | nil => exact sd_if0
      | _ => cases c8
    · exact pts_one ((sound G hG cond).e _ _ k z xb c8).2.2
theorem lc_comp {t : T} {C : Cc} {e : Expr} (h : (chk t).e C e = true) (hl : isLc e = true) : ∃ own is tp it cond elt y tg iter ifs scope p, t = .comp own is tp it cond elt ∧ e = .ListComp y [⟨tg, iter, ifs, 0⟩] scope p := by
  cases e <;> simp only [isLc, Bool.false_eq_true] at hl
  · cases t <;> simp only [chk, Ck.of, Ck.it, nameCall, compB, revB, getB, methB, minB, Bool.and_false, Bool.false_eq_true] at h
    split at h
    · rename_i he
      cases he
      exact ⟨_, _, _, _, _, _, _, _, _, _, _, _, rfl, rfl⟩
    · cases h
  · cases t <;> simp [chk, Ck.of, Ck.it, nameCall, compB, revB, getB, methB, minB] at h
  · cases t <;> simp [chk, Ck.of, Ck.it, nameCall, compB, revB, getB, methB, minB] at h
theorem set_or_new (G : Pg) (hG : G = gl) {X : Cx} {C : Cc} {k i : Nat} {t : T} {n : Str} {p q : Pos} {v : Expr} (x : SOk X C gl F k) (c1 : nmOk C i n = true) (c2 : (chk t).e C v = true) :
    PS X (.Assign [.Name n p] v q) (tS X.K fun ρ => do
      let d ← (sem G F t).ev ρ
      pure (.nx, ρ.set i (some d))) ∧ PS X (.Assign [.Name n p] v q) (tS X.K fun ρ => do
      let xs ← (sem G F t).frs ρ
      let d ← newL xs
      pure (.nx, ρ.set i (some d))) := by
  simp only [nmOk, Bool.and_eq_true, decide_eq_true_eq] at c1
  have hi : X.N[i]? = some n := by rw [x.x.N]; exact c1.1
  have hx : Loc X.env.scope n := by rw [x.x.sc]; exact loc_of c1.2
  have gen : swapsWith v (some (.Name n p)) q.line X.env = pure false → _ := fun sw => And.intro (ss_set (pos := q) (pos' := p) x.x.nd hi hx (.inl (x.fn n)) ((sound G hG t).e X C k v x.x c2).1 sw) (ss_new (pos := q) (pos' := p) x.x.nd hi hx (.inl (x.fn n)) ((sound G hG t).f X C k v x.x c2) sw)
  by_cases hl : isLc v = true
  · obtain ⟨own, is, tp, it, cond, elt, y, tg, iter, ifs, scope, p2, rfl, rfl⟩ := lc_comp c2 hl
    have sw := sw_lc (X := X) (elt := y) (gs := [⟨tg, iter, ifs, 0⟩]) (scope := scope) (p2 := p2) (p := p) (y := n) (l := q.line) x.kd
    cases hb : (X.env.kindOf n == some .local && p.line == p2.line && !(scope.names.any fun (n', k) => n' == n && (k == .local || k == .cell))) with
    | false => rw [hb] at sw; exact gen sw
    | true =>
      rw [hb] at sw
      simp only [Bool.and_eq_true] at hb
      have hk : X.env.kindOf n = some .local := by simpa using hb.1.1
      have hloc : X.env.scope.names.lookup n = some .local := hk
      obtain ⟨a1, a2, a3, a4, a5, a6, a7, a8, _⟩ := comp_parts G hG x.x c2
      exact ss_setLc x.x.calm x.x.nd hi hloc sw a1 a2 a3 a4 a5 a6 a7 a8
  · exact gen (sw_none (by simpa using hl))
theorem set_newN (G : Pg) (hG : G = gl) {X : Cx} {C : Cc} {k i : Nat} {t : T} {n : Str} {p q : Pos} {v : Expr} (x : SOk X C gl F k) (c1 : nmOk C i n = true) (c2 : (chk t).e C v = true) :
    PS X (.Assign [.Name n p] v q) (tS X.K fun ρ => do
      let xs ← (sem G F t).frn ρ
      let d ← newN xs
      pure (.nx, ρ.set i (some d))) := by
  simp only [nmOk, Bool.and_eq_true, decide_eq_true_eq] at c1
  have hi : X.N[i]? = some n := by rw [x.x.N]; exact c1.1
  have hx : Loc X.env.scope n := by rw [x.x.sc]; exact loc_of c1.2
  have gen : swapsWith v (some (.Name n p)) q.line X.env = pure false → _ := fun sw => ss_newN (pos := q) (pos' := p) x.x.nd hi hx (.inl (x.fn n)) ((sound G hG t).n X C k v x.x c2) sw
  by_cases hl : isLc v = true
  · obtain ⟨own, is, tp, it, cond, elt, y, tg, iter, ifs, scope, p2, rfl, rfl⟩ := lc_comp c2 hl
    have sw := sw_lc (X := X) (elt := y) (gs := [⟨tg, iter, ifs, 0⟩]) (scope := scope) (p2 := p2) (p := p) (y := n) (l := q.line) x.kd
    cases hb : (X.env.kindOf n == some .local && p.line == p2.line && !(scope.names.any fun (n', k) => n' == n && (k == .local || k == .cell))) with
    | false => rw [hb] at sw; exact gen sw
    | true =>
      rw [hb] at sw
      simp only [Bool.and_eq_true] at hb
      have hk : X.env.kindOf n = some .local := by simpa using hb.1.1
      have hloc : X.env.scope.names.lookup n = some .local := hk
      obtain ⟨a1, a2, a3, a4, a5, a6, _, a8, a9⟩ := comp_parts G hG x.x c2
      exact ss_setLcN x.x.calm x.x.nd hi hloc sw a1 a2 a3 a4 a5 a6 a9 a8
  · exact gen (sw_none (by simpa using hl))
theorem soundS (G : Pg) (hG : G = gl) : ∀ t : S, SndS gl F (chkS t) (exec G F t)
  | .skip => ⟨fun X C k st x c => by
      match st, c with
      | .Pass p, c => exact ss_pass, fun X C k st x c => by
      cases st with
      | nil => exact ss_nil
      | cons _ _ => cases c⟩
  | .seq a b => ⟨fun X C k st x c => (by cases c), fun X C k st x c => by
      cases st with
      | nil => cases c
      | cons y r =>
        have c : ((chkS a).s C y && (chkS b).b C r) = true := c
        rw [Bool.and_eq_true] at c
        exact ss_cons ((soundS G hG a).s X C k y x c.1) ((soundS G hG b).b X C k r x c.2)⟩
  | .set i e => sndS_of fun X C k st x c => by
    split at c
    · rw [Bool.and_eq_true] at c
      exact (set_or_new G hG x c.1 c.2).1
    · cases c
  | .new i e => sndS_of fun X C k st x c => by
    split at c
    · rw [Bool.and_eq_true] at c
      exact (set_or_new G hG x c.1 c.2).2
    · cases c
  | .setT is e => sndS_of fun X C k st x c => by
    split at c
    · rename_i t v q
      rw [Bool.and_eq_true, Bool.and_eq_true, Bool.and_eq_true, Bool.not_eq_true'] at c
      obtain ⟨⟨⟨c1, c2⟩, c3⟩, c4⟩ := c
      have hg : PG X t (gT X.K is true) := pg_of (ok := cellOrLoc C.sc) x.x.calm x.x.nd (fun n hn => ⟨by rw [x.x.sc]; exact loc_of hn, .inl (x.fn n)⟩) (by rw [x.x.N]; exact c1)
      obtain ⟨elts, kk, tpos, rfl⟩ := tgt_tup c1 rfl
      exact ss_setT hg ((sound G hG e).e X C k v x.x c2).1 (sw_sole_tup c3) ((Bool.or_eq_true _ _ ▸ c4 : noSwB _ v = true ∨ celB C.sc _ v = true).elim nosw fun c => nosw_cel (by rw [x.x.sc]; exact c)) rfl
    · cases c
  | .par i j a b => sndS_of fun X C k st x c => by
    split at c
    · simp only [Bool.and_eq_true, Bool.not_eq_true', decide_eq_true_eq] at c
      obtain ⟨⟨⟨⟨⟨⟨⟨⟨⟨⟨⟨⟨c1, c2⟩, c3⟩, c4⟩, c5⟩, c6⟩, c7⟩, c8⟩, c9⟩, c10⟩, c11⟩, c12⟩, c13⟩ := c
      have l1 := locB_of c6
      have l2 := locB_of c7
      rw [← x.x.sc] at l1 l2
      exact ss_par x.x.calm x.x.nd (by rw [x.x.N]; exact c4) (by rw [x.x.N]; exact c5) c1 l1 l2 c8 c9 ((sound G hG a).e X C k _ x.x c12).1 ((sound G hG b).e X C k _ x.x c13).1 (par_sw x.kd l1 l2 c2 c3 c8 c9 c10 c11)
    · cases c
  | .par3 i j l a b d => sndS_of fun X C k st x c => by
    split at c
    · simp only [Bool.and_eq_true, Bool.not_eq_true', decide_eq_true_eq] at c
      obtain ⟨⟨⟨⟨⟨⟨⟨⟨⟨⟨⟨⟨⟨⟨⟨⟨⟨⟨⟨⟨⟨c1, c2⟩, c3⟩, c4⟩, c5⟩, c6⟩, c7⟩, c8⟩, c9⟩, c10⟩, c11⟩, c12⟩, c13⟩, c14⟩, c15⟩, c16⟩, c17⟩, c18⟩, c19⟩, c20⟩, c21⟩, c22⟩ := c
      have l1 := locB_of c12
      have l2 := locB_of c13
      have l3 := locB_of c14
      rw [← x.x.sc] at l1 l2 l3
      exact ss_par3 x.x.calm x.x.nd (by rw [x.x.N]; exact c9) (by rw [x.x.N]; exact c10) (by rw [x.x.N]; exact c11) c1 c2 c3 l1 l2 l3 c15 c16 c17 ((sound G hG a).e X C k _ x.x c20).1 ((sound G hG b).e X C k _ x.x c21).1 ((sound G hG d).e X C k _ x.x c22).1
        (par_sw3 x.kd l1 l2 l3 c4 c5 c6 c7 c8 c15 c16 c17 c18 c19)
    · cases c
  | .ixs y i e => sndS_of fun X C k st x c => by
    split at c
    · simp only [Bool.and_eq_true, Bool.not_eq_true'] at c
      obtain ⟨⟨⟨c1, c2⟩, c3⟩, c4⟩ := c
      exact ss_ixs ((sound G hG y).e X C k _ x.x c1).1 ((sound G hG i).e X C k _ x.x c2).1 c3 ((sound G hG e).e X C k _ x.x c4).1 sw_sub rfl
    · cases c
  | .swp y i y2 j a b => sndS_of fun X C k st x c => by
    split at c
    · simp only [Bool.and_eq_true] at c
      obtain ⟨⟨⟨⟨⟨⟨⟨⟨⟨c1, c2⟩, c3⟩, c4⟩, c5⟩, c6⟩, c7⟩, c8⟩, c9⟩, c10⟩ := c
      refine ss_swp x.x.calm ((sound G hG y).e X C k _ x.x c1).1 ((sound G hG i).e X C k _ x.x c2).1 c3 ((sound G hG y2).e X C k _ x.x c4).1 ((sound G hG j).e X C k _ x.x c5).1 c6 c7 c8 ((sound G hG a).e X C k _ x.x c9).1 ((sound G hG b).e X C k _ x.x c10).1 (nosw ?_)
      simp [noSwB]
    · cases c
  | .app y e => sndS_of fun X C k st x c => by
    split at c
    · simp only [Bool.and_eq_true, decide_eq_true_eq] at c
      obtain ⟨⟨⟨⟨rfl, c2⟩, c3⟩, c4⟩, c5⟩ := c
      exact ss_app c2 ((sound G hG y).e X C k _ x.x c3).1 c4 ((sound G hG e).e X C k _ x.x c5).1
    · cases c
  | .ext y e => sndS_of fun X C k st x c => by
    split at c
    · simp only [Bool.and_eq_true, decide_eq_true_eq] at c
      obtain ⟨⟨⟨⟨rfl, c2⟩, c3⟩, c4⟩, c5⟩ := c
      exact ss_ext c2 ((sound G hG y).e X C k _ x.x c3).1 c4 ((sound G hG e).e X C k _ x.x c5).1
    · cases c
  | .newN i e => sndS_of fun X C k st x c => by
    split at c
    · rw [Bool.and_eq_true] at c
      exact set_newN G hG x c.1 c.2
    · cases c
  | .ixsF y i e => sndS_of fun X C k st x c => by
    split at c
    · simp only [Bool.and_eq_true, Bool.not_eq_true'] at c
      obtain ⟨⟨⟨c1, c2⟩, c3⟩, c4⟩ := c
      exact ss_ixsF ((sound G hG y).e X C k _ x.x c1).1 ((sound G hG i).e X C k _ x.x c2).1 c3 ((sound G hG e).f X C k _ x.x c4) sw_sub rfl
    · cases c
  | .swn y i y2 j a b => sndS_of fun X C k st x c => by
    split at c
    · simp only [Bool.and_eq_true] at c
      obtain ⟨⟨⟨⟨⟨⟨⟨⟨⟨c1, c2⟩, c3⟩, c4⟩, c5⟩, c6⟩, c7⟩, c8⟩, c9⟩, c10⟩ := c
      refine ss_swn x.x.calm ((sound G hG y).e X C k _ x.x c1).1 ((sound G hG i).e X C k _ x.x c2).1 c3 ((sound G hG y2).e X C k _ x.x c4).1 ((sound G hG j).e X C k _ x.x c5).1 c6 c7 c8 ((sound G hG a).e X C k _ x.x c9).1 ((sound G hG b).e X C k _ x.x c10).1 (nosw ?_)
      simp [noSwB]
    · cases c
  | .appF y e => sndS_of fun X C k st x c => by
    split at c
    · simp only [Bool.and_eq_true, decide_eq_true_eq] at c
      obtain ⟨⟨⟨⟨rfl, c2⟩, c3⟩, c4⟩, c5⟩ := c
      exact ss_appF c2 ((sound G hG y).e X C k _ x.x c3).1 c4 ((sound G hG e).f X C k _ x.x c5)
    · cases c
  | .expr e => sndS_of fun X C k st x c => by
    split at c
    · simp only [Bool.and_eq_true, Bool.not_eq_true'] at c
      exact ss_expr ((sound G hG e).e X C k _ x.x c.1).1 (sw_none c.2)
    · cases c
  | .ife d a b => sndS_of fun X C k st x c => by
    split at c
    · simp only [Bool.and_eq_true] at c
      exact ss_if ((sound G hG d).e X C k _ x.x c.1.1).2.1 ((soundS G hG a).b X C k _ x c.1.2) ((soundS G hG b).b X C k _ x c.2)
    · cases c
  | .for_ is tp it b => sndS_of fun X C k st x c => by
    split at c
    · simp only [Bool.and_eq_true] at c
      obtain ⟨⟨c1, c2⟩, c3⟩ := c
      exact ss_for x.pas x.x.calm ((sound G hG it).i X C k _ tp _ x.x c1 (tgt_tup c2)) (pg_of (ok := cellOrLoc C.sc) x.x.calm x.x.nd (fun n hn => ⟨by rw [x.x.sc]; exact loc_of hn, .inl (x.fn n)⟩) (by rw [x.x.N]; exact c2)) ((soundS G hG b).b X C k _ x c3) (folded_none (chk_notSet it c1))
    · cases c
  | .whl d b => sndS_of fun X C k st x c => by
    split at c
    · simp only [Bool.and_eq_true] at c
      exact ss_whl x.pas ((sound G hG d).e X C k _ x.x c.1).2.1 ((soundS G hG b).b X C k _ x c.2)
    · cases c
  | .ret e => sndS_of fun X C k st x c => by
    split at c
    · exact ss_ret ((sound G hG e).e X C k _ x.x c).1
    · cases c
  | .retF e => sndS_of fun X C k st x c => by
    split at c
    · exact ss_retF ((sound G hG e).f X C k _ x.x c)
    · cases c
  | .retN => sndS_of fun X C k st x c => by
    split at c
    · exact ss_retN
    · cases c
  | .brk => sndS_of fun X C k st x c => by
    split at c
    · exact ss_brk
    · cases c
  | .cont => sndS_of fun X C k st x c => by
    split at c
    · exact ss_cont
    · cases c
  | .bad => sndS_of fun X C k st x c => ss_bad
  | .setP is e => sndS_of fun X C k st x c => by
    split at c
    · rename_i t v q
      rw [Bool.and_eq_true, Bool.and_eq_true, Bool.and_eq_true, Bool.not_eq_true'] at c
      obtain ⟨⟨⟨c1, c2⟩, c3⟩, c4⟩ := c
      have hg : PG X t (gT X.K is true) := pg_of (ok := cellOrLoc C.sc) x.x.calm x.x.nd (fun n hn => ⟨by rw [x.x.sc]; exact loc_of hn, .inl (x.fn n)⟩) (by rw [x.x.N]; exact c1)
      obtain ⟨elts, kk, tpos, rfl⟩ := tgt_tup c1 rfl
      exact ss_setP hg ((sound G hG e).e X C k v x.x c2).1 (sw_sole_tup c3) ((Bool.or_eq_true _ _ ▸ c4 : noSwB _ v = true ∨ celB C.sc _ v = true).elim nosw fun c => nosw_cel (by rw [x.x.sc]; exact c)) rfl
    · cases c
  | .forN i y b => sndS_of fun X C k st x c => by
    split at c
    · simp only [Bool.and_eq_true, nmOk, decide_eq_true_eq] at c
      obtain ⟨⟨⟨c1, c2⟩, c3⟩, c4⟩ := c
      exact ss_forN x.pas x.x.calm x.x.nd (by rw [x.x.N]; exact c1) (by rw [x.x.sc]; exact loc_of c2) (.inl (x.fn _)) ((sound G hG y).e X C k _ x.x c3).1 ((soundS G hG b).b X C k _ x c4) (folded_none (chk_notSetE y c3))
    · cases c
  | .ins y i e => sndS_of fun X C k st x c => by
    split at c
    · simp only [Bool.and_eq_true, decide_eq_true_eq] at c
      obtain ⟨⟨⟨⟨⟨⟨rfl, c2⟩, c3⟩, c4⟩, c5⟩, c6⟩, c7⟩ := c
      exact ss_ins c2 ((sound G hG y).e X C k _ x.x c3).1 c4 c5 ((sound G hG i).e X C k _ x.x c6).1 ((sound G hG e).e X C k _ x.x c7).1
    · cases c
  | .rvs y => sndS_of fun X C k st x c => by
    split at c
    · simp only [Bool.and_eq_true, decide_eq_true_eq] at c
      obtain ⟨⟨rfl, c2⟩, c3⟩ := c
      exact ss_rvs c2 ((sound G hG y).e X C k _ x.x c3).1
    · cases c
  | .raise _ _ => sndS_of fun X C k st x c => by cases c
  | .xs _ _ => sndS_of fun X C k st x c => by cases c
  | .tryA _ _ _ => sndS_of fun X C k st x c => by cases c
end
end Px

/-! Px14: defs, level by level; the law's end. -/
namespace Px
open PySem PySem.Spec PyProof.Rows L2

theorem rdl_len {K : PySem.W.Frag} {m : Wd} {n : Nat} {vs : List V} {ds : List D} (h : RDL K m n vs ds) : vs.length = ds.length := by
  induction h with
  | nil => rfl
  | cons _ _ ih => simp [ih]
theorem rdl_get {K : PySem.W.Frag} {m : Wd} {n : Nat} {vs : List V} {ds : List D} (h : RDL K m n vs ds) : ∀ (i : Nat) d, ds[i]? = some d → ∃ v, vs[i]? = some v ∧ RD K m n v d := by
  induction h with
  | nil => intro i d e; simp at e
  | cons r _ ih =>
    intro i d e
    cases i with
    | zero =>
      simp only [List.getElem?_cons_zero, Option.some.injEq] at e
      subst e
      exact ⟨_, rfl, r⟩
    | succ i =>
      simp only [List.getElem?_cons_succ] at e ⊢
      exact ih i d e
/-- the names at a def's start -/
theorem sr_start {K : PySem.W.Frag} {m : Wd} {n : Nat} {vs : List V} {ds : List D} {N : List Str} (h : RDL K m n vs ds) {j : Nat} (hj : j = N.length - vs.length) : SR K m n (L2.start N vs) (ds.map some ++ List.replicate j none) := by
  subst hj
  refine ⟨by unfold L2.start; simp [rdl_len h], fun i d e => ?_⟩
  unfold L2.start
  by_cases hi : i < ds.length
  · rw [List.getElem?_append_left (by simpa using hi), List.getElem?_map] at e
    cases q : ds[i]? with
    | none => rw [q] at e; cases e
    | some z =>
      rw [q] at e
      cases e
      obtain ⟨v, e1, e2⟩ := rdl_get h i d q
      refine ⟨v, ?_, e2⟩
      rw [List.getElem?_append_left (by rw [List.length_map, rdl_len h]; exact hi), List.getElem?_map, e1]
      rfl
  · rw [List.getElem?_append_right (by simpa using hi), List.getElem?_replicate] at e
    split at e <;> cases e

theorem rdl_below {K : PySem.W.Frag} {m : Wd} {n k : Nat} {vs : List V} {ds : List D} (h : RDL K m n vs ds) (b : ds.all (D.below k) = true) : RDL K m k vs ds := by
  induction h with
  | nil => exact .nil
  | @cons v vs d ds r _ ih =>
    rw [List.all_cons, Bool.and_eq_true] at b
    refine .cons ?_ (ih b.2)
    cases d with
    | p _ => exact r
    | s _ => exact r
    | t xs =>
      obtain ⟨a, ws, e, h1, h2⟩ := r
      refine ⟨a, ws, e, h1, ?_⟩
      have b1 : (xs.all fun x => match x with
        | .inr n => decide (n < k)
        | .inl _ => true) = true := b.1
      clear h1
      induction h2 with
      | nil => exact .nil
      | inl r _ ih =>
        rw [List.all_cons, Bool.and_eq_true] at b1
        exact .inl r (ih ⟨b1.2, b.2⟩ b1.2)
      | inr hk _ ih =>
        rw [List.all_cons, Bool.and_eq_true] at b1
        exact .inr (of_decide_eq_true b1.1) (ih ⟨b1.2, b.2⟩ b1.2)
    | r j => exact ⟨of_decide_eq_true b.1, r.2⟩
theorem handed_ok {K : PySem.W.Frag} {m m1 : Wd} {h h1 h' : List O} {H H1 : Hp} {Q : VK} {dd : D} {v : V} {r : PyData × Bool} (E1 : Ext m m1 h h1 H H1) (R1 : Rel K m1 h1 H1) (rv : RD K m1 h1.length v dd) (e : handed h.length dd h1 = .ok r h')
    (q : ∀ m' v H', Ext m m' h h' H H' → Rel K m' h' H' → HR K m' h'.length H H' v r → Q v H') : Q v H1 := by
  have hl : (h1.take h.length).length = h.length := by rw [List.length_take]; exact Nat.min_eq_left E1.len
  have tk : ∀ (n : Nat) o, (h1.take h.length)[n]? = some o → h1[n]? = some o ∧ n < h.length := fun n o z => by
    have hn : n < h.length := by
      have := (List.getElem?_eq_some_iff.mp z).1
      rwa [hl] at this
    rw [List.getElem?_take_of_lt hn] at z
    exact ⟨z, hn⟩
  have E2 : Ext m m1 h (h1.take h.length) H H1 := ⟨E1.g, E1.io, Nat.le_of_eq hl.symm, E1.fr, fun n a b => absurd (Nat.lt_of_lt_of_le b (Nat.le_of_eq hl)) (Nat.not_lt.mpr a), E1.gn⟩
  unfold handed at e
  by_cases hcl : (h1.take h.length).all (O.cl h.length) = true
  case neg =>
    rw [if_neg hcl] at e
    cases dd with
    | p d =>
      simp only [Out.ok.injEq] at e
      obtain ⟨rfl, rfl⟩ := e
      exact q m1 v H1 E1 R1 (.inl ⟨rfl, rv⟩)
    | s xs => cases e
    | t xs => cases e
    | r n => cases e
  rw [if_pos hcl] at e
  have R2 : Rel K m1 (h1.take h.length) H1 := ⟨R1.sub, fun n xs z => R1.liv n xs (tk n _ z).1, fun n xs z => R1.frz n xs (tk n _ z).1, fun n xs z => by
      obtain ⟨g, vs, a, b⟩ := R1.nst n xs (tk n _ z).1
      exact ⟨g, vs, a, by rw [hl]; exact rdl_below b (List.all_eq_true.mp hcl _ (List.mem_of_getElem? z))⟩, fun i j a b => R1.inj i j (Nat.lt_of_lt_of_le a (Nat.le_trans (Nat.le_of_eq hl) E1.len)) (Nat.lt_of_lt_of_le b (Nat.le_trans (Nat.le_of_eq hl) E1.len)), R1.tab, R1.gt⟩
  cases dd with
  | p d =>
    simp only [Out.ok.injEq] at e
    obtain ⟨rfl, rfl⟩ := e
    exact q m1 v H1 E2 R2 (.inl ⟨rfl, rv⟩)
  | s xs => cases e
  | t xs => cases e
  | r n =>
    obtain ⟨hn, rfl⟩ := rv
    dsimp only at e
    split at e
    · rename_i xs z
      split at e
      · rename_i hk
        simp only [Out.ok.injEq] at e
        obtain ⟨rfl, rfl⟩ := e
        obtain ⟨g, vs, h2, h3⟩ := R1.liv n xs z
        refine q m1 _ H1 E2 R2 (.inr ⟨rfl, _, vs, xs, rfl, rfl, h2, h3, g, fun k hkn zz => ?_, E1.nw n hk hn⟩)
        rw [hl] at hkn
        have := R1.inj k n (Nat.lt_of_lt_of_le hkn E1.len) hn zz
        omega
      · cases e
    · rename_i xs z
      simp only [Out.ok.injEq] at e
      obtain ⟨rfl, rfl⟩ := e
      obtain ⟨vs, h2, h3⟩ := R1.frz n xs z
      exact q m1 _ H1 E2 R2 (.inl ⟨rfl, .lst h2 h3⟩)
    · cases e
    · cases e
/-- a def: its name, its text, its slots, its parameters, its term -/
structure Df where
  x : Str
  st : Stmt
  N : List Str
  ps : List Str
  fn : Fn
def scB (N P : List Str) (sc : Scope) : Bool := decide (sc.kind = .function) && !sc.isCoroutine && !sc.isGenerator && decide N.Nodup && decide (N.take P.length = P) &&
  P.all (fun x => cellOrLoc sc x) && sc.names.all (fun y => !decide (y.2 = .free))
theorem sc_of {N P : List Str} {sc : Scope} (h : scB N P sc = true) : FnScope N P sc := by
  simp only [scB, Bool.and_eq_true, decide_eq_true_eq, Bool.not_eq_true', decide_eq_false_iff_not] at h
  obtain ⟨⟨⟨⟨⟨⟨h1, h2⟩, h3⟩, h4⟩, h5⟩, h6⟩, h7⟩ := h
  refine ⟨h1, h2, h3, h4, h5, fun x hx => loc_of (List.all_eq_true.mp h6 x hx), fun y hy => ?_⟩
  have := List.all_eq_true.mp h7 y hy
  simpa using this
/-- what is looked at once -/
def dfB (fns gls dss : List Str) (d : Df) : Bool := scB d.N d.ps (defScope d.st) && decide (d.fn.np = d.ps.length) && decide (d.fn.ns = d.N.length) && (chkS d.fn.body).b ⟨d.N, defScope d.st, fns, gls, dss, lamNames.contains d.x⟩ (defBody d.st)

theorem mem_cs {K : PySem.W.Frag} {x : Str} {cp : Addr × Addr} (hx : x ∈ lamNames) (h : PySem.W.tabIn K x = some cp) : cp ∈ csOf K := by
  unfold csOf
  exact List.mem_filterMap.mpr ⟨x, hx, h⟩
theorem mem_tb {K : PySem.W.Frag} {x : Str} {cp : Addr × Addr} (hx : x ∈ lamNames) (h : PySem.W.tabIn K x = some cp) : (cp.2, x ++ ".<locals>." ++ "<lambda>") ∈ tbOf K := by
  unfold tbOf
  exact List.mem_filterMap.mpr ⟨x, hx, by rw [h]; rfl⟩
theorem env_q {x : Str} {sc : Scope} {n : Addr} {fa : Addr} {cdv : Value} : (envOfC x sc n fa cdv).qual = x ++ ".<locals>." := rfl
section
variable {P : Program} {w : World} {K : PySem.W.Frag} {mg : Str → Option Value} {base : Heap}
/-- what stands behind the top -/
structure Top (K : PySem.W.Frag) (w : World) (mg : Str → Option Value) (Ds : List Df) (gl : Pg) (gls dss : List Str) (fa : Nat → Addr) : Prop where
  fn : ∀ (i : Nat) d, Ds[i]? = some d → ∃ fd, Fun K d.x d.x d.st (fa i) fd ∧ Binds K fd d.ps [] ∧ mg d.x = some (.ref (fa i))
  blt : ∀ x ∈ bltNames, mg x = none
  gok : ∀ (g : Nat) d x, gl.gl[g]? = some d → gls[g]? = some x → ∃ v u, mg x = some u ∧ RelV v u ∧ ∀ G, Rp K G v d
  dok : ∀ (g : Nat) t x, gl.ds[g]? = some t → dss[g]? = some x → ∃ a, mg x = some (.ref a) ∧ KTab K w a t
  chk : Ds.all (dfB (Ds.map (·.x)) gls dss) = true
  lam : ∀ d ∈ Ds, lamNames.contains d.x = true → (PySem.W.tabIn K d.x).isSome = true
  tu : ∀ p ∈ tbOf K, ∀ q ∈ tbOf K, p.1 = q.1 → p.2 = q.2
theorem level {Ds : List Df} {gl : Pg} {gls dss : List Str} {fa : Nat → Addr} (T : Top K w mg Ds gl gls dss fa) (TB : ∀ p ∈ csOf K, LamX.TabB base mg p.1 p.2) : ∀ (n i : Nat), i < Ds.length → FG P w K mg base n (fa i) (spD K (callN gl (Ds.map (·.fn)) n i))
  | 0, i, hi => ⟨fun A outer s H us vs Q hr hg e0 hv ⟨m, h, ds, r, h', R, rl, e, q⟩ => (no_ok.mp e).elim⟩
  | n + 1, i, hi => ⟨fun A outer s H us vs Q hr hg e0 hv ⟨m, h, ds, r, h', R, rl, e, q⟩ => by
    have hd := List.getElem?_eq_getElem hi
    obtain ⟨fd, F, hb, hm⟩ := T.fn i _ hd
    have hc := List.all_eq_true.mp T.chk _ (List.getElem_mem hi)
    revert F hb hm hc
    generalize Ds[i] = d at hd
    intro F hb hm hc
    simp only [dfB, Bool.and_eq_true, decide_eq_true_eq] at hc
    obtain ⟨⟨⟨c1, c2⟩, c3⟩, c4⟩ := hc
    have S := sc_of c1
    have e : runFn gl (callN gl (Ds.map (·.fn)) n) d.fn ds h = .ok r h' := by
      have : callN gl (Ds.map (·.fn)) (n + 1) i ds h = runFn gl (callN gl (Ds.map (·.fn)) n) d.fn ds h := by
        simp only [callN, List.getElem?_map, hd, Option.map_some]
      rw [← this]; exact e
    unfold runFn at e
    by_cases hlen : ds.length = d.fn.np
    case neg => rw [if_neg hlen] at e; cases e
    rw [if_pos hlen] at e
    have hl : vs.length = d.ps.length := by rw [rdl_len rl, hlen, c2]
    have hul : us.length = d.ps.length := by rw [← hl]; exact hv.length.symm
    obtain ⟨oc, od, kV, doc, pm, an, cdv, ct, osl, rfl, lk, hcd⟩ := F.ex
    have KX : K.In s.heap := e0.mod.kin.keeps fun b o e => (e0.bs b o e).1
    have lim : s.heap.NoLimit := e0.mod.nolimit.keeps fun b o e => (e0.bs b o e).1
    have hbs := hb s us KX (by rw [List.append_nil]; exact hul)
    rw [List.append_nil] at hbs
    have hkind : ∀ y ∈ d.ps.zip us, (defScope d.st).names.lookup y.1 = some .local ∨ ((defScope d.st).names.lookup y.1 = some .cell ∧ ((cellsFrom (s.heap.objs.size + 1) (defScope d.st).names []).lookup y.1).isSome = true) := fun ⟨k, v⟩ hy => by
      rcases S.par k (List.of_mem_zip hy).1 with q | q
      · exact .inl q
      · exact .inr ⟨q, PySem.W.cellsFrom_some _ _ _ (.inl q)⟩
    refine codeAny_call_function hr.depth (KX _ _ lk) rfl S.co S.gen rfl (PySem.W.codeRec_of KX hcd) (hbs _ _ _ _ ?_)
    refine wpAny_newFunctionEnv_cells S.kind hkind fun env he s1 x => ?_
    subst he
    refine ⟨lim.keeps x.toInCall.keep, codeAny_func ?_⟩
    have I : Inv (cxOf L2.CX0 P w K mg base d.N d.x (defScope d.st) (fa i) cdv A outer s H L2.E0) [] (L2.start d.N vs) H s1 := inv_start S hr.hd e0 hl hv x
    have XX : SOk (cxOf L2.CX0 P w K mg base d.N d.x (defScope d.st) (fa i) cdv A outer s H L2.E0).nox ⟨d.N, defScope d.st, Ds.map (·.x), gls, dss, lamNames.contains d.x⟩ gl (callN gl (Ds.map (·.fn)) n) n := by
      refine ⟨⟨rfl, S.nd, rfl, rfl, hg, ?_, fun _ => hr.deeper _, T.blt, T.gok, T.dok, fun f x hf => ?_, fun hlam => ?_⟩, S.kind, fun _ => rfl, PassesOwn.never⟩
      · have := (hr.deeper (envOfC d.x (defScope d.st) s.heap.objs.size (fa i) cdv)).un
        show (A.deeper (envOfC d.x (defScope d.st) s.heap.objs.size (fa i) cdv)).units + 70 < cLine
        omega
      · rw [List.getElem?_map] at hf
        cases q : Ds[f]? with
        | none => rw [q] at hf; cases hf
        | some d2 =>
          rw [q] at hf
          cases hf
          obtain ⟨fd2, F2, _, m2⟩ := T.fn f _ q
          exact ⟨fa f, m2, F2.kp, level T TB n f (List.getElem?_eq_some_iff.mp q).1⟩
      · have hlam : lamNames.contains d.x = true := hlam
        obtain ⟨cp, hcp⟩ := Option.isSome_iff_exists.mp (T.lam d (List.mem_of_getElem? hd) hlam)
        have hmem : d.x ∈ lamNames := by simpa using hlam
        have hcode := PySem.W.law_code (c := cp.1) (P := cp.2) e0.mod.kin e0.mod.glob hcp hm (e0.mod.kin _ _ lk) rfl
        have htb := mem_tb hmem hcp
        have hbb := TB cp (mem_cs hmem hcp)
        generalize hqq : d.x ++ ".<locals>." ++ "<lambda>" = qq at htb
        refine ⟨cp.1, cp.2, hcode, hbb, ?_, ?_⟩
        · have : (cp.2, (envOfC d.x (defScope d.st) s.heap.objs.size (fa i) cdv).qual ++ "<lambda>") ∈ tbOf K := by rw [env_q, hqq]; exact htb
          exact this
        · intro p hp e
          have : p.2 = (envOfC d.x (defScope d.st) s.heap.objs.size (fa i) cdv).qual ++ "<lambda>" := by rw [env_q, hqq]; exact T.tu p hp _ htb e
          exact this
    have ht := ((soundS (F := callN gl (Ds.map (·.fn)) n) gl rfl d.fn.body).b _ _ _ _ XX c4).nox
    obtain ⟨⟨fl, ρ1⟩, h1, e1, e⟩ := bnd_ok.mp e
    have hq : tS K (exec gl (callN gl (Ds.map (·.fn)) n) d.fn.body) { nx := fun _ H' => Q .non H', rt := Q } (L2.start d.N vs) H := by
      refine ⟨m, _, h, (fl, ρ1), h1, R, sr_start rl (j := d.fn.ns - d.fn.np) (by rw [c3, c2, hl]), e1, fun m1 σ1 H1 E1 R1 S1 => ?_⟩
      cases fl with
      | nx =>
        exact handed_ok (dd := .p .none) E1 R1 .non e q
      | bk => exact (no_ok.mp e).elim
      | ct => exact (no_ok.mp e).elim
      | ex x =>
        dsimp only at e
        split at e <;> cases e
      | rt dd =>
        intro v rv
        exact handed_ok E1 R1 rv e q
    refine wpAny_mono (ht.run [] s1 (L2.start d.N vs) H _ I hq) (fun fl s' hs => ?_) fun e s' hs => hs
    have fin : ∀ {σ' : L2.St} {H' : Hp} {v : V} {u : Value}, Inv (cxOf L2.CX0 P w K mg base d.N d.x (defScope d.st) (fa i) cdv A outer s H L2.E0) [] σ' H' s' → RelV v u → Q v H' → CE outer P w H s Q u s' :=
      fun {σ' H' v u} J rv q => ⟨v, H', J.os, J.bare, J.base, J.hok, rv, q⟩
    cases fl with
    | ret u =>
      obtain ⟨v, σ', H', J, rv, q⟩ := hs
      exact fin J rv q
    | next =>
      obtain ⟨σ', H', J, q⟩ := hs
      exact fin (v := V.non) (u := Value.none) J rfl q
    | brk =>
      obtain ⟨_, _, _, q⟩ := hs
      exact False.elim q
    | cont =>
      obtain ⟨_, _, _, q⟩ := hs
      exact False.elim q⟩
end
end Px

/-! Px15: the law's end. -/
namespace Px
open PySem PySem.Spec PyProof.Rows L2

theorem rpl_ints {K : PySem.W.Frag} {H : Hp} : ∀ ns : List Int, RpL K H (ns.map V.int) (ns.map PyData.int)
  | [] => .nil
  | n :: r => .cons (.int n) (rpl_ints r)
/-! the heap at the start: the tables of the code objects, and the script -/
def withT (ts : List Addr) (A : Hp) : Hp := fun b => if b ∈ ts then some (.tbl #[]) else A b
theorem withT_in {ts : List Addr} {A : Hp} {b : Addr} (h : b ∈ ts) : withT ts A b = some (.tbl #[]) := if_pos h
theorem withT_out {ts : List Addr} {A : Hp} {b : Addr} (h : b ∉ ts) : withT ts A b = A b := if_neg h
abbrev tsOf (cs : List (Addr × Addr)) : List Addr := cs.map (·.2)
theorem tb_cs {K : PySem.W.Frag} {p : Addr × Str} (h : p ∈ tbOf K) : p.1 ∈ tsOf (csOf K) := by
  unfold tbOf at h
  obtain ⟨x, hx, e⟩ := List.mem_filterMap.mp h
  cases q : PySem.W.tabIn K x with
  | none => rw [q] at e; cases e
  | some cp =>
    rw [q] at e
    have e' : (cp.2, x ++ ".<locals>." ++ "<lambda>") = p := Option.some.inj e
    rw [← e']
    exact List.mem_map.mpr ⟨cp, mem_cs hx q, rfl⟩
theorem tb_start {K : PySem.W.Frag} {A : Hp} : LamX.Tabs (tbOf K) (withT (tsOf (csOf K)) A) := fun _ hp => .nil (withT_in (tb_cs hp))
/-- the def of the law at the script -/
theorem sp_law {K : PySem.W.Frag} {F : Callee} {ns : List Int} {A H : Hp} {a : Addr} {b : Bool} {h' : List O} (sA : Sub A H) (gA : ∀ a ps, A a ≠ some (.tbl ps)) (tH : LamX.Tabs (tbOf K) H) (hS : SqL K A a (ns.map V.int)) (e : F [.s (ns.map .int)] [] = .ok (.bool true, b) h') : spD K F [.ref a] H fun v _ => v = .bl true := by
  refine ⟨⟨A, fun _ => a⟩, [], [.s (ns.map .int)], _, h', ⟨sA, fun n xs z => by simp at z, fun n xs z => by simp at z, fun n xs z => by simp at z, fun i j z => by simp at z, tH, gA⟩, .cons ⟨a, _, rfl, hS, rpl_ints ns⟩ .nil, e, fun m' v H' E R hr => ?_⟩
  rcases hr with ⟨_, hr⟩ | ⟨_, p, vs, xs, z, _⟩
  · cases hr
    rfl
  · cases z
/-- no script, no table -/
def bareD : Data → Bool
  | .seq _ _ => false
  | .fields fs => fs.size != 0
  | _ => true
/-- what stands at the start of the law's call -/
structure At0 (P : Program) (w : World) (K : PySem.W.Frag) (mg : Str → Option Value) (a : Addr) (ns : List Int) (s₁ : Shared) : Prop where
  ki : K.In s₁.heap
  g : s₁.heap.Ns mainGlobals mg
  b : ∃ mb, s₁.heap.Ns builtinsNs mb ∧ ∀ x : Str, x ≠ "__name__" → mb x = bootBuiltins x
  lim : s₁.heap.NoLimit
  gens : s₁.gens = #[]
  scr : ∃ vs : List Value, s₁.heap.get? a = some { cls := .type "list", data := .seq vs.toArray } ∧ IntsAre vs ns
  few : ns.length ≤ sizeLine
  tab : ∀ p ∈ csOf K, s₁.heap.get? p.2 = some (PySem.W.tabObj #[]) ∧ K.lookup p.2 = none ∧ PySem.W.CodeHd s₁.heap p.1 p.2
  bm : ∃ (bm : Addr) (ob : Obj), mg "__builtins__" = some (.ref bm) ∧ bm ≠ builtinsNs ∧ s₁.heap.get? bm = some ob ∧ ob.cls = .type "module" ∧ ob.dict = some builtinsNs ∧ ob.data = .plain
section
variable {P : Program} {w : World} {K : PySem.W.Frag} {mg : Str → Option Value} {a : Addr} {ns : List Int} {s₁ : Shared}
theorem At0.isT (S : At0 P w K mg a ns s₁) {b : Addr} (h : b ∈ tsOf (csOf K)) : s₁.heap.get? b = some (PySem.W.tabObj #[]) := by
  obtain ⟨p, hp, e⟩ := List.mem_map.mp h
  rw [← e]; exact (S.tab p hp).1
theorem At0.aT (S : At0 P w K mg a ns s₁) : a ∉ tsOf (csOf K) := fun z => by
  obtain ⟨vs, e, _⟩ := S.scr
  have q := S.isT z
  rw [e] at q
  exact nomatch congrArg Obj.data (Option.some.inj q)
theorem withT_hok {A : Hp} {h : Heap} {ts : List Addr} (hO : ∀ b, A b = none ∨ ∃ o xs, A b = some (.frz o (.lst xs))) (hA : HOk P w A h) (hT : ∀ b ∈ ts, h.get? b = some (PySem.W.tabObj #[])) : HOk P w (withT ts A) h := fun b u z => by
  by_cases hb : b ∈ ts
  · rw [withT_in hb] at z
    cases z
    exact hT b hb
  · rw [withT_out hb] at z
    rcases hO b with q | ⟨o, xs, q⟩
    · rw [q] at z; cases z
    · have := hA b _ q
      rw [q] at z; cases z
      exact this
/-- what is not tracked lies in the base -/
theorem At0.free (S : At0 P w K mg a ns s₁) {A : Hp} (hA : ∀ b, A b ≠ none → b = a) {b : Addr} {o : Obj} (e : s₁.heap.get? b = some o) (d : bareD o.data = true) : withT (tsOf (csOf K)) A b = none := by
  by_cases hb : b ∈ tsOf (csOf K)
  · rw [S.isT hb] at e
    cases e
    cases d
  · rw [withT_out hb]
    cases q : A b with
    | none => rfl
    | some u =>
      obtain ⟨vs, e2, _⟩ := S.scr
      rw [hA b (by rw [q]; simp), e2] at e
      cases e
      cases d
theorem At0.base (S : At0 P w K mg a ns s₁) {A : Hp} (hA : ∀ b, A b ≠ none → b = a) {b : Addr} {o : Obj} (e : s₁.heap.get? b = some o) (d : bareD o.data = true) : (L2.hidT s₁.heap (withT (tsOf (csOf K)) A)).get? b = some o := L2.hidT_get e (S.free hA e d)
theorem At0.nsp (S : At0 P w K mg a ns s₁) {A : Hp} (hA : ∀ b, A b ≠ none → b = a) {b : Addr} {m : Str → Option Value} : s₁.heap.Ns b m → (L2.hidT s₁.heap (withT (tsOf (csOf K)) A)).Ns b m := fun ⟨o, es, ep, e, d, r⟩ => ⟨o, es, ep, S.base hA e (by rw [d]; rfl), d, r⟩
theorem At0.kin (S : At0 P w K mg a ns s₁) {A : Hp} (hA : ∀ b, A b ≠ none → b = a) (hK : A a ≠ none → K.lookup a = none) : K.In (L2.hidT s₁.heap (withT (tsOf (csOf K)) A)) := fun b o e => L2.hidT_get (S.ki b o e) (by
  by_cases hb : b ∈ tsOf (csOf K)
  · obtain ⟨p, hp, q⟩ := List.mem_map.mp hb
    rw [← q, (S.tab p hp).2.1] at e
    cases e
  · rw [withT_out hb]
    cases q : A b with
    | none => rfl
    | some u =>
      have e' : b = a := hA b (by rw [q]; simp)
      subst e'
      rw [hK (by rw [q]; simp)] at e
      cases e)
theorem At0.tb (S : At0 P w K mg a ns s₁) {A : Hp} (hA : ∀ b, A b ≠ none → b = a) : ∀ p ∈ csOf K, LamX.TabB (L2.hidT s₁.heap (withT (tsOf (csOf K)) A)) mg p.1 p.2 := fun p hp => by
  obtain ⟨t1, _, t3⟩ := S.tab p hp
  constructor
  · obtain ⟨o, us, f, tf, fl, tg, iF, tx, tt, e1, r1, r2, r3, r⟩ := t3
    refine ⟨o, us, f, tf, fl, tg, iF, tx, tt, S.base hA e1 ?_, r1, r2, r3, r⟩
    rw [r2]
    have : us.size ≠ 0 := fun z => by
      rw [Array.getElem?_eq_none (by omega)] at r3
      cases r3
    simpa [bareD] using this
  · obtain ⟨bm, ob, b1, b2, b3, b4, b5, b6⟩ := S.bm
    refine ⟨bm, ob, b1, b2, fun q => ?_, fun q => ?_, S.base hA b3 (by rw [b6]; rfl), b4, b5, b6⟩
    · obtain ⟨o, es, ep, e, hd, _⟩ := S.g
      rw [q, e] at b3
      cases b3
      exact nomatch hd.symm.trans b6
    · rw [q, t1] at b3
      cases b3
      cases b6
  · intro z
    obtain ⟨o, es, ep, e, hd, _⟩ := S.g
    rw [z, t1] at e
    cases e
    cases hd
/-- the end, from the heap in which A and the tables are tracked -/
theorem At0.go (S : At0 P w K mg a ns s₁) {k : Nat} {fa : Addr} {F : Callee} {b : Bool} {h' : List O} {A : Hp} (hA : ∀ b, A b ≠ none → b = a) (hK : A a ≠ none → K.lookup a = none) (hO : ∀ b, A b = none ∨ ∃ o xs, A b = some (.frz o (.lst xs))) (hS : SqL K A a (ns.map V.int)) (hok : HOk P w A s₁.heap) (hr : Room k callerA)
    (G : ∀ base : Heap, (∀ p ∈ csOf K, LamX.TabB base mg p.1 p.2) → FG P w K mg base k fa (spD K F)) (e : F [.s (ns.map .int)] [] = .ok (.bool true, b) h') :
    codeAny (model P w) callerA (.call (.ref fa) ⟨[.ref a], []⟩) (fun r s' => r = .ok (.ret (.bool true)) ∧ OldK s₁.heap s'.heap ∧ s'.os = s₁.os ∧ AllBare s'.gens) s₁ := by
  have sub : Sub A (withT (tsOf (csOf K)) A) := fun c u q => by
    have nc : c ∉ tsOf (csOf K) := fun z => S.aT (by rw [← hA c (by rw [q]; simp)]; exact z)
    rw [withT_out nc]; exact q
  have nt : ∀ c ps, A c ≠ some (.tbl ps) := fun c ps q => by
    rcases hO c with z | ⟨o, xs, z⟩
    · rw [q] at z; cases z
    · rw [q] at z; cases z
  have hokT : HOk P w (withT (tsOf (csOf K)) A) s₁.heap := withT_hok hO hok fun c hc => S.isT hc
  obtain ⟨mb, hb, hbb⟩ := S.b
  obtain ⟨mc, hc, hcc⟩ := S.lim
  have e0 : Env0 P w K mg (L2.hidT s₁.heap (withT (tsOf (csOf K)) A)) callerA [] s₁ (withT (tsOf (csOf K)) A) :=
    ⟨rfl, ⟨S.kin hA hK, S.nsp hA S.g, ⟨mb, S.nsp hA hb, hbb⟩, ⟨mc, S.nsp hA hc, hcc⟩⟩, fun _ _ e => L2.of_hidT e, Nat.le_of_eq (L2.hidT_size _ _), trivial, fun c hc => absurd (show c ∈ ([] : List Addr) from hc) (by simp), hokT, .of_eq S.gens⟩
  have run := (G _ (S.tb hA)).run callerA [] s₁ _ [.ref a] [.ref a] _ hr rfl e0 (.cons rfl .nil) (sp_law sub nt tb_start hS e)
  refine codeAny_mono run fun r s' h => ?_
  rcases r with e | fl
  · exact False.elim h
  cases fl with
  | next => exact False.elim h
  | brk => exact False.elim h
  | cont => exact False.elim h
  | ret u =>
    obtain ⟨v, H', os, bare, un, hok', r', q⟩ := h
    cases (show v = .bl true from q)
    cases (show u = Value.bool true from r')
    have old : ∀ c o, c ∉ tsOf (csOf K) → s₁.heap.get? c = some o → s'.heap.get? c = some o := fun c o nc e => by
      rcases hO c with z | ⟨ob, xs, z⟩
      · exact un.keep c o e (by rw [withT_out nc]; exact z) (by intro z; exact absurd (show c ∈ ([] : List Addr) from z) (by simp)) (by simp)
      · have z2 := un.frzs c ob _ (by rw [withT_out nc]; exact z)
        obtain ⟨e2, _⟩ := hok' c _ z2
        rw [(hok c _ z).1] at e
        cases e
        exact e2
    have new : ∀ p ∈ csOf K, ∃ more : Array Value, s'.heap.get? p.2 = some (PySem.W.tabObj more) := fun p hp => by
      obtain ⟨more, z⟩ := un.tbls p.2 #[] (withT_in (List.mem_map.mpr ⟨p, hp, rfl⟩))
      exact ⟨_, hok' p.2 _ z⟩
    refine ⟨rfl, OldK.mk (fun c o e => ?_) (fun c o e => ?_), os, bare⟩ <;> by_cases hc : c ∈ tsOf (csOf K)
    · obtain ⟨p, hp, q⟩ := List.mem_map.mp hc
      obtain ⟨more, hm⟩ := new p hp
      obtain ⟨t1, _, t3⟩ := S.tab p hp
      rw [← q] at e ⊢
      rw [t1] at e
      cases e
      refine .inr (.inl ⟨(PySem.W.CodeHd.tab t3 t1).isCodeTable, rfl, #[], more, rfl, ?_⟩)
      rw [Array.empty_append]
      exact hm
    · exact .inl (old c o hc e)
    · obtain ⟨p, hp, q⟩ := List.mem_map.mp hc
      obtain ⟨more, hm⟩ := new p hp
      exact ⟨_, by rw [← q]; exact hm⟩
    · exact ⟨o, old c o hc e⟩
theorem law_call {k : Nat} {fa : Addr} {F : Callee} {b : Bool} {h' : List O} (S : At0 P w K mg a ns s₁) (hr : Room k callerA)
    (G : ∀ base : Heap, (∀ p ∈ csOf K, LamX.TabB base mg p.1 p.2) → FG P w K mg base k fa (spD K F)) (e : F [.s (ns.map .int)] [] = .ok (.bool true, b) h') :
    codeAny (model P w) callerA (.call (.ref fa) ⟨[.ref a], []⟩) (fun r s' => r = .ok (.ret (.bool true)) ∧ OldK s₁.heap s'.heap ∧ s'.os = s₁.os ∧ AllBare s'.gens) s₁ := by
  obtain ⟨vs, ha, hi⟩ := S.scr
  have rv := L2.vals_ints hi
  have lenV := hi.length
  cases hk : K.lookup a with
  | some o =>
    have z := S.ki a o hk
    rw [ha] at z
    cases z
    exact S.go (A := fun _ => none) (fun _ z => absurd rfl z) (fun z => absurd rfl z) (fun _ => .inl rfl) (.inr ⟨_, vs.toArray, _, hk, rfl, rfl, rfl, by rw [List.size_toArray, lenV]; exact S.few, by simpa using rv⟩) (fun _ _ z => nomatch z) hr G e
  | none =>
    have at_ : ∀ c, (fun c => if c = a then some (HO.frz { cls := .type "list", data := .seq vs.toArray } (.lst (ns.map V.int))) else none : Hp) c = none ∨ c = a := fun c => by
      by_cases hc : c = a
      · exact .inr hc
      · exact .inl (if_neg hc)
    refine S.go (A := fun c => if c = a then some (.frz { cls := .type "list", data := .seq vs.toArray } (.lst (ns.map V.int))) else none) (fun c z => (at_ c).resolve_left z) (fun _ => hk) (fun c => ?_) (.inl (.inr ⟨{ cls := .type "list", data := .seq vs.toArray }, if_pos rfl⟩)) (fun c u z => ?_) hr G e
    · rcases at_ c with h | h
      · exact .inl h
      · exact .inr ⟨_, _, if_pos h⟩
    · rcases at_ c with h | h
      · have z' := h.symm.trans z
        cases z'
      · have z' := (if_pos h).symm.trans z
        cases z'
        subst h
        exact ⟨ha, by rw [List.length_map]; exact S.few, vs, _, rv, ha⟩
end
/-- the goal that k_head leaves, from the plain law -/
theorem walk {l : PySem.W.OpenLaw} {q : Program} {loose : List Str} {XP : (Str → Option Value) → Heap → Prop} {YP : World → Heap → Prop} {d : DefRec} {K : Params → PySem.W.Frag} {Ds : List Df} {gl : Pg} {gls dss : List Str} {k i : Nat}
    (hn : l.most = some 63) (hdf : d.params.defaults = []) (hr : Room k callerA) (hi : i < Ds.length)
    (hY : ∀ (w : World) (h : Heap), YP w h → (K w.params).In h)
    (hT : ∀ (w : World) (h : Heap), YP w h → (K w.params).In h → ∀ p ∈ csOf (K w.params), h.get? p.2 = some (PySem.W.tabObj #[]) ∧ (K w.params).lookup p.2 = none ∧ PySem.W.CodeHd h p.1 p.2)
    (T : ∀ (w : World) (mg : Str → Option Value) (f0 : Addr) (h : Heap), (K w.params).In h → h.Ns mainGlobals mg → mg d.name = some (.ref f0) → ∃ fa, Top (K w.params) w mg Ds gl gls dss fa ∧ fa i = f0)
    (plain : ∀ ns : List Int, ns.length ≤ 63 → (∀ z ∈ ns, Builtin.Int.intBits z ≤ 1048576) → ∃ b h', callN gl (Ds.map (·.fn)) k i [.s (ns.map .int)] [] = .ok (.bool true, b) h') :
    PySem.W.WalkO q loose XP YP l.row.toRowW d [] (fun f vs => PySem.call f vs) := by
  refine Att.attach_callB hn hdf fun w s₀ s₁ mg mb fa o pm cd doc a vs ns G Y ho hd hcd hmg hobj hints hlen hbits hg => ?_
  have KX := hY w _ Y
  obtain ⟨ad, tp, rfl⟩ := T w mg fa _ KX G.T.g hmg
  obtain ⟨b, h', e⟩ := plain ns hlen hbits
  exact law_call ⟨KX, G.T.g, ⟨mb, G.T.b, G.T.builtins⟩, G.T.nolimit, hg, ⟨vs, hobj, hints⟩, Nat.le_trans hlen (by decide), hT w _ Y KX, G.T.bmain⟩ hr (fun base tb => level tp tb k i hi) e
/-- no def holds a lambda -/
theorem no_lam {K : PySem.W.Frag} (e : csOf K = []) {h : Heap} : ∀ p ∈ csOf K, h.get? p.2 = some (PySem.W.tabObj #[]) ∧ K.lookup p.2 = none ∧ PySem.W.CodeHd h p.1 p.2 := fun p hp => by
  rw [e] at hp; cases hp
/-! what the top has written, def by def -/
def Piece (K : PySem.W.Frag) (mg : Str → Option Value) (d : Df) (f : Addr) : Prop := ∃ fd, Fun K d.x d.x d.st f fd ∧ Binds K fd d.ps [] ∧ mg d.x = some (.ref f)
inductive TopL (K : PySem.W.Frag) (mg : Str → Option Value) : List Df → List Addr → Prop
  | nil : TopL K mg [] []
  | cons {d : Df} {ds : List Df} {f : Addr} {fs : List Addr} : Piece K mg d f → TopL K mg ds fs → TopL K mg (d :: ds) (f :: fs)
theorem piece {K : PySem.W.Frag} {mg : Str → Option Value} {d : Df} {f : Addr} {fd : FuncData} (F : Fun K d.x d.x d.st f fd) (hm : mg d.x = some (.ref f))
    (h : ∀ (kV doc pm : Value) (an : Option Addr) (cdv ct : Value) (us : List Value), us.length = d.ps.length → bindArgs (PySem.W.fnOf d.x d.x (defArgs d.st) (defBody d.st) (defScope d.st) .none kV doc pm an cdv ct) ⟨us, []⟩ = pure (d.ps.zip us)) : Piece K mg d f :=
  ⟨fd, F, F.binds h, hm⟩
theorem top_of {K : PySem.W.Frag} {mg : Str → Option Value} {Ds : List Df} {fs : List Addr} {z : Addr} (t : TopL K mg Ds fs) : ∀ (i : Nat) d, Ds[i]? = some d → ∃ fd, Fun K d.x d.x d.st (fs.getD i z) fd ∧ Binds K fd d.ps [] ∧ mg d.x = some (.ref (fs.getD i z)) := by
  induction t with
  | nil => intro i d e; simp at e
  | cons p _ ih =>
    intro i d e
    cases i with
    | zero =>
      simp only [List.getElem?_cons_zero, Option.some.injEq] at e
      subst e
      exact p
    | succ i => exact ih i d (by simpa using e)
/-! a written dict's keys -/
def KAt1 (K : PySem.W.Frag) (a : Addr) (x : Str) : Option PyData → Prop
  | none => PySem.W.nsIn K a x = some none
  | some d => ∃ v u, PySem.W.nsIn K a x = some (some u) ∧ RelV v u ∧ ∀ G, Rp K G v d
theorem ktab_nil {K : PySem.W.Frag} {a : Addr} : ∀ x o, List.lookup x ([] : List (Str × Option PyData)) = some o → KAt1 K a x o := fun x o e => by cases e
theorem ktab_cons {K : PySem.W.Frag} {a : Addr} {k : Str} {o0 : Option PyData} {t : List (Str × Option PyData)} (h : KAt1 K a k o0) (r : ∀ x o, t.lookup x = some o → KAt1 K a x o) : ∀ x o, List.lookup x ((k, o0) :: t) = some o → KAt1 K a x o := fun x o e => by
  rw [List.lookup_cons] at e
  split at e
  · rename_i q
    have : x = k := by simpa using q
    subst this
    cases e
    exact h
  · exact r x o e
theorem kat_int {K : PySem.W.Frag} {a : Addr} {k : Str} {i : Int} {t : Tok} (h : PySem.W.nsIn K a k = some (some (.int i t))) : KAt1 K a k (some (.int i)) := ⟨.int i, _, h, ⟨_, rfl⟩, fun G => .int i⟩
theorem kat_str {K : PySem.W.Frag} {a : Addr} {k : Str} {i : Str} {t : Tok} (h : PySem.W.nsIn K a k = some (some (.str i t))) : KAt1 K a k (some (.str i)) := ⟨.str i, _, h, ⟨_, rfl⟩, fun G => .str i⟩
theorem kat_none {K : PySem.W.Frag} {a : Addr} {k : Str} (h : PySem.W.nsIn K a k = some none) : KAt1 K a k none := h
theorem ktab_of {K : PySem.W.Frag} {w : World} {a : Addr} {t : List (Str × Option PyData)} {es : Array DictEntry} {n : Nat} (h1 : K.lookup a = some ⟨.type "dict", none, .dict es n, #[]⟩) (h2 : PySem.W.KeysLit w.params es.toList) (h3 : (a == sysModules) = false)
    (h : ∀ x o, t.lookup x = some o → KAt1 K a x o) : KTab K w a t := ⟨⟨es, n, h1, h2, h3⟩, fun x o e => by
  have := h x o e
  cases o with
  | none => exact this
  | some d => exact this⟩
def NoneAt (mg : Str → Option Value) : List Str → Prop
  | [] => True
  | x :: r => mg x = none ∧ NoneAt mg r
theorem noneAt {mg : Str → Option Value} : ∀ {l : List Str}, NoneAt mg l → ∀ x ∈ l, mg x = none
  | [], _, _, h => by cases h
  | y :: r, ⟨h1, h2⟩, x, h => by
    rcases List.mem_cons.mp h with rfl | h
    · exact h1
    · exact noneAt h2 x h
end Px

/-! Px15b: what is looked at of the tables of lambdas, once for a law. -/
namespace Px
open PySem PySem.Spec PyProof.Rows L2
theorem lam_of {K : PySem.W.Frag} {Ds : List Df} {L : List Str} (h : Ds.all (fun d => !(lamNames.contains d.x) || L.contains d.x) = true) (hl : L.all (fun x => (PySem.W.tabIn K x).isSome) = true) :
    ∀ d ∈ Ds, lamNames.contains d.x = true → (PySem.W.tabIn K d.x).isSome = true := fun d hd hc => by
  have h1 := List.all_eq_true.mp h d hd
  rw [hc] at h1
  have h2 : L.contains d.x = true := by simpa using h1
  exact List.all_eq_true.mp hl d.x (by simpa using h2)
def tuB (K : PySem.W.Frag) : Bool := (tbOf K).all fun p => (tbOf K).all fun q => !decide (p.1 = q.1) || decide (p.2 = q.2)
theorem tu_of {K : PySem.W.Frag} (h : tuB K = true) : ∀ p ∈ tbOf K, ∀ q ∈ tbOf K, p.1 = q.1 → p.2 = q.2 := fun p hp q hq e => by
  have := List.all_eq_true.mp (List.all_eq_true.mp h p hp) q hq
  simpa [e] using this
def hTB (K : PySem.W.Frag) (ts : List Addr) : Bool := (csOf K).all fun p => ts.contains p.2 && (K.lookup p.2).isNone && PySem.W.codeHdIn K p.1 p.2
theorem hT_of {K : PySem.W.Frag} {h : Heap} {ts : List Addr} (hX : K.In h) (ht : ∀ a, a ∈ ts → h.get? a = some (PySem.W.tabObj #[])) (b : hTB K ts = true) :
    ∀ p ∈ csOf K, h.get? p.2 = some (PySem.W.tabObj #[]) ∧ K.lookup p.2 = none ∧ PySem.W.CodeHd h p.1 p.2 := fun p hp => by
  have := List.all_eq_true.mp b p hp
  simp only [Bool.and_eq_true, Option.isNone_iff_eq_none] at this
  exact ⟨ht _ (by simpa using this.1.1), this.1.2, PySem.W.codeHd_of_K hX this.2⟩
end Px

/-! Px16: running the small language: rules for proofs about it; no machine here. -/
namespace Px
open PySem

def Out.bnd {α β : Type} (o : Out α) (f : α → List O → Out β) : Out β := match o with
  | .ok a h => f a h
  | .no => .no
  | .ex _ _ => .no
/-- it comes to an end in Q -/
inductive Ok {α : Type} (o : Out α) (Q : α → List O → Prop) : Prop
  | mk (a : α) (h : List O) : o = .ok a h → Q a h → Ok o Q
section
variable {α β : Type}
theorem bnd_congr {o o' : Out α} {f : α → List O → Out β} (h : o = o') : o.bnd f = o'.bnd f := h ▸ rfl
theorem ok_congr {o o' : Out α} {Q : α → List O → Prop} (h : o = o') : Ok o Q = Ok o' Q := h ▸ rfl
@[simp] theorem bnd_ok1 {a : α} {h : List O} {f : α → List O → Out β} : (Out.ok a h).bnd f = f a h := (Eq.refl _).trans rfl
@[simp] theorem bnd_no1 {f : α → List O → Out β} : (Out.no : Out α).bnd f = .no := (Eq.refl _).trans rfl
@[simp] theorem bnd_ex1 {x : Exn} {h : List O} {f : α → List O → Out β} : (Out.ex x h : Out α).bnd f = .no := (Eq.refl _).trans rfl
@[simp] theorem bnd_bnd {γ : Type} {o : Out α} {f : α → List O → Out β} {g : β → List O → Out γ} : (o.bnd f).bnd g = o.bnd fun a h => (f a h).bnd g := by cases o <;> rfl
@[simp] theorem ok_ok1 {a : α} {h : List O} {Q : α → List O → Prop} : Ok (Out.ok a h) Q = Q a h := propext ⟨fun ⟨_, _, e, q⟩ => by cases e; exact q, fun q => ⟨a, h, rfl, q⟩⟩
@[simp] theorem ok_no1 {Q : α → List O → Prop} : Ok (Out.no : Out α) Q = False := propext ⟨fun ⟨_, _, e, _⟩ => (by cases e), fun f => f.elim⟩
@[simp] theorem ok_ex1 {x : Exn} {h : List O} {Q : α → List O → Prop} : Ok (Out.ex x h : Out α) Q = False := propext ⟨fun ⟨_, _, e, _⟩ => (by cases e), fun f => f.elim⟩
@[simp] theorem ok_bnd {o : Out α} {f : α → List O → Out β} {Q : β → List O → Prop} : Ok (o.bnd f) Q = Ok o fun a h => Ok (f a h) Q := by
  cases o with
  | ok a h => rw [bnd_ok1, ok_ok1]
  | no => rw [bnd_no1, ok_no1, ok_no1]
  | ex x h => rw [bnd_ex1, ok_no1, ok_ex1]
theorem ok_ite {c : Prop} [Decidable c] {a b : Out α} {Q : α → List O → Prop} (h1 : c → Ok a Q) (h2 : ¬c → Ok b Q) : Ok (if c then a else b) Q := by
  split
  · exact h1 ‹_›
  · exact h2 ‹_›
theorem ok_mono {o : Out α} {Q Q' : α → List O → Prop} (h : Ok o Q) (w : ∀ a h, Q a h → Q' a h) : Ok o Q' := by
  obtain ⟨a, h', e, q⟩ := h
  exact ⟨a, h', e, w a h' q⟩
theorem ok_ex {o : Out α} {Q : α → List O → Prop} (h : Ok o Q) : ∃ a h', o = .ok a h' ∧ Q a h' := by
  obtain ⟨a, h', e, q⟩ := h
  exact ⟨a, h', e, q⟩
theorem ok_eq {o : Out α} {a : α} {h : List O} {Q : α → List O → Prop} (e : o = .ok a h) (q : Q a h) : Ok o Q := ⟨a, h, e, q⟩
theorem ok_of {a : α} {h : List O} {Q : α → List O → Prop} (q : Q a h) : Ok (.ok a h) Q := ⟨a, h, rfl, q⟩
theorem eq_ok {o : Out α} {a : α} {h : List O} (e : Ok o fun b h' => b = a ∧ h' = h) : o = .ok a h := by
  obtain ⟨b, h', e1, e2, e3⟩ := ok_ex e
  rw [e1, e2, e3]
@[simp] theorem bind_run {m : M α} {f : α → M β} {h : List O} : (m >>= f) h = (m h).bnd fun a h => f a h := by
  show M.bnd m f h = _
  unfold M.bnd Out.bnd
  cases m h <;> rfl
@[simp] theorem pure_run {a : α} {h : List O} : (pure a : M α) h = .ok a h := (Eq.refl _).trans rfl
@[simp] theorem ret_run {a : α} {h : List O} : M.ret a h = .ok a h := (Eq.refl _).trans rfl
@[simp] theorem opt_some {a : α} {h : List O} : M.opt (some a) h = .ok a h := (Eq.refl _).trans rfl
@[simp] theorem opt_none {h : List O} : (M.opt none : M α) h = .no := (Eq.refl _).trans rfl
@[simp] theorem no_run {h : List O} : (M.no : M α) h = .no := (Eq.refl _).trans rfl
@[simp] theorem ite_run {c : Prop} [Decidable c] {a b : M α} {h : List O} : (if c then a else b) h = if c then a h else b h := by split <;> rfl
end

/-! ### sizes, by name -/
section
variable {α : Type}
/-- let by, if the sizes are right -/
def szM (n : Nat) (o : Out α) : Out α := if n ≤ 2 ^ 23 then o else .no
def slM (n : Nat) (o : Out α) : Out α := if n < 2 ^ 23 then o else .no
def rlO (n : Nat) (j : Int) (o : Option α) : Option α := if n ≤ 1 ∧ -(2 ^ 63) ≤ j ∧ j ≤ 1000 then o else none
def rfM (n : Nat) (j : Int) (o : Out α) : Out α := if n ≤ 1 ∧ -(2 ^ 63) ≤ j ∧ j ≤ 2 ^ 23 then o else .no
def szO (n : Nat) (o : Option α) : Option α := if n ≤ 2 ^ 23 then o else none
def rgO (i : Int) (o : Option α) : Option α := if -(2 ^ 62) ≤ i ∧ i < 2 ^ 62 then o else none
def rgO2 (i j : Int) (o : Option α) : Option α := if -(2 ^ 62) ≤ i ∧ i < 2 ^ 62 ∧ -(2 ^ 62) ≤ j ∧ j < 2 ^ 62 then o else none
def rpO (n : Nat) (j : Int) (o : Option α) : Option α := if n ≤ 1000 ∧ -(2 ^ 63) ≤ j ∧ j ≤ 1000 then o else none
def fvO (j : Int) (o : Option α) : Option α := if j ≠ 0 ∧ j.natAbs.log2 < 9000 then o else none
def pwO (i j : Int) (o : Option α) : Option α := if 0 ≤ j ∧ j ≤ 1000 ∧ i.natAbs.log2 < 100000 then o else none
end
theorem log_lt {i : Int} {n m : Nat} (h : i.natAbs < 2 ^ n) (h2 : n ≤ m) (h0 : 0 < m) : i.natAbs.log2 < m := by
  by_cases hz : i.natAbs = 0
  · rw [hz, Nat.log2_zero]; exact h0
  · exact (Nat.log2_lt hz).mpr (Nat.lt_of_lt_of_le h (Nat.pow_le_pow_right (by decide) h2))
theorem okb {i : Int} {n : Nat} (h : i.natAbs < 2 ^ n) (h2 : n ≤ 399999) : okBits i = true := by
  unfold okBits
  exact decide_eq_true (log_lt h (Nat.le_succ_of_le h2) (by decide))
theorem okb64 {i : Int} (h : i.natAbs < 2 ^ 64) : okBits i = true := okb (n := 64) h (by decide)
section
variable {α : Type} {m : Out α} {o : Option α}
@[simp] theorem szM_ok {n : Nat} (h : n ≤ 1000000) : szM n m = m := if_pos (by omega)
@[simp] theorem slM_ok {n : Nat} (h : n ≤ 1000000) : slM n m = m := if_pos (by omega)
@[simp] theorem rlO_ok {n : Nat} {j : Int} (h : n ≤ 1) (h1 : -1000000 ≤ j) (h2 : j ≤ 1000) : rlO n j o = o := if_pos (by omega)
@[simp] theorem rfM_ok {n : Nat} {j : Int} (h : n ≤ 1) (h1 : -1000000 ≤ j) (h2 : j ≤ 1000000) : rfM n j m = m := if_pos (by omega)
@[simp] theorem szO_ok {n : Nat} (h : n ≤ 1000000) : szO n o = o := if_pos (by omega)
@[simp] theorem rgO_ok {i : Int} (h : -1000000 ≤ i) (h2 : i ≤ 1000000) : rgO i o = o := if_pos (by omega)
@[simp] theorem rgO2_ok {i j : Int} (h : -1000000 ≤ i) (h2 : i ≤ 1000000) (h3 : -1000000 ≤ j) (h4 : j ≤ 1000000) : rgO2 i j o = o := if_pos (by omega)
@[simp] theorem rpO_ok {n : Nat} {j : Int} (h : n ≤ 1000) (h1 : -1000000 ≤ j) (h2 : j ≤ 1000) : rpO n j o = o := if_pos (by omega)
theorem fvO_64 {j : Int} (h : j ≠ 0) (h2 : j.natAbs < 2 ^ 64) : fvO j o = o := if_pos ⟨h, log_lt (n := 64) h2 (by decide) (by decide)⟩
@[simp] theorem fvO_ok {j : Int} (h : 0 < j) (h2 : j ≤ 1000000000000) : fvO j o = o := fvO_64 (by omega) (by omega)
theorem pwO_lt {i j : Int} {n : Nat} (h : 0 ≤ j) (h1 : j ≤ 1000) (h2 : i.natAbs < 2 ^ n) (h3 : n ≤ 100000) : pwO i j o = o := if_pos ⟨h, h1, log_lt h2 h3 (by decide)⟩
@[simp] theorem pwO_ok {i j : Int} (h : 0 ≤ j) (h1 : j ≤ 1000) (h2 : -1000000000000 ≤ i) (h3 : i ≤ 1000000000000) : pwO i j o = o := pwO_lt (n := 64) h h1 (by omega) (by decide)
end

/-! ### values -/
section
variable {h : List O} {n : Nat} {d e : PyData} {xs : List PyData}
@[simp] theorem rd_p : rd (.p d) h = .ok d h := (Eq.refl _).trans rfl
@[simp] theorem rd_r : rd (.r n) h = match h[n]? with | some (.lst xs) => .ok (.list xs) h | some (.frz xs) => .ok (.list xs) h | some (.nst _) => .no | none => .no := by
  first
    | (unfold rd drf; dsimp only; done)
    | (unfold rd drf; dsimp only; rcases h[n]? with _ | (_ | _ | _) <;> rfl)
@[simp] theorem rdS_p : rdS (.p d) h = .ok d h := (Eq.refl _).trans rfl
@[simp] theorem rdS_r : rdS (.r n) h = rd (.r n) h := (Eq.refl _).trans rfl
@[simp] theorem rdS_s : rdS (.s xs) h = .ok (.list xs) h := (Eq.refl _).trans rfl
@[simp] theorem val_p : val (.p d) h = .ok d h := (Eq.refl _).trans rfl
@[simp] theorem val_r : val (.r n) h = match h[n]? with | some (.lst xs) => .ok (.list xs) (h.set n (.frz xs)) | some (.frz xs) => .ok (.list xs) h | some (.nst xs) => (match valL xs h with | .ok ds h1 => .ok (.list ds) (h1.set n (.frz ds)) | _ => .no) | none => .no := by
  first
    | (unfold val; dsimp only; done)
    | (unfold val; dsimp only; rcases h[n]? with _ | (_ | _ | _) <;> rfl)
@[simp] theorem val1_p : val1 (.p d) h = .ok d h := (Eq.refl _).trans rfl
theorem val1_r : val1 (.r n) h = match h[n]? with | some (.lst xs) => .ok (.list xs) (h.set n (.frz xs)) | some (.frz xs) => .ok (.list xs) h | some (.nst _) => .no | none => .no := by
  first
    | (unfold val1; dsimp only; done)
    | (unfold val1; dsimp only; rcases h[n]? with _ | (_ | _ | _) <;> rfl)
@[simp] theorem valL_nil : valL [] h = .ok [] h := (Eq.refl _).trans rfl
@[simp] theorem valL_cons {x : D} {r : List D} : valL (x :: r) h = (val1 x h).bnd fun y h => (valL r h).bnd fun ys h => .ok (y :: ys) h := by
  show (val1 x >>= fun y => valL r >>= fun ys => (pure (y :: ys) : M (List PyData))) h = _
  simp only [bind_run, pure_run]
@[simp] theorem livN_r {xs : List D} (e : h[n]? = some (.nst xs)) : livN (.r n) h = .ok (n, xs) h := by
  unfold livN
  dsimp only
  rw [e]
@[simp high] theorem rd_lst {xs : List PyData} (e : h[n]? = some (.lst xs)) : rd (.r n) h = .ok (.list xs) h := by
  unfold rd drf
  dsimp only
  rw [e]
  rfl
@[simp high] theorem liv_lst {xs : List PyData} (e : h[n]? = some (.lst xs)) : liv (.r n) h = .ok (n, xs) h := by
  unfold liv
  dsimp only
  rw [e]
@[simp] theorem putN_run {xs : List D} : putN n xs h = .ok () (h.set n (.nst xs)) := (Eq.refl _).trans rfl
@[simp] theorem newN_run {xs : List D} : newN xs h = .ok (.r h.length) (h ++ [.nst xs]) := (Eq.refl _).trans rfl
@[simp] theorem flat_lst : O.flat (.lst xs) = true := (Eq.refl _).trans rfl
@[simp] theorem flat_frz : O.flat (.frz xs) = true := (Eq.refl _).trans rfl
@[simp] theorem cl_lst {k : Nat} : O.cl k (.lst xs) = true := (Eq.refl _).trans rfl
@[simp] theorem cl_frz {k : Nat} : O.cl k (.frz xs) = true := (Eq.refl _).trans rfl
@[simp] theorem rds_nil : rds [] h = .ok [] h := (Eq.refl _).trans rfl
@[simp] theorem rds_cons {x : D} {r : List D} : rds (x :: r) h = (rd x h).bnd fun y h => (rds r h).bnd fun ys h => .ok (y :: ys) h := by
  show (rd x >>= fun y => rds r >>= fun ys => (pure (y :: ys) : M (List PyData))) h = _
  simp only [bind_run, pure_run]
@[simp] theorem liv_r : liv (.r n) h = match h[n]? with | some (.lst xs) => .ok (n, xs) h | _ => .no := (Eq.refl _).trans rfl
@[simp] theorem put_run : put n xs h = .ok () (h.set n (.lst xs)) := (Eq.refl _).trans rfl
@[simp] theorem newL_run : newL xs h = .ok (.r h.length) (h ++ [.lst xs]) := (Eq.refl _).trans rfl
end

section
variable {G : Pg} {F : Nat → List D → M (PyData × Bool)} {ρ : Env} {h : List O}
/-! ### the operations -/
@[simp] theorem zBin_p {op : BOp} {x y : PyData} : zBin op (.p x) (.p y) h = match binD op x y with | some z => .ok (.p z) h | none => .no := by
  unfold zBin
  simp
  cases binD op x y <;> rfl
@[simp] theorem zCmp_p {op : COp} {x y : PyData} : zCmp op (.p x) (.p y) h = match cmpD op x y with | some z => .ok (.p (.bool z)) h | none => .no := by
  unfold zCmp
  simp
  cases cmpD op x y <;> rfl
@[simp] theorem zIx_p {x y : PyData} : zIx (.p x) (.p y) h = match ixD x y with | some z => .ok (.p z) h | none => .no := by
  unfold zIx
  simp
  cases ixD x y <;> rfl
@[simp] theorem zBin_r {op : BOp} {n : Nat} {y : D} : zBin op (.r n) y h = (rd (.r n) h).bnd fun x h => zBin op (.p x) y h := by
  unfold zBin
  simp only [bind_run, rd_p, bnd_ok1]
@[simp] theorem zCmp_r {op : COp} {n : Nat} {y : D} : zCmp op (.r n) y h = (rd (.r n) h).bnd fun x h => zCmp op (.p x) y h := by
  unfold zCmp
  simp only [bind_run, rd_p, bnd_ok1]
@[simp] theorem zIx_r {n : Nat} {y : D} : zIx (.r n) y h = (rd (.r n) h).bnd fun x h => zIx (.p x) y h := by
  unfold zIx
  simp only [bind_run, rd_p, bnd_ok1]
theorem zBin_run {op : BOp} {x y : D} : zBin op x y h = (rd x h).bnd fun x h => (rd y h).bnd fun y h => match binD op x y with | some z => .ok (.p z) h | none => .no := by
  unfold zBin
  simp only [bind_run]
  congr 1; funext x h; congr 1; funext y h
  cases binD op x y <;> rfl
theorem zCmp_run {op : COp} {x y : D} : zCmp op x y h = (rd x h).bnd fun x h => (rd y h).bnd fun y h => match cmpD op x y with | some z => .ok (.p (.bool z)) h | none => .no := by
  unfold zCmp
  simp only [bind_run]
  congr 1; funext x h; congr 1; funext y h
  cases cmpD op x y <;> rfl
theorem zIx_run {x y : D} : zIx x y h = (rd x h).bnd fun x h => (rd y h).bnd fun y h => match ixD x y with | some z => .ok (.p z) h | none => .no := by
  unfold zIx
  simp only [bind_run]
  congr 1; funext x h; congr 1; funext y h
  cases ixD x y <;> rfl
/-! ### the operations on data -/
section
variable {i j : Int} {b : Bool} {xs ys : List PyData} {x y : PyData} {s t : Str}
@[simp] theorem intOf_int : intOf (.int i) = some i := (Eq.refl _).trans rfl
@[simp] theorem seqOf_list : seqOf (.list xs) = some xs := (Eq.refl _).trans rfl
@[simp] theorem seqOf_tuple : seqOf (.tuple xs) = some xs := (Eq.refl _).trans rfl
@[simp] theorem bin_add : binD .add (.int i) (.int j) = some (.int (i + j)) := (Eq.refl _).trans rfl
@[simp] theorem bin_sub : binD .sub (.int i) (.int j) = some (.int (i - j)) := (Eq.refl _).trans rfl
@[simp] theorem bin_mul : binD .mul (.int i) (.int j) = if okBits i && okBits j then some (.int (i * j)) else none := (Eq.refl _).trans rfl
@[simp] theorem bin_rep : binD .mul (.tuple xs) (.int j) = rpO xs.length j (some (.tuple (List.replicate j.toNat xs).flatten)) := by
  unfold rpO
  dsimp only [binD, rngD]
@[simp] theorem bin_repL : binD .mul (.list xs) (.int j) = rlO xs.length j (some (.list (List.replicate j.toNat xs).flatten)) := by
  unfold rlO; rfl
@[simp] theorem bin_mod : binD .mod (.int i) (.int j) = if j = 0 then none else some (.int (i.fmod j)) := (Eq.refl _).trans rfl
@[simp] theorem bin_fdv : binD .fdv (.int i) (.int j) = fvO j (some (.int (i.fdiv j))) := by
  unfold fvO
  dsimp only [binD, rngD]
@[simp] theorem bin_pow : binD .pow (.int i) (.int j) = pwO i j (some (.int (i ^ j.toNat))) := by
  unfold pwO
  dsimp only [binD, rngD]
@[simp] theorem bin_addT : binD .add (.tuple xs) (.tuple ys) = szO (xs.length + ys.length) (some (.tuple (xs ++ ys))) := by
  unfold szO
  dsimp only [binD, rngD]
@[simp] theorem bin_addL : binD .add (.list xs) (.list ys) = szO (xs.length + ys.length) (some (.list (xs ++ ys))) := by
  unfold szO
  dsimp only [binD, rngD]
@[simp] theorem bin_addS : binD .add (.str s) (.str t) = szO (s.length + t.length) (some (.str (s ++ t))) := by
  unfold szO
  dsimp only [binD, rngD]
@[simp] theorem cmp_eq : cmpD .eq x y = if shp x && shp y then some (PyData.eqv x y) else none := (Eq.refl _).trans rfl
@[simp] theorem cmp_ne : cmpD .ne x y = if shp x && shp y then some (!PyData.eqv x y) else none := (Eq.refl _).trans rfl
@[simp] theorem cmp_lt : cmpD .lt (.int i) (.int j) = some (decide (i < j)) := (Eq.refl _).trans rfl
@[simp] theorem cmp_le : cmpD .le (.int i) (.int j) = some (decide (i ≤ j)) := (Eq.refl _).trans rfl
@[simp] theorem cmp_gt : cmpD .gt (.int i) (.int j) = some (decide (j < i)) := (Eq.refl _).trans rfl
@[simp] theorem cmp_ge : cmpD .ge (.int i) (.int j) = some (decide (j ≤ i)) := (Eq.refl _).trans rfl
@[simp] theorem truth_none : truthD .none = some false := (Eq.refl _).trans rfl
@[simp] theorem truth_bool : truthD (.bool b) = some b := (Eq.refl _).trans rfl
@[simp] theorem truth_int : truthD (.int i) = some (i != 0) := (Eq.refl _).trans rfl
@[simp] theorem truth_list : truthD (.list xs) = some (!xs.isEmpty) := (Eq.refl _).trans rfl
@[simp] theorem truth_tuple : truthD (.tuple xs) = some (!xs.isEmpty) := (Eq.refl _).trans rfl
@[simp] theorem ix_list : ixD (.list xs) (.int i) = L2.atI xs i := (Eq.refl _).trans rfl
@[simp] theorem ix_tuple : ixD (.tuple xs) (.int i) = L2.atI xs i := (Eq.refl _).trans rfl
theorem ixN_nat {n : Nat} (k : Nat) : L2.ixN n (k : Int) = if k < n then some k else none := by
  unfold L2.ixN
  rw [if_pos (Int.natCast_nonneg k)]
  by_cases h : k < n
  · rw [if_pos h, if_pos (by exact_mod_cast h)]
    simp
  · rw [if_neg h, if_neg (by exact_mod_cast h)]
theorem atI_nat {α : Type} {l : List α} (k : Nat) : L2.atI l (k : Int) = l[k]? := by
  unfold L2.atI
  rw [ixN_nat]
  by_cases h : k < l.length
  · rw [if_pos h]; rfl
  · rw [if_neg h, List.getElem?_eq_none (Nat.le_of_not_lt h)]; rfl
@[simp] theorem ixN_zero {n : Nat} : L2.ixN n 0 = if 0 < n then some 0 else none := ixN_nat 0
@[simp] theorem ixN_one {n : Nat} : L2.ixN n 1 = if 1 < n then some 1 else none := ixN_nat 1
@[simp] theorem ixN_lit {n k : Nat} : L2.ixN n (no_index (OfNat.ofNat k : Int)) = if (OfNat.ofNat k : Nat) < n then some (OfNat.ofNat k : Nat) else none := ixN_nat k
@[simp] theorem atI_zero {α : Type} {l : List α} : L2.atI l 0 = l[0]? := atI_nat 0
@[simp] theorem atI_one {α : Type} {l : List α} : L2.atI l 1 = l[1]? := atI_nat 1
@[simp] theorem atI_lit {α : Type} {l : List α} {k : Nat} : L2.atI l (no_index (OfNat.ofNat k : Int)) = l[(OfNat.ofNat k : Nat)]? := atI_nat k
@[simp] theorem sl_list {l u : Option Int} : slD (.list xs) l u = some (.list (cutL xs l u)) := (Eq.refl _).trans rfl
@[simp] theorem sl_tuple {l u : Option Int} : slD (.tuple xs) l u = some (.tuple (cutL xs l u)) := (Eq.refl _).trans rfl
@[simp] theorem blt_lenL : bltD .len [.list xs] = some (.int xs.length) := (Eq.refl _).trans rfl
@[simp] theorem blt_lenT : bltD .len [.tuple xs] = some (.int xs.length) := (Eq.refl _).trans rfl
@[simp] theorem blt_abs : bltD .abs [.int i] = some (.int (if i < 0 then -i else i)) := (Eq.refl _).trans rfl
@[simp] theorem blt_max : bltD .max [.int i, .int j] = some (.int (if j > i then j else i)) := (Eq.refl _).trans rfl
@[simp] theorem blt_min : bltD .min [.int i, .int j] = some (.int (if j < i then j else i)) := (Eq.refl _).trans rfl
@[simp] theorem blt_sum : bltD .sum [.list xs] = (intsOf xs).map fun ns => .int ns.sum := (Eq.refl _).trans rfl
@[simp] theorem blt_all : bltD .all [.list xs] = (boolsOf xs).map fun bs => .bool (bs.all id) := (Eq.refl _).trans rfl
@[simp] theorem blt_any : bltD .any [.list xs] = (boolsOf xs).map fun bs => .bool (bs.any id) := (Eq.refl _).trans rfl
@[simp] theorem blt_intB : bltD .int [.bool b] = some (.int (if b then 1 else 0)) := (Eq.refl _).trans rfl
@[simp] theorem blt_tupL : bltD .tuple [.list xs] = some (.tuple xs) := (Eq.refl _).trans rfl
@[simp] theorem blt_tupT : bltD .tuple [.tuple xs] = some (.tuple xs) := (Eq.refl _).trans rfl
theorem blt_repr : bltD .repr [x] = if PyData.showable x && !PyData.hasDict x && decide (x.depth ≤ 64) && decide (x.shown.length ≤ 2 ^ 24) then some (.str x.shown) else none := rfl
@[simp] theorem ints_map {ns : List Int} : intsOf (ns.map .int) = some ns := by
  induction ns with
  | nil => rfl
  | cons n r ih => simp [intsOf, ih]
theorem rng_one : rngD [.int i] = rgO i (some (rangeL 0 i)) := by
  unfold rgO
  dsimp only [binD, rngD]
theorem rng_two : rngD [.int i, .int j] = rgO2 i j (some (rangeL i j)) := by
  unfold rgO2
  dsimp only [binD, rngD]
@[simp] theorem rng_ok1 (h1 : -1000000 ≤ i) (h2 : i ≤ 1000000) : rngD [.int i] = some (rangeL 0 i) := by
  rw [rng_one, rgO_ok h1 h2]
@[simp] theorem rng_ok2 (h1 : -1000000 ≤ i) (h2 : i ≤ 1000000) (h3 : -1000000 ≤ j) (h4 : j ≤ 1000000) : rngD [.int i, .int j] = some (rangeL i j) := by
  rw [rng_two, rgO2_ok h1 h2 h3 h4]
@[simp] theorem zips_L : zipDs [.list xs, .list ys] = some (zipD xs ys) := (Eq.refl _).trans rfl
@[simp] theorem zips_LT : zipDs [.list xs, .tuple ys] = some (zipD xs ys) := (Eq.refl _).trans rfl
@[simp] theorem zips_TL : zipDs [.tuple xs, .list ys] = some (zipD xs ys) := (Eq.refl _).trans rfl
@[simp] theorem zips_T : zipDs [.tuple xs, .tuple ys] = some (zipD xs ys) := (Eq.refl _).trans rfl
@[simp] theorem enum_T : enumDs [.tuple xs] = some (enumD xs) := (Eq.refl _).trans rfl
@[simp] theorem enum_L : enumDs [.list xs] = some (enumD xs) := (Eq.refl _).trans rfl
@[simp] theorem isNone_p : isNone (.p x) = match x with | .none => true | _ => false := by cases x <;> rfl
end
@[simp] theorem handed_p {k : Nat} {d : PyData} {h : List O} : handed k (.p d) h = if (h.take k).all (O.cl k) then .ok (d, false) (h.take k) else .ok (d, false) h := (Eq.refl _).trans rfl
@[simp] theorem handed_r {k n : Nat} {h : List O} : handed k (.r n) h = if (h.take k).all (O.cl k) then (match h[n]? with
    | some (.lst xs) => if k ≤ n then .ok (.list xs, true) (h.take k) else .no
    | some (.frz xs) => .ok (.list xs, false) (h.take k)
    | some (.nst _) => .no
    | none => .no) else .no := by
  first
    | (unfold handed; dsimp only; done)
    | (unfold handed
       dsimp only
       split
       · generalize h[n]? = o
         rcases o with _ | (_ | _ | _) <;> rfl
       · rfl)
/-! ### the modes, by the term -/
@[simp] theorem ev_var {i : Nat} : (sem G F (.var i)).ev ρ h = match ρ[i]? with | some (some d) => .ok d h | _ => .no := by
  show M.opt (ρ[i]?.bind id) h = _
  cases ρ[i]? with
  | none => rfl
  | some o => cases o <;> rfl
@[simp] theorem ev_non : (sem G F .non).ev ρ h = .ok (.p .none) h := (Eq.refl _).trans rfl
@[simp] theorem ev_int {i : Int} : (sem G F (.int i)).ev ρ h = .ok (.p (.int i)) h := (Eq.refl _).trans rfl
@[simp] theorem ev_str {i : Str} : (sem G F (.str i)).ev ρ h = .ok (.p (.str i)) h := (Eq.refl _).trans rfl
@[simp] theorem ev_bl {i : Bool} : (sem G F (.bl i)).ev ρ h = .ok (.p (.bool i)) h := (Eq.refl _).trans rfl
@[simp] theorem ev_glob {g : Nat} : (sem G F (.glob g)).ev ρ h = match G.gl[g]? with | some d => .ok (.p d) h | none => .no := by
  show (M.opt G.gl[g]? >>= fun d => (pure (.p d) : M D)) h = _
  cases G.gl[g]? <;> rfl
@[simp] theorem ev_bin {op : BOp} {a b : T} : (sem G F (.bin op a b)).ev ρ h = ((sem G F a).ev ρ h).bnd fun x h => ((sem G F b).ev ρ h).bnd fun y h => zBin op x y h := by
  show eBin op _ _ ρ h = _
  unfold eBin
  simp only [bind_run]
@[simp] theorem ev_neg {a : T} : (sem G F (.neg a)).ev ρ h = ((sem G F a).ev ρ h).bnd fun x h => (rd x h).bnd fun x h => (M.opt (intOf x) h).bnd fun i h => .ok (.p (.int (-i))) h := by
  show eNeg _ ρ h = _
  unfold eNeg
  simp only [bind_run]
  rfl
@[simp] theorem dTst_run {e : Env → M D} : dTst e ρ h = (e ρ h).bnd fun x h => (rd x h).bnd fun x h => M.opt (truthD x) h := by
  unfold dTst
  simp only [bind_run]
@[simp] theorem ev_not {a : T} : (sem G F (.not a)).ev ρ h = (dTst (sem G F a).ev ρ h).bnd fun k h => .ok (.p (.bool (!k))) h := by
  show (dTst (sem G F a).ev ρ >>= fun k => (pure (.p (.bool (!k))) : M D)) h = _
  simp only [bind_run]
  rfl
@[simp] theorem tst_not {a : T} : (sem G F (.not a)).tst ρ h = ((sem G F a).tst ρ h).bnd fun k h => .ok (!k) h := by
  show ((sem G F a).tst ρ >>= fun k => (pure (!k) : M Bool)) h = _
  simp only [bind_run]
  rfl
@[simp] theorem cnd_not {a : T} : (sem G F (.not a)).cnd ρ h = ((sem G F a).tst ρ h).bnd fun k h => .ok (!k) h := tst_not
@[simp] theorem ev_cmp {op : COp} {a b : T} : (sem G F (.cmp op a b)).ev ρ h = ((sem G F a).ev ρ h).bnd fun x h => ((sem G F b).ev ρ h).bnd fun y h => zCmp op x y h := by
  show eCmp op _ _ ρ h = _
  unfold eCmp
  simp only [bind_run]
@[simp] theorem ev_chn {o1 o2 : COp} {a b c : T} : (sem G F (.chn o1 o2 a b c)).ev ρ h = ((sem G F a).ev ρ h).bnd fun x h => ((sem G F b).ev ρ h).bnd fun y h => (rd x h).bnd fun x h => (rd y h).bnd fun y1 h => (M.opt (cmpD o1 x y1) h).bnd fun k h =>
    if k then ((sem G F c).ev ρ h).bnd fun z h => (rd y h).bnd fun y2 h => (rd z h).bnd fun z h => (M.opt (cmpD o2 y2 z) h).bnd fun k2 h => .ok (.p (.bool k2)) h else .ok (.p (.bool false)) h := by
  show eChn o1 o2 _ _ _ ρ h = _
  unfold eChn
  simp only [bind_run, ite_run]
  rfl
@[simp] theorem ev_isN {a : T} : (sem G F (.isN a)).ev ρ h = ((sem G F a).ev ρ h).bnd fun x h => .ok (.p (.bool (isNone x))) h := by
  show ((sem G F a).ev ρ >>= fun x => (pure (.p (.bool (isNone x))) : M D)) h = _
  simp only [bind_run]
  rfl
@[simp] theorem ev_isNN {a : T} : (sem G F (.isNN a)).ev ρ h = ((sem G F a).ev ρ h).bnd fun x h => .ok (.p (.bool (!isNone x))) h := by
  show ((sem G F a).ev ρ >>= fun x => (pure (.p (.bool (!isNone x))) : M D)) h = _
  simp only [bind_run]
  rfl
@[simp] theorem ev_and {a b : T} : (sem G F (.and a b)).ev ρ h = ((sem G F a).ev ρ h).bnd fun x h => (rd x h).bnd fun y h => (M.opt (truthD y) h).bnd fun k h => if k then (sem G F b).ev ρ h else .ok x h := by
  show eAnd _ _ ρ h = _
  unfold eAnd
  simp only [bind_run, ite_run]
  rfl
@[simp] theorem ev_or {a b : T} : (sem G F (.or a b)).ev ρ h = ((sem G F a).ev ρ h).bnd fun x h => (rd x h).bnd fun y h => (M.opt (truthD y) h).bnd fun k h => if k then .ok x h else (sem G F b).ev ρ h := by
  show eOr _ _ ρ h = _
  unfold eOr
  simp only [bind_run, ite_run]
  rfl
@[simp] theorem tst_and {a b : T} : (sem G F (.and a b)).tst ρ h = ((sem G F a).tst ρ h).bnd fun k h => if k then (sem G F b).tst ρ h else .ok false h := by
  show ((sem G F a).tst ρ >>= fun k => if k then (sem G F b).tst ρ else pure false) h = _
  simp only [bind_run, ite_run]
  rfl
@[simp] theorem tst_or {a b : T} : (sem G F (.or a b)).tst ρ h = ((sem G F a).tst ρ h).bnd fun k h => if k then .ok true h else (sem G F b).tst ρ h := by
  show ((sem G F a).tst ρ >>= fun k => if k then pure true else (sem G F b).tst ρ) h = _
  simp only [bind_run, ite_run]
  rfl
@[simp] theorem cnd_and {a b : T} : (sem G F (.and a b)).cnd ρ h = (sem G F (.and a b)).tst ρ h := (Eq.refl _).trans rfl
@[simp] theorem cnd_or {a b : T} : (sem G F (.or a b)).cnd ρ h = (sem G F (.or a b)).tst ρ h := (Eq.refl _).trans rfl
@[simp] theorem ev_ife {c a b : T} : (sem G F (.ife c a b)).ev ρ h = ((sem G F c).tst ρ h).bnd fun k h => if k then (sem G F a).ev ρ h else (sem G F b).ev ρ h := by
  show ((sem G F c).tst ρ >>= fun k => if k then (sem G F a).ev ρ else (sem G F b).ev ρ) h = _
  simp only [bind_run, ite_run]
@[simp] theorem tst_ife {c a b : T} : (sem G F (.ife c a b)).tst ρ h = ((sem G F c).tst ρ h).bnd fun k h => if k then (sem G F a).tst ρ h else (sem G F b).tst ρ h := by
  show ((sem G F c).tst ρ >>= fun k => if k then (sem G F a).tst ρ else (sem G F b).tst ρ) h = _
  simp only [bind_run, ite_run]
@[simp] theorem cnd_ife {c a b : T} : (sem G F (.ife c a b)).cnd ρ h = (sem G F (.ife c a b)).tst ρ h := (Eq.refl _).trans rfl
@[simp] theorem ev_tup {es : T} : (sem G F (.tup es)).ev ρ h = ((sem G F es).evs ρ h).bnd fun ds h => szM ds.length (.ok (.p (.tuple ds)) h) := by
  show ((sem G F es).evs ρ >>= fun ds => if ds.length ≤ 2 ^ 23 then (pure (.p (.tuple ds)) : M D) else M.no) h = _
  simp only [bind_run, ite_run]
  rfl
@[simp] theorem frs_lst {es : T} : (sem G F (.lst es)).frs ρ h = ((sem G F es).evs ρ h).bnd fun ds h => szM ds.length (.ok ds h) := by
  show ((sem G F es).evs ρ >>= fun ds => if ds.length ≤ 2 ^ 23 then (pure ds : M (List PyData)) else M.no) h = _
  simp only [bind_run, ite_run]
  rfl
theorem ev_new {f : Env → M (List PyData)} : (Sm.new f).ev ρ h = (f ρ h).bnd fun xs h => .ok (.p (.list xs)) h := by
  show (f ρ >>= fun xs => (pure (.p (.list xs)) : M D)) h = _
  simp only [bind_run]
  rfl
@[simp] theorem ev_lst {es : T} : (sem G F (.lst es)).ev ρ h = ((sem G F (.lst es)).frs ρ h).bnd fun xs h => .ok (.p (.list xs)) h := ev_new
@[simp] theorem ev_lof {a : T} : (sem G F (.lof a)).ev ρ h = ((sem G F (.lof a)).frs ρ h).bnd fun xs h => .ok (.p (.list xs)) h := ev_new
@[simp] theorem ev_comp {own is : List Nat} {tp : Bool} {it c e : T} : (sem G F (.comp own is tp it c e)).ev ρ h = ((sem G F (.comp own is tp it c e)).frs ρ h).bnd fun xs h => .ok (.p (.list xs)) h := by
  show ((sem G F (.comp own is tp it c e)).frs ρ >>= fun xs => (pure (.p (.list xs)) : M D)) h = _
  simp only [bind_run]
  rfl
@[simp] theorem frs_lof {a : T} : (sem G F (.lof a)).frs ρ h = ((sem G F a).ev ρ h).bnd fun x h => (rd x h).bnd fun x h => M.opt (seqOf x) h := by
  show ((sem G F a).ev ρ >>= fun x => rd x >>= fun x => M.opt (seqOf x)) h = _
  simp only [bind_run]
@[simp] theorem frs_comp {own is : List Nat} {tp : Bool} {it c e : T} : (sem G F (.comp own is tp it c e)).frs ρ h = ((sem G F it).iter ρ h).bnd fun xs h => szM xs.length
      (compL is tp (wipe ρ own) (sem G F c).cnd (fun ρ1 => (sem G F e).ev ρ1 >>= val) xs h) := by
  show ((sem G F it).iter ρ >>= fun xs => if xs.length ≤ 2 ^ 23 then compL is tp (wipe ρ own) (sem G F c).cnd (fun ρ1 => (sem G F e).ev ρ1 >>= val) xs else M.no) h = _
  simp only [bind_run, ite_run]
  rfl
@[simp] theorem frs_mul {a b : T} : (sem G F (.bin .mul a b)).frs ρ h = ((sem G F a).frs ρ h).bnd fun xs h => ((sem G F b).ev ρ h).bnd fun y h => (rd y h).bnd fun y h => (M.opt (intOf y) h).bnd fun j h =>
    rfM xs.length j (.ok (List.replicate j.toNat xs).flatten h) := by
  show eBinF .mul (sem G F a).ev (sem G F b).ev (sem G F a).frs ρ h = _
  unfold eBinF
  simp only [bind_run, ite_run]
  rfl
@[simp] theorem ev_ix {a i : T} : (sem G F (.ix a i)).ev ρ h = ((sem G F a).ev ρ h).bnd fun x h => ((sem G F i).ev ρ h).bnd fun y h => zIx x y h := by
  show eIx _ _ ρ h = _
  unfold eIx
  simp only [bind_run]
@[simp] theorem ev_sl {a lo hi : T} : (sem G F (.sl a lo hi)).ev ρ h = ((sem G F a).ev ρ h).bnd fun x h => ((sem G F lo).part ρ h).bnd fun l h => ((sem G F hi).part ρ h).bnd fun u h => (rdS x h).bnd fun x h => (M.opt (slD x l u) h).bnd fun z h => .ok (.p z) h := by
  show eSl _ _ _ ρ h = _
  unfold eSl
  simp only [bind_run]
  rfl
@[simp] theorem rev_tup {xs : List PyData} : revD (.tuple xs) = some (.tuple xs.reverse) := (Eq.refl _).trans rfl
@[simp] theorem rev_lst {xs : List PyData} : revD (.list xs) = some (.list xs.reverse) := (Eq.refl _).trans rfl
@[simp] theorem isBD_bl {b k : Bool} : isBD b (.bool k) = some (decide (k = b)) := (Eq.refl _).trans rfl
@[simp] theorem ev_slr {a : T} : (sem G F (.slr a)).ev ρ h = ((sem G F a).ev ρ h).bnd fun x h => (rd x h).bnd fun x h => (M.opt (revD x) h).bnd fun y h => .ok (.p y) h := by
  show ((sem G F a).ev ρ >>= fun x => rd x >>= fun x => M.opt (revD x) >>= fun y => (pure (.p y) : M D)) h = _
  simp only [bind_run]
  rfl
@[simp] theorem lstOf_tup {xs : List PyData} : lstOf (.tuple xs) = some xs := (Eq.refl _).trans rfl
@[simp] theorem lstOf_lst {xs : List PyData} : lstOf (.list xs) = some xs := (Eq.refl _).trans rfl
@[simp] theorem ev_srt {a : T} : (sem G F (.srt a)).ev ρ h = ((sem G F a).ev ρ h).bnd fun x h => (rd x h).bnd fun x h => (M.opt (srtD x) h).bnd fun y h => .ok (.p y) h := by
  show ((sem G F a).ev ρ >>= fun x => rd x >>= fun x => M.opt (srtD x) >>= fun y => (pure (.p y) : M D)) h = _
  simp only [bind_run]
  rfl
def lrgM (i j : Int) (o : Out D) : Out D := if -1000000 ≤ i ∧ i ≤ 1000000 ∧ -1000000 ≤ j ∧ j ≤ 1000000 then o else .no
theorem lrg_ok {i j : Int} {o : Out D} (h : -1000000 ≤ i) (h2 : i ≤ 1000000) (h3 : -1000000 ≤ j) (h4 : j ≤ 1000000) : lrgM i j o = o := if_pos ⟨h, h2, h3, h4⟩
@[simp] theorem ev_lrg {a b : T} : (sem G F (.lrg a b)).ev ρ h = ((sem G F a).ev ρ h).bnd fun x h => ((sem G F b).ev ρ h).bnd fun y h => (rd x h).bnd fun x h => (M.opt (intOf x) h).bnd fun i h => (rd y h).bnd fun y h => (M.opt (intOf y) h).bnd fun j h => lrgM i j (.ok (.p (.list (rangeL i j))) h) := by
  show ((sem G F a).ev ρ >>= fun x => (sem G F b).ev ρ >>= fun y => rd x >>= fun x => M.opt (intOf x) >>= fun i => rd y >>= fun y => M.opt (intOf y) >>= fun j => if -1000000 ≤ i ∧ i ≤ 1000000 ∧ -1000000 ≤ j ∧ j ≤ 1000000 then (pure (.p (.list (rangeL i j))) : M D) else M.no) h = _
  simp only [bind_run, ite_run]
  rfl
@[simp] theorem ev_isB {b : Bool} {a : T} : (sem G F (.isB b a)).ev ρ h = ((sem G F a).ev ρ h).bnd fun x h => (rd x h).bnd fun x h => (M.opt (isBD b x) h).bnd fun k h => .ok (.p (.bool k)) h := by
  show ((sem G F a).ev ρ >>= fun x => rd x >>= fun x => M.opt (isBD b x) >>= fun k => (pure (.p (.bool k)) : M D)) h = _
  simp only [bind_run]
  rfl
@[simp] theorem ev_isNB {b : Bool} {a : T} : (sem G F (.isNB b a)).ev ρ h = ((sem G F a).ev ρ h).bnd fun x h => (rd x h).bnd fun x h => (M.opt (isBD b x) h).bnd fun k h => .ok (.p (.bool (!k))) h := by
  show ((sem G F a).ev ρ >>= fun x => rd x >>= fun x => M.opt (isBD b x) >>= fun k => (pure (.p (.bool (!k))) : M D)) h = _
  simp only [bind_run]
  rfl
@[simp] theorem tst_isB {b : Bool} {a : T} : (sem G F (.isB b a)).tst ρ h = dTst (sem G F (.isB b a)).ev ρ h := (Eq.refl _).trans rfl
@[simp] theorem cnd_isB {b : Bool} {a : T} : (sem G F (.isB b a)).cnd ρ h = dTst (sem G F (.isB b a)).ev ρ h := (Eq.refl _).trans rfl
@[simp] theorem tst_isNB {b : Bool} {a : T} : (sem G F (.isNB b a)).tst ρ h = dTst (sem G F (.isNB b a)).ev ρ h := (Eq.refl _).trans rfl
@[simp] theorem cnd_isNB {b : Bool} {a : T} : (sem G F (.isNB b a)).cnd ρ h = dTst (sem G F (.isNB b a)).ev ρ h := (Eq.refl _).trans rfl
@[simp] theorem ev_ixn {a i : T} : (sem G F (.ixn a i)).ev ρ h = ((sem G F a).ev ρ h).bnd fun x h => ((sem G F i).ev ρ h).bnd fun y h => (livN x h).bnd fun r h => (rd y h).bnd fun y h => (M.opt (intOf y) h).bnd fun i h => M.opt (L2.atI r.2 i) h := by
  show ((sem G F a).ev ρ >>= fun x => (sem G F i).ev ρ >>= fun y => livN x >>= fun r => rd y >>= fun y => M.opt (intOf y) >>= fun i => M.opt (L2.atI r.2 i)) h = _
  simp only [bind_run]
@[simp] theorem ev_lnn {a : T} : (sem G F (.lnn a)).ev ρ h = ((sem G F a).ev ρ h).bnd fun x h => (livN x h).bnd fun r h => .ok (.p (.int r.2.length)) h := by
  show ((sem G F a).ev ρ >>= fun x => livN x >>= fun r => (pure (.p (.int r.2.length)) : M D)) h = _
  simp only [bind_run]
  rfl
@[simp] theorem ev_gget {g : Nat} {a d : T} : (sem G F (.gget g a d)).ev ρ h = ((sem G F a).ev ρ h).bnd fun x h => ((sem G F d).ev ρ h).bnd fun y h => (rd x h).bnd fun x h => (val y h).bnd fun y h => (M.opt G.ds[g]? h).bnd fun t h => (M.opt (strOf x) h).bnd fun x h => (M.opt (getD t x y) h).bnd fun z h => .ok (.p z) h := by
  show ((sem G F a).ev ρ >>= fun x => (sem G F d).ev ρ >>= fun y => rd x >>= fun x => val y >>= fun y => M.opt G.ds[g]? >>= fun t => M.opt (strOf x) >>= fun x => M.opt (getD t x y) >>= fun z => (pure (.p z) : M D)) h = _
  simp only [bind_run]
  rfl
@[simp] theorem strOf_str {s : Str} : strOf (.str s) = some s := (Eq.refl _).trans rfl
@[simp] theorem tst_gget {g : Nat} {a d : T} : (sem G F (.gget g a d)).tst ρ h = dTst (sem G F (.gget g a d)).ev ρ h := (Eq.refl _).trans rfl
@[simp] theorem tst_ixn {a d : T} : (sem G F (.ixn a d)).tst ρ h = dTst (sem G F (.ixn a d)).ev ρ h := (Eq.refl _).trans rfl
@[simp] theorem tst_slr {a : T} : (sem G F (.slr a)).tst ρ h = dTst (sem G F (.slr a)).ev ρ h := (Eq.refl _).trans rfl
@[simp] theorem iter_slr {a : T} : (sem G F (.slr a)).iter ρ h = ((sem G F (.slr a)).ev ρ h).bnd fun x h => (val x h).bnd fun x h => M.opt (seqOf x) h := by
  show ((sem G F (.slr a)).ev ρ >>= fun x => val x >>= fun x => M.opt (seqOf x)) h = _
  simp only [bind_run]
@[simp] theorem iter_ixn {a i : T} : (sem G F (.ixn a i)).iter ρ h = ((sem G F (.ixn a i)).ev ρ h).bnd fun x h => (val x h).bnd fun x h => M.opt (seqOf x) h := by
  show ((sem G F (.ixn a i)).ev ρ >>= fun x => val x >>= fun x => M.opt (seqOf x)) h = _
  simp only [bind_run]
@[simp] theorem ev_callW {f : Nat} {es : T} : (sem G F (.callW f es)).ev ρ h = ((sem G F es).eva ρ h).bnd fun ds h => (F f ds h).bnd fun v h => .ok (.p v.1) h := by
  show ((sem G F es).eva ρ >>= fun ds => F f ds >>= fun v => (pure (.p v.1) : M D)) h = _
  simp only [bind_run]
  rfl
@[simp] theorem frs_callW {f : Nat} {es : T} : (sem G F (.callW f es)).frs ρ h = ((sem G F es).eva ρ h).bnd fun ds h => (F f ds h).bnd fun v h => match v with | (.list xs, true) => .ok xs h | _ => .no := by
  show ((sem G F es).eva ρ >>= fun ds => F f ds >>= fun v => match v with | (.list xs, true) => (pure xs : M (List PyData)) | _ => M.no) h = _
  simp only [bind_run]
  congr 1; funext ds h; congr 1; funext v h
  split <;> rfl
@[simp] theorem frn_comp {own is : List Nat} {tp : Bool} {it c e : T} : (sem G F (.comp own is tp it c e)).frn ρ h = ((sem G F it).iter ρ h).bnd fun xs h => szM xs.length
      (compN is tp (wipe ρ own) (sem G F c).cnd (sem G F e).frs xs h) := by
  show ((sem G F it).iter ρ >>= fun xs => if xs.length ≤ 2 ^ 23 then compN is tp (wipe ρ own) (sem G F c).cnd (sem G F e).frs xs else M.no) h = _
  simp only [bind_run, ite_run]
  rfl
@[simp] theorem ev_call {f : Nat} {es : T} : (sem G F (.call f es)).ev ρ h = ((sem G F es).eva ρ h).bnd fun ds h => (callF F f ds h).bnd fun v h => .ok (.p v.1) h := by
  show ((sem G F es).eva ρ >>= fun ds => callF F f ds >>= fun v => (pure (.p v.1) : M D)) h = _
  simp only [bind_run]
  rfl
@[simp] theorem frs_call {f : Nat} {es : T} : (sem G F (.call f es)).frs ρ h = ((sem G F es).eva ρ h).bnd fun ds h => (callF F f ds h).bnd fun v h => match v with | (.list xs, true) => .ok xs h | _ => .no := by
  show ((sem G F es).eva ρ >>= fun ds => callF F f ds >>= fun v => match v with | (.list xs, true) => (pure xs : M (List PyData)) | _ => M.no) h = _
  simp only [bind_run]
  congr 1; funext ds h; congr 1; funext v h
  split <;> rfl
@[simp] theorem ev_blt {b : Bl} {es : T} : (sem G F (.blt b es)).ev ρ h = ((sem G F es).eva ρ h).bnd fun ds h => (rds ds h).bnd fun xs h => (M.opt (bltD b xs) h).bnd fun z h => .ok (.p z) h := by
  show ((sem G F es).eva ρ >>= fun ds => rds ds >>= fun xs => M.opt (bltD b xs) >>= fun z => (pure (.p z) : M D)) h = _
  simp only [bind_run]
  rfl
@[simp] theorem ev_isi {a : T} {k : Kd} : (sem G F (.isi a k)).ev ρ h = ((sem G F a).ev ρ h).bnd fun x h => (rd x h).bnd fun x h => (M.opt (isiD x k) h).bnd fun z h => .ok (.p (.bool z)) h := by
  show ((sem G F a).ev ρ >>= fun x => rd x >>= fun x => M.opt (isiD x k) >>= fun z => (pure (.p (.bool z)) : M D)) h = _
  simp only [bind_run]
  rfl
@[simp] theorem evs_nil : (sem G F .nil).evs ρ h = .ok [] h := (Eq.refl _).trans rfl
@[simp] theorem eva_nil : (sem G F .nil).eva ρ h = .ok [] h := (Eq.refl _).trans rfl
@[simp] theorem cnd_nil : (sem G F .nil).cnd ρ h = .ok true h := (Eq.refl _).trans rfl
@[simp] theorem part_nil : (sem G F .nil).part ρ h = .ok none h := (Eq.refl _).trans rfl
@[simp] theorem evs_cons {a tl : T} : (sem G F (.cons a tl)).evs ρ h = ((sem G F a).ev ρ h).bnd fun x h => (val x h).bnd fun x h => ((sem G F tl).evs ρ h).bnd fun xs h => .ok (x :: xs) h := by
  show ((sem G F a).ev ρ >>= fun x => val x >>= fun x => (sem G F tl).evs ρ >>= fun xs => (pure (x :: xs) : M (List PyData))) h = _
  simp only [bind_run]
  rfl
@[simp] theorem eva_cons {a tl : T} : (sem G F (.cons a tl)).eva ρ h = ((sem G F a).ev ρ h).bnd fun x h => ((sem G F tl).eva ρ h).bnd fun xs h => .ok (x :: xs) h := by
  show ((sem G F a).ev ρ >>= fun x => (sem G F tl).eva ρ >>= fun xs => (pure (x :: xs) : M (List D))) h = _
  simp only [bind_run]
  rfl
@[simp] theorem iter_rng1 {a : T} : (sem G F (.rng1 a)).iter ρ h = ((sem G F a).ev ρ h).bnd fun x h => (val x h).bnd fun x h => M.opt (rngD [x]) h := by
  show ((sem G F a).ev ρ >>= fun x => val x >>= fun x => M.opt (rngD [x])) h = _
  simp only [bind_run]
@[simp] theorem iter_rng2 {a b : T} : (sem G F (.rng2 a b)).iter ρ h = ((sem G F a).ev ρ h).bnd fun x h => (val x h).bnd fun x h => ((sem G F b).ev ρ h).bnd fun y h => (val y h).bnd fun y h => M.opt (rngD [x, y]) h := by
  show ((sem G F a).ev ρ >>= fun x => val x >>= fun x => (sem G F b).ev ρ >>= fun y => val y >>= fun y => M.opt (rngD [x, y])) h = _
  simp only [bind_run]
@[simp] theorem iter_zip {es : T} : (sem G F (.zip es)).iter ρ h = ((sem G F es).evs ρ h).bnd fun ds h => M.opt (zipDs ds) h := by
  show ((sem G F es).evs ρ >>= fun ds => M.opt (zipDs ds)) h = _
  simp only [bind_run]
@[simp] theorem iter_enm {es : T} : (sem G F (.enm es)).iter ρ h = ((sem G F es).evs ρ h).bnd fun ds h => M.opt (enumDs ds) h := by
  show ((sem G F es).evs ρ >>= fun ds => M.opt (enumDs ds)) h = _
  simp only [bind_run]
@[simp] theorem tst_var {i : Nat} : (sem G F (.var i)).tst ρ h = dTst (sem G F (.var i)).ev ρ h := (Eq.refl _).trans rfl
@[simp] theorem cnd_var {i : Nat} : (sem G F (.var i)).cnd ρ h = dTst (sem G F (.var i)).ev ρ h := (Eq.refl _).trans rfl
@[simp] theorem part_var {i : Nat} : (sem G F (.var i)).part ρ h = ((sem G F (.var i)).ev ρ h).bnd fun x h => (rd x h).bnd fun x h => (M.opt (intOf x) h).bnd fun i h => .ok (some i) h := by
  show ((sem G F (.var i)).ev ρ >>= fun x => rd x >>= fun x => M.opt (intOf x) >>= fun i => (pure (some i) : M (Option Int))) h = _
  simp only [bind_run]
  rfl
@[simp] theorem iter_var {i : Nat} : (sem G F (.var i)).iter ρ h = ((sem G F (.var i)).ev ρ h).bnd fun x h => (val x h).bnd fun x h => M.opt (seqOf x) h := by
  show ((sem G F (.var i)).ev ρ >>= fun x => val x >>= fun x => M.opt (seqOf x)) h = _
  simp only [bind_run]
@[simp] theorem part_int {i : Int} : (sem G F (.int i)).part ρ h = ((sem G F (.int i)).ev ρ h).bnd fun x h => (rd x h).bnd fun x h => (M.opt (intOf x) h).bnd fun i h => .ok (some i) h := by
  show ((sem G F (.int i)).ev ρ >>= fun x => rd x >>= fun x => M.opt (intOf x) >>= fun i => (pure (some i) : M (Option Int))) h = _
  simp only [bind_run]
  rfl
@[simp] theorem tst_bl {b : Bool} : (sem G F (.bl b)).tst ρ h = dTst (sem G F (.bl b)).ev ρ h := (Eq.refl _).trans rfl
@[simp] theorem cnd_bl {b : Bool} : (sem G F (.bl b)).cnd ρ h = dTst (sem G F (.bl b)).ev ρ h := (Eq.refl _).trans rfl
@[simp] theorem tst_glob {g : Nat} : (sem G F (.glob g)).tst ρ h = dTst (sem G F (.glob g)).ev ρ h := (Eq.refl _).trans rfl
@[simp] theorem cnd_glob {g : Nat} : (sem G F (.glob g)).cnd ρ h = dTst (sem G F (.glob g)).ev ρ h := (Eq.refl _).trans rfl
@[simp] theorem part_glob {g : Nat} : (sem G F (.glob g)).part ρ h = ((sem G F (.glob g)).ev ρ h).bnd fun x h => (rd x h).bnd fun x h => (M.opt (intOf x) h).bnd fun i h => .ok (some i) h := by
  show ((sem G F (.glob g)).ev ρ >>= fun x => rd x >>= fun x => M.opt (intOf x) >>= fun i => (pure (some i) : M (Option Int))) h = _
  simp only [bind_run]
  rfl
@[simp] theorem iter_glob {g : Nat} : (sem G F (.glob g)).iter ρ h = ((sem G F (.glob g)).ev ρ h).bnd fun x h => (val x h).bnd fun x h => M.opt (seqOf x) h := by
  show ((sem G F (.glob g)).ev ρ >>= fun x => val x >>= fun x => M.opt (seqOf x)) h = _
  simp only [bind_run]
@[simp] theorem tst_bin {op : BOp} {a b : T} : (sem G F (.bin op a b)).tst ρ h = dTst (sem G F (.bin op a b)).ev ρ h := (Eq.refl _).trans rfl
@[simp] theorem cnd_bin {op : BOp} {a b : T} : (sem G F (.bin op a b)).cnd ρ h = dTst (sem G F (.bin op a b)).ev ρ h := (Eq.refl _).trans rfl
@[simp] theorem part_bin {op : BOp} {a b : T} : (sem G F (.bin op a b)).part ρ h = ((sem G F (.bin op a b)).ev ρ h).bnd fun x h => (rd x h).bnd fun x h => (M.opt (intOf x) h).bnd fun i h => .ok (some i) h := by
  show ((sem G F (.bin op a b)).ev ρ >>= fun x => rd x >>= fun x => M.opt (intOf x) >>= fun i => (pure (some i) : M (Option Int))) h = _
  simp only [bind_run]
  rfl
@[simp] theorem iter_bin {op : BOp} {a b : T} : (sem G F (.bin op a b)).iter ρ h = ((sem G F (.bin op a b)).ev ρ h).bnd fun x h => (val x h).bnd fun x h => M.opt (seqOf x) h := by
  show ((sem G F (.bin op a b)).ev ρ >>= fun x => val x >>= fun x => M.opt (seqOf x)) h = _
  simp only [bind_run]
@[simp] theorem part_neg {a : T} : (sem G F (.neg a)).part ρ h = ((sem G F (.neg a)).ev ρ h).bnd fun x h => (rd x h).bnd fun x h => (M.opt (intOf x) h).bnd fun i h => .ok (some i) h := by
  show ((sem G F (.neg a)).ev ρ >>= fun x => rd x >>= fun x => M.opt (intOf x) >>= fun i => (pure (some i) : M (Option Int))) h = _
  simp only [bind_run]
  rfl
@[simp] theorem tst_cmp {op : COp} {a b : T} : (sem G F (.cmp op a b)).tst ρ h = dTst (sem G F (.cmp op a b)).ev ρ h := (Eq.refl _).trans rfl
@[simp] theorem cnd_cmp {op : COp} {a b : T} : (sem G F (.cmp op a b)).cnd ρ h = dTst (sem G F (.cmp op a b)).ev ρ h := (Eq.refl _).trans rfl
@[simp] theorem tst_chn {o1 o2 : COp} {a b c : T} : (sem G F (.chn o1 o2 a b c)).tst ρ h = dTst (sem G F (.chn o1 o2 a b c)).ev ρ h := (Eq.refl _).trans rfl
@[simp] theorem cnd_chn {o1 o2 : COp} {a b c : T} : (sem G F (.chn o1 o2 a b c)).cnd ρ h = dTst (sem G F (.chn o1 o2 a b c)).ev ρ h := (Eq.refl _).trans rfl
@[simp] theorem tst_isN {a : T} : (sem G F (.isN a)).tst ρ h = dTst (sem G F (.isN a)).ev ρ h := (Eq.refl _).trans rfl
@[simp] theorem cnd_isN {a : T} : (sem G F (.isN a)).cnd ρ h = dTst (sem G F (.isN a)).ev ρ h := (Eq.refl _).trans rfl
@[simp] theorem tst_isNN {a : T} : (sem G F (.isNN a)).tst ρ h = dTst (sem G F (.isNN a)).ev ρ h := (Eq.refl _).trans rfl
@[simp] theorem cnd_isNN {a : T} : (sem G F (.isNN a)).cnd ρ h = dTst (sem G F (.isNN a)).ev ρ h := (Eq.refl _).trans rfl
@[simp] theorem tst_ix {a i : T} : (sem G F (.ix a i)).tst ρ h = dTst (sem G F (.ix a i)).ev ρ h := (Eq.refl _).trans rfl
@[simp] theorem cnd_ix {a i : T} : (sem G F (.ix a i)).cnd ρ h = dTst (sem G F (.ix a i)).ev ρ h := (Eq.refl _).trans rfl
@[simp] theorem part_ix {a i : T} : (sem G F (.ix a i)).part ρ h = ((sem G F (.ix a i)).ev ρ h).bnd fun x h => (rd x h).bnd fun x h => (M.opt (intOf x) h).bnd fun i h => .ok (some i) h := by
  show ((sem G F (.ix a i)).ev ρ >>= fun x => rd x >>= fun x => M.opt (intOf x) >>= fun i => (pure (some i) : M (Option Int))) h = _
  simp only [bind_run]
  rfl
@[simp] theorem iter_ix {a i : T} : (sem G F (.ix a i)).iter ρ h = ((sem G F (.ix a i)).ev ρ h).bnd fun x h => (val x h).bnd fun x h => M.opt (seqOf x) h := by
  show ((sem G F (.ix a i)).ev ρ >>= fun x => val x >>= fun x => M.opt (seqOf x)) h = _
  simp only [bind_run]
@[simp] theorem tst_sl {a l u : T} : (sem G F (.sl a l u)).tst ρ h = dTst (sem G F (.sl a l u)).ev ρ h := (Eq.refl _).trans rfl
@[simp] theorem cnd_sl {a l u : T} : (sem G F (.sl a l u)).cnd ρ h = dTst (sem G F (.sl a l u)).ev ρ h := (Eq.refl _).trans rfl
@[simp] theorem iter_sl {a l u : T} : (sem G F (.sl a l u)).iter ρ h = ((sem G F (.sl a l u)).ev ρ h).bnd fun x h => (val x h).bnd fun x h => M.opt (seqOf x) h := by
  show ((sem G F (.sl a l u)).ev ρ >>= fun x => val x >>= fun x => M.opt (seqOf x)) h = _
  simp only [bind_run]
@[simp] theorem tst_call {f : Nat} {es : T} : (sem G F (.call f es)).tst ρ h = dTst (sem G F (.call f es)).ev ρ h := (Eq.refl _).trans rfl
@[simp] theorem cnd_call {f : Nat} {es : T} : (sem G F (.call f es)).cnd ρ h = dTst (sem G F (.call f es)).ev ρ h := (Eq.refl _).trans rfl
@[simp] theorem part_call {f : Nat} {es : T} : (sem G F (.call f es)).part ρ h = ((sem G F (.call f es)).ev ρ h).bnd fun x h => (rd x h).bnd fun x h => (M.opt (intOf x) h).bnd fun i h => .ok (some i) h := by
  show ((sem G F (.call f es)).ev ρ >>= fun x => rd x >>= fun x => M.opt (intOf x) >>= fun i => (pure (some i) : M (Option Int))) h = _
  simp only [bind_run]
  rfl
@[simp] theorem iter_call {f : Nat} {es : T} : (sem G F (.call f es)).iter ρ h = ((sem G F (.call f es)).ev ρ h).bnd fun x h => (val x h).bnd fun x h => M.opt (seqOf x) h := by
  show ((sem G F (.call f es)).ev ρ >>= fun x => val x >>= fun x => M.opt (seqOf x)) h = _
  simp only [bind_run]
@[simp] theorem tst_blt {b : Bl} {es : T} : (sem G F (.blt b es)).tst ρ h = dTst (sem G F (.blt b es)).ev ρ h := (Eq.refl _).trans rfl
@[simp] theorem cnd_blt {b : Bl} {es : T} : (sem G F (.blt b es)).cnd ρ h = dTst (sem G F (.blt b es)).ev ρ h := (Eq.refl _).trans rfl
@[simp] theorem part_blt {b : Bl} {es : T} : (sem G F (.blt b es)).part ρ h = ((sem G F (.blt b es)).ev ρ h).bnd fun x h => (rd x h).bnd fun x h => (M.opt (intOf x) h).bnd fun i h => .ok (some i) h := by
  show ((sem G F (.blt b es)).ev ρ >>= fun x => rd x >>= fun x => M.opt (intOf x) >>= fun i => (pure (some i) : M (Option Int))) h = _
  simp only [bind_run]
  rfl
@[simp] theorem iter_blt {b : Bl} {es : T} : (sem G F (.blt b es)).iter ρ h = ((sem G F (.blt b es)).ev ρ h).bnd fun x h => (val x h).bnd fun x h => M.opt (seqOf x) h := by
  show ((sem G F (.blt b es)).ev ρ >>= fun x => val x >>= fun x => M.opt (seqOf x)) h = _
  simp only [bind_run]
@[simp] theorem tst_isi {a : T} {k : Kd} : (sem G F (.isi a k)).tst ρ h = dTst (sem G F (.isi a k)).ev ρ h := (Eq.refl _).trans rfl
@[simp] theorem cnd_isi {a : T} {k : Kd} : (sem G F (.isi a k)).cnd ρ h = dTst (sem G F (.isi a k)).ev ρ h := (Eq.refl _).trans rfl
@[simp] theorem tst_lst {es : T} : (sem G F (.lst es)).tst ρ h = dTst (sem G F (.lst es)).ev ρ h := (Eq.refl _).trans rfl
@[simp] theorem cnd_lst {es : T} : (sem G F (.lst es)).cnd ρ h = dTst (sem G F (.lst es)).ev ρ h := (Eq.refl _).trans rfl
@[simp] theorem iter_lst {es : T} : (sem G F (.lst es)).iter ρ h = ((sem G F (.lst es)).ev ρ h).bnd fun x h => (val x h).bnd fun x h => M.opt (seqOf x) h := by
  show ((sem G F (.lst es)).ev ρ >>= fun x => val x >>= fun x => M.opt (seqOf x)) h = _
  simp only [bind_run]
@[simp] theorem iter_lof {a : T} : (sem G F (.lof a)).iter ρ h = ((sem G F (.lof a)).ev ρ h).bnd fun x h => (val x h).bnd fun x h => M.opt (seqOf x) h := by
  show ((sem G F (.lof a)).ev ρ >>= fun x => val x >>= fun x => M.opt (seqOf x)) h = _
  simp only [bind_run]
@[simp] theorem iter_tup {es : T} : (sem G F (.tup es)).iter ρ h = ((sem G F (.tup es)).ev ρ h).bnd fun x h => (val x h).bnd fun x h => M.opt (seqOf x) h := by
  show ((sem G F (.tup es)).ev ρ >>= fun x => val x >>= fun x => M.opt (seqOf x)) h = _
  simp only [bind_run]
@[simp] theorem tst_comp {own is : List Nat} {tp : Bool} {it c e : T} : (sem G F (.comp own is tp it c e)).tst ρ h = dTst (sem G F (.comp own is tp it c e)).ev ρ h := (Eq.refl _).trans rfl
@[simp] theorem cnd_comp {own is : List Nat} {tp : Bool} {it c e : T} : (sem G F (.comp own is tp it c e)).cnd ρ h = dTst (sem G F (.comp own is tp it c e)).ev ρ h := (Eq.refl _).trans rfl
@[simp] theorem iter_comp {own is : List Nat} {tp : Bool} {it c e : T} : (sem G F (.comp own is tp it c e)).iter ρ h = ((sem G F (.comp own is tp it c e)).ev ρ h).bnd fun x h => (val x h).bnd fun x h => M.opt (seqOf x) h := by
  show ((sem G F (.comp own is tp it c e)).ev ρ >>= fun x => val x >>= fun x => M.opt (seqOf x)) h = _
  simp only [bind_run]

@[simp] theorem wipe_nil {ρ : Env} : wipe ρ [] = ρ := (Eq.refl _).trans rfl
@[simp] theorem wipe_cons {ρ : Env} {v : Nat} {vs : List Nat} : wipe ρ (v :: vs) = (wipe ρ vs).set v none := (Eq.refl _).trans rfl
/-! ### statements -/
@[simp] theorem setAt_run {x i e : D} : setAt x i e h = (val e h).bnd fun y h => (liv x h).bnd fun r h => (rd i h).bnd fun i h => (M.opt (intOf i) h).bnd fun i h => (M.opt (L2.ixN r.2.length i) h).bnd fun k h => put r.1 (r.2.set k y) h := by
  unfold setAt
  simp only [bind_run]
@[simp] theorem ex_skip : exec G F .skip ρ h = .ok (.nx, ρ) h := (Eq.refl _).trans rfl
def nxt (f : Env → List O → Out (Fl × Env)) (r : Fl × Env) (h : List O) : Out (Fl × Env) := match r with
  | (.nx, ρ) => f ρ h
  | r => .ok r h
@[simp] theorem nxt_nx {f : Env → List O → Out (Fl × Env)} : nxt f (.nx, ρ) h = f ρ h := (Eq.refl _).trans rfl
@[simp] theorem nxt_rt {f : Env → List O → Out (Fl × Env)} {d : D} : nxt f (.rt d, ρ) h = .ok (.rt d, ρ) h := (Eq.refl _).trans rfl
@[simp] theorem nxt_bk {f : Env → List O → Out (Fl × Env)} : nxt f (.bk, ρ) h = .ok (.bk, ρ) h := (Eq.refl _).trans rfl
@[simp] theorem nxt_ct {f : Env → List O → Out (Fl × Env)} : nxt f (.ct, ρ) h = .ok (.ct, ρ) h := (Eq.refl _).trans rfl
@[simp] theorem nxt_ex {f : Env → List O → Out (Fl × Env)} {x : Exn} : nxt f (.ex x, ρ) h = .ok (.ex x, ρ) h := (Eq.refl _).trans rfl
@[simp] theorem ex_seq {a b : S} : exec G F (.seq a b) ρ h = (exec G F a ρ h).bnd (nxt fun ρ h => exec G F b ρ h) := by
  show (exec G F a ρ >>= fun r => match r with | (.nx, ρ1) => exec G F b ρ1 | r => pure r) h = _
  simp only [bind_run]
  congr 1; funext r h
  obtain ⟨f, ρ⟩ := r
  cases f <;> rfl
@[simp] theorem ex_set {i : Nat} {e : T} : exec G F (.set i e) ρ h = ((sem G F e).ev ρ h).bnd fun d h => .ok (.nx, ρ.set i (some d)) h := by
  show ((sem G F e).ev ρ >>= fun d => (pure (.nx, ρ.set i (some d)) : M (Fl × Env))) h = _
  simp only [bind_run]
  rfl
@[simp] theorem ex_setT {is : List Nat} {e : T} : exec G F (.setT is e) ρ h = ((sem G F e).ev ρ h).bnd fun d h => (rd d h).bnd fun d h => (M.opt (bindG is true d ρ) h).bnd fun ρ h => .ok (.nx, ρ) h := by
  show ((sem G F e).ev ρ >>= fun d => rd d >>= fun d => M.opt (bindG is true d ρ) >>= fun ρ => (pure (.nx, ρ) : M (Fl × Env))) h = _
  simp only [bind_run]
  rfl
@[simp] theorem ex_par {i j : Nat} {a b : T} : exec G F (.par i j a b) ρ h = ((sem G F a).ev ρ h).bnd fun x h => ((sem G F b).ev ρ h).bnd fun y h => .ok (.nx, (ρ.set i (some x)).set j (some y)) h := by
  show ((sem G F a).ev ρ >>= fun x => (sem G F b).ev ρ >>= fun y => (pure (.nx, (ρ.set i (some x)).set j (some y)) : M (Fl × Env))) h = _
  simp only [bind_run]
  rfl
@[simp] theorem ex_par3 {i j l : Nat} {a b c : T} : exec G F (.par3 i j l a b c) ρ h = ((sem G F a).ev ρ h).bnd fun x h => ((sem G F b).ev ρ h).bnd fun y h => ((sem G F c).ev ρ h).bnd fun z h => .ok (.nx, ((ρ.set i (some x)).set j (some y)).set l (some z)) h := by
  show ((sem G F a).ev ρ >>= fun x => (sem G F b).ev ρ >>= fun y => (sem G F c).ev ρ >>= fun z => (pure (.nx, ((ρ.set i (some x)).set j (some y)).set l (some z)) : M (Fl × Env))) h = _
  simp only [bind_run]
  rfl
@[simp] theorem ex_new {i : Nat} {e : T} : exec G F (.new i e) ρ h = ((sem G F e).frs ρ h).bnd fun xs h => .ok (.nx, ρ.set i (some (.r h.length))) (h ++ [.lst xs]) := by
  show ((sem G F e).frs ρ >>= fun xs => newL xs >>= fun d => (pure (.nx, ρ.set i (some d)) : M (Fl × Env))) h = _
  simp only [bind_run]
  rfl
@[simp] theorem ex_ixs {x i e : T} : exec G F (.ixs x i e) ρ h = ((sem G F e).ev ρ h).bnd fun d h => (val d h).bnd fun d h => ((sem G F x).ev ρ h).bnd fun o h => ((sem G F i).ev ρ h).bnd fun i h => (setAt o i (.p d) h).bnd fun _ h => .ok (.nx, ρ) h := by
  show ((sem G F e).ev ρ >>= fun d => val d >>= fun d => (sem G F x).ev ρ >>= fun o => (sem G F i).ev ρ >>= fun i => setAt o i (.p d) >>= fun _ => (pure (.nx, ρ) : M (Fl × Env))) h = _
  simp only [bind_run]
  rfl
@[simp] theorem ex_app {x e : T} : exec G F (.app x e) ρ h = ((sem G F x).ev ρ h).bnd fun o h => ((sem G F e).ev ρ h).bnd fun d h => (val d h).bnd fun d h => (liv o h).bnd fun r h => slM r.2.length (.ok (.nx, ρ) (h.set r.1 (.lst (r.2 ++ [d])))) := by
  show ((sem G F x).ev ρ >>= fun o => (sem G F e).ev ρ >>= fun d => val d >>= fun d => liv o >>= fun r => if r.2.length < 2 ^ 23 then put r.1 (r.2 ++ [d]) >>= fun _ => (pure (.nx, ρ) : M (Fl × Env)) else M.no) h = _
  simp only [bind_run, ite_run]
  rfl
def extM (n : Nat) (o : Out (Fl × Env)) : Out (Fl × Env) := if n ≤ 1000000 then o else .no
theorem extM_ok {n : Nat} {o : Out (Fl × Env)} (h : n ≤ 1000000) : extM n o = o := if_pos h
@[simp] theorem ex_ext {x e : T} : exec G F (.ext x e) ρ h = ((sem G F x).ev ρ h).bnd fun o h => ((sem G F e).ev ρ h).bnd fun d h => (val d h).bnd fun d h => (M.opt (lstOf d) h).bnd fun ys h => (liv o h).bnd fun r h => extM (r.2.length + ys.length) (.ok (.nx, ρ) (h.set r.1 (.lst (r.2 ++ ys)))) := by
  show ((sem G F x).ev ρ >>= fun o => (sem G F e).ev ρ >>= fun d => val d >>= fun d => M.opt (lstOf d) >>= fun ys => liv o >>= fun r => if r.2.length + ys.length ≤ 1000000 then put r.1 (r.2 ++ ys) >>= fun _ => (pure (.nx, ρ) : M (Fl × Env)) else M.no) h = _
  simp only [bind_run, ite_run]
  rfl
@[simp] theorem setAtN_run {x i d : D} : setAtN x i d h = (livN x h).bnd fun r h => (rd i h).bnd fun i h => (M.opt (intOf i) h).bnd fun i h => (M.opt (L2.ixN r.2.length i) h).bnd fun k h => .ok () (h.set r.1 (.nst (r.2.set k d))) := by
  unfold setAtN
  simp only [bind_run, putN_run]
@[simp] theorem ex_newN {i : Nat} {e : T} : exec G F (.newN i e) ρ h = ((sem G F e).frn ρ h).bnd fun xs h => .ok (.nx, ρ.set i (some (.r h.length))) (h ++ [.nst xs]) := by
  show ((sem G F e).frn ρ >>= fun xs => newN xs >>= fun d => (pure (.nx, ρ.set i (some d)) : M (Fl × Env))) h = _
  simp only [bind_run]
  rfl
@[simp] theorem ex_ixsF {x i e : T} : exec G F (.ixsF x i e) ρ h = ((sem G F e).frs ρ h).bnd fun xs h => (newL xs h).bnd fun d h => ((sem G F x).ev ρ h).bnd fun o h => ((sem G F i).ev ρ h).bnd fun i h => (setAtN o i d h).bnd fun _ h => .ok (.nx, ρ) h := by
  show ((sem G F e).frs ρ >>= fun xs => newL xs >>= fun d => (sem G F x).ev ρ >>= fun o => (sem G F i).ev ρ >>= fun i => setAtN o i d >>= fun _ => (pure (.nx, ρ) : M (Fl × Env))) h = _
  simp only [bind_run]
  rfl
@[simp] theorem ex_swp {x i x2 j a b : T} : exec G F (.swp x i x2 j a b) ρ h = ((sem G F a).ev ρ h).bnd fun d1 h => (val d1 h).bnd fun d1 h => ((sem G F b).ev ρ h).bnd fun d2 h => (val d2 h).bnd fun d2 h => ((sem G F x).ev ρ h).bnd fun o h => ((sem G F i).ev ρ h).bnd fun i h => (setAt o i (.p d1) h).bnd fun _ h =>
    ((sem G F x2).ev ρ h).bnd fun o2 h => ((sem G F j).ev ρ h).bnd fun j h => (setAt o2 j (.p d2) h).bnd fun _ h => .ok (.nx, ρ) h := by
  show ((sem G F a).ev ρ >>= fun d1 => val d1 >>= fun d1 => (sem G F b).ev ρ >>= fun d2 => val d2 >>= fun d2 => (sem G F x).ev ρ >>= fun o => (sem G F i).ev ρ >>= fun i => setAt o i (.p d1) >>= fun _ => (sem G F x2).ev ρ >>= fun o2 => (sem G F j).ev ρ >>= fun j => setAt o2 j (.p d2) >>= fun _ => (pure (.nx, ρ) : M (Fl × Env))) h = _
  simp only [bind_run]
  rfl
@[simp] theorem ex_swn {x i x2 j a b : T} : exec G F (.swn x i x2 j a b) ρ h = ((sem G F a).ev ρ h).bnd fun d1 h => ((sem G F b).ev ρ h).bnd fun d2 h => ((sem G F x).ev ρ h).bnd fun o h => ((sem G F i).ev ρ h).bnd fun i h => (setAtN o i d1 h).bnd fun _ h =>
    ((sem G F x2).ev ρ h).bnd fun o2 h => ((sem G F j).ev ρ h).bnd fun j h => (setAtN o2 j d2 h).bnd fun _ h => .ok (.nx, ρ) h := by
  show ((sem G F a).ev ρ >>= fun d1 => (sem G F b).ev ρ >>= fun d2 => (sem G F x).ev ρ >>= fun o => (sem G F i).ev ρ >>= fun i => setAtN o i d1 >>= fun _ => (sem G F x2).ev ρ >>= fun o2 => (sem G F j).ev ρ >>= fun j => setAtN o2 j d2 >>= fun _ => (pure (.nx, ρ) : M (Fl × Env))) h = _
  simp only [bind_run]
  rfl
@[simp] theorem ex_appF {x e : T} : exec G F (.appF x e) ρ h = ((sem G F x).ev ρ h).bnd fun o h => ((sem G F e).frs ρ h).bnd fun xs h => (newL xs h).bnd fun d h => (livN o h).bnd fun r h => slM r.2.length (.ok (.nx, ρ) (h.set r.1 (.nst (r.2 ++ [d])))) := by
  show ((sem G F x).ev ρ >>= fun o => (sem G F e).frs ρ >>= fun xs => newL xs >>= fun d => livN o >>= fun r => if r.2.length < 2 ^ 23 then putN r.1 (r.2 ++ [d]) >>= fun _ => (pure (.nx, ρ) : M (Fl × Env)) else M.no) h = _
  simp only [bind_run, ite_run]
  rfl
@[simp] theorem ex_expr {e : T} : exec G F (.expr e) ρ h = ((sem G F e).ev ρ h).bnd fun _ h => .ok (.nx, ρ) h := by
  show ((sem G F e).ev ρ >>= fun _ => (pure (.nx, ρ) : M (Fl × Env))) h = _
  simp only [bind_run]
  rfl
@[simp] theorem ex_ife {c : T} {a b : S} : exec G F (.ife c a b) ρ h = ((sem G F c).tst ρ h).bnd fun k h => if k then exec G F a ρ h else exec G F b ρ h := by
  show ((sem G F c).tst ρ >>= fun k => if k then exec G F a ρ else exec G F b ρ) h = _
  simp only [bind_run, ite_run]
@[simp] theorem ex_for {is : List Nat} {tp : Bool} {it : T} {b : S} : exec G F (.for_ is tp it b) ρ h = ((sem G F it).iter ρ h).bnd fun xs h => loopF is tp (fun ρ => exec G F b ρ) xs ρ h := by
  show ((sem G F it).iter ρ >>= fun xs => loopF is tp (fun ρ => exec G F b ρ) xs ρ) h = _
  simp only [bind_run]
@[simp] theorem ex_whl {c : T} {b : S} : exec G F (.whl c b) ρ h = loopW (sem G F c).tst (fun ρ => exec G F b ρ) W ρ h := (Eq.refl _).trans rfl
@[simp] theorem ex_ret {e : T} : exec G F (.ret e) ρ h = ((sem G F e).ev ρ h).bnd fun d h => .ok (.rt d, ρ) h := by
  show ((sem G F e).ev ρ >>= fun d => (pure (.rt d, ρ) : M (Fl × Env))) h = _
  simp only [bind_run]
  rfl
@[simp] theorem ex_retF {e : T} : exec G F (.retF e) ρ h = ((sem G F e).frs ρ h).bnd fun xs h => .ok (.rt (.r h.length), ρ) (h ++ [.lst xs]) := by
  show ((sem G F e).frs ρ >>= fun xs => newL xs >>= fun d => (pure (.rt d, ρ) : M (Fl × Env))) h = _
  simp only [bind_run]
  rfl
@[simp] theorem ex_retN : exec G F .retN ρ h = .ok (.rt (.p .none), ρ) h := (Eq.refl _).trans rfl
@[simp] theorem ex_brk : exec G F .brk ρ h = .ok (.bk, ρ) h := (Eq.refl _).trans rfl
@[simp] theorem ex_cont : exec G F .cont ρ h = .ok (.ct, ρ) h := (Eq.refl _).trans rfl
@[simp] theorem ex_bad : exec G F .bad ρ h = .no := (Eq.refl _).trans rfl
/-! ### lists of lists handed about; the least by a key; put in, taken out -/
@[simp] theorem blt_maxL {xs : List PyData} : bltD .max [.list xs] = mostD maxL xs := (Eq.refl _).trans rfl
@[simp] theorem blt_minL {xs : List PyData} : bltD .min [.list xs] = leastD xs := (Eq.refl _).trans rfl
theorem most_ints {f : Int → List Int → Int} {n : Int} {ns : List Int} : mostD f ((n :: ns).map .int) = some (.int (f n ns)) := by
  unfold mostD
  rw [ints_map]
@[simp] theorem lsOf_lst {xs : List PyData} : lsOf (.list xs) = some xs := (Eq.refl _).trans rfl
@[simp] theorem cmp_mem {x y : PyData} : cmpD .mem x y = memD x y := (Eq.refl _).trans rfl
@[simp] theorem cmp_nmem {x y : PyData} : cmpD .nmem x y = (memD x y).map (!·) := (Eq.refl _).trans rfl
@[simp] theorem mem_list {x : PyData} {ys : List PyData} : memD x (.list ys) = if shp x && shp (.list ys) then some (ys.any fun z => PyData.eqv z x) else none := (Eq.refl _).trans rfl
@[simp] theorem ev_minl {i : Nat} {it elt : T} : (sem G F (.minl i it elt)).ev ρ h = ((sem G F it).ev ρ h).bnd fun x h => (val x h).bnd fun x h => (M.opt (lsOf x) h).bnd fun xs h => (M.opt (intsOf xs) h).bnd fun ns h => (keysL i ρ (sem G F elt).ev ns h).bnd fun ks h => (M.opt (argD ns ks) h).bnd fun z h => .ok (.p (.int z)) h := by
  show ((sem G F it).ev ρ >>= fun x => val x >>= fun x => M.opt (lsOf x) >>= fun xs => M.opt (intsOf xs) >>= fun ns => keysL i ρ (sem G F elt).ev ns >>= fun ks => M.opt (argD ns ks) >>= fun z => (pure (.p (.int z)) : M D)) h = _
  simp only [bind_run]
  rfl
theorem keys_nil {i : Nat} {e : Env → M D} : keysL i ρ e [] h = .ok [] h := (Eq.refl _).trans rfl
theorem keys_cons {i : Nat} {e : Env → M D} {n : Int} {r : List Int} : keysL i ρ e (n :: r) h = (e (ρ.set i (some (.p (.int n)))) h).bnd fun y h => (rd y h).bnd fun y h => (M.opt (intOf y) h).bnd fun k h => (keysL i ρ e r h).bnd fun ks h => .ok (k :: ks) h := by
  show (e (ρ.set i (some (.p (.int n)))) >>= fun y => rd y >>= fun y => M.opt (intOf y) >>= fun k => keysL i ρ e r >>= fun ks => (pure (k :: ks) : M (List Int))) h = _
  simp only [bind_run]
  rfl
/-- each number's key, nothing changed -/
theorem keys_map {i : Nat} {e : Env → M D} (f : Int → Int) : ∀ {ns : List Int}, (∀ n ∈ ns, e (ρ.set i (some (.p (.int n)))) h = .ok (.p (.int (f n))) h) → keysL i ρ e ns h = .ok (ns.map f) h
  | [], _ => keys_nil
  | n :: r, w => by
    rw [keys_cons, w n (by simp)]
    simp only [bnd_ok1, rd_p, intOf_int, opt_some]
    rw [keys_map f (fun m hm => w m (by simp [hm]))]
    rfl
@[simp] theorem iter_rev {a : T} : (sem G F (.rev a)).iter ρ h = ((sem G F a).ev ρ h).bnd fun x h => (val x h).bnd fun x h => (M.opt (seqOf x) h).bnd fun xs h => .ok xs.reverse h := by
  show ((sem G F a).ev ρ >>= fun x => val x >>= fun x => M.opt (seqOf x) >>= fun xs => (pure xs.reverse : M (List PyData))) h = _
  simp only [bind_run]
  rfl
@[simp] theorem eva_consL {a tl : T} : (sem G F (.consL a tl)).eva ρ h = ((sem G F a).frs ρ h).bnd fun xs h => ((sem G F tl).eva ρ (h ++ [.lst xs])).bnd fun ds h' => .ok (.r h.length :: ds) h' := by
  show ((sem G F a).frs ρ >>= fun xs => newL xs >>= fun x => (sem G F tl).eva ρ >>= fun ds => (pure (x :: ds) : M (List D))) h = _
  simp only [bind_run]
  rfl
@[simp] theorem eva_consN {a tl : T} : (sem G F (.consN a tl)).eva ρ h = ((sem G F a).frn ρ h).bnd fun xs h => ((sem G F tl).eva ρ (h ++ [.nst xs])).bnd fun ds h' => .ok (.r h.length :: ds) h' := by
  show ((sem G F a).frn ρ >>= fun xs => newN xs >>= fun x => (sem G F tl).eva ρ >>= fun ds => (pure (x :: ds) : M (List D))) h = _
  simp only [bind_run]
  rfl
@[simp] theorem livP_t {xs : List (PyData ⊕ Nat)} : livP (.t xs) h = .ok (xs.map itD) h := (Eq.refl _).trans rfl
@[simp] theorem itD_l {d : PyData} : itD (.inl d) = .p d := (Eq.refl _).trans rfl
@[simp] theorem itD_r {n : Nat} : itD (.inr n) = .r n := (Eq.refl _).trans rfl
@[simp] theorem ofDs_nil : ofDs [] = some [] := (Eq.refl _).trans rfl
@[simp] theorem ofDs_r {n : Nat} {r : List D} : ofDs (.r n :: r) = (ofDs r).map (.inr n :: ·) := by
  show (match ofD (.r n), ofDs r with | some x, some xs => some (x :: xs) | _, _ => none) = _
  cases ofDs r <;> rfl
@[simp] theorem ofDs_p {d : PyData} {r : List D} : ofDs (.p d :: r) = (ofDs r).map (.inl d :: ·) := by
  show (match ofD (.p d), ofDs r with | some x, some xs => some (x :: xs) | _, _ => none) = _
  cases ofDs r <;> rfl
@[simp] theorem newP_run {xs : List D} : newP xs h = M.opt ((ofDs xs).map D.t) h := (Eq.refl _).trans rfl
@[simp] theorem ev_tupN {es : T} : (sem G F (.tupN es)).ev ρ h = ((sem G F es).eva ρ h).bnd fun ds h => szM ds.length (newP ds h) := by
  show ((sem G F es).eva ρ >>= fun ds => if ds.length ≤ 2 ^ 23 then newP ds else M.no) h = _
  simp only [bind_run, ite_run]
  rfl
@[simp] theorem ev_ixp {a i : T} : (sem G F (.ixp a i)).ev ρ h = ((sem G F a).ev ρ h).bnd fun x h => ((sem G F i).ev ρ h).bnd fun y h => (livP x h).bnd fun r h => (rd y h).bnd fun y h => (M.opt (intOf y) h).bnd fun i h => M.opt (L2.atI r i) h := by
  show ((sem G F a).ev ρ >>= fun x => (sem G F i).ev ρ >>= fun y => livP x >>= fun r => rd y >>= fun y => M.opt (intOf y) >>= fun i => M.opt (L2.atI r i)) h = _
  simp only [bind_run]
@[simp] theorem setAll_nil : setAll [] [] ρ = some ρ := (Eq.refl _).trans rfl
@[simp] theorem setAll_cons {i : Nat} {is : List Nat} {d : D} {ds : List D} : setAll (i :: is) (d :: ds) ρ = setAll is ds (ρ.set i (some d)) := (Eq.refl _).trans rfl
@[simp] theorem ex_setP {is : List Nat} {e : T} : exec G F (.setP is e) ρ h = ((sem G F e).ev ρ h).bnd fun d h => (livP d h).bnd fun ds h => (M.opt (setAll is ds ρ) h).bnd fun ρ h => .ok (.nx, ρ) h := by
  show ((sem G F e).ev ρ >>= fun d => livP d >>= fun ds => M.opt (setAll is ds ρ) >>= fun ρ => (pure (.nx, ρ) : M (Fl × Env))) h = _
  simp only [bind_run]
  rfl
@[simp] theorem ex_forN {i : Nat} {x : T} {b : S} : exec G F (.forN i x b) ρ h = ((sem G F x).ev ρ h).bnd fun o h => (livN o h).bnd fun r h => loopN i o (fun ρ => exec G F b ρ) r.2.length 0 ρ h := by
  show ((sem G F x).ev ρ >>= fun o => livN o >>= fun r => loopN i o (fun ρ => exec G F b ρ) r.2.length 0 ρ) h = _
  simp only [bind_run]
def insM (n : Nat) (i : Int) (o : Out (Fl × Env)) : Out (Fl × Env) := if n < 2 ^ 23 ∧ 0 ≤ i ∧ i < 2 ^ 63 then o else .no
theorem insM_ok {n : Nat} {i : Int} {o : Out (Fl × Env)} (h1 : n ≤ 1000000) (h2 : 0 ≤ i) (h3 : i ≤ 1000000) : insM n i o = o := if_pos ⟨by omega, h2, by omega⟩
@[simp] theorem ex_ins {x i e : T} : exec G F (.ins x i e) ρ h = ((sem G F x).ev ρ h).bnd fun o h => ((sem G F i).ev ρ h).bnd fun y h => ((sem G F e).ev ρ h).bnd fun d h => (val d h).bnd fun d h => (rd y h).bnd fun y h => (M.opt (intOf y) h).bnd fun i h => (liv o h).bnd fun r h => insM r.2.length i (.ok (.nx, ρ) (h.set r.1 (.lst (r.2.take i.toNat ++ [d] ++ r.2.drop i.toNat)))) := by
  show ((sem G F x).ev ρ >>= fun o => (sem G F i).ev ρ >>= fun y => (sem G F e).ev ρ >>= fun d => val d >>= fun d => rd y >>= fun y => M.opt (intOf y) >>= fun i => liv o >>= fun r => if r.2.length < 2 ^ 23 ∧ 0 ≤ i ∧ i < 2 ^ 63 then put r.1 (r.2.take i.toNat ++ [d] ++ r.2.drop i.toNat) >>= fun _ => (pure (.nx, ρ) : M (Fl × Env)) else M.no) h = _
  simp only [bind_run, ite_run]
  rfl
@[simp] theorem ex_rvs {x : T} : exec G F (.rvs x) ρ h = ((sem G F x).ev ρ h).bnd fun o h => (liv o h).bnd fun r h => .ok (.nx, ρ) (h.set r.1 (.lst r.2.reverse)) := by
  show ((sem G F x).ev ρ >>= fun o => liv o >>= fun r => put r.1 r.2.reverse >>= fun _ => (pure (.nx, ρ) : M (Fl × Env))) h = _
  simp only [bind_run]
  rfl

end

/-! ### loops -/
theorem ok_for {is : List Nat} {tp : Bool} {body : Env → M (Fl × Env)} {Q : Fl × Env → List O → Prop} (I : List PyData → Env → List O → Prop)
    (step : ∀ x r ρ h, I (x :: r) ρ h → Ok (M.opt (bindG is tp x ρ) h) fun ρ1 h => Ok (body ρ1 h) fun fr h => match fr with
      | (.nx, ρ) => I r ρ h
      | (.ct, ρ) => I r ρ h
      | (.bk, ρ) => Q (.nx, ρ) h
      | (.rt d, ρ) => Q (.rt d, ρ) h
      | (.ex x, ρ) => Q (.ex x, ρ) h)
    (done : ∀ ρ h, I [] ρ h → Q (.nx, ρ) h) : ∀ xs ρ h, I xs ρ h → Ok (loopF is tp body xs ρ h) Q
  | [], ρ, h, i => ok_eq (a := (.nx, ρ)) (h := h) rfl (done ρ h i)
  | x :: r, ρ, h, i => by
    unfold loopF
    simp only [bind_run, ok_bnd]
    refine ok_mono (step x r ρ h i) fun ρ1 h1 b => ok_mono b fun fr h2 q => ?_
    obtain ⟨f, ρ2⟩ := fr
    cases f with
    | nx => exact ok_for I step done r ρ2 h2 q
    | ct => exact ok_for I step done r ρ2 h2 q
    | bk => exact ok_of q
    | rt d => exact ok_of q
    | ex x => exact ok_of q
theorem ok_whl {c : Env → M Bool} {body : Env → M (Fl × Env)} {Q : Fl × Env → List O → Prop} (I : Nat → Env → List O → Prop)
    (step : ∀ m ρ h, I m ρ h → Ok (c ρ h) fun k h => if k then Ok (body ρ h) fun fr h => match fr with
      | (.nx, ρ) => ∃ k, k < m ∧ I k ρ h
      | (.ct, ρ) => ∃ k, k < m ∧ I k ρ h
      | (.bk, ρ) => Q (.nx, ρ) h
      | (.rt d, ρ) => Q (.rt d, ρ) h
      | (.ex x, ρ) => Q (.ex x, ρ) h
      else Q (.nx, ρ) h) : ∀ n m ρ h, m < n → I m ρ h → Ok (loopW c body n ρ h) Q
  | 0, m, ρ, h, hm, i => absurd hm (Nat.not_lt_zero m)
  | n + 1, m, ρ, h, hm, i => by
    unfold loopW
    simp only [bind_run, ok_bnd]
    refine ok_mono (step m ρ h i) fun k h1 q => ?_
    cases k with
    | false => simpa using q
    | true =>
      simp only [if_true, bind_run, ok_bnd] at q ⊢
      refine ok_mono q fun fr h2 q => ?_
      obtain ⟨f, ρ2⟩ := fr
      cases f with
      | nx =>
        obtain ⟨k, hk, i⟩ := q
        exact ok_whl I step n k ρ2 h2 (by omega) i
      | ct =>
        obtain ⟨k, hk, i⟩ := q
        exact ok_whl I step n k ρ2 h2 (by omega) i
      | bk => exact ok_of q
      | rt d => exact ok_of q
      | ex x => exact ok_of q
/-- along the n handles of a list of lists; turn j is next -/
theorem ok_loopN {i n : Nat} {o : D} {body : Env → M (Fl × Env)} {Q : Fl × Env → List O → Prop} (I : Nat → Env → List O → Prop)
    (step : ∀ j ρ h, j < n → I j ρ h → ∃ r d, livN o h = .ok r h ∧ r.2[j]? = some d ∧ Ok (body (ρ.set i (some d)) h) fun fr h => match fr with
      | (.nx, ρ) => I (j + 1) ρ h
      | (.ct, ρ) => I (j + 1) ρ h
      | (.bk, ρ) => Q (.nx, ρ) h
      | (.rt d, ρ) => Q (.rt d, ρ) h
      | (.ex x, ρ) => Q (.ex x, ρ) h)
    (done : ∀ ρ h, I n ρ h → (∃ r, livN o h = .ok r h ∧ r.2.length = n) ∧ Q (.nx, ρ) h) : ∀ k j ρ h, k + j = n → I j ρ h → Ok (loopN i o body k j ρ h) Q
  | 0, j, ρ, h, e, w => by
    have e : j = n := by omega
    subst e
    obtain ⟨⟨r, e1, e2⟩, q⟩ := done ρ h w
    unfold loopN
    simp only [bind_run, ok_bnd, e1, ok_ok1, ite_run, e2, if_true]
    exact ok_of q
  | k + 1, j, ρ, h, e, w => by
    obtain ⟨r, d, e1, e2, q⟩ := step j ρ h (by omega) w
    unfold loopN
    simp only [bind_run, ok_bnd, e1, ok_ok1, e2, opt_some]
    refine ok_mono q fun fr h2 q => ?_
    obtain ⟨f, ρ2⟩ := fr
    cases f with
    | nx => exact ok_loopN I step done k (j + 1) ρ2 h2 (by omega) q
    | ct => exact ok_loopN I step done k (j + 1) ρ2 h2 (by omega) q
    | bk => exact ok_of q
    | rt d => exact ok_of q
    | ex x => exact ok_of q
theorem ok_comp {is : List Nat} {tp : Bool} {ρ : Env} {cond : Env → M Bool} {elt : Env → M PyData} {Q : List PyData → List O → Prop} (I : List PyData → List PyData → List O → Prop)
    (step : ∀ x r acc h, I (x :: r) acc h → Ok (M.opt (bindG is tp x ρ) h) fun ρ1 h => Ok (cond ρ1 h) fun k h => if k then Ok (elt ρ1 h) fun y h => I r (acc ++ [y]) h else I r acc h)
    (done : ∀ acc h, I [] acc h → Q acc h) : ∀ xs h, I xs [] h → Ok (compL is tp ρ cond elt xs h) Q := by
  have key : ∀ xs acc h, I xs acc h → Ok (compL is tp ρ cond elt xs h) fun ys h => Q (acc ++ ys) h := by
    intro xs
    induction xs with
    | nil =>
      intro acc h i
      refine ok_eq (a := []) (h := h) rfl ?_
      rw [List.append_nil]
      exact done acc h i
    | cons x r ih =>
      intro acc h i
      unfold compL
      simp only [bind_run, ok_bnd, ite_run]
      refine ok_mono (step x r acc h i) fun ρ1 h1 b => ok_mono b fun k h2 q => ?_
      cases k with
      | true =>
        simp only [if_true, bind_run, ok_bnd] at q ⊢
        refine ok_mono q fun y h3 q => ok_mono (ih _ _ q) fun ys h4 q => ?_
        simpa using q
      | false =>
        simp only [Bool.false_eq_true, if_false] at q ⊢
        exact ih _ _ q
  intro xs h i
  exact ok_mono (key xs [] h i) fun ys h q => by simpa using q
theorem ok_compN {is : List Nat} {tp : Bool} {ρ : Env} {cond : Env → M Bool} {elt : Env → M (List PyData)} {Q : List D → List O → Prop} (I : List PyData → List D → List O → Prop)
    (step : ∀ x r acc h, I (x :: r) acc h → Ok (M.opt (bindG is tp x ρ) h) fun ρ1 h => Ok (cond ρ1 h) fun k h => if k then Ok (elt ρ1 h) fun ys h => I r (acc ++ [.r h.length]) (h ++ [.lst ys]) else I r acc h)
    (done : ∀ acc h, I [] acc h → Q acc h) : ∀ xs h, I xs [] h → Ok (compN is tp ρ cond elt xs h) Q := by
  have key : ∀ xs acc h, I xs acc h → Ok (compN is tp ρ cond elt xs h) fun ys h => Q (acc ++ ys) h := by
    intro xs
    induction xs with
    | nil =>
      intro acc h i
      refine ok_eq (a := []) (h := h) rfl ?_
      rw [List.append_nil]
      exact done acc h i
    | cons x r ih =>
      intro acc h i
      unfold compN
      simp only [bind_run, ok_bnd, ite_run]
      refine ok_mono (step x r acc h i) fun ρ1 h1 b => ok_mono b fun k h2 q => ?_
      cases k with
      | true =>
        simp only [if_true, bind_run, ok_bnd, newL_run, ok_ok1] at q ⊢
        refine ok_mono q fun y h3 q => ok_mono (ih _ _ q) fun ys h4 q => ?_
        simpa using q
      | false =>
        simp only [Bool.false_eq_true, if_false] at q ⊢
        exact ih _ _ q
  intro xs h i
  exact ok_mono (key xs [] h i) fun ys h q => by simpa using q
/-- no draw, no test: each item's own value -/
theorem ok_map {is : List Nat} {tp : Bool} {ρ : Env} {cond : Env → M Bool} {elt : Env → M PyData} {Q : List PyData → List O → Prop} {xs : List PyData} {h : List O} (g : PyData → PyData)
    (step : ∀ x, x ∈ xs → Ok (M.opt (bindG is tp x ρ) h) fun ρ1 h1 => h1 = h ∧ Ok (cond ρ1 h) fun k h1 => k = true ∧ h1 = h ∧ Ok (elt ρ1 h) fun y h1 => y = g x ∧ h1 = h)
    (q : Q (xs.map g) h) : Ok (compL is tp ρ cond elt xs h) Q := by
  refine ok_comp (fun r acc h1 => h1 = h ∧ ∃ p, xs = p ++ r ∧ acc = p.map g) (fun x r acc h1 i => ?_) (fun acc h1 i => ?_) xs h ⟨rfl, [], rfl, rfl⟩
  · obtain ⟨rfl, p, e1, rfl⟩ := i
    refine ok_mono (step x (by rw [e1]; simp)) fun ρ1 h2 ⟨e2, b⟩ => ?_
    subst e2
    refine ok_mono b fun k h3 ⟨e3, e4, b⟩ => ?_
    subst e3; subst e4
    rw [if_pos rfl]
    refine ok_mono b fun y h4 ⟨e5, e6⟩ => ?_
    subst e5; subst e6
    exact ⟨rfl, p ++ [x], by simp [e1], by simp⟩
  · obtain ⟨rfl, p, e1, rfl⟩ := i
    rw [List.append_nil] at e1
    subst e1
    exact q

/-! ### calls -/
@[simp] theorem handles_p (ds : List PyData) : handles (ds.map D.p) = [] := by
  induction ds with
  | nil => rfl
  | cons d r ih => simpa [handles] using ih
theorem norm_p {h : List O} (ds : List PyData) : (ds.map D.p).mapM (norm h) = some (ds.map D.p) := by
  induction ds with
  | nil => rfl
  | cons d r ih => rw [List.map_cons, List.mapM_cons, ih]; rfl
theorem rename_p {idx : List Nat} (ds : List PyData) : (ds.map D.p).map (rename idx) = ds.map D.p := by
  rw [List.map_map]; rfl
section
variable {F : Nat → List D → M (PyData × Bool)} {f n : Nat} {h : List O} {Q : PyData × Bool → List O → Prop} {xs : List PyData}
/-- data alone is handed in -/
theorem ok_call0 (ds : List PyData) (w : Ok (F f (ds.map D.p) []) fun v _ => Q v h) : Ok (callF F f (ds.map D.p) h) Q := by
  unfold callF
  rw [norm_p]
  simp only [handles_p, rename_p, subOf]
  cases e : F f (ds.map D.p) [] with
  | no => rw [e, ok_no1] at w; exact w.elim
  | ex x h' => rw [e, ok_ex1] at w; exact w.elim
  | ok v h' =>
    rw [e, ok_ok1] at w
    simp only [List.length_nil, List.take_zero, List.all_nil, if_true]
    exact ok_of w
/-- a list that may change, and data -/
theorem ok_call1 (ds : List PyData) (hn : h[n]? = some (.lst xs)) (w : Ok (F f (.r 0 :: ds.map D.p) [.lst xs]) fun v h' => (h'.take 1).all O.flat = true ∧ Q v (putBack h [n] h')) : Ok (callF F f (.r n :: ds.map D.p) h) Q := by
  unfold callF
  rw [List.mapM_cons, norm_p]
  have e1 : norm h (.r n) = some (.r n) := by simp only [norm, hn]
  rw [e1]
  have e2 : handles (.r n :: ds.map D.p) = [n] := by simp [handles]
  show Ok (match (some (.r n :: ds.map D.p) : Option (List D)) with
    | none => Out.no
    | some ds => _) Q
  simp only [e2, subOf, hn, List.map_cons, rename_p, rename, List.idxOf_cons_self]
  cases e : F f (.r 0 :: ds.map D.p) [.lst xs] with
  | no => rw [e, ok_no1] at w; exact w.elim
  | ex x h' => rw [e, ok_ex1] at w; exact w.elim
  | ok v h' =>
    rw [e, ok_ok1] at w
    have w1 : (h'.take [n].length).all O.flat = true := w.1
    simp only [w1, if_true]
    exact ok_of w.2
/-- two lists that may change, and data -/
theorem ok_call2 {b : Nat} {ys : List PyData} (ds : List PyData) (hn : h[n]? = some (.lst xs)) (hb : h[b]? = some (.lst ys)) (nb : n ≠ b) (w : Ok (F f (.r 0 :: .r 1 :: ds.map D.p) [.lst xs, .lst ys]) fun v h' => (h'.take 2).all O.flat = true ∧ Q v (putBack h [n, b] h')) : Ok (callF F f (.r n :: .r b :: ds.map D.p) h) Q := by
  unfold callF
  rw [List.mapM_cons, List.mapM_cons, norm_p]
  have e1 : norm h (.r n) = some (.r n) := by simp only [norm, hn]
  have e3 : norm h (.r b) = some (.r b) := by simp only [norm, hb]
  rw [e1, e3]
  have e2 : handles (.r n :: .r b :: ds.map D.p) = [n, b] := by simp [handles, nb]
  show Ok (match (some (.r n :: .r b :: ds.map D.p) : Option (List D)) with
    | none => Out.no
    | some ds => _) Q
  have e4 : List.idxOf b [n, b] = 1 := by simp [List.idxOf_cons, beq_eq_false_iff_ne.mpr nb]
  simp only [e2, subOf, hn, hb, List.map_cons, rename_p, rename, List.idxOf_cons_self, e4]
  cases e : F f (.r 0 :: .r 1 :: ds.map D.p) [.lst xs, .lst ys] with
  | no => rw [e, ok_no1] at w; exact w.elim
  | ex x h' => rw [e, ok_ex1] at w; exact w.elim
  | ok v h' =>
    rw [e, ok_ok1] at w
    have w1 : (h'.take [n, b].length).all O.flat = true := w.1
    simp only [w1, if_true]
    exact ok_of w.2
end
@[simp] theorem putBack_two {h : List O} {n m : Nat} {o p : O} : putBack h [n, m] [o, p] = (h.set m p).set n o := (Eq.refl _).trans rfl
@[simp] theorem putBack_one {h : List O} {n : Nat} {o : O} : putBack h [n] [o] = h.set n o := (Eq.refl _).trans rfl
@[simp] theorem putBack_nil {h l : List O} : putBack h [] l = h := (Eq.refl _).trans rfl
/-- what a def hands back -/
def Fin (k : Nat) (Q : PyData × Bool → List O → Prop) : Fl × Env → List O → Prop
  | (.nx, _), h => Ok (handed k (.p .none) h) Q
  | (.rt d, _), h => Ok (handed k d h) Q
  | _, _ => False
@[simp] theorem fin_rt {k : Nat} {Q : PyData × Bool → List O → Prop} {d : D} {ρ : Env} {h : List O} : Fin k Q (.rt d, ρ) h = Ok (handed k d h) Q := (Eq.refl _).trans rfl
@[simp] theorem fin_nx {k : Nat} {Q : PyData × Bool → List O → Prop} {ρ : Env} {h : List O} : Fin k Q (.nx, ρ) h = Ok (handed k (.p .none) h) Q := (Eq.refl _).trans rfl
theorem ok_run {G : Pg} {F : Nat → List D → M (PyData × Bool)} {fn : Fn} {ds : List D} {h : List O} {Q : PyData × Bool → List O → Prop} (hl : ds.length = fn.np) (w : Ok (exec G F fn.body (ds.map some ++ List.replicate (fn.ns - fn.np) none) h) (Fin h.length Q)) : Ok (runFn G F fn ds h) Q := by
  unfold runFn
  rw [if_pos hl]
  simp only [bind_run, ok_bnd]
  refine ok_mono w fun r h' q => ?_
  obtain ⟨f, ρ⟩ := r
  cases f with
  | nx => exact q
  | rt d => exact q
  | bk => exact False.elim q
  | ct => exact False.elim q
  | ex x => exact False.elim q
end Px

/-! Px17: small facts of numbers. -/
namespace Px
open PySem

end Px

/-! Px18: which data may be shown and compared. -/
namespace Px
open PySem
open TL (tl tl_append tl_ofString)

/-- a text of at most so many signs -/
def Tx (L : Nat) (x : Str) : Prop := (tl x).length ≤ L ∧ ∀ c ∈ tl x, c < 0x110000
theorem tx_app {a b : Nat} {x y : Str} (h : Tx a x) (k : Tx b y) : Tx (a + b) (x ++ y) := by
  unfold Tx
  rw [tl_append, List.length_append]
  refine ⟨Nat.add_le_add h.1 k.1, fun c hc => ?_⟩
  rcases List.mem_append.mp hc with z | z
  · exact h.2 c z
  · exact k.2 c z
theorem tx_mono {a b : Nat} {x : Str} (h : Tx a x) (k : a ≤ b) : Tx b x := ⟨Nat.le_trans h.1 k, h.2⟩
theorem tx_lit (s : String) {n : Nat} (h : s.toList.length ≤ n) : Tx n (Str.ofString s) := by
  unfold Tx
  rw [tl_ofString, List.length_map]
  refine ⟨h, fun c hc => ?_⟩
  obtain ⟨a, _, rfl⟩ := List.mem_map.mp hc
  have := a.valid
  rcases this with q | ⟨_, q⟩
  · show a.val.toNat < _
    have : a.val.toNat < 0xD800 := q
    omega
  · exact q
theorem tx_int {i : Int} {c : Nat} (hc : 1 ≤ c) (h : i.natAbs < 10 ^ c) : Tx (c + 1) (Str.ofString (toString i)) := by
  cases i with
  | ofNat m =>
    refine tx_lit _ ?_
    have : (toString (Int.ofNat m)).toList = Nat.toDigits 10 m := by
      show (Nat.repr m).toList = _
      unfold Nat.repr
      simp
    rw [this]
    exact Nat.le_succ_of_le (PyProof.Rows.digits10_le hc h)
  | negSucc m =>
    refine tx_lit _ ?_
    have : (toString (Int.negSucc m)).toList = '-' :: Nat.toDigits 10 (m + 1) := by
      show ("-" ++ Nat.repr (m + 1)).toList = _
      unfold Nat.repr
      simp
    rw [this, List.length_cons]
    exact Nat.succ_le_succ (PyProof.Rows.digits10_le hc h)
theorem tx_from {L : Nat} : ∀ (ts : List Str) (k : Nat) (acc : Str) (a : Nat), (∀ t ∈ ts, Tx L t) → Tx a acc → Tx (a + ts.length * (L + 2)) (textFrom k acc ts)
  | [], k, acc, a, _, h => by simpa [textFrom] using h
  | t :: r, k, acc, a, ht, h => by
    have h2 : Tx (a + 2 + L) (acc ++ Str.ofString (if k > 0 then ", " else "") ++ t) := by
      refine tx_app (tx_app h (tx_lit _ ?_)) (ht t List.mem_cons_self)
      split <;> decide
    have := tx_from r (k + 1) _ _ (fun u hu => ht u (List.mem_cons_of_mem _ hu)) h2
    refine tx_mono this ?_
    rw [List.length_cons, Nat.succ_mul]
    omega
theorem tx_join {L : Nat} : ∀ (ts : List Str), (∀ t ∈ ts, Tx L t) → Tx (ts.length * (L + 2)) (Str.join ", " ts)
  | [], _ => ⟨Nat.zero_le _, fun c hc => by have : c ∈ ([] : List Nat) := hc; cases this⟩
  | [t], ht => by
    have : Tx L t := ht t List.mem_cons_self
    show Tx _ t
    exact tx_mono this (by simp only [List.length_cons, List.length_nil]; omega)
  | t :: u :: r, ht => by
    show Tx _ (t ++ Str.ofString ", " ++ Str.join ", " (u :: r))
    have h1 := tx_app (tx_app (ht t List.mem_cons_self) (tx_lit ", " (n := 2) (by decide))) (tx_join (u :: r) fun v hv => ht v (List.mem_cons_of_mem _ hv))
    refine tx_mono h1 ?_
    simp only [List.length_cons]
    rw [Nat.succ_mul (r.length + 1)]
    omega

def Nc (c : Nat) : PyData → Prop
  | .none => True
  | .bool _ => True
  | .int i => i.natAbs < 10 ^ c
  | .str s => PyData.strOk s = true ∧ Tx (c + 5) (PyData.shown (.str s))
  | _ => False
/-- numbers of at most c figures, at most m things side by side, n within one another -/
def Nice (c m : Nat) : Nat → PyData → Prop
  | 0, d => Nc c d
  | n + 1, d => Nc c d ∨ ∃ xs, (d = .list xs ∨ d = .tuple xs) ∧ xs.length ≤ m ∧ ∀ x ∈ xs, Nice c m n x
def Lb (c m : Nat) : Nat → Nat
  | 0 => c + 5
  | n + 1 => (m + 1) * (Lb c m n + 2) + 3
theorem lb_ge {c m : Nat} : ∀ n, c + 5 ≤ Lb c m n
  | 0 => Nat.le_refl _
  | n + 1 => by
    have := lb_ge (c := c) (m := m) n
    have h2 : 1 * (Lb c m n + 2) ≤ (m + 1) * (Lb c m n + 2) := Nat.mul_le_mul_right _ (by omega)
    show c + 5 ≤ (m + 1) * (Lb c m n + 2) + 3
    omega
theorem nice_int {c m n : Nat} {i : Int} (h : i.natAbs < 10 ^ c) : Nice c m n (.int i) := by
  cases n with
  | zero => exact h
  | succ n => exact .inl h
theorem nice_bool {c m n : Nat} {b : Bool} : Nice c m n (.bool b) := by
  cases n with
  | zero => trivial
  | succ n => exact .inl trivial
theorem nice_str {c m n : Nat} {s : Str} (h1 : PyData.strOk s = true) (h2 : Tx 6 (PyData.shown (.str s))) (hc : 1 ≤ c) : Nice c m n (.str s) := by
  have h : Nc c (.str s) := ⟨h1, tx_mono h2 (by omega)⟩
  cases n with
  | zero => exact h
  | succ n => exact .inl h
theorem nice_none {c m n : Nat} : Nice c m n .none := by
  cases n with
  | zero => trivial
  | succ n => exact .inl trivial
theorem nice_tup {c m n : Nat} {xs : List PyData} (hl : xs.length ≤ m) (h : ∀ x ∈ xs, Nice c m n x) : Nice c m (n + 1) (.tuple xs) := .inr ⟨xs, .inr rfl, hl, h⟩
theorem nice_lst {c m n : Nat} {xs : List PyData} (hl : xs.length ≤ m) (h : ∀ x ∈ xs, Nice c m n x) : Nice c m (n + 1) (.list xs) := .inr ⟨xs, .inl rfl, hl, h⟩
theorem all_canLay {xs : List PyData} (h : ∀ x ∈ xs, PyData.canLay0 x = true) : PyData.canLayAll0 xs = true := by
  induction xs with
  | nil => rfl
  | cons x r ih =>
    simp only [PyData.canLayAll0, Bool.and_eq_true]
    exact ⟨h x List.mem_cons_self, ih fun y hy => h y (List.mem_cons_of_mem _ hy)⟩
theorem all_depth {xs : List PyData} {n : Nat} (h : ∀ x ∈ xs, PyData.depth x ≤ n) : PyData.depthAll xs ≤ n := by
  induction xs with
  | nil => exact Nat.zero_le _
  | cons x r ih =>
    simp only [PyData.depthAll]
    exact Nat.max_le.mpr ⟨h x List.mem_cons_self, ih fun y hy => h y (List.mem_cons_of_mem _ hy)⟩
theorem all_show {xs : List PyData} (h : ∀ x ∈ xs, PyData.showable x = true) : PyData.showableAll xs = true := by
  induction xs with
  | nil => rfl
  | cons x r ih =>
    simp only [PyData.showableAll, Bool.and_eq_true]
    exact ⟨h x List.mem_cons_self, ih fun y hy => h y (List.mem_cons_of_mem _ hy)⟩
theorem shown_len {xs : List PyData} : (PyData.shownAll xs).length = xs.length := by
  induction xs with
  | nil => rfl
  | cons x r ih => simp only [PyData.shownAll, List.length_cons, ih]
theorem shown_mem {xs : List PyData} {t : Str} (h : t ∈ PyData.shownAll xs) : ∃ x, x ∈ xs ∧ t = PyData.shown x := by
  induction xs with
  | nil => cases h
  | cons x r ih =>
    simp only [PyData.shownAll, List.mem_cons] at h
    rcases h with h | h
    · exact ⟨x, List.mem_cons_self, h⟩
    · obtain ⟨y, h1, h2⟩ := ih h
      exact ⟨y, List.mem_cons_of_mem _ h1, h2⟩
theorem nc_facts {c n : Nat} (hc : 1 ≤ c) (hc2 : c ≤ 570) {d : PyData} (h : Nc c d) : PyData.canLay0 d = true ∧ PyData.depth d ≤ n ∧ PyData.showable d = true ∧ Tx (c + 5) d.shown := by
  cases d with
  | none => exact ⟨rfl, Nat.zero_le _, rfl, tx_mono (tx_lit "None" (n := 5) (by decide)) (by omega)⟩
  | bool b =>
    refine ⟨rfl, Nat.zero_le _, rfl, ?_⟩
    cases b with
    | true => exact tx_mono (tx_lit "True" (n := 5) (by decide)) (by omega)
    | false => exact tx_mono (tx_lit "False" (n := 5) (by decide)) (by omega)
  | int i =>
    refine ⟨rfl, Nat.zero_le _, ?_, tx_mono (tx_int hc h) (by omega)⟩
    simp only [PyData.showable]
    refine decide_eq_true (log_lt (n := 1919) (Nat.lt_of_lt_of_le h ?_) (by decide) (by decide))
    exact Nat.le_trans (Nat.pow_le_pow_right (by decide) hc2) (by decide +kernel)
  | str x => exact ⟨h.1, Nat.zero_le _, rfl, h.2⟩
  | list x => cases h
  | tuple x => cases h
  | dict x => cases h
theorem nice_facts {c m : Nat} (hc : 1 ≤ c) (hc2 : c ≤ 570) : ∀ {n : Nat} {d : PyData}, Nice c m n d → PyData.canLay0 d = true ∧ PyData.depth d ≤ n ∧ PyData.showable d = true ∧ Tx (Lb c m n) d.shown
  | 0, d, h => nc_facts hc hc2 h
  | n + 1, d, .inl h => by
    obtain ⟨a, b, e, f⟩ := nc_facts (n := n + 1) hc hc2 h
    exact ⟨a, b, e, tx_mono f (lb_ge _)⟩
  | n + 1, d, .inr ⟨xs, hd, hl, h⟩ => by
    have ih := fun x hx => nice_facts hc hc2 (h x hx)
    have a := all_canLay fun x hx => (ih x hx).1
    have b := all_depth fun x hx => (ih x hx).2.1
    have e := all_show fun x hx => (ih x hx).2.2.1
    have f : ∀ t ∈ PyData.shownAll xs, Tx (Lb c m n) t := fun t ht => by
      obtain ⟨x, hx, rfl⟩ := shown_mem ht
      exact (ih x hx).2.2.2
    have g : xs.length * (Lb c m n + 2) ≤ (m + 1) * (Lb c m n + 2) := Nat.mul_le_mul_right _ (by omega)
    rcases hd with rfl | rfl
    · refine ⟨a, Nat.succ_le_succ b, e, ?_⟩
      show Tx _ (textFrom 0 (Str.ofString "[") (PyData.shownAll xs) ++ Str.ofString "]")
      refine tx_mono (tx_app (tx_from _ 0 _ 1 f (tx_lit "[" (by decide))) (tx_lit "]" (n := 1) (by decide))) ?_
      rw [shown_len]
      show 1 + xs.length * (Lb c m n + 2) + 1 ≤ (m + 1) * (Lb c m n + 2) + 3
      omega
    · refine ⟨a, Nat.succ_le_succ b, e, ?_⟩
      show Tx _ (Str.ofString "(" ++ Str.join ", " (PyData.shownAll xs) ++ Str.ofString (if (PyData.shownAll xs).length == 1 then ",)" else ")"))
      refine tx_mono (tx_app (tx_app (tx_lit "(" (n := 1) (by decide)) (tx_join _ f)) (tx_lit _ (n := 2) (by split <;> decide))) ?_
      rw [shown_len]
      show 1 + xs.length * (Lb c m n + 2) + 2 ≤ (m + 1) * (Lb c m n + 2) + 3
      omega
theorem nice_up {c m : Nat} : ∀ {n : Nat} {d : PyData}, Nice c m n d → Nice c m (n + 1) d
  | 0, d, h => .inl h
  | n + 1, d, .inl h => .inl h
  | n + 1, d, .inr ⟨xs, e, hl, h⟩ => .inr ⟨xs, e, hl, fun x hx => nice_up (h x hx)⟩
/-- repr of it -/
theorem blt_repr_nice {c m n : Nat} {d : PyData} (h : Nice c m n d) (hc : 1 ≤ c) (hc2 : c ≤ 570) (hn : n ≤ 60) (hL : Lb c m n ≤ 16000000) : bltD .repr [d] = some (.str d.shown) := by
  obtain ⟨a, b, e, f⟩ := nice_facts hc hc2 h
  rw [blt_repr, if_pos]
  rw [e, PyData.hasDict_of_canLay d a, Bool.and_eq_true, Bool.and_eq_true, decide_eq_true_eq, decide_eq_true_eq]
  refine ⟨⟨rfl, by omega⟩, ?_⟩
  have : d.shown.length = (tl d.shown).length := by
    show d.shown.cps.size = d.shown.cps.toList.length
    simp
  rw [this]
  exact Nat.le_trans (Nat.le_trans f.1 hL) (by decide +kernel)
theorem shp_shown {c m n : Nat} {d : PyData} (h : Nice c m n d) (hc : 1 ≤ c) (hc2 : c ≤ 570) : shp (.str d.shown) = true := by
  obtain ⟨a, b, e, f⟩ := nice_facts hc hc2 h
  have q : PyData.strOk d.shown = true := by
    unfold PyData.strOk
    rw [Array.all_eq_true_iff_forall_mem]
    intro x hx
    exact decide_eq_true (f.2 x (Array.mem_toList_iff.mpr hx))
  unfold shp SeqAt.shaped
  rw [Bool.and_eq_true]
  exact ⟨q, decide_eq_true (Nat.zero_le _)⟩
theorem shp_nice {c m n : Nat} {d : PyData} (h : Nice c m n d) (hc : 1 ≤ c) (hc2 : c ≤ 570) (hn : n ≤ 64) : shp d = true := by
  obtain ⟨a, b, e, f⟩ := nice_facts hc hc2 h
  unfold shp SeqAt.shaped
  rw [a, Bool.true_and]
  exact decide_eq_true (by omega)
/-- data without texts, of any numbers -/
def Pa : PyData → Prop
  | .none => True
  | .bool _ => True
  | .int _ => True
  | _ => False
def Pl : Nat → PyData → Prop
  | 0, d => Pa d
  | n + 1, d => Pa d ∨ ∃ xs, (d = .list xs ∨ d = .tuple xs) ∧ ∀ x ∈ xs, Pl n x
theorem pl_facts : ∀ {n : Nat} {d : PyData}, Pl n d → PyData.canLay0 d = true ∧ PyData.depth d ≤ n
  | 0, d, h => by
    have h : Pa d := h
    cases d <;> first | exact ⟨rfl, Nat.le_refl _⟩ | exact h.elim
  | n + 1, d, .inl h => by
    cases d <;> first | exact ⟨rfl, Nat.zero_le _⟩ | exact h.elim
  | n + 1, d, .inr ⟨xs, hd, h⟩ => by
    have ih := fun x hx => pl_facts (h x hx)
    have a := all_canLay fun x hx => (ih x hx).1
    have b := all_depth fun x hx => (ih x hx).2
    rcases hd with rfl | rfl
    · exact ⟨a, Nat.succ_le_succ b⟩
    · exact ⟨a, Nat.succ_le_succ b⟩
theorem pl_int {n : Nat} {i : Int} : Pl n (.int i) := by
  cases n with
  | zero => exact (trivial : Pa (.int i))
  | succ n => exact .inl trivial
theorem pl_tup {n : Nat} {xs : List PyData} (h : ∀ x ∈ xs, Pl n x) : Pl (n + 1) (.tuple xs) := .inr ⟨xs, .inr rfl, h⟩
theorem pl_lst {n : Nat} {xs : List PyData} (h : ∀ x ∈ xs, Pl n x) : Pl (n + 1) (.list xs) := .inr ⟨xs, .inl rfl, h⟩
theorem shp_pl {n : Nat} {d : PyData} (h : Pl n d) (hn : n ≤ 64) : shp d = true := by
  obtain ⟨a, b⟩ := pl_facts h
  unfold shp SeqAt.shaped
  rw [a, Bool.true_and]
  exact decide_eq_true (by omega)
theorem eqv_self {d : PyData} (h : shp d = true) : PyData.eqv d d = true := SeqAt.eqv_refl d (SeqAt.canLay_of_shaped h)
theorem cmp_eq_self {d : PyData} (h : shp d = true) : cmpD .eq d d = some true := by rw [cmp_eq, h, Bool.true_and, if_pos rfl, eqv_self h]
theorem cmp_ne_self {d : PyData} (h : shp d = true) : cmpD .ne d d = some false := by rw [cmp_ne, h, Bool.true_and, if_pos rfl, eqv_self h]; rfl
@[simp] theorem shp_int {i : Int} : shp (.int i) = true := rfl
@[simp] theorem shp_bool {b : Bool} : shp (.bool b) = true := rfl
@[simp] theorem shp_none : shp .none = true := rfl
@[simp] theorem shp_nilL : shp (.list []) = true := rfl
@[simp] theorem shp_nilT : shp (.tuple []) = true := rfl
@[simp] theorem eqv_int {i j : Int} : PyData.eqv (.int i) (.int j) = (i == j) := by simp only [PyData.eqv]
@[simp] theorem eqv_nilL {xs : List PyData} : PyData.eqv (.list xs) (.list []) = xs.isEmpty := by cases xs <;> simp [PyData.eqv, PyData.eqvAll]
@[simp] theorem eqv_nilT {xs : List PyData} : PyData.eqv (.tuple xs) (.tuple []) = xs.isEmpty := by cases xs <;> simp [PyData.eqv, PyData.eqvAll]
@[simp] theorem eqv_str {x y : Str} : PyData.eqv (.str x) (.str y) = (x == y) := by simp only [PyData.eqv]
end Px

/-! Px19: the feed of numbers that every law draws from. -/
namespace Px
open PySem

def drawR : S :=
    (.seq (.set 4 (.bin .mod (.bin .pow (.bin .add
    (.bin .mod (.var 3) (.int 2147483629)) (.bin .mul (.int 104729) (.ix (.var 0) (.int 3)))) (.int 5)) (.int 2147483647))) (.seq (.set 4 (.bin .mod (.bin .pow
    (.bin .add (.bin .mul (.var 4) (.bin .add (.bin .mul (.int 2) (.ix (.var 0) (.int 3))) (.int 1))) (.int 7919)) (.int 3)) (.int 2147483587))) (.seq (.ret
    (.bin .mod (.bin .fdv (.var 4) (.int 64)) (.var 1))) .skip)))
def drawT : S :=
    (.seq (.ixs (.var 0) (.int 1) (.bin .add (.ix (.var 0) (.int 1)) (.int 1))) (.seq (.ife
    (.and (.cmp .ge (.var 3) (.bin .pow (.int 10) (.int 18))) (.cmp .le (.ix (.var 0) (.int 1)) (.blt .len (.cons (.ix (.var 0) (.int 0)) .nil)))) (.seq (.ixs
    (.var 0) (.int 2) (.bin .fdv (.var 3) (.var 1))) (.seq (.ret (.bin .mod (.var 3) (.var 1))) .skip)) .skip) drawR))
def drawS : S :=
    (.seq (.ixs (.var 0) (.int 3) (.bin .add (.ix (.var 0) (.int 3)) (.int 1))) (.seq (.ife (.cmp .gt (.ix (.var 0) (.int 2)) (.int 0)) (.seq (.set 2 (.bin .mod
    (.ix (.var 0) (.int 2)) (.var 1))) (.seq (.ixs (.var 0) (.int 2) (.bin .fdv (.ix (.var 0) (.int 2)) (.var 1))) (.seq (.ret (.var 2)) .skip))) .skip) (.seq
    (.set 3 (.int 7)) (.seq (.ife (.cmp .ne (.ix (.var 0) (.int 0)) (.lst .nil)) (.seq (.set 3 (.ix (.ix (.var 0) (.int 0)) (.bin .mod (.ix (.var 0) (.int 1))
    (.blt .len (.cons (.ix (.var 0) (.int 0)) .nil))))) .skip) .skip) drawT))))
def feedS : S :=
    (.seq (.retF (.lst (.cons (.sl (.var 0) .nil (.int 63)) (.cons (.int 0) (.cons (.int 0) (.cons (.int 0) .nil)))))) .skip)
/-- the feed: cells, and how many draws there were at most -/
def Fd (b : Nat) (xs : List PyData) : Prop := ∃ (cs : List Int) (p q k : Int), xs = [.list (cs.map .int), .int p, .int q, .int k] ∧ 0 ≤ k ∧ k ≤ b
theorem Fd.mono {b c : Nat} {xs : List PyData} (h : Fd b xs) (hb : b ≤ c) : Fd c xs := by
  obtain ⟨cs, p, q, k, e, h1, h2⟩ := h
  exact ⟨cs, p, q, k, e, h1, by omega⟩
def Lim : Nat := 1000000000000
variable {G : Pg} {F : Nat → List D → M (PyData × Bool)}
theorem feed_ok {ns : List Int} {Q : PyData × Bool → List O → Prop} (q : ∀ xs, Fd 0 xs → Q (.list xs, true) []) : Ok (runFn G F ⟨1, 1, feedS⟩ [.s (ns.map .int)] []) Q := by
  simp [runFn, feedS, cutL, HT.sIx]
  refine q _ ⟨ns.take (min 63 ns.length), 0, 0, 0, by simp, by decide, by decide⟩
theorem draw_rest {b : Nat} {cs : List Int} {p qq k cell many : Int} {Q : PyData × Bool → List O → Prop} (k0 : 0 ≤ k) (kb : k ≤ b) (hb : b < Lim) (h0 : 0 < many) (h1 : many < 2 ^ 64)
    (q : ∀ r ys, 0 ≤ r → r < many → Fd (b + 1) ys → Q (.int r, false) [.lst ys]) :
    Ok (exec G F drawR [some (.r 0), some (.p (.int many)), none, some (.p (.int cell)), none] [.lst [.list (cs.map .int), .int p, .int qq, .int (k + 1)]]) (Fin 1 Q) := by
  unfold Lim at hb
  have mn : many ≠ 0 := by omega
  have ml : ∀ o : Option PyData, fvO many o = o := fun o => fvO_64 mn (by omega)
  have fin : ∀ r ys, 0 ≤ r → r < many → Fd (b + 1) ys → Ok (handed 1 (.p (.int r)) [.lst ys]) Q := fun r ys a1 a2 a3 => ok_of (q r ys a1 a2 a3)
  have fd : ∀ (p qq : Int), Fd (b + 1) [.list (cs.map .int), .int p, .int qq, .int (k + 1)] := fun p qq => ⟨cs, p, qq, k + 1, rfl, by omega, by omega⟩
  have o1 : okBits 104729 = true := okb64 (by decide)
  have o2 : okBits (k + 1) = true := okb64 (by omega)
  have o3 : okBits 2 = true := okb64 (by decide)
  unfold drawR
  have f1 := Int.fmod_nonneg_of_pos cell (show (0 : Int) < 2147483629 by decide)
  have f2 := Int.fmod_lt_of_pos cell (show (0 : Int) < 2147483629 by decide)
  have b1 : ∀ o : Option PyData, pwO (cell.fmod 2147483629 + 104729 * (k + 1)) 5 o = o := fun o => pwO_lt (n := 64) (by decide) (by decide) (by omega) (by decide)
  simp [o1, o2, o3, b1]
  generalize (cell.fmod 2147483629 + 104729 * (k + 1)) ^ 5 = X
  have f3 := Int.fmod_nonneg_of_pos X (show (0 : Int) < 2147483647 by decide)
  have f4 := Int.fmod_lt_of_pos X (show (0 : Int) < 2147483647 by decide)
  generalize X.fmod 2147483647 = Y at f3 f4
  have o4 : okBits Y = true := okb64 (by omega)
  have o5 : okBits (2 * (k + 1) + 1) = true := okb64 (by omega)
  have b2 : ∀ o : Option PyData, pwO (Y * (2 * (k + 1) + 1) + 7919) 3 o = o := fun o => by
    refine pwO_lt (n := 90) (by decide) (by decide) ?_ (by decide)
    have h1 : 0 ≤ Y * (2 * (k + 1) + 1) := Int.mul_nonneg f3 (by omega)
    have h2 : Y * (2 * (k + 1) + 1) ≤ 2147483647 * (2 * (k + 1) + 1) := Int.mul_le_mul_of_nonneg_right (by omega) (by omega)
    omega
  simp [o4, o5, b2, ml, mn]
  exact q _ _ (Int.fmod_nonneg_of_pos _ h0) (Int.fmod_lt_of_pos _ h0) (fd _ _)
theorem draw_tail {b : Nat} {cs : List Int} {p qq k cell many : Int} {Q : PyData × Bool → List O → Prop} (k0 : 0 ≤ k) (kb : k ≤ b) (hb : b < Lim) (h0 : 0 < many) (h1 : many < 2 ^ 64)
    (q : ∀ r ys, 0 ≤ r → r < many → Fd (b + 1) ys → Q (.int r, false) [.lst ys]) :
    Ok (exec G F drawT [some (.r 0), some (.p (.int many)), none, some (.p (.int cell)), none] [.lst [.list (cs.map .int), .int p, .int qq, .int (k + 1)]]) (Fin 1 Q) := by
  unfold Lim at hb
  have mn : many ≠ 0 := by omega
  have ml : ∀ o : Option PyData, fvO many o = o := fun o => fvO_64 mn (by omega)
  have fin : ∀ r ys, 0 ≤ r → r < many → Fd (b + 1) ys → Ok (handed 1 (.p (.int r)) [.lst ys]) Q := fun r ys a1 a2 a3 => ok_of (q r ys a1 a2 a3)
  have fd : ∀ (p qq : Int), Fd (b + 1) [.list (cs.map .int), .int p, .int qq, .int (k + 1)] := fun p qq => ⟨cs, p, qq, k + 1, rfl, by omega, by omega⟩
  have o1 : okBits 104729 = true := okb64 (by decide)
  have o2 : okBits (k + 1) = true := okb64 (by omega)
  have o3 : okBits 2 = true := okb64 (by decide)
  unfold drawT
  simp
  by_cases c1 : 1000000000000000000 ≤ cell
  · simp only [c1, decide_true, if_true, ok_ok1]
    by_cases c2 : p + 1 ≤ (cs.length : Int)
    · simp [c2, mn, ml]
      exact q _ _ (Int.fmod_nonneg_of_pos _ h0) (Int.fmod_lt_of_pos _ h0) (fd _ _)
    · simp [c2]
      exact draw_rest (p := p + 1) k0 kb hb h0 h1 q
  · simp only [c1, decide_false, Bool.false_eq_true, if_false, ok_ok1, nxt_nx]
    exact draw_rest (p := p + 1) k0 kb hb h0 h1 q
theorem draw_ok {b : Nat} {xs : List PyData} {many : Int} {Q : PyData × Bool → List O → Prop} (hf : Fd b xs) (hb : b < Lim) (h0 : 0 < many) (h1 : many < 2 ^ 64)
    (q : ∀ r ys, 0 ≤ r → r < many → Fd (b + 1) ys → Q (.int r, false) [.lst ys]) : Ok (runFn G F ⟨2, 5, drawS⟩ [.r 0, .p (.int many)] [.lst xs]) Q := by
  obtain ⟨cs, p, qq, k, rfl, k0, kb⟩ := hf
  have mn : many ≠ 0 := by omega
  have ml : ∀ o : Option PyData, fvO many o = o := fun o => fvO_64 mn (by omega)
  have tail := fun cell => draw_tail (G := G) (F := F) (cs := cs) (p := p) (qq := qq) (cell := cell) k0 kb hb h0 h1 q
  have sh : shp (.list (cs.map .int)) = true := shp_pl (n := 1) (pl_lst fun x hx => by
      obtain ⟨i, _, rfl⟩ := List.mem_map.mp hx
      exact pl_int) (by decide)
  refine ok_run rfl ?_
  simp [drawS]
  refine ok_ite (fun hq => ?_) (fun hq => ?_)
  · simp [mn, ml]
    exact q _ _ (Int.fmod_nonneg_of_pos _ h0) (Int.fmod_lt_of_pos _ h0) ⟨cs, p, _, _, rfl, by omega, by omega⟩
  · simp [sh]
    by_cases hc : cs = []
    · simp only [hc, if_true, ok_ok1, nxt_nx]
      have := tail 7
      rw [hc] at this
      exact this
    · have hl : 0 < cs.length := List.length_pos_iff.mpr hc
      have f1 := Int.fmod_nonneg_of_pos p (show (0 : Int) < cs.length by omega)
      have f2 := Int.fmod_lt_of_pos p (show (0 : Int) < cs.length by omega)
      obtain ⟨j, hj⟩ := Int.eq_ofNat_of_zero_le f1
      have hj2 : j < cs.length := by omega
      simp [hc, hj, atI_nat, List.getElem?_eq_getElem hj2]
      exact tail _
end Px

/-! Pm1: sums, tables as functions, and their data. -/
namespace Px
open PySem

/-! ### sums -/
def sg : Nat → (Nat → Int) → Int
  | 0, _ => 0
  | n + 1, f => sg n f + f n
theorem sg_congr : ∀ {n : Nat} {f g : Nat → Int}, (∀ i, i < n → f i = g i) → sg n f = sg n g
  | 0, _, _, _ => rfl
  | n + 1, f, g, h => by
    unfold sg
    rw [sg_congr fun i hi => h i (Nat.lt_succ_of_lt hi), h n (Nat.lt_succ_self n)]
theorem sg_add : ∀ (n : Nat) (f g : Nat → Int), sg n (fun i => f i + g i) = sg n f + sg n g
  | 0, _, _ => rfl
  | n + 1, f, g => by
    simp only [sg]
    rw [sg_add n f g]
    omega
theorem sg_mul : ∀ (n : Nat) (c : Int) (f : Nat → Int), sg n (fun i => c * f i) = c * sg n f
  | 0, c, _ => by simp [sg]
  | n + 1, c, f => by
    simp only [sg]
    rw [sg_mul n c f, Int.mul_add]
theorem sg_mulr (n : Nat) (c : Int) (f : Nat → Int) : sg n (fun i => f i * c) = sg n f * c := by
  rw [Int.mul_comm, ← sg_mul]
  exact sg_congr fun i _ => Int.mul_comm _ _
theorem sg_zero : ∀ (n : Nat), sg n (fun _ => 0) = 0
  | 0 => rfl
  | n + 1 => by
    simp only [sg]
    rw [sg_zero n]
    rfl
theorem sg_comm : ∀ (n m : Nat) (f : Nat → Nat → Int), sg n (fun i => sg m fun j => f i j) = sg m fun j => sg n fun i => f i j
  | 0, m, f => (sg_zero m).symm
  | n + 1, m, f => by
    simp only [sg]
    rw [sg_comm n m f, ← sg_add]
theorem sg_delta : ∀ {n k : Nat} (f : Nat → Int), k < n → sg n (fun i => (if i = k then 1 else 0) * f i) = f k
  | 0, k, _, h => absurd h (Nat.not_lt_zero _)
  | n + 1, k, f, h => by
    simp only [sg]
    by_cases e : n = k
    · subst e
      have : sg n (fun i => (if i = n then 1 else 0) * f i) = sg n (fun _ => 0) := sg_congr fun i hi => by rw [if_neg (Nat.ne_of_lt hi), Int.zero_mul]
      rw [this, sg_zero, if_pos rfl, Int.zero_add, Int.one_mul]
    · rw [sg_delta f (by omega), if_neg e, Int.zero_mul, Int.add_zero]
theorem sg_bound {B : Nat} : ∀ {n : Nat} {f : Nat → Int}, (∀ i, i < n → (f i).natAbs ≤ B) → (sg n f).natAbs ≤ n * B
  | 0, _, _ => by simp [sg]
  | n + 1, f, h => by
    simp only [sg]
    have h1 := sg_bound fun i (hi : i < n) => h i (Nat.lt_succ_of_lt hi)
    have h2 := h n (Nat.lt_succ_self n)
    have h3 := Int.natAbs_add_le (sg n f) (f n)
    rw [Nat.succ_mul]
    omega
theorem mul_bound {a b : Int} {A B : Nat} (h : a.natAbs ≤ A) (k : b.natAbs ≤ B) : (a * b).natAbs ≤ A * B := by
  rw [Int.natAbs_mul]
  exact Nat.mul_le_mul h k

/-! ### tables as functions -/
def rowF (m : Nat) (v : Nat → Int) : PyData := .tuple ((List.range m).map fun j => .int (v j))
def rowsF (n m : Nat) (f : Nat → Nat → Int) : List PyData := (List.range n).map fun i => rowF m (f i)
def tabF (n m : Nat) (f : Nat → Nat → Int) : PyData := .tuple [.int m, .tuple (rowsF n m f)]
theorem map_range_congr {α : Type} {n : Nat} {f g : Nat → α} (h : ∀ i, i < n → f i = g i) : (List.range n).map f = (List.range n).map g :=
  List.map_congr_left fun i hi => h i (List.mem_range.mp hi)
theorem rowF_congr {m : Nat} {v w : Nat → Int} (h : ∀ j, j < m → v j = w j) : rowF m v = rowF m w := by
  unfold rowF
  rw [map_range_congr fun j hj => by rw [h j hj]]
theorem rowsF_congr {n m : Nat} {f g : Nat → Nat → Int} (h : ∀ i, i < n → ∀ j, j < m → f i j = g i j) : rowsF n m f = rowsF n m g :=
  map_range_congr fun i hi => rowF_congr (h i hi)
theorem tabF_congr {n m : Nat} {f g : Nat → Nat → Int} (h : ∀ i, i < n → ∀ j, j < m → f i j = g i j) : tabF n m f = tabF n m g := by
  unfold tabF
  rw [rowsF_congr h]
/-- numbers not beyond B -/
def Bv (m B : Nat) (v : Nat → Int) : Prop := ∀ j, j < m → (v j).natAbs ≤ B
def Bm (n m B : Nat) (f : Nat → Nat → Int) : Prop := ∀ i, i < n → Bv m B (f i)
theorem Bv.mono {m B C : Nat} {v : Nat → Int} (h : Bv m B v) (k : B ≤ C) : Bv m C v := fun j hj => Nat.le_trans (h j hj) k
theorem Bm.mono {n m B C : Nat} {f : Nat → Nat → Int} (h : Bm n m B f) (k : B ≤ C) : Bm n m C f := fun i hi => (h i hi).mono k
/-- a row times a table; a table times a table -/
def vm (m : Nat) (v : Nat → Int) (g : Nat → Nat → Int) : Nat → Int := fun k => sg m fun j => v j * g j k
def mm (m : Nat) (f g : Nat → Nat → Int) : Nat → Nat → Int := fun i => vm m (f i) g
theorem vm_bound {m p B C : Nat} {v : Nat → Int} {g : Nat → Nat → Int} (h : Bv m B v) (k : Bm m p C g) : Bv p (m * (B * C)) (vm m v g) := fun j hj =>
  sg_bound fun i hi => mul_bound (h i hi) (k i hi j hj)
theorem mm_bound {n m p B C : Nat} {f g : Nat → Nat → Int} (h : Bm n m B f) (k : Bm m p C g) : Bm n p (m * (B * C)) (mm m f g) := fun i hi => vm_bound (h i hi) k
theorem vm_assoc {m p : Nat} {v : Nat → Int} {f g : Nat → Nat → Int} (k : Nat) : vm p (vm m v f) g k = vm m v (mm p f g) k := by
  show (sg p fun l => (sg m fun j => v j * f j l) * g l k) = sg m fun j => v j * sg p fun l => f j l * g l k
  rw [sg_congr (g := fun l => sg m fun j => v j * f j l * g l k) fun l _ => (sg_mulr m (g l k) _).symm, sg_comm]
  refine sg_congr fun j _ => ?_
  rw [← sg_mul]
  exact sg_congr fun l _ => Int.mul_assoc _ _ _
theorem mm_assoc {m p : Nat} {e f g : Nat → Nat → Int} (i k : Nat) : mm p (mm m e f) g i k = mm m e (mm p f g) i k := vm_assoc k
def idf : Nat → Nat → Int := fun i j => if j = i then 1 else 0
theorem one_mm {n : Nat} {f : Nat → Nat → Int} {i : Nat} (k : Nat) (h : i < n) : mm n idf f i k = f i k := sg_delta (fun j => f j k) h
theorem mm_one {m : Nat} {f : Nat → Nat → Int} (i : Nat) {k : Nat} (h : k < m) : mm m f idf i k = f i k := by
  show (sg m fun j => f i j * (if k = j then 1 else 0)) = _
  rw [← sg_delta (fun j => f i j) h]
  refine sg_congr fun j _ => ?_
  rw [Int.mul_comm]
  congr 1
  simp only [eq_comm]
def trf (f : Nat → Nat → Int) : Nat → Nat → Int := fun i j => f j i
theorem tr_mm {m : Nat} {f g : Nat → Nat → Int} (i k : Nat) : trf (mm m f g) i k = mm m (trf g) (trf f) i k := sg_congr fun j _ => Int.mul_comm _ _
def stk (n : Nat) (f g : Nat → Nat → Int) : Nat → Nat → Int := fun i => if i < n then f i else g (i - n)
theorem stk_mm {n m : Nat} {f g h : Nat → Nat → Int} (i k : Nat) : mm m (stk n f g) h i k = stk n (mm m f h) (mm m g h) i k := by
  unfold mm stk
  split <;> rfl
theorem rowsF_app {n n2 m : Nat} {f g : Nat → Nat → Int} : rowsF n m f ++ rowsF n2 m g = rowsF (n + n2) m (stk n f g) := by
  unfold rowsF
  rw [List.range_add, List.map_append, List.map_map]
  congr 1
  · exact map_range_congr fun i hi => by simp only [stk, if_pos hi]
  · refine map_range_congr fun i hi => ?_
    have h1 : ¬ (n + i < n) := by omega
    have h2 : n + i - n = i := by omega
    simp only [Function.comp, stk, if_neg h1, h2]
theorem rowF_app {n n2 : Nat} {v w : Nat → Int} : (List.range n).map (fun j => PyData.int (v j)) ++ (List.range n2).map (fun j => PyData.int (w j)) = (List.range (n + n2)).map fun j => PyData.int (if j < n then v j else w (j - n)) := by
  rw [List.range_add, List.map_append, List.map_map]
  congr 1
  · exact map_range_congr fun i hi => by rw [if_pos hi]
  · refine map_range_congr fun i hi => ?_
    have h1 : ¬ (n + i < n) := by omega
    have h2 : n + i - n = i := by omega
    simp only [Function.comp, if_neg h1, h2]

/-! ### their looks -/
theorem shp_row {m : Nat} {v : Nat → Int} : shp (rowF m v) = true := shp_pl (n := 1) (pl_tup fun x hx => by
  obtain ⟨j, _, rfl⟩ := List.mem_map.mp hx
  exact pl_int) (by decide)
theorem pl_row {m : Nat} {v : Nat → Int} : Pl 1 (rowF m v) := pl_tup fun x hx => by
  obtain ⟨j, _, rfl⟩ := List.mem_map.mp hx
  exact pl_int
theorem pl_rows {n m : Nat} {f : Nat → Nat → Int} : Pl 2 (.tuple (rowsF n m f)) := pl_tup fun x hx => by
  obtain ⟨j, _, rfl⟩ := List.mem_map.mp hx
  exact pl_row
theorem pl_tab {n m : Nat} {f : Nat → Nat → Int} : Pl 3 (tabF n m f) := pl_tup fun x hx => by
  simp only [List.mem_cons, List.not_mem_nil, or_false] at hx
  rcases hx with rfl | rfl
  · exact pl_int
  · exact pl_rows
theorem shp_tab {n m : Nat} {f : Nat → Nat → Int} : shp (tabF n m f) = true := shp_pl pl_tab (by decide)
theorem shp_rows {n m : Nat} {f : Nat → Nat → Int} : shp (.tuple (rowsF n m f)) = true := shp_pl pl_rows (by decide)
theorem nice_row {m c M : Nat} {B : Nat} {v : Nat → Int} (h : Bv m B v) (hm : m ≤ M) (hB : B < 10 ^ c) : Nice c M 1 (rowF m v) := nice_tup (by simpa using hm) fun x hx => by
  obtain ⟨j, hj, rfl⟩ := List.mem_map.mp hx
  exact nice_int (Nat.lt_of_le_of_lt (h j (List.mem_range.mp hj)) hB)
theorem nice_rows {n m c M : Nat} {B : Nat} {f : Nat → Nat → Int} (h : Bm n m B f) (hn : n ≤ M) (hm : m ≤ M) (hB : B < 10 ^ c) : Nice c M 2 (.tuple (rowsF n m f)) := nice_tup (by simpa [rowsF] using hn) fun x hx => by
  obtain ⟨j, hj, rfl⟩ := List.mem_map.mp hx
  exact nice_row (h j (List.mem_range.mp hj)) hm hB
theorem nice_tab {n m c M : Nat} {B : Nat} {f : Nat → Nat → Int} (h : Bm n m B f) (hn : n ≤ M) (hm : m ≤ M) (h2 : 2 ≤ M) (hB : B < 10 ^ c) (hM : M < 10 ^ c) : Nice c M 3 (tabF n m f) := nice_tup (by simpa using h2) fun x hx => by
  simp only [List.mem_cons, List.not_mem_nil, or_false] at hx
  rcases hx with rfl | rfl
  · exact nice_int (by simp; omega)
  · exact nice_rows h hn hm hB
@[simp] theorem rangeL_nat {n : Nat} : rangeL 0 (n : Int) = (List.range n).map fun i => .int (i : Nat) := by
  unfold rangeL
  simp
end Px

/-! Pm2: the functions of tables, run. -/
namespace Px
open PySem
variable {G : Pg} {F : Nat → List D → M (PyData × Bool)} {Q : PyData × Bool → List O → Prop}

def unitRowS : S :=
    (.seq (.ret (.blt .tuple (.cons (.comp [2] [2] false (.rng1 (.var 0)) .nil (.blt .int (.cons (.cmp .eq (.var 2) (.var 1)) .nil))) .nil))) .skip)
def unitS (u : Nat) : S :=
    (.seq (.ret (.tup (.cons (.var 0) (.cons (.blt .tuple (.cons (.comp [1] [1] false (.rng1 (.var 0)) .nil (.call u (.cons (.var 0) (.cons (.var 1) .nil))))
    .nil)) .nil)))) .skip)
def rowTimesS : S :=
    (.seq (.new 2 (.bin .mul (.lst (.cons (.int 0) .nil)) (.ix (.var 1) (.int 0)))) (.seq (.for_ [3, 4] true (.zip (.cons (.var 0) (.cons (.ix (.var 1) (.int 1))
    .nil))) (.seq (.for_ [5] false (.rng1 (.ix (.var 1) (.int 0))) (.seq (.ixs (.var 2) (.var 5) (.bin .add (.ix (.var 2) (.var 5)) (.bin .mul (.var 3) (.ix
    (.var 4) (.var 5))))) .skip)) .skip)) (.seq (.ret (.blt .tuple (.cons (.var 2) .nil))) .skip)))
def timesS (r : Nat) : S :=
    (.seq (.ret (.tup (.cons (.ix (.var 1) (.int 0)) (.cons (.blt .tuple (.cons (.comp [2] [2] false (.ix (.var 0) (.int 1)) .nil (.call r (.cons (.var 2) (.cons
    (.var 1) .nil)))) .nil)) .nil)))) .skip)
def columnS : S :=
    (.seq (.ret (.blt .tuple (.cons (.comp [2] [2] false (.ix (.var 0) (.int 1)) .nil (.ix (.var 2) (.var 1))) .nil))) .skip)
def turnedS (c : Nat) : S :=
    (.seq (.ret (.tup (.cons (.blt .len (.cons (.ix (.var 0) (.int 1)) .nil)) (.cons (.blt .tuple (.cons (.comp [1] [1] false (.rng1 (.ix (.var 0) (.int 0)))
    .nil (.call c (.cons (.var 0) (.cons (.var 1) .nil)))) .nil)) .nil)))) .skip)
def stackedS : S :=
    (.seq (.ret (.tup (.cons (.ix (.var 0) (.int 0)) (.cons (.bin .add (.ix (.var 0) (.int 1)) (.ix (.var 1) (.int 1))) .nil)))) .skip)

theorem rng_ok {n : Nat} (h : n ≤ 1000000) : (-(2 ^ 62) ≤ (n : Int) ∧ (n : Int) < 2 ^ 62) := by omega
theorem unit_row_ok {n i : Nat} (h : n ≤ 1000) (q : Q (rowF n (idf i), false) []) : Ok (runFn G F ⟨2, 3, unitRowS⟩ [.p (.int n), .p (.int i)] []) Q := by
  have r1 : (n : Int) ≤ 1000000 := by omega
  have r2 : -1000000 ≤ (n : Int) := by omega
  have r3 : n ≤ 1000000 := by omega
  simp [runFn, unitRowS, r1, r2, r3]
  refine ok_map (fun x => match x with | .int j => .int (if j = (i : Int) then 1 else 0) | x => x) (fun x hx => ?_) ?_
  · obtain ⟨j, hj, rfl⟩ := List.mem_map.mp hx
    simp [bindG, Int.ofNat_inj]
  · rw [List.map_map]
    simpa [rowF, idf, Function.comp_def, Int.ofNat_inj] using q
theorem nat_le {n : Nat} (h : n ≤ 1000000) : (n : Int) ≤ 1000000 := by omega
theorem nat_ge {n : Nat} : -1000000 ≤ (n : Int) := by omega
/-- what a def answers, data alone handed in -/
def Gives (F : Nat → List D → M (PyData × Bool)) (f : Nat) (ds : List PyData) (d : PyData) : Prop := ∀ Q : PyData × Bool → List O → Prop, (∀ b h, Q (d, b) h) → Ok (F f (ds.map D.p) []) Q
theorem gives_call {f : Nat} {ds : List PyData} {d : PyData} {h : List O} {Q : PyData × Bool → List O → Prop} (g : Gives F f ds d) (q : ∀ b, Q (d, b) h) : Ok (callF F f (ds.map D.p) h) Q := ok_call0 ds (g _ fun b _ => q b)
theorem gives_call1 {f : Nat} {a d : PyData} {h : List O} {Q : PyData × Bool → List O → Prop} (g : Gives F f [a] d) (q : ∀ b, Q (d, b) h) : Ok (callF F f [.p a] h) Q := gives_call g q
theorem gives_call2 {f : Nat} {a b d : PyData} {h : List O} {Q : PyData × Bool → List O → Prop} (g : Gives F f [a, b] d) (q : ∀ b, Q (d, b) h) : Ok (callF F f [.p a, .p b] h) Q := gives_call g q
theorem unit_ok {u n : Nat} (h : n ≤ 1000) (g : ∀ i, i < n → Gives F u [.int n, .int i] (rowF n (idf i))) : ∀ q : Q (tabF n n idf, false) [], Ok (runFn G F ⟨1, 2, unitS u⟩ [.p (.int n)] []) Q := by
  intro q
  have r3 : n ≤ 1000000 := by omega
  simp [runFn, unitS, nat_le r3, nat_ge, r3]
  refine ok_map (fun x => match x with | .int j => rowF n (idf j.toNat) | x => x) (fun x hx => ?_) ?_
  · obtain ⟨j, hj, rfl⟩ := List.mem_map.mp hx
    simp [bindG]
    exact gives_call2 (g j (List.mem_range.mp hj)) fun b => by simp
  · rw [List.map_map]
    simpa [tabF, rowsF, Function.comp_def] using q
theorem column_ok {n m k : Nat} {f : Nat → Nat → Int} (hn : n ≤ 1000) (hk : k < m) (q : Q (rowF n fun i => f i k, false) []) : Ok (runFn G F ⟨2, 3, columnS⟩ [.p (tabF n m f), .p (.int k)] []) Q := by
  have r3 : n ≤ 1000000 := by omega
  simp [runFn, columnS, tabF, rowsF, r3]
  refine ok_map (fun x => match x with | .tuple xs => xs.getD k .none | x => x) (fun x hx => ?_) ?_
  · obtain ⟨j, hj, rfl⟩ := List.mem_map.mp hx
    simp [bindG, rowF, atI_nat, hk]
  · rw [List.map_map]
    simpa [rowF, Function.comp_def, hk] using q
theorem turned_ok {c n m : Nat} {f : Nat → Nat → Int} (hn : n ≤ 1000) (hm : m ≤ 1000) (g : ∀ k, k < m → Gives F c [tabF n m f, .int k] (rowF n fun i => f i k)) (q : Q (tabF m n (trf f), false) []) : Ok (runFn G F ⟨1, 2, turnedS c⟩ [.p (tabF n m f)] []) Q := by
  have r3 : n ≤ 1000000 := by omega
  have r4 : m ≤ 1000000 := by omega
  have e : ∀ h : List O, zIx (.p (tabF n m f)) (.p (.int 1)) h = .ok (.p (.tuple (rowsF n m f))) h := fun h => by simp [tabF]
  have e0 : ∀ h : List O, zIx (.p (tabF n m f)) (.p (.int 0)) h = .ok (.p (.int m)) h := fun h => by simp [tabF]
  have e2 : (rowsF n m f).length = n := by simp [rowsF]
  simp [runFn, turnedS, e, e0, e2, nat_le r4, nat_ge, r4]
  refine ok_map (fun x => match x with | .int j => rowF n (fun i => f i j.toNat) | x => x) (fun x hx => ?_) ?_
  · obtain ⟨j, hj, rfl⟩ := List.mem_map.mp hx
    simp [bindG]
    exact gives_call2 (g j (List.mem_range.mp hj)) fun b => by simp
  · rw [List.map_map]
    simp [Function.comp_def]
    exact q
theorem stacked_ok {n n2 m m2 : Nat} {f g : Nat → Nat → Int} (hn : n ≤ 1000) (hn2 : n2 ≤ 1000) (q : m = m2 → Q (tabF (n + n2) m (stk n f g), false) []) (hm : m = m2) : Ok (runFn G F ⟨2, 2, stackedS⟩ [.p (tabF n m f), .p (tabF n2 m2 g)] []) Q := by
  subst hm
  have r : n + n2 ≤ 1000000 := by omega
  have e2 : (rowsF n m f).length = n := by simp [rowsF]
  have e3 : (rowsF n2 m g).length = n2 := by simp [rowsF]
  simp [runFn, stackedS, tabF, e2, e3, r]
  simpa [tabF, rowsF_app] using q rfl
theorem times_ok {r n m p : Nat} {f g : Nat → Nat → Int} (hn : n ≤ 1000) (h : ∀ i, i < n → Gives F r [rowF m (f i), tabF m p g] (rowF p (vm m (f i) g))) (q : Q (tabF n p (mm m f g), false) []) : Ok (runFn G F ⟨2, 3, timesS r⟩ [.p (tabF n m f), .p (tabF m p g)] []) Q := by
  have r3 : n ≤ 1000000 := by omega
  have e : ∀ h : List O, zIx (.p (tabF n m f)) (.p (.int 1)) h = .ok (.p (.tuple (rowsF n m f))) h := fun h => by simp [tabF]
  have e0 : ∀ h : List O, zIx (.p (tabF m p g)) (.p (.int 0)) h = .ok (.p (.int p)) h := fun h => by simp [tabF]
  have e2 : (rowsF n m f).length = n := by simp [rowsF]
  simp [runFn, timesS, e, e0, e2, r3]
  have key : ∀ Q2 : List PyData → List O → Prop, Q2 (rowsF n p (mm m f g)) [] → Ok (compL [2] false [some (.p (tabF n m f)), some (.p (tabF m p g)), none] (sem G F .nil).cnd (fun ρ1 => (sem G F (.call r (.cons (.var 2) (.cons (.var 1) .nil)))).ev ρ1 >>= val) (rowsF n m f) []) Q2 := by
    intro Q2 q2
    refine ok_comp (fun rest acc h => h = [] ∧ ∃ i, i ≤ n ∧ rest = (rowsF n m f).drop i ∧ acc = (rowsF n p (mm m f g)).take i) (fun x rest acc h1 I => ?_) (fun acc h1 I => ?_) _ _ ⟨rfl, 0, by omega, rfl, rfl⟩
    · obtain ⟨rfl, i, hi, e1, rfl⟩ := I
      have hl : i < n := by
        have := congrArg List.length e1
        simp [rowsF] at this
        omega
      have e3 : (rowsF n m f)[i]? = some (rowF m (f i)) := by simp [rowsF, hl]
      have e4 : (rowsF n p (mm m f g))[i]? = some (rowF p (mm m f g i)) := by simp [rowsF, hl]
      have e5 : x = rowF m (f i) ∧ rest = (rowsF n m f).drop (i + 1) := by
        obtain ⟨hh, e6⟩ := List.getElem?_eq_some_iff.mp e3
        rw [List.drop_eq_getElem_cons hh, e6] at e1
        exact ⟨(List.cons.inj e1).1, (List.cons.inj e1).2⟩
      obtain ⟨rfl, rfl⟩ := e5
      simp [bindG]
      refine gives_call2 (h i hl) fun b => ?_
      simp
      refine ⟨i + 1, hl, rfl, ?_⟩
      rw [List.take_add_one, e4]
      rfl
    · obtain ⟨rfl, i, hi, e1, rfl⟩ := I
      have hl : n ≤ i := by
        have := congrArg List.length e1
        simp [rowsF] at this
        omega
      have : (rowsF n p (mm m f g)).take i = rowsF n p (mm m f g) := List.take_of_length_le (by simp [rowsF]; omega)
      rw [this]
      exact q2
  refine key _ ?_
  simpa [tabF] using q
def accF (v : Nat → Int) (g : Nat → Nat → Int) (i k : Nat) : Int := sg i fun j => v j * g j k
/-- the inner loop: one row, times a number, is added -/
theorem inner_ok {p : Nat} {x : Int} {w : Nat → Int} {ρ0 ρ1 : Option D} {ρ5 : Option D} {R : Fl × Env → List O → Prop} (hp : p ≤ 1000) (ox : okBits x = true) (ow : ∀ k, k < p → okBits (w k) = true) {a : Nat → Int}
    (q : ∀ r5, R (.nx, [ρ0, ρ1, some (.r 0), some (.p (.int x)), some (.p (rowF p w)), r5]) [.lst ((List.range p).map fun k => .int (a k + x * w k))]) :
    Ok (loopF [5] false (fun ρ => exec G F (.seq (.ixs (.var 2) (.var 5) (.bin .add (.ix (.var 2) (.var 5)) (.bin .mul (.var 3) (.ix (.var 4) (.var 5))))) .skip) ρ) ((List.range p).map fun i => .int (i : Nat))
      [ρ0, ρ1, some (.r 0), some (.p (.int x)), some (.p (rowF p w)), ρ5] [.lst ((List.range p).map fun k => .int (a k))]) R := by
  refine ok_for (fun rest ρ h => ∃ j r5, j ≤ p ∧ rest = ((List.range p).map fun i => PyData.int (i : Nat)).drop j ∧ ρ = [ρ0, ρ1, some (.r 0), some (.p (.int x)), some (.p (rowF p w)), r5] ∧
    h = [.lst ((List.range p).map fun k => .int (if k < j then a k + x * w k else a k))]) (fun y rest ρ h I => ?_) (fun ρ h I => ?_) _ _ _ ⟨0, ρ5, by omega, rfl, rfl, by simp⟩
  · obtain ⟨j, r5, hj, e1, rfl, rfl⟩ := I
    have hl : j < p := by
      have := congrArg List.length e1
      simp at this
      omega
    have e3 : ((List.range p).map fun i => PyData.int (i : Nat))[j]? = some (.int j) := by simp [hl]
    have e5 : y = .int j ∧ rest = ((List.range p).map fun i => PyData.int (i : Nat)).drop (j + 1) := by
      obtain ⟨hh, e6⟩ := List.getElem?_eq_some_iff.mp e3
      rw [List.drop_eq_getElem_cons hh, e6] at e1
      exact ⟨(List.cons.inj e1).1, (List.cons.inj e1).2⟩
    obtain ⟨rfl, rfl⟩ := e5
    simp [bindG, rowF, atI_nat, ixN_nat, hl, ox, ow j hl]
    refine ⟨j + 1, hl, rfl, ?_⟩
    refine List.ext_getElem? fun k => ?_
    by_cases hk : k < p
    · by_cases he : j = k
      · subst he
        simp [hk]
      · rw [List.getElem?_set_ne he]
        simp [hk]
        by_cases hj2 : k < j
        · rw [if_pos hj2, if_pos (by omega)]
        · rw [if_neg hj2, if_neg (by omega)]
    · rw [List.getElem?_eq_none (by simpa using hk), List.getElem?_eq_none (by simpa using hk)]
  · obtain ⟨j, r5, hj, e1, rfl, rfl⟩ := I
    have hl : p ≤ j := by
      have := congrArg List.length e1
      simp at this
      omega
    have := q r5
    rw [map_range_congr (g := fun k => PyData.int (a k + x * w k)) fun k hk => by rw [if_pos (by omega)]]
    exact this
theorem zip_rows {m p : Nat} {v : Nat → Int} {g : Nat → Nat → Int} : zipD ((List.range m).map fun j => PyData.int (v j)) (rowsF m p g) = (List.range m).map fun j => .tuple [.int (v j), rowF p (g j)] := by
  unfold zipD rowsF
  refine List.ext_getElem? fun k => ?_
  by_cases hk : k < m <;> simp [hk]
theorem row_times_ok {m p : Nat} {v : Nat → Int} {g : Nat → Nat → Int} (hm : m ≤ 1000) (hp : p ≤ 1000) (ov : ∀ j, j < m → okBits (v j) = true) (og : ∀ j, j < m → ∀ k, k < p → okBits (g j k) = true)
    (q : Q (rowF p (vm m v g), false) []) : Ok (runFn G F ⟨2, 6, rowTimesS⟩ [.p (rowF m v), .p (tabF m p g)] []) Q := by
  have r3 : m ≤ 1000000 := by omega
  have r4 : p ≤ 1000000 := by omega
  have e : ∀ h : List O, zIx (.p (tabF m p g)) (.p (.int 1)) h = .ok (.p (.tuple (rowsF m p g))) h := fun h => by simp [tabF]
  have e0 : ∀ h : List O, zIx (.p (tabF m p g)) (.p (.int 0)) h = .ok (.p (.int p)) h := fun h => by simp [tabF]
  have e1 : (rowF m v) = .tuple ((List.range m).map fun j => .int (v j)) := rfl
  have e2 : ∀ n : Nat, (List.replicate n [PyData.int 0]).flatten = (List.range n).map fun _ => .int 0 := fun n => by
    induction n with
    | zero => rfl
    | succ n ih => rw [List.replicate_succ', List.flatten_append, ih, List.range_succ, List.map_append]; rfl
  have key : ∀ R : Fl × Env → List O → Prop, (∀ a b c, R (.nx, [some (.p (rowF m v)), some (.p (tabF m p g)), some (.r 0), a, b, c]) [.lst ((List.range p).map fun k => .int (vm m v g k))]) →
      Ok (loopF [3, 4] true (fun ρ => exec G F (.seq (.for_ [5] false (.rng1 (.ix (.var 1) (.int 0))) (.seq (.ixs (.var 2) (.var 5) (.bin .add (.ix (.var 2) (.var 5)) (.bin .mul (.var 3) (.ix
    (.var 4) (.var 5))))) .skip)) .skip) ρ) ((List.range m).map fun j => .tuple [.int (v j), rowF p (g j)]) [some (.p (rowF m v)), some (.p (tabF m p g)), some (.r 0), none, none, none] [.lst ((List.range p).map fun _ => .int 0)]) R := by
    intro R qr
    refine ok_for (fun rest ρ h => ∃ i a b c, i ≤ m ∧ rest = ((List.range m).map fun j => PyData.tuple [.int (v j), rowF p (g j)]).drop i ∧ ρ = [some (.p (rowF m v)), some (.p (tabF m p g)), some (.r 0), a, b, c] ∧
      h = [.lst ((List.range p).map fun k => .int (accF v g i k))]) (fun y rest ρ h I => ?_) (fun ρ h I => ?_) _ _ _ ⟨0, none, none, none, by omega, rfl, rfl, rfl⟩
    · obtain ⟨i, a, b, c, hi, e3, rfl, rfl⟩ := I
      have hl : i < m := by
        have := congrArg List.length e3
        simp at this
        omega
      have e4 : ((List.range m).map fun j => PyData.tuple [.int (v j), rowF p (g j)])[i]? = some (.tuple [.int (v i), rowF p (g i)]) := by simp [hl]
      have e5 : y = .tuple [.int (v i), rowF p (g i)] ∧ rest = ((List.range m).map fun j => PyData.tuple [.int (v j), rowF p (g j)]).drop (i + 1) := by
        obtain ⟨hh, e6⟩ := List.getElem?_eq_some_iff.mp e4
        rw [List.drop_eq_getElem_cons hh, e6] at e3
        exact ⟨(List.cons.inj e3).1, (List.cons.inj e3).2⟩
      obtain ⟨rfl, rfl⟩ := e5
      simp [bindG, bindAll, e0, nat_le r4, nat_ge]
      refine inner_ok hp (ov i hl) (fun k hk => og i hl k hk) fun r5 => ?_
      simp
      refine ⟨i + 1, hl, rfl, ?_⟩
      intro k hk
      rfl
    · obtain ⟨i, a, b, c, hi, e3, rfl, rfl⟩ := I
      have hl : m ≤ i := by
        have := congrArg List.length e3
        simp at this
        omega
      obtain rfl : i = m := by omega
      exact qr a b c
  simp [runFn, rowTimesS, e, e0, nat_le r4, nat_ge, e2]
  rw [e1]
  simp [zip_rows]
  rw [← e1]
  refine key _ fun a b c => ?_
  simpa [rowF] using q
end Px

/-! Pm3: what the laws draw: numbers, rows, tables. -/
namespace Px
open PySem
variable {G : Pg} {F : Nat → List D → M (PyData × Bool)} {Q : PyData × Bool → List O → Prop}

/-- at most C draws, an answer in P -/
def Draws (F : Nat → List D → M (PyData × Bool)) (f : Nat) (ds : List PyData) (C : Nat) (P : PyData → Prop) : Prop := ∀ (b : Nat) (xs : List PyData) (Q : PyData × Bool → List O → Prop), Fd b xs → b + C < Lim →
  (∀ v ys fl, P v → Fd (b + C) ys → Q (v, fl) [.lst ys]) → Ok (F f (.r 0 :: ds.map D.p) [.lst xs]) Q
theorem draws_call {f C b n : Nat} {ds : List PyData} {P : PyData → Prop} {h : List O} {xs : List PyData} (g : Draws F f ds C P) (hn : h[n]? = some (.lst xs)) (hf : Fd b xs) (hb : b + C < Lim)
    (q : ∀ v ys fl, P v → Fd (b + C) ys → Q (v, fl) (h.set n (.lst ys))) : Ok (callF F f (.r n :: ds.map D.p) h) Q :=
  ok_call1 ds hn (g b xs _ hf hb fun v ys fl p fd => ⟨rfl, q v ys fl p fd⟩)
def isBelow (many : Nat) (v : PyData) : Prop := ∃ r : Nat, v = .int r ∧ r < many
def isNum (B : Nat) (v : PyData) : Prop := ∃ i : Int, v = .int i ∧ i.natAbs ≤ B
/-- the draw itself -/
def DrawAt (F : Nat → List D → M (PyData × Bool)) (d : Nat) : Prop := ∀ many : Nat, 0 < many → many < 1000000000000 → Draws F d [.int many] 1 (isBelow many)
theorem drawAt_of {d : Nat} (e : F d = runFn G (fun _ _ => M.no) ⟨2, 5, drawS⟩) : DrawAt F d := fun many h0 h1 b xs Q hf hb q => by
  rw [e]
  refine draw_ok hf (by omega) (by omega) (by omega) fun r ys r0 r1 fd => ?_
  obtain ⟨k, rfl⟩ := Int.eq_ofNat_of_zero_le r0
  exact q _ _ _ ⟨k, rfl, by omega⟩ fd
theorem draw_call {d b n many : Nat} {h : List O} {xs : List PyData} (g : DrawAt F d) (h0 : 0 < many) (h1 : many < 1000000000000) (hn : h[n]? = some (.lst xs)) (hf : Fd b xs) (hb : b + 1 < Lim)
    (q : ∀ (r : Nat) ys fl, r < many → Fd (b + 1) ys → Q (.int r, fl) (h.set n (.lst ys))) : Ok (callF F d [.r n, .p (.int many)] h) Q :=
  draws_call (g many h0 h1) hn hf hb fun v ys fl p fd => by
    obtain ⟨r, rfl, hr⟩ := p
    exact q r ys fl hr fd

def numberS (d : Nat) : S :=
    (.seq (.set 1 (.call d (.cons (.var 0) (.cons (.int 4) .nil)))) (.seq (.ife (.cmp .eq (.var 1) (.int 0)) (.seq (.ret (.int 0)) .skip) .skip) (.seq (.ret
    (.ife (.cmp .lt (.var 1) (.int 3)) (.bin .sub (.call d (.cons (.var 0) (.cons (.int 19) .nil))) (.int 9)) (.bin .sub (.call d (.cons (.var 0) (.cons (.int
    199) .nil))) (.int 99)))) .skip)))
theorem number_ok {d b : Nat} {xs : List PyData} (g : DrawAt F d) (hf : Fd b xs) (hb : b + 2 < Lim) (q : ∀ v ys fl, isNum 99 v → Fd (b + 2) ys → Q (v, fl) [.lst ys]) : Ok (runFn G F ⟨1, 2, numberS d⟩ [.r 0] [.lst xs]) Q := by
  simp [runFn, numberS]
  refine draw_call (many := 4) g (by decide) (by decide) (xs := xs) rfl hf (by omega) fun r ys fl hr fd => ?_
  simp
  by_cases h0 : r = 0
  · subst h0
    simp
    exact q _ _ _ ⟨0, rfl, by decide⟩ (fd.mono (by omega))
  · by_cases h3 : r < 3
    · have e : ((r : Int) < 3) := by omega
      simp [h0, e]
      refine draw_call (many := 19) g (by decide) (by decide) (xs := ys) rfl fd (by omega) fun s zs fl hs fd2 => ?_
      simp
      exact q _ _ _ ⟨_, rfl, by omega⟩ fd2
    · have e : ¬ ((r : Int) < 3) := by omega
      simp [h0, e]
      refine draw_call (many := 199) g (by decide) (by decide) (xs := ys) rfl fd (by omega) fun s zs fl hs fd2 => ?_
      simp
      exact q _ _ _ ⟨_, rfl, by omega⟩ fd2
theorem List.set_getElem?_self' {α : Type} {l : List α} {n : Nat} {a : α} (h : l[n]? = some a) : l = l.set n a := by
  refine List.ext_getElem? fun k => ?_
  by_cases e : n = k
  · subst e
    rw [h, List.getElem?_set_self (List.getElem?_eq_some_iff.mp h).1]
  · rw [List.getElem?_set_ne e]
theorem number_draws {d nb : Nat} (g : DrawAt F d) (e : ∀ (xs : List PyData), F nb [.r 0] [.lst xs] = runFn G F ⟨1, 2, numberS d⟩ [.r 0] [.lst xs]) : Draws F nb [] 2 (isNum 99) := fun b xs Q hf hb q => by
  show Ok (F nb [.r 0] [.lst xs]) Q
  rw [e]
  exact number_ok g hf hb q
/-- [number(feed) for _ in range(w)] -/
theorem numbers_ok {nb fv s n B C b w : Nat} {ρ : Env} {h : List O} {xs : List PyData} {R : List PyData → List O → Prop} (g : Draws F nb [] C (isNum B)) (hρ : ∀ x, (ρ.set s (some (.p x)))[fv]? = some (some (.r n)))
    (hn : h[n]? = some (.lst xs)) (hf : Fd b xs) (hb : b + w * C < Lim)
    (q : ∀ (v : Nat → Int) ys, Bv w B v → Fd (b + w * C) ys → R ((List.range w).map fun j => .int (v j)) (h.set n (.lst ys))) :
    Ok (compL [s] false ρ (sem G F .nil).cnd (fun ρ1 => (sem G F (.call nb (.cons (.var fv) .nil))).ev ρ1 >>= val) ((List.range w).map fun i => .int (i : Nat)) h) R := by
  have nl : n < h.length := (List.getElem?_eq_some_iff.mp hn).1
  refine ok_comp (fun rest acc h1 => ∃ j v ys, j ≤ w ∧ rest = ((List.range w).map fun i => PyData.int (i : Nat)).drop j ∧ acc = (List.range j).map (fun i => .int (v i)) ∧ Bv j B v ∧ Fd (b + j * C) ys ∧ h1 = h.set n (.lst ys))
    (fun x rest acc h1 I => ?_) (fun acc h1 I => ?_) _ _ ⟨0, fun _ => 0, xs, by omega, rfl, rfl, fun j hj => absurd hj (Nat.not_lt_zero _), by simpa using hf, List.set_getElem?_self' hn⟩
  · obtain ⟨j, v, ys, hj, e1, rfl, bv, fd, rfl⟩ := I
    have hl : j < w := by
      have := congrArg List.length e1
      simp at this
      omega
    have e3 : ((List.range w).map fun i => PyData.int (i : Nat))[j]? = some (.int j) := by simp [hl]
    have e5 : x = .int j ∧ rest = ((List.range w).map fun i => PyData.int (i : Nat)).drop (j + 1) := by
      obtain ⟨hh, e6⟩ := List.getElem?_eq_some_iff.mp e3
      rw [List.drop_eq_getElem_cons hh, e6] at e1
      exact ⟨(List.cons.inj e1).1, (List.cons.inj e1).2⟩
    obtain ⟨rfl, rfl⟩ := e5
    have hw : (j + 1) * C ≤ w * C := Nat.mul_le_mul_right _ hl
    rw [Nat.succ_mul] at hw
    simp [bindG, hρ]
    refine draws_call (ds := []) (xs := ys) g (by simp [nl]) fd (by omega) fun y zs fl hy fd2 => ?_
    obtain ⟨i, rfl, hi⟩ := hy
    simp
    refine ⟨j + 1, hl, rfl, fun k => if k < j then v k else i, ?_, ?_, zs, ?_, rfl⟩
    · rw [List.range_succ, List.map_append]
      congr 1
      · exact map_range_congr fun k hk => by simp [hk]
      · simp
    · intro k hk
      by_cases hk2 : k < j
      · simpa [hk2] using bv k hk2
      · simpa [hk2] using hi
    · rw [Nat.succ_mul]
      exact fd2.mono (by omega)
  · obtain ⟨j, v, ys, hj, e1, rfl, bv, fd, rfl⟩ := I
    have hl : w ≤ j := by
      have := congrArg List.length e1
      simp at this
      omega
    obtain rfl : j = w := by omega
    exact q v ys bv fd
def rowsS (d nb : Nat) : S :=
    (.seq (.new 3 (.lst .nil)) (.seq (.for_ [4] false (.rng1 (.var 1)) (.seq (.set 5 (.call d (.cons (.var 0) (.cons (.int 8) .nil)))) (.seq (.set 6 (.bin .mul
    (.tup (.cons (.int 0) .nil)) (.var 2))) (.seq (.ife (.or (.cmp .gt (.var 5) (.int 2)) (.and (.cmp .gt (.var 5) (.int 0)) (.cmp .eq (.var 3) (.lst .nil))))
    (.seq (.set 6 (.blt .tuple (.cons (.comp [7] [7] false (.rng1 (.var 2)) .nil (.call nb (.cons (.var 0) .nil))) .nil))) .skip) (.seq (.ife (.cmp .gt (.var 5)
    (.int 0)) (.seq (.set 6 (.ix (.var 3) (.call d (.cons (.var 0) (.cons (.blt .len (.cons (.var 3) .nil)) .nil))))) (.seq (.set 6 (.ife (.cmp .eq (.var 5)
    (.int 1)) (.var 6) (.blt .tuple (.cons (.comp [8] [8] false (.var 6) .nil (.neg (.var 8))) .nil)))) .skip)) .skip) .skip)) (.seq (.app (.var 3) (.var 6))
    .skip))))) (.seq (.ret (.blt .tuple (.cons (.var 3) .nil))) .skip)))
theorem rep_row {n : Nat} {i : Int} : (List.replicate n [PyData.int i]).flatten = (List.range n).map fun _ => .int i := by
  induction n with
  | zero => rfl
  | succ n ih => rw [List.replicate_succ', List.flatten_append, ih, List.range_succ, List.map_append]; rfl
theorem rows_snoc {i w : Nat} {f : Nat → Nat → Int} {v : Nat → Int} : rowsF i w f ++ [rowF w v] = rowsF (i + 1) w (fun k => if k < i then f k else v) := by
  unfold rowsF
  rw [List.range_succ, List.map_append]
  congr 1
  · exact map_range_congr fun k hk => by simp [hk]
  · simp
theorem bm_snoc {i w B : Nat} {f : Nat → Nat → Int} {v : Nat → Int} (h : Bm i w B f) (k : Bv w B v) : Bm (i + 1) w B (fun k => if k < i then f k else v) := fun j hj => by
  by_cases hji : j < i
  · simpa [hji] using h j hji
  · simpa [hji] using k
theorem rows_ok {d nb b n w : Nat} {xs : List PyData} (g : DrawAt F d) (gn : Draws F nb [] 2 (isNum 99)) (hn : n ≤ 100) (hw : w ≤ 100) (hf : Fd b xs) (hb : b + n * (2 * w + 2) < Lim)
    (q : ∀ f ys fl, Bm n w 99 f → Fd (b + n * (2 * w + 2)) ys → Q (.tuple (rowsF n w f), fl) [.lst ys]) : Ok (runFn G F ⟨3, 9, rowsS d nb⟩ [.r 0, .p (.int n), .p (.int w)] [.lst xs]) Q := by
  have n6 : n ≤ 1000000 := by omega
  have w6 : w ≤ 1000000 := by omega
  have w3 : (w : Int) ≤ 1000 := by omega
  simp [runFn, rowsS, nat_le n6, nat_ge]
  refine ok_for (fun rest ρ h => ∃ i a4 a5 a6 f ys, i ≤ n ∧ rest = ((List.range n).map fun i => PyData.int (i : Nat)).drop i ∧ ρ = [some (.r 0), some (.p (.int n)), some (.p (.int w)), some (.r 1), a4, a5, a6, none, none] ∧
    h = [.lst ys, .lst (rowsF i w f)] ∧ Bm i w 99 f ∧ Fd (b + i * (2 * w + 2)) ys) (fun x rest ρ h I => ?_) (fun ρ h I => ?_) _ _ _ ⟨0, none, none, none, fun _ _ => 0, xs, by omega, rfl, rfl, rfl, fun j hj => absurd hj (Nat.not_lt_zero _), by simpa using hf⟩
  · obtain ⟨i, a4, a5, a6, f, ys, hi, e1, rfl, rfl, bm, fd⟩ := I
    have hl : i < n := by
      have := congrArg List.length e1
      simp at this
      omega
    have e3 : ((List.range n).map fun i => PyData.int (i : Nat))[i]? = some (.int i) := by simp [hl]
    have e5 : x = .int i ∧ rest = ((List.range n).map fun i => PyData.int (i : Nat)).drop (i + 1) := by
      obtain ⟨hh, e6⟩ := List.getElem?_eq_some_iff.mp e3
      rw [List.drop_eq_getElem_cons hh, e6] at e1
      exact ⟨(List.cons.inj e1).1, (List.cons.inj e1).2⟩
    obtain ⟨rfl, rfl⟩ := e5
    have hm : (i + 1) * (2 * w + 2) ≤ n * (2 * w + 2) := Nat.mul_le_mul_right _ hl
    rw [Nat.succ_mul] at hm
    have len : (rowsF i w f).length = i := by simp [rowsF]
    simp [bindG]
    refine draw_call (many := 8) g (by decide) (by decide) (xs := ys) rfl fd (by omega) fun r zs fl hr fd2 => ?_
    have fin : ∀ (v : Nat → Int) (y : PyData) us, Bv w 99 v → y = rowF w v → Fd (b + i * (2 * w + 2) + (2 * w + 2)) us → ∃ i_1, i_1 ≤ n ∧ min (i + 1) n = min i_1 n ∧ ∃ x x_1, (us = x_1 ∧ rowsF i w f ++ [y] = rowsF i_1 w x) ∧ Bm i_1 w 99 x ∧ Fd (b + i_1 * (2 * w + 2)) x_1 := fun v y us hv hy hu => by
      subst hy
      exact ⟨i + 1, hl, rfl, _, us, ⟨rfl, rows_snoc⟩, bm_snoc bm hv, by rw [Nat.succ_mul]; exact hu.mono (by omega)⟩
    have sh : shp (.list (rowsF i w f)) = true := shp_pl (n := 2) (pl_lst fun x hx => by
      obtain ⟨j, _, rfl⟩ := List.mem_map.mp hx
      exact pl_row) (by decide)
    have em : (rowsF i w f).isEmpty = decide (i = 0) := by
      unfold rowsF
      cases i <;> simp
    have len6 : (rowsF i w f).length ≤ 1000000 := by omega
    have zero : PyData.tuple (List.replicate w (PyData.int 0)) = rowF w fun _ => 0 := by
      unfold rowF
      rw [List.map_const']
      simp
    have caseA : ∀ (R : Fl × Env → List O → Prop) (a5 a6 : Option D), (∀ v us, Bv w 99 v → Fd (b + i * (2 * w + 2) + (2 * w + 2)) us → R (.nx, [some (.r 0), some (.p (.int n)), some (.p (.int w)), some (.r 1), some (.p (.int i)), a5, some (.p (rowF w v)), none, none]) [.lst us, .lst (rowsF i w f)]) →
        Ok (exec G F (.seq (.set 6 (.blt .tuple (.cons (.comp [7] [7] false (.rng1 (.var 2)) .nil (.call nb (.cons (.var 0) .nil))) .nil))) .skip) [some (.r 0), some (.p (.int n)), some (.p (.int w)), some (.r 1), some (.p (.int i)), a5, a6, none, none] [.lst zs, .lst (rowsF i w f)]) R := by
      intro R a5 a6 k
      simp [nat_le w6, nat_ge, w6]
      refine numbers_ok (n := 0) gn (fun x => by simp) (xs := zs) rfl fd2 (by omega) fun v us hv hu => ?_
      simp
      exact k v us hv (hu.mono (by omega))
    by_cases c2 : 2 < r
    · have c2' : (2 : Int) < r := by omega
      simp [w3, nat_ge, c2', nat_le w6, w6]
      refine numbers_ok (n := 0) gn (fun x => by simp) (xs := zs) rfl fd2 (by omega) fun v us hv hu => ?_
      simp [len6]
      exact fin v _ us hv rfl (hu.mono (by omega))
    · have c2' : ¬ ((2 : Int) < r) := by omega
      by_cases c0 : r = 0
      · simp [w3, nat_ge, c2', c0, len6]
        exact fin (fun _ => 0) _ zs (fun j hj => by simp) zero (fd2.mono (by omega))
      · have c0' : 0 < r := by omega
        by_cases ci : i = 0
        · have em1 : (rowsF i w f).isEmpty = true := by rw [em, ci]; rfl
          simp [w3, nat_ge, c2', c0', sh, em1, nat_le w6, w6]
          refine numbers_ok (n := 0) gn (fun x => by simp) (xs := zs) rfl fd2 (by omega) fun v us hv hu => ?_
          simp [len6]
          exact fin v _ us hv rfl (hu.mono (by omega))
        · have em1 : (rowsF i w f).isEmpty = false := by rw [em]; simp [ci]
          simp [w3, nat_ge, c2', c0', sh, em1, len]
          refine draw_call (many := i) g (by omega) (by omega) (xs := zs) rfl fd2 (by omega) fun s us fl hs fd3 => ?_
          have e7 : (rowsF i w f)[s]? = some (rowF w (f s)) := by simp [rowsF, hs]
          by_cases c1 : r = 1
          · simp [atI_nat, e7, c1, len6]
            exact fin (f s) _ us (bm s hs) rfl (fd3.mono (by omega))
          · have c1' : ¬ ((r : Int) = 1) := by omega
            simp [atI_nat, e7, c1', rowF, w6]
            refine ok_map (fun x => match x with | .int j => .int (-j) | x => x) (fun x hx => ?_) ?_
            · obtain ⟨j, hj, rfl⟩ := List.mem_map.mp hx
              simp [bindG]
            · rw [List.map_map]
              simp [len6]
              exact fin (fun j => -(f s j)) _ us (fun j hj => by simpa using bm s hs j hj) rfl (fd3.mono (by omega))
  · obtain ⟨i, a4, a5, a6, f, ys, hi, e1, rfl, rfl, bm, fd⟩ := I
    have hl : n ≤ i := by
      have := congrArg List.length e1
      simp at this
      omega
    obtain rfl : i = n := by omega
    simp
    exact q f ys _ bm fd

def isRows (n w B : Nat) (v : PyData) : Prop := ∃ f, v = .tuple (rowsF n w f) ∧ Bm n w B f
def isTab (n w B : Nat) (v : PyData) : Prop := ∃ f, v = tabF n w f ∧ Bm n w B f
theorem rows_draws {d nb rw' n w : Nat} (g : DrawAt F d) (gn : Draws F nb [] 2 (isNum 99)) (hn : n ≤ 100) (hw : w ≤ 100) (e : ∀ (xs : List PyData), F rw' [.r 0, .p (.int n), .p (.int w)] [.lst xs] = runFn G F ⟨3, 9, rowsS d nb⟩ [.r 0, .p (.int n), .p (.int w)] [.lst xs]) :
    Draws F rw' [.int n, .int w] (n * (2 * w + 2)) (isRows n w 99) := fun b xs Q hf hb q => by
  show Ok (F rw' [.r 0, .p (.int n), .p (.int w)] [.lst xs]) Q
  rw [e]
  exact rows_ok g gn hn hw hf hb fun f ys fl bm fd => q _ ys fl ⟨f, rfl, bm⟩ fd
def tableS (r : Nat) : S :=
    (.seq (.ret (.tup (.cons (.var 2) (.cons (.call r (.cons (.var 0) (.cons (.var 1) (.cons (.var 2) .nil)))) .nil)))) .skip)
theorem table_ok {r n w C b : Nat} {xs : List PyData} (g : Draws F r [.int n, .int w] C (isRows n w 99)) (hf : Fd b xs) (hb : b + C < Lim)
    (q : ∀ v ys fl, isTab n w 99 v → Fd (b + C) ys → Q (v, fl) [.lst ys]) : Ok (runFn G F ⟨3, 3, tableS r⟩ [.r 0, .p (.int n), .p (.int w)] [.lst xs]) Q := by
  simp [runFn, tableS]
  refine draws_call (n := 0) (xs := xs) g rfl hf hb fun v ys fl p fd => ?_
  obtain ⟨f, rfl, bm⟩ := p
  simp
  exact q _ _ _ ⟨f, rfl, bm⟩ fd

/-- a comprehension of things drawn -/
theorem comp_draws {s n C b w : Nat} {P : Int → Prop} {elt : Env → M PyData} {ρ : Env} {h : List O} {xs : List PyData} {R : List PyData → List O → Prop}
    (he : ∀ (x : PyData) (b : Nat) (xs : List PyData) (R : PyData → List O → Prop), Fd b xs → b + C < Lim → (∀ (i : Int) ys, P i → Fd (b + C) ys → R (.int i) (h.set n (.lst ys))) → Ok (elt (ρ.set s (some (.p x))) (h.set n (.lst xs))) R)
    (hn : h[n]? = some (.lst xs)) (hf : Fd b xs) (hb : b + w * C < Lim)
    (q : ∀ (v : Nat → Int) ys, (∀ j, j < w → P (v j)) → Fd (b + w * C) ys → R ((List.range w).map fun j => .int (v j)) (h.set n (.lst ys))) :
    Ok (compL [s] false ρ (sem G F .nil).cnd elt ((List.range w).map fun i => .int (i : Nat)) h) R := by
  refine ok_comp (fun rest acc h1 => ∃ j v ys, j ≤ w ∧ rest = ((List.range w).map fun i => PyData.int (i : Nat)).drop j ∧ acc = (List.range j).map (fun i => .int (v i)) ∧ (∀ k, k < j → P (v k)) ∧ Fd (b + j * C) ys ∧ h1 = h.set n (.lst ys))
    (fun x rest acc h1 I => ?_) (fun acc h1 I => ?_) _ _ ⟨0, fun _ => 0, xs, by omega, rfl, rfl, fun j hj => absurd hj (Nat.not_lt_zero _), by simpa using hf, List.set_getElem?_self' hn⟩
  · obtain ⟨j, v, ys, hj, e1, rfl, bv, fd, rfl⟩ := I
    have hl : j < w := by
      have := congrArg List.length e1
      simp at this
      omega
    have e3 : ((List.range w).map fun i => PyData.int (i : Nat))[j]? = some (.int j) := by simp [hl]
    have e5 : x = .int j ∧ rest = ((List.range w).map fun i => PyData.int (i : Nat)).drop (j + 1) := by
      obtain ⟨hh, e6⟩ := List.getElem?_eq_some_iff.mp e3
      rw [List.drop_eq_getElem_cons hh, e6] at e1
      exact ⟨(List.cons.inj e1).1, (List.cons.inj e1).2⟩
    obtain ⟨rfl, rfl⟩ := e5
    have hw : (j + 1) * C ≤ w * C := Nat.mul_le_mul_right _ hl
    rw [Nat.succ_mul] at hw
    simp [bindG]
    refine he _ _ _ _ fd (by omega) fun i zs hi fd2 => ?_
    refine ⟨j + 1, hl, rfl, fun k => if k < j then v k else i, ?_, ?_, zs, ?_, rfl⟩
    · rw [List.range_succ, List.map_append]
      congr 1
      · exact map_range_congr fun k hk => by simp [hk]
      · simp
    · intro k hk
      by_cases hk2 : k < j
      · simpa [hk2] using bv k hk2
      · simpa [hk2] using hi
    · rw [Nat.succ_mul]
      exact fd2.mono (by omega)
  · obtain ⟨j, v, ys, hj, e1, rfl, bv, fd, rfl⟩ := I
    have hl : w ≤ j := by
      have := congrArg List.length e1
      simp at this
      omega
    obtain rfl : j = w := by omega
    exact q v ys bv fd
theorem ok_callS {f : Nat} {h : List O} {xs : List PyData} (w : Ok (F f [.s xs] []) fun v _ => Q v h) : Ok (callF F f [.s xs] h) Q := by
  have e : callF F f [.s xs] h = match F f [.s xs] [] with
      | .no => .no
      | .ex x h' => .ex x h
      | .ok v h' => .ok v h := by
    unfold callF
    rfl
  rw [e]
  obtain ⟨v, h', e2, q⟩ := w
  rw [e2]
  exact ok_of q
@[simp] theorem ix_tab0 {n m : Nat} {f : Nat → Nat → Int} : ixD (tabF n m f) (.int 0) = some (.int m) := (Eq.refl _).trans rfl
@[simp] theorem ix_tab1 {n m : Nat} {f : Nat → Nat → Int} : ixD (tabF n m f) (.int 1) = some (.tuple (rowsF n m f)) := (Eq.refl _).trans rfl
@[simp] theorem rows_len {n m : Nat} {f : Nat → Nat → Int} : (rowsF n m f).length = n := by simp [rowsF]
/-- the same where the feed stands alone -/
theorem draws_one {f C b : Nat} {ds : List PyData} {P : PyData → Prop} {xs : List PyData} (g : Draws F f ds C P) (hf : Fd b xs) (hb : b + C < Lim)
    (q : ∀ v ys fl, P v → Fd (b + C) ys → Q (v, fl) [.lst ys]) : Ok (callF F f (.r 0 :: ds.map D.p) [.lst xs]) Q := draws_call g rfl hf hb q
theorem draws_one2 {f C b : Nat} {x y : PyData} {P : PyData → Prop} {xs : List PyData} (g : Draws F f [x, y] C P) (hf : Fd b xs) (hb : b + C < Lim)
    (q : ∀ v ys fl, P v → Fd (b + C) ys → Q (v, fl) [.lst ys]) : Ok (callF F f [.r 0, .p x, .p y] [.lst xs]) Q := draws_call g rfl hf hb q
theorem draw_one {d b many : Nat} {xs : List PyData} (g : DrawAt F d) (h0 : 0 < many) (h1 : many < 1000000000000) (hf : Fd b xs) (hb : b + 1 < Lim)
    (q : ∀ (r : Nat) ys fl, r < many → Fd (b + 1) ys → Q (.int r, fl) [.lst ys]) : Ok (callF F d [.r 0, .p (.int many)] [.lst xs]) Q := draw_call g h0 h1 rfl hf hb q
end Px

/-! Pm4: the functions of tables, at their places in a law's list of defs. -/
namespace Px
open PySem
variable {gl : List PyData} {gd : List (List (Str × Option PyData))} {gx : List XCls} {fns : List Fn}
theorem at_ {n f : Nat} {fn : Fn} {ds : List D} (h : fns[f]? = some fn) : callN ⟨gl, gd, gx⟩ fns (n + 1) f ds = runFn ⟨gl, gd, gx⟩ (callN ⟨gl, gd, gx⟩ fns n) fn ds := by
  funext s
  show callN ⟨gl, gd, gx⟩ fns (n + 1) f ds s = _
  simp only [callN, h]
theorem ok_bm {n m B : Nat} {f : Nat → Nat → Int} (h : Bm n m B f) (hB : B ≤ 1000000000000000000) : ∀ i, i < n → ∀ j, j < m → okBits (f i j) = true := fun i hi j hj => okb64 (by have := h i hi j hj; omega)
theorem ok_bv {m B : Nat} {v : Nat → Int} (h : Bv m B v) (hB : B ≤ 1000000000000000000) : ∀ j, j < m → okBits (v j) = true := fun j hj => okb64 (by have := h j hj; omega)
theorem self_eqv {n m : Nat} {f : Nat → Nat → Int} : PyData.eqv (tabF n m f) (tabF n m f) = true := eqv_self shp_tab
theorem self_eqvR {m : Nat} {v : Nat → Int} : PyData.eqv (rowF m v) (rowF m v) = true := eqv_self shp_row
theorem idf_ok {n m : Nat} : ∀ i, i < n → ∀ j, j < m → okBits (idf i j) = true := fun i _ j _ => by
  unfold idf
  split <;> exact okb64 (by decide)
/-- where they stand -/
structure Tabs (fns : List Fn) : Prop where
  f0 : fns[0]? = some ⟨2, 3, unitRowS⟩
  f1 : fns[1]? = some ⟨1, 2, unitS 0⟩
  f2 : fns[2]? = some ⟨2, 6, rowTimesS⟩
  f3 : fns[3]? = some ⟨2, 3, timesS 2⟩
  f4 : fns[4]? = some ⟨2, 3, columnS⟩
  f5 : fns[5]? = some ⟨1, 2, turnedS 4⟩
  f6 : fns[6]? = some ⟨2, 2, stackedS⟩
/-- the drawing ones: draw, number, rows, table -/
structure Feeds (fns : List Fn) (d nb rw' tb : Nat) : Prop where
  pd : fns[d]? = some ⟨2, 5, drawS⟩
  pn : fns[nb]? = some ⟨1, 2, numberS d⟩
  pr : fns[rw']? = some ⟨3, 9, rowsS d nb⟩
  pt : fns[tb]? = some ⟨3, 3, tableS rw'⟩
theorem g_unit_row (T : Tabs fns) {k n i : Nat} (h : n ≤ 1000) : Gives (callN ⟨gl, gd, gx⟩ fns (k + 1)) 0 [.int n, .int i] (rowF n (idf i)) := fun Q q => by
  show Ok (callN ⟨gl, gd, gx⟩ fns (k + 1) 0 [.p (.int n), .p (.int i)] []) Q
  rw [at_ T.f0]
  exact unit_row_ok h (q _ _)
theorem g_unit (T : Tabs fns) {k n : Nat} (h : n ≤ 1000) : Gives (callN ⟨gl, gd, gx⟩ fns (k + 2)) 1 [.int n] (tabF n n idf) := fun Q q => by
  show Ok (callN ⟨gl, gd, gx⟩ fns (k + 1 + 1) 1 [.p (.int n)] []) Q
  rw [at_ T.f1]
  exact unit_ok h (fun i _ => g_unit_row T h) (q _ _)
theorem g_row (T : Tabs fns) {k m p : Nat} {v : Nat → Int} {g : Nat → Nat → Int} (hm : m ≤ 1000) (hp : p ≤ 1000) (ov : ∀ j, j < m → okBits (v j) = true) (og : ∀ j, j < m → ∀ k, k < p → okBits (g j k) = true) :
    Gives (callN ⟨gl, gd, gx⟩ fns (k + 1)) 2 [rowF m v, tabF m p g] (rowF p (vm m v g)) := fun Q q => by
  show Ok (callN ⟨gl, gd, gx⟩ fns (k + 1) 2 [.p (rowF m v), .p (tabF m p g)] []) Q
  rw [at_ T.f2]
  exact row_times_ok hm hp ov og (q _ _)
theorem g_times (T : Tabs fns) {k n m p : Nat} {f g : Nat → Nat → Int} (hn : n ≤ 1000) (hm : m ≤ 1000) (hp : p ≤ 1000) (ov : ∀ i, i < n → ∀ j, j < m → okBits (f i j) = true) (og : ∀ j, j < m → ∀ k, k < p → okBits (g j k) = true) :
    Gives (callN ⟨gl, gd, gx⟩ fns (k + 2)) 3 [tabF n m f, tabF m p g] (tabF n p (mm m f g)) := fun Q q => by
  show Ok (callN ⟨gl, gd, gx⟩ fns (k + 1 + 1) 3 [.p (tabF n m f), .p (tabF m p g)] []) Q
  rw [at_ T.f3]
  exact times_ok hn (fun i hi => g_row T hm hp (ov i hi) og) (q _ _)
theorem g_column (T : Tabs fns) {k n m c : Nat} {f : Nat → Nat → Int} (hn : n ≤ 1000) (hc : c < m) : Gives (callN ⟨gl, gd, gx⟩ fns (k + 1)) 4 [tabF n m f, .int c] (rowF n fun i => f i c) := fun Q q => by
  show Ok (callN ⟨gl, gd, gx⟩ fns (k + 1) 4 [.p (tabF n m f), .p (.int c)] []) Q
  rw [at_ T.f4]
  exact column_ok hn hc (q _ _)
theorem g_turned (T : Tabs fns) {k n m : Nat} {f : Nat → Nat → Int} (hn : n ≤ 1000) (hm : m ≤ 1000) : Gives (callN ⟨gl, gd, gx⟩ fns (k + 2)) 5 [tabF n m f] (tabF m n (trf f)) := fun Q q => by
  show Ok (callN ⟨gl, gd, gx⟩ fns (k + 1 + 1) 5 [.p (tabF n m f)] []) Q
  rw [at_ T.f5]
  exact turned_ok hn hm (fun c hc => g_column T hn hc) (q _ _)
theorem g_stacked (T : Tabs fns) {k n n2 m : Nat} {f g : Nat → Nat → Int} (hn : n ≤ 1000) (hn2 : n2 ≤ 1000) : Gives (callN ⟨gl, gd, gx⟩ fns (k + 1)) 6 [tabF n m f, tabF n2 m g] (tabF (n + n2) m (stk n f g)) := fun Q q => by
  show Ok (callN ⟨gl, gd, gx⟩ fns (k + 1) 6 [.p (tabF n m f), .p (tabF n2 m g)] []) Q
  rw [at_ T.f6]
  exact stacked_ok hn hn2 (fun _ => q _ _) rfl
theorem g_draw {d nb rw' tb : Nat} (T : Feeds fns d nb rw' tb) {k : Nat} : DrawAt (callN ⟨gl, gd, gx⟩ fns (k + 1)) d := fun many h0 h1 b xs Q hf hb q => by
  show Ok (callN ⟨gl, gd, gx⟩ fns (k + 1) d [.r 0, .p (.int many)] [.lst xs]) Q
  rw [at_ T.pd]
  refine draw_ok hf (by omega) (by omega) (by omega) fun r ys r0 r1 fd => ?_
  obtain ⟨k, rfl⟩ := Int.eq_ofNat_of_zero_le r0
  exact q _ _ _ ⟨k, rfl, by omega⟩ fd
theorem g_number {d nb rw' tb : Nat} (T : Feeds fns d nb rw' tb) {k : Nat} : Draws (callN ⟨gl, gd, gx⟩ fns (k + 2)) nb [] 2 (isNum 99) := fun b xs Q hf hb q => by
  show Ok (callN ⟨gl, gd, gx⟩ fns (k + 1 + 1) nb [.r 0] [.lst xs]) Q
  rw [at_ T.pn]
  exact number_ok (g_draw T) hf hb q
theorem g_rows {d nb rw' tb : Nat} (T : Feeds fns d nb rw' tb) {k n w : Nat} (hn : n ≤ 100) (hw : w ≤ 100) : Draws (callN ⟨gl, gd, gx⟩ fns (k + 3)) rw' [.int n, .int w] (n * (2 * w + 2)) (isRows n w 99) := fun b xs Q hf hb q => by
  show Ok (callN ⟨gl, gd, gx⟩ fns (k + 2 + 1) rw' [.r 0, .p (.int n), .p (.int w)] [.lst xs]) Q
  rw [at_ T.pr]
  exact rows_ok (d := d) (nb := nb) (g_draw T) (g_number T) hn hw hf hb fun f ys fl bm fd => q _ ys fl ⟨f, rfl, bm⟩ fd
theorem g_table {d nb rw' tb : Nat} (T : Feeds fns d nb rw' tb) {k n w : Nat} (hn : n ≤ 100) (hw : w ≤ 100) : Draws (callN ⟨gl, gd, gx⟩ fns (k + 4)) tb [.int n, .int w] (n * (2 * w + 2)) (isTab n w 99) := fun b xs Q hf hb q => by
  show Ok (callN ⟨gl, gd, gx⟩ fns (k + 3 + 1) tb [.r 0, .p (.int n), .p (.int w)] [.lst xs]) Q
  rw [at_ T.pt]
  exact table_ok (g_rows T hn hw) hf hb q
end Px

/-! Pd1: the corner of a square table: by its last column; rows' linearity, alternation. -/
namespace Px
open PySem

def skp (i r : Nat) : Nat := if r < i then r else r + 1
def sgn (k : Nat) : Int := if k % 2 = 0 then 1 else -1
theorem sgn_succ (k : Nat) : sgn (k + 1) = -sgn k := by
  unfold sgn
  by_cases h : k % 2 = 0
  · have : ¬ (k + 1) % 2 = 0 := by omega
    simp [h, this]
  · have : (k + 1) % 2 = 0 := by omega
    simp [h, this]
theorem sgn_add (a b : Nat) : sgn (a + b) = sgn a * sgn b := by
  induction b with
  | zero => simp [sgn]
  | succ b ih => rw [← Nat.add_assoc, sgn_succ, sgn_succ, ih, Int.mul_neg]
theorem sgn_sq (a : Nat) : sgn a * sgn a = 1 := by
  unfold sgn
  split <;> rfl
theorem sgn_two (a : Nat) : sgn (a + 2) = sgn a := by rw [sgn_succ, sgn_succ, Int.neg_neg]
abbrev Mt := Nat → Nat → Int
def det : Nat → Mt → Int
  | 0, _ => 1
  | n + 1, f => sg (n + 1) fun i => sgn (i + n) * f i n * det n fun r => f (skp i r)
theorem skp_lt {i r n : Nat} (h : r < n) : skp i r < n + 1 := by
  unfold skp
  split <;> omega
theorem det_congr : ∀ {n : Nat} {f g : Mt}, (∀ i, i < n → ∀ j, j < n → f i j = g i j) → det n f = det n g
  | 0, _, _, _ => rfl
  | n + 1, f, g, h => by
    unfold det
    refine sg_congr fun i hi => ?_
    rw [h i hi n (Nat.lt_succ_self n), det_congr (n := n) fun r hr c hc => h _ (skp_lt hr) c (Nat.lt_succ_of_lt hc)]
/-- one row put in the place of another one -/
def rowU (f : Mt) (k : Nat) (v : Nat → Int) : Mt := fun i => if i = k then v else f i
@[simp] theorem rowU_same {f : Mt} {k : Nat} {v : Nat → Int} : rowU f k v k = v := if_pos rfl
theorem rowU_ne {f : Mt} {k i : Nat} {v : Nat → Int} (h : i ≠ k) : rowU f k v i = f i := if_neg h
theorem skp_ne {i r : Nat} : skp i r ≠ i := by
  unfold skp
  split <;> omega
/-- the place of row k with row i out -/
def dwn (i k : Nat) : Nat := if k < i then k else k - 1
theorem skp_dwn {i k : Nat} (h : k ≠ i) : skp i (dwn i k) = k := by
  unfold skp dwn
  by_cases h1 : k < i
  · rw [if_pos h1, if_pos h1]
  · rw [if_neg h1, if_neg (by omega)]
    omega
theorem skp_inj {i a b : Nat} (h : skp i a = skp i b) : a = b := by
  unfold skp at h
  split at h <;> split at h <;> omega
theorem dwn_lt {i k n : Nat} (h : k ≠ i) (hk : k < n + 1) (hi : i < n + 1) : dwn i k < n := by
  unfold dwn
  split <;> omega
theorem rowU_skp {f : Mt} {k i : Nat} {v : Nat → Int} (h : k ≠ i) : (fun r => rowU f k v (skp i r)) = rowU (fun r => f (skp i r)) (dwn i k) v := by
  funext r
  unfold rowU
  by_cases e : skp i r = k
  · rw [if_pos e, if_pos (skp_inj (e.trans (skp_dwn h).symm))]
  · rw [if_neg e, if_neg (fun z => e (by rw [z]; exact skp_dwn h))]
theorem rowU_skp_same {f : Mt} {k : Nat} {v : Nat → Int} : (fun r => rowU f k v (skp k r)) = fun r => f (skp k r) := by
  funext r
  exact rowU_ne skp_ne
/-- linear in each row -/
theorem det_lin : ∀ {n : Nat} {f : Mt} {k : Nat} (_ : k < n) (a b : Int) (u v : Nat → Int), det n (rowU f k fun j => a * u j + b * v j) = a * det n (rowU f k u) + b * det n (rowU f k v)
  | 0, _, _, h, _, _, _, _ => absurd h (Nat.not_lt_zero _)
  | n + 1, f, k, h, a, b, u, v => by
    unfold det
    rw [← sg_mul, ← sg_mul, ← sg_add]
    refine sg_congr fun i hi => ?_
    by_cases e : k = i
    · subst e
      simp only [rowU_same, rowU_skp_same]
      generalize (det n fun r => f (skp k r)) = D
      generalize sgn (k + n) = s
      grind
    · have e2 : i ≠ k := fun z => e z.symm
      simp only [rowU_ne e2, rowU_skp e]
      rw [det_lin (dwn_lt e h hi) a b u v]
      generalize det n (rowU (fun r => f (skp i r)) (dwn i k) u) = A
      generalize det n (rowU (fun r => f (skp i r)) (dwn i k) v) = B
      generalize sgn (i + n) = s
      generalize f i n = x
      grind
/-- two rows alike, side by side -/
theorem det_adj : ∀ {n : Nat} {f : Mt} {k : Nat} (_ : k + 1 < n), (∀ j, j < n → f k j = f (k + 1) j) → det n f = 0
  | 0, _, _, h, _ => absurd h (Nat.not_lt_zero _)
  | n + 1, f, k, h, e => by
    unfold det
    have key : ∀ i, i < n + 1 → sgn (i + n) * f i n * (det n fun r => f (skp i r)) = (if i = k then 1 else 0) * (sgn (k + n) * f k n * det n fun r => f (skp k r)) + (if i = k + 1 then 1 else 0) * -(sgn (k + n) * f k n * det n fun r => f (skp k r)) := fun i hi => by
      by_cases h1 : i = k
      · subst h1
        simp
      · by_cases h2 : i = k + 1
        · subst h2
          have e1 : det n (fun r => f (skp (k + 1) r)) = det n fun r => f (skp k r) := det_congr fun r hr j hj => by
            unfold skp
            by_cases h3 : r < k
            · rw [if_pos h3, if_pos (by omega)]
            · by_cases h4 : r = k
              · subst h4
                rw [if_pos (by omega), if_neg (by omega)]
                exact e j (by omega)
              · rw [if_neg h3, if_neg (by omega)]
          have e2 : sgn (k + 1 + n) = -sgn (k + n) := by
            rw [show k + 1 + n = k + n + 1 by omega, sgn_succ]
          rw [e1, e2, ← e n (Nat.lt_succ_self n)]
          simp [h1]
          grind
        · rw [if_neg h1, if_neg h2]
          have : (det n fun r => f (skp i r)) = 0 := by
            by_cases h3 : i < k
            · refine det_adj (k := k - 1) (by omega) fun j hj => ?_
              show f (skp i (k - 1)) j = f (skp i (k - 1 + 1)) j
              unfold skp
              rw [if_neg (by omega), if_neg (by omega), show k - 1 + 1 = k by omega]
              exact e j (by omega)
            · refine det_adj (k := k) (by omega) fun j hj => ?_
              show f (skp i k) j = f (skp i (k + 1)) j
              unfold skp
              rw [if_pos (by omega), if_pos (by omega)]
              exact e j (by omega)
          rw [this]
          simp
    rw [sg_congr key, sg_add, sg_delta (n := n + 1) (k := k) (fun _ => sgn (k + n) * f k n * det n fun r => f (skp k r)) (by omega), sg_delta (n := n + 1) (k := k + 1) (fun _ => -(sgn (k + n) * f k n * det n fun r => f (skp k r))) (by omega)]
    omega
/-! ### functions of the rows: linear in each, nought where two are alike -/
structure Adj (n : Nat) (F : Mt → Int) : Prop where
  cong : ∀ f g, (∀ i, i < n → ∀ j, j < n → f i j = g i j) → F f = F g
  lin : ∀ f k, k < n → ∀ (a b : Int) (u v : Nat → Int), F (rowU f k fun j => a * u j + b * v j) = a * F (rowU f k u) + b * F (rowU f k v)
  adj : ∀ f k, k + 1 < n → (∀ j, j < n → f k j = f (k + 1) j) → F f = 0
theorem rowU_self {f : Mt} {k : Nat} : rowU f k (f k) = f := by
  funext i
  unfold rowU
  split
  · subst_vars; rfl
  · rfl
theorem rowU_comm {f : Mt} {k l : Nat} {u v : Nat → Int} (h : k ≠ l) : rowU (rowU f k u) l v = rowU (rowU f l v) k u := by
  funext i
  unfold rowU
  by_cases h1 : i = k
  · subst h1; simp [h]
  · simp [h1]
theorem rowU_twice {f : Mt} {k : Nat} {u v : Nat → Int} : rowU (rowU f k u) k v = rowU f k v := by
  funext i
  unfold rowU
  by_cases h1 : i = k <;> simp [h1]
/-- rows k and l exchanged -/
def swp2 (f : Mt) (k l : Nat) : Mt := rowU (rowU f k (f l)) l (f k)
section
variable {n : Nat} {F : Mt → Int}
theorem Adj.swap_of (A : Adj n F) {f : Mt} {k l : Nat} (hk : k < n) (hl : l < n) (h : k ≠ l) (z : ∀ g : Mt, (∀ j, j < n → g k j = g l j) → F g = 0) : F (swp2 f k l) = -F f := by
  have lin2 : ∀ (g : Mt) (k : Nat), k < n → ∀ u v : Nat → Int, F (rowU g k fun j => u j + v j) = F (rowU g k u) + F (rowU g k v) := fun g k hk u v => by
    have := A.lin g k hk 1 1 u v
    simpa using this
  have eq : ∀ u, F (rowU (rowU f k u) l u) = 0 := fun u => z _ fun j _ => by
    rw [rowU_same, rowU_ne h, rowU_same]
  have e := eq fun j => f k j + f l j
  rw [lin2 _ l hl, rowU_comm h, rowU_comm (v := f l) h, lin2 _ k hk, lin2 _ k hk, ← rowU_comm h, ← rowU_comm h, ← rowU_comm h, ← rowU_comm h, eq, eq] at e
  have e1 : rowU (rowU f k (f k)) l (f l) = f := by rw [rowU_self, rowU_self]
  rw [e1] at e
  have e2 : rowU (rowU f k (f l)) l (f k) = swp2 f k l := rfl
  rw [e2] at e
  omega
theorem Adj.alt (A : Adj n F) : ∀ (d : Nat) {f : Mt} {k l : Nat}, l = k + 1 + d → l < n → (∀ j, j < n → f k j = f l j) → F f = 0
  | 0, f, k, l, e, hl, h => A.adj f k (by omega) fun j hj => by rw [h j hj, e]
  | d + 1, f, k, l, e, hl, h => by
    have s := A.swap_of (f := f) (k := l - 1) (l := l) (by omega) hl (by omega) fun g hg => A.adj g (l - 1) (by omega) fun j hj => by rw [hg j hj, show l - 1 + 1 = l by omega]
    have z := Adj.alt A d (f := swp2 f (l - 1) l) (k := k) (l := l - 1) (by omega) (by omega) fun j hj => by
      unfold swp2
      rw [rowU_ne (by omega), rowU_ne (by omega), rowU_ne (by omega), rowU_same]
      exact h j hj
    omega
theorem Adj.zero (A : Adj n F) {f : Mt} {k l : Nat} (hk : k < n) (hl : l < n) (h : k ≠ l) (e : ∀ j, j < n → f k j = f l j) : F f = 0 := by
  rcases Nat.lt_or_gt_of_ne h with q | q
  · exact A.alt (l - k - 1) (by omega) hl e
  · exact A.alt (k - l - 1) (k := l) (l := k) (by omega) hk fun j hj => (e j hj).symm
theorem Adj.swap (A : Adj n F) {f : Mt} {k l : Nat} (hk : k < n) (hl : l < n) (h : k ≠ l) : F (swp2 f k l) = -F f := A.swap_of hk hl h fun _ e => A.zero hk hl h e
/-- a row and so many times another one -/
theorem Adj.add (A : Adj n F) {f : Mt} {k l : Nat} (hk : k < n) (hl : l < n) (h : k ≠ l) (c : Int) : F (rowU f k fun j => f k j + c * f l j) = F f := by
  have e := A.lin f k hk 1 c (f k) (f l)
  have z : F (rowU f k (f l)) = 0 := A.zero hk hl h fun j _ => by rw [rowU_same, rowU_ne (fun z => h z.symm)]
  rw [z, rowU_self] at e
  simpa using e
theorem Adj.scale (A : Adj n F) {f : Mt} {k : Nat} (hk : k < n) (c : Int) (u : Nat → Int) : F (rowU f k fun j => c * u j) = c * F (rowU f k u) := by
  have e := A.lin f k hk c 0 u u
  simpa using e
end
theorem det_Adj (n : Nat) : Adj n (det n) := ⟨fun _ _ h => det_congr h, fun _ _ hk a b u v => det_lin hk a b u v, fun _ _ hk e => det_adj hk e⟩

/-! ### any such function is the corner, so many times -/
theorem pigeon : ∀ (m : Nat) (w : Nat → Nat), (∀ j, j < m + 1 → w j < m) → ∃ i j, i < j ∧ j < m + 1 ∧ w i = w j
  | 0, w, h => absurd (h 0 (by omega)) (Nat.not_lt_zero _)
  | m + 1, w, h => by
    by_cases hx : ∃ i, i < m + 1 ∧ w i = w (m + 1)
    · obtain ⟨i, hi, e⟩ := hx
      exact ⟨i, m + 1, hi, by omega, e⟩
    · obtain ⟨i, j, h1, h2, h3⟩ := pigeon m (fun j => dwn (w (m + 1)) (w j)) fun j hj => dwn_lt (fun z => hx ⟨j, hj, z⟩) (h j (by omega)) (h (m + 1) (by omega))
      refine ⟨i, j, h1, by omega, ?_⟩
      have a := skp_dwn (i := w (m + 1)) (k := w i) (fun z => hx ⟨i, by omega, z⟩)
      have b := skp_dwn (i := w (m + 1)) (k := w j) (fun z => hx ⟨j, h2, z⟩)
      rw [← a, ← b]
      exact congrArg _ h3
def idM : Mt := fun i j => if j = i then 1 else 0
/-- rows of the unit -/
def wrd (w : Nat → Nat) : Mt := fun i => idM (w i)
section
variable {n : Nat} {F : Mt → Int}
theorem uniq_word (A : Adj n F) : ∀ (m : Nat) (w : Nat → Nat), m ≤ n → (∀ j, j < m → w j < m) → (∀ j, m ≤ j → w j = j) → F (wrd w) = F idM * det n (wrd w)
  | 0, w, _, _, h => by
    have e : wrd w = idM := by
      funext i
      show idM (w i) = idM i
      rw [h i (by omega)]
    have d1 : ∀ n, det n idM = 1 := fun n => by
      induction n with
      | zero => rfl
      | succ n ih =>
        have key : ∀ i, i < n + 1 → sgn (i + n) * idM i n * (det n fun r => idM (skp i r)) = (if i = n then 1 else 0) * (sgn (i + n) * det n fun r => idM (skp i r)) := fun i _ => by
          unfold idM
          by_cases h : i = n
          · subst h; simp
          · have : ¬ n = i := fun z => h z.symm
            simp [h, this]
        unfold det
        rw [sg_congr key, sg_delta (k := n) (fun i => sgn (i + n) * det n fun r => idM (skp i r)) (by omega)]
        have : (det n fun r => idM (skp n r)) = det n idM := det_congr fun r hr j _ => by unfold skp; rw [if_pos hr]
        rw [this, ih, sgn_add, sgn_sq]
        rfl
    rw [e, d1, Int.mul_one]
  | m + 1, w, hm, h1, h2 => by
    by_cases hx : ∃ j, j < m + 1 ∧ w j = m
    · obtain ⟨j, hj, e⟩ := hx
      by_cases hjm : j = m
      · subst hjm
        by_cases hr : ∃ i, i < j ∧ w i = j
        · obtain ⟨i, hi, e2⟩ := hr
          have z : ∀ {G : Mt → Int}, Adj n G → G (wrd w) = 0 := fun B => B.zero (k := i) (l := j) (by omega) (by omega) (by omega) fun c _ => by
            show idM (w i) c = idM (w j) c
            rw [e, e2]
          rw [z A, z (det_Adj n), Int.mul_zero]
        · exact uniq_word A j w (by omega) (fun i hi => by have := h1 i (by omega); have : w i ≠ j := fun z => hr ⟨i, hi, z⟩; omega) fun i hi => by
            by_cases q : i = j
            · rw [q]; exact e
            · exact h2 i (by omega)
      · let w2 : Nat → Nat := fun i => if i = j then w m else if i = m then w j else w i
        have es : swp2 (wrd w) j m = wrd w2 := by
          funext i
          unfold swp2 rowU
          show (if i = m then idM (w j) else if i = j then idM (w m) else idM (w i)) = idM (if i = j then w m else if i = m then w j else w i)
          by_cases q : i = m
          · subst q
            rw [if_pos rfl, if_neg (fun z => hjm z.symm), if_pos rfl]
          · rw [if_neg q, if_neg q]
            split <;> rfl
        have e2m : w2 m = m := by
          show (if m = j then w m else if m = m then w j else w m) = m
          rw [if_neg (fun z => hjm z.symm), if_pos rfl, e]
        have lt2 : ∀ i, i < m + 1 → w2 i < m + 1 := fun i hi => by
          show (if i = j then w m else if i = m then w j else w i) < m + 1
          split
          · exact h1 m (by omega)
          · split
            · exact h1 j hj
            · exact h1 i hi
        have s1 := A.swap (f := wrd w) (k := j) (l := m) (by omega) (by omega) hjm
        have s2 := (det_Adj n).swap (f := wrd w) (k := j) (l := m) (by omega) (by omega) hjm
        rw [es] at s1 s2
        have goal : F (wrd w2) = F idM * det n (wrd w2) := by
          by_cases hr : ∃ i, i < m ∧ w2 i = m
          · obtain ⟨i, hi, e2⟩ := hr
            have z : ∀ {G : Mt → Int}, Adj n G → G (wrd w2) = 0 := fun B => B.zero (k := i) (l := m) (by omega) (by omega) (by omega) fun c _ => by
              show idM (w2 i) c = idM (w2 m) c
              rw [e2m, e2]
            rw [z A, z (det_Adj n), Int.mul_zero]
          · exact uniq_word A m w2 (by omega) (fun i hi => by have := lt2 i (by omega); have : w2 i ≠ m := fun z => hr ⟨i, hi, z⟩; omega) fun i hi => by
              by_cases q : i = m
              · rw [q]; exact e2m
              · show (if i = j then w m else if i = m then w j else w i) = i
                rw [if_neg (by omega), if_neg q]
                exact h2 i (by omega)
        rw [s1, s2] at goal
        grind
    · obtain ⟨i, j, a, b, c⟩ := pigeon m w fun j hj => by
        have := h1 j hj
        have : w j ≠ m := fun z => hx ⟨j, hj, z⟩
        omega
      have z : ∀ {G : Mt → Int}, Adj n G → G (wrd w) = 0 := fun B => B.zero (k := i) (l := j) (by omega) (by omega) (by omega) fun d _ => by
        show idM (w i) d = idM (w j) d
        rw [c]
      rw [z A, z (det_Adj n), Int.mul_zero]
/-- the rows from k on are rows of the unit -/
theorem Adj.sum (A : Adj n F) {f : Mt} {k : Nat} (hk : k < n) : ∀ (m : Nat) (a : Nat → Int) (e : Nat → Nat → Int), F (rowU f k fun j => sg m fun i => a i * e i j) = sg m fun i => a i * F (rowU f k (e i))
  | 0, a, e => by
    have := A.scale (f := f) hk 0 (fun _ => 0)
    simpa [sg] using this
  | m + 1, a, e => by
    have l := A.lin f k hk 1 (a m) (fun j => sg m fun i => a i * e i j) (e m)
    simp only [sg, Int.one_mul] at l ⊢
    rw [l, Adj.sum A hk m a e]
theorem uniq_from (A : Adj n F) : ∀ (k : Nat) (f : Mt), k ≤ n → (∀ i, k ≤ i → i < n → ∃ w, w < n ∧ ∀ j, j < n → f i j = idM w j) → F f = F idM * det n f
  | 0, f, _, h => by
    have : ∃ w : Nat → Nat, ∀ i, (i < n → w i < n ∧ ∀ j, j < n → f i j = idM (w i) j) ∧ (n ≤ i → w i = i) := by
      refine ⟨fun i => if hi : i < n then (h i (Nat.zero_le _) hi).choose else i, fun i => ⟨fun hi => ?_, fun hi => ?_⟩⟩
      · simp only [hi, dif_pos]
        exact (h i (Nat.zero_le _) hi).choose_spec
      · exact dif_neg (by omega)
    obtain ⟨w, hw⟩ := this
    have c1 : F f = F (wrd w) := A.cong _ _ fun i hi j hj => ((hw i).1 hi).2 j hj
    have c2 : det n f = det n (wrd w) := det_congr fun i hi j hj => ((hw i).1 hi).2 j hj
    rw [c1, c2]
    exact uniq_word A n w (Nat.le_refl _) (fun j hj => ((hw j).1 hj).1) fun j hj => (hw j).2 hj
  | k + 1, f, hk, h => by
    have row : ∀ {G : Mt → Int}, Adj n G → G f = sg n fun i => f k i * G (rowU f k (idM i)) := fun {G} B => by
      rw [← B.sum (by omega) n (f k) idM]
      refine B.cong _ _ fun i hi j hj => ?_
      by_cases q : i = k
      · subst q
        rw [rowU_same]
        have : (sg n fun m => f i m * idM m j) = sg n fun m => (if m = j then 1 else 0) * f i m := sg_congr fun m _ => by
          unfold idM
          by_cases z : m = j
          · subst z; simp
          · have : ¬ j = m := fun y => z y.symm
            simp [z, this]
        rw [this, sg_delta _ hj]
      · rw [rowU_ne q]
    rw [row A, row (det_Adj n), ← sg_mul]
    refine sg_congr fun i hi => ?_
    rw [uniq_from A k (rowU f k (idM i)) (by omega) fun r hr hrn => ?_]
    · grind
    · by_cases q : r = k
      · subst q
        exact ⟨i, hi, fun j _ => by rw [rowU_same]⟩
      · rw [rowU_ne q]
        exact h r (by omega) hrn
theorem uniq (A : Adj n F) (f : Mt) : F f = F idM * det n f := uniq_from A n f (Nat.le_refl _) fun i h1 h2 => absurd h2 (by omega)
end
theorem det_id (n : Nat) : det n idM = 1 := by
  induction n with
  | zero => rfl
  | succ n ih =>
    have key : ∀ i, i < n + 1 → sgn (i + n) * idM i n * (det n fun r => idM (skp i r)) = (if i = n then 1 else 0) * (sgn (i + n) * det n fun r => idM (skp i r)) := fun i _ => by
      unfold idM
      by_cases h : i = n
      · subst h; simp
      · have : ¬ n = i := fun z => h z.symm
        simp [h, this]
    unfold det
    rw [sg_congr key, sg_delta (k := n) (fun i => sgn (i + n) * det n fun r => idM (skp i r)) (by omega)]
    have : (det n fun r => idM (skp n r)) = det n idM := det_congr fun r hr j _ => by unfold skp; rw [if_pos hr]
    rw [this, ih, sgn_add, sgn_sq]
    rfl
end Px

/-! Pd2: corners turned over, of products; each step of leading without fractions. -/
namespace Px
open PySem

/-! ### turned over -/
def colU (f : Mt) (k : Nat) (v : Nat → Int) : Mt := fun i j => if j = k then v i else f i j
theorem col_lin : ∀ {n : Nat} {f : Mt} {k : Nat} (_ : k < n) (a b : Int) (u v : Nat → Int), det n (colU f k fun j => a * u j + b * v j) = a * det n (colU f k u) + b * det n (colU f k v)
  | 0, _, _, h, _, _, _, _ => absurd h (Nat.not_lt_zero _)
  | n + 1, f, k, h, a, b, u, v => by
    unfold det
    rw [← sg_mul, ← sg_mul, ← sg_add]
    refine sg_congr fun i hi => ?_
    by_cases e : k = n
    · subst e
      have m : ∀ w : Nat → Int, (det k fun r => colU f k w (skp i r)) = det k fun r => f (skp i r) := fun w => det_congr fun r _ c hc => if_neg (by omega)
      rw [m, m, m]
      simp only [colU, if_pos]
      generalize (det k fun r => f (skp i r)) = D
      generalize sgn (i + k) = s
      grind
    · have m : ∀ w : Nat → Int, (det n fun r => colU f k w (skp i r)) = det n (colU (fun r => f (skp i r)) k fun r => w (skp i r)) := fun w => rfl
      have e2 : ¬ n = k := fun z => e z.symm
      rw [m, m, m, col_lin (by omega)]
      simp only [colU, if_neg e2]
      generalize sgn (i + n) = s
      grind
theorem sg_skip : ∀ {N i : Nat} {h : Nat → Int}, i < N + 1 → sg (N + 1) (fun m => if m = i then 0 else h m) = sg N fun r => h (skp i r)
  | 0, i, h, hi => by
    have : i = 0 := by omega
    subst this
    rfl
  | N + 1, i, h, hi => by
    by_cases e : i = N + 1
    · subst e
      show sg (N + 1) (fun m => if m = N + 1 then 0 else h m) + (if N + 1 = N + 1 then 0 else h (N + 1)) = sg (N + 1) fun r => h (skp (N + 1) r)
      rw [if_pos rfl, Int.add_zero]
      have : sg (N + 1) (fun m => if m = N + 1 then 0 else h m) = sg (N + 1) fun r => h (skp (N + 1) r) := sg_congr fun r hr => by
        rw [if_neg (by omega)]
        unfold skp
        rw [if_pos hr]
      rw [this]
    · have ih := sg_skip (N := N) (i := i) (h := h) (by omega)
      show sg (N + 1) (fun m => if m = i then 0 else h m) + (if N + 1 = i then 0 else h (N + 1)) = sg N (fun r => h (skp i r)) + h (skp i N)
      rw [ih, if_neg (fun z => e z.symm)]
      congr 2
      unfold skp
      rw [if_neg (by omega)]
theorem sg_anti {n : Nat} {H : Nat → Nat → Int} (h : ∀ i, i < n → ∀ m, m < n → H i m = -H m i) : (sg n fun i => sg n fun m => H i m) = 0 := by
  have e : (sg n fun i => sg n fun m => H i m) = sg n fun i => sg n fun m => -1 * H m i := sg_congr fun i hi => sg_congr fun m hm => by rw [h i hi m hm]; omega
  have e2 : (sg n fun i => sg n fun m => -1 * H m i) = -1 * sg n fun i => sg n fun m => H m i := by
    rw [← sg_mul]
    exact sg_congr fun i _ => sg_mul n (-1) _
  have c := sg_comm n n fun i m => H m i
  rw [e2, c] at e
  omega
theorem skp_skp {i m s : Nat} (h : m < i) : skp i (skp m s) = skp m (skp (i - 1) s) := by
  unfold skp
  (repeat' split) <;> omega
theorem dwn_skp {i r : Nat} : dwn i (skp i r) = r := by
  unfold dwn skp
  by_cases h : r < i
  · rw [if_pos h, if_pos h]
  · rw [if_neg h, if_neg (by omega)]
    omega
theorem col_adj : ∀ {n : Nat} {f : Mt} {k : Nat} (_ : k + 1 < n), (∀ i, i < n → f i k = f i (k + 1)) → det n f = 0
  | 0, _, _, h, _ => absurd h (Nat.not_lt_zero _)
  | 1, _, _, h, _ => absurd h (by omega)
  | n + 2, f, k, h, e => by
    by_cases hk : k + 1 < n + 1
    · have : ∀ i, i < n + 2 → sgn (i + (n + 1)) * f i (n + 1) * (det (n + 1) fun r => f (skp i r)) = 0 := fun i hi => by
        rw [col_adj (n := n + 1) (k := k) hk fun r hr => e _ (skp_lt hr), Int.mul_zero]
      show sg (n + 2) _ = 0
      rw [sg_congr this, sg_zero]
    · have hk : k = n := by omega
      subst hk
      let g : Nat → Nat → Int := fun i r => sgn (i + (k + 1)) * f i (k + 1) * (sgn (r + k) * f (skp i r) k * det k fun s => f (skp i (skp r s)))
      let H : Nat → Nat → Int := fun i m => if m = i then 0 else g i (dwn i m)
      have e1 : det (k + 2) f = sg (k + 2) fun i => sg (k + 2) fun m => H i m := by
        show sg (k + 2) _ = _
        refine sg_congr fun i hi => ?_
        have q := sg_skip (N := k + 1) (i := i) (h := fun m => g i (dwn i m)) hi
        simp only [dwn_skp] at q
        show sgn (i + (k + 1)) * f i (k + 1) * sg (k + 1) _ = sg (k + 2) fun m => if m = i then 0 else g i (dwn i m)
        rw [q, ← sg_mul]
      rw [e1]
      have key : ∀ i m, m < i → i < k + 2 → g i (dwn i m) = -g m (dwn m i) := fun i m hm hi => by
        have d1 : dwn i m = m := by unfold dwn; rw [if_pos hm]
        have d2 : dwn m i = i - 1 := by unfold dwn; rw [if_neg (by omega)]
        have s1 : skp i m = m := by unfold skp; rw [if_pos hm]
        have s2 : skp m (i - 1) = i := by unfold skp; rw [if_neg (by omega)]; omega
        have D : (det k fun s => f (skp i (skp m s))) = det k fun s => f (skp m (skp (i - 1) s)) := by
          congr 1
          funext s
          rw [skp_skp hm]
        have g1 : sgn (i + (k + 1)) = sgn (i - 1 + k) := by rw [show i + (k + 1) = i - 1 + k + 2 by omega, sgn_two]
        have g2 : sgn (m + (k + 1)) = -sgn (m + k) := by rw [← Nat.add_assoc, sgn_succ]
        show sgn (i + (k + 1)) * f i (k + 1) * (sgn (dwn i m + k) * f (skp i (dwn i m)) k * det k fun s => f (skp i (skp (dwn i m) s))) = -(sgn (m + (k + 1)) * f m (k + 1) * (sgn (dwn m i + k) * f (skp m (dwn m i)) k * det k fun s => f (skp m (skp (dwn m i) s))))
        rw [d1, d2, s1, s2, D, g1, g2, ← e i hi, ← e m (by omega)]
        generalize (det k fun s => f (skp m (skp (i - 1) s))) = X
        grind
      refine sg_anti fun i hi m hm => ?_
      show (if m = i then 0 else g i (dwn i m)) = -(if i = m then 0 else g m (dwn m i))
      by_cases q : m = i
      · rw [if_pos q, if_pos q.symm]; rfl
      · rw [if_neg q, if_neg (fun z => q z.symm)]
        rcases Nat.lt_or_gt_of_ne q with z | z
        · exact key i m z hi
        · have := key m i z hm
          omega
def trM (f : Mt) : Mt := fun i j => f j i
theorem tr_Adj (n : Nat) : Adj n fun f => det n (trM f) := by
  have e : ∀ (f : Mt) (k : Nat) (u : Nat → Int), trM (rowU f k u) = colU (trM f) k u := fun f k u => by
    funext i j
    unfold trM rowU colU
    split <;> rfl
  refine ⟨fun f g h => det_congr fun i hi j hj => h j hj i hi, fun f k hk a b u v => ?_, fun f k hk h => col_adj hk h⟩
  simp only [e]
  exact col_lin hk a b u v
theorem det_tr (n : Nat) (f : Mt) : det n (trM f) = det n f := by
  have u := uniq (tr_Adj n) f
  have : trM idM = idM := by
    funext i j
    unfold trM idM
    by_cases h : i = j
    · subst h; rfl
    · rw [if_neg h, if_neg (fun z => h z.symm)]
  simp only [this, det_id, Int.one_mul] at u
  exact u
/-- two columns alike -/
theorem col_zero {n : Nat} {f : Mt} {k l : Nat} (hk : k < n) (hl : l < n) (h : k ≠ l) (e : ∀ i, i < n → f i k = f i l) : det n f = 0 := by
  rw [← det_tr]
  exact (det_Adj n).zero hk hl h e
/-! ### products -/
theorem mm_Adj (n : Nat) (B : Mt) : Adj n fun A => det n (mm n A B) := by
  refine ⟨fun f g h => det_congr fun i hi j hj => sg_congr fun k hk => by rw [h i hi k hk], fun f k hk a b u v => ?_, fun f k hk h => det_adj hk fun j hj => sg_congr fun m hm => by rw [h m hm]⟩
  have e : ∀ w : Nat → Int, mm n (rowU f k w) B = rowU (mm n f B) k (fun j => sg n fun m => w m * B m j) := fun w => by
    funext i j
    unfold mm rowU
    split <;> rfl
  have e2 : (fun j => sg n fun m => (a * u m + b * v m) * B m j) = fun j => a * (sg n fun m => u m * B m j) + b * sg n fun m => v m * B m j := by
    funext j
    rw [← sg_mul, ← sg_mul, ← sg_add]
    exact sg_congr fun m _ => by grind
  simp only [e, e2]
  exact det_lin hk a b _ _
theorem det_mm (n : Nat) (A B : Mt) : det n (mm n A B) = det n A * det n B := by
  have u := uniq (mm_Adj n B) A
  have : det n (mm n idM B) = det n B := det_congr fun i hi j hj => by
    show (sg n fun k => (if k = i then 1 else 0) * B k j) = _
    exact sg_delta (k := i) (fun k => B k j) hi
  simp only [this] at u
  rw [u, Int.mul_comm]
/-! ### rows put together -/
theorem Adj.comb {n : Nat} {F : Mt → Int} (A : Adj n F) {f : Mt} {k m : Nat} (hk : k < n) (hm : m ≤ k) (p : Int) (C : Nat → Int) : F (rowU f k fun j => p * f k j + sg m fun s => C s * f s j) = p * F f := by
  have l := A.lin f k hk p 1 (f k) fun j => sg m fun s => C s * f s j
  simp only [Int.one_mul] at l
  rw [l, rowU_self, A.sum hk m C f]
  have : (sg m fun i => C i * F (rowU f k (f i))) = 0 := by
    have z : ∀ i, i < m → C i * F (rowU f k (f i)) = 0 := fun i hi => by
      rw [A.zero (k := k) (l := i) hk (by omega) (by omega) fun j _ => by rw [rowU_same, rowU_ne (by omega)], Int.mul_zero]
    rw [sg_congr z, sg_zero]
  rw [this, Int.add_zero]
/-- the last two columns end in the last two rows alone -/
theorem det_block {n : Nat} {f : Mt} (h0 : ∀ i, i < n → f i n = 0) (h1 : ∀ i, i < n → f i (n + 1) = 0) : det (n + 2) f = det n f * (f n n * f (n + 1) (n + 1) - f n (n + 1) * f (n + 1) n) := by
  have one : ∀ g : Mt, (∀ i, i < n → g i n = 0) → det (n + 1) g = g n n * det n g := fun g h => by
    show sg n _ + sgn (n + n) * g n n * (det n fun r => g (skp n r)) = _
    have z : ∀ i, i < n → sgn (i + n) * g i n * (det n fun r => g (skp i r)) = 0 := fun i hi => by rw [h i hi]; simp
    rw [sg_congr z, sg_zero, Int.zero_add, sgn_add, sgn_sq]
    have : (det n fun r => g (skp n r)) = det n g := det_congr fun r hr j _ => by unfold skp; rw [if_pos hr]
    rw [this, Int.one_mul]
  show sg n _ + sgn (n + (n + 1)) * f n (n + 1) * (det (n + 1) fun r => f (skp n r)) + sgn (n + 1 + (n + 1)) * f (n + 1) (n + 1) * (det (n + 1) fun r => f (skp (n + 1) r)) = _
  have z : ∀ i, i < n → sgn (i + (n + 1)) * f i (n + 1) * (det (n + 1) fun r => f (skp i r)) = 0 := fun i hi => by rw [h1 i hi]; simp
  rw [sg_congr z, sg_zero, Int.zero_add]
  have a1 := one (fun r => f (skp n r)) fun i hi => by
    show f (skp n i) n = 0
    unfold skp
    rw [if_pos hi]
    exact h0 i hi
  have a2 := one (fun r => f (skp (n + 1) r)) fun i hi => by
    show f (skp (n + 1) i) n = 0
    unfold skp
    rw [if_pos (by omega)]
    exact h0 i hi
  have d1 : (det n fun r => f (skp n r)) = det n f := det_congr fun r hr j _ => by unfold skp; rw [if_pos hr]
  have d2 : (det n fun r => f (skp (n + 1) r)) = det n f := det_congr fun r hr j _ => by unfold skp; rw [if_pos (by omega)]
  have k1 : skp n n = n + 1 := by unfold skp; rw [if_neg (by omega)]
  have k2 : skp (n + 1) n = n := by unfold skp; rw [if_pos (by omega)]
  rw [a1, a2, d1, d2, k1, k2]
  have g1 : sgn (n + (n + 1)) = -1 := by rw [← Nat.add_assoc, sgn_succ, sgn_add, sgn_sq]
  have g2 : sgn (n + 1 + (n + 1)) = 1 := by rw [sgn_add, sgn_sq]
  rw [g1, g2]
  generalize det n f = D
  grind
/-! ### the first k rows and columns, and one more of each -/
def bord (k : Nat) (f : Mt) (i j : Nat) : Mt := fun r c => f (if r < k then r else i) (if c < k then c else j)
def Mn (k : Nat) (f : Mt) (i j : Nat) : Int := det (k + 1) (bord k f i j)
theorem Mn_zero (f : Mt) (i j : Nat) : Mn 0 f i j = f i j := by
  unfold Mn bord
  simp [det, sg, sgn]
def Cof (k : Nat) (g : Mt) (x s : Nat) : Int := sgn (s + k) * det k fun r c => g (if skp s r < k then skp s r else x) c
theorem Mn_row (k : Nat) (g : Mt) (x c : Nat) : Mn k g x c = det k g * g x c + sg k fun s => Cof k g x s * g s c := by
  show sg k _ + sgn (k + k) * bord k g x c k k * (det k fun r => bord k g x c (skp k r)) = _
  have e1 : sg k (fun s => sgn (s + k) * bord k g x c s k * det k fun r => bord k g x c (skp s r)) = sg k fun s => Cof k g x s * g s c := sg_congr fun s hs => by
    have a : bord k g x c s k = g s c := by
      unfold bord
      rw [if_pos hs, if_neg (by omega)]
    have b : (det k fun r => bord k g x c (skp s r)) = det k fun r c => g (if skp s r < k then skp s r else x) c := det_congr fun r _ j hj => by
      unfold bord
      rw [if_pos hj]
    rw [a, b]
    unfold Cof
    grind
  have a : bord k g x c k k = g x c := by
    unfold bord
    rw [if_neg (by omega), if_neg (by omega)]
  have b : (det k fun r => bord k g x c (skp k r)) = det k g := det_congr fun r hr j hj => by
    unfold bord skp
    rw [if_pos hr, if_pos hr, if_pos hj]
  rw [e1, a, b, sgn_add, sgn_sq]
  grind
theorem Mn_low {k : Nat} {g : Mt} {x c : Nat} (h : c < k) : Mn k g x c = 0 := by
  refine col_zero (k := c) (l := k) (by omega) (by omega) (by omega) fun i _ => ?_
  unfold bord
  rw [if_pos h, if_neg (Nat.lt_irrefl k)]
theorem Mn_last (k : Nat) (f : Mt) : Mn k f k k = det (k + 1) f := det_congr fun r hr c hc => by
  unfold bord
  have e : ∀ x, x < k + 1 → (if x < k then x else k) = x := fun x hx => by
    by_cases h : x < k
    · rw [if_pos h]
    · rw [if_neg h]; omega
  rw [e r hr, e c hc]
/-- a step of leading without fractions goes out -/
theorem step_out {k : Nat} {f : Mt} (hp : det k f ≠ 0) {i j : Nat} : Mn k f i j * Mn k f k k - Mn k f i k * Mn k f k j = det k f * Mn (k + 1) f i j := by
  let g := bord (k + 1) f i j
  have gl : ∀ r c, r < k → c < k → g r c = f r c := fun r c hr hc => by
    show f (if r < k + 1 then r else i) (if c < k + 1 then c else j) = _
    rw [if_pos (by omega), if_pos (by omega)]
  have dg : det k g = det k f := det_congr fun r hr c hc => gl r c hr hc
  have tr : ∀ (x y x' y' : Nat), (if x < k + 1 then x else i) = x' → (if y < k + 1 then y else j) = y' → Mn k g x y = Mn k f x' y' := fun x y x' y' hx hy => det_congr fun r _ c _ => by
    show f (if (if r < k then r else x) < k + 1 then (if r < k then r else x) else i) (if (if c < k then c else y) < k + 1 then (if c < k then c else y) else j) = f (if r < k then r else x') (if c < k then c else y')
    have a : (if (if r < k then r else x) < k + 1 then (if r < k then r else x) else i) = if r < k then r else x' := by
      by_cases h : r < k
      · rw [if_pos h, if_pos h, if_pos (by omega)]
      · rw [if_neg h, if_neg h, hx]
    have b : (if (if c < k then c else y) < k + 1 then (if c < k then c else y) else j) = if c < k then c else y' := by
      by_cases h : c < k
      · rw [if_pos h, if_pos h, if_pos (by omega)]
      · rw [if_neg h, if_neg h, hy]
    rw [a, b]
  let S := rowU (rowU g k (Mn k g k)) (k + 1) (Mn k g (k + 1))
  have A := det_Adj (k + 2)
  have e1 : det (k + 2) S = det k f * (det k f * det (k + 2) g) := by
    have w1 : Mn k g k = fun c => det k f * g k c + sg k fun s => Cof k g k s * g s c := by
      funext c
      rw [Mn_row, dg]
    have w2 : Mn k g (k + 1) = fun c => det k f * (rowU g k (Mn k g k)) (k + 1) c + sg k fun s => Cof k g (k + 1) s * (rowU g k (Mn k g k)) s c := by
      funext c
      rw [Mn_row, dg, rowU_ne (by omega)]
      congr 1
      exact sg_congr fun s hs => by rw [rowU_ne (by omega)]
    show det (k + 2) (rowU (rowU g k (Mn k g k)) (k + 1) (Mn k g (k + 1))) = _
    conv => lhs; rw [w2]
    rw [A.comb (by omega) (by omega)]
    conv => lhs; rw [w1]
    rw [A.comb (by omega) (by omega)]
  have low : ∀ c, c < k → S k c = 0 ∧ S (k + 1) c = 0 := fun c hc => by
    have a : S k = Mn k g k := by
      show rowU (rowU g k (Mn k g k)) (k + 1) (Mn k g (k + 1)) k = _
      rw [rowU_ne (by omega), rowU_same]
    have b : S (k + 1) = Mn k g (k + 1) := rowU_same
    rw [a, b]
    exact ⟨Mn_low hc, Mn_low hc⟩
  have e2 := det_block (n := k) (f := trM S) (fun c hc => (low c hc).1) fun c hc => (low c hc).2
  rw [det_tr] at e2
  have d2 : det k (trM S) = det k f := by
    rw [det_tr]
    refine det_congr fun r hr c hc => ?_
    show rowU (rowU g k (Mn k g k)) (k + 1) (Mn k g (k + 1)) r c = _
    rw [rowU_ne (by omega), rowU_ne (by omega)]
    exact gl r c hr hc
  have s1 : ∀ c, S k c = Mn k g k c := fun c => by
    show rowU (rowU g k (Mn k g k)) (k + 1) (Mn k g (k + 1)) k c = _
    rw [rowU_ne (by omega), rowU_same]
  have s2 : ∀ c, S (k + 1) c = Mn k g (k + 1) c := fun c => by
    show rowU (rowU g k (Mn k g k)) (k + 1) (Mn k g (k + 1)) (k + 1) c = _
    rw [rowU_same]
  rw [e1, d2] at e2
  simp only [trM, s1, s2] at e2
  have q : ¬ k + 1 < k + 1 := Nat.lt_irrefl _
  rw [tr k k k k (if_pos (by omega)) (if_pos (by omega)), tr (k + 1) (k + 1) i j (if_neg q) (if_neg q), tr k (k + 1) k j (if_pos (by omega)) (if_neg q), tr (k + 1) k i k (if_neg q) (if_pos (by omega))] at e2
  have e3 := Int.eq_of_mul_eq_mul_left hp e2
  have e4 : det (k + 2) g = Mn (k + 1) f i j := rfl
  rw [e4] at e3
  grind
/-- no row to lead with -/
theorem no_lead {n k : Nat} {f : Mt} (hk : k < n) (hp : det k f ≠ 0) (h : ∀ r, k ≤ r → r < n → Mn k f r k = 0) : det n f = 0 := by
  have t : ∀ r c, Mn k (trM f) r c = Mn k f c r := fun r c => by
    unfold Mn
    rw [← det_tr]
    rfl
  have A := det_Adj n
  have w : ∀ c, c < n → Mn k (trM f) k c = 0 := fun c hc => by
    by_cases q : c < k
    · exact Mn_low q
    · rw [t]; exact h c (by omega) hc
  have e := A.comb (f := trM f) (k := k) (m := k) hk (Nat.le_refl _) (det k (trM f)) (Cof k (trM f) k)
  have z : det n (rowU (trM f) k fun j => det k (trM f) * trM f k j + sg k fun s => Cof k (trM f) k s * trM f s j) = 0 := by
    have c := A.cong (rowU (trM f) k fun j => det k (trM f) * trM f k j + sg k fun s => Cof k (trM f) k s * trM f s j) (rowU (trM f) k fun j => 0 * f 0 0) fun i _ j hj => by
      by_cases q : i = k
      · subst q
        rw [rowU_same, rowU_same, ← Mn_row, w j hj, Int.zero_mul]
      · rw [rowU_ne q, rowU_ne q]
    rw [c, A.scale hk 0 (fun _ => f 0 0), Int.zero_mul]
  rw [z, det_tr, det_tr] at e
  rcases Int.mul_eq_zero.mp e.symm with q | q
  · exact absurd q hp
  · exact q
end Px

/-! Pm5: loops by place; lists of lists as tables. -/
namespace Px
open PySem

/-- how a turn of a loop goes on -/
def Goes (I : Env → List O → Prop) (Q : Fl × Env → List O → Prop) (fr : Fl × Env) (h : List O) : Prop := match fr with
  | (.nx, ρ) => I ρ h
  | (.ct, ρ) => I ρ h
  | (.bk, ρ) => Q (.nx, ρ) h
  | (.rt d, ρ) => Q (.rt d, ρ) h
  | (.ex x, ρ) => Q (.ex x, ρ) h
@[simp] theorem goes_nx {I : Env → List O → Prop} {Q : Fl × Env → List O → Prop} {ρ : Env} {h : List O} : Goes I Q (.nx, ρ) h = I ρ h := (Eq.refl _).trans rfl
@[simp] theorem goes_ct {I : Env → List O → Prop} {Q : Fl × Env → List O → Prop} {ρ : Env} {h : List O} : Goes I Q (.ct, ρ) h = I ρ h := (Eq.refl _).trans rfl
@[simp] theorem goes_bk {I : Env → List O → Prop} {Q : Fl × Env → List O → Prop} {ρ : Env} {h : List O} : Goes I Q (.bk, ρ) h = Q (.nx, ρ) h := (Eq.refl _).trans rfl
@[simp] theorem goes_rt {I : Env → List O → Prop} {Q : Fl × Env → List O → Prop} {ρ : Env} {h : List O} {d : D} : Goes I Q (.rt d, ρ) h = Q (.rt d, ρ) h := (Eq.refl _).trans rfl
/-- along a list, place by place -/
theorem ok_forE {is : List Nat} {tp : Bool} {body : Env → M (Fl × Env)} {Q : Fl × Env → List O → Prop} {xs : List PyData} {ρ : Env} {h : List O} (I : Nat → Env → List O → Prop) (start : I 0 ρ h)
    (step : ∀ j x ρ h, j < xs.length → xs[j]? = some x → I j ρ h → Ok (M.opt (bindG is tp x ρ) h) fun ρ1 h => Ok (body ρ1 h) (Goes (I (j + 1)) Q))
    (done : ∀ ρ h, I xs.length ρ h → Q (.nx, ρ) h) : Ok (loopF is tp body xs ρ h) Q := by
  refine ok_for (fun rest ρ h => ∃ j, j ≤ xs.length ∧ rest = xs.drop j ∧ I j ρ h) (fun x r ρ h ⟨j, hj, e, i⟩ => ?_) (fun ρ h ⟨j, hj, e, i⟩ => ?_) xs ρ h ⟨0, Nat.zero_le _, rfl, start⟩
  · have hl : j < xs.length := by
      have := congrArg List.length e
      simp at this
      omega
    rw [List.drop_eq_getElem_cons hl] at e
    obtain ⟨e1, e2⟩ := List.cons.inj e
    refine ok_mono (step j x ρ h hl (by rw [List.getElem?_eq_getElem hl, e1]) i) fun ρ1 h1 b => ok_mono b fun fr h2 q => ?_
    obtain ⟨f, ρ2⟩ := fr
    cases f with
    | nx => exact ⟨j + 1, hl, e2, q⟩
    | ct => exact ⟨j + 1, hl, e2, q⟩
    | bk => exact q
    | rt d => exact q
    | ex x => exact q
  · have : xs.length ≤ j := by
      have := congrArg List.length e
      simp at this
      omega
    obtain rfl : j = xs.length := by omega
    exact done ρ h i
/-- for i in range(a, a + n) -/
theorem ok_forN {i a n : Nat} {body : Env → M (Fl × Env)} {Q : Fl × Env → List O → Prop} {xs : List PyData} {ρ : Env} {h : List O} (e : xs = (List.range n).map fun j => .int ((a + j : Nat) : Int)) (I : Nat → Env → List O → Prop) (start : I 0 ρ h)
    (step : ∀ j ρ h, j < n → I j ρ h → Ok (body (ρ.set i (some (.p (.int ((a + j : Nat) : Int))))) h) (Goes (I (j + 1)) Q))
    (done : ∀ ρ h, I n ρ h → Q (.nx, ρ) h) : Ok (loopF [i] false body xs ρ h) Q := by
  have hl : xs.length = n := by rw [e]; simp
  refine ok_forE I start (fun j x ρ h hj hx q => ?_) (by rw [hl]; exact done)
  rw [hl] at hj
  rw [e] at hx
  simp [hj] at hx
  subst hx
  simp only [bindG, Bool.false_eq_true, if_false, opt_some, ok_ok1]
  have := step j ρ h hj q
  simpa using this
theorem range_two {a b : Nat} : rangeL (a : Int) (b : Int) = (List.range (b - a)).map fun j => .int ((a + j : Nat) : Int) := by
  unfold rangeL
  have : ((b : Int) - (a : Int)).toNat = b - a := by omega
  rw [this]
  exact List.map_congr_left fun j _ => by rw [Int.natCast_add]
theorem range_one {b : Nat} : rangeL 0 (b : Int) = (List.range b).map fun j => .int ((0 + j : Nat) : Int) := by
  have := range_two (a := 0) (b := b)
  simpa using this
/-- a comprehension along a list, place by place: what is made by place -/
theorem ok_compE {is : List Nat} {tp : Bool} {ρ : Env} {cond : Env → M Bool} {elt : Env → M PyData} {Q : List PyData → List O → Prop} {xs : List PyData} {h : List O} (I : Nat → List PyData → List O → Prop) (start : I 0 [] h)
    (step : ∀ j x acc h, j < xs.length → xs[j]? = some x → I j acc h → Ok (M.opt (bindG is tp x ρ) h) fun ρ1 h => Ok (cond ρ1 h) fun k h => if k then Ok (elt ρ1 h) fun y h => I (j + 1) (acc ++ [y]) h else I (j + 1) acc h)
    (done : ∀ acc h, I xs.length acc h → Q acc h) : Ok (compL is tp ρ cond elt xs h) Q := by
  refine ok_comp (fun rest acc h => ∃ j, j ≤ xs.length ∧ rest = xs.drop j ∧ I j acc h) (fun x r acc h ⟨j, hj, e, i⟩ => ?_) (fun acc h ⟨j, hj, e, i⟩ => ?_) xs h ⟨0, Nat.zero_le _, rfl, start⟩
  · have hl : j < xs.length := by
      have := congrArg List.length e
      simp at this
      omega
    rw [List.drop_eq_getElem_cons hl] at e
    obtain ⟨e1, e2⟩ := List.cons.inj e
    refine ok_mono (step j x acc h hl (by rw [List.getElem?_eq_getElem hl, e1]) i) fun ρ1 h1 b => ok_mono b fun k h2 q => ?_
    cases k with
    | true =>
      rw [if_pos rfl] at q ⊢
      exact ok_mono q fun y h3 z => ⟨j + 1, hl, e2, z⟩
    | false =>
      rw [if_neg Bool.false_ne_true] at q ⊢
      exact ⟨j + 1, hl, e2, q⟩
  · have : xs.length ≤ j := by
      have := congrArg List.length e
      simp at this
      omega
    obtain rfl : j = xs.length := by omega
    exact done acc h i
theorem ok_compNE {is : List Nat} {tp : Bool} {ρ : Env} {cond : Env → M Bool} {elt : Env → M (List PyData)} {Q : List D → List O → Prop} {xs : List PyData} {h : List O} (I : Nat → List D → List O → Prop) (start : I 0 [] h)
    (step : ∀ j x acc h, j < xs.length → xs[j]? = some x → I j acc h → Ok (M.opt (bindG is tp x ρ) h) fun ρ1 h => Ok (cond ρ1 h) fun k h => if k then Ok (elt ρ1 h) fun ys h => I (j + 1) (acc ++ [.r h.length]) (h ++ [.lst ys]) else I (j + 1) acc h)
    (done : ∀ acc h, I xs.length acc h → Q acc h) : Ok (compN is tp ρ cond elt xs h) Q := by
  refine ok_compN (fun rest acc h => ∃ j, j ≤ xs.length ∧ rest = xs.drop j ∧ I j acc h) (fun x r acc h ⟨j, hj, e, i⟩ => ?_) (fun acc h ⟨j, hj, e, i⟩ => ?_) xs h ⟨0, Nat.zero_le _, rfl, start⟩
  · have hl : j < xs.length := by
      have := congrArg List.length e
      simp at this
      omega
    rw [List.drop_eq_getElem_cons hl] at e
    obtain ⟨e1, e2⟩ := List.cons.inj e
    refine ok_mono (step j x acc h hl (by rw [List.getElem?_eq_getElem hl, e1]) i) fun ρ1 h1 b => ok_mono b fun k h2 q => ?_
    cases k with
    | true =>
      rw [if_pos rfl] at q ⊢
      exact ok_mono q fun y h3 z => ⟨j + 1, hl, e2, z⟩
    | false =>
      rw [if_neg Bool.false_ne_true] at q ⊢
      exact ⟨j + 1, hl, e2, q⟩
  · have : xs.length ≤ j := by
      have := congrArg List.length e
      simp at this
      omega
    obtain rfl : j = xs.length := by omega
    exact done acc h i

/-- one statement, then the rest -/
theorem ok_then {G : Pg} {F : Nat → List D → M (PyData × Bool)} {a b : S} {ρ : Env} {h : List O} {Q : Fl × Env → List O → Prop} (w : Ok (exec G F a ρ h) fun r h => match r with
    | (.nx, ρ) => Ok (exec G F b ρ h) Q
    | r => Q r h) : Ok (exec G F (.seq a b) ρ h) Q := by
  rw [ex_seq, ok_bnd]
  refine ok_mono w fun r h' q => ?_
  obtain ⟨f, ρ⟩ := r
  cases f with
  | nx => exact q
  | rt d => exact ok_of q
  | bk => exact ok_of q
  | ct => exact ok_of q
  | ex x => exact ok_of q
/-! ### a list of lists of numbers -/
def rowL (w : Nat) (v : Nat → Int) : List PyData := (List.range w).map fun j => .int (v j)
/-- at handle n a list of the lists at ks: the table f, N rows, W wide -/
structure Vw (h : List O) (n N W : Nat) (ks : Nat → Nat) (f : Mt) : Prop where
  top : h[n]? = some (.nst ((List.range N).map fun i => .r (ks i)))
  row : ∀ i, i < N → h[ks i]? = some (.lst (rowL W (f i)))
  inj : ∀ i j, i < N → j < N → ks i = ks j → i = j
def setM (f : Mt) (i j : Nat) (v : Int) : Mt := fun a b => if a = i ∧ b = j then v else f a b
theorem rowL_len {w : Nat} {v : Nat → Int} : (rowL w v).length = w := by simp [rowL]
theorem rowL_get {w j : Nat} {v : Nat → Int} (h : j < w) : (rowL w v)[j]? = some (.int (v j)) := by simp [rowL, h]
theorem rowL_set {w j : Nat} {v : Nat → Int} {x : Int} : (rowL w v).set j (.int x) = rowL w fun k => if k = j then x else v k := by
  refine List.ext_getElem? fun k => ?_
  by_cases hk : k < w
  · by_cases e : j = k
    · subst e
      rw [List.getElem?_set_self (by rw [rowL_len]; exact hk), rowL_get hk, if_pos rfl]
    · rw [List.getElem?_set_ne e, rowL_get hk, rowL_get hk, if_neg (fun z => e z.symm)]
  · rw [List.getElem?_eq_none (by rw [List.length_set, rowL_len]; omega), List.getElem?_eq_none (by rw [rowL_len]; omega)]
section
variable {h : List O} {n N W : Nat} {ks : Nat → Nat} {f : Mt}
theorem Vw.ne (V : Vw h n N W ks f) {i : Nat} (hi : i < N) : ks i ≠ n := fun e => by
  have := V.row i hi
  rw [e, V.top] at this
  cases this
theorem Vw.at (V : Vw h n N W ks f) {i : Nat} (hi : i < N) : ((List.range N).map fun i => D.r (ks i))[i]? = some (.r (ks i)) := by simp [hi]
theorem Vw.put (V : Vw h n N W ks f) {i j : Nat} {x : Int} (hi : i < N) : Vw (h.set (ks i) (.lst ((rowL W (f i)).set j (.int x)))) n N W ks (setM f i j x) := by
  refine ⟨by rw [List.getElem?_set_ne (V.ne hi)]; exact V.top, fun a ha => ?_, V.inj⟩
  by_cases e : i = a
  · subst e
    rw [List.getElem?_set_self (List.getElem?_eq_some_iff.mp (V.row i hi)).1, rowL_set]
    congr 2
    unfold rowL
    exact List.map_congr_left fun k _ => by simp [setM]
  · rw [List.getElem?_set_ne (fun z => e (V.inj _ _ hi ha z)), V.row a ha]
    congr 2
    unfold rowL
    refine List.map_congr_left fun k _ => ?_
    have : ¬ (a = i ∧ k = j) := fun z => e z.1.symm
    simp [setM, this]
theorem Vw.congr (V : Vw h n N W ks f) {g : Mt} (e : ∀ i, i < N → ∀ j, j < W → g i j = f i j) : Vw h n N W ks g := by
  refine ⟨V.top, fun i hi => ?_, V.inj⟩
  rw [V.row i hi]
  congr 2
  unfold rowL
  exact List.map_congr_left fun k hk => by rw [e i hi k (List.mem_range.mp hk)]
/-- places a and b exchanged -/
def swpK (ks : Nat → Nat) (a b : Nat) : Nat → Nat := fun i => if i = b then ks a else if i = a then ks b else ks i
theorem Vw.swap (V : Vw h n N W ks f) {a b : Nat} (ha : a < N) (hb : b < N) (hab : a ≠ b) :
    Vw (h.set n (.nst ((((List.range N).map fun i => D.r (ks i)).set a (.r (ks b))).set b (.r (ks a))))) n N W (swpK ks a b) (swp2 f a b) := by
  have hn := (List.getElem?_eq_some_iff.mp V.top).1
  refine ⟨?_, fun i hi => ?_, fun i j hi hj e => ?_⟩
  · rw [List.getElem?_set_self hn]
    congr 2
    refine List.ext_getElem? fun i => ?_
    by_cases hi : i < N
    · by_cases e1 : b = i
      · subst e1
        rw [List.getElem?_set_self (by simp [hb])]
        simp [hb, swpK]
      · rw [List.getElem?_set_ne e1]
        have e1' : ¬ i = b := fun z => e1 z.symm
        by_cases e2 : a = i
        · subst e2
          rw [List.getElem?_set_self (by simp [ha])]
          simp [ha, swpK, hab]
        · rw [List.getElem?_set_ne e2]
          have e2' : ¬ i = a := fun z => e2 z.symm
          simp [hi, swpK, e1', e2']
    · rw [List.getElem?_eq_none (by simp; omega), List.getElem?_eq_none (by simp; omega)]
  · have k : swpK ks a b i ≠ n := by
      unfold swpK
      split
      · exact V.ne ha
      · split
        · exact V.ne hb
        · exact V.ne hi
    rw [List.getElem?_set_ne (fun z => k z.symm)]
    unfold swpK swp2 rowU
    by_cases e1 : i = b
    · subst e1; rw [if_pos rfl, if_pos rfl]; exact V.row a ha
    · rw [if_neg e1, if_neg e1]
      by_cases e2 : i = a
      · subst e2; rw [if_pos rfl, if_pos rfl]; exact V.row b hb
      · rw [if_neg e2, if_neg e2]; exact V.row i hi
  · have q : ∀ i, swpK ks a b i = ks (if i = b then a else if i = a then b else i) := fun i => by
      unfold swpK
      split
      · rfl
      · split <;> rfl
    have lt : ∀ i, i < N → (if i = b then a else if i = a then b else i) < N := fun i hi => by
      split
      · exact ha
      · split
        · exact hb
        · exact hi
    rw [q, q] at e
    have := V.inj _ _ (lt i hi) (lt j hj) e
    split at this <;> split at this <;> (try split at this) <;> (try split at this) <;> omega
end
end Px

/-! Pq1: plain things of any kind, to a size: they may be shown and compared. -/
namespace Px
open PySem PySem.Builtin PySem.Builtin.Str
open TL (tl tl_append tl_ofString)

mutual
/-- numbers to B, short texts -/
def lfB (B : Nat) : PyData → Bool
  | .none => true
  | .bool _ => true
  | .int i => decide (i.natAbs ≤ B)
  | .str s => PyData.strOk s && decide (s.length ≤ 64)
  | .list xs => lfBs B xs
  | .tuple xs => lfBs B xs
  | .dict _ => false
def lfBs (B : Nat) : List PyData → Bool
  | [] => true
  | x :: r => lfB B x && lfBs B r
end
mutual
/-- how many things there are in it, itself, too -/
def tsz : PyData → Nat
  | .list xs => tszs xs + 1
  | .tuple xs => tszs xs + 1
  | .none => 1
  | .bool _ => 1
  | .int _ => 1
  | .str _ => 1
  | .dict _ => 1
def tszs : List PyData → Nat
  | [] => 0
  | x :: r => tsz x + tszs r
end
theorem lfBs_iff {B : Nat} {xs : List PyData} : lfBs B xs = true ↔ ∀ x ∈ xs, lfB B x = true := by
  induction xs with
  | nil => simp [lfBs]
  | cons x r ih => simp [lfBs, ih]
theorem tszs_app {xs ys : List PyData} : tszs (xs ++ ys) = tszs xs + tszs ys := by
  induction xs with
  | nil => simp [tszs]
  | cons x r ih => simp only [List.cons_append, tszs, ih]; omega
theorem tsz_pos (d : PyData) : 1 ≤ tsz d := by
  cases d <;> simp [tsz]
theorem len_tszs {xs : List PyData} : xs.length ≤ tszs xs := by
  induction xs with
  | nil => simp [tszs]
  | cons x r ih => have := tsz_pos x; simp only [List.length_cons, tszs]; omega
theorem tsz_mem {xs : List PyData} {x : PyData} (h : x ∈ xs) : tsz x ≤ tszs xs := by
  induction xs with
  | nil => cases h
  | cons y r ih =>
    simp only [tszs]
    rcases List.mem_cons.mp h with rfl | h
    · omega
    · have := ih h; omega
theorem tszs_split {xs : List PyData} (k : Nat) : tszs (xs.take k) + tszs (xs.drop k) = tszs xs := by
  rw [← tszs_app, List.take_append_drop]
theorem tszs_rev {xs : List PyData} : tszs xs.reverse = tszs xs := by
  induction xs with
  | nil => rfl
  | cons x r ih => simp only [List.reverse_cons, tszs_app, tszs, ih]; omega
theorem dep_mem {xs : List PyData} {x : PyData} (h : x ∈ xs) : PyData.depth x ≤ PyData.depthAll xs := by
  induction xs with
  | nil => cases h
  | cons y r ih =>
    simp only [PyData.depthAll]
    rcases List.mem_cons.mp h with rfl | h
    · exact Nat.le_max_left _ _
    · exact Nat.le_trans (ih h) (Nat.le_max_right _ _)
theorem dep_tup {xs : List PyData} {n : Nat} : PyData.depth (.tuple xs) ≤ n + 1 ↔ ∀ x ∈ xs, PyData.depth x ≤ n := by
  simp only [PyData.depth, Nat.add_le_add_iff_right]
  exact ⟨fun h x hx => Nat.le_trans (dep_mem hx) h, all_depth⟩
theorem dep_lst {xs : List PyData} {n : Nat} : PyData.depth (.list xs) ≤ n + 1 ↔ ∀ x ∈ xs, PyData.depth x ≤ n := by
  simp only [PyData.depth, Nat.add_le_add_iff_right]
  exact ⟨fun h x hx => Nat.le_trans (dep_mem hx) h, all_depth⟩
/-! texts shown -/
theorem rch_small {q c : Nat} (hq : q < 0x110000) (hc : c < 0x110000) : ∀ x ∈ reprChar q c, x < 0x110000 := by
  intro x hx
  unfold reprChar at hx
  have hexs : ∀ n, ∀ y ∈ (List.replicate (n - ((Nat.toDigits 16 c).map Char.toNat).length) 48 ++ (Nat.toDigits 16 c).map Char.toNat), y < 0x110000 := by
    intro n y hy
    rcases List.mem_append.mp hy with h | h
    · have := List.eq_of_mem_replicate h
      omega
    · obtain ⟨a, _, rfl⟩ := List.mem_map.mp h
      have := a.valid
      rcases this with q | ⟨_, q⟩
      · show a.val.toNat < _
        have : a.val.toNat < 0xD800 := q
        omega
      · exact q
  have h3 := hexs 2
  have h4 := hexs 4
  have h8 := hexs 8
  simp only at hx
  split at hx
  · simp at hx; omega
  split at hx
  · simp at hx; omega
  split at hx
  · simp at hx; omega
  split at hx
  · simp at hx; omega
  split at hx
  · simp at hx; omega
  split at hx
  · rcases List.mem_append.mp hx with h | h
    · simp at h; omega
    · exact h3 _ h
  split at hx
  · rcases List.mem_append.mp hx with h | h
    · simp at h; omega
    · exact h4 _ h
  · rcases List.mem_append.mp hx with h | h
    · simp at h; omega
    · exact h8 _ h
theorem fold_small {q : Nat} (hq : q < 0x110000) : ∀ (l : List Nat) (acc : Array Nat), (∀ c ∈ l, c < 0x110000) → (∀ x ∈ acc.toList, x < 0x110000) → ∀ x ∈ (l.foldl (fun out c => out ++ (reprChar q c).toArray) acc).toList, x < 0x110000
  | [], acc, _, h => h
  | c :: r, acc, hl, h => by
    refine fold_small hq r _ (fun c hc => hl c (List.mem_cons_of_mem _ hc)) fun x hx => ?_
    rw [Array.toList_append] at hx
    rcases List.mem_append.mp hx with z | z
    · exact h x z
    · exact rch_small hq (hl c List.mem_cons_self) x (by simpa using z)
theorem str_small {s : Str} (h : PyData.strOk s = true) : ∀ c ∈ s.cps.toList, c < 0x110000 := by
  unfold PyData.strOk at h
  rw [Array.all_eq_true_iff_forall_mem] at h
  intro c hc
  exact of_decide_eq_true (h c (Array.mem_toList_iff.mp hc))
theorem tx_repr {s : Str} (h : PyData.strOk s = true) (hl : s.length ≤ 64) : Tx 642 (reprText s) := by
  have hs := str_small h
  have hq : reprQuote s < 0x110000 := by unfold reprQuote; split <;> decide
  have e : tl (reprText s) = (s.cps.toList.foldl (fun out c => out ++ (reprChar (reprQuote s) c).toArray) #[reprQuote s]).toList ++ [reprQuote s] := by
    show ((s.cps.foldl (fun out c => out ++ (reprChar (reprQuote s) c).toArray) #[reprQuote s]).push (reprQuote s)).toList = _
    rw [Array.toList_push, ← Array.foldl_toList]
  refine ⟨?_, ?_⟩
  · rw [e, List.length_append]
    have h1 := StrLaws.foldl_repr_len (reprQuote s) s.cps.toList #[reprQuote s] (fun c hc => Nat.lt_of_lt_of_le (hs c hc) (by decide))
    have h2 : s.cps.toList.length ≤ 64 := by
      have : s.length = s.cps.toList.length := by show s.cps.size = _; simp
      omega
    have h3 : (#[reprQuote s] : Array Nat).size = 1 := rfl
    rw [Array.length_toList]
    simp only [List.length_cons, List.length_nil]
    omega
  · rw [e]
    intro c hc
    rcases List.mem_append.mp hc with z | z
    · refine fold_small hq _ _ hs (fun x hx => ?_) c z
      have : x = reprQuote s := by simpa using hx
      omega
    · have : c = reprQuote s := by simpa using z
      omega
/-- what is shown of it is short -/
def Sh (d : PyData) : Prop := ∃ L, Tx L d.shown ∧ L + 2 ≤ 710 * tsz d
theorem from_sum : ∀ (xs : List PyData) (k : Nat) (acc : Str) (a : Nat), (∀ x ∈ xs, Sh x) → Tx a acc → Tx (a + 710 * tszs xs) (textFrom k acc (PyData.shownAll xs))
  | [], k, acc, a, _, h => by simpa [textFrom, PyData.shownAll, tszs] using h
  | x :: r, k, acc, a, ht, h => by
    obtain ⟨L, h1, h2⟩ := ht x List.mem_cons_self
    have h3 : Tx (a + 2 + L) (acc ++ Str.ofString (if k > 0 then ", " else "") ++ x.shown) := by
      refine tx_app (tx_app h (tx_lit _ ?_)) h1
      split <;> decide
    have := from_sum r (k + 1) _ _ (fun u hu => ht u (List.mem_cons_of_mem _ hu)) h3
    refine tx_mono this ?_
    simp only [tszs]
    omega
theorem join_sum : ∀ (xs : List PyData), (∀ x ∈ xs, Sh x) → Tx (710 * tszs xs) (Str.join ", " (PyData.shownAll xs))
  | [], _ => ⟨Nat.zero_le _, fun c hc => by have : c ∈ ([] : List Nat) := hc; cases this⟩
  | [x], ht => by
    obtain ⟨L, h1, h2⟩ := ht x List.mem_cons_self
    show Tx _ x.shown
    exact tx_mono h1 (by simp only [tszs]; omega)
  | x :: y :: r, ht => by
    obtain ⟨L, h1, h2⟩ := ht x List.mem_cons_self
    show Tx _ (x.shown ++ Str.ofString ", " ++ Str.join ", " (PyData.shownAll (y :: r)))
    have h3 := tx_app (tx_app h1 (tx_lit ", " (n := 2) (by decide))) (join_sum (y :: r) fun v hv => ht v (List.mem_cons_of_mem _ hv))
    refine tx_mono h3 ?_
    simp only [tszs]
    omega
mutual
theorem lf_facts {B : Nat} (hB : B < 10 ^ 570) : ∀ (d : PyData), lfB B d = true → PyData.canLay0 d = true ∧ PyData.showable d = true ∧ Sh d
  | .none, _ => ⟨rfl, rfl, 5, tx_lit "None" (n := 5) (by decide), by decide⟩
  | .bool b, _ => ⟨rfl, rfl, 5, by
      cases b with
      | true => exact tx_lit "True" (n := 5) (by decide)
      | false => exact tx_lit "False" (n := 5) (by decide), by simp [tsz]⟩
  | .int i, h => by
    have h : i.natAbs < 10 ^ 570 := by simp only [lfB, decide_eq_true_eq] at h; omega
    obtain ⟨a, b, c, d⟩ := nc_facts (n := 0) (c := 570) (by decide) (by decide) (d := .int i) h
    exact ⟨a, c, _, d, by simp [tsz]⟩
  | .str s, h => by
    simp only [lfB, Bool.and_eq_true, decide_eq_true_eq] at h
    exact ⟨h.1, rfl, 642, tx_repr h.1 h.2, by simp [tsz]⟩
  | .list xs, h => by
    obtain ⟨a, b, c⟩ := lfs_facts hB xs h
    refine ⟨a, b, 710 * tszs xs + 2, ?_, by simp only [tsz]; omega⟩
    show Tx _ (textFrom 0 (Str.ofString "[") (PyData.shownAll xs) ++ Str.ofString "]")
    refine tx_mono (tx_app (from_sum _ 0 _ 1 c (tx_lit "[" (by decide))) (tx_lit "]" (n := 1) (by decide))) ?_
    omega
  | .tuple xs, h => by
    obtain ⟨a, b, c⟩ := lfs_facts hB xs h
    refine ⟨a, b, 710 * tszs xs + 3, ?_, by simp only [tsz]; omega⟩
    show Tx _ (Str.ofString "(" ++ Str.join ", " (PyData.shownAll xs) ++ Str.ofString (if (PyData.shownAll xs).length == 1 then ",)" else ")"))
    refine tx_mono (tx_app (tx_app (tx_lit "(" (n := 1) (by decide)) (join_sum _ c)) (tx_lit _ (n := 2) (by split <;> decide))) ?_
    omega
  | .dict kvs, h => by simp [lfB] at h
theorem lfs_facts {B : Nat} (hB : B < 10 ^ 570) : ∀ (xs : List PyData), lfBs B xs = true → PyData.canLayAll0 xs = true ∧ PyData.showableAll xs = true ∧ ∀ x ∈ xs, Sh x
  | [], _ => ⟨rfl, rfl, fun x hx => by cases hx⟩
  | x :: r, h => by
    simp only [lfBs, Bool.and_eq_true] at h
    obtain ⟨a1, a2, a3⟩ := lf_facts hB x h.1
    obtain ⟨b1, b2, b3⟩ := lfs_facts hB r h.2
    refine ⟨?_, ?_, fun y hy => ?_⟩
    · simp only [PyData.canLayAll0, a1, b1, Bool.and_self]
    · simp only [PyData.showableAll, a2, b2, Bool.and_self]
    · rcases List.mem_cons.mp hy with rfl | hy
      · exact a3
      · exact b3 y hy
end
/-- a plain thing: numbers to B, so many things in it, so deep -/
structure Th (B S n : Nat) (d : PyData) : Prop where
  lf : lfB B d = true
  sz : tsz d ≤ S
  dp : PyData.depth d ≤ n
mutual
theorem lf_mono {B C : Nat} (h : B ≤ C) : ∀ (d : PyData), lfB B d = true → lfB C d = true
  | .none, _ => rfl
  | .bool _, _ => rfl
  | .int i, q => by simp only [lfB, decide_eq_true_eq] at q ⊢; omega
  | .str s, q => q
  | .list xs, q => lfs_mono h xs q
  | .tuple xs, q => lfs_mono h xs q
  | .dict _, q => q
theorem lfs_mono {B C : Nat} (h : B ≤ C) : ∀ (xs : List PyData), lfBs B xs = true → lfBs C xs = true
  | [], _ => rfl
  | x :: r, q => by
    simp only [lfBs, Bool.and_eq_true] at q ⊢
    exact ⟨lf_mono h x q.1, lfs_mono h r q.2⟩
end
section
variable {B S n : Nat} {d : PyData}
theorem Th.mono {B' S' n' : Nat} (h : Th B S n d) (h1 : B ≤ B') (h2 : S ≤ S') (h3 : n ≤ n') : Th B' S' n' d := ⟨lf_mono h1 d h.lf, Nat.le_trans h.sz h2, Nat.le_trans h.dp h3⟩
theorem th_lay (h : Th B S n d) (hB : B < 10 ^ 570) : PyData.canLay0 d = true := (lf_facts hB d h.lf).1
theorem th_shp (h : Th B S n d) (hB : B < 10 ^ 570) (hn : n ≤ 64) : shp d = true := by
  unfold shp SeqAt.shaped
  rw [th_lay h hB, Bool.true_and]
  exact decide_eq_true (Nat.le_trans h.dp hn)
theorem th_tx (h : Th B S n d) (hB : B < 10 ^ 570) : Tx (710 * S) d.shown := by
  obtain ⟨_, _, L, h1, h2⟩ := lf_facts hB d h.lf
  have := h.sz
  exact tx_mono h1 (by have := Nat.mul_le_mul_left 710 this; omega)
theorem th_repr (h : Th B S n d) (hB : B < 10 ^ 570) (hn : n ≤ 60) (hS : S ≤ 20000) : bltD .repr [d] = some (.str d.shown) := by
  obtain ⟨a, b, L, f, hL⟩ := lf_facts hB d h.lf
  rw [blt_repr, if_pos]
  rw [b, PyData.hasDict_of_canLay d a, Bool.and_eq_true, Bool.and_eq_true, decide_eq_true_eq, decide_eq_true_eq]
  refine ⟨⟨rfl, Nat.le_trans h.dp (by omega)⟩, ?_⟩
  have : d.shown.length = (tl d.shown).length := by
    show d.shown.cps.size = d.shown.cps.toList.length
    simp
  rw [this]
  have := h.sz
  refine Nat.le_trans (Nat.le_trans f.1 (show L ≤ 14200000 by omega)) (by decide +kernel)
theorem th_shs (h : Th B S n d) (hB : B < 10 ^ 570) : shp (.str d.shown) = true := by
  obtain ⟨a, b, L, f, hL⟩ := lf_facts hB d h.lf
  have q : PyData.strOk d.shown = true := by
    unfold PyData.strOk
    rw [Array.all_eq_true_iff_forall_mem]
    intro x hx
    exact decide_eq_true (f.2 x (Array.mem_toList_iff.mpr hx))
  unfold shp SeqAt.shaped
  rw [Bool.and_eq_true]
  exact ⟨q, decide_eq_true (Nat.zero_le _)⟩
theorem th_int {i : Int} (h : i.natAbs ≤ B) (hS : 1 ≤ S) : Th B S n (.int i) := ⟨by simp [lfB, h], hS, Nat.zero_le _⟩
theorem th_bool {b : Bool} (hS : 1 ≤ S) : Th B S n (.bool b) := ⟨rfl, hS, Nat.zero_le _⟩
theorem th_none (hS : 1 ≤ S) : Th B S n .none := ⟨rfl, hS, Nat.zero_le _⟩
theorem th_tup {xs : List PyData} (h : ∀ x ∈ xs, lfB B x = true ∧ PyData.depth x ≤ n) (hS : tszs xs + 1 ≤ S) : Th B S (n + 1) (.tuple xs) := ⟨lfBs_iff.mpr fun x hx => (h x hx).1, hS, dep_tup.mpr fun x hx => (h x hx).2⟩
theorem th_lst {xs : List PyData} (h : ∀ x ∈ xs, lfB B x = true ∧ PyData.depth x ≤ n) (hS : tszs xs + 1 ≤ S) : Th B S (n + 1) (.list xs) := ⟨lfBs_iff.mpr fun x hx => (h x hx).1, hS, dep_lst.mpr fun x hx => (h x hx).2⟩
theorem Th.mem {xs : List PyData} {x : PyData} (h : Th B S (n + 1) (.tuple xs)) (hx : x ∈ xs) : Th B (S - 1) n x := by
  refine ⟨lfBs_iff.mp h.lf x hx, ?_, dep_tup.mp h.dp x hx⟩
  have h1 := h.sz
  have h2 := tsz_mem hx
  simp only [tsz] at h1
  omega
theorem Th.len {xs : List PyData} (h : Th B S n (.tuple xs)) : xs.length + 1 ≤ S := by
  have h1 := h.sz
  have h2 := len_tszs (xs := xs)
  simp only [tsz] at h1
  omega
end
end Px

/-! Pq2: what is a row, a table, a unit, of any plain thing: the program's look. -/
namespace Px
open PySem
variable {G : Pg} {F : Nat → List D → M (PyData × Bool)} {Q : PyData × Bool → List O → Prop}

def isWh : PyData → Bool
  | .int _ => true
  | _ => false
def isRowD (w : Int) : PyData → Bool
  | .tuple xs => decide ((xs.length : Int) = w) && xs.all isWh
  | _ => false
def isTabD : PyData → Bool
  | .tuple [.int w, .tuple rs] => decide (0 ≤ w) && rs.all (isRowD w)
  | _ => false
def wholeS : S :=
    (.seq (.ret (.and (.isi (.var 0) .int) (.not (.isi (.var 0) .bool)))) .skip)
def isRowS (w : Nat) : S :=
    (.seq (.ret (.and (.isi (.var 1) .tuple) (.and (.cmp .eq (.blt .len (.cons (.var 1) .nil)) (.var 0)) (.blt .all (.cons (.comp [2] [2] false (.var 1) .nil
    (.call w (.cons (.var 2) .nil))) .nil))))) .skip)
def isTableA (w : Nat) : S :=
    (.ife (.or (.not (.isi (.var 0) .tuple)) (.or (.cmp .ne (.blt .len (.cons (.var 0) .nil)) (.int 2)) (.or (.not (.call w (.cons (.ix (.var 0) (.int 0))
    .nil))) (.cmp .lt (.ix (.var 0) (.int 0)) (.int 0))))) (.seq (.ret (.bl false)) .skip) .skip)
def isTableS (w r : Nat) : S :=
    (.seq (isTableA w) (.seq (.ret (.and (.isi (.ix (.var 0) (.int 1)) .tuple) (.blt
    .all (.cons (.comp [1] [1] false (.ix (.var 0) (.int 1)) .nil (.call r (.cons (.ix (.var 0) (.int 0)) (.cons (.var 1) .nil)))) .nil)))) .skip))
def isSquareS : S :=
    (.seq (.ret (.cmp .eq (.blt .len (.cons (.ix (.var 0) (.int 1)) .nil)) (.ix (.var 0) (.int 0)))) .skip)
def isUnitS (t s u : Nat) : S :=
    (.seq (.ret (.and (.call t (.cons (.var 0) .nil)) (.and (.call s (.cons (.var 0) .nil)) (.cmp .eq (.var 0) (.call u (.cons (.ix (.var 0) (.int 0)) .nil))))))
    .skip)
theorem is_whole_ok {d : PyData} (q : Q (.bool (isWh d), false) []) : Ok (runFn G F ⟨1, 1, wholeS⟩ [.p d] []) Q := by
  cases d <;> (simp [runFn, wholeS, isiD]; exact q)
theorem bools_map {xs : List PyData} {g : PyData → Bool} : boolsOf (xs.map fun x => .bool (g x)) = some (xs.map g) := by
  induction xs with
  | nil => rfl
  | cons x r ih => simp [boolsOf, ih]
theorem all_map {xs : List PyData} {g : PyData → Bool} : bltD .all [.list (xs.map fun x => .bool (g x))] = some (.bool (xs.all g)) := by
  show (boolsOf _).map _ = _
  rw [bools_map]
  simp [List.all_map, Function.comp_def]
theorem is_row_ok {w : Nat} {n : Int} {d : PyData} (hd : ∀ xs, d = .tuple xs → xs.length ≤ 1000000) (g : ∀ x, Gives F w [x] (.bool (isWh x))) (q : Q (.bool (isRowD n d), false) []) : Ok (runFn G F ⟨2, 3, isRowS w⟩ [.p (.int n), .p d] []) Q := by
  cases d with
  | tuple xs =>
    have hl := hd xs rfl
    simp [runFn, isRowS, isiD]
    refine ok_ite (fun h => ?_) (fun h => ?_)
    · rw [szM_ok hl, ok_bnd]
      refine ok_map (fun x => .bool (isWh x)) (fun x hx => ?_) ?_
      · simp [bindG]
        exact gives_call1 (g x) fun b => by simp
      · simp [bools_map]
        simpa [isRowD, h, List.all_map, Function.comp_def] using q
    · have hb : ((xs.length : Int) == n) = false := by simpa using h
      simp [hb]
      simpa [isRowD, h] using q
  | _ => simp [runFn, isRowS, isiD]; exact q
theorem is_table_ok {w r : Nat} {d : PyData} (hd : ∀ a rs, d = .tuple [a, .tuple rs] → rs.length ≤ 1000000) (gw : ∀ x, Gives F w [x] (.bool (isWh x)))
    (gr : ∀ (n : Int) (a : PyData) (rs : List PyData) (x : PyData), d = .tuple [a, .tuple rs] → x ∈ rs → Gives F r [.int n, x] (.bool (isRowD n x))) (q : Q (.bool (isTabD d), false) []) : Ok (runFn G F ⟨1, 2, isTableS w r⟩ [.p d] []) Q := by
  have no : isTabD d = false → Q (.bool false, false) [] := fun h => by rw [h] at q; exact q
  cases d with
  | tuple xs =>
    match xs, hd, gr, q, no with
    | [], _, _, _, no => simp [runFn, isTableS, isTableA, isiD]; exact no rfl
    | [a], _, _, _, no => simp [runFn, isTableS, isTableA, isiD]; exact no (by cases a <;> rfl)
    | a :: b :: c :: l, _, _, _, no =>
      have e : (((a :: b :: c :: l).length : Int) == 2) = false := by simp; omega
      simp [runFn, isTableS, isTableA, isiD, e]
      have e2 : ¬ (l.length : Int) + 1 + 1 + 1 = 2 := by omega
      simp [e2]
      exact no (by cases a <;> cases b <;> rfl)
    | [a, b], hd, gr, q, no =>
      simp [runFn, isTableS, isTableA, isiD]
      refine gives_call1 (gw a) fun _ => ?_
      cases a with
      | int i =>
        by_cases hi : i < 0
        · have hi2 : ¬ 0 ≤ i := by omega
          simp [isWh, hi]
          refine no ?_
          cases b <;> simp [isTabD, hi2]
        · have hi2 : 0 ≤ i := by omega
          cases b with
          | tuple rs =>
            simp [isWh, hi, isiD, hd _ rs rfl]
            refine ok_map (fun x => .bool (isRowD i x)) (fun x hx => ?_) ?_
            · simp [bindG]
              exact gives_call2 (gr i _ rs x rfl hx) fun b => by simp
            · simp [bools_map]
              simpa [isTabD, hi2, List.all_map, Function.comp_def] using q
          | _ => simp [isWh, hi, isiD]; exact no rfl
      | _ => simp [isWh]; exact no (by cases b <;> rfl)
  | _ => simp [runFn, isTableS, isTableA, isiD]; exact no rfl
end Px

/-! Pm8: deeds on rows. -/
namespace Px
open PySem
variable {G : Pg} {F : Nat → List D → M (PyData × Bool)} {Q : PyData × Bool → List O → Prop}
inductive Deed where
  | turn (i : Nat)
  | swap (i j : Nat)
  | add (i j : Nat) (c : Int)
def dD : Deed → PyData
  | .turn i => .tuple [.str (Str.ofString "turn"), .int i]
  | .swap i j => .tuple [.str (Str.ofString "swap"), .int i, .int j]
  | .add i j c => .tuple [.str (Str.ofString "add"), .int i, .int j, .int c]
def Deed.ok (n : Nat) : Deed → Prop
  | .turn i => i < n
  | .swap i j => i < n ∧ j < n ∧ i ≠ j
  | .add i j _ => i < n ∧ j < n ∧ i ≠ j
def Deed.lim (C : Nat) : Deed → Prop
  | .add _ _ c => c.natAbs ≤ C
  | _ => True
def act : Deed → Mt → Mt
  | .turn i, f => rowU f i fun k => -f i k
  | .swap i j, f => swp2 f i j
  | .add i j c, f => rowU f i fun k => f i k + c * f j k
def acts (ds : List Deed) (f : Mt) : Mt := ds.foldl (fun f d => act d f) f
theorem act_bound {n w B C : Nat} {d : Deed} {f : Mt} (hd : d.ok n) (hl : d.lim C) (bf : Bm n w B f) : Bm n w (B * (C + 1)) (act d f) := by
  have le : B ≤ B * (C + 1) := Nat.le_mul_of_pos_right _ (by omega)
  intro i hi j hj
  cases d with
  | turn a =>
    show (rowU f a (fun k => -f a k) i j).natAbs ≤ _
    unfold rowU
    have hd : a < n := hd
    split
    · rw [Int.natAbs_neg]; exact Nat.le_trans (bf a hd j hj) le
    · exact Nat.le_trans (bf i hi j hj) le
  | swap a b =>
    obtain ⟨h1, h2, _⟩ := hd
    show (swp2 f a b i j).natAbs ≤ _
    unfold swp2 rowU
    split
    · exact Nat.le_trans (bf a h1 j hj) le
    · split
      · exact Nat.le_trans (bf b h2 j hj) le
      · exact Nat.le_trans (bf i hi j hj) le
  | add a b c =>
    obtain ⟨h1, h2, _⟩ := hd
    show (rowU f a (fun k => f a k + c * f b k) i j).natAbs ≤ _
    unfold rowU
    split
    · have t := Int.natAbs_add_le (f a j) (c * f b j)
      have u := Int.natAbs_mul c (f b j)
      have v := Nat.mul_le_mul hl (bf b h2 j hj)
      have x := bf a h1 j hj
      have y : B * (C + 1) = C * B + B := by rw [Nat.mul_add, Nat.mul_comm B C, Nat.mul_one]
      dsimp only
      omega
    · exact Nat.le_trans (bf i hi j hj) le
theorem acts_bound {n w C : Nat} : ∀ {ds : List Deed} {B : Nat} {f : Mt}, (∀ d ∈ ds, d.ok n ∧ d.lim C) → Bm n w B f → Bm n w (B * (C + 1) ^ ds.length) (acts ds f)
  | [], B, f, _, bf => by simpa [acts] using bf
  | d :: ds, B, f, h, bf => by
    have h1 := h d (by simp)
    have := acts_bound (ds := ds) (fun e he => h e (by simp [he])) (act_bound h1.1 h1.2 bf)
    show Bm n w (B * (C + 1) ^ (ds.length + 1)) (acts ds (act d f))
    rw [Nat.pow_succ, Nat.mul_comm ((C + 1) ^ ds.length), ← Nat.mul_assoc]
    exact this
/-! ### the program's look at deeds -/
def isWholeS : S :=
    (.seq (.ret (.and (.isi (.var 0) .int) (.not (.isi (.var 0) .bool)))) .skip)
def isPlaceS (w : Nat) : S :=
    (.seq (.ret (.and (.call w (.cons (.var 1) .nil)) (.chn .le .lt (.int 0) (.var 1) (.var 0)))) .skip)
def isDeedS (w p : Nat) : S :=
    (.seq (.ife (.or (.not (.isi (.var 1) .tuple)) (.or (.cmp .lt (.blt .len (.cons (.var 1) .nil)) (.int 2)) (.not (.isi (.ix (.var 1) (.int 0)) .str)))) (.seq
    (.ret (.bl false)) .skip) .skip) (.seq (.ife (.or (.cmp .ne (.gget 0 (.ix (.var 1) (.int 0)) (.int 0)) (.blt .len (.cons (.var 1) .nil))) (.not (.call p
    (.cons (.var 0) (.cons (.ix (.var 1) (.int 1)) .nil))))) (.seq (.ret (.bl false)) .skip) .skip) (.seq (.ife (.cmp .eq (.ix (.var 1) (.int 0)) (.str
    (Str.ofString "turn"))) (.seq (.ret (.bl true)) .skip) .skip) (.seq (.ife (.or (.not (.call p (.cons (.var 0) (.cons (.ix (.var 1) (.int 2)) .nil)))) (.cmp
    .eq (.ix (.var 1) (.int 1)) (.ix (.var 1) (.int 2)))) (.seq (.ret (.bl false)) .skip) .skip) (.seq (.ret (.or (.cmp .eq (.ix (.var 1) (.int 0)) (.str
    (Str.ofString "swap"))) (.call w (.cons (.ix (.var 1) (.int 3)) .nil)))) .skip)))))
def lookAtS (d : Nat) : S :=
    (.seq (.ife (.not (.isi (.var 1) .tuple)) (.seq .bad .skip) .skip) (.seq (.for_ [2, 3] true (.enm (.cons (.var 1) .nil)) (.seq (.ife (.not (.call d (.cons
    (.var 0) (.cons (.var 3) .nil)))) (.seq .bad .skip) .skip) .skip)) .skip))
def lens : List (Str × Option PyData) := [("swap", some (.int 3)), ("turn", some (.int 2)), ("add", some (.int 4))]
theorem whole_ok {i : Int} (q : ∀ b, Q (.bool true, b) []) : Ok (runFn G F ⟨1, 1, isWholeS⟩ [.p (.int i)] []) Q := by
  simp [runFn, isWholeS, isiD]
  exact q _
theorem place_ok {w n i : Nat} (g : ∀ i : Int, Gives F w [.int i] (.bool true)) (h : i < n) (q : ∀ b, Q (.bool true, b) []) : Ok (runFn G F ⟨2, 2, isPlaceS w⟩ [.p (.int n), .p (.int i)] []) Q := by
  simp [runFn, isPlaceS]
  refine gives_call1 (g _) fun b => ?_
  simp [h]
  exact q _
def sTurn : Str := Str.ofString "turn"
def sSwap : Str := Str.ofString "swap"
def sAdd : Str := Str.ofString "add"
theorem lens_turn {d : PyData} : Px.getD lens (Str.ofString "turn") d = some (.int 2) := rfl
theorem lens_swap {d : PyData} : Px.getD lens (Str.ofString "swap") d = some (.int 3) := rfl
theorem lens_add {d : PyData} : Px.getD lens (Str.ofString "add") d = some (.int 4) := rfl
@[simp] theorem e_tt : PyData.eqv (.str (Str.ofString "turn")) (.str (Str.ofString "turn")) = true := by decide +kernel
@[simp] theorem e_st : PyData.eqv (.str (Str.ofString "swap")) (.str (Str.ofString "turn")) = false := by decide +kernel
@[simp] theorem e_at : PyData.eqv (.str (Str.ofString "add")) (.str (Str.ofString "turn")) = false := by decide +kernel
@[simp] theorem e_ss : PyData.eqv (.str (Str.ofString "swap")) (.str (Str.ofString "swap")) = true := by decide +kernel
@[simp] theorem e_ts : PyData.eqv (.str (Str.ofString "turn")) (.str (Str.ofString "swap")) = false := by decide +kernel
@[simp] theorem e_as : PyData.eqv (.str (Str.ofString "add")) (.str (Str.ofString "swap")) = false := by decide +kernel
@[simp] theorem e_aa : PyData.eqv (.str (Str.ofString "add")) (.str (Str.ofString "add")) = true := by decide +kernel
@[simp] theorem e_ta : PyData.eqv (.str (Str.ofString "turn")) (.str (Str.ofString "add")) = false := by decide +kernel
@[simp] theorem e_sa : PyData.eqv (.str (Str.ofString "swap")) (.str (Str.ofString "add")) = false := by decide +kernel
@[simp] theorem sh_t : shp (.str (Str.ofString "turn")) = true := by decide +kernel
@[simp] theorem sh_s : shp (.str (Str.ofString "swap")) = true := by decide +kernel
@[simp] theorem sh_a : shp (.str (Str.ofString "add")) = true := by decide +kernel
@[simp] theorem q_turn_swap : (Str.ofString "turn" = Str.ofString "swap") = False := eq_false (by decide +kernel)
@[simp] theorem q_turn_add : (Str.ofString "turn" = Str.ofString "add") = False := eq_false (by decide +kernel)
@[simp] theorem q_swap_turn : (Str.ofString "swap" = Str.ofString "turn") = False := eq_false (by decide +kernel)
@[simp] theorem q_swap_add : (Str.ofString "swap" = Str.ofString "add") = False := eq_false (by decide +kernel)
@[simp] theorem q_add_turn : (Str.ofString "add" = Str.ofString "turn") = False := eq_false (by decide +kernel)
@[simp] theorem q_add_swap : (Str.ofString "add" = Str.ofString "swap") = False := eq_false (by decide +kernel)
/-- a deed for so many rows -/
theorem deed_ok {w p n : Nat} {d : Deed} (hG : G.ds[0]? = some lens) (gw : ∀ i : Int, Gives F w [.int i] (.bool true)) (gp : ∀ i, i < n → Gives F p [.int n, .int i] (.bool true)) (hd : d.ok n) (q : ∀ b, Q (.bool true, b) []) :
    Ok (runFn G F ⟨2, 2, isDeedS w p⟩ [.p (.int n), .p (dD d)] []) Q := by
  cases d with
  | turn i =>
    simp [runFn, isDeedS, dD, isiD, hG, lens_turn, shp_int, e_tt, sh_t]
    refine gives_call2 (gp i hd) fun b => ?_
    simp
    exact q _
  | swap i j =>
    obtain ⟨h1, h2, h3⟩ := hd
    have h3' : ¬ ((i : Int) = j) := by omega
    simp [runFn, isDeedS, dD, isiD, hG, lens_swap, shp_int, e_st, sh_s, sh_t]
    refine gives_call2 (gp i h1) fun b => ?_
    simp
    refine gives_call2 (gp j h2) fun b => ?_
    simp [shp_int, h3', h3, e_ss, sh_s]
    exact q _
  | add i j c =>
    obtain ⟨h1, h2, h3⟩ := hd
    have h3' : ¬ ((i : Int) = j) := by omega
    simp [runFn, isDeedS, dD, isiD, hG, lens_add, shp_int, e_at, sh_a, sh_t]
    refine gives_call2 (gp i h1) fun b => ?_
    simp
    refine gives_call2 (gp j h2) fun b => ?_
    simp [shp_int, h3', h3, e_as, sh_s, sh_a]
    refine gives_call1 (gw c) fun b => ?_
    simp
    exact q _
theorem look_ok {d n : Nat} {ds : List Deed} (g : ∀ e : Deed, e.ok n → Gives F d [.int n, dD e] (.bool true)) (hd : ∀ e ∈ ds, e.ok n) (q : ∀ b, Q (.none, b) []) :
    Ok (runFn G F ⟨2, 4, lookAtS d⟩ [.p (.int n), .p (.tuple (ds.map dD))] []) Q := by
  refine ok_run rfl ?_
  simp [lookAtS, isiD]
  have len : (enumD (ds.map dD)).length = ds.length := by simp [enumD]
  refine ok_forE (fun j ρ h => h = [] ∧ ∃ x2 x3, ρ = [some (.p (.int n)), some (.p (.tuple (ds.map dD))), x2, x3]) ⟨rfl, _, _, rfl⟩ (fun j x ρ h hj hx I => ?_) (fun ρ h I => ?_)
  · obtain ⟨rfl, x2, x3, rfl⟩ := I
    rw [len] at hj
    have hx : x = .tuple [.int (j : Nat), dD ds[j]] := by
      obtain ⟨y, e1, e2⟩ : ∃ y, (ds.map dD)[j]? = some y ∧ x = .tuple [.int (j : Nat), y] := by
        unfold enumD at hx
        rw [List.getElem?_map, List.getElem?_zipIdx] at hx
        cases e : (ds.map dD)[j]? with
        | none => rw [e] at hx; cases hx
        | some y =>
          rw [e] at hx
          simp at hx
          exact ⟨y, rfl, hx.symm⟩
      rw [List.getElem?_map, List.getElem?_eq_getElem hj] at e1
      cases e1
      exact e2
    subst hx
    simp only [bindG, if_true, bindAll, opt_some, ok_ok1, List.set_cons_succ, List.set_cons_zero]
    simp
    refine gives_call2 (g _ (hd _ (List.getElem_mem hj))) fun b => ?_
    simp
  · obtain ⟨rfl, x2, x3, rfl⟩ := I
    simp
    exact q _

/-! ### a deed done -/
theorem rows_set {n w a : Nat} {f : Mt} {v : Nat → Int} : (rowsF n w f).set a (rowF w v) = rowsF n w (rowU f a v) := by
  refine List.ext_getElem? fun k => ?_
  by_cases hk : k < n
  · by_cases e : a = k
    · subst e
      rw [List.getElem?_set_self (by simp [rowsF]; exact hk)]
      simp [rowsF, hk]
    · rw [List.getElem?_set_ne e]
      simp [rowsF, hk, rowU_ne (fun z => e z.symm)]
  · rw [List.getElem?_eq_none (by simp [rowsF]; omega), List.getElem?_eq_none (by simp [rowsF]; omega)]
theorem rows_at {n w i : Nat} {f : Mt} (h : i < n) : L2.atI (rowsF n w f) (i : Int) = some (rowF w (f i)) := by rw [atI_nat]; simp [rowsF, h]
theorem rows_ix {n w i : Nat} {f : Mt} (h : i < n) : ixD (.list (rowsF n w f)) (.int i) = some (rowF w (f i)) := rows_at h
theorem rows_ixN {n w i : Nat} {f : Mt} (h : i < n) : L2.ixN (rowsF n w f).length (i : Int) = some i := by rw [ixN_nat, rows_len, if_pos h]
def rbAdd : S := .seq (.ixs (.var 2) (.var 3) (.blt .tuple (.cons (.comp [4, 5] [4, 5] true (.zip (.cons (.ix (.var 0) (.var 3)) (.cons (.ix
    (.var 0) (.ix (.var 1) (.int 2))) .nil))) .nil (.bin .add (.var 4) (.bin .mul (.ix (.var 1) (.int 3)) (.var 5)))) .nil))) .skip
def rbTurn : S := .seq (.ixs
    (.var 2) (.var 3) (.blt .tuple (.cons (.comp [4] [4] false (.ix (.var 0) (.var 3)) .nil (.neg (.var 4))) .nil))) .skip
def rbSwap : S := .seq (.ixs (.var 2) (.var 3) (.ix (.var 0) (.ix (.var 1) (.int 2)))) (.seq (.ixs (.var 2) (.ix (.var 1) (.int 2))
    (.ix (.var 0) (.var 3))) .skip)
def behindS : S :=
    (.seq (.new 2 (.lof (.var 0))) (.seq (.set 3 (.ix (.var 1) (.int 1))) (.seq (.ife (.cmp .eq (.ix (.var 1) (.int 0)) (.str (Str.ofString "turn"))) rbTurn (.seq (.ife (.cmp .eq (.ix (.var 1)
    (.int 0)) (.str (Str.ofString "swap"))) rbSwap rbAdd) .skip)) (.seq (.ret (.var
    2)) .skip))))
theorem rowF_tup {w : Nat} {v : Nat → Int} : PyData.tuple ((List.range w).map fun j => .int (v j)) = rowF w v := rfl
theorem behind_ok {n w : Nat} {f : Mt} {d : Deed} (hn : n ≤ 1000) (hw : w ≤ 1000) (hd : d.ok n) (o1 : ∀ i, i < n → ∀ j, j < w → okBits (f i j) = true) (o2 : ∀ i j c, d = .add i j c → okBits c = true) (q : Q (.list (rowsF n w (act d f)), true) []) :
    Ok (runFn G F ⟨2, 6, behindS⟩ [.p (.list (rowsF n w f)), .p (dD d)] []) Q := by
  have w6 : w ≤ 1000000 := by omega
  refine ok_run rfl ?_
  cases d with
  | turn i =>
    have hd : i < n := hd
    have ix := rows_ix (w := w) (f := f) hd
    have at_ := rows_at (w := w) (f := f) hd
    have iN := rows_ixN (w := w) (f := f) hd
    have iN2 : L2.ixN n (i : Int) = some i := by rw [ixN_nat, if_pos hd]
    simp [behindS, dD, rbTurn, at_]
    simp only [rowF, seqOf_tuple, opt_some, ok_ok1, List.length_map, List.length_range, szM_ok w6]
    refine ok_map (fun x => match x with | .int j => .int (-j) | x => x) (fun x hx => ?_) ?_
    · obtain ⟨j, hj, rfl⟩ := List.mem_map.mp hx
      simp [bindG]
    · rw [List.map_map]
      simp [iN2]
      have e : PyData.tuple (List.map ((fun x => match x with | .int j => PyData.int (-j) | x => x) ∘ fun j => PyData.int (f i j)) (List.range w)) = rowF w fun k => -f i k := rfl
      rw [e, rows_set]
      exact q
  | swap i j =>
    obtain ⟨h1, h2, h3⟩ := hd
    have a1 := rows_at (w := w) (f := f) h1
    have a2 := rows_at (w := w) (f := f) h2
    have i1 : L2.ixN n (i : Int) = some i := by rw [ixN_nat, if_pos h1]
    have i2 : L2.ixN n (j : Int) = some j := by rw [ixN_nat, if_pos h2]
    simp [behindS, dD, rbSwap, a1, a2, i1, i2]
    rw [rows_set, rows_set]
    exact q
  | add i j c =>
    obtain ⟨h1, h2, h3⟩ := hd
    have oc := o2 i j c rfl
    have a1 := rows_at (w := w) (f := f) h1
    have a2 := rows_at (w := w) (f := f) h2
    have i1 : L2.ixN n (i : Int) = some i := by rw [ixN_nat, if_pos h1]
    simp [behindS, dD, rbAdd, a1, a2]
    have ez : zipDs [rowF w (f i), rowF w (f j)] = some ((List.range w).map fun k => .tuple [.int (f i k), .int (f j k)]) := by
      simp only [rowF, zips_T, zipD]
      congr 1
      refine List.ext_getElem? fun k => ?_
      by_cases hk : k < w
      · simp [hk]
      · rw [List.getElem?_eq_none (by simp; omega), List.getElem?_eq_none (by simp; omega)]
    simp only [ez, opt_some, ok_ok1, List.length_map, List.length_range, szM_ok w6]
    refine ok_map (fun x => match x with | .tuple [.int a, .int b] => .int (a + c * b) | x => x) (fun x hx => ?_) ?_
    · obtain ⟨k, hk, rfl⟩ := List.mem_map.mp hx
      have hk := List.mem_range.mp hk
      simp [bindG, bindAll, oc, o1 j h2 k hk]
    · rw [List.map_map]
      simp [i1]
      have e : PyData.tuple (List.map ((fun x => match x with | .tuple [.int a, .int b] => PyData.int (a + c * b) | x => x) ∘ fun k => PyData.tuple [.int (f i k), .int (f j k)]) (List.range w)) = rowF w fun k => f i k + c * f j k := rfl
      rw [e, rows_set]
      exact q
/-! ### the whole of it -/
def doneS (l r : Nat) : S :=
    (.seq (.expr (.call l (.cons (.blt .len (.cons (.ix (.var 0) (.int 1)) .nil)) (.cons (.var 1) .nil)))) (.seq (.set 2 (.lof (.ix (.var 0) (.int 1)))) (.seq
    (.for_ [3] false (.var 1) (.seq (.set 2 (.call r (.cons (.var 2) (.cons (.var 3) .nil)))) .skip)) (.seq (.ret (.tup (.cons (.ix (.var 0) (.int 0)) (.cons
    (.blt .tuple (.cons (.var 2) .nil)) .nil)))) .skip))))
theorem acts_snoc {ds : List Deed} {d : Deed} {f : Mt} : acts (ds ++ [d]) f = act d (acts ds f) := by simp [acts, List.foldl_append]
theorem done_ok {l r n w B C : Nat} {ds : List Deed} {f : Mt} (hn : n ≤ 1000) (hw : w ≤ 1000) (hd : ∀ d ∈ ds, d.ok n ∧ d.lim C) (bf : Bm n w B f) (hB : ∀ k, k ≤ ds.length → B * (C + 1) ^ k ≤ 2 ^ 8000) (hC : C ≤ 2 ^ 8000)
    (gl : Gives F l [.int n, .tuple (ds.map dD)] .none)
    (gr : ∀ (d : Deed) (g : Mt), d.ok n → (∀ i, i < n → ∀ j, j < w → okBits (g i j) = true) → (∀ i j c, d = .add i j c → okBits c = true) → Gives F r [.list (rowsF n w g), dD d] (.list (rowsF n w (act d g))))
    (q : ∀ b, Q (tabF n w (acts ds f), b) []) : Ok (runFn G F ⟨2, 4, doneS l r⟩ [.p (tabF n w f), .p (.tuple (ds.map dD))] []) Q := by
  refine ok_run rfl ?_
  simp [doneS]
  refine gives_call2 gl fun b => ?_
  have len : (ds.map dD).length = ds.length := by simp
  refine ok_forE (fun j ρ h => h = [] ∧ ∃ x3, ρ = [some (.p (tabF n w f)), some (.p (.tuple (ds.map dD))), some (.p (.list (rowsF n w (acts (ds.take j) f)))), x3]) ⟨rfl, _, rfl⟩ (fun j x ρ h hj hx I => ?_) (fun ρ h I => ?_)
  · obtain ⟨rfl, x3, rfl⟩ := I
    rw [len] at hj
    have hx : x = dD ds[j] := by
      rw [List.getElem?_map, List.getElem?_eq_getElem hj] at hx
      simpa using hx.symm
    subst hx
    have hm := hd _ (List.getElem_mem hj)
    have bb := acts_bound (ds := ds.take j) (fun d h => hd d (List.mem_of_mem_take h)) bf
    rw [List.length_take, Nat.min_eq_left (Nat.le_of_lt hj)] at bb
    have ok1 : ∀ i, i < n → ∀ k, k < w → okBits (acts (ds.take j) f i k) = true := fun i hi k hk => okb (n := 8001) (by rw [Nat.pow_succ]; have := Nat.pow_pos (n := 8000) (show 0 < 2 by decide); have := bb i hi k hk; have := hB j (by omega); omega) (by decide)
    simp [bindG]
    refine gives_call2 (gr ds[j] _ hm.1 ok1 fun a b c e => ?_) fun b => ?_
    · have l := hm.2
      rw [e] at l
      have l : c.natAbs ≤ C := l
      exact okb (n := 8001) (by rw [Nat.pow_succ]; have := Nat.pow_pos (n := 8000) (show 0 < 2 by decide); omega) (by decide)
    · simp
      rw [List.take_succ_eq_append_getElem hj, acts_snoc]
  · obtain ⟨rfl, x3, rfl⟩ := I
    rw [len, List.take_length]
    simp
    exact q _

end Px

/-! Pm9: deeds drawn; the law's own doing of them. -/
namespace Px
open PySem
open TL (tl)
variable {G : Pg} {F : Nat → List D → M (PyData × Bool)} {Q : PyData × Bool → List O → Prop}
theorem tx_turn : Tx 6 (PyData.shown (.str (Str.ofString "turn"))) := by
  have : PyData.shown (.str (Str.ofString "turn")) = Str.ofString "'turn'" := by decide +kernel
  rw [this]; exact tx_lit _ (by decide)
theorem tx_swap : Tx 6 (PyData.shown (.str (Str.ofString "swap"))) := by
  have : PyData.shown (.str (Str.ofString "swap")) = Str.ofString "'swap'" := by decide +kernel
  rw [this]; exact tx_lit _ (by decide)
theorem tx_add : Tx 6 (PyData.shown (.str (Str.ofString "add"))) := by
  have : PyData.shown (.str (Str.ofString "add")) = Str.ofString "'add'" := by decide +kernel
  rw [this]; exact tx_lit _ (by decide)
theorem nice_deed {c m n C : Nat} {d : Deed} (hc : 1 ≤ c) (hm : 4 ≤ m) (hn : n < 10 ^ c) (hC : C < 10 ^ c) (h : d.ok n) (l : d.lim C) : Nice c m 1 (dD d) := by
  cases d with
  | turn i =>
    have h : i < n := h
    refine nice_tup (by simp; omega) fun x hx => ?_
    simp at hx
    rcases hx with rfl | rfl
    · exact nice_str (by decide +kernel) tx_turn hc
    · exact nice_int (by simp; omega)
  | swap i j =>
    obtain ⟨h1, h2, _⟩ := h
    refine nice_tup (by simp; omega) fun x hx => ?_
    simp at hx
    rcases hx with rfl | rfl | rfl
    · exact nice_str (by decide +kernel) tx_swap hc
    · exact nice_int (by simp; omega)
    · exact nice_int (by simp; omega)
  | add i j k =>
    obtain ⟨h1, h2, _⟩ := h
    have l : k.natAbs ≤ C := l
    refine nice_tup (by simp; omega) fun x hx => ?_
    simp at hx
    rcases hx with rfl | rfl | rfl | rfl
    · exact nice_str (by decide +kernel) tx_add hc
    · exact nice_int (by simp; omega)
    · exact nice_int (by simp; omega)
    · exact nice_int (by omega)
theorem nice_deeds {c m n C : Nat} {ds : List Deed} (hc : 1 ≤ c) (hm : 4 ≤ m) (hn : n < 10 ^ c) (hC : C < 10 ^ c) (hl : ds.length ≤ m) (h : ∀ d ∈ ds, d.ok n ∧ d.lim C) : Nice c m 2 (.tuple (ds.map dD)) := nice_tup (by simpa using hl) fun x hx => by
  obtain ⟨d, hd, rfl⟩ := List.mem_map.mp hx
  exact nice_deed hc hm hn hC (h d hd).1 (h d hd).2
/-! ### drawn -/
def isDeed (n : Nat) (v : PyData) : Prop := ∃ d : Deed, v = dD d ∧ d.ok n ∧ d.lim 99
def ldeedS (d nb : Nat) : S :=
    (.seq (.set 2 (.call d (.cons (.var 0) (.cons (.var 1) .nil)))) (.seq (.set 3 (.call d (.cons (.var 0) (.cons (.int 4) .nil)))) (.seq (.ife (.or (.cmp .eq
    (.var 1) (.int 1)) (.cmp .eq (.var 3) (.int 0))) (.seq (.ret (.tup (.cons (.str (Str.ofString "turn")) (.cons (.var 2) .nil)))) .skip) .skip) (.seq (.set 4
    (.bin .mod (.bin .add (.bin .add (.var 2) (.int 1)) (.call d (.cons (.var 0) (.cons (.bin .sub (.var 1) (.int 1)) .nil)))) (.var 1))) (.seq (.ret (.ife (.cmp
    .eq (.var 3) (.int 1)) (.tup (.cons (.str (Str.ofString "swap")) (.cons (.var 2) (.cons (.var 4) .nil)))) (.tup (.cons (.str (Str.ofString "add")) (.cons
    (.var 2) (.cons (.var 4) (.cons (.call nb (.cons (.var 0) .nil)) .nil))))))) .skip)))))
theorem fmod_nat' {x n : Nat} : ((x : Nat) : Int).fmod n = ((x % n : Nat) : Int) := by
  rw [Int.fmod_eq_emod_of_nonneg _ (by omega)]
  rfl
theorem ldeed_ok {d nb b n : Nat} {xs : List PyData} (g : DrawAt F d) (gn : Draws F nb [] 2 (isNum 99)) (h0 : 0 < n) (hn : n ≤ 1000) (hf : Fd b xs) (hb : b + 5 < Lim)
    (q : ∀ v ys fl, isDeed n v → Fd (b + 5) ys → Q (v, fl) [.lst ys]) : Ok (runFn G F ⟨2, 5, ldeedS d nb⟩ [.r 0, .p (.int n)] [.lst xs]) Q := by
  refine ok_run rfl ?_
  simp [ldeedS]
  refine draw_call (many := n) g h0 (by omega) (xs := xs) rfl hf (by omega) fun i ys fl hi f1 => ?_
  simp
  refine draw_call (many := 4) g (by decide) (by decide) (xs := ys) rfl f1 (by omega) fun w zs fl hw f2 => ?_
  by_cases c1 : n = 1
  · subst c1
    simp
    exact q _ _ _ ⟨.turn i, rfl, hi, trivial⟩ (f2.mono (by omega))
  · have c1' : ¬ ((n : Int) = 1) := by omega
    by_cases c0 : w = 0
    · subst c0
      simp [c1, c1']
      exact q _ _ _ ⟨.turn i, rfl, hi, trivial⟩ (f2.mono (by omega))
    · have c0' : ¬ ((w : Int) = 0) := by omega
      have en : (n : Int) - 1 = ((n - 1 : Nat) : Int) := by omega
      simp [c1, c1', c0, c0', en]
      refine draw_call (many := n - 1) g (by omega) (by omega) (xs := zs) rfl f2 (by omega) fun r us fl hr f3 => ?_
      have ej : ((i : Int) + 1 + (r : Int)).fmod n = (((i + 1 + r) % n : Nat) : Int) := fmod_nat' (x := i + 1 + r)
      have nz : ¬ n = 0 := by omega
      have nz' : ¬ ((n : Int) = 0) := by omega
      have lj : (i + 1 + r) % n < n := Nat.mod_lt _ h0
      have ne : i ≠ (i + 1 + r) % n := by
        by_cases q : i + 1 + r < n
        · rw [Nat.mod_eq_of_lt q]; omega
        · rw [Nat.mod_eq_sub_mod (by omega), Nat.mod_eq_of_lt (by omega)]; omega
      generalize hJ : (i + 1 + r) % n = J at ej lj ne
      by_cases c2 : w = 1
      · subst c2
        simp [ej, nz, nz']
        exact q _ _ _ ⟨.swap i J, rfl, ⟨hi, lj, ne⟩, trivial⟩ (f3.mono (by omega))
      · have c2' : ¬ ((w : Int) = 1) := by omega
        simp [ej, nz, nz', c2, c2']
        refine draws_call (ds := []) (xs := us) gn rfl f3 (by omega) fun v vs fl hv f4 => ?_
        obtain ⟨k, rfl, hk⟩ := hv
        simp
        exact q _ _ _ ⟨.add i J k, rfl, ⟨hi, lj, ne⟩, hk⟩ (f4.mono (by omega))
theorem compL_none {is : List Nat} {tp : Bool} {ρ : Env} {cond : Env → M Bool} {elt : Env → M PyData} {h : List O} : compL is tp ρ cond elt [] h = .ok [] h := rfl
def ldeedsS (d e : Nat) : S :=
    (.seq (.ret (.blt .tuple (.cons (.comp [3] [3] false (.rng1 (.bin .mul (.call d (.cons (.var 0) (.cons (.bin .add (.var 2) (.int 1)) .nil))) (.blt .int
    (.cons (.cmp .gt (.var 1) (.int 0)) .nil)))) .nil (.call e (.cons (.var 0) (.cons (.var 1) .nil)))) .nil))) .skip)
def isDeeds (n m : Nat) (v : PyData) : Prop := ∃ ds : List Deed, v = .tuple (ds.map dD) ∧ ds.length ≤ m ∧ ∀ d ∈ ds, d.ok n ∧ d.lim 99
theorem ldeeds_ok {d e b n m : Nat} {xs : List PyData} (g : DrawAt F d) (ge : 0 < n → Draws F e [.int n] 5 (isDeed n)) (hn : n ≤ 1000) (hm : m ≤ 1000) (hf : Fd b xs) (hb : b + (1 + 5 * m) < Lim)
    (q : ∀ v ys fl, isDeeds n m v → Fd (b + (1 + 5 * m)) ys → Q (v, fl) [.lst ys]) : Ok (runFn G F ⟨3, 4, ldeedsS d e⟩ [.r 0, .p (.int n), .p (.int m)] [.lst xs]) Q := by
  refine ok_run rfl ?_
  have em : (m : Int) + 1 = ((m + 1 : Nat) : Int) := by omega
  simp [ldeedsS]
  rw [em]
  refine draw_call (many := m + 1) g (by omega) (by omega) (xs := xs) rfl hf (by omega) fun k ys fl hk f1 => ?_
  have ok1 : okBits (k : Int) = true := okb64 (by omega)
  have ok_1 : okBits 1 = true := okb64 (by decide)
  have ok_0 : okBits 0 = true := okb64 (by decide)
  by_cases c : 0 < n
  · have c' : (0 : Int) < n := by omega
    have ge := ge c
    have k6 : (k : Int) ≤ 1000000 := by omega
    have k7 : (-1000000 : Int) ≤ k := by omega
    have k8 : k ≤ 1000000 := by omega
    simp [c, c', ok1, ok_1, k6, k7, k8]
    refine ok_compE (fun j acc h => ∃ (ds : List Deed) (zs : List PyData), acc = ds.map dD ∧ ds.length = j ∧ (∀ d ∈ ds, d.ok n ∧ d.lim 99) ∧ h = [.lst zs] ∧ Fd (b + 1 + 5 * j) zs) ⟨[], ys, rfl, rfl, by simp, rfl, by simpa using f1⟩ (fun j x acc h hj hx I => ?_) (fun acc h I => ?_)
    · obtain ⟨ds, zs, rfl, rfl, hd, rfl, fd⟩ := I
      simp at hj
      simp [bindG]
      refine draws_call (n := 0) (ds := [.int n]) (xs := zs) ge rfl fd (by omega) fun v us fl hv f2 => ?_
      obtain ⟨d, rfl, h1, h2⟩ := hv
      simp
      refine ⟨ds ++ [d], by simp, by simp, ?_, f2.mono (by omega)⟩
      intro e he
      rcases List.mem_append.mp he with z | z
      · exact hd e z
      · rw [List.mem_singleton.mp z]; exact ⟨h1, h2⟩
    · obtain ⟨ds, zs, rfl, hl, hd, rfl, fd⟩ := I
      simp at hl
      have : ds.length ≤ 1000000 := by omega
      simp [this]
      exact q _ _ _ ⟨ds, rfl, by omega, hd⟩ (fd.mono (by simp; omega))
  · have c' : ¬ ((0 : Int) < n) := by omega
    have r00 : rangeL 0 0 = [] := rfl
    simp [c, c', ok1, ok_0, r00, compL_none]
    exact q _ _ _ ⟨[], rfl, by simp, by simp⟩ (f1.mono (by omega))
end Px

/-! Pm6: corner_of, run. -/
namespace Px
open PySem
variable {G : Pg} {F : Nat → List D → M (PyData × Bool)} {Q : PyData × Bool → List O → Prop}

def leadS : S :=
    (.seq (.for_ [2] false (.rng2 (.var 1) (.lnn (.var 0))) (.seq (.ife (.cmp .ne (.ix (.ixn (.var 0) (.var 2)) (.var 1)) (.int 0)) (.seq (.ret (.var 2)) .skip)
    .skip) .skip)) (.seq (.ret .non) .skip))
def cFor7 : S := .for_ [7] false (.rng2 (.bin .add (.var 4) (.int 1)) (.lnn (.var 1))) (.seq (.ixs (.ixn (.var 1) (.var 6)) (.var 7) (.bin .fdv (.bin .sub (.bin .mul (.ix (.ixn (.var 1) (.var 6)) (.var 7)) (.ix
    (.ixn (.var 1) (.var 4)) (.var 4))) (.bin .mul (.ix (.ixn (.var 1) (.var 6)) (.var 4)) (.ix (.ixn (.var 1) (.var 4)) (.var 7)))) (.var 3))) .skip)
def cRest : S := .seq (.for_ [6] false (.rng2 (.bin .add (.var 4) (.int 1)) (.lnn (.var 1))) (.seq cFor7 .skip)) (.seq (.set 3 (.ix (.ixn (.var 1) (.var 4)) (.var 4))) .skip)
def cSwap : S := .seq (.ife (.cmp .ne (.var 5) (.var 4)) (.seq (.swn (.var 1) (.var 4) (.var 1) (.var 5) (.ixn (.var 1) (.var 5)) (.ixn (.var 1) (.var 4))) (.seq (.set 2 (.neg (.var 2))) .skip)) .skip) cRest
def cTurn (r : Nat) : S := .seq (.set 5 (.callW r (.cons (.var 1) (.cons (.var 4) .nil)))) (.seq (.ife (.isN (.var 5)) (.seq (.ret (.int 0)) .skip) .skip) cSwap)
def cMain (r : Nat) : S := .seq (.for_ [4] false (.rng1 (.lnn (.var 1))) (cTurn r)) (.seq (.ret (.bin .mul (.var 2) (.var 3))) .skip)
def cornerS (r : Nat) : S :=
    (.seq (.newN 1 (.comp [8] [8] false (.ix (.var 0) (.int 1)) .nil (.lof (.var 8)))) (.seq (.set 2 (.int 1)) (.seq (.set 3 (.int 1)) (cMain r))))
/-- how great a corner can be -/
def db (B : Nat) : Nat → Nat
  | 0 => 1
  | n + 1 => (n + 1) * (B * db B n)
theorem det_bound {B : Nat} : ∀ {n : Nat} {f : Mt}, (∀ i, i < n → ∀ j, j < n → (f i j).natAbs ≤ B) → (det n f).natAbs ≤ db B n
  | 0, _, _ => by simp [det, db]
  | n + 1, f, h => by
    unfold det db
    refine sg_bound fun i hi => ?_
    rw [Int.natAbs_mul, Int.natAbs_mul]
    have s : (sgn (i + n)).natAbs = 1 := by unfold sgn; split <;> rfl
    rw [s, Nat.one_mul]
    exact Nat.mul_le_mul (h i hi n (Nat.lt_succ_self n)) (det_bound fun r hr c hc => h _ (skp_lt hr) c (by omega))
theorem lead_ok {h : List O} {n N k : Nat} {ks : Nat → Nat} {g : Mt} (V : Vw h n N N ks g) (hk : k < N) (hN : N ≤ 1000)
    (hcl : ∀ x, x ∈ h → O.cl h.length x = true)
    (q1 : (∀ r, k ≤ r → r < N → g r k = 0) → Q (.none, false) h) (q2 : ∀ a, k ≤ a → a < N → g a k ≠ 0 → Q (.int a, false) h) :
    Ok (runFn G F ⟨2, 3, leadS⟩ [.r n, .p (.int k)] h) Q := by
  have k6 : (k : Int) ≤ 1000000 := by omega
  have k7 : (-1000000 : Int) ≤ k := by omega
  have n6 : (N : Int) ≤ 1000000 := by omega
  have n7 : (-1000000 : Int) ≤ N := by omega
  simp [runFn, leadS, V.top, k6, k7, n6, n7]
  refine ok_forN (a := k) (n := N - k) range_two (fun j ρ h' => h' = h ∧ (∃ x, ρ = [some (.r n), some (.p (.int k)), x]) ∧ ∀ r, k ≤ r → r < k + j → g r k = 0) ⟨rfl, ⟨_, rfl⟩, fun r h1 h2 => absurd h2 (by omega)⟩ (fun j ρ h' hj I => ?_) (fun ρ h' I => ?_)
  · obtain ⟨rfl, ⟨x, rfl⟩, z⟩ := I
    have hr : k + j < N := by omega
    have e1 := V.at hr
    have e2 := V.row _ hr
    have e3 : L2.atI (rowL N (g (k + j))) (k : Int) = some (.int (g (k + j) k)) := by rw [atI_nat, rowL_get hk]
    simp only [List.set_cons_succ, List.set_cons_zero]
    have sh := @shp_int
    have e4 : L2.atI ((List.range N).map fun i => D.r (ks i)) ((k + j : Nat) : Int) = some (.r (ks (k + j))) := by rw [atI_nat, e1]
    rw [Int.natCast_add] at e4
    simp [V.top, e4, e2, e3, sh]
    by_cases c : g (k + j) k = 0
    · simp [c]
      intro r h1 h2
      by_cases q : r = k + j
      · rw [q]; exact c
      · exact z r h1 (by omega)
    · have c' : (g (k + j) k == 0) = false := by simpa using c
      simp [c, c']
      first | rw [if_pos hcl, ok_ok1, ← Int.natCast_add] | rw [← Int.natCast_add]
      exact q2 _ (by omega) hr c
  · obtain ⟨rfl, ⟨x, rfl⟩, z⟩ := I
    simp
    first | rw [if_pos hcl, ok_ok1] | skip
    exact q1 fun r h1 h2 => z r h1 (by omega)
theorem Vw.app {h : List O} {n N W : Nat} {ks : Nat → Nat} {f : Mt} (V : Vw h n N W ks f) : ∀ i, i < N → n < h.length ∧ ks i < h.length := fun i hi => ⟨(List.getElem?_eq_some_iff.mp V.top).1, (List.getElem?_eq_some_iff.mp (V.row i hi)).1⟩
/-- what stands within: the lists that hold handles know of what stands -/
def Clo (h : List O) : Prop := ∀ x, x ∈ h → O.cl h.length x = true
theorem Clo.set {h : List O} {n : Nat} {o : O} (c : Clo h) (ho : O.cl h.length o = true) : Clo (h.set n o) := fun x hx => by
  rw [List.length_set]
  rcases List.mem_or_eq_of_mem_set hx with z | z
  · exact c x z
  · rw [z]; exact ho
theorem Mn_swap {k a : Nat} {P : Mt} (hk : k < a) {i j : Nat} (hi : k ≤ i) : Mn k (swp2 P k a) i j = Mn k P (if i = a then k else if i = k then a else i) j := det_congr fun r hr c hc => by
  unfold bord swp2 rowU
  by_cases h1 : r < k
  · simp only [h1, if_true]
    rw [if_neg (by omega), if_neg (by omega)]
  · simp only [h1, if_false]
    by_cases h2 : i = a
    · subst h2; simp
    · by_cases h3 : i = k
      · subst h3; simp [h2]
      · simp [h2, h3]
theorem swp2_apply {P : Mt} {k a i : Nat} : swp2 P k a i = P (if i = a then k else if i = k then a else i) := by
  unfold swp2 rowU
  split
  · rfl
  · split <;> rfl
/-- what holds ahead of turn k -/
structure CI (N B : Nat) (f : Mt) (k : Nat) (P g : Mt) (s p : Int) : Prop where
  sg : s = 1 ∨ s = -1
  dt : det N f = s * det N P
  pv : p = det k P
  nz : p ≠ 0
  ent : ∀ i j, k ≤ i → i < N → k ≤ j → j < N → g i j = Mn k P i j
  bd : ∀ i, i < N → ∀ j, j < N → (P i j).natAbs ≤ B
theorem ok8000 {i : Int} (h : i.natAbs ≤ 2 ^ 8000) : okBits i = true := okb (n := 8001) (by rw [Nat.pow_succ]; have := Nat.pow_pos (n := 8000) (show 0 < 2 by decide); omega) (by decide)
theorem fv8000 {i : Int} {o : Option PyData} (h : i.natAbs ≤ 2 ^ 8000) (h0 : i ≠ 0) : fvO i o = o := if_pos ⟨h0, log_lt (n := 8001) (by rw [Nat.pow_succ]; have := Nat.pow_pos (n := 8000) (show 0 < 2 by decide); omega) (by decide) (by decide)⟩
theorem Mn_bound {N B k : Nat} {P : Mt} (bd : ∀ i, i < N → ∀ j, j < N → (P i j).natAbs ≤ B) {i j : Nat} (hk : k < N) (hi : i < N) (hj : j < N) : (Mn k P i j).natAbs ≤ db B (k + 1) := det_bound fun r _ c _ => by
  unfold bord
  refine bd _ ?_ _ ?_
  · split <;> omega
  · split <;> omega
/-- one turn of the inner loops: row i led on, from the left, to column j -/
def mix (k : Nat) (P g : Mt) (i j : Nat) : Mt := fun a b => if k < a ∧ k < b ∧ (a < i ∨ (a = i ∧ b < j)) then Mn (k + 1) P a b else g a b

theorem CI.swap {N B k a : Nat} {f P g : Mt} {s p : Int} (C : CI N B f k P g s p) (hk : k < a) (ha : a < N) : CI N B f k (swp2 P k a) (swp2 g k a) (-s) p := by
  have lt : ∀ i, i < N → (if i = a then k else if i = k then a else i) < N := fun i hi => by
    split
    · omega
    · split <;> omega
  have ge : ∀ i, k ≤ i → k ≤ (if i = a then k else if i = k then a else i) := fun i hi => by
    split
    · omega
    · split <;> omega
  refine ⟨by rcases C.sg with z | z <;> omega, ?_, ?_, C.nz, fun i j h1 h2 h3 h4 => ?_, fun i hi j hj => ?_⟩
  · rw [(det_Adj N).swap (by omega) ha (by omega), C.dt]
    grind
  · rw [C.pv]
    exact (det_congr fun i hi j hj => by rw [swp2_apply, if_neg (by omega), if_neg (by omega)]).symm
  · rw [swp2_apply, C.ent _ _ (ge i h1) (lt i h2) h3 h4, Mn_swap hk h1]
  · rw [swp2_apply]
    exact C.bd _ (lt i hi) _ hj
theorem CI.le {N B k : Nat} {f P g : Mt} {s p : Int} (C : CI N B f k P g s p) (hB : ∀ m, m ≤ N → db B m ≤ 2 ^ 8000) (hk : k ≤ N) : p.natAbs ≤ 2 ^ 8000 := by
  rw [C.pv]
  exact Nat.le_trans (det_bound fun i hi j hj => C.bd i (by omega) j (by omega)) (hB k hk)
theorem CI.el {N B k : Nat} {f P g : Mt} {s p : Int} (C : CI N B f k P g s p) (hB : ∀ m, m ≤ N → db B m ≤ 2 ^ 8000) {i j : Nat} (h1 : k ≤ i) (h2 : i < N) (h3 : k ≤ j) (h4 : j < N) : (g i j).natAbs ≤ 2 ^ 8000 := by
  rw [C.ent i j h1 h2 h3 h4]
  exact Nat.le_trans (Mn_bound C.bd (by omega) h2 h4) (hB _ (by omega))
/-- row i led on -/
theorem row_led {N B k n i : Nat} {f P g : Mt} {s p : Int} {ks : Nat → Nat} {h : List O} {Q : Fl × Env → List O → Prop} {x0 x5 x7 : Option D} (C : CI N B f k P g s p) (hN : N ≤ 1000) (hB : ∀ m, m ≤ N → db B m ≤ 2 ^ 8000) (hk : k < N) (hi : k < i) (hiN : i < N)
    (V : Vw h n N N ks (mix k P g i 0)) (cl : Clo h) (q : ∀ h x7, Vw h n N N ks (mix k P g (i + 1) 0) → Clo h → Q (.nx, [x0, some (.r n), some (.p (.int s)), some (.p (.int p)), some (.p (.int k)), x5, some (.p (.int i)), x7, none]) h) :
    Ok (exec G F cFor7 [x0, some (.r n), some (.p (.int s)), some (.p (.int p)), some (.p (.int k)), x5, some (.p (.int i)), x7, none] h) Q := by
  have k6 : (k : Int) + 1 ≤ 1000000 := by omega
  have k7 : (-1000000 : Int) ≤ (k : Int) + 1 := by omega
  have n6 : (N : Int) ≤ 1000000 := by omega
  have n7 : (-1000000 : Int) ≤ N := by omega
  have lv := livN_r V.top
  simp [cFor7, lv, k6, k7, n6, n7]
  have e2 : rangeL ((k : Int) + 1) (N : Int) = (List.range (N - (k + 1))).map fun j => PyData.int ((k + 1 + j : Nat) : Int) := range_two (a := k + 1) (b := N)
  refine ok_forN (a := k + 1) (n := N - (k + 1)) e2 (fun j ρ h => ∃ x7, ρ = [x0, some (.r n), some (.p (.int s)), some (.p (.int p)), some (.p (.int k)), x5, some (.p (.int i)), x7, none] ∧ Vw h n N N ks (mix k P g i (k + 1 + j)) ∧ Clo h)
    ⟨_, rfl, V.congr fun a ha b hb => ?_, cl⟩ (fun j ρ h hj I => ?_) (fun ρ h I => ?_)
  · unfold mix
    by_cases c : k < a ∧ k < b ∧ a < i
    · rw [if_pos ⟨c.1, c.2.1, .inl c.2.2⟩, if_pos ⟨c.1, c.2.1, .inl c.2.2⟩]
    · rw [if_neg (by omega), if_neg (by omega)]
  · obtain ⟨x7, rfl, V, cl⟩ := I
    have hjN : k + 1 + j < N := by omega
    generalize hj' : k + 1 + j = J at hjN V ⊢
    have hJ : k < J := by omega
    have m0 : mix k P g i J i J = g i J := if_neg (by omega)
    have m1 : mix k P g i J k k = g k k := if_neg (by omega)
    have m2 : mix k P g i J i k = g i k := if_neg (by omega)
    have m3 : mix k P g i J k J = g k J := if_neg (by omega)
    have lv := livN_r V.top
    have ri := rd_lst (V.row i hiN)
    have rk := rd_lst (V.row k hk)
    have li := liv_lst (V.row i hiN)
    have ai : L2.atI ((List.range N).map fun i => D.r (ks i)) (i : Int) = some (.r (ks i)) := by rw [atI_nat, V.at hiN]
    have ak : L2.atI ((List.range N).map fun i => D.r (ks i)) (k : Int) = some (.r (ks k)) := by rw [atI_nat, V.at hk]
    have aiJ : L2.atI (rowL N (mix k P g i J i)) (J : Int) = some (.int (g i J)) := by rw [atI_nat, rowL_get hjN, m0]
    have aik : L2.atI (rowL N (mix k P g i J i)) (k : Int) = some (.int (g i k)) := by rw [atI_nat, rowL_get hk, m2]
    have akk : L2.atI (rowL N (mix k P g i J k)) (k : Int) = some (.int (g k k)) := by rw [atI_nat, rowL_get hk, m1]
    have akJ : L2.atI (rowL N (mix k P g i J k)) (J : Int) = some (.int (g k J)) := by rw [atI_nat, rowL_get hjN, m3]
    have o1 : okBits (g i J) = true := ok8000 (C.el hB (by omega) hiN (by omega) hjN)
    have o2 : okBits (g k k) = true := ok8000 (C.el hB (by omega) hk (by omega) hk)
    have o3 : okBits (g i k) = true := ok8000 (C.el hB (by omega) hiN (by omega) hk)
    have o4 : okBits (g k J) = true := ok8000 (C.el hB (by omega) hk (by omega) hjN)
    have fv : ∀ o : Option PyData, fvO p o = o := fun o => fv8000 (C.le hB (by omega)) C.nz
    have val : (g i J * g k k - g i k * g k J).fdiv p = Mn (k + 1) P i J := by
      rw [C.ent i J (by omega) hiN (by omega) hjN, C.ent k k (by omega) hk (by omega) hk, C.ent i k (by omega) hiN (by omega) hk, C.ent k J (by omega) hk (by omega) hjN, step_out (by rw [← C.pv]; exact C.nz), ← C.pv]
      exact Int.mul_fdiv_cancel_left _ C.nz
    have hlJ : J < (rowL N (mix k P g i J i)).length := by rw [rowL_len]; exact hjN
    have ixJ : L2.ixN (rowL N (mix k P g i J i)).length (J : Int) = some J := by rw [ixN_nat, if_pos hlJ]
    simp only [List.set_cons_succ, List.set_cons_zero]
    simp [lv, ri, rk, li, ai, ak, aiJ, aik, akk, akJ, o1, o2, o3, o4, fv, val, ixJ]
    have W := V.put (j := J) (x := Mn (k + 1) P i J) hiN
    refine ⟨?_, cl.set rfl⟩
    refine W.congr fun a ha b hb => ?_
    unfold setM
    by_cases c : a = i ∧ b = J
    · obtain ⟨rfl, rfl⟩ := c
      rw [if_pos ⟨rfl, rfl⟩]
      unfold mix
      rw [if_pos (by omega)]
    · rw [if_neg c]
      unfold mix
      by_cases c2 : k < a ∧ k < b ∧ (a < i ∨ a = i ∧ b < J)
      · rw [if_pos c2, if_pos (by omega)]
      · rw [if_neg c2, if_neg (by omega)]
  · obtain ⟨x7, rfl, V, cl⟩ := I
    refine q _ _ (V.congr fun a ha b hb => ?_) cl
    unfold mix
    by_cases c : k < a ∧ k < b ∧ (a < i + 1)
    · rw [if_pos (by omega), if_pos (by omega)]
    · rw [if_neg (by omega), if_neg (by omega)]
/-- a turn, once the row stands that leads -/
theorem rest_ok {N B k n : Nat} {f P g : Mt} {s p : Int} {ks : Nat → Nat} {h : List O} {Q : Fl × Env → List O → Prop} {x0 x5 x6 x7 : Option D} (C : CI N B f k P g s p) (hN : N ≤ 1000) (hB : ∀ m, m ≤ N → db B m ≤ 2 ^ 8000) (hk : k < N) (hg : g k k ≠ 0)
    (V : Vw h n N N ks g) (cl : Clo h) (q : ∀ h g2 x6 x7, Vw h n N N ks g2 → Clo h → CI N B f (k + 1) P g2 s (g k k) → Q (.nx, [x0, some (.r n), some (.p (.int s)), some (.p (.int (g k k))), some (.p (.int k)), x5, x6, x7, none]) h) :
    Ok (exec G F cRest [x0, some (.r n), some (.p (.int s)), some (.p (.int p)), some (.p (.int k)), x5, x6, x7, none] h) Q := by
  have k6 : (k : Int) + 1 ≤ 1000000 := by omega
  have k7 : (-1000000 : Int) ≤ (k : Int) + 1 := by omega
  have n6 : (N : Int) ≤ 1000000 := by omega
  have n7 : (-1000000 : Int) ≤ N := by omega
  have lv := livN_r V.top
  have e2 : rangeL ((k : Int) + 1) (N : Int) = (List.range (N - (k + 1))).map fun j => PyData.int ((k + 1 + j : Nat) : Int) := range_two (a := k + 1) (b := N)
  refine ok_then ?_
  simp [lv, k6, k7, n6, n7]
  refine ok_forN (a := k + 1) (n := N - (k + 1)) e2 (fun j ρ h => ∃ x6 x7, ρ = [x0, some (.r n), some (.p (.int s)), some (.p (.int p)), some (.p (.int k)), x5, x6, x7, none] ∧ Vw h n N N ks (mix k P g (k + 1 + j) 0) ∧ Clo h)
    ⟨_, _, rfl, V.congr fun a ha b hb => if_neg (by omega), cl⟩ (fun j ρ h hj I => ?_) (fun ρ h I => ?_)
  · obtain ⟨x6, x7, rfl, V, cl⟩ := I
    simp only [List.set_cons_succ, List.set_cons_zero]
    refine ok_then (row_led C hN hB hk (by omega) (by omega) V cl fun h x7 V2 cl2 => ?_)
    simp only [ex_skip, ok_ok1, goes_nx]
    exact ⟨_, _, rfl, V2, cl2⟩
  · obtain ⟨x6, x7, rfl, V, cl⟩ := I
    have eN : k + 1 + (N - (k + 1)) = N := by omega
    rw [eN] at V
    have m1 : mix k P g N 0 k k = g k k := if_neg (by omega)
    have lv := livN_r V.top
    have rk := rd_lst (V.row k hk)
    have ak : L2.atI ((List.range N).map fun i => D.r (ks i)) (k : Int) = some (.r (ks k)) := by rw [atI_nat, V.at hk]
    have akk : L2.atI (rowL N (mix k P g N 0 k)) (k : Int) = some (.int (g k k)) := by rw [atI_nat, rowL_get hk, m1]
    have d1 : g k k = det (k + 1) P := by rw [C.ent k k (by omega) hk (by omega) hk, Mn_last]
    simp [lv, rk, ak, akk]
    refine q _ _ _ _ V cl ⟨C.sg, C.dt, d1, hg, fun i j h1 h2 h3 h4 => if_pos (by omega), C.bd⟩
theorem corner_main {r N B n : Nat} {f : Mt} {ks : Nat → Nat} {FF : Nat → List D → M (PyData × Bool)} {x0 : Option D} (bd : ∀ i, i < N → ∀ j, j < N → (f i j).natAbs ≤ B) (hN : N ≤ 1000) (hB : ∀ m, m ≤ N → db B m ≤ 2 ^ 8000)
    (hr : ∀ ds, F r ds = runFn G FF ⟨2, 3, leadS⟩ ds) (q : Q (.int (det N f), false) []) {h : List O} (V : Vw h n N N ks f) (cl : Clo h) :
    Ok (exec G F (cMain r) [x0, some (.r n), some (.p (.int 1)), some (.p (.int 1)), none, none, none, none, none] h) (Fin 0 Q) := by
  have n6 : (N : Int) ≤ 1000000 := by omega
  have n7 : (-1000000 : Int) ≤ N := by omega
  have lv := livN_r V.top
  refine ok_then ?_
  simp [lv, n6, n7]
  refine ok_forN (a := 0) (n := N) (by simp) (fun k ρ h => ∃ ks g P s p x4 x5 x6 x7, ρ = [x0, some (.r n), some (.p (.int s)), some (.p (.int p)), x4, x5, x6, x7, none] ∧ Vw h n N N ks g ∧ Clo h ∧ CI N B f k P g s p)
    ⟨ks, f, f, 1, 1, _, _, _, _, rfl, V, cl, .inl rfl, by rw [Int.one_mul], rfl, by decide, fun i j _ _ _ _ => (Mn_zero f i j).symm, bd⟩ (fun k ρ h hk I => ?_) (fun ρ h I => ?_)
  · obtain ⟨ks, g, P, s, p, x4, x5, x6, x7, rfl, V, cl, C⟩ := I
    rw [Nat.zero_add]
    simp only [List.set_cons_succ, List.set_cons_zero]
    unfold cTurn
    refine ok_then ?_
    simp only [ex_set, ev_callW, eva_cons, eva_nil, ev_var, List.getElem?_cons_succ, List.getElem?_cons_zero, bnd_ok1, ok_bnd, bnd_bnd]
    rw [hr]
    refine lead_ok V hk hN cl (fun z => ?_) fun a h1 h2 h3 => ?_
    · simp only [ok_ok1, List.set_cons_succ, List.set_cons_zero]
      refine ok_then ?_
      simp
      have := no_lead (n := N) (k := k) (f := P) hk (by rw [← C.pv]; exact C.nz) fun r h1 h2 => by rw [← C.ent r k h1 h2 (Nat.le_refl _) hk]; exact z r h1 h2
      have e := C.dt
      rw [this, Int.mul_zero] at e
      rw [e] at q
      exact q
    · simp only [ok_ok1, List.set_cons_succ, List.set_cons_zero]
      refine ok_then ?_
      simp
      unfold cSwap
      refine ok_then ?_
      by_cases c : a = k
      · subst c
        simp [shp_int]
        refine rest_ok C hN hB hk h3 V cl fun h g2 x6 x7 V2 cl2 C2 => ?_
        simp only [goes_nx]
        exact ⟨_, _, _, _, _, ⟨_, _, _, _, rfl⟩, V2, cl2, C2⟩
      · have c2 : ¬ ((a : Int) = (k : Int)) := by omega
        have lv := livN_r V.top
        have aa : L2.atI ((List.range N).map fun i => D.r (ks i)) (a : Int) = some (.r (ks a)) := by rw [atI_nat, V.at h2]
        have ak : L2.atI ((List.range N).map fun i => D.r (ks i)) (k : Int) = some (.r (ks k)) := by rw [atI_nat, V.at hk]
        have i1 : ∀ l : List D, l.length = N → L2.ixN l.length (k : Int) = some k := fun l hl => by rw [ixN_nat, hl, if_pos hk]
        have i2 : ∀ l : List D, l.length = N → L2.ixN l.length (a : Int) = some a := fun l hl => by rw [ixN_nat, hl, if_pos h2]
        have j1 : L2.ixN N (k : Int) = some k := by rw [ixN_nat, if_pos hk]
        have j2 : L2.ixN N (a : Int) = some a := by rw [ixN_nat, if_pos h2]
        have hn := (List.getElem?_eq_some_iff.mp V.top).1
        have V2 := V.swap hk h2 (fun z => c z.symm)
        have cl2 : Clo (h.set n (.nst ((((List.range N).map fun i => D.r (ks i)).set k (.r (ks a))).set a (.r (ks k))))) := cl.set (by
          show ((((List.range N).map fun i => D.r (ks i)).set k (.r (ks a))).set a (.r (ks k))).all (D.below _) = true
          rw [List.all_eq_true]
          intro y hy
          have lt : ∀ i, i < N → D.below h.length (.r (ks i)) = true := fun i hi => decide_eq_true (V.app i hi).2
          rcases List.mem_or_eq_of_mem_set hy with z | z
          · rcases List.mem_or_eq_of_mem_set z with z | z
            · obtain ⟨i, hi, rfl⟩ := List.mem_map.mp z
              exact lt i (List.mem_range.mp hi)
            · rw [z]; exact lt a h2
          · rw [z]; exact lt k hk)
        have C2 := C.swap (show k < a by omega) h2
        have g2 : swp2 g k a k k ≠ 0 := by
          rw [swp2_apply, if_neg (fun z => c z.symm), if_pos rfl]
          exact h3
        have lv1 : livN (.r n) (h.set n (.nst (((List.range N).map fun i => D.r (ks i)).set k (.r (ks a))))) = .ok (n, ((List.range N).map fun i => D.r (ks i)).set k (.r (ks a))) (h.set n (.nst (((List.range N).map fun i => D.r (ks i)).set k (.r (ks a))))) := livN_r (List.getElem?_set_self hn)
        simp [shp_int, c2, lv, aa, ak, j1, j2, lv1]
        refine rest_ok C2 hN hB hk g2 V2 cl2 fun h g3 x6 x7 V3 cl3 C3 => ?_
        simp only [goes_nx]
        exact ⟨_, _, _, _, _, ⟨_, _, _, _, rfl⟩, V3, cl3, C3⟩
  · obtain ⟨ks, g, P, s, p, x4, x5, x6, x7, rfl, V, cl, C⟩ := I
    have o1 : okBits s = true := by rcases C.sg with z | z <;> (rw [z]; exact okb64 (by decide))
    have o2 : okBits p = true := ok8000 (C.le hB (Nat.le_refl _))
    have e : s * p = det N f := by rw [C.dt, C.pv]
    simp [o1, o2, e]
    exact q
theorem corner_ok {r N B : Nat} {f : Mt} {FF : Nat → List D → M (PyData × Bool)} (bd : ∀ i, i < N → ∀ j, j < N → (f i j).natAbs ≤ B) (hN : N ≤ 1000) (hB : ∀ m, m ≤ N → db B m ≤ 2 ^ 8000)
    (hr : ∀ ds, F r ds = runFn G FF ⟨2, 3, leadS⟩ ds) (q : Q (.int (det N f), false) []) : Ok (runFn G F ⟨1, 9, cornerS r⟩ [.p (tabF N N f)] []) Q := by
  have n6 : (N : Int) ≤ 1000000 := by omega
  have n7 : (-1000000 : Int) ≤ N := by omega
  have n8 : N ≤ 1000000 := by omega
  refine ok_run rfl ?_
  simp [cornerS, n8]
  refine ok_compNE (fun j acc h => acc = (List.range j).map (fun i => .r i) ∧ h = (List.range j).map fun i => .lst (rowL N (f i))) ⟨rfl, rfl⟩ (fun j x acc h hj hx I => ?_) (fun acc h I => ?_)
  · obtain ⟨rfl, rfl⟩ := I
    rw [rows_len] at hj
    simp [rowsF, hj] at hx
    subst hx
    simp [bindG, rowF]
    refine ⟨?_, ?_⟩
    · rw [List.range_succ, List.map_append]; simp
    · rw [List.range_succ, List.map_append]; simp [rowL]
  obtain ⟨rfl, rfl⟩ := I
  rw [rows_len]
  have hl : ((List.range N).map fun i => O.lst (rowL N (f i))).length = N := by simp
  have V0 : Vw (((List.range N).map fun i => O.lst (rowL N (f i))) ++ [.nst ((List.range N).map fun i => .r i)]) N N N id f := by
    refine ⟨?_, fun i hi => ?_, fun i j _ _ e => e⟩
    · rw [List.getElem?_append_right (by rw [hl]; exact Nat.le_refl _), hl, Nat.sub_self]
      rfl
    · rw [List.getElem?_append_left (by rw [hl]; exact hi)]
      simp [hi]
  have C0 : Clo (((List.range N).map fun i => O.lst (rowL N (f i))) ++ [.nst ((List.range N).map fun i => .r i)]) := fun x hx => by
    rcases List.mem_append.mp hx with z | z
    · obtain ⟨i, _, rfl⟩ := List.mem_map.mp z
      rfl
    · rw [List.mem_singleton.mp z]
      show ((List.range N).map fun i => D.r i).all (D.below _) = true
      rw [List.all_eq_true]
      intro y hy
      obtain ⟨i, hi, rfl⟩ := List.mem_map.mp hy
      have := List.mem_range.mp hi
      show decide (i < _) = true
      simp
      omega
  simp only [hl]
  generalize (((List.range N).map fun i => O.lst (rowL N (f i))) ++ [O.nst ((List.range N).map fun i => .r i)]) = h0 at V0 C0
  exact corner_main bd hN hB hr q V0 C0
end Px

/-! Pm10: the law's own doing of deeds, in place. -/
namespace Px
open PySem
variable {G : Pg} {F : Nat → List D → M (PyData × Bool)} {Q : PyData × Bool → List O → Prop}
/-- lists of lists, as they stand, made data -/
theorem valL_map {ks : Nat → Nat} {X : Nat → List PyData} : ∀ (l : List Nat) (h : List O), (∀ i ∈ l, h[ks i]? = some (.lst (X i)) ∨ h[ks i]? = some (.frz (X i))) → ∃ h', valL (l.map fun i => .r (ks i)) h = .ok (l.map fun i => .list (X i)) h'
  | [], h, _ => ⟨h, rfl⟩
  | a :: r, h, hp => by
    have ha := hp a (by simp)
    have e1 : ∃ h1, val1 (.r (ks a)) h = .ok (.list (X a)) h1 ∧ ∀ i ∈ r, h1[ks i]? = some (.lst (X i)) ∨ h1[ks i]? = some (.frz (X i)) := by
      rw [val1_r]
      rcases ha with z | z
      · rw [z]
        refine ⟨_, rfl, fun i hi => ?_⟩
        have hi := hp i (by simp [hi])
        by_cases e : ks a = ks i
        · rw [← e, List.getElem?_set_self (List.getElem?_eq_some_iff.mp z).1]
          rw [← e, z] at hi
          rcases hi with q | q
          · have q : X a = X i := by injection q with q; injection q
            rw [q]; exact .inr rfl
          · cases q
        · rw [List.getElem?_set_ne e]; exact hi
      · rw [z]
        exact ⟨_, rfl, fun i hi => hp i (by simp [hi])⟩
    obtain ⟨h1, e1, p1⟩ := e1
    obtain ⟨h2, e2⟩ := valL_map r h1 p1
    refine ⟨h2, ?_⟩
    rw [List.map_cons, valL_cons, e1]
    show (valL (r.map fun i => D.r (ks i)) h1).bnd _ = _
    rw [e2]
    rfl
theorem Vw.val {h : List O} {n N W : Nat} {ks : Nat → Nat} {f : Mt} (V : Vw h n N W ks f) : ∃ h', Px.val (.r n) h = .ok (.list ((List.range N).map fun i => .list (rowL W (f i)))) h' := by
  obtain ⟨h', e⟩ := valL_map (ks := ks) (X := fun i => rowL W (f i)) (List.range N) h fun i hi => .inl (V.row i (List.mem_range.mp hi))
  refine ⟨h'.set n (.frz ((List.range N).map fun i => .list (rowL W (f i)))), ?_⟩
  rw [val_r, V.top]
  show (match valL ((List.range N).map fun i => D.r (ks i)) h with | .ok ds h1 => Out.ok (PyData.list ds) (h1.set n (.frz ds)) | _ => .no) = _
  rw [e]

def ldTurn : S := .ife (.cmp .eq (.ix (.var 3) (.int 0)) (.str (Str.ofString "turn"))) (.seq (.ixs (.ixn (.var 2) (.var 4)) (.var 5) (.bin .sub (.int 0) (.ix (.ixn (.var 2) (.var 4)) (.var 5)))) .skip)
    .skip
def ldAdd : S := .ife (.cmp .eq (.ix (.var 3) (.int 0)) (.str (Str.ofString "add"))) (.seq (.set 6 (.bin .mul (.ix (.ixn (.var 2) (.ix (.var 3) (.int 2))) (.var
    5)) (.ix (.var 3) (.int 3)))) (.seq (.ixs (.ixn (.var 2) (.var 4)) (.var 5) (.bin .add (.ix (.ixn (.var 2) (.var 4)) (.var 5)) (.var 6))) .skip)) .skip
def ldIn : S := .for_ [5] false (.rng1 (.ix (.var 0) (.int 0))) (.seq ldTurn (.seq ldAdd .skip))
def ldSwap : S := .ife (.cmp .eq (.ix (.var 3) (.int 0)) (.str (Str.ofString "swap"))) (.seq (.swn (.var 2) (.var 4) (.var 2) (.ix (.var 3) (.int 2)) (.ixn (.var 2)
    (.ix (.var 3) (.int 2))) (.ixn (.var 2) (.var 4))) .skip) .skip
def ldBody : S := .seq (.set 4 (.ix (.var 3) (.int 1))) (.seq ldSwap (.seq ldIn .skip))
def ldoneS : S :=
    (.seq (.newN 2 (.comp [7] [7] false (.ix (.var 0) (.int 1)) .nil (.lof (.var 7)))) (.seq (.for_ [3] false (.var 1) ldBody) (.seq (.ret (.tup (.cons (.ix (.var 0) (.int 0)) (.cons (.blt .tuple (.cons (.comp [7] [7] false (.var 2) .nil (.blt .tuple (.cons (.var
    7) .nil))) .nil)) .nil)))) .skip)))
def led (g : Mt) (i : Nat) (u : Nat → Int) (c : Nat) : Mt := fun a b => if a = i ∧ b < c then u b else g a b
theorem Vw.led0 {h : List O} {m n w i : Nat} {ks : Nat → Nat} {g : Mt} {u : Nat → Int} (V : Vw h m n w ks g) : Vw h m n w ks (led g i u 0) := V.congr fun a _ b _ => by
  unfold led
  rw [if_neg (by omega)]
theorem Vw.led1 {h : List O} {m n w i c : Nat} {ks : Nat → Nat} {g : Mt} {u : Nat → Int} (V : Vw h m n w ks (led g i u c)) (hi : i < n) : Vw (h.set (ks i) (.lst ((rowL w (led g i u c i)).set c (.int (u c))))) m n w ks (led g i u (c + 1)) := (V.put hi).congr fun a _ b _ => by
  unfold setM led
  by_cases e : a = i ∧ b = c
  · obtain ⟨rfl, rfl⟩ := e
    rw [if_pos ⟨rfl, by omega⟩, if_pos ⟨rfl, rfl⟩]
  · rw [if_neg e]
    by_cases e2 : a = i ∧ b < c
    · rw [if_pos e2, if_pos (by omega)]
    · rw [if_neg e2, if_neg (by omega)]
theorem Vw.ledW {h : List O} {m n w i : Nat} {ks : Nat → Nat} {g : Mt} {u : Nat → Int} (V : Vw h m n w ks (led g i u w)) : Vw h m n w ks (rowU g i u) := V.congr fun a _ b hb => by
  unfold led rowU
  by_cases e : a = i
  · rw [if_pos e, if_pos ⟨e, hb⟩]
  · rw [if_neg e, if_neg (by omega)]
section
variable {m n w : Nat} {f g : Mt} {ks : Nat → Nat} {h : List O} {x1 x4 x5 x6 x7 : Option D}
theorem ld_in (hw : w ≤ 1000) {d : PyData} {i : Int} {I : Nat → Px.Env → List O → Prop} {Q : Fl × Px.Env → List O → Prop} (s : I 0 [some (.p (tabF n w f)), x1, some (.r m), some (.p d), some (.p (.int i)), x5, x6, x7] h)
    (step : ∀ c ρ h, c < w → I c ρ h → Ok (exec G F (.seq ldTurn (.seq ldAdd .skip)) (ρ.set 5 (some (.p (.int (c : Nat))))) h) fun r h => ∃ ρ, r = (.nx, ρ) ∧ I (c + 1) ρ h)
    (q : ∀ ρ h, I w ρ h → Q (.nx, ρ) h) :
    Ok (exec G F ldIn [some (.p (tabF n w f)), x1, some (.r m), some (.p d), some (.p (.int i)), x5, x6, x7] h) Q := by
  have w6 : (w : Int) ≤ 1000000 := by omega
  have w7 : (-1000000 : Int) ≤ w := by omega
  have e0 : ∀ h : List O, zIx (.p (tabF n w f)) (.p (.int 0)) h = .ok (.p (.int w)) h := fun h => by simp [tabF]
  have rl : rangeL 0 (w : Int) = (List.range w).map fun j => PyData.int ((0 + j : Nat) : Int) := range_one
  simp only [ldIn, ex_for]
  simp [e0, w6, w7]
  refine ok_forN (a := 0) (n := w) (by simp) I s (fun c ρ h hc J => ?_) q
  rw [Nat.zero_add]
  refine ok_mono (step c ρ h hc J) fun r h ⟨ρ, e, K⟩ => ?_
  subst e
  exact K
theorem ld_turn (hn : n ≤ 1000) (hw : w ≤ 1000) {i : Nat} (hi : i < n) (V : Vw h m n w ks g) :
    Ok (exec G F ldBody [some (.p (tabF n w f)), x1, some (.r m), some (.p (dD (.turn i))), x4, x5, x6, x7] h) fun r h' => ∃ x4 x5 x6, r = (.nx, [some (.p (tabF n w f)), x1, some (.r m), some (.p (dD (.turn i))), x4, x5, x6, x7]) ∧ Vw h' m n w ks (act (.turn i) g) := by
  unfold ldBody
  refine ok_then ?_
  simp [dD, ldSwap]
  refine (ld_in hw (I := fun c ρ h => ∃ x5 x6, ρ = [some (.p (tabF n w f)), x1, some (.r m), some (.p (.tuple [.str (Str.ofString "turn"), .int i])), some (.p (.int i)), x5, x6, x7] ∧ Vw h m n w ks (led g i (fun b => -g i b) c)) ⟨_, _, rfl, V.led0⟩ (fun c ρ h hc I => ?_) fun ρ h I => ?_)
  · obtain ⟨x5, x6, rfl, V⟩ := I
    simp only [List.set_cons_succ, List.set_cons_zero]
    have lv := livN_r V.top
    have ri := rd_lst (V.row i hi)
    have li := liv_lst (V.row i hi)
    have ai : L2.atI ((List.range n).map fun i => D.r (ks i)) (i : Int) = some (.r (ks i)) := by rw [atI_nat, V.at hi]
    have m0 : led g i (fun b => -g i b) c i c = g i c := if_neg (by omega)
    have aic : L2.atI (rowL w (led g i (fun b => -g i b) c i)) (c : Int) = some (.int (g i c)) := by rw [atI_nat, rowL_get hc, m0]
    have hl : c < (rowL w (led g i (fun b => -g i b) c i)).length := by rw [rowL_len]; exact hc
    have ixc : L2.ixN (rowL w (led g i (fun b => -g i b) c i)).length (c : Int) = some c := by rw [ixN_nat, if_pos hl]
    simp [ldTurn, ldAdd, dD, lv, ri, li, ai, aic, ixc]
    exact V.led1 hi
  · obtain ⟨x5, x6, rfl, V⟩ := I
    simp [dD]
    exact V.ledW
theorem ld_add (hn : n ≤ 1000) (hw : w ≤ 1000) {i k : Nat} {z : Int} (hi : i < n) (hk : k < n) (hik : i ≠ k) (oz : okBits z = true) (og : ∀ b, b < w → okBits (g k b) = true) (V : Vw h m n w ks g) :
    Ok (exec G F ldBody [some (.p (tabF n w f)), x1, some (.r m), some (.p (dD (.add i k z))), x4, x5, x6, x7] h) fun r h' => ∃ x4 x5 x6, r = (.nx, [some (.p (tabF n w f)), x1, some (.r m), some (.p (dD (.add i k z))), x4, x5, x6, x7]) ∧ Vw h' m n w ks (act (.add i k z) g) := by
  unfold ldBody
  refine ok_then ?_
  simp [dD, ldSwap]
  refine (ld_in hw (I := fun c ρ h => ∃ x5 x6, ρ = [some (.p (tabF n w f)), x1, some (.r m), some (.p (.tuple [.str (Str.ofString "add"), .int i, .int k, .int z])), some (.p (.int i)), x5, x6, x7] ∧ Vw h m n w ks (led g i (fun b => g i b + z * g k b) c)) ⟨_, _, rfl, V.led0⟩ (fun c ρ h hc I => ?_) fun ρ h I => ?_)
  · obtain ⟨x5, x6, rfl, V⟩ := I
    simp only [List.set_cons_succ, List.set_cons_zero]
    have lv := livN_r V.top
    have ri := rd_lst (V.row i hi)
    have rk := rd_lst (V.row k hk)
    have li := liv_lst (V.row i hi)
    have ai : L2.atI ((List.range n).map fun i => D.r (ks i)) (i : Int) = some (.r (ks i)) := by rw [atI_nat, V.at hi]
    have ak : L2.atI ((List.range n).map fun i => D.r (ks i)) (k : Int) = some (.r (ks k)) := by rw [atI_nat, V.at hk]
    have m0 : led g i (fun b => g i b + z * g k b) c i c = g i c := if_neg (by omega)
    have m1 : led g i (fun b => g i b + z * g k b) c k c = g k c := if_neg (by omega)
    have aic : L2.atI (rowL w (led g i (fun b => g i b + z * g k b) c i)) (c : Int) = some (.int (g i c)) := by rw [atI_nat, rowL_get hc, m0]
    have akc : L2.atI (rowL w (led g i (fun b => g i b + z * g k b) c k)) (c : Int) = some (.int (g k c)) := by rw [atI_nat, rowL_get hc, m1]
    have hl : c < (rowL w (led g i (fun b => g i b + z * g k b) c i)).length := by rw [rowL_len]; exact hc
    have ixc : L2.ixN (rowL w (led g i (fun b => g i b + z * g k b) c i)).length (c : Int) = some c := by rw [ixN_nat, if_pos hl]
    have o1 := og c hc
    simp [ldTurn, ldAdd, dD, lv, ri, rk, li, ai, ak, aic, akc, ixc, o1, oz]
    rw [Int.mul_comm (g k c) z]
    exact V.led1 hi
  · obtain ⟨x5, x6, rfl, V⟩ := I
    simp [dD]
    exact V.ledW
theorem ld_swap (hn : n ≤ 1000) (hw : w ≤ 1000) {i k : Nat} (hi : i < n) (hk : k < n) (hik : i ≠ k) (V : Vw h m n w ks g) :
    Ok (exec G F ldBody [some (.p (tabF n w f)), x1, some (.r m), some (.p (dD (.swap i k))), x4, x5, x6, x7] h) fun r h' => ∃ x4 x5 x6, r = (.nx, [some (.p (tabF n w f)), x1, some (.r m), some (.p (dD (.swap i k))), x4, x5, x6, x7]) ∧ ∃ ks, Vw h' m n w ks (act (.swap i k) g) := by
  unfold ldBody
  refine ok_then ?_
  have lv := livN_r V.top
  have ai : L2.atI ((List.range n).map fun i => D.r (ks i)) (i : Int) = some (.r (ks i)) := by rw [atI_nat, V.at hi]
  have ak : L2.atI ((List.range n).map fun i => D.r (ks i)) (k : Int) = some (.r (ks k)) := by rw [atI_nat, V.at hk]
  have j1 : L2.ixN n (i : Int) = some i := by rw [ixN_nat, if_pos hi]
  have j2 : L2.ixN n (k : Int) = some k := by rw [ixN_nat, if_pos hk]
  have hm := (List.getElem?_eq_some_iff.mp V.top).1
  have V2 := V.swap hi hk hik
  have lv1 : livN (.r m) (h.set m (.nst (((List.range n).map fun i => D.r (ks i)).set i (.r (ks k))))) = .ok (m, ((List.range n).map fun i => D.r (ks i)).set i (.r (ks k))) (h.set m (.nst (((List.range n).map fun i => D.r (ks i)).set i (.r (ks k))))) := livN_r (List.getElem?_set_self hm)
  simp [dD, ldSwap, lv, ai, ak, j1, j2, lv1]
  refine (ld_in hw (I := fun c ρ h => ∃ x5 x6, ρ = [some (.p (tabF n w f)), x1, some (.r m), some (.p (.tuple [.str (Str.ofString "swap"), .int i, .int k])), some (.p (.int i)), x5, x6, x7] ∧ Vw h m n w (swpK ks i k) (swp2 g i k)) ⟨_, _, rfl, V2⟩ (fun c ρ h hc I => ?_) fun ρ h I => ?_)
  · obtain ⟨x5, x6, rfl, V⟩ := I
    simp only [List.set_cons_succ, List.set_cons_zero]
    simp [ldTurn, ldAdd, dD]
    exact V
  · obtain ⟨x5, x6, rfl, V⟩ := I
    simp [dD]
    exact ⟨_, V⟩
theorem ld_body (hn : n ≤ 1000) (hw : w ≤ 1000) {d : Deed} (hd : d.ok n) (oz : ∀ i j c, d = .add i j c → okBits c = true) (og : ∀ i, i < n → ∀ b, b < w → okBits (g i b) = true) (V : Vw h m n w ks g) :
    Ok (exec G F ldBody [some (.p (tabF n w f)), x1, some (.r m), some (.p (dD d)), x4, x5, x6, x7] h) fun r h' => ∃ x4 x5 x6, r = (.nx, [some (.p (tabF n w f)), x1, some (.r m), some (.p (dD d)), x4, x5, x6, x7]) ∧ ∃ ks, Vw h' m n w ks (act d g) := by
  cases d with
  | turn i => exact ok_mono (ld_turn hn hw hd V) fun r h ⟨x4, x5, x6, e, W⟩ => ⟨x4, x5, x6, e, _, W⟩
  | swap i k => exact ld_swap hn hw hd.1 hd.2.1 hd.2.2 V
  | add i k z => exact ok_mono (ld_add hn hw hd.1 hd.2.1 hd.2.2 (oz _ _ _ rfl) (og _ hd.2.1) V) fun r h ⟨x4, x5, x6, e, W⟩ => ⟨x4, x5, x6, e, _, W⟩
end
theorem ldone_ok {n w B C : Nat} {ds : List Deed} {f : Mt} (hn : n ≤ 1000) (hw : w ≤ 1000) (hd : ∀ d ∈ ds, d.ok n ∧ d.lim C) (bf : Bm n w B f) (hB : ∀ k, k ≤ ds.length → B * (C + 1) ^ k ≤ 2 ^ 8000) (hC : C ≤ 2 ^ 8000)
    (q : ∀ b h, Q (tabF n w (acts ds f), b) h) : Ok (runFn G F ⟨2, 8, ldoneS⟩ [.p (tabF n w f), .p (.tuple (ds.map dD))] []) Q := by
  have n8 : n ≤ 1000000 := by omega
  have w8 : w ≤ 1000000 := by omega
  refine ok_run rfl ?_
  have e1 : ∀ h : List O, zIx (.p (tabF n w f)) (.p (.int 1)) h = .ok (.p (.tuple (rowsF n w f))) h := fun h => by simp [tabF]
  have e0 : ∀ h : List O, zIx (.p (tabF n w f)) (.p (.int 0)) h = .ok (.p (.int w)) h := fun h => by simp [tabF]
  have rl : (rowsF n w f).length = n := rows_len
  unfold ldoneS
  refine ok_then ?_
  simp [e1, rl, n8]
  refine ok_compNE (fun j acc h => acc = (List.range j).map (fun i => .r i) ∧ h = (List.range j).map fun i => .lst (rowL w (f i))) ⟨rfl, rfl⟩ (fun j x acc h hj hx I => ?_) (fun acc h I => ?_)
  · obtain ⟨rfl, rfl⟩ := I
    rw [rows_len] at hj
    simp [rowsF, hj] at hx
    subst hx
    simp [bindG, rowF, w8]
    refine ⟨?_, ?_⟩
    · rw [List.range_succ, List.map_append]; simp
    · rw [List.range_succ, List.map_append]; simp [rowL]
  obtain ⟨rfl, rfl⟩ := I
  rw [rows_len]
  have hl : ((List.range n).map fun i => O.lst (rowL w (f i))).length = n := by simp
  have V0 : Vw (((List.range n).map fun i => O.lst (rowL w (f i))) ++ [.nst ((List.range n).map fun i => .r i)]) n n w id f := by
    refine ⟨?_, fun i hi => ?_, fun i j _ _ e => e⟩
    · rw [List.getElem?_append_right (by rw [hl]; exact Nat.le_refl _), hl, Nat.sub_self]
      rfl
    · rw [List.getElem?_append_left (by rw [hl]; exact hi)]
      simp [hi]
  simp [hl]
  generalize (((List.range n).map fun i => O.lst (rowL w (f i))) ++ [O.nst ((List.range n).map fun i => .r i)]) = h0 at V0 ⊢
  have len : (ds.map dD).length = ds.length := by simp
  refine ok_forE (fun j ρ h => ∃ x3 x4 x5 x6 ks, ρ = [some (.p (tabF n w f)), some (.p (.tuple (ds.map dD))), some (.r n), x3, x4, x5, x6, none] ∧ Vw h n n w ks (acts (ds.take j) f)) ⟨_, _, _, _, _, rfl, V0⟩ (fun j x ρ h hj hx I => ?_) (fun ρ h I => ?_)
  · obtain ⟨x3, x4, x5, x6, ks, rfl, V⟩ := I
    rw [len] at hj
    have hx : x = dD ds[j] := by
      rw [List.getElem?_map, List.getElem?_eq_getElem hj] at hx
      simpa using hx.symm
    subst hx
    have hm := hd _ (List.getElem_mem hj)
    have bb := acts_bound (ds := ds.take j) (fun d h => hd d (List.mem_of_mem_take h)) bf
    rw [List.length_take, Nat.min_eq_left (Nat.le_of_lt hj)] at bb
    have ok1 : ∀ i, i < n → ∀ k, k < w → okBits (acts (ds.take j) f i k) = true := fun i hi k hk => ok8000 (Nat.le_trans (bb i hi k hk) (hB j (by omega)))
    simp only [bindG, Bool.false_eq_true, if_false, opt_some, ok_ok1, List.set_cons_succ, List.set_cons_zero]
    refine ok_mono (ld_body hn hw hm.1 (fun a b c e => ?_) ok1 V) fun r h ⟨x4, x5, x6, e, ks, W⟩ => ?_
    · have l := hm.2
      rw [e] at l
      exact ok8000 (Nat.le_trans l hC)
    · subst e
      simp only [goes_nx]
      refine ⟨_, _, _, _, ks, rfl, ?_⟩
      rw [List.take_succ_eq_append_getElem hj, acts_snoc]
      exact W
  · obtain ⟨x3, x4, x5, x6, ks, rfl, V⟩ := I
    rw [len, List.take_length] at V
    obtain ⟨h1, e⟩ := V.val
    simp [e0, e, n8, -val_r]
    refine ok_compE (fun j acc h => h = h1 ∧ acc = (rowsF n w (acts ds f)).take j) ⟨rfl, rfl⟩ (fun j x acc h hj hx I => ?_) (fun acc h I => ?_)
    · obtain ⟨rfl, rfl⟩ := I
      simp at hj
      simp [hj] at hx
      subst hx
      simp [bindG, rowL_len, w8]
      rw [List.take_add_one]
      simp [rowsF, hj, rowF, rowL]
    · obtain ⟨rfl, rfl⟩ := I
      simp
      rw [List.take_of_length_le (by rw [rows_len]; exact Nat.le_refl _)]
      exact q _ _
end Px

/-! Pm11: deeds that lead back; the defs of deeds by their places. -/
namespace Px
open PySem
variable {G : Pg} {F : Nat → List D → M (PyData × Bool)} {Q : PyData × Bool → List O → Prop}
def contr : Deed → Deed
  | .turn i => .turn i
  | .swap i j => .swap i j
  | .add i j c => .add i j (-c)
def backs (ds : List Deed) : List Deed := (ds.map contr).reverse
theorem contr_ok {n C : Nat} {d : Deed} (h : d.ok n ∧ d.lim C) : (contr d).ok n ∧ (contr d).lim C := by
  cases d with
  | turn i => exact h
  | swap i j => exact h
  | add i j c => exact ⟨h.1, by have := h.2; show (-c).natAbs ≤ C; rw [Int.natAbs_neg]; exact this⟩
theorem contr_two (d : Deed) : contr (contr d) = d := by
  cases d <;> simp [contr]
theorem backs_ok {n C : Nat} {ds : List Deed} (h : ∀ d ∈ ds, d.ok n ∧ d.lim C) : ∀ d ∈ backs ds, d.ok n ∧ d.lim C := fun d hd => by
  unfold backs at hd
  rw [List.mem_reverse] at hd
  obtain ⟨e, he, rfl⟩ := List.mem_map.mp hd
  exact contr_ok (h e he)
theorem backs_len {ds : List Deed} : (backs ds).length = ds.length := by simp [backs]
theorem backs_two (ds : List Deed) : backs (backs ds) = ds := by
  unfold backs
  rw [List.map_reverse, List.reverse_reverse, List.map_map]
  have : contr ∘ contr = id := funext fun d => contr_two d
  rw [this, List.map_id]
def contraryS : S :=
    (.seq (.ife (.cmp .eq (.ix (.var 0) (.int 0)) (.str (Str.ofString "add"))) (.seq (.ret (.bin .add (.sl (.var 0) .nil (.int 3)) (.tup (.cons (.neg (.ix (.var
    0) (.int 3))) .nil)))) .skip) .skip) (.seq (.ret (.var 0)) .skip))
def ledBackS (c : Nat) : S :=
    (.seq (.ret (.blt .tuple (.cons (.comp [1] [1] false (.slr (.var 0)) .nil (.call c (.cons (.var 1) .nil))) .nil))) .skip)
def lledBackS : S :=
    (.seq (.set 1 (.tup .nil)) (.seq (.for_ [2] false (.var 0) (.seq (.ife (.cmp .eq (.ix (.var 2) (.int 0)) (.str (Str.ofString "add"))) (.seq (.set 2 (.tup
    (.cons (.str (Str.ofString "add")) (.cons (.ix (.var 2) (.int 1)) (.cons (.ix (.var 2) (.int 2)) (.cons (.bin .sub (.int 0) (.ix (.var 2) (.int 3)))
    .nil)))))) .skip) .skip) (.seq (.set 1 (.bin .add (.tup (.cons (.var 2) .nil)) (.var 1))) .skip))) (.seq (.ret (.var 1)) .skip)))
theorem contrary_ok {d : Deed} (q : ∀ b, Q (dD (contr d), b) []) : Ok (runFn G F ⟨1, 1, contraryS⟩ [.p (dD d)] []) Q := by
  refine ok_run rfl ?_
  cases d with
  | turn i => simp [contraryS, dD]; exact q _
  | swap i j => simp [contraryS, dD]; exact q _
  | add i j c =>
    have sl : slD (.tuple [.str (Str.ofString "add"), .int i, .int j, .int c]) none (some 3) = some (.tuple [.str (Str.ofString "add"), .int i, .int j]) := rfl
    simp [contraryS, dD, sl]
    exact q _
theorem ledBack_ok {c : Nat} {ds : List Deed} (hl : ds.length ≤ 1000) (g : ∀ d : Deed, Gives F c [dD d] (dD (contr d))) (q : ∀ b, Q (.tuple ((backs ds).map dD), b) []) : Ok (runFn G F ⟨1, 2, ledBackS c⟩ [.p (.tuple (ds.map dD))] []) Q := by
  have h6 : ds.length ≤ 1000000 := by omega
  refine ok_run rfl ?_
  simp [ledBackS, h6]
  have er : (ds.map dD).reverse = ds.reverse.map dD := (List.map_reverse).symm
  have eb : backs ds = ds.reverse.map contr := by unfold backs; rw [List.map_reverse]
  have lr : ds.reverse.length ≤ 1000000 := by simpa using h6
  rw [er]
  rw [eb] at q
  generalize ds.reverse = rs at q lr
  refine ok_compE (fun j acc h => h = [] ∧ acc = ((rs.take j).map contr).map dD) ⟨rfl, by simp⟩ (fun j x acc h hj hx I => ?_) (fun acc h I => ?_)
  · obtain ⟨rfl, rfl⟩ := I
    simp at hj
    have hx : x = dD rs[j] := by
      rw [List.getElem?_map, List.getElem?_eq_getElem hj] at hx
      simpa using hx.symm
    subst hx
    have e : ((rs.take (j + 1)).map contr).map dD = ((rs.take j).map contr).map dD ++ [dD (contr rs[j])] := by
      rw [List.take_succ_eq_append_getElem hj, List.map_append, List.map_append]
      rfl
    rw [e]
    simp only [bindG, Bool.false_eq_true, if_false, opt_some, ok_ok1]
    simp
    refine gives_call1 (g _) fun b => ?_
    simp
  · obtain ⟨rfl, rfl⟩ := I
    have e : rs.take (rs.map dD).length = rs := List.take_of_length_le (by simp)
    rw [e]
    simp [lr]
    have := q false
    simpa using this
theorem lledBack_ok {ds : List Deed} (hl : ds.length ≤ 1000) (q : ∀ b, Q (.tuple ((backs ds).map dD), b) []) : Ok (runFn G F ⟨1, 3, lledBackS⟩ [.p (.tuple (ds.map dD))] []) Q := by
  refine ok_run rfl ?_
  simp [lledBackS]
  have len : (ds.map dD).length = ds.length := by simp
  refine ok_forE (fun j ρ h => h = [] ∧ ∃ x2, ρ = [some (.p (.tuple (ds.map dD))), some (.p (.tuple ((backs (ds.take j)).map dD))), x2]) ⟨rfl, _, rfl⟩ (fun j x ρ h hj hx I => ?_) (fun ρ h I => ?_)
  · obtain ⟨rfl, x2, rfl⟩ := I
    rw [len] at hj
    have hx : x = dD ds[j] := by
      rw [List.getElem?_map, List.getElem?_eq_getElem hj] at hx
      simpa using hx.symm
    subst hx
    have bl : (backs (ds.take j)).length = j := by rw [backs_len, List.length_take]; omega
    have e : dD (contr ds[j]) :: (backs (ds.take j)).map dD = (backs (ds.take (j + 1))).map dD := by
      unfold backs
      rw [List.take_succ_eq_append_getElem hj, List.map_append, List.reverse_append]
      rfl
    have j6 : 1 + j ≤ 1000000 := by omega
    simp only [bindG, Bool.false_eq_true, if_false, opt_some, ok_ok1, List.set_cons_succ, List.set_cons_zero]
    generalize hd : ds[j] = d at e
    cases d with
    | turn i =>
      simp [dD, bl, j6]
      exact e
    | swap i k =>
      simp [dD, bl, j6]
      exact e
    | add i k c =>
      simp [dD, bl, j6]
      exact e
  · obtain ⟨rfl, x2, rfl⟩ := I
    rw [len, List.take_length]
    simp
    exact q _

/-! ### by their places -/
structure DeedFns (fns : List Fn) (whole place deed look behind done : Nat) : Prop where
  p0 : fns[whole]? = some ⟨1, 1, isWholeS⟩
  p1 : fns[place]? = some ⟨2, 2, isPlaceS whole⟩
  p2 : fns[deed]? = some ⟨2, 2, isDeedS whole place⟩
  p3 : fns[look]? = some ⟨2, 4, lookAtS deed⟩
  p4 : fns[behind]? = some ⟨2, 6, behindS⟩
  p5 : fns[done]? = some ⟨2, 4, doneS look behind⟩
theorem pow_up {B C k l : Nat} (h : B * (C + 1) ^ l ≤ 2 ^ 8000) (hk : k ≤ l) : B * (C + 1) ^ k ≤ 2 ^ 8000 := Nat.le_trans (Nat.mul_le_mul_left _ (Nat.pow_le_pow_right (by omega) hk)) h
section
variable {fns : List Fn} {wh pl de lo be dn : Nat} {P : Pg}
theorem DeedFns.whole (T : DeedFns fns wh pl de lo be dn) {k : Nat} (i : Int) : Gives (callN P fns (k + 1)) wh [.int i] (.bool true) := fun Q q => by
  show Ok (callN P fns (k + 1) wh [.p (.int i)] []) Q
  rw [at_ T.p0]
  exact whole_ok fun b => q _ _
theorem DeedFns.place (T : DeedFns fns wh pl de lo be dn) {k n i : Nat} (h : i < n) : Gives (callN P fns (k + 2)) pl [.int n, .int i] (.bool true) := fun Q q => by
  show Ok (callN P fns (k + 1 + 1) pl [.p (.int n), .p (.int i)] []) Q
  rw [at_ T.p1]
  exact place_ok (fun i => T.whole i) h fun b => q _ _
theorem DeedFns.deed (T : DeedFns fns wh pl de lo be dn) (hG : P.ds[0]? = some lens) {k n : Nat} (d : Deed) (h : d.ok n) : Gives (callN P fns (k + 3)) de [.int n, dD d] (.bool true) := fun Q q => by
  show Ok (callN P fns (k + 2 + 1) de [.p (.int n), .p (dD d)] []) Q
  rw [at_ T.p2]
  exact deed_ok hG (fun i => T.whole (k := k + 1) i) (fun i hi => T.place hi) h fun b => q _ _
theorem DeedFns.look (T : DeedFns fns wh pl de lo be dn) (hG : P.ds[0]? = some lens) {k n : Nat} {ds : List Deed} (h : ∀ d ∈ ds, d.ok n) : Gives (callN P fns (k + 4)) lo [.int n, .tuple (ds.map dD)] .none := fun Q q => by
  show Ok (callN P fns (k + 3 + 1) lo [.p (.int n), .p (.tuple (ds.map dD))] []) Q
  rw [at_ T.p3]
  exact look_ok (fun e he => T.deed hG e he) h fun b => q _ _
theorem DeedFns.behind (T : DeedFns fns wh pl de lo be dn) {k n w : Nat} (hn : n ≤ 1000) (hw : w ≤ 1000) (d : Deed) (g : Mt) (h : d.ok n) (o1 : ∀ i, i < n → ∀ j, j < w → okBits (g i j) = true) (o2 : ∀ i j c, d = .add i j c → okBits c = true) : Gives (callN P fns (k + 1)) be [.list (rowsF n w g), dD d] (.list (rowsF n w (act d g))) := fun Q q => by
  show Ok (callN P fns (k + 1) be [.p (.list (rowsF n w g)), .p (dD d)] []) Q
  rw [at_ T.p4]
  exact behind_ok hn hw h o1 o2 (q _ _)
theorem DeedFns.done (T : DeedFns fns wh pl de lo be dn) (hG : P.ds[0]? = some lens) {k n w B C : Nat} {ds : List Deed} {f : Mt} (hn : n ≤ 1000) (hw : w ≤ 1000) (hd : ∀ d ∈ ds, d.ok n ∧ d.lim C) (bf : Bm n w B f) (hB : B * (C + 1) ^ ds.length ≤ 2 ^ 8000) (hC : C ≤ 2 ^ 8000) : Gives (callN P fns (k + 5)) dn [tabF n w f, .tuple (ds.map dD)] (tabF n w (acts ds f)) := fun Q q => by
  show Ok (callN P fns (k + 4 + 1) dn [.p (tabF n w f), .p (.tuple (ds.map dD))] []) Q
  rw [at_ T.p5]
  exact done_ok hn hw hd bf (fun i hi => Px.pow_up hB hi) hC (T.look hG fun d h => (hd d h).1) (fun d g h o1 o2 => T.behind hn hw d g h o1 o2) fun b => q _ _
end
/-- the draws alone -/
structure DrawFns (fns : List Fn) (d nb de ds : Nat) : Prop where
  p0 : fns[d]? = some ⟨2, 5, drawS⟩
  p1 : fns[nb]? = some ⟨1, 2, numberS d⟩
  p2 : fns[de]? = some ⟨2, 5, ldeedS d nb⟩
  p3 : fns[ds]? = some ⟨3, 4, ldeedsS d de⟩
section
variable {fns : List Fn} {d nb de ds : Nat} {P : Pg}
theorem DrawFns.draw (T : DrawFns fns d nb de ds) {k : Nat} : DrawAt (callN P fns (k + 1)) d := fun many h0 h1 b xs Q hf hb q => by
  show Ok (callN P fns (k + 1) d [.r 0, .p (.int many)] [.lst xs]) Q
  rw [at_ T.p0]
  refine draw_ok hf (by omega) (by omega) (by omega) fun r ys r0 r1 fd => ?_
  obtain ⟨k, rfl⟩ := Int.eq_ofNat_of_zero_le r0
  exact q _ _ _ ⟨k, rfl, by omega⟩ fd
theorem DrawFns.number (T : DrawFns fns d nb de ds) {k : Nat} : Draws (callN P fns (k + 2)) nb [] 2 (isNum 99) := fun b xs Q hf hb q => by
  show Ok (callN P fns (k + 1 + 1) nb [.r 0] [.lst xs]) Q
  rw [at_ T.p1]
  exact number_ok T.draw hf hb q
theorem DrawFns.deed (T : DrawFns fns d nb de ds) {k n : Nat} (h0 : 0 < n) (hn : n ≤ 1000) : Draws (callN P fns (k + 3)) de [.int n] 5 (isDeed n) := fun b xs Q hf hb q => by
  show Ok (callN P fns (k + 2 + 1) de [.r 0, .p (.int n)] [.lst xs]) Q
  rw [at_ T.p2]
  exact ldeed_ok T.draw T.number h0 hn hf hb q
theorem DrawFns.deeds (T : DrawFns fns d nb de ds) {k n m : Nat} (hn : n ≤ 1000) (hm : m ≤ 1000) : Draws (callN P fns (k + 4)) ds [.int n, .int m] (1 + 5 * m) (isDeeds n m) := fun b xs Q hf hb q => by
  show Ok (callN P fns (k + 3 + 1) ds [.r 0, .p (.int n), .p (.int m)] [.lst xs]) Q
  rw [at_ T.p3]
  exact ldeeds_ok T.draw (fun h0 => T.deed h0 hn) hn hm hf hb q
end
end Px

/-! Pd4: deeds and products. -/
namespace Px
open PySem
def Ag (n w : Nat) (f g : Mt) : Prop := ∀ i, i < n → ∀ j, j < w → f i j = g i j
theorem Ag.symm {n w : Nat} {f g : Mt} (h : Ag n w f g) : Ag n w g f := fun i hi j hj => (h i hi j hj).symm
theorem Ag.trans {n w : Nat} {f g k : Mt} (h : Ag n w f g) (h2 : Ag n w g k) : Ag n w f k := fun i hi j hj => (h i hi j hj).trans (h2 i hi j hj)
theorem Ag.tab {n w : Nat} {f g : Mt} (h : Ag n w f g) : tabF n w f = tabF n w g := tabF_congr h
theorem act_mm {m : Nat} {d : Deed} {f g : Mt} : act d (mm m f g) = mm m (act d f) g := by
  funext a b
  cases d with
  | turn i =>
    show rowU (mm m f g) i (fun k => -mm m f g i k) a b = sg m fun j => rowU f i (fun k => -f i k) a j * g j b
    unfold rowU
    by_cases e : a = i
    · subst e
      rw [if_pos rfl]
      simp only [if_true]
      show -(sg m fun j => f a j * g j b) = _
      have := sg_mul m (-1) fun j => f a j * g j b
      rw [show sg m (fun j => -f a j * g j b) = sg m (fun j => -1 * (f a j * g j b)) from sg_congr fun j _ => by rw [Int.neg_mul, Int.neg_mul, Int.one_mul], this]
      omega
    · simp only [e, if_false]
      rfl
  | swap i k =>
    show swp2 (mm m f g) i k a b = sg m fun j => swp2 f i k a j * g j b
    unfold swp2 rowU
    by_cases e : a = k
    · simp only [e, if_true]; rfl
    · by_cases e2 : a = i
      · simp only [e2, if_true]
        split <;> rfl
      · simp only [e, e2, if_false]; rfl
  | add i k c =>
    show rowU (mm m f g) i (fun x => mm m f g i x + c * mm m f g k x) a b = sg m fun j => rowU f i (fun x => f i x + c * f k x) a j * g j b
    unfold rowU
    by_cases e : a = i
    · subst e
      simp only [if_true]
      show (sg m fun j => f a j * g j b) + c * (sg m fun j => f k j * g j b) = _
      rw [← sg_mul, ← sg_add]
      exact sg_congr fun j _ => by rw [Int.add_mul, Int.mul_assoc]
    · simp only [e, if_false]; rfl
theorem acts_mm {m : Nat} : ∀ {ds : List Deed} {f g : Mt}, acts ds (mm m f g) = mm m (acts ds f) g
  | [], _, _ => rfl
  | d :: ds, f, g => by
    show acts ds (act d (mm m f g)) = mm m (acts ds (act d f)) g
    rw [act_mm, acts_mm]
theorem act_congr {n w : Nat} {d : Deed} {f g : Mt} (hd : d.ok n) (h : Ag n w f g) : Ag n w (act d f) (act d g) := fun a ha b hb => by
  cases d with
  | turn i =>
    show rowU f i (fun k => -f i k) a b = rowU g i (fun k => -g i k) a b
    unfold rowU
    split
    · show -f i b = -g i b
      rw [h i hd b hb]
    · exact h a ha b hb
  | swap i k =>
    show swp2 f i k a b = swp2 g i k a b
    unfold swp2 rowU
    split
    · exact h i hd.1 b hb
    · split
      · exact h k hd.2.1 b hb
      · exact h a ha b hb
  | add i k c =>
    show rowU f i (fun x => f i x + c * f k x) a b = rowU g i (fun x => g i x + c * g k x) a b
    unfold rowU
    split
    · show f i b + c * f k b = g i b + c * g k b
      rw [h i hd.1 b hb, h k hd.2.1 b hb]
    · exact h a ha b hb
theorem acts_congr {n w : Nat} : ∀ {ds : List Deed} {f g : Mt}, (∀ d ∈ ds, d.ok n) → Ag n w f g → Ag n w (acts ds f) (acts ds g)
  | [], _, _, _, h => h
  | d :: ds, f, g, hd, h => acts_congr (ds := ds) (fun e he => hd e (by simp [he])) (act_congr (hd d (by simp)) h)
theorem acts_app {ds es : List Deed} {f : Mt} : acts (ds ++ es) f = acts es (acts ds f) := by simp [acts, List.foldl_append]
/-- the table of deeds times a table -/
theorem acts_times {n w : Nat} {ds : List Deed} {f : Mt} (hd : ∀ d ∈ ds, d.ok n) : Ag n w (mm n (acts ds idf) f) (acts ds f) := by
  rw [← acts_mm]
  exact acts_congr hd fun i hi j _ => one_mm j hi
theorem contr_act {n : Nat} {d : Deed} {f : Mt} (hd : d.ok n) : act (contr d) (act d f) = f := by
  funext a b
  cases d with
  | turn i =>
    show rowU (rowU f i fun k => -f i k) i (fun k => -(rowU f i fun k => -f i k) i k) a b = f a b
    unfold rowU
    by_cases e : a = i
    · subst e; simp
    · simp [e]
  | swap i k =>
    have ne : i ≠ k := hd.2.2
    show swp2 (swp2 f i k) i k a b = f a b
    unfold swp2 rowU
    by_cases e : a = k
    · subst e; simp [ne]
    · by_cases e2 : a = i
      · subst e2; simp [e]
      · simp [e, e2]
  | add i k c =>
    have ne : k ≠ i := fun z => hd.2.2 z.symm
    show rowU (rowU f i fun x => f i x + c * f k x) i (fun x => (rowU f i fun x => f i x + c * f k x) i x + -c * (rowU f i fun x => f i x + c * f k x) k x) a b = f a b
    unfold rowU
    by_cases e : a = i
    · subst e
      simp only [if_true, ne, if_false]
      rw [Int.neg_mul]
      omega
    · simp [e]
theorem back_acts {n : Nat} : ∀ {ds : List Deed} {f : Mt}, (∀ d ∈ ds, d.ok n) → acts (backs ds) (acts ds f) = f
  | [], _, _ => rfl
  | d :: ds, f, hd => by
    have e : backs (d :: ds) = backs ds ++ [contr d] := by simp [backs]
    rw [e, acts_app]
    show act (contr d) (acts (backs ds) (acts ds (act d f))) = f
    rw [back_acts fun e he => hd e (by simp [he]), contr_act (hd d (by simp))]
theorem backs_ok1 {n : Nat} {ds : List Deed} (h : ∀ d ∈ ds, d.ok n) : ∀ d ∈ backs ds, d.ok n := fun d hd => by
  unfold backs at hd
  rw [List.mem_reverse] at hd
  obtain ⟨e, he, rfl⟩ := List.mem_map.mp hd
  have := h e he
  cases e <;> exact this
theorem acts_back {n : Nat} {ds : List Deed} {f : Mt} (hd : ∀ d ∈ ds, d.ok n) : acts ds (acts (backs ds) f) = f := by
  have := back_acts (f := f) (backs_ok1 hd)
  rwa [backs_two] at this
theorem backs_app {ds es : List Deed} : backs (ds ++ es) = backs es ++ backs ds := by simp [backs]
/-- back and back: the unit -/
theorem mm_back {n : Nat} {ds : List Deed} (hd : ∀ d ∈ ds, d.ok n) : Ag n n (mm n (acts ds idf) (acts (backs ds) idf)) idf := by
  have := acts_times (w := n) (f := acts (backs ds) idf) hd
  rwa [acts_back hd] at this
theorem mm_back2 {n : Nat} {ds : List Deed} (hd : ∀ d ∈ ds, d.ok n) : Ag n n (mm n (acts (backs ds) idf) (acts ds idf)) idf := by
  have := acts_times (w := n) (f := acts ds idf) (backs_ok1 hd)
  rwa [back_acts hd] at this
/-- turned over: by columns -/
theorem tr_acts {n w : Nat} {ds : List Deed} {f : Mt} (hd : ∀ d ∈ ds, d.ok w) : Ag n w (trf (acts ds (trf f))) (mm w f (trf (acts ds idf))) := fun i hi j hj => by
  have := (acts_times (w := n) (f := trf f) hd) j hj i hi
  show acts ds (trf f) j i = _
  rw [← this]
  exact sg_congr fun k _ => Int.mul_comm _ _
/-- one that turns a row, or puts it to another -/
theorem row_some {n r : Nat} {ds : List Deed} (hd : ∀ d ∈ ds, d.ok n) (hr : r < n) (z : ∀ k, k < n → acts ds idf r k = 0) : False := by
  have := mm_back hd r hr r hr
  have e : mm n (acts ds idf) (acts (backs ds) idf) r r = 0 := by
    show sg n (fun k => acts ds idf r k * acts (backs ds) idf k r) = 0
    rw [sg_congr (g := fun _ => 0) fun k hk => by rw [z k hk, Int.zero_mul], sg_zero]
  rw [e] at this
  simp [idf] at this
/-- the deed more moves the unit -/
def Moves (n : Nat) (e : Deed) : Prop := (∃ i, e = .turn i ∧ i < n) ∨ ∃ i j, e = .add i j 1 ∧ i < n ∧ j < n ∧ i ≠ j
theorem Moves.ok {n : Nat} {e : Deed} (h : Moves n e) : e.ok n ∧ e.lim 99 := by
  rcases h with ⟨i, rfl, h⟩ | ⟨i, j, rfl, h⟩
  · exact ⟨h, trivial⟩
  · exact ⟨h, by show (1 : Int).natAbs ≤ 99; decide⟩
theorem moves_unit {n : Nat} {e : Deed} (h : Moves n e) : ¬ Ag n n (act e idf) idf := fun q => by
  rcases h with ⟨i, rfl, h⟩ | ⟨i, j, rfl, h1, h2, h3⟩
  · have := q i h i h
    simp [act, idf, rowU] at this
  · have := q i h1 j h2
    have ne : ¬ j = i := fun z => h3 z.symm
    simp [act, idf, rowU, ne] at this
theorem moves_table {n : Nat} {e : Deed} {ds : List Deed} (h : Moves n e) (hd : ∀ d ∈ ds, d.ok n) : ¬ Ag n n (act e (acts ds idf)) (acts ds idf) := fun q => by
  rcases h with ⟨i, rfl, h⟩ | ⟨i, j, rfl, h1, h2, h3⟩
  · refine row_some hd h fun k hk => ?_
    have := q i h k hk
    simp [act, rowU] at this
    omega
  · refine row_some hd h2 fun k hk => ?_
    have := q i h1 k hk
    simp [act, rowU] at this
    omega
theorem not_back1 {n : Nat} {e : Deed} {ds : List Deed} (h : Moves n e) (hd : ∀ d ∈ ds, d.ok n) : ¬ Ag n n (mm n (act e (acts ds idf)) (acts (backs ds) idf)) idf := fun q => by
  rw [← act_mm] at q
  exact moves_unit h ((act_congr h.ok.1 (mm_back hd)).symm.trans q)
theorem not_back2 {n : Nat} {e : Deed} {ds : List Deed} (h : Moves n e) (hd : ∀ d ∈ ds, d.ok n) : ¬ Ag n n (mm n (acts (backs ds) idf) (act e (acts ds idf))) idf := fun q => by
  have q2 := (acts_times (w := n) (f := act e (acts ds idf)) (backs_ok1 hd)).symm.trans q
  have q3 := acts_congr hd q2
  rw [acts_back hd] at q3
  exact moves_table h hd q3
/-! ### tables told apart -/
theorem eqv_all : ∀ {xs ys : List PyData}, PyData.eqvAll xs ys = true → ∀ (k : Nat) (x y : PyData), xs[k]? = some x → ys[k]? = some y → PyData.eqv x y = true
  | [], _, _, k, x, y, h, _ => by simp at h
  | _ :: _, [], _, k, x, y, _, h => by simp at h
  | a :: xs, b :: ys, e, k, x, y, h1, h2 => by
    simp only [PyData.eqvAll, Bool.and_eq_true] at e
    cases k with
    | zero => simp at h1 h2; subst h1 h2; exact e.1
    | succ k => exact eqv_all e.2 k x y (by simpa using h1) (by simpa using h2)
theorem eqv_tup {xs ys : List PyData} (h : PyData.eqv (.tuple xs) (.tuple ys) = true) : PyData.eqvAll xs ys = true := by simpa [PyData.eqv] using h
theorem eqv_tab {n w : Nat} {f g : Mt} (h : PyData.eqv (tabF n w f) (tabF n w g) = true) : Ag n w f g := fun i hi j hj => by
  have h1 := eqv_all (eqv_tup h) 1 (.tuple (rowsF n w f)) (.tuple (rowsF n w g)) rfl rfl
  have h2 := eqv_all (eqv_tup h1) i (rowF w (f i)) (rowF w (g i)) (by simp [rowsF, hi]) (by simp [rowsF, hi])
  have h3 := eqv_all (eqv_tup h2) j (.int (f i j)) (.int (g i j)) (by simp [hj]) (by simp [hj])
  rw [eqv_int] at h3
  simpa using h3
theorem eqv_tab_ne {n w : Nat} {f g : Mt} (h : ¬ Ag n w f g) : PyData.eqv (tabF n w f) (tabF n w g) = false := by
  cases e : PyData.eqv (tabF n w f) (tabF n w g) with
  | false => rfl
  | true => exact absurd (eqv_tab e) h
theorem eqv_tab_self {n w : Nat} {f : Mt} : PyData.eqv (tabF n w f) (tabF n w f) = true := eqv_self shp_tab
end Px

/-! Pq3: what is a row, a table, a unit, by a law's own look; what is a unit by the program. -/
namespace Px
open PySem
variable {G : Pg} {F : Nat → List D → M (PyData × Bool)} {Q : PyData × Bool → List O → Prop}

/-- those that pass a test -/
theorem ok_fil {is : List Nat} {tp : Bool} {ρ : Env} {cond : Env → M Bool} {elt : Env → M PyData} {Q : List PyData → List O → Prop} {xs : List PyData} {h : List O} (p : PyData → Bool)
    (step : ∀ x, x ∈ xs → Ok (M.opt (bindG is tp x ρ) h) fun ρ1 h1 => h1 = h ∧ Ok (cond ρ1 h) fun k h1 => k = p x ∧ h1 = h ∧ Ok (elt ρ1 h) fun y h1 => y = x ∧ h1 = h)
    (q : Q (xs.filter p) h) : Ok (compL is tp ρ cond elt xs h) Q := by
  refine ok_comp (fun r acc h1 => h1 = h ∧ ∃ l, xs = l ++ r ∧ acc = l.filter p) (fun x r acc h1 i => ?_) (fun acc h1 i => ?_) xs h ⟨rfl, [], rfl, rfl⟩
  · obtain ⟨rfl, l, e1, rfl⟩ := i
    refine ok_mono (step x (by rw [e1]; simp)) fun ρ1 h2 ⟨e2, b⟩ => ?_
    subst e2
    refine ok_mono b fun k h3 ⟨e3, e4, b⟩ => ?_
    subst e3; subst e4
    cases hp : p x with
    | true =>
      rw [if_pos rfl]
      refine ok_mono b fun y h4 ⟨e5, e6⟩ => ?_
      subst e5; subst e6
      exact ⟨rfl, l ++ [y], by simp [e1], by simp [hp]⟩
    | false =>
      rw [if_neg (by decide)]
      exact ⟨rfl, l ++ [x], by simp [e1], by simp [hp]⟩
  · obtain ⟨rfl, l, e1, rfl⟩ := i
    rw [List.append_nil] at e1
    subst e1
    exact q
/-! a table is one of numbers -/
def numAt (rs : List PyData) (i j : Nat) : Int := match rs[i]? with
  | some (.tuple xs) => (match xs[j]? with | some (.int v) => v | _ => 0)
  | _ => 0
theorem row_of {m : Nat} {d : PyData} (h : isRowD m d = true) : ∃ xs, d = .tuple xs ∧ xs.length = m ∧ ∀ x ∈ xs, ∃ i, x = .int i := by
  cases d with
  | tuple xs =>
    simp only [isRowD, Bool.and_eq_true, decide_eq_true_eq, List.all_eq_true] at h
    refine ⟨xs, rfl, by omega, fun x hx => ?_⟩
    have := h.2 x hx
    cases x <;> first | exact ⟨_, rfl⟩ | (simp [isWh] at this)
  | _ => simp [isRowD] at h
theorem rows_of {m : Nat} {rs : List PyData} (h : ∀ d ∈ rs, isRowD m d = true) : rs = rowsF rs.length m (numAt rs) := by
  refine List.ext_getElem? fun i => ?_
  by_cases hi : i < rs.length
  · obtain ⟨xs, e, hl, hx⟩ := row_of (h rs[i] (List.getElem_mem hi))
    have e2 : rs[i]? = some (.tuple xs) := by rw [List.getElem?_eq_getElem hi, e]
    have e3 : (rowsF rs.length m (numAt rs))[i]? = some (rowF m (numAt rs i)) := by simp [rowsF, hi]
    rw [e2, e3]
    congr 1
    unfold rowF
    congr 1
    refine List.ext_getElem? fun j => ?_
    by_cases hj : j < m
    · obtain ⟨v, e4⟩ := hx xs[j] (List.getElem_mem (by omega))
      have e5 : xs[j]? = some (.int v) := by rw [List.getElem?_eq_getElem (by omega), e4]
      rw [e5]
      simp [hj, numAt, e2, e5]
    · rw [List.getElem?_eq_none (by omega), List.getElem?_eq_none (by simp; omega)]
  · rw [List.getElem?_eq_none (by omega), List.getElem?_eq_none (by simp [rowsF]; omega)]
theorem tab_of {d : PyData} (h : isTabD d = true) : ∃ n m f, d = tabF n m f := by
  unfold isTabD at h
  split at h
  · rename_i w rs
    simp only [Bool.and_eq_true, decide_eq_true_eq, List.all_eq_true] at h
    obtain ⟨m, rfl⟩ := Int.eq_ofNat_of_zero_le h.1
    refine ⟨rs.length, m, numAt rs, ?_⟩
    have := rows_of h.2
    unfold tabF
    rw [← this]
  · cases h
theorem isRow_rowF {m : Nat} {v : Nat → Int} : isRowD m (rowF m v) = true := by
  simp [isRowD, rowF, isWh]
theorem isTab_tabF {n m : Nat} {f : Nat → Nat → Int} : isTabD (tabF n m f) = true := by
  simp only [tabF, isTabD, Bool.and_eq_true, decide_eq_true_eq, List.all_eq_true]
  refine ⟨by omega, fun x hx => ?_⟩
  obtain ⟨i, _, rfl⟩ := List.mem_map.mp hx
  exact isRow_rowF
def isUniD (d : PyData) : Bool := isTabD d && (match d with
  | .tuple [.int w, .tuple rs] => decide ((rs.length : Int) = w) && PyData.eqv d (tabF rs.length rs.length idf)
  | _ => false)
theorem isUni_tab {n m : Nat} {f : Nat → Nat → Int} : isUniD (tabF n m f) = (decide (n = m) && PyData.eqv (tabF n m f) (tabF n n idf)) := by
  have e : isUniD (tabF n m f) = (isTabD (tabF n m f) && (decide (((rowsF n m f).length : Int) = m) && PyData.eqv (tabF n m f) (tabF (rowsF n m f).length (rowsF n m f).length idf))) := rfl
  rw [e, isTab_tabF, Bool.true_and, rows_len]
  congr 1
  by_cases h : n = m
  · simp [h]
  · have : ¬ (n : Int) = m := by omega
    simp [h, this]
theorem isUni_no {d : PyData} (h : isTabD d = false) : isUniD d = false := by
  simp [isUniD, h]
/-! the program -/
theorem is_square_ok {n m : Nat} {f : Nat → Nat → Int} (hn : n ≤ 1000000) (q : Q (.bool (decide (n = m)), false) []) : Ok (runFn G F ⟨1, 1, isSquareS⟩ [.p (tabF n m f)] []) Q := by
  simp [runFn, isSquareS]
  have : ((n : Int) == m) = decide (n = m) := by
    by_cases h : n = m
    · simp [h]
    · have : ¬ (n : Int) = m := by omega
      simp [h, this]
  rw [this]
  exact q
theorem is_unit_ok {t s u : Nat} {d : PyData} (gt : Gives F t [d] (.bool (isTabD d))) (gs : ∀ n m f, d = tabF n m f → Gives F s [tabF n m f] (.bool (decide (n = m)))) (gu : ∀ n f, d = tabF n n f → Gives F u [.int n] (tabF n n idf))
    (q : Q (.bool (isUniD d), false) []) : Ok (runFn G F ⟨1, 1, isUnitS t s u⟩ [.p d] []) Q := by
  simp [runFn, isUnitS]
  refine gives_call1 gt fun _ => ?_
  cases h : isTabD d with
  | false =>
    rw [isUni_no h] at q
    simp
    exact q
  | true =>
    obtain ⟨n, m, f, rfl⟩ := tab_of h
    simp
    refine gives_call1 (gs n m f rfl) fun _ => ?_
    rw [isUni_tab] at q
    by_cases e : n = m
    · subst e
      simp at q ⊢
      refine gives_call1 (gu n f rfl) fun _ => ?_
      simp [shp_tab]
      exact q
    · simp [e] at q ⊢
      exact q
/-! the law -/
def lawRowS : S :=
    (.seq (.ife (.or (.not (.isi (.var 1) .tuple)) (.cmp .ne (.blt .len (.cons (.var 1) .nil)) (.var 0))) (.seq (.ret (.bl false)) .skip) .skip) (.seq (.ret
    (.cmp .eq (.comp [2] [2] false (.var 1) (.or (.not (.isi (.var 2) .int)) (.isi (.var 2) .bool)) (.var 2)) (.lst .nil))) .skip))
def lawTableA : S :=
    (.ife (.or (.not (.isi (.var 0) .tuple)) (.or (.cmp .ne (.blt .len (.cons (.var 0) .nil)) (.int 2)) (.or (.not (.isi (.ix (.var 0) (.int 0)) .int))
    (.isi (.ix (.var 0) (.int 0)) .bool)))) (.seq (.ret (.bl false)) .skip) .skip)
def lawTableB : S := (.ife (.or (.cmp .lt (.ix (.var 0) (.int 0)) (.int 0)) (.not (.isi (.ix
    (.var 0) (.int 1)) .tuple))) (.seq (.ret (.bl false)) .skip) .skip)
def lawTableS (r : Nat) : S :=
    (.seq lawTableA (.seq lawTableB (.seq (.ret (.cmp .eq (.comp [1] [1] false (.ix (.var 0) (.int 1)) (.not (.call r (.cons
    (.ix (.var 0) (.int 0)) (.cons (.var 1) .nil)))) (.var 1)) (.lst .nil))) .skip)))
theorem shp_fil {B S n : Nat} {xs : List PyData} {p : PyData → Bool} (h : Th B S (n + 1) (.tuple xs)) (hB : B < 10 ^ 570) (hn : n + 1 ≤ 64) : shp (.list (xs.filter p)) = true := by
  have h2 : ∀ x ∈ xs.filter p, Th B (S - 1) n x := fun x hx => h.mem (List.mem_filter.mp hx).1
  unfold shp SeqAt.shaped
  rw [Bool.and_eq_true]
  refine ⟨all_canLay fun x hx => th_lay (h2 x hx) hB, decide_eq_true (Nat.le_trans (dep_lst (n := n).mpr fun x hx => (h2 x hx).dp) hn)⟩
theorem fil_empty {xs : List PyData} {p : PyData → Bool} : (xs.filter p).isEmpty = xs.all fun x => !p x := by
  induction xs with
  | nil => rfl
  | cons x r ih => cases h : p x <;> simp [List.filter_cons, h, ih]
theorem law_row_ok {B S n : Nat} {w : Int} {d : PyData} (h : Th B S (n + 1) d) (hB : B < 10 ^ 570) (hn : n + 1 ≤ 64) (hS : S ≤ 1000000) (q : Q (.bool (isRowD w d), false) []) : Ok (runFn G F ⟨2, 3, lawRowS⟩ [.p (.int w), .p d] []) Q := by
  cases d with
  | tuple xs =>
    have hl : xs.length ≤ 1000000 := by have := h.len; omega
    simp [runFn, lawRowS, isiD]
    by_cases e : (xs.length : Int) = w
    · have hb : ((xs.length : Int) == w) = true := by simpa using e
      simp [e, hl]
      refine ok_fil (fun x => !isWh x) (fun x hx => ?_) ?_
      · cases x <;> simp [bindG, isiD, isWh]
      · simp [shp_fil h hB hn, fil_empty]
        simpa [isRowD, e] using q
    · have hb : ((xs.length : Int) == w) = false := by simpa using e
      simp [e]
      simpa [isRowD, e] using q
  | _ => simp [runFn, lawRowS, isiD]; exact q
theorem law_table_ok {B S n r : Nat} {d : PyData} (h : Th B S (n + 1) d) (hB : B < 10 ^ 570) (hn : n + 1 ≤ 64) (hS : S ≤ 1000000) (gr : ∀ (i : Int) (x : PyData), Th B S n x → Gives F r [.int i, x] (.bool (isRowD i x)))
    (q : Q (.bool (isTabD d), false) []) : Ok (runFn G F ⟨1, 2, lawTableS r⟩ [.p d] []) Q := by
  have no : isTabD d = false → Q (.bool false, false) [] := fun h => by rw [h] at q; exact q
  cases d with
  | tuple xs =>
    match xs, h, q, no with
    | [], _, _, no => simp [runFn, lawTableS, lawTableA, isiD]; exact no rfl
    | [a], _, _, no => simp [runFn, lawTableS, lawTableA, isiD]; exact no (by cases a <;> rfl)
    | a :: b :: c :: l, _, _, no =>
      have e2 : ¬ (l.length : Int) + 1 + 1 + 1 = 2 := by omega
      simp [runFn, lawTableS, lawTableA, isiD, e2]
      exact no (by cases a <;> cases b <;> rfl)
    | [a, b], h, q, no =>
      cases a with
      | int i =>
        simp [runFn, lawTableS, lawTableA, isiD]
        by_cases hi : i < 0
        · have hi2 : ¬ 0 ≤ i := by omega
          simp [lawTableB, hi]
          exact no (by cases b <;> simp [isTabD, hi2])
        · have hi2 : 0 ≤ i := by omega
          cases b with
          | tuple rs =>
            have hb : Th B (S - 1) n (.tuple rs) := h.mem (by simp)
            cases n with
            | zero => exact absurd hb.dp (by simp [PyData.depth])
            | succ n =>
              have hl : rs.length ≤ 1000000 := by have := hb.len; omega
              simp [lawTableB, hi, isiD, hl]
              refine ok_fil (fun x => !isRowD i x) (fun x hx => ?_) ?_
              · simp [bindG]
                refine gives_call2 (gr i x ((hb.mem hx).mono (Nat.le_refl _) (by omega) (by omega))) fun b => by simp
              · simp [shp_fil hb hB (by omega), fil_empty]
                simpa [isTabD, hi2] using q
          | _ => simp [lawTableB, hi, isiD]; exact no rfl
      | _ => simp [runFn, lawTableS, lawTableA, isiD]; exact no (by cases b <;> rfl)
  | _ => simp [runFn, lawTableS, lawTableA, isiD]; exact no rfl
end Px

/-! Pd3: the sum over all orders is the corner. -/
namespace Px
open PySem
def pd : Nat → (Nat → Int) → Int
  | 0, _ => 1
  | n + 1, g => pd n g * g n
theorem pd_congr : ∀ {n : Nat} {f g : Nat → Int}, (∀ i, i < n → f i = g i) → pd n f = pd n g
  | 0, _, _, _ => rfl
  | n + 1, f, g, h => by
    unfold pd
    rw [pd_congr fun i hi => h i (Nat.lt_succ_of_lt hi), h n (Nat.lt_succ_self n)]
theorem pd_skip : ∀ {N a : Nat} {g : Nat → Int}, a < N + 1 → pd (N + 1) g = g a * pd N fun r => g (skp a r)
  | 0, a, g, h => by
    have : a = 0 := by omega
    subst this
    simp [pd]
  | N + 1, a, g, h => by
    by_cases e : a = N + 1
    · subst e
      show pd (N + 1) g * g (N + 1) = _
      rw [Int.mul_comm]
      congr 1
      exact pd_congr fun r hr => by unfold skp; rw [if_pos hr]
    · have ih := pd_skip (N := N) (a := a) (g := g) (by omega)
      show pd (N + 1) g * g (N + 1) = g a * (pd N (fun r => g (skp a r)) * g (skp a N))
      have : skp a N = N + 1 := by unfold skp; rw [if_neg (by omega)]
      rw [ih, this, Int.mul_assoc]
theorem pd_bound {B : Nat} : ∀ {n : Nat} {g : Nat → Int}, (∀ i, i < n → (g i).natAbs ≤ B) → (pd n g).natAbs ≤ B ^ n
  | 0, _, _ => by simp [pd]
  | n + 1, g, h => by
    unfold pd
    rw [Int.natAbs_mul, Nat.pow_succ]
    exact Nat.mul_le_mul (pd_bound fun i hi => h i (by omega)) (h n (Nat.lt_succ_self n))
def ins (k : Nat) (o : List Nat) (a : Nat) : List Nat := o.take a ++ k :: o.drop a
def spread (k : Nat) (p : List Nat × Int) : List (List Nat × Int) := (List.range (k + 1)).map fun a => (ins k p.1 a, p.2 * sgn (k - a))
/-- all orders, with their signs -/
def leib : Nat → List (List Nat × Int)
  | 0 => [([], 1)]
  | k + 1 => (leib k).flatMap (spread k)
theorem ins_len {k a : Nat} {o : List Nat} (h : a ≤ o.length) : (ins k o a).length = o.length + 1 := by
  unfold ins
  simp
  omega
theorem leib_mem : ∀ {n : Nat} {p : List Nat × Int}, p ∈ leib n → p.1.length = n ∧ (∀ x ∈ p.1, x < n) ∧ (p.2 = 1 ∨ p.2 = -1)
  | 0, p, h => by
    unfold leib at h
    rw [List.mem_singleton] at h
    subst h
    simp
  | n + 1, p, h => by
    unfold leib at h
    obtain ⟨q, hq, hp⟩ := List.mem_flatMap.mp h
    obtain ⟨h1, h2, h3⟩ := leib_mem hq
    unfold spread at hp
    obtain ⟨a, ha, rfl⟩ := List.mem_map.mp hp
    have ha := List.mem_range.mp ha
    refine ⟨by rw [ins_len (by omega), h1], fun x hx => ?_, ?_⟩
    · unfold ins at hx
      rcases List.mem_append.mp hx with z | z
      · have := h2 x (List.mem_of_mem_take z); omega
      · rcases List.mem_cons.mp z with z | z
        · omega
        · have := h2 x (List.mem_of_mem_drop z); omega
    · show q.2 * sgn (n - a) = 1 ∨ q.2 * sgn (n - a) = -1
      unfold sgn
      rcases h3 with e | e <;> rw [e] <;> split <;> simp
def fct : Nat → Nat
  | 0 => 1
  | n + 1 => fct n * (n + 1)
theorem leib_len : ∀ n : Nat, (leib n).length = fct n
  | 0 => rfl
  | n + 1 => by
    unfold leib fct
    rw [List.length_flatMap]
    have : (leib n).map (fun p => (spread n p).length) = (leib n).map fun _ => n + 1 := List.map_congr_left fun p _ => by simp [spread]
    have rs : ∀ m c : Nat, (List.replicate m c).sum = m * c := fun m c => by
      induction m with
      | zero => simp
      | succ m ih => rw [List.replicate_succ, List.sum_cons, ih, Nat.succ_mul, Nat.add_comm]
    rw [this, List.map_const', rs, leib_len n]
def trm (n : Nat) (f : Mt) (p : List Nat × Int) : Int := p.2 * pd n fun i => f i (p.1.getD i 0)
theorem ins_at {k a : Nat} {o : List Nat} (h : a ≤ o.length) : (ins k o a).getD a 0 = k := by
  unfold ins
  simp [List.getElem?_append_right, h]
theorem ins_skp {k a r : Nat} {o : List Nat} (h : a ≤ o.length) : (ins k o a).getD (skp a r) 0 = o.getD r 0 := by
  unfold ins skp
  rw [List.getD_eq_getElem?_getD, List.getD_eq_getElem?_getD]
  by_cases c : r < a
  · rw [if_pos c, List.getElem?_append_left (by simp; omega), List.getElem?_take_of_lt c]
  · rw [if_neg c, List.getElem?_append_right (by simp; omega)]
    have e : r + 1 - (o.take a).length = (r - a) + 1 := by
      rw [List.length_take, Nat.min_eq_left h]; omega
    rw [e, List.getElem?_cons_succ, List.getElem?_drop, show a + (r - a) = r by omega]
theorem sum_flatMap {α : Type} (l : List α) (f : α → List Int) : (l.flatMap f).sum = (l.map fun x => (f x).sum).sum := by
  induction l with
  | nil => rfl
  | cons a r ih => rw [List.flatMap_cons, List.sum_append, ih]; rfl
theorem sum_sg {m : Nat} {f : Nat → Int} : ((List.range m).map f).sum = sg m f := by
  induction m with
  | zero => rfl
  | succ m ih => rw [List.range_succ, List.map_append, List.sum_append, ih]; simp [sg]
theorem sum_swap {α : Type} (l : List α) (n : Nat) (f : α → Nat → Int) : (l.map fun x => sg n (f x)).sum = sg n fun i => (l.map fun x => f x i).sum := by
  induction l with
  | nil => simp [sg_zero]
  | cons a r ih => simp only [List.map_cons, List.sum_cons, ih, sg_add]
theorem sum_mul {α : Type} (l : List α) (c : Int) (f : α → Int) : (l.map fun x => c * f x).sum = c * (l.map f).sum := by
  induction l with
  | nil => simp
  | cons a r ih => simp only [List.map_cons, List.sum_cons, ih, Int.mul_add]
theorem leib_det : ∀ (n : Nat) (f : Mt), ((leib n).map (trm n f)).sum = det n f
  | 0, f => by simp [leib, trm, pd, det]
  | n + 1, f => by
    have e1 : ((leib (n + 1)).map (trm (n + 1) f)).sum = ((leib n).map fun p => sg (n + 1) fun a => sgn (a + n) * f a n * trm n (fun r => f (skp a r)) p).sum := by
      show (((leib n).flatMap (spread n)).map (trm (n + 1) f)).sum = _
      rw [List.map_flatMap, sum_flatMap]
      congr 1
      refine List.map_congr_left fun p hp => ?_
      obtain ⟨h1, _, _⟩ := leib_mem hp
      unfold spread
      rw [List.map_map, sum_sg]
      refine sg_congr fun a ha => ?_
      show p.2 * sgn (n - a) * pd (n + 1) (fun i => f i ((ins n p.1 a).getD i 0)) = _
      rw [pd_skip ha, ins_at (by omega)]
      have : pd n (fun r => f (skp a r) ((ins n p.1 a).getD (skp a r) 0)) = pd n fun r => f (skp a r) (p.1.getD r 0) := pd_congr fun r _ => by rw [ins_skp (by omega)]
      rw [this]
      have sg : sgn (n - a) = sgn (a + n) := by
        unfold sgn
        have : (n - a) % 2 = (a + n) % 2 := by omega
        rw [this]
      rw [sg]
      unfold trm
      generalize pd n (fun r => f (skp a r) (p.1.getD r 0)) = X
      generalize sgn (a + n) = s
      generalize f a n = y
      generalize p.2 = z
      grind
    rw [e1, sum_swap]
    show sg (n + 1) _ = sg (n + 1) _
    refine sg_congr fun a ha => ?_
    rw [sum_mul, leib_det n]
end Px

/-! Pm7: the laws' own corner: all orders, their sum; a special table. -/
namespace Px
open PySem
variable {G : Pg} {F : Nat → List D → M (PyData × Bool)} {Q : PyData × Bool → List O → Prop}
def oFor6 : S := .for_ [6] false (.rng1 (.bin .add (.var 2) (.int 1))) (.seq (.app (.var 3) (.tup (.cons (.bin .add (.bin .add (.sl (.var
    4) .nil (.var 6)) (.tup (.cons (.var 2) .nil))) (.sl (.var 4) (.var 6) .nil)) (.cons (.bin .mul (.var 5) (.ix (.lst (.cons (.int 1) (.cons (.neg (.int 1))
    .nil))) (.bin .mod (.bin .sub (.var 2) (.var 6)) (.int 2)))) .nil)))) .skip)
def oFor4 : S := .for_ [4, 5] true (.var 1) (.seq oFor6 .skip)
def oTurn : S := .seq (.new 3 (.lst .nil)) (.seq oFor4 (.seq (.set 1 (.var 3)) .skip))
def ordersS : S :=
    (.seq (.set 1 (.lst (.cons (.tup (.cons (.tup .nil) (.cons (.int 1) .nil))) .nil))) (.seq (.for_ [2] false (.rng1 (.var 0)) oTurn) (.seq (.ret (.var 1)) .skip)))
def natsD (l : List Nat) : List PyData := l.map fun n : Nat => PyData.int (n : Int)
@[simp] theorem natsD_len {l : List Nat} : (natsD l).length = l.length := by simp [natsD]
def oD (p : List Nat × Int) : PyData := .tuple [.tuple (natsD p.1), .int p.2]
theorem cut_take {α : Type} {xs : List α} {a : Nat} (h : a ≤ xs.length) : cutL xs none (some (a : Int)) = xs.take a := by
  unfold cutL
  rw [HT.sIx_none, HT.sIx_nat, Nat.min_eq_left h]
  simp
theorem cut_drop {α : Type} {xs : List α} {a : Nat} (h : a ≤ xs.length) : cutL xs (some (a : Int)) none = xs.drop a := by
  unfold cutL
  rw [HT.sIx_none, HT.sIx_nat, Nat.min_eq_left h]
  rw [List.take_of_length_le (by simp)]
theorem sgn_ix {k a : Nat} (h : a ≤ k) : ixD (.list [.int 1, .int (-1)]) (.int (((k : Int) - (a : Int)).fmod 2)) = some (.int (sgn (k - a))) := by
  have e : ((k : Int) - (a : Int)).fmod 2 = (((k - a) % 2 : Nat) : Int) := by
    rw [Int.fmod_eq_emod_of_nonneg _ (by decide)]
    omega
  rw [e, ix_list, atI_nat]
  unfold sgn
  rcases Nat.mod_two_eq_zero_or_one (k - a) with z | z <;> rw [z] <;> rfl
theorem orders6 {k m : Nat} {p : List Nat × Int} {acc : List PyData} {h0 : List O} {x0 x1 x6 : Option D} (hm : m = h0.length) (hk : k ≤ 1000) (hl : p.1.length = k) (hs : p.2 = 1 ∨ p.2 = -1) (hacc : acc.length + k + 1 ≤ 1000000) :
    Ok (exec G F oFor6 [x0, x1, some (.p (.int k)), some (.r m), some (.p (.tuple (natsD p.1))), some (.p (.int p.2)), x6] (h0 ++ [.lst acc]))
      fun r h => ∃ x6, r = (.nx, [x0, x1, some (.p (.int k)), some (.r m), some (.p (.tuple (natsD p.1))), some (.p (.int p.2)), x6]) ∧ h = h0 ++ [.lst (acc ++ (spread k p).map oD)] := by
  subst hm
  have k6 : (k : Int) + 1 ≤ 1000000 := by omega
  have k7 : (-1000000 : Int) ≤ (k : Int) + 1 := by omega
  have e1 : rangeL 0 ((k : Int) + 1) = (List.range (k + 1)).map fun j => PyData.int ((0 + j : Nat) : Int) := range_one (b := k + 1)
  simp [oFor6, k6, k7]
  refine ok_forN (a := 0) (n := k + 1) e1 (fun a ρ h => ∃ x6, ρ = [x0, x1, some (.p (.int k)), some (.r h0.length), some (.p (.tuple (natsD p.1))), some (.p (.int p.2)), x6] ∧ h = h0 ++ [.lst (acc ++ (((List.range a).map fun a => (ins k p.1 a, p.2 * sgn (k - a))).map oD))])
    ⟨_, rfl, by simp⟩ (fun a ρ h ha I => ?_) (fun ρ h I => ?_)
  · obtain ⟨x6, rfl, rfl⟩ := I
    rw [Nat.zero_add]
    have c1 : cutL (natsD p.1) none (some (a : Int)) = natsD (p.1.take a) := by
      rw [cut_take (by simp; omega)]; simp [natsD, List.map_take]
    have c2 : cutL (natsD p.1) (some (a : Int)) none = natsD (p.1.drop a) := by
      rw [cut_drop (by simp; omega)]; simp [natsD, List.map_drop]
    have m1 : min a k = a := Nat.min_eq_left (by omega)
    have m2 : a + 1 ≤ 1000000 := by omega
    have m3 : a + 1 + (k - a) ≤ 1000000 := by omega
    have s := sgn_ix (k := k) (a := a) (by omega)
    have o1 : okBits p.2 = true := by rcases hs with z | z <;> (rw [z]; exact okb64 (by decide))
    have o2 : okBits (sgn (k - a)) = true := by unfold sgn; split <;> exact okb64 (by decide)
    have li : liv (.r h0.length) (h0 ++ [.lst (acc ++ (((List.range a).map fun a => (ins k p.1 a, p.2 * sgn (k - a))).map oD))]) = .ok (h0.length, acc ++ (((List.range a).map fun a => (ins k p.1 a, p.2 * sgn (k - a))).map oD)) (h0 ++ [.lst (acc ++ (((List.range a).map fun a => (ins k p.1 a, p.2 * sgn (k - a))).map oD))]) :=
      liv_lst (by rw [List.getElem?_append_right (Nat.le_refl _), Nat.sub_self]; rfl)
    have la : acc.length + a ≤ 1000000 := by omega
    simp only [List.set_cons_succ, List.set_cons_zero]
    simp [c1, c2, hl, m1, m2, m3, s, o1, o2, li, la]
    rw [List.range_succ, List.map_append]
    congr 1
    simp [oD, ins, natsD]
  · obtain ⟨x6, rfl, rfl⟩ := I
    exact ⟨⟨_, rfl⟩, rfl⟩
def Holds (v : D) (h : List O) (xs : List PyData) : Prop := v = .p (.list xs) ∨ ∃ m, v = .r m ∧ h[m]? = some (.lst xs)
theorem Holds.val {v : D} {h : List O} {xs : List PyData} (H : Holds v h xs) (o : O) : ∃ h', h'.length = h.length ∧ Px.val v (h ++ [o]) = .ok (.list xs) (h' ++ [o]) := by
  rcases H with rfl | ⟨m, rfl, e⟩
  · exact ⟨h, rfl, rfl⟩
  · have hm := (List.getElem?_eq_some_iff.mp e).1
    refine ⟨h.set m (.frz xs), by simp, ?_⟩
    rw [val_r, List.getElem?_append_left hm, e]
    show Out.ok _ ((h ++ [o]).set m (.frz xs)) = _
    rw [List.set_append_left _ _ hm]
theorem spread_len {k : Nat} : ∀ l : List (List Nat × Int), (l.flatMap (spread k)).length = l.length * (k + 1)
  | [] => by simp
  | p :: r => by
    rw [List.flatMap_cons, List.length_append, spread_len r]
    simp [spread, Nat.succ_mul, Nat.add_comm]
theorem fct_le : ∀ {n : Nat}, n ≤ 7 → fct n ≤ 5040 := by decide
theorem orders4 {k : Nat} {h0 : List O} {x0 x4 x5 x6 : Option D} {v : D} (hk : k ≤ 6) (H : Holds v h0 ((leib k).map oD)) :
    Ok (exec G F oFor4 [x0, some v, some (.p (.int k)), some (.r h0.length), x4, x5, x6] (h0 ++ [.lst []]))
      fun r h => ∃ h1 x4 x5 x6, h1.length = h0.length ∧ r = (.nx, [x0, some v, some (.p (.int k)), some (.r h0.length), x4, x5, x6]) ∧ h = h1 ++ [.lst ((leib (k + 1)).map oD)] := by
  obtain ⟨h1, hl, hv⟩ := H.val (.lst [])
  simp only [oFor4, ex_for, iter_var, ev_var, List.getElem?_cons_succ, List.getElem?_cons_zero, bnd_ok1, hv, seqOf_list, opt_some, ok_bnd]
  have len : ((leib k).map oD).length = (leib k).length := by simp
  refine ok_forE (fun j ρ h => ∃ x4 x5 x6, ρ = [x0, some v, some (.p (.int k)), some (.r h0.length), x4, x5, x6] ∧ h = h1 ++ [.lst ((((leib k).take j).flatMap (spread k)).map oD)]) ⟨_, _, _, rfl, rfl⟩ (fun j x ρ h hj hx I => ?_) (fun ρ h I => ?_)
  · obtain ⟨x4, x5, x6, rfl, rfl⟩ := I
    rw [len] at hj
    have hx : x = oD (leib k)[j] := by
      rw [List.getElem?_map, List.getElem?_eq_getElem hj] at hx
      simpa using hx.symm
    subst hx
    obtain ⟨l1, l2, l3⟩ := leib_mem (List.getElem_mem hj)
    have fl := fct_le (show k ≤ 7 by omega)
    have ll := leib_len k
    have acc : ((((leib k).take j).flatMap (spread k)).map oD).length + k + 1 ≤ 1000000 := by
      rw [List.length_map, spread_len, List.length_take]
      have : min j (leib k).length * (k + 1) ≤ 5040 * 7 := Nat.mul_le_mul (by omega) (by omega)
      omega
    simp only [oD, bindG, if_true, bindAll, opt_some, ok_ok1]
    simp only [List.set_cons_succ, List.set_cons_zero]
    refine ok_then (ok_mono (orders6 hl.symm (by omega) l1 l3 acc) fun r h ⟨x6, e1, e2⟩ => ?_)
    subst e1 e2
    simp only [ex_skip, ok_ok1, goes_nx]
    refine ⟨_, _, _, rfl, ?_⟩
    rw [List.take_succ_eq_append_getElem hj, List.flatMap_append, List.map_append]
    simp
  · obtain ⟨x4, x5, x6, rfl, rfl⟩ := I
    rw [len, List.take_length]
    exact ⟨h1, _, _, _, hl, rfl, rfl⟩
theorem orders_ok {n : Nat} (hn : n ≤ 7) (q : ∀ b, Q (.list ((leib n).map oD), b) []) : Ok (runFn G F ⟨1, 7, ordersS⟩ [.p (.int n)] []) Q := by
  have n6 : (n : Int) ≤ 1000000 := by omega
  have n7 : (-1000000 : Int) ≤ n := by omega
  refine ok_run rfl ?_
  simp [ordersS, n6, n7]
  refine ok_forN (a := 0) (n := n) (by simp) (fun k ρ h => ∃ v x2 x3 x4 x5 x6, ρ = [some (.p (.int n)), some v, x2, x3, x4, x5, x6] ∧ Holds v h ((leib k).map oD)) ⟨_, _, _, _, _, _, rfl, .inl rfl⟩ (fun k ρ h hk I => ?_) (fun ρ h I => ?_)
  · obtain ⟨v, x2, x3, x4, x5, x6, rfl, H⟩ := I
    rw [Nat.zero_add]
    simp only [List.set_cons_succ, List.set_cons_zero]
    unfold oTurn
    refine ok_then ?_
    simp
    refine ok_mono (orders4 (by omega) H) fun r h ⟨h1, x4, x5, x6, hl, e1, e2⟩ => ?_
    subst e1 e2
    simp
    exact .inr ⟨_, rfl, by rw [← hl, List.getElem?_append_right (Nat.le_refl _), Nat.sub_self]; rfl⟩
  · obtain ⟨v, x2, x3, x4, x5, x6, rfl, H⟩ := I
    rcases H with rfl | ⟨m, rfl, e⟩
    · simp
      exact q _
    · simp [e]
      exact q _

/-! ### the sum over all orders -/
def lcBody : S := .seq (.set 4 (.var 3)) (.seq (.for_ [5] false (.rng1 (.blt .len (.cons (.var 0) .nil))) (.seq (.set 4 (.bin .mul (.var 4) (.ix (.ix (.var 0) (.var 5)) (.ix (.var 2) (.var 5))))) .skip)) (.seq (.set 1
    (.bin .add (.var 1) (.var 4))) .skip))
def lcornerS (o : Nat) : S :=
    (.seq (.set 1 (.int 0)) (.seq (.for_ [2, 3] true (.call o (.cons (.blt .len (.cons (.var 0) .nil)) .nil)) lcBody) (.seq (.ret (.var 1)) .skip)))
def oat (l : List Nat) (i : Nat) : Nat := l.getD i 0
theorem trm_oat {n : Nat} {f : Mt} {p : List Nat × Int} : trm n f p = p.2 * pd n fun i => f i (oat p.1 i) := rfl
theorem lc_inner {n B : Nat} {f : Mt} {p : List Nat × Int} {x1 x5 : Option D} {c : Int} {h : List O} (hn : n ≤ 7) (l1 : p.1.length = n) (l2 : ∀ x ∈ p.1, x < n) (l3 : p.2 = 1 ∨ p.2 = -1)
    (bd : ∀ i, i < n → ∀ j, j < n → (f i j).natAbs ≤ B) (hB : ∀ i, i ≤ n → B ^ i ≤ 2 ^ 8000) (hB1 : B ≤ 2 ^ 8000) :
    Ok (exec G F lcBody [some (.p (.tuple (rowsF n n f))), some (.p (.int c)), some (.p (.tuple (natsD p.1))), some (.p (.int p.2)), x1, x5] h)
      fun r h' => h' = h ∧ ∃ x4 x5, r = (.nx, [some (.p (.tuple (rowsF n n f))), some (.p (.int (c + trm n f p))), some (.p (.tuple (natsD p.1))), some (.p (.int p.2)), x4, x5]) := by
  have n6 : (n : Int) ≤ 1000000 := by omega
  have n7 : (-1000000 : Int) ≤ n := by omega
  have ln : (rowsF n n f).length = n := rows_len
  simp [lcBody, n6, n7]
  refine ok_forN (a := 0) (n := n) (by simp) (fun i ρ h' => h' = h ∧ ∃ x5, ρ = [some (.p (.tuple (rowsF n n f))), some (.p (.int c)), some (.p (.tuple (natsD p.1))), some (.p (.int p.2)), some (.p (.int (p.2 * pd i fun i => f i (oat p.1 i)))), x5])
    ⟨rfl, x5, by simp [pd]⟩ (fun i ρ h' hi I => ?_) (fun ρ h' I => ?_)
  · obtain ⟨rfl, x5, rfl⟩ := I
    rw [Nat.zero_add]
    have hlt : ∀ i, i < n → oat p.1 i < n := fun i hi => by
      unfold oat
      rw [List.getD_eq_getElem?_getD, List.getElem?_eq_getElem (by omega)]
      exact l2 _ (List.getElem_mem _)
    have e1 : L2.atI (rowsF n n f) (i : Int) = some (rowF n (f i)) := by rw [atI_nat]; simp [rowsF, hi]
    have e2 : L2.atI (natsD p.1) (i : Int) = some (.int ((oat p.1 i : Nat) : Int)) := by
      rw [atI_nat]
      simp [natsD, oat, l1, hi]
    have e3 : ixD (rowF n (f i)) (.int ((oat p.1 i : Nat) : Int)) = some (.int (f i (oat p.1 i))) := by
      simp only [rowF, ix_tuple]
      rw [atI_nat]
      simp only [List.getElem?_map, List.getElem?_range (hlt i hi), Option.map_some]
    have b1 : (pd i fun i => f i (oat p.1 i)).natAbs ≤ B ^ i := pd_bound fun j hj => bd j (by omega) _ (hlt j (by omega))
    have b2 := hB i (by omega)
    have o1 : okBits (p.2 * pd i fun i => f i (oat p.1 i)) = true := ok8000 (by
      rw [Int.natAbs_mul]
      have : p.2.natAbs = 1 := by rcases l3 with z | z <;> rw [z] <;> rfl
      rw [this]; omega)
    have o2 : okBits (f i (oat p.1 i)) = true := ok8000 (Nat.le_trans (bd i hi _ (hlt i hi)) hB1)
    generalize hx : oat p.1 i = x at e2 e3 o2
    simp only [List.set_cons_succ, List.set_cons_zero]
    simp [e1, e2, e3, o1, o2]
    rw [← hx]
    show _ = p.2 * (pd i (fun i => f i (oat p.1 i)) * f i (oat p.1 i))
    rw [Int.mul_assoc]
  · obtain ⟨rfl, x5, rfl⟩ := I
    simp [trm_oat]
theorem lcorner_ok {o n B : Nat} {f : Mt} (hn : n ≤ 7) (g : Gives F o [.int n] (.list ((leib n).map oD))) (bd : ∀ i, i < n → ∀ j, j < n → (f i j).natAbs ≤ B) (hB : ∀ i, i ≤ n → B ^ i ≤ 2 ^ 8000) (hB1 : B ≤ 2 ^ 8000)
    (q : Q (.int (det n f), false) []) : Ok (runFn G F ⟨1, 6, lcornerS o⟩ [.p (.tuple (rowsF n n f))] []) Q := by
  refine ok_run rfl ?_
  have ln : (rowsF n n f).length = n := rows_len
  simp only [lcornerS]
  refine ok_then ?_
  simp
  refine gives_call1 g fun b => ?_
  simp
  have len : ((leib n).map oD).length = (leib n).length := by simp
  refine ok_forE (fun j ρ h => h = [] ∧ ∃ x2 x3 x4 x5, ρ = [some (.p (.tuple (rowsF n n f))), some (.p (.int (((leib n).take j).map (trm n f)).sum)), x2, x3, x4, x5]) ⟨rfl, _, _, _, _, rfl⟩ (fun j x ρ h hj hx I => ?_) (fun ρ h I => ?_)
  · obtain ⟨rfl, x2, x3, x4, x5, rfl⟩ := I
    rw [len] at hj
    have hx : x = oD (leib n)[j] := by
      rw [List.getElem?_map, List.getElem?_eq_getElem hj] at hx
      simpa using hx.symm
    subst hx
    obtain ⟨l1, l2, l3⟩ := leib_mem (List.getElem_mem hj)
    simp only [oD, bindG, if_true, bindAll, opt_some, ok_ok1]
    simp only [List.set_cons_succ, List.set_cons_zero]
    refine ok_mono (lc_inner hn l1 l2 l3 bd hB hB1) fun r h ⟨e1, x4, x5, e2⟩ => ?_
    subst e1 e2
    simp only [goes_nx]
    have e : (((leib n).take j).map (trm n f)).sum + trm n f (leib n)[j] = (((leib n).take (j + 1)).map (trm n f)).sum := by
      rw [List.take_succ_eq_append_getElem hj, List.map_append, List.sum_append]
      simp
    rw [e]
    exact ⟨trivial, _, _, _, _, rfl⟩
  · obtain ⟨rfl, x2, x3, x4, x5, rfl⟩ := I
    rw [len, List.take_length, leib_det]
    simp
    exact q

end Px

/-! Pq4: things of other kinds, things bent, what is vast. -/
namespace Px
open PySem
section
variable {G : Pg} {F : Nat → List D → M (PyData × Bool)} {Q : PyData × Bool → List O → Prop}
theorem draws_one1 {f C b : Nat} {x : PyData} {P : PyData → Prop} {xs : List PyData} (g : Draws F f [x] C P) (hf : Fd b xs) (hb : b + C < Lim)
    (q : ∀ v ys fl, P v → Fd (b + C) ys → Q (v, fl) [.lst ys]) : Ok (callF F f [.r 0, .p x] [.lst xs]) Q := draws_call g rfl hf hb q
theorem draws_one0 {f C b : Nat} {P : PyData → Prop} {xs : List PyData} (g : Draws F f [] C P) (hf : Fd b xs) (hb : b + C < Lim)
    (q : ∀ v ys fl, P v → Fd (b + C) ys → Q (v, fl) [.lst ys]) : Ok (callF F f [.r 0] [.lst xs]) Q := draws_call g rfl hf hb q
/-- a thing small enough to stand within another one -/
def Odd (v : PyData) : Prop := lfB (10 ^ 40) v = true ∧ tsz v ≤ 4 ∧ PyData.depth v ≤ 2
def oddS (d : Nat) : S :=
    (.seq (.set 1 (.lst (.cons .non (.cons (.bl true) (.cons (.bl false) (.cons (.str (Str.ofString "")) (.cons (.str (Str.ofString "add")) (.cons (.tup .nil)
    (.cons (.lst .nil) (.cons (.tup (.cons (.int 0) .nil)) (.cons (.lst (.cons (.int 0) .nil)) (.cons (.bin .pow (.int 10) (.int 40)) (.cons (.neg (.int 1))
    (.cons (.int 0) (.cons (.int 1) (.cons (.tup (.cons (.tup .nil) .nil)) (.cons (.tup (.cons (.int 0) (.cons (.tup .nil) .nil))) (.cons (.tup (.cons (.int 1)
    (.cons (.int 1) .nil))) (.cons (.str (Str.ofString "0")) (.cons (.tup (.cons (.int 1) (.cons (.int 2) (.cons (.int 3) .nil)))) .nil)))))))))))))))))))) (.seq
    (.ret (.ix (.var 1) (.call d (.cons (.var 0) (.cons (.int 18) .nil))))) .skip))
def oddL : List PyData := [.none, .bool true, .bool false, .str (Str.ofString ""), .str (Str.ofString "add"), .tuple [], .list [], .tuple [.int 0], .list [.int 0], .int 10000000000000000000000000000000000000000, .int (-1), .int 0, .int 1, .tuple [.tuple []], .tuple [.int 0, .tuple []],
  .tuple [.int 1, .int 1], .str (Str.ofString "0"), .tuple [.int 1, .int 2, .int 3]]
def oddB (v : PyData) : Bool := lfB (10 ^ 40) v && decide (tsz v ≤ 4) && decide (PyData.depth v ≤ 2)
theorem odd_all : oddL.all oddB = true := by decide +kernel
theorem odd_mem {v : PyData} (h : v ∈ oddL) : Odd v := by
  have := List.all_eq_true.mp odd_all v h
  simp only [oddB, Bool.and_eq_true, decide_eq_true_eq] at this
  exact ⟨this.1.1, this.1.2, this.2⟩
theorem odd_ok {d b : Nat} {xs : List PyData} (g : DrawAt F d) (hf : Fd b xs) (hb : b + 1 < Lim) (q : ∀ v ys fl, Odd v → Fd (b + 1) ys → Q (v, fl) [.lst ys]) : Ok (runFn G F ⟨1, 2, oddS d⟩ [.r 0] [.lst xs]) Q := by
  simp [runFn, oddS]
  refine draw_one (many := 18) g (by decide) (by decide) hf hb fun r ys fl hr fd => ?_
  have e : (oddL : List PyData)[r]? = some oddL[r] := List.getElem?_eq_getElem (by simpa [oddL] using hr)
  have q2 := q oddL[r] ys false (odd_mem (List.getElem_mem _)) fd
  generalize hv : oddL[r] = v at e q2
  simp only [oddL] at e
  simp only [ix_list, atI_nat, e]
  simp
  exact q2
/-! bent -/
def bentT1 (d b : Nat) : S := (.seq
    (.set 2 (.call d (.cons (.var 0) (.cons (.blt .len (.cons (.var 1) .nil)) .nil)))) (.seq (.ret (.bin .add (.bin .add (.sl (.var 1) .nil (.var 2)) (.tup
    (.cons (.call b (.cons (.var 0) (.cons (.ix (.var 1) (.var 2)) .nil))) .nil))) (.sl (.var 1) (.bin .add (.var 2) (.int 1)) .nil))) .skip))
def bentI1 (d b : Nat) : S := (.ife (.and (.isi (.var 1) .tuple) (.and (.cmp .ne (.var 1) (.tup .nil)) (.cmp .gt (.call d (.cons (.var 0) (.cons (.int 5) .nil))) (.int 0)))) (bentT1 d b) .skip)
def bentT2b : S := (.seq (.set 5 (.lst (.cons (.bin .add (.bin .add (.sl (.var 1) .nil (.var 2)) (.tup (.cons (.var 4) .nil))) (.sl (.var 1) (.var 2)
    .nil)) (.cons (.bin .add (.sl (.var 1) .nil (.var 2)) (.sl (.var 1) (.bin .add (.var 2) (.int 1)) .nil)) (.cons (.bin .add (.sl (.var 1) .nil (.bin .add
    (.var 2) (.int 1))) (.sl (.var 1) (.var 2) .nil)) .nil))))) (.seq (.ret (.ix (.bin .add (.var 5) (.lst (.cons (.slr (.var 1)) .nil))) (.bin .sub (.var 3)
    (.int 2)))) .skip))
def bentT2 (d o : Nat) : S := (.seq (.set 2 (.call d (.cons
    (.var 0) (.cons (.bin .add (.blt .len (.cons (.var 1) .nil)) (.int 1)) .nil)))) (.seq (.set 4 (.ife (.cmp .eq (.var 3) (.int 2)) (.call o (.cons
    (.var 0) .nil)) (.int 0))) bentT2b))
def bentI2 (d o : Nat) : S := (.ife (.and (.isi (.var 1) .tuple) (.cmp .gt (.var 3) (.int 1))) (bentT2 d o) .skip)
def bentI3 : S := (.ife (.and (.isi (.var 1) .tuple) (.cmp .eq (.var 3) (.int 1))) (.seq (.ret (.lof (.var 1))) .skip) .skip)
def bentI4 : S := (.ife
    (.and (.isi (.var 1) .int) (.and (.not (.isi (.var 1) .bool)) (.cmp .gt (.var 3) (.int 0)))) (.seq (.ret (.ix (.lst (.cons (.bin .add (.var 1) (.int 1))
    (.cons (.bin .sub (.var 1) (.int 1)) (.cons (.neg (.var 1)) (.cons (.cmp .eq (.var 1) (.int 1)) (.cons (.blt .str (.cons (.var 1) .nil)) .nil)))))) (.bin
    .sub (.var 3) (.int 1)))) .skip) .skip)
def bentZ (o : Nat) : S := (.seq (.ret (.call o (.cons (.var 0) .nil))) .skip)
def bentE (o : Nat) : S := (.seq bentI4 (bentZ o))
def bentD (o : Nat) : S := (.seq bentI3 (bentE o))
def bentC (d o : Nat) : S := (.seq (bentI2 d o) (bentD o))
def bentB (d o : Nat) : S := (.seq (.set 3 (.call d (.cons (.var 0) (.cons (.int 6) .nil)))) (bentC d o))
def bentS (d o b : Nat) : S := (.seq (bentI1 d b) (bentB d o))
/-- what may come of a thing bent -/
def Bt (B : Nat) (d v : PyData) : Prop := lfB (B + 1) v = true ∧ tsz v ≤ 2 * tsz d + 8 ∧ PyData.depth v ≤ PyData.depth d + 3
theorem odd_bt {B : Nat} {d v : PyData} (hB : 10 ^ 40 ≤ B) (h : Odd v) : Bt B d v := ⟨lf_mono (by omega) v h.1, by have := h.2.1; omega, by have := h.2.2; omega⟩
theorem bt_tup {B : Nat} {xs ys : List PyData} (h : lfB B (.tuple xs) = true) (hm : ∀ y ∈ ys, y ∈ xs ∨ Odd y) (hB : 10 ^ 40 ≤ B) (hz : tszs ys ≤ 2 * tszs xs + 8) : Bt B (.tuple xs) (.tuple ys) := by
  have hx := lfBs_iff.mp h
  refine ⟨lfBs_iff.mpr fun y hy => ?_, ?_, ?_⟩
  · rcases hm y hy with z | z
    · exact lf_mono (by omega) y (hx y z)
    · exact lf_mono (by omega) y z.1
  · simp only [tsz]; omega
  · simp only [PyData.depth]
    have : PyData.depthAll ys ≤ PyData.depthAll xs + 2 := all_depth fun y hy => by
      rcases hm y hy with z | z
      · have := dep_mem z; omega
      · have := z.2.2; omega
    omega
variable {d o b c : Nat} {B : Nat} {xs : List PyData} {x : PyData}
theorem bent_z {x2 x3 x4 x5 : Option D} (go : Draws F o [] 1 Odd) (hB : 10 ^ 40 ≤ B) (hf : Fd c xs) (hc : c + 1 < Lim) (q : ∀ v ys fl, Bt B x v → Fd (c + 1) ys → Q (v, fl) [.lst ys]) :
    Ok (exec G F (bentZ o) [some (.r 0), some (.p x), x2, x3, x4, x5] [.lst xs]) (Fin 1 Q) := by
  simp [bentZ]
  refine draws_one0 go hf hc fun v ys fl hv fd => ?_
  simp
  exact q v ys false (odd_bt hB hv) fd
theorem bent_i4 {r : Nat} (hr : r < 6) (go : Draws F o [] 1 Odd) (hB : 10 ^ 40 ≤ B) (hB2 : B < 10 ^ 62) (hx : lfB B x = true) (ht : (∃ zs, x = .tuple zs) → r = 0) (hf : Fd c xs) (hc : c + 1 < Lim) (q : ∀ v ys fl, Bt B x v → Fd (c + 1) ys → Q (v, fl) [.lst ys]) :
    Ok (exec G F (bentE o) [some (.r 0), some (.p x), none, some (.p (.int r)), none, none] [.lst xs]) (Fin 1 Q) := by
  have z := bent_z (G := G) (x := x) (x2 := none) (x3 := some (.p (.int r))) (x4 := none) (x5 := none) go hB hf hc q
  cases x with
  | int i =>
    have hi : i.natAbs ≤ B := by simpa [lfB] using hx
    refine ok_then ?_
    by_cases h0 : r = 0
    · subst h0
      simp [bentI4, isiD]
      exact z
    · have hp : (0 : Int) < r := by omega
      have hs : i.natAbs.log2 < 1920 := log_lt (n := 210) (Nat.lt_of_le_of_lt hi (Nat.lt_of_lt_of_le hB2 (by decide +kernel))) (by decide) (by decide)
      have hq : ∀ v, Bt B (.int i) v → Q (v, false) [.lst xs] := fun v hv => q v xs false hv (hf.mono (by omega))
      have t1 := hq (.int (i + 1)) ⟨by simp only [lfB, decide_eq_true_eq]; omega, by simp [tsz], by simp [PyData.depth]⟩
      have t2 := hq (.int (i - 1)) ⟨by simp only [lfB, decide_eq_true_eq]; omega, by simp [tsz], by simp [PyData.depth]⟩
      have t3 := hq (.int (-i)) ⟨by simp only [lfB, decide_eq_true_eq]; omega, by simp [tsz], by simp [PyData.depth]⟩
      have t4 := hq (.bool (i == 1)) ⟨rfl, by simp [tsz], by simp [PyData.depth]⟩
      have t5 := hq (.str (toString i)) (by
        have tx := tx_int (i := i) (c := 62) (by decide) (by omega)
        refine ⟨?_, by simp [tsz], by simp [PyData.depth]⟩
        simp only [lfB, Bool.and_eq_true, decide_eq_true_eq]
        refine ⟨?_, ?_⟩
        · unfold PyData.strOk
          rw [Array.all_eq_true_iff_forall_mem]
          intro y hy
          exact decide_eq_true (tx.2 y (Array.mem_toList_iff.mpr hy))
        · have e : (Str.ofString (toString i)).length = (TL.tl (Str.ofString (toString i))).length := by
            show (Str.ofString (toString i)).cps.size = (Str.ofString (toString i)).cps.toList.length
            simp
          rw [e]
          exact Nat.le_trans tx.1 (by decide))
      have hb : bltD .str [.int i] = some (.str (toString i)) := by simp [bltD, hs]
      simp [bentI4, isiD, hp, hb]
      match r, hr, h0 with
      | 1, _, _ => simpa using t1
      | 2, _, _ => simpa using t2
      | 3, _, _ => simpa using t3
      | 4, _, _ => simpa using t4
      | 5, _, _ => simpa using t5
  | tuple zs => 
    have := ht ⟨_, rfl⟩
    subst this
    refine ok_then ?_
    simp [bentI4, isiD]
    exact z
  | _ =>
    refine ok_then ?_
    simp [bentI4, isiD]
    exact z
theorem cut_take2 {α : Type} {l : List α} {a : Nat} : cutL l none (some (a : Int)) = l.take a := by
  by_cases h : a ≤ l.length
  · exact cut_take h
  · have e : HT.sIx l.length l.length (some (a : Int)) = l.length := by
      rw [HT.sIx_nat, Nat.min_eq_right (by omega)]
    have e0 : HT.sIx l.length 0 none = 0 := rfl
    unfold cutL
    rw [e, e0]
    simp
    rw [List.take_of_length_le (by omega)]
theorem cut_drop2 {α : Type} {l : List α} {a : Nat} : cutL l (some (a : Int)) none = l.drop a := by
  by_cases h : a ≤ l.length
  · exact cut_drop h
  · have e : HT.sIx l.length 0 (some (a : Int)) = l.length := by
      rw [HT.sIx_nat, Nat.min_eq_right (by omega)]
    unfold cutL
    rw [e]
    simp
    omega
theorem cut_take3 {α : Type} {l : List α} {a : Nat} : cutL l none (some ((a : Int) + 1)) = l.take (a + 1) := cut_take2 (a := a + 1)
theorem cut_drop3 {α : Type} {l : List α} {a : Nat} : cutL l (some ((a : Int) + 1)) none = l.drop (a + 1) := cut_drop2 (a := a + 1)
theorem bent_t2b {r k : Nat} {zs : List PyData} {y : PyData} (hr : 2 ≤ r) (hr2 : r < 6) (hl : zs.length ≤ 100000) (hy : Odd y) (hB : 10 ^ 40 ≤ B) (hx : lfB B (.tuple zs) = true) {R : Fl × Px.Env → List O → Prop} (q : ∀ v ρ, Bt B (.tuple zs) v → R (.rt (.p v), ρ) [.lst xs]) :
    Ok (exec G F bentT2b [some (.r 0), some (.p (.tuple zs)), some (.p (.int k)), some (.p (.int r)), some (.p y), none] [.lst xs]) R := by
  have sp := tszs_split (xs := zs) k
  have sp1 := tszs_split (xs := zs) (k + 1)
  have hz := hy.2.1
  have t2 := fun ρ => q (.tuple (zs.take k ++ (y :: zs.drop k))) ρ (bt_tup hx (fun z h => by
    rcases List.mem_append.mp h with h | h
    · exact .inl (List.mem_of_mem_take h)
    · rcases List.mem_cons.mp h with rfl | h
      · exact .inr hy
      · exact .inl (List.mem_of_mem_drop h)) hB (by rw [tszs_app]; simp only [tszs]; omega))
  have t3 := fun ρ => q (.tuple (zs.take k ++ zs.drop (k + 1))) ρ (bt_tup hx (fun z h => by
    rcases List.mem_append.mp h with h | h
    · exact .inl (List.mem_of_mem_take h)
    · exact .inl (List.mem_of_mem_drop h)) hB (by rw [tszs_app]; omega))
  have t4 := fun ρ => q (.tuple (zs.take (k + 1) ++ zs.drop k)) ρ (bt_tup hx (fun z h => by
    rcases List.mem_append.mp h with h | h
    · exact .inl (List.mem_of_mem_take h)
    · exact .inl (List.mem_of_mem_drop h)) hB (by rw [tszs_app]; omega))
  have t5 := fun ρ => q (.tuple zs.reverse) ρ (bt_tup hx (fun z h => .inl (List.mem_reverse.mp h)) hB (by rw [tszs_rev]; omega))
  have l1 : (zs.take k).length ≤ 100000 := by simp; omega
  have l2 : (zs.drop k).length ≤ 100000 := by simp; omega
  have l3 : (zs.take (k + 1)).length ≤ 100000 := by simp; omega
  have l4 : (zs.drop (k + 1)).length ≤ 100000 := by simp; omega
  have s1 : ∀ o : Option PyData, szO ((zs.take k).length + 1) o = o := fun o => szO_ok (by omega)
  have s2 : ∀ o : Option PyData, szO ((zs.take k).length + 1 + (zs.drop k).length) o = o := fun o => szO_ok (by omega)
  have s3 : ∀ o : Option PyData, szO ((zs.take k).length + (zs.drop (k + 1)).length) o = o := fun o => szO_ok (by omega)
  have s4 : ∀ o : Option PyData, szO ((zs.take (k + 1)).length + (zs.drop k).length) o = o := fun o => szO_ok (by omega)
  unfold bentT2b
  simp only [List.length_take, List.length_drop] at s1 s2 s3 s4
  simp [cut_take2, cut_drop2, cut_take3, cut_drop3, s1, s2, s3, s4]
  match r, hr, hr2 with
  | 2, _, _ => simpa using t2 _
  | 3, _, _ => simpa using t3 _
  | 4, _, _ => simpa using t4 _
  | 5, _, _ => simpa using t5 _
theorem bent_b (gd : DrawAt F d) (go : Draws F o [] 1 Odd) (hB : 10 ^ 40 ≤ B) (hB2 : B < 10 ^ 62) (hx : lfB B x = true) (hl : ∀ zs, x = .tuple zs → zs.length ≤ 100000) (hf : Fd c xs) (hc : c + 3 < Lim) (q : ∀ v ys fl, Bt B x v → Fd (c + 3) ys → Q (v, fl) [.lst ys]) :
    Ok (exec G F (bentB d o) [some (.r 0), some (.p x), none, none, none, none] [.lst xs]) (Fin 1 Q) := by
  unfold bentB
  refine ok_then ?_
  simp
  refine draw_one (many := 6) gd (by decide) (by decide) hf (by omega) fun r ys fl hr fd => ?_
  simp
  refine ok_then ?_
  have low : ∀ (ht : (∃ zs, x = .tuple zs) → r = 0 ∨ r = 1), Ok (exec G F (bentD o) [some (.r 0), some (.p x), none, some (.p (.int r)), none, none] [.lst ys]) (Fin 1 Q) := fun ht => by
    refine ok_then ?_
    cases x with
    | tuple zs =>
      have hz := hl zs rfl
      rcases ht ⟨_, rfl⟩ with rfl | rfl
      · simp [bentI3, isiD]
        exact bent_i4 hr go hB hB2 hx (fun _ => rfl) fd (by omega) fun v zs fl hv fd => q v zs fl hv (fd.mono (by omega))
      · simp [bentI3, isiD]
        refine q (.list zs) ys false ⟨?_, ?_, ?_⟩ (fd.mono (by omega))
        · exact lfs_mono (by omega) zs hx
        · simp only [tsz]; omega
        · simp only [PyData.depth]; omega
    | _ =>
      simp [bentI3, isiD]
      exact bent_i4 hr go hB hB2 hx (fun h => by obtain ⟨_, h⟩ := h; cases h) fd (by omega) fun v zs fl hv fd => q v zs fl hv (fd.mono (by omega))
  cases x with
  | tuple zs =>
    have hz := hl zs rfl
    by_cases h1 : r ≤ 1
    · have : ¬ (1 : Int) < r := by omega
      simp [bentI2, isiD, this]
      exact low fun _ => by omega
    · have : (1 : Int) < r := by omega
      simp [bentI2, isiD, this, bentT2]
      have e : ((zs.length : Int) + 1) = ((zs.length + 1 : Nat) : Int) := by push_cast; rfl
      rw [e]
      refine draw_one (many := zs.length + 1) gd (by omega) (by omega) fd (by omega) fun k ys2 fl2 hk fd2 => ?_
      simp
      by_cases h2 : r = 2
      · subst h2
        simp
        refine draws_one0 go fd2 (by omega) fun y ys3 fl3 hy fd3 => ?_
        simp
        exact bent_t2b (r := 2) (by omega) hr hz hy hB hx fun v ρ hv => by
          simp
          exact q v ys3 false hv (fd3.mono (by omega))
      · have h3 : ((r : Int) == 2) = false := by simp; omega
        have h4 : ¬ (r : Int) = 2 := by omega
        rw [if_neg h4, ok_ok1]
        exact bent_t2b (by omega) hr hz (y := .int 0) (by refine ⟨by decide +kernel, by decide, by decide⟩) hB hx fun v ρ hv => by
          simp
          exact q v ys2 false hv (fd2.mono (by omega))
  | _ =>
    simp [bentI2, isiD]
    exact low fun h => by obtain ⟨_, h⟩ := h; cases h
theorem bent_step {C : Nat} (gd : DrawAt F d) (go : Draws F o [] 1 Odd) (hB : 10 ^ 40 ≤ B) (hB2 : B < 10 ^ 62) (hx : lfB B x = true) (hs : shp x = true) (hl : ∀ zs, x = .tuple zs → zs.length ≤ 100000)
    (gb : ∀ zs y, x = .tuple zs → y ∈ zs → Draws F b [y] C (Bt B y)) (hf : Fd c xs) (hc : c + (C + 4) < Lim) (q : ∀ v ys fl, Bt B x v → Fd (c + (C + 4)) ys → Q (v, fl) [.lst ys]) :
    Ok (runFn G F ⟨2, 6, bentS d o b⟩ [.r 0, .p x] [.lst xs]) Q := by
  refine ok_run rfl ?_
  refine ok_then ?_
  have low : ∀ ys, Fd (c + 1) ys → Ok (exec G F (bentB d o) [some (.r 0), some (.p x), none, none, none, none] [.lst ys]) (Fin 1 Q) := fun ys fd =>
    bent_b gd go hB hB2 hx hl fd (by omega) fun v zs fl hv fd => q v zs fl hv (fd.mono (by omega))
  cases x with
  | tuple zs =>
    have hz := hl zs rfl
    simp [bentI1, isiD, hs]
    cases zs with
    | nil =>
      simp
      exact low xs (hf.mono (by omega))
    | cons y0 r0 =>
      generalize hzs : y0 :: r0 = zs at *
      have hne : zs.isEmpty = false := by rw [← hzs]; rfl
      have hpos : 0 < zs.length := by rw [← hzs]; simp
      have hne2 : zs ≠ [] := by rw [← hzs]; simp
      simp [hne, hne2]
      refine draw_one (many := 5) gd (by decide) (by decide) hf (by omega) fun r ys fl hr fd => ?_
      by_cases h0 : r = 0
      · subst h0
        simp
        exact low ys fd
      · have hp : 0 < r := by omega
        simp [hp, bentT1]
        refine draw_one (many := zs.length) gd hpos (by omega) fd (by omega) fun k ys2 fl2 hk fd2 => ?_
        simp [cut_take2, cut_drop2, cut_take3, cut_drop3, atI_nat, List.getElem?_eq_getElem hk]
        refine draws_one1 (gb zs zs[k] rfl (List.getElem_mem hk)) fd2 (by omega) fun v ys3 fl3 hv fd3 => ?_
        have s1 : ∀ o : Option PyData, szO (min k zs.length + 1) o = o := fun o => szO_ok (by omega)
        have s2 : ∀ o : Option PyData, szO (min k zs.length + 1 + (zs.length - (k + 1))) o = o := fun o => szO_ok (by omega)
        simp [s1, s2]
        refine q (.tuple (zs.take k ++ (v :: zs.drop (k + 1)))) ys3 false ?_ (fd3.mono (by omega))
        have hall := lfBs_iff.mp (show lfBs B zs = true from hx)
        refine ⟨lfBs_iff.mpr fun z h => ?_, ?_, ?_⟩
        · rcases List.mem_append.mp h with h | h
          · exact lf_mono (by omega) z (hall z (List.mem_of_mem_take h))
          · rcases List.mem_cons.mp h with rfl | h
            · exact hv.1
            · exact lf_mono (by omega) z (hall z (List.mem_of_mem_drop h))
        · have sp := tszs_split (xs := zs) k
          rw [List.drop_eq_getElem_cons hk] at sp
          have := hv.2.1
          simp only [tsz, tszs_app, tszs] at sp ⊢
          omega
        · simp only [PyData.depth]
          have : PyData.depthAll (zs.take k ++ (v :: zs.drop (k + 1))) ≤ PyData.depthAll zs + 3 := all_depth fun z h => by
            rcases List.mem_append.mp h with h | h
            · have := dep_mem (List.mem_of_mem_take h); omega
            · rcases List.mem_cons.mp h with rfl | h
              · have := hv.2.2
                have := dep_mem (List.getElem_mem hk)
                omega
              · have := dep_mem (List.mem_of_mem_drop h); omega
          omega
  | _ =>
    simp [bentI1, isiD]
    exact low xs (hf.mono (by omega))
end
end Px

/-! Pq5: what is vast; a law's own unit, and its own look at units. -/
namespace Px
open PySem
variable {G : Pg} {F : Nat → List D → M (PyData × Bool)} {Q : PyData × Bool → List O → Prop}
@[simp] theorem cmp_gtB {b : Bool} {j : Int} : cmpD .gt (.bool b) (.int j) = some (decide (j < if b then 1 else 0)) := (Eq.refl _).trans rfl
def vastA : S := (.ife (.not (.isi (.var 0) .tuple)) (.seq (.ret (.bl false)) .skip) .skip)
def vastI : S := (.ife (.and (.cmp .eq (.blt .len (.cons (.var 0) .nil)) (.int 2))
    (.and (.isi (.ix (.var 0) (.int 0)) .int) (.and (.cmp .gt (.ix (.var 0) (.int 0)) (.int 400)) (.cmp .eq (.ix (.var 0) (.int 1)) (.tup .nil))))) (.seq (.ret
    (.bl true)) .skip) .skip)
def vastB (v : Nat) : S := (.seq (.ret (.blt .any (.cons (.comp [1] [1] false (.var 0) .nil (.call v (.cons (.var 1) .nil))) .nil))) .skip)
def vastC (v : Nat) : S := (.seq vastI (vastB v))
def vastS (v : Nat) : S := (.seq vastA (vastC v))
theorem vast_any {v : Nat} {zs : List PyData} {g : PyData → Bool} (hl : zs.length ≤ 1000000) (gv : ∀ y, y ∈ zs → Gives F v [y] (.bool (g y))) (q : Q (.bool (zs.any g), false) []) :
    Ok (exec G F (vastB v) [some (.p (.tuple zs)), none] []) (Fin 0 Q) := by
  simp [vastB, hl]
  refine ok_map (fun x => .bool (g x)) (fun x hx => ?_) ?_
  · simp [bindG]
    exact gives_call1 (gv x hx) fun b => by simp
  · have : bltD .any [.list (zs.map fun x => .bool (g x))] = some (.bool (zs.any g)) := by
      show (boolsOf _).map _ = _
      rw [bools_map]
      simp [List.any_map, Function.comp_def]
    simp [bools_map]
    simpa [List.any_map, Function.comp_def] using q
theorem vast_step {B S n v : Nat} {d : PyData} (h : Th B S n d) (hB : B < 10 ^ 570) (hn : n ≤ 64) (hS : S ≤ 1000000) (gv : ∀ zs y, d = .tuple zs → y ∈ zs → ∃ b, Gives F v [y] (.bool b)) :
    ∃ b : Bool, ∀ Q : PyData × Bool → List O → Prop, Q (.bool b, false) [] → Ok (runFn G F ⟨1, 2, vastS v⟩ [.p d] []) Q := by
  cases d with
  | tuple zs =>
    have hl : zs.length ≤ 1000000 := by have := h.len; omega
    have gv2 : ∀ y, ∃ b, y ∈ zs → Gives F v [y] (.bool b) := fun y => by
      by_cases hy : y ∈ zs
      · obtain ⟨b, hb⟩ := gv zs y rfl hy
        exact ⟨b, fun _ => hb⟩
      · exact ⟨true, fun z => absurd z hy⟩
    obtain ⟨g, hg⟩ := Classical.axiomOfChoice gv2
    have rest : ∀ Q : PyData × Bool → List O → Prop, Q (.bool (zs.any g), false) [] → Ok (exec G F (vastB v) [some (.p (.tuple zs)), none] []) (Fin 0 Q) := fun Q q => vast_any hl hg q
    have start : ∀ Q : PyData × Bool → List O → Prop, Ok (exec G F (vastC v) [some (.p (.tuple zs)), none] []) (Fin 0 Q) → Ok (runFn G F ⟨1, 2, vastS v⟩ [.p (.tuple zs)] []) Q := fun Q q => by
      refine ok_run rfl ?_
      refine ok_then ?_
      simp [vastA, isiD]
      exact q
    by_cases h2 : zs.length = 2
    · obtain ⟨a, c, rfl⟩ : ∃ a c, zs = [a, c] := by
        match zs, h2 with
        | [a, c], _ => exact ⟨a, c, rfl⟩
      have sc : shp c = true := by
        cases n with
        | zero => exact absurd h.dp (by simp [PyData.depth])
        | succ n => exact th_shp (h.mem (x := c) (by simp)) hB (by omega)
      by_cases hb : (match a with | .int i => decide (400 < i) | _ => false) && PyData.eqv c (.tuple [])
      · refine ⟨true, fun Q q => start Q (ok_then ?_)⟩
        cases a with
        | int i =>
          simp at hb
          simp [vastI, isiD, hb, sc]
          exact q
        | _ => simp at hb
      · refine ⟨[a, c].any g, fun Q q => start Q (ok_then ?_)⟩
        have r := rest Q q
        cases a with
        | int i =>
          by_cases hi : 400 < i
          · simp [hi] at hb
            simp [vastI, isiD, hi, sc, hb]
            exact r
          · simp [vastI, isiD, hi]
            exact r
        | bool i =>
          have : ¬ (400 : Int) < if i = true then 1 else 0 := by split <;> omega
          simp [vastI, isiD, this]
          exact r
        | _ =>
          simp [vastI, isiD]
          exact r
    · refine ⟨zs.any g, fun Q q => start Q (ok_then ?_)⟩
      have h3 : ¬ (zs.length : Int) = 2 := by omega
      simp [vastI, h3]
      exact rest Q q
  | _ =>
    refine ⟨false, fun Q q => ?_⟩
    refine ok_run rfl ?_
    refine ok_then ?_
    simp [vastA, isiD]
    exact q
/-! the law's unit -/
def lawUnitS : S :=
    (.seq (.ret (.tup (.cons (.var 0) (.cons (.blt .tuple (.cons (.comp [1] [1] false (.rng1 (.var 0)) .nil (.blt .tuple (.cons (.comp [2] [2] false (.rng1 (.var
    0)) .nil (.blt .int (.cons (.cmp .eq (.var 1) (.var 2)) .nil))) .nil))) .nil)) .nil)))) .skip)
theorem law_unit_ok {n : Nat} (hn : n ≤ 1000) (q : Q (tabF n n idf, false) []) : Ok (runFn G F ⟨1, 3, lawUnitS⟩ [.p (.int n)] []) Q := by
  have r3 : n ≤ 1000000 := by omega
  simp [runFn, lawUnitS, nat_le r3, nat_ge, r3]
  refine ok_map (fun x => match x with | .int j => rowF n (idf j.toNat) | x => x) (fun x hx => ?_) ?_
  · obtain ⟨j, hj, rfl⟩ := List.mem_map.mp hx
    simp [bindG, nat_le r3, nat_ge, r3]
    refine ok_map (fun x => match x with | .int i => .int (if (j : Int) = i then 1 else 0) | x => x) (fun x hx => ?_) ?_
    · obtain ⟨i, hi, rfl⟩ := List.mem_map.mp hx
      simp [bindG, Int.ofNat_inj]
    · simp
      unfold rowF
      congr 1
      refine List.map_congr_left fun i hi => ?_
      simp only [Function.comp_def, idf, Int.ofNat_inj]
      by_cases e : j = i
      · subst e; simp
      · simp [e, Ne.symm e]
  · rw [List.map_map]
    simpa [tabF, rowsF, Function.comp_def] using q
/-! the law's look at units -/
def lawUniA (t : Nat) : S := (.ife (.or (.not (.call t (.cons (.var 0) .nil))) (.cmp .ne (.blt .len (.cons (.ix (.var 0) (.int 1)) .nil)) (.ix (.var 0) (.int 0)))) (.seq (.ret
    (.bl false)) .skip) .skip)
def lawUniT : S := (.seq (.ife (.cmp .ne (.comp [2] [2] false (.rng1 (.ix (.var 0) (.int 0)))
    (.cmp .ne (.ix (.ix (.ix (.var 0) (.int 1)) (.var 1)) (.var 2)) (.blt .int (.cons (.cmp .eq (.var 1) (.var 2)) .nil))) (.var 2)) (.lst .nil)) (.seq (.ret
    (.bl false)) .skip) .skip) .skip)
def lawUniB : S := (.seq (.for_ [1] false (.rng1 (.ix (.var 0) (.int 0))) lawUniT) (.seq (.ret (.bl true)) .skip))
def lawUniS (t : Nat) : S := (.seq (lawUniA t) lawUniB)
theorem law_uni_b {n : Nat} {f : Nat → Nat → Int} (hn : n ≤ 1000) (q : Q (.bool (PyData.eqv (tabF n n f) (tabF n n idf)), false) []) : Ok (exec G F lawUniB [some (.p (tabF n n f)), none, none] []) (Fin 0 Q) := by
  have r3 : n ≤ 1000000 := by omega
  refine ok_then ?_
  simp [nat_le r3, nat_ge]
  refine ok_forN (a := 0) (n := n) (by simp [rangeL]) (fun i ρ h => (∃ x y, ρ = [some (.p (tabF n n f)), x, y]) ∧ h = [] ∧ ∀ k, k < i → ∀ j, j < n → f k j = idf k j) ⟨⟨_, _, rfl⟩, rfl, fun k hk => absurd hk (Nat.not_lt_zero _)⟩ (fun i ρ h hi I => ?_) (fun ρ h I => ?_)
  · obtain ⟨⟨x, y, rfl⟩, rfl, I⟩ := I
    unfold lawUniT
    have e0 : (rowsF n n f)[i]? = some (rowF n (f i)) := by simp [rowsF, hi]
    simp [nat_le r3, nat_ge, r3, atI_nat, e0]
    refine ok_fil (fun x => match x with | .int j => !decide (f i j.toNat = idf i j.toNat) | _ => false) (fun x hx => ?_) ?_
    · obtain ⟨j, hj, rfl⟩ := List.mem_map.mp hx
      have hj := List.mem_range.mp hj
      have e1 : ixD (rowF n (f i)) (.int (j : Int)) = some (.int (f i j)) := by
        show L2.atI _ _ = _
        rw [atI_nat]
        simp [hj]
      simp [bindG, atI_nat, e0, e1, idf]
      by_cases e : i = j
      · subst e; simp; rw [Bool.eq_iff_iff]; simp
      · have : ¬ (i : Int) = j := by omega
        simp [this, Ne.symm e]
        rw [Bool.eq_iff_iff]; simp
    · have hs : shp (.list (((List.range n).map fun j => PyData.int (j : Nat)).filter fun x => match x with | .int j => !decide (f i j.toNat = idf i j.toNat) | _ => false)) = true := shp_pl (n := 1) (pl_lst fun x hx => by
        obtain ⟨j, _, rfl⟩ := List.mem_map.mp (List.mem_filter.mp hx).1
        exact pl_int) (by decide)
      simp only [zCmp_p, cmp_ne, hs, shp_nilL, eqv_nilL, fil_empty, Bool.true_and, if_true, ok_ok1, ok_bnd, bnd_ok1]
      by_cases hall : ∀ j, j < n → f i j = idf i j
      · have e : (((List.range n).map fun j => PyData.int (j : Nat)).all fun x => !(match x with | .int j => !decide (f i j.toNat = idf i j.toNat) | _ => false)) = true := by
          simp only [List.all_map, Function.comp_def, List.all_eq_true, List.mem_range]
          intro j hj
          simp [hall j hj]
        rw [e]
        simp
        intro k hk j hj
        by_cases hk2 : k < i
        · exact I k hk2 j hj
        · obtain rfl : k = i := by omega
          exact hall j hj
      · have e : (((List.range n).map fun j => PyData.int (j : Nat)).all fun x => !(match x with | .int j => !decide (f i j.toNat = idf i j.toNat) | _ => false)) = false := by
          rw [Bool.eq_false_iff]
          intro h
          refine hall fun j hj => ?_
          simp only [List.all_map, Function.comp_def, List.all_eq_true, List.mem_range] at h
          have := h j hj
          simpa using this
        rw [e]
        simp
        have ne : ¬ Ag n n f idf := fun a => hall fun j hj => a i hi j hj
        rw [eqv_tab_ne ne] at q
        exact q
  · obtain ⟨⟨x, y, rfl⟩, rfl, I⟩ := I
    have ag : tabF n n f = tabF n n idf := tabF_congr I
    rw [ag, eqv_tab_self] at q
    simp
    exact q
theorem law_uni_ok {t : Nat} {d : PyData} (gt : Gives F t [d] (.bool (isTabD d))) (hn : ∀ n f, d = tabF n n f → n ≤ 1000) (q : Q (.bool (isUniD d), false) []) : Ok (runFn G F ⟨1, 3, lawUniS t⟩ [.p d] []) Q := by
  refine ok_run rfl ?_
  refine ok_then ?_
  simp [lawUniA]
  refine gives_call1 gt fun _ => ?_
  cases h : isTabD d with
  | false =>
    rw [isUni_no h] at q
    simp
    exact q
  | true =>
    obtain ⟨n, m, f, rfl⟩ := tab_of h
    rw [isUni_tab] at q
    by_cases e : n = m
    · subst e
      simp at q ⊢
      exact law_uni_b (hn n f rfl) q
    · have e2 : ¬ (n : Int) = m := by omega
      simp [e, e2] at q ⊢
      exact q
end Px

namespace K04
open PySem Px
def f_is_whole : S :=
    (.seq (.ret (.and (.isi (.var 0) .int) (.not (.isi (.var 0) .bool)))) .skip)
def f_is_row : S :=
    (.seq (.ret (.and (.isi (.var 1) .tuple) (.and (.cmp .eq (.blt .len (.cons (.var 1) .nil)) (.var 0)) (.blt .all (.cons (.comp [2] [2] false (.var 1) .nil
    (.call 0 (.cons (.var 2) .nil))) .nil))))) .skip)
def f_is_table : S :=
    (.seq (.ife (.or (.not (.isi (.var 0) .tuple)) (.or (.cmp .ne (.blt .len (.cons (.var 0) .nil)) (.int 2)) (.or (.not (.call 0 (.cons (.ix (.var 0) (.int 0))
    .nil))) (.cmp .lt (.ix (.var 0) (.int 0)) (.int 0))))) (.seq (.ret (.bl false)) .skip) .skip) (.seq (.ret (.and (.isi (.ix (.var 0) (.int 1)) .tuple) (.blt
    .all (.cons (.comp [1] [1] false (.ix (.var 0) (.int 1)) .nil (.call 1 (.cons (.ix (.var 0) (.int 0)) (.cons (.var 1) .nil)))) .nil)))) .skip))
def f_unit_row : S :=
    (.seq (.ret (.blt .tuple (.cons (.comp [2] [2] false (.rng1 (.var 0)) .nil (.blt .int (.cons (.cmp .eq (.var 2) (.var 1)) .nil))) .nil))) .skip)
def f_unit : S :=
    (.seq (.ret (.tup (.cons (.var 0) (.cons (.blt .tuple (.cons (.comp [1] [1] false (.rng1 (.var 0)) .nil (.call 3 (.cons (.var 0) (.cons (.var 1) .nil))))
    .nil)) .nil)))) .skip)
def f_is_square : S :=
    (.seq (.ret (.cmp .eq (.blt .len (.cons (.ix (.var 0) (.int 1)) .nil)) (.ix (.var 0) (.int 0)))) .skip)
def f_is_unit : S :=
    (.seq (.ret (.and (.call 2 (.cons (.var 0) .nil)) (.and (.call 5 (.cons (.var 0) .nil)) (.cmp .eq (.var 0) (.call 4 (.cons (.ix (.var 0) (.int 0)) .nil))))))
    .skip)
def f__law_feed : S :=
    (.seq (.retF (.lst (.cons (.sl (.var 0) .nil (.int 63)) (.cons (.int 0) (.cons (.int 0) (.cons (.int 0) .nil)))))) .skip)
def f__law_draw : S :=
    (.seq (.ixs (.var 0) (.int 3) (.bin .add (.ix (.var 0) (.int 3)) (.int 1))) (.seq (.ife (.cmp .gt (.ix (.var 0) (.int 2)) (.int 0)) (.seq (.set 2 (.bin .mod
    (.ix (.var 0) (.int 2)) (.var 1))) (.seq (.ixs (.var 0) (.int 2) (.bin .fdv (.ix (.var 0) (.int 2)) (.var 1))) (.seq (.ret (.var 2)) .skip))) .skip) (.seq
    (.set 3 (.int 7)) (.seq (.ife (.cmp .ne (.ix (.var 0) (.int 0)) (.lst .nil)) (.seq (.set 3 (.ix (.ix (.var 0) (.int 0)) (.bin .mod (.ix (.var 0) (.int 1))
    (.blt .len (.cons (.ix (.var 0) (.int 0)) .nil))))) .skip) .skip) (.seq (.ixs (.var 0) (.int 1) (.bin .add (.ix (.var 0) (.int 1)) (.int 1))) (.seq (.ife
    (.and (.cmp .ge (.var 3) (.bin .pow (.int 10) (.int 18))) (.cmp .le (.ix (.var 0) (.int 1)) (.blt .len (.cons (.ix (.var 0) (.int 0)) .nil)))) (.seq (.ixs
    (.var 0) (.int 2) (.bin .fdv (.var 3) (.var 1))) (.seq (.ret (.bin .mod (.var 3) (.var 1))) .skip)) .skip) (.seq (.set 4 (.bin .mod (.bin .pow (.bin .add
    (.bin .mod (.var 3) (.int 2147483629)) (.bin .mul (.int 104729) (.ix (.var 0) (.int 3)))) (.int 5)) (.int 2147483647))) (.seq (.set 4 (.bin .mod (.bin .pow
    (.bin .add (.bin .mul (.var 4) (.bin .add (.bin .mul (.int 2) (.ix (.var 0) (.int 3))) (.int 1))) (.int 7919)) (.int 3)) (.int 2147483587))) (.seq (.ret
    (.bin .mod (.bin .fdv (.var 4) (.int 64)) (.var 1))) .skip)))))))))
def f__law_number : S :=
    (.seq (.set 1 (.call 8 (.cons (.var 0) (.cons (.int 4) .nil)))) (.seq (.ife (.cmp .eq (.var 1) (.int 0)) (.seq (.ret (.int 0)) .skip) .skip) (.seq (.ret
    (.ife (.cmp .lt (.var 1) (.int 3)) (.bin .sub (.call 8 (.cons (.var 0) (.cons (.int 19) .nil))) (.int 9)) (.bin .sub (.call 8 (.cons (.var 0) (.cons (.int
    199) .nil))) (.int 99)))) .skip)))
def f__law_rows : S :=
    (.seq (.new 3 (.lst .nil)) (.seq (.for_ [4] false (.rng1 (.var 1)) (.seq (.set 5 (.call 8 (.cons (.var 0) (.cons (.int 8) .nil)))) (.seq (.set 6 (.bin .mul
    (.tup (.cons (.int 0) .nil)) (.var 2))) (.seq (.ife (.or (.cmp .gt (.var 5) (.int 2)) (.and (.cmp .gt (.var 5) (.int 0)) (.cmp .eq (.var 3) (.lst .nil))))
    (.seq (.set 6 (.blt .tuple (.cons (.comp [7] [7] false (.rng1 (.var 2)) .nil (.call 9 (.cons (.var 0) .nil))) .nil))) .skip) (.seq (.ife (.cmp .gt (.var 5)
    (.int 0)) (.seq (.set 6 (.ix (.var 3) (.call 8 (.cons (.var 0) (.cons (.blt .len (.cons (.var 3) .nil)) .nil))))) (.seq (.set 6 (.ife (.cmp .eq (.var 5)
    (.int 1)) (.var 6) (.blt .tuple (.cons (.comp [8] [8] false (.var 6) .nil (.neg (.var 8))) .nil)))) .skip)) .skip) .skip)) (.seq (.app (.var 3) (.var 6))
    .skip))))) (.seq (.ret (.blt .tuple (.cons (.var 3) .nil))) .skip)))
def f__law_table : S :=
    (.seq (.ret (.tup (.cons (.var 2) (.cons (.call 10 (.cons (.var 0) (.cons (.var 1) (.cons (.var 2) .nil)))) .nil)))) .skip)
def f__law_odd : S :=
    (.seq (.set 1 (.lst (.cons .non (.cons (.bl true) (.cons (.bl false) (.cons (.str (Str.ofString "")) (.cons (.str (Str.ofString "add")) (.cons (.tup .nil)
    (.cons (.lst .nil) (.cons (.tup (.cons (.int 0) .nil)) (.cons (.lst (.cons (.int 0) .nil)) (.cons (.bin .pow (.int 10) (.int 40)) (.cons (.neg (.int 1))
    (.cons (.int 0) (.cons (.int 1) (.cons (.tup (.cons (.tup .nil) .nil)) (.cons (.tup (.cons (.int 0) (.cons (.tup .nil) .nil))) (.cons (.tup (.cons (.int 1)
    (.cons (.int 1) .nil))) (.cons (.str (Str.ofString "0")) (.cons (.tup (.cons (.int 1) (.cons (.int 2) (.cons (.int 3) .nil)))) .nil)))))))))))))))))))) (.seq
    (.ret (.ix (.var 1) (.call 8 (.cons (.var 0) (.cons (.int 18) .nil))))) .skip))
def f__law_bent : S :=
    (.seq (.ife (.and (.isi (.var 1) .tuple) (.and (.cmp .ne (.var 1) (.tup .nil)) (.cmp .gt (.call 8 (.cons (.var 0) (.cons (.int 5) .nil))) (.int 0)))) (.seq
    (.set 2 (.call 8 (.cons (.var 0) (.cons (.blt .len (.cons (.var 1) .nil)) .nil)))) (.seq (.ret (.bin .add (.bin .add (.sl (.var 1) .nil (.var 2)) (.tup
    (.cons (.call 13 (.cons (.var 0) (.cons (.ix (.var 1) (.var 2)) .nil))) .nil))) (.sl (.var 1) (.bin .add (.var 2) (.int 1)) .nil))) .skip)) .skip) (.seq
    (.set 3 (.call 8 (.cons (.var 0) (.cons (.int 6) .nil)))) (.seq (.ife (.and (.isi (.var 1) .tuple) (.cmp .gt (.var 3) (.int 1))) (.seq (.set 2 (.call 8
    (.cons (.var 0) (.cons (.bin .add (.blt .len (.cons (.var 1) .nil)) (.int 1)) .nil)))) (.seq (.set 4 (.ife (.cmp .eq (.var 3) (.int 2)) (.call 12 (.cons
    (.var 0) .nil)) (.int 0))) (.seq (.set 5 (.lst (.cons (.bin .add (.bin .add (.sl (.var 1) .nil (.var 2)) (.tup (.cons (.var 4) .nil))) (.sl (.var 1) (.var 2)
    .nil)) (.cons (.bin .add (.sl (.var 1) .nil (.var 2)) (.sl (.var 1) (.bin .add (.var 2) (.int 1)) .nil)) (.cons (.bin .add (.sl (.var 1) .nil (.bin .add
    (.var 2) (.int 1))) (.sl (.var 1) (.var 2) .nil)) .nil))))) (.seq (.ret (.ix (.bin .add (.var 5) (.lst (.cons (.slr (.var 1)) .nil))) (.bin .sub (.var 3)
    (.int 2)))) .skip)))) .skip) (.seq (.ife (.and (.isi (.var 1) .tuple) (.cmp .eq (.var 3) (.int 1))) (.seq (.ret (.lof (.var 1))) .skip) .skip) (.seq (.ife
    (.and (.isi (.var 1) .int) (.and (.not (.isi (.var 1) .bool)) (.cmp .gt (.var 3) (.int 0)))) (.seq (.ret (.ix (.lst (.cons (.bin .add (.var 1) (.int 1))
    (.cons (.bin .sub (.var 1) (.int 1)) (.cons (.neg (.var 1)) (.cons (.cmp .eq (.var 1) (.int 1)) (.cons (.blt .str (.cons (.var 1) .nil)) .nil)))))) (.bin
    .sub (.var 3) (.int 1)))) .skip) .skip) (.seq (.ret (.call 12 (.cons (.var 0) .nil))) .skip))))))
def f__law_is_row : S :=
    (.seq (.ife (.or (.not (.isi (.var 1) .tuple)) (.cmp .ne (.blt .len (.cons (.var 1) .nil)) (.var 0))) (.seq (.ret (.bl false)) .skip) .skip) (.seq (.ret
    (.cmp .eq (.comp [2] [2] false (.var 1) (.or (.not (.isi (.var 2) .int)) (.isi (.var 2) .bool)) (.var 2)) (.lst .nil))) .skip))
def f__law_is_table : S :=
    (.seq (.ife (.or (.not (.isi (.var 0) .tuple)) (.or (.cmp .ne (.blt .len (.cons (.var 0) .nil)) (.int 2)) (.or (.not (.isi (.ix (.var 0) (.int 0)) .int))
    (.isi (.ix (.var 0) (.int 0)) .bool)))) (.seq (.ret (.bl false)) .skip) .skip) (.seq (.ife (.or (.cmp .lt (.ix (.var 0) (.int 0)) (.int 0)) (.not (.isi (.ix
    (.var 0) (.int 1)) .tuple))) (.seq (.ret (.bl false)) .skip) .skip) (.seq (.ret (.cmp .eq (.comp [1] [1] false (.ix (.var 0) (.int 1)) (.not (.call 14 (.cons
    (.ix (.var 0) (.int 0)) (.cons (.var 1) .nil)))) (.var 1)) (.lst .nil))) .skip)))
def f__law_is_unit : S :=
    (.seq (.ife (.or (.not (.call 15 (.cons (.var 0) .nil))) (.cmp .ne (.blt .len (.cons (.ix (.var 0) (.int 1)) .nil)) (.ix (.var 0) (.int 0)))) (.seq (.ret
    (.bl false)) .skip) .skip) (.seq (.for_ [1] false (.rng1 (.ix (.var 0) (.int 0))) (.seq (.ife (.cmp .ne (.comp [2] [2] false (.rng1 (.ix (.var 0) (.int 0)))
    (.cmp .ne (.ix (.ix (.ix (.var 0) (.int 1)) (.var 1)) (.var 2)) (.blt .int (.cons (.cmp .eq (.var 1) (.var 2)) .nil))) (.var 2)) (.lst .nil)) (.seq (.ret
    (.bl false)) .skip) .skip) .skip)) (.seq (.ret (.bl true)) .skip)))
def f__law_unit : S :=
    (.seq (.ret (.tup (.cons (.var 0) (.cons (.blt .tuple (.cons (.comp [1] [1] false (.rng1 (.var 0)) .nil (.blt .tuple (.cons (.comp [2] [2] false (.rng1 (.var
    0)) .nil (.blt .int (.cons (.cmp .eq (.var 1) (.var 2)) .nil))) .nil))) .nil)) .nil)))) .skip)
def f__law_by_hand : S :=
    (.seq (.set 0 (.lst (.cons (.tup (.cons (.int 0) (.cons (.tup .nil) .nil))) (.cons (.tup (.cons (.int 0) (.cons (.tup (.cons (.tup .nil) (.cons (.tup .nil)
    .nil))) .nil))) (.cons (.tup (.cons (.int 2) (.cons (.tup .nil) .nil))) (.cons (.tup (.cons (.int 1) (.cons (.tup (.cons (.tup (.cons (.int 1) .nil)) .nil))
    .nil))) (.cons (.tup (.cons (.int 2) (.cons (.tup (.cons (.tup (.cons (.int 1) (.cons (.int 0) .nil))) (.cons (.tup (.cons (.int 0) (.cons (.int 1) .nil)))
    .nil))) .nil))) (.cons (.tup (.cons (.int 2) (.cons (.tup (.cons (.tup (.cons (.int 1) (.cons (.int 0) .nil))) (.cons (.tup (.cons (.int 0) (.cons (.bl true)
    .nil))) .nil))) .nil))) (.cons (.tup (.cons (.int 0) (.cons (.tup (.cons (.tup .nil) .nil)) .nil))) .nil))))))))) (.seq (.set 0 (.bin .add (.var 0) (.lst
    (.cons (.tup (.cons (.bl true) (.cons (.tup (.cons (.tup (.cons (.int 1) .nil)) .nil)) .nil))) (.cons (.tup (.cons (.bl false) (.cons (.tup .nil) .nil)))
    (.cons (.tup (.cons (.int 1) (.cons (.lst (.cons (.tup (.cons (.int 1) .nil)) .nil)) .nil))) (.cons (.tup (.cons (.int 1) (.cons (.tup (.cons (.lst (.cons
    (.int 1) .nil)) .nil)) .nil))) (.cons (.tup (.cons (.neg (.int 1)) (.cons (.tup .nil) .nil))) (.cons (.tup (.cons (.int 1) (.cons (.tup (.cons (.tup (.cons
    (.int 1) (.cons (.int 0) .nil))) .nil)) .nil))) (.cons (.tup (.cons (.int 2) (.cons (.tup (.cons (.tup (.cons (.int 1) (.cons (.int 0) .nil))) .nil)) .nil)))
    .nil)))))))))) (.seq (.set 0 (.bin .add (.var 0) (.lst (.cons (.tup (.cons (.int 2) (.cons (.tup (.cons (.tup (.cons (.int 1) (.cons (.int 0) .nil))) (.cons
    (.tup (.cons (.int 0) (.cons (.int 1) .nil))) (.cons (.tup (.cons (.int 0) (.cons (.int 0) .nil))) .nil)))) .nil))) (.cons (.lst (.cons (.int 1) (.cons (.tup
    (.cons (.tup (.cons (.int 1) .nil)) .nil)) .nil))) (.cons (.tup (.cons (.int 1) (.cons (.tup (.cons (.tup (.cons (.int 1) .nil)) .nil)) (.cons (.tup .nil)
    .nil)))) (.cons (.tup (.cons (.int 1) .nil)) (.cons .non (.cons (.tup .nil) (.cons (.str (Str.ofString "table")) (.cons (.int 0) (.cons (.bl true)
    .nil)))))))))))) (.seq (.ret (.bin .add (.var 0) (.lst (.cons (.tup (.cons (.int 2) (.cons (.tup (.cons (.tup (.cons (.int 0) (.cons (.int 1) .nil))) (.cons
    (.tup (.cons (.int 1) (.cons (.int 0) .nil))) .nil))) .nil))) (.cons (.tup (.cons (.int 2) (.cons (.tup (.cons (.tup (.cons (.int 1) (.cons (.int 0) .nil)))
    (.cons (.tup (.cons (.int 1) (.cons (.int 1) .nil))) .nil))) .nil))) (.cons (.tup (.cons (.int 1) (.cons (.tup (.cons (.tup (.cons (.bin .pow (.int 10) (.int
    60)) .nil)) .nil)) .nil))) (.cons (.tup (.cons (.int 1) (.cons (.tup (.cons (.tup (.cons (.str (Str.ofString "1")) .nil)) .nil)) .nil))) (.cons (.tup (.cons
    (.str (Str.ofString "1")) (.cons (.tup (.cons (.tup (.cons (.int 1) .nil)) .nil)) .nil))) .nil)))))))) .skip))))
def f__law_great_ones : S :=
    (.seq (.set 1 (.call 17 (.cons (.int 50) .nil))) (.seq (.set 2 (.bin .mul (.tup (.cons (.tup (.cons (.int 1) (.cons (.int 0) .nil))) .nil)) (.int 299)))
    (.seq (.set 3 (.lst (.cons (.var 1) (.cons (.tup (.cons (.int 50) (.cons (.bin .add (.sl (.ix (.var 1) (.int 1)) .nil (.int 49)) (.tup (.cons (.bin .add
    (.bin .mul (.tup (.cons (.int 0) .nil)) (.int 48)) (.tup (.cons (.int 1) (.cons (.int 1) .nil)))) .nil))) .nil))) (.cons (.tup (.cons (.int 50) (.cons (.bin
    .add (.sl (.ix (.var 1) (.int 1)) .nil (.int 49)) (.tup (.cons (.bin .add (.bin .mul (.tup (.cons (.int 0) .nil)) (.int 49)) (.tup (.cons (.bl true) .nil)))
    .nil))) .nil))) .nil))))) (.seq (.set 3 (.bin .add (.var 3) (.lst (.cons (.tup (.cons (.int 300) (.cons (.tup (.cons (.bin .mul (.tup (.cons (.int 0) .nil))
    (.int 300)) .nil)) .nil))) (.cons (.tup (.cons (.int 300) (.cons (.tup (.cons (.bin .add (.bin .mul (.tup (.cons (.int 0) .nil)) (.int 299)) (.tup (.cons
    (.bl true) .nil))) .nil)) .nil))) (.cons (.tup (.cons (.int 2) (.cons (.var 2) .nil))) (.cons (.tup (.cons (.int 2) (.cons (.bin .add (.var 2) (.tup (.cons
    (.tup (.cons (.int 1) (.cons .non .nil))) .nil))) .nil))) .nil))))))) (.seq (.set 4 (.tup (.cons (.int 8) (.cons (.blt .tuple (.cons (.comp [5] [5] false
    (.rng1 (.int 40)) .nil (.blt .tuple (.cons (.comp [6] [6] false (.rng1 (.int 8)) .nil (.call 9 (.cons (.var 0) .nil))) .nil))) .nil)) .nil)))) (.seq (.par 5
    6 (.call 8 (.cons (.var 0) (.cons (.int 40) .nil))) (.call 8 (.cons (.var 0) (.cons (.int 8) .nil)))) (.seq (.set 7 (.bin .add (.bin .add (.sl (.ix (.ix
    (.var 4) (.int 1)) (.var 5)) .nil (.var 6)) (.tup (.cons (.call 12 (.cons (.var 0) .nil)) .nil))) (.sl (.ix (.ix (.var 4) (.int 1)) (.var 5)) (.bin .add
    (.var 6) (.int 1)) .nil))) (.seq (.ret (.bin .add (.var 3) (.lst (.cons (.var 4) (.cons (.tup (.cons (.int 8) (.cons (.bin .add (.bin .add (.sl (.ix (.var 4)
    (.int 1)) .nil (.var 5)) (.tup (.cons (.var 7) .nil))) (.sl (.ix (.var 4) (.int 1)) (.bin .add (.var 5) (.int 1)) .nil)) .nil))) .nil))))) .skip))))))))
def f__law_things : S :=
    (.seq (.set 1 (.call 11 (.cons (.var 0) (.cons (.call 8 (.cons (.var 0) (.cons (.int 5) .nil))) (.cons (.call 8 (.cons (.var 0) (.cons (.int 5) .nil)))
    .nil))))) (.seq (.set 2 (.call 8 (.cons (.var 0) (.cons (.int 12) .nil)))) (.seq (.set 3 (.call 17 (.cons (.var 2) .nil))) (.seq (.set 4 (.lst (.cons (.var
    1) (.cons (.var 3) (.cons (.lof (.var 1)) (.cons (.slr (.var 1)) (.cons (.tup (.cons (.bin .add (.ix (.var 1) (.int 0)) (.int 1)) (.cons (.ix (.var 1) (.int
    1)) .nil))) (.cons (.tup (.cons (.blt .len (.cons (.ix (.var 1) (.int 1)) .nil)) (.cons (.ix (.var 1) (.int 1)) .nil))) .nil)))))))) (.seq (.for_ [5] false
    (.tup (.cons (.var 1) (.cons (.var 3) .nil))) (.seq (.set 6 (.call 13 (.cons (.var 0) (.cons (.var 5) .nil)))) (.seq (.set 4 (.bin .add (.var 4) (.lst (.cons
    (.var 6) (.cons (.call 13 (.cons (.var 0) (.cons (.var 6) .nil))) (.cons (.call 13 (.cons (.var 0) (.cons (.var 5) .nil))) .nil)))))) .skip))) (.seq (.ret
    (.bin .add (.var 4) (.lst (.cons (.call 12 (.cons (.var 0) .nil)) .nil)))) .skip))))))
def f__law_right : S :=
    (.seq (.set 1 (.blt .repr (.cons (.var 0) .nil))) (.seq (.set 2 (.blt .repr (.cons (.lst (.cons (.call 15 (.cons (.var 0) .nil)) (.cons (.call 16 (.cons
    (.var 0) .nil)) .nil))) .nil))) (.seq (.for_ [3] false (.rng1 (.int 2)) (.seq (.ife (.cmp .ne (.blt .repr (.cons (.lst (.cons (.call 2 (.cons (.var 0) .nil))
    (.cons (.call 6 (.cons (.var 0) .nil)) .nil))) .nil)) (.var 2)) (.seq (.ret (.bl false)) .skip) .skip) .skip)) (.seq (.ret (.cmp .eq (.blt .repr (.cons (.var
    0) .nil)) (.var 1))) .skip))))
def f__law_row_right : S :=
    (.seq (.set 1 (.call 8 (.cons (.var 0) (.cons (.int 9) .nil)))) (.seq (.set 2 (.blt .tuple (.cons (.comp [5] [5] false (.rng1 (.var 1)) .nil (.call 9 (.cons
    (.var 0) .nil))) .nil))) (.seq (.for_ [3] false (.tup (.cons (.var 2) (.cons (.lof (.var 2)) (.cons (.call 13 (.cons (.var 0) (.cons (.var 2) .nil))) (.cons
    (.call 13 (.cons (.var 0) (.cons (.var 2) .nil))) (.cons (.bin .add (.var 2) (.tup (.cons (.bl true) .nil))) (.cons (.call 12 (.cons (.var 0) .nil))
    .nil))))))) (.seq (.for_ [4] false (.tup (.cons (.var 1) (.cons (.bin .add (.var 1) (.int 1)) (.cons (.blt .max (.cons (.int 0) (.cons (.bin .sub (.var 1)
    (.int 1)) .nil))) (.cons (.int 0) .nil))))) (.seq (.ife (.cmp .ne (.blt .repr (.cons (.call 1 (.cons (.var 4) (.cons (.var 3) .nil))) .nil)) (.blt .repr
    (.cons (.call 14 (.cons (.var 4) (.cons (.var 3) .nil))) .nil))) (.seq (.ret (.bl false)) .skip) .skip) .skip)) .skip)) (.seq (.ret (.cmp .eq (.blt .repr
    (.cons (.lst (.cons (.call 1 (.cons (.int 99) (.cons (.bin .mul (.tup (.cons (.int 0) .nil)) (.int 99)) .nil))) (.cons (.call 1 (.cons (.int 99) (.cons (.bin
    .mul (.tup (.cons (.int 0) .nil)) (.int 98)) .nil))) .nil))) .nil)) (.blt .repr (.cons (.lst (.cons (.bl true) (.cons (.bl false) .nil))) .nil)))) .skip))))
def f__law_is_vast : S :=
    (.seq (.ife (.not (.isi (.var 0) .tuple)) (.seq (.ret (.bl false)) .skip) .skip) (.seq (.ife (.and (.cmp .eq (.blt .len (.cons (.var 0) .nil)) (.int 2))
    (.and (.isi (.ix (.var 0) (.int 0)) .int) (.and (.cmp .gt (.ix (.var 0) (.int 0)) (.int 400)) (.cmp .eq (.ix (.var 0) (.int 1)) (.tup .nil))))) (.seq (.ret
    (.bl true)) .skip) .skip) (.seq (.ret (.blt .any (.cons (.comp [1] [1] false (.var 0) .nil (.call 23 (.cons (.var 1) .nil))) .nil))) .skip)))
def f_law : S :=
    (.seq (.new 1 (.call 7 (.cons (.var 0) .nil))) (.seq (.set 2 (.call 18 .nil)) (.seq (.for_ [3] false (.rng1 (.int 2)) (.seq (.set 2 (.bin .add (.var 2)
    (.call 20 (.cons (.var 1) .nil)))) .skip)) (.seq (.ife (.cmp .eq (.call 8 (.cons (.var 1) (.cons (.int 4) .nil))) (.int 0)) (.seq (.set 2 (.bin .add (.var 2)
    (.call 19 (.cons (.var 1) .nil)))) .skip) .skip) (.seq (.ife (.cmp .mem (.bl false) (.comp [4] [4] false (.var 2) (.not (.call 23 (.cons (.var 4) .nil)))
    (.call 21 (.cons (.var 4) .nil)))) (.seq (.ret (.bl false)) .skip) .skip) (.seq (.ret (.cmp .nmem (.bl false) (.comp [3] [3] false (.rng1 (.int 2)) .nil
    (.call 22 (.cons (.var 1) .nil))))) .skip))))))
def PG : Pg := ⟨[], [], []⟩
def fns : List Fn := [⟨1, 1, f_is_whole⟩,
  ⟨2, 3, f_is_row⟩,
  ⟨1, 2, f_is_table⟩,
  ⟨2, 3, f_unit_row⟩,
  ⟨1, 2, f_unit⟩,
  ⟨1, 1, f_is_square⟩,
  ⟨1, 1, f_is_unit⟩,
  ⟨1, 1, f__law_feed⟩,
  ⟨2, 5, f__law_draw⟩,
  ⟨1, 2, f__law_number⟩,
  ⟨3, 9, f__law_rows⟩,
  ⟨3, 3, f__law_table⟩,
  ⟨1, 2, f__law_odd⟩,
  ⟨2, 6, f__law_bent⟩,
  ⟨2, 3, f__law_is_row⟩,
  ⟨1, 2, f__law_is_table⟩,
  ⟨1, 3, f__law_is_unit⟩,
  ⟨1, 3, f__law_unit⟩,
  ⟨0, 1, f__law_by_hand⟩,
  ⟨1, 8, f__law_great_ones⟩,
  ⟨1, 7, f__law_things⟩,
  ⟨1, 4, f__law_right⟩,
  ⟨1, 6, f__law_row_right⟩,
  ⟨1, 2, f__law_is_vast⟩,
  ⟨1, 5, f_law⟩]
end K04

/-! Pk04: what is a table, a unit, a row: what the law's text comes to. -/
namespace K04
open PySem Px
abbrev CN (n : Nat) : Nat → List D → M (PyData × Bool) := callN PG fns n
theorem at0 {n f : Nat} {fn : Fn} {ds : List D} (h : fns[f]? = some fn) : CN (n + 1) f ds = runFn PG (CN n) fn ds := at_ h
theorem T : Feeds fns 8 9 10 11 := ⟨rfl, rfl, rfl, rfl⟩
abbrev Thg : PyData → Prop := Th (10 ^ 61) 3000 9
theorem tsz_rowF {m : Nat} {v : Nat → Int} : tsz (rowF m v) = m + 1 := by
  have : ∀ l : List Nat, tszs (l.map fun j => PyData.int (v j)) = l.length := fun l => by
    induction l with
    | nil => rfl
    | cons x r ih => simp only [List.map_cons, tszs, tsz, ih, List.length_cons]; omega
  simp only [rowF, tsz, this, List.length_range]
theorem tsz_rowsF {n m : Nat} {f : Nat → Nat → Int} : tszs (rowsF n m f) = n * (m + 1) := by
  have : ∀ l : List Nat, tszs (l.map fun i => rowF m (f i)) = l.length * (m + 1) := fun l => by
    induction l with
    | nil => simp [tszs]
    | cons x r ih => simp only [List.map_cons, tszs, tsz_rowF, ih, List.length_cons, Nat.succ_mul]; omega
  simp only [rowsF, this, List.length_range]
theorem tsz_tabF {n m : Nat} {f : Nat → Nat → Int} : tsz (tabF n m f) = n * (m + 1) + 3 := by
  simp only [tabF, tsz, tszs, tsz_rowsF]; omega
theorem side {n : Nat} {f : Nat → Nat → Int} (h : Thg (tabF n n f)) : n ≤ 1000 := by
  have h1 := h.sz
  rw [tsz_tabF] at h1
  by_cases hn : n ≤ 1000
  · exact hn
  · exfalso
    have : 1001 * 1002 ≤ n * (n + 1) := Nat.mul_le_mul (by omega) (by omega)
    omega
section
variable {k : Nat} {d : PyData}
theorem g_whole {x : PyData} : Gives (CN (k + 1)) 0 [x] (.bool (isWh x)) := fun Q q => by
  show Ok (CN (k + 1) 0 [.p x] []) Q
  rw [at0 rfl]
  exact is_whole_ok (q _ _)
theorem g_isrow {w : Int} {x : PyData} (hx : ∀ xs, x = .tuple xs → xs.length ≤ 1000000) : Gives (CN (k + 2)) 1 [.int w, x] (.bool (isRowD w x)) := fun Q q => by
  show Ok (CN (k + 1 + 1) 1 [.p (.int w), .p x] []) Q
  rw [at0 rfl]
  exact is_row_ok hx (fun x => g_whole) (q _ _)
theorem th_row {B S n : Nat} {x : PyData} (h : Th B S n x) (hS : S ≤ 1000000) : ∀ xs, x = .tuple xs → xs.length ≤ 1000000 := fun xs e => by
  subst e
  have := h.len
  omega
theorem g_istab (h : Thg d) : Gives (CN (k + 3)) 2 [d] (.bool (isTabD d)) := fun Q q => by
  show Ok (CN (k + 2 + 1) 2 [.p d] []) Q
  rw [at0 rfl]
  refine is_table_ok (w := 0) (r := 1) (fun a rs e => ?_) (fun x => g_whole) (fun n a rs x e hx => g_isrow ?_) (q _ _)
  · subst e
    have := h.mem (x := .tuple rs) (by simp)
    have := this.len
    omega
  · subst e
    have h2 := h.mem (x := .tuple rs) (by simp)
    exact th_row (h2.mem hx) (by decide)
theorem g_urow {n i : Nat} (h : n ≤ 1000) : Gives (CN (k + 1)) 3 [.int n, .int i] (rowF n (idf i)) := fun Q q => by
  show Ok (CN (k + 1) 3 [.p (.int n), .p (.int i)] []) Q
  rw [at0 rfl]
  exact unit_row_ok h (q _ _)
theorem g_unitP {n : Nat} (h : n ≤ 1000) : Gives (CN (k + 2)) 4 [.int n] (tabF n n idf) := fun Q q => by
  show Ok (CN (k + 1 + 1) 4 [.p (.int n)] []) Q
  rw [at0 rfl]
  exact unit_ok (u := 3) h (fun i _ => g_urow h) (q _ _)
theorem g_square {n m : Nat} {f : Nat → Nat → Int} (h : n ≤ 1000000) : Gives (CN (k + 1)) 5 [tabF n m f] (.bool (decide (n = m))) := fun Q q => by
  show Ok (CN (k + 1) 5 [.p (tabF n m f)] []) Q
  rw [at0 rfl]
  exact is_square_ok h (q _ _)
theorem g_isunit (h : Thg d) : Gives (CN (k + 4)) 6 [d] (.bool (isUniD d)) := fun Q q => by
  show Ok (CN (k + 3 + 1) 6 [.p d] []) Q
  rw [at0 rfl]
  refine is_unit_ok (t := 2) (s := 5) (u := 4) (g_istab h) (fun n m f e => g_square ?_) (fun n f e => g_unitP ?_) (q _ _)
  · subst e
    have h1 := h.sz
    rw [tsz_tabF] at h1
    have : n * 1 ≤ n * (m + 1) := Nat.mul_le_mul_left n (by omega)
    omega
  · subst e
    exact side h
theorem l_isrow {B S n : Nat} {w : Int} (h : Th B S n d) (hB : B < 10 ^ 570) (hn : n + 1 ≤ 64) (hS : S ≤ 1000000) : Gives (CN (k + 1)) 14 [.int w, d] (.bool (isRowD w d)) := fun Q q => by
  show Ok (CN (k + 1) 14 [.p (.int w), .p d] []) Q
  rw [at0 rfl]
  exact law_row_ok (h.mono (Nat.le_refl _) (Nat.le_refl _) (Nat.le_succ n)) hB hn hS (q _ _)
theorem l_istab (h : Thg d) : Gives (CN (k + 2)) 15 [d] (.bool (isTabD d)) := fun Q q => by
  show Ok (CN (k + 1 + 1) 15 [.p d] []) Q
  rw [at0 rfl]
  exact law_table_ok (r := 14) h (by decide +kernel) (by decide) (by decide) (fun i x hx => l_isrow hx (by decide +kernel) (by decide) (by decide)) (q _ _)
theorem l_isuni (h : Thg d) : Gives (CN (k + 3)) 16 [d] (.bool (isUniD d)) := fun Q q => by
  show Ok (CN (k + 2 + 1) 16 [.p d] []) Q
  rw [at0 rfl]
  refine law_uni_ok (t := 15) (l_istab h) (fun n f e => ?_) (q _ _)
  subst e
  exact side h
theorem l_unit {n : Nat} (h : n ≤ 1000) : Gives (CN (k + 1)) 17 [.int n] (tabF n n idf) := fun Q q => by
  show Ok (CN (k + 1) 17 [.p (.int n)] []) Q
  rw [at0 rfl]
  exact law_unit_ok h (q _ _)
theorem g_odd : Draws (CN (k + 2)) 12 [] 1 Odd := fun b xs Q hf hb q => by
  show Ok (CN (k + 1 + 1) 12 [.r 0] [.lst xs]) Q
  rw [at0 rfl]
  exact odd_ok (g_draw T) hf hb q
theorem g_bent {B : Nat} (hB : 10 ^ 40 ≤ B) (hB2 : B < 10 ^ 62) : ∀ (n : Nat) (k : Nat) (d : PyData), n ≤ 60 → lfB B d = true → PyData.depth d ≤ n → tsz d ≤ 5000 → Draws (CN (k + n + 3)) 13 [d] (4 * n + 4) (Bt B d)
  | n, k, d, hn, hl, hd, hz => fun b xs Q hf hb q => by
    show Ok (CN (k + n + 2 + 1) 13 [.r 0, .p d] [.lst xs]) Q
    rw [at0 rfl]
    have len : ∀ zs, d = .tuple zs → zs.length ≤ 100000 := fun zs e => by
      subst e
      have := len_tszs (xs := zs)
      simp only [tsz] at hz
      omega
    cases n with
    | zero =>
      refine bent_step (C := 0) (g_draw T) g_odd hB hB2 hl ?_ len (fun zs y e hy => ?_) hf (by omega) fun v ys fl hv fd => q v ys fl hv (fd.mono (by omega))
      · exact th_shp (B := B) (S := 5000) (n := 0) ⟨hl, hz, hd⟩ (Nat.lt_of_lt_of_le hB2 (by decide +kernel)) (by decide)
      · subst e
        exact absurd hd (by simp [PyData.depth])
    | succ n =>
      refine bent_step (C := 4 * n + 4) (g_draw T) g_odd hB hB2 hl ?_ len (fun zs y e hy => ?_) hf (by omega) fun v ys fl hv fd => q v ys fl hv (fd.mono (by omega))
      · exact th_shp (B := B) (S := 5000) (n := n + 1) ⟨hl, hz, hd⟩ (Nat.lt_of_lt_of_le hB2 (by decide +kernel)) (by omega)
      · subst e
        exact g_bent hB hB2 n k y (by omega) (lfBs_iff.mp hl y hy) (dep_tup.mp hd y hy) (by have := tsz_mem hy; simp only [tsz] at hz; omega)
/-! one thing asked -/
def rtT : S := (.seq (.ife (.cmp .ne (.blt .repr (.cons (.lst (.cons (.call 2 (.cons (.var 0) .nil))
    (.cons (.call 6 (.cons (.var 0) .nil)) .nil))) .nil)) (.var 2)) (.seq (.ret (.bl false)) .skip) .skip) .skip)
def rtC : S := (.seq (.for_ [3] false (.rng1 (.int 2)) rtT) (.seq (.ret (.cmp .eq (.blt .repr (.cons (.var
    0) .nil)) (.var 1))) .skip))
def rtB : S := (.seq (.set 2 (.blt .repr (.cons (.lst (.cons (.call 15 (.cons (.var 0) .nil)) (.cons (.call 16 (.cons
    (.var 0) .nil)) .nil))) .nil))) rtC)
def rtS : S := (.seq (.set 1 (.blt .repr (.cons (.var 0) .nil))) rtB)
theorem two_bools {b c : Bool} : Nice 1 2 1 (.list [.bool b, .bool c]) := nice_lst (by simp) fun x hx => by
  simp at hx
  rcases hx with rfl | rfl <;> exact nice_bool
theorem r_right (h : Thg d) : Gives (CN (k + 5)) 21 [d] (.bool true) := fun Q q => by
  show Ok (CN (k + 4 + 1) 21 [.p d] []) Q
  rw [at0 (show fns[21]? = some ⟨1, 4, rtS⟩ from rfl)]
  have r1 := th_repr h (by decide +kernel) (by decide) (by decide)
  have s1 := th_shs h (by decide +kernel)
  have r2 : bltD .repr [.list [.bool (isTabD d), .bool (isUniD d)]] = some (.str (PyData.shown (.list [.bool (isTabD d), .bool (isUniD d)]))) := blt_repr_nice two_bools (by decide) (by decide) (by decide) (by decide)
  have s2 : shp (.str (PyData.shown (.list [.bool (isTabD d), .bool (isUniD d)]))) = true := shp_shown two_bools (by decide) (by decide)
  have e1 := eqv_self s1
  have e2 := eqv_self s2
  generalize d.shown = t1 at *
  generalize (PyData.list [.bool (isTabD d), .bool (isUniD d)]).shown = t2 at *
  refine ok_run rfl ?_
  unfold rtS
  refine ok_then ?_
  simp [r1]
  unfold rtB
  refine ok_then ?_
  simp
  refine gives_call1 (l_istab h) fun _ => ?_
  simp
  refine gives_call1 (l_isuni h) fun _ => ?_
  simp [r2]
  unfold rtC
  refine ok_then ?_
  simp [rangeL]
  refine ok_forN (a := 0) (n := 2) (by rfl) (fun i ρ h => (∃ x, ρ = [some (.p d), some (.p (.str t1)), some (.p (.str t2)), x]) ∧ h = []) ⟨⟨_, rfl⟩, rfl⟩ (fun i ρ h hi I => ?_) (fun ρ h I => ?_)
  · obtain ⟨⟨x, rfl⟩, rfl⟩ := I
    simp [rtT]
    refine gives_call1 (g_istab ‹_›) fun _ => ?_
    simp
    refine gives_call1 (g_isunit ‹_›) fun _ => ?_
    simp [r2, s2, e2]
  · obtain ⟨⟨x, rfl⟩, rfl⟩ := I
    simp [r1, s1, e1]
    exact q _ _
/-! what is vast -/
theorem l_vast {B S : Nat} (hB : B < 10 ^ 570) (hS : S ≤ 1000000) : ∀ (n : Nat) (k : Nat) (d : PyData), n ≤ 60 → Th B S n d → ∃ b, Gives (CN (k + n + 1)) 23 [d] (.bool b)
  | n, k, d, hn, h => by
    obtain ⟨b, hb⟩ := vast_step (G := PG) (F := CN (k + n)) (v := 23) h hB (by omega) hS fun zs y e hy => by
      cases n with
      | zero =>
        subst e
        exact absurd h.dp (by simp [PyData.depth])
      | succ n =>
        subst e
        exact l_vast hB hS n k y (by omega) ((h.mem hy).mono (Nat.le_refl _) (by omega) (Nat.le_refl _))
    refine ⟨b, fun Q q => ?_⟩
    show Ok (CN (k + n + 1) 23 [.p d] []) Q
    rw [at0 (show fns[23]? = some ⟨1, 2, vastS 23⟩ from rfl)]
    exact hb Q (q _ _)
/-! by hand -/
def thB (d : PyData) : Bool := lfB (10 ^ 61) d && decide (tsz d ≤ 3000) && decide (PyData.depth d ≤ 9)
theorem thB_ok {d : PyData} (h : thB d = true) : Thg d := by
  simp only [thB, Bool.and_eq_true, decide_eq_true_eq] at h
  exact ⟨h.1.1, h.1.2, h.2⟩
def okH (o : Out (PyData × Bool)) : Bool := match o with
  | .ok (.list xs, _) _ => xs.all thB && decide (xs.length ≤ 100)
  | _ => false
theorem okH_ok {o : Out (PyData × Bool)} {Q : PyData × Bool → List O → Prop} (h : okH o = true) (q : ∀ xs b h, (∀ x ∈ xs, Thg x) → xs.length ≤ 100 → Q (.list xs, b) h) : Ok o Q := by
  cases o with
  | no => cases h
  | ex x h2 => cases h
  | ok v h2 =>
    obtain ⟨d, b⟩ := v
    cases d <;> simp only [okH, Bool.false_eq_true] at h
    simp only [Bool.and_eq_true, decide_eq_true_eq, List.all_eq_true] at h
    exact ok_of (q _ _ _ (fun x hx => thB_ok (h.1 x hx)) h.2)
theorem hand_ok : okH (CN 15 18 [] []) = true := by decide +kernel
/-! the things of a turn -/
def IsL (m : Nat) (v : PyData) : Prop := ∃ l, v = .list l ∧ l.length ≤ m ∧ ∀ x ∈ l, Thg x
def thE : S := (.seq (.ret (.bin .add (.var 4) (.lst (.cons (.call 12 (.cons (.var 0) .nil)) .nil)))) .skip)
def thT2 : S := (.seq (.set 4 (.bin .add (.var 4) (.lst (.cons (.var
    6) (.cons (.call 13 (.cons (.var 0) (.cons (.var 6) .nil))) (.cons (.call 13 (.cons (.var 0) (.cons (.var 5) .nil))) .nil)))))) .skip)
def thT : S := (.seq (.set 6 (.call 13 (.cons (.var 0) (.cons (.var 5) .nil)))) thT2)
def thD : S := (.seq (.for_ [5] false (.tup (.cons (.var 1) (.cons (.var 3) .nil))) thT) thE)
def thC : S := (.seq (.set 4 (.lst (.cons (.var
    1) (.cons (.var 3) (.cons (.lof (.var 1)) (.cons (.slr (.var 1)) (.cons (.tup (.cons (.bin .add (.ix (.var 1) (.int 0)) (.int 1)) (.cons (.ix (.var 1) (.int
    1)) .nil))) (.cons (.tup (.cons (.blt .len (.cons (.ix (.var 1) (.int 1)) .nil)) (.cons (.ix (.var 1) (.int 1)) .nil))) .nil)))))))) thD)
def thBS : S := (.seq (.set 2 (.call 8 (.cons (.var 0) (.cons (.int 12) .nil)))) (.seq (.set 3 (.call 17 (.cons (.var 2) .nil))) thC))
def thS : S := (.seq (.set 1 (.call 11 (.cons (.var 0) (.cons (.call 8 (.cons (.var 0) (.cons (.int 5) .nil))) (.cons (.call 8 (.cons (.var 0) (.cons (.int 5) .nil)))
    .nil))))) thBS)
/-- as drawn, to be bent -/
structure Base (d : PyData) : Prop where
  lf : lfB (10 ^ 40) d = true
  dp : PyData.depth d ≤ 3
  sz : tsz d ≤ 140
theorem Base.thg {d : PyData} (h : Base d) : Thg d := ⟨lf_mono (by decide +kernel) d h.lf, by have := h.sz; omega, by have := h.dp; omega⟩
theorem Odd.thg {d : PyData} (h : Odd d) : Thg d := ⟨lf_mono (by decide +kernel) d h.1, by have := h.2.1; omega, by have := h.2.2; omega⟩
theorem lf_row {m B : Nat} {v : Nat → Int} (b : ∀ j, j < m → (v j).natAbs ≤ B) : lfB B (rowF m v) = true := lfBs_iff.mpr fun x hx => by
  obtain ⟨j, hj, rfl⟩ := List.mem_map.mp hx
  simpa [lfB] using b j (List.mem_range.mp hj)
theorem lf_rows {n m B : Nat} {f : Nat → Nat → Int} (b : Bm n m B f) : lfBs B (rowsF n m f) = true := lfBs_iff.mpr fun x hx => by
  obtain ⟨i, hi, rfl⟩ := List.mem_map.mp hx
  exact lf_row fun j hj => b i (List.mem_range.mp hi) j hj
theorem lf_tab {n m B : Nat} {f : Nat → Nat → Int} (b : Bm n m B f) (hm : m ≤ B) : lfB B (tabF n m f) = true := by
  show lfBs B [.int m, .tuple (rowsF n m f)] = true
  have h : lfB B (.tuple (rowsF n m f)) = true := lf_rows b
  have h2 : lfB B (.int (m : Int)) = true := by simp only [lfB, decide_eq_true_eq]; omega
  simp only [lfBs, h, h2, Bool.and_self]
theorem dep_tab {n m : Nat} {f : Nat → Nat → Int} : PyData.depth (tabF n m f) ≤ 3 := (pl_facts pl_tab).2
theorem dep_rows {n m : Nat} {f : Nat → Nat → Int} : PyData.depth (.tuple (rowsF n m f)) ≤ 2 := dep_tup.mpr fun x hx => by
  obtain ⟨i, _, rfl⟩ := List.mem_map.mp hx
  exact dep_tup.mpr fun y hy => by
    obtain ⟨j, _, rfl⟩ := List.mem_map.mp hy
    exact Nat.le_refl _
theorem base_tab {n m : Nat} {f : Nat → Nat → Int} (b : Bm n m (10 ^ 40) f) (hn : n ≤ 11) (hm : m ≤ 11) : Base (tabF n m f) := by
  refine ⟨lf_tab b (Nat.le_trans hm (by decide +kernel)), dep_tab, ?_⟩
  rw [tsz_tabF]
  have : n * (m + 1) ≤ 11 * 12 := Nat.mul_le_mul hn (by omega)
  omega
theorem bm_idf {n m B : Nat} (hB : 1 ≤ B) : Bm n m B idf := fun i _ j _ => by
  unfold idf
  split <;> simp <;> omega
theorem bent_base {d v : PyData} (h : Base d) (b : Bt (10 ^ 40) d v) : lfB (10 ^ 40 + 1) v = true ∧ PyData.depth v ≤ 6 ∧ tsz v ≤ 288 := ⟨b.1, by have := b.2.2; have := h.dp; omega, by have := b.2.1; have := h.sz; omega⟩
theorem thg_of {d : PyData} {B : Nat} (h : lfB B d = true) (hB : B ≤ 10 ^ 61) (h2 : PyData.depth d ≤ 9) (h3 : tsz d ≤ 3000) : Thg d := ⟨lf_mono hB d h, h3, h2⟩
theorem th_loop {F0 : Nat} {b n m : Nat} {f : Nat → Nat → Int} {xs : List PyData} {l : List PyData} {x2 x5 x6 : Option D} {Q : PyData × Bool → List O → Prop} (ht : Base (tabF n m f)) {u : Nat} (hu : Base (tabF u u idf)) (hl : l.length ≤ 6) (hT : ∀ x ∈ l, Thg x)
    (hf : Fd b xs) (hb : b + 121 < Lim) (q : ∀ v ys fl, IsL 13 v → Fd (b + 121) ys → Q (v, fl) [.lst ys]) :
    Ok (exec PG (CN (F0 + 9)) thD [some (.r 0), some (.p (tabF n m f)), x2, some (.p (tabF u u idf)), some (.p (.list l)), x5, x6] [.lst xs]) (Fin 1 Q) := by
  unfold thD
  refine ok_then ?_
  simp
  refine ok_forE (fun j ρ h => ∃ l y5 y6 ys, ρ = [some (.r 0), some (.p (tabF n m f)), x2, some (.p (tabF u u idf)), some (.p (.list l)), y5, y6] ∧ h = [.lst ys] ∧ Fd (b + j * 60) ys ∧ l.length ≤ 6 + 3 * j ∧ ∀ x ∈ l, Thg x)
    ⟨l, x5, x6, xs, rfl, rfl, hf.mono (by omega), by omega, hT⟩ (fun j x ρ h hj hx I => ?_) (fun ρ h I => ?_)
  · obtain ⟨l, y5, y6, ys, rfl, rfl, fd, hl, hT⟩ := I
    have hx2 : Base x := by
      have := List.mem_of_getElem? hx
      simp at this
      rcases this with rfl | rfl
      · exact ht
      · exact hu
    have hj2 : j < 2 := by simpa using hj
    simp [bindG, thT]
    refine draws_one1 (g_bent (by decide +kernel) (by decide +kernel) 3 (F0 + 3) x (by decide) hx2.lf hx2.dp (by have := hx2.sz; omega)) fd (by omega) fun v ys1 fl1 hv fd1 => ?_
    obtain ⟨v1, v2, v3⟩ := bent_base hx2 hv
    simp [thT2]
    refine draws_one1 (g_bent (B := 10 ^ 40 + 1) (by decide +kernel) (by decide +kernel) 6 F0 v (by decide) v1 v2 (by omega)) fd1 (by omega) fun w ys2 fl2 hw fd2 => ?_
    simp
    refine draws_one1 (g_bent (by decide +kernel) (by decide +kernel) 3 (F0 + 3) x (by decide) hx2.lf hx2.dp (by have := hx2.sz; omega)) fd2 (by omega) fun v' ys3 fl3 hv' fd3 => ?_
    obtain ⟨w1, w2, w3⟩ := bent_base hx2 hv'
    have s1 : ∀ o : Option PyData, szO (l.length + 3) o = o := fun o => szO_ok (by omega)
    simp [s1]
    refine ⟨fd3.mono (by omega), by omega, fun z hz => ?_⟩
    rcases hz with hz | rfl | rfl | rfl
    · exact hT z hz
    · exact thg_of v1 (by decide +kernel) (by omega) (by omega)
    · exact thg_of hw.1 (by decide +kernel) (by have := hw.2.2; omega) (by have := hw.2.1; omega)
    · exact thg_of w1 (by decide +kernel) (by omega) (by omega)
  · obtain ⟨l, y5, y6, ys, rfl, rfl, fd, hl, hT⟩ := I
    simp [thE]
    refine draws_one0 g_odd fd (by simp; omega) fun v ys1 fl1 hv fd1 => ?_
    simp at hl
    have s1 : ∀ o : Option PyData, szO (l.length + 1) o = o := fun o => szO_ok (by omega)
    simp [s1]
    refine q _ _ _ ⟨l ++ [v], rfl, by simp; omega, fun z hz => ?_⟩ (fd1.mono (by simp))
    rcases List.mem_append.mp hz with hz | hz
    · exact hT z hz
    · have : z = v := by simpa using hz
      subst this
      exact Odd.thg hv
theorem g_things {k : Nat} : Draws (CN (k + 11)) 20 [] 170 (IsL 13) := fun b xs Q hf hb q => by
  show Ok (CN (k + 10 + 1) 20 [.r 0] [.lst xs]) Q
  rw [at0 (show fns[20]? = some ⟨1, 7, thS⟩ from rfl)]
  refine ok_run rfl ?_
  unfold thS
  refine ok_then ?_
  simp
  refine draw_one (many := 5) (g_draw T) (by decide) (by decide) hf (by omega) fun n ys1 fl1 hn fd1 => ?_
  simp
  refine draw_one (many := 5) (g_draw T) (by decide) (by decide) fd1 (by omega) fun w ys2 fl2 hw fd2 => ?_
  simp
  have hnw : n * (2 * w + 2) ≤ 40 := Nat.le_trans (Nat.mul_le_mul (show n ≤ 4 by omega) (show 2 * w + 2 ≤ 10 by omega)) (by decide)
  refine draws_one2 (g_table T (n := n) (w := w) (by omega) (by omega)) fd2 (by omega) fun v ys3 fl3 hv fd3 => ?_
  obtain ⟨f, rfl, bm⟩ := hv
  have fd3 : Fd (b + 42) ys3 := fd3.mono (by omega)
  simp
  unfold thBS
  refine ok_then ?_
  simp
  refine draw_one (many := 12) (g_draw T) (by decide) (by decide) fd3 (by omega) fun u ys4 fl4 hu fd4 => ?_
  simp
  refine gives_call1 (l_unit (by omega)) fun _ => ?_
  simp
  have ht : Base (tabF n w f) := base_tab (bm.mono (by decide +kernel)) (by omega) (by omega)
  have hun : Base (tabF u u idf) := base_tab (bm_idf (by decide +kernel)) (by omega) (by omega)
  have e1 : seqOf (tabF n w f) = some [.int w, .tuple (rowsF n w f)] := rfl
  have e2 : revD (tabF n w f) = some (.tuple [.tuple (rowsF n w f), .int w]) := rfl
  unfold thC
  refine ok_then ?_
  simp [e1, e2]
  have hr : lfB (10 ^ 61) (.tuple (rowsF n w f)) = true := lf_rows (bm.mono (by decide +kernel))
  have hz : tszs (rowsF n w f) ≤ 20 := by
    rw [tsz_rowsF]
    exact Nat.mul_le_mul (show n ≤ 4 by omega) (show w + 1 ≤ 5 by omega)
  have hd : PyData.depth (.tuple (rowsF n w f)) ≤ 2 := dep_rows
  have hi : ∀ i : Int, i.natAbs ≤ 100 → lfB (10 ^ 61) (.int i) = true := fun i h => by
    simp only [lfB, decide_eq_true_eq]
    exact Nat.le_trans h (by decide +kernel)
  have p1 : ∀ i : Int, i.natAbs ≤ 100 → Thg (.tuple [.int i, .tuple (rowsF n w f)]) := fun i h => ⟨by
      show lfBs _ [_, _] = true
      simp only [lfBs, hi i h, hr, Bool.and_self], by simp only [tsz, tszs]; omega, Nat.le_trans (dep_tup (n := 2).mpr fun x hx => by
      simp at hx
      rcases hx with rfl | rfl
      · exact Nat.zero_le _
      · exact hd) (by decide)⟩
  have p2 : Thg (.list [.int w, .tuple (rowsF n w f)]) := ⟨by
      show lfBs _ [_, _] = true
      simp only [lfBs, hi w (by omega), hr, Bool.and_self], by simp only [tsz, tszs]; omega, Nat.le_trans (dep_lst (n := 2).mpr fun x hx => by
      simp at hx
      rcases hx with rfl | rfl
      · exact Nat.zero_le _
      · exact hd) (by decide)⟩
  have p3 : Thg (.tuple [.tuple (rowsF n w f), .int w]) := ⟨by
      show lfBs _ [_, _] = true
      simp only [lfBs, hi w (by omega), hr, Bool.and_self], by simp only [tsz, tszs]; omega, Nat.le_trans (dep_tup (n := 2).mpr fun x hx => by
      simp at hx
      rcases hx with rfl | rfl
      · exact hd
      · exact Nat.zero_le _) (by decide)⟩
  refine th_loop (F0 := k + 1) ht hun (by simp) (fun z hz => ?_) fd4 (by omega) fun v ys fl hv fd => q v ys fl hv (fd.mono (by omega))
  simp at hz
  rcases hz with rfl | rfl | rfl | rfl | rfl | rfl
  · exact ht.thg
  · exact hun.thg
  · exact p2
  · exact p3
  · exact p1 _ (by omega)
  · exact p1 _ (by omega)
/-! rows -/
def rwTT : S := (.seq (.ife (.cmp .ne (.blt .repr (.cons (.call 1 (.cons (.var 4) (.cons (.var 3) .nil))) .nil)) (.blt .repr
    (.cons (.call 14 (.cons (.var 4) (.cons (.var 3) .nil))) .nil))) (.seq (.ret (.bl false)) .skip) .skip) .skip)
def rwT : S := (.seq (.for_ [4] false (.tup (.cons (.var 1) (.cons (.bin .add (.var 1) (.int 1)) (.cons (.blt .max (.cons (.int 0) (.cons (.bin .sub (.var 1)
    (.int 1)) .nil))) (.cons (.int 0) .nil))))) rwTT) .skip)
def rwE : S := (.seq (.ret (.cmp .eq (.blt .repr
    (.cons (.lst (.cons (.call 1 (.cons (.int 99) (.cons (.bin .mul (.tup (.cons (.int 0) .nil)) (.int 99)) .nil))) (.cons (.call 1 (.cons (.int 99) (.cons (.bin
    .mul (.tup (.cons (.int 0) .nil)) (.int 98)) .nil))) .nil))) .nil)) (.blt .repr (.cons (.lst (.cons (.bl true) (.cons (.bl false) .nil))) .nil)))) .skip)
def rwC : S := (.seq (.for_ [3] false (.tup (.cons (.var 2) (.cons (.lof (.var 2)) (.cons (.call 13 (.cons (.var 0) (.cons (.var 2) .nil))) (.cons
    (.call 13 (.cons (.var 0) (.cons (.var 2) .nil))) (.cons (.bin .add (.var 2) (.tup (.cons (.bl true) .nil))) (.cons (.call 12 (.cons (.var 0) .nil))
    .nil))))))) rwT) rwE)
def rwB : S := (.seq (.set 2 (.blt .tuple (.cons (.comp [5] [5] false (.rng1 (.var 1)) .nil (.call 9 (.cons
    (.var 0) .nil))) .nil))) rwC)
def rwS : S := (.seq (.set 1 (.call 8 (.cons (.var 0) (.cons (.int 9) .nil)))) rwB)
theorem repr_bool {b : Bool} : bltD .repr [.bool b] = some (.str (PyData.shown (.bool b))) := blt_repr_nice (c := 1) (m := 1) (n := 0) nice_bool (by decide) (by decide) (by decide) (by decide)
theorem shs_bool {b : Bool} : shp (.str (PyData.shown (.bool b))) = true := shp_shown (c := 1) (m := 1) (n := 0) nice_bool (by decide) (by decide)
theorem rw_turn {k : Nat} {w : Nat} {x : PyData} {x2 x4 x5 : Option D} {ys : List PyData} {R : Fl × Px.Env → List O → Prop} (hx : Thg x) (hw : w < 9) (q : ∀ y4, R (.nx, [some (.r 0), some (.p (.int w)), x2, some (.p x), y4, x5]) [.lst ys]) :
    Ok (exec PG (CN (k + 2)) rwT [some (.r 0), some (.p (.int w)), x2, some (.p x), x4, x5] [.lst ys]) R := by
  unfold rwT
  refine ok_then ?_
  simp
  refine ok_forE (fun j ρ h => ∃ y4, ρ = [some (.r 0), some (.p (.int w)), x2, some (.p x), y4, x5] ∧ h = [.lst ys]) ⟨_, rfl, rfl⟩ (fun j z ρ h hj hz I => ?_) (fun ρ h I => ?_)
  · obtain ⟨y4, rfl, rfl⟩ := I
    have hi : ∃ i : Int, z = .int i := by
      have := List.mem_of_getElem? hz
      simp at this
      rcases this with rfl | rfl | rfl | rfl <;> exact ⟨_, rfl⟩
    obtain ⟨i, rfl⟩ := hi
    simp [bindG, rwTT]
    refine gives_call2 (g_isrow (th_row hx (by decide))) fun _ => ?_
    simp [repr_bool]
    refine gives_call2 (l_isrow hx (by decide +kernel) (by decide) (by decide)) fun _ => ?_
    have e := eqv_self (shs_bool (b := isRowD i x))
    simp [repr_bool, shs_bool, e]
  · obtain ⟨y4, rfl, rfl⟩ := I
    simp
    exact q y4
theorem rw_end {k : Nat} {x1 x2 x3 x4 x5 : Option D} {ys : List PyData} {Q : PyData × Bool → List O → Prop} (q : ∀ fl, Q (.bool true, fl) [.lst ys]) :
    Ok (exec PG (CN (k + 2)) rwE [some (.r 0), x1, x2, x3, x4, x5] [.lst ys]) (Fin 1 Q) := by
  have e1 : isRowD 99 (.tuple (List.replicate 99 [PyData.int 0]).flatten) = true := by decide +kernel
  have e2 : isRowD 99 (.tuple (List.replicate 98 [PyData.int 0]).flatten) = false := by decide +kernel
  have l1 : (List.replicate 99 [PyData.int 0]).flatten.length ≤ 1000000 := by simp
  have l2 : (List.replicate 98 [PyData.int 0]).flatten.length ≤ 1000000 := by simp
  have r2 : bltD .repr [.list [.bool true, .bool false]] = some (.str (PyData.shown (.list [.bool true, .bool false]))) := blt_repr_nice two_bools (by decide) (by decide) (by decide) (by decide)
  have s2 : shp (.str (PyData.shown (.list [.bool true, .bool false]))) = true := shp_shown two_bools (by decide) (by decide)
  have e3 := eqv_self s2
  unfold rwE
  generalize hx1 : (List.replicate 99 [PyData.int 0]).flatten = z1 at *
  generalize hx2 : (List.replicate 98 [PyData.int 0]).flatten = z2 at *
  have b1 : binD .mul (.tuple [.int 0]) (.int 99) = some (.tuple z1) := by rw [← hx1]; rfl
  have b2 : binD .mul (.tuple [.int 0]) (.int 98) = some (.tuple z2) := by rw [← hx2]; rfl
  simp [-bin_rep, b1]
  refine gives_call2 (g_isrow (fun zs e => by cases e; exact l1)) fun _ => ?_
  simp [-bin_rep, b2]
  refine gives_call2 (g_isrow (fun zs e => by cases e; exact l2)) fun _ => ?_
  simp [e1, e2, r2, s2, e3]
  exact q _
theorem g_rowright {k : Nat} : Draws (CN (k + 9)) 22 [] 50 (· = .bool true) := fun b xs Q hf hb q => by
  show Ok (CN (k + 8 + 1) 22 [.r 0] [.lst xs]) Q
  rw [at0 (show fns[22]? = some ⟨1, 6, rwS⟩ from rfl)]
  refine ok_run rfl ?_
  unfold rwS
  refine ok_then ?_
  simp
  refine draw_one (many := 9) (g_draw T) (by decide) (by decide) hf (by omega) fun w ys1 fl1 hw fd1 => ?_
  simp
  unfold rwB
  refine ok_then ?_
  have r3 : w ≤ 1000000 := by omega
  simp [nat_le r3, nat_ge, r3]
  refine numbers_ok (n := 0) (w := w) (C := 2) (B := 99) (g_number (k := k + 6) T) (fun x => by simp) (xs := ys1) rfl fd1 (by omega) fun v ys2 bv fd2 => ?_
  simp
  have hrw : (PyData.tuple ((List.range w).map fun j => .int (v j))) = rowF w v := rfl
  have lf : lfB (10 ^ 40) (rowF w v) = true := lf_row fun j hj => Nat.le_trans (bv j hj) (by decide +kernel)
  have dp : PyData.depth (rowF w v) ≤ 1 := dep_tup.mpr fun x hx => by
    obtain ⟨j, _, rfl⟩ := List.mem_map.mp hx
    exact Nat.le_refl _
  have sz : tsz (rowF w v) ≤ 10 := by rw [tsz_rowF]; omega
  rw [hrw]
  unfold rwC
  refine ok_then ?_
  have e1 : seqOf (rowF w v) = some ((List.range w).map fun j => .int (v j)) := rfl
  have e2 : binD .add (rowF w v) (.tuple [.bool true]) = some (.tuple (((List.range w).map fun j => .int (v j)) ++ [.bool true])) := by
    show binD .add (.tuple ((List.range w).map fun j => .int (v j))) (.tuple [.bool true]) = _
    rw [bin_addT, szO_ok (by simp; omega)]
  simp [e1]
  refine draws_one1 (g_bent (by decide +kernel) (by decide +kernel) 1 (k + 4) (rowF w v) (by decide) lf dp (by omega)) fd2 (by omega) fun y1 ys3 fl3 hy1 fd3 => ?_
  simp
  refine draws_one1 (g_bent (by decide +kernel) (by decide +kernel) 1 (k + 4) (rowF w v) (by decide) lf dp (by omega)) fd3 (by omega) fun y2 ys4 fl4 hy2 fd4 => ?_
  simp [e2]
  refine draws_one0 (g_odd (k := k + 6)) fd4 (by omega) fun y3 ys5 fl5 hy3 fd5 => ?_
  have bt : ∀ y, Bt (10 ^ 40) (rowF w v) y → Thg y := fun y h => thg_of h.1 (by decide +kernel) (by have := h.2.2; omega) (by have := h.2.1; omega)
  have t0 : Thg (rowF w v) := thg_of lf (by decide +kernel) (by omega) (by omega)
  have t1 : Thg (.list ((List.range w).map fun j => .int (v j))) := thg_of (B := 10 ^ 40) lf (by decide +kernel) (Nat.le_trans dp (by decide)) (Nat.le_trans sz (by decide))
  have t2 : Thg (.tuple (((List.range w).map fun j => .int (v j)) ++ [.bool true])) := by
    refine thg_of (B := 10 ^ 40) (lfBs_iff.mpr fun x hx => ?_) (by decide +kernel) (Nat.le_trans (dep_tup (n := 0).mpr fun x hx => ?_) (by decide)) ?_
    · rcases List.mem_append.mp hx with h | h
      · exact lfBs_iff.mp (show lfBs (10 ^ 40) ((List.range w).map fun j => .int (v j)) = true from lf) x h
      · have : x = .bool true := by simpa using h
        subst this; rfl
    · rcases List.mem_append.mp hx with h | h
      · obtain ⟨j, _, rfl⟩ := List.mem_map.mp h
        exact Nat.le_refl _
      · have : x = .bool true := by simpa using h
        subst this; exact Nat.le_refl _
    · have : tszs ((List.range w).map fun j => PyData.int (v j)) + 1 ≤ 10 := sz
      simp only [tsz, tszs_app, tszs]
      omega
  simp
  refine ok_forE (fun j ρ h => ∃ y3 y4 y5, ρ = [some (.r 0), some (.p (.int w)), some (.p (rowF w v)), y3, y4, y5] ∧ h = [.lst ys5]) ⟨_, _, _, rfl, rfl⟩ (fun j z ρ h hj hz I => ?_) (fun ρ h I => ?_)
  · obtain ⟨y3, y4, y5, rfl, rfl⟩ := I
    have hz2 : Thg z := by
      have := List.mem_of_getElem? hz
      simp at this
      rcases this with rfl | rfl | rfl | rfl | rfl | rfl
      · exact t0
      · exact t1
      · exact bt _ hy1
      · exact bt _ hy2
      · exact t2
      · exact Odd.thg hy3
    simp [bindG]
    exact rw_turn (k := k + 6) hz2 hw fun y => by simp
  · obtain ⟨y3, y4, y5, rfl, rfl⟩ := I
    simp
    exact rw_end (k := k + 6) fun fl => q _ _ fl rfl (fd5.mono (by omega))
/-! great ones -/
theorem tszs_ones {l : List PyData} (h : ∀ x ∈ l, tsz x = 1) : tszs l = l.length := by
  induction l with
  | nil => rfl
  | cons x r ih =>
    simp only [tszs, List.length_cons, h x List.mem_cons_self, ih fun y hy => h y (List.mem_cons_of_mem _ hy)]
    omega
theorem tszs_le {l : List PyData} {c : Nat} (h : ∀ x ∈ l, tsz x ≤ c) : tszs l ≤ l.length * c := by
  induction l with
  | nil => simp [tszs]
  | cons x r ih =>
    have h1 := h x List.mem_cons_self
    have h2 := ih fun y hy => h y (List.mem_cons_of_mem _ hy)
    simp only [tszs, List.length_cons, Nat.succ_mul]
    omega
theorem rep_of {x : PyData} {n : Nat} (hn : n ≤ 1000) : ∃ z, binD .mul (.tuple [x]) (.int n) = some (.tuple z) ∧ z.length = n ∧ ∀ y ∈ z, y = x := by
  refine ⟨(List.replicate n [x]).flatten, ?_, by simp, fun y hy => ?_⟩
  · rw [bin_rep, rpO_ok (by simp) (by omega) (by omega)]
    simp
  · obtain ⟨l, h1, h2⟩ := List.mem_flatten.mp hy
    have := List.eq_of_mem_replicate h1
    subst this
    simpa using h2
/-- a row as it may stand in a great table -/
def Rw (m : Nat) (x : PyData) : Prop := lfB (10 ^ 61) x = true ∧ PyData.depth x ≤ 1 ∧ tsz x ≤ m
/-- a cell -/
def Cl (x : PyData) : Prop := lfB (10 ^ 61) x = true ∧ PyData.depth x ≤ 0 ∧ tsz x = 1
theorem cl_int {i : Int} (h : i.natAbs ≤ 100) : Cl (.int i) := ⟨by simp only [lfB, decide_eq_true_eq]; exact Nat.le_trans h (by decide +kernel), Nat.le_refl _, rfl⟩
theorem rw_of {cs : List PyData} {m : Nat} (h : ∀ x ∈ cs, Cl x) (hm : cs.length + 1 ≤ m) : Rw m (.tuple cs) := by
  refine ⟨lfBs_iff.mpr fun x hx => (h x hx).1, dep_tup.mpr fun x hx => (h x hx).2.1, ?_⟩
  simp only [tsz, tszs_ones fun x hx => (h x hx).2.2]
  omega
theorem thg_rows {w : Int} {rs : List PyData} {n : Nat} (h : ∀ r ∈ rs, lfB (10 ^ 61) r = true ∧ PyData.depth r ≤ n) (hn : n ≤ 7) (hz : tszs rs ≤ 2990) (hw : w.natAbs ≤ 400) : Thg (.tuple [.int w, .tuple rs]) := by
  have h1 : lfB (10 ^ 61) (.tuple rs) = true := lfBs_iff.mpr fun x hx => (h x hx).1
  have h2 : lfB (10 ^ 61) (.int w) = true := by simp only [lfB, decide_eq_true_eq]; exact Nat.le_trans hw (by decide +kernel)
  refine ⟨by show lfBs _ [_, _] = true; simp only [lfBs, h1, h2, Bool.and_self], by simp only [tsz, tszs]; omega, Nat.le_trans (dep_tup (n := n + 1).mpr fun x hx => ?_) (show n + 2 ≤ 9 by omega)⟩
  simp at hx
  rcases hx with rfl | rfl
  · exact Nat.zero_le _
  · exact dep_tup.mpr fun x hx => (h x hx).2
theorem thg_rw {w : Int} {rs : List PyData} {m : Nat} (h : ∀ r ∈ rs, Rw m r) (hz : rs.length * m ≤ 2990) (hw : w.natAbs ≤ 400) : Thg (.tuple [.int w, .tuple rs]) :=
  thg_rows (n := 1) (fun r hr => ⟨(h r hr).1, (h r hr).2.1⟩) (by decide) (Nat.le_trans (tszs_le fun x hx => (h x hx).2.2) hz) hw
def gtH : S := (.seq (.ret (.bin .add (.var 3) (.lst (.cons (.var 4) (.cons (.tup (.cons (.int 8) (.cons (.bin
    .add (.bin .add (.sl (.ix (.var 4) (.int 1)) .nil (.var 5)) (.tup (.cons (.var 7) .nil))) (.sl (.ix (.var 4) (.int 1)) (.bin .add (.var 5) (.int 1)) .nil))
    .nil))) .nil))))) .skip)
def gtG : S := (.seq (.set 7 (.bin
    .add (.bin .add (.sl (.ix (.ix (.var 4) (.int 1)) (.var 5)) .nil (.var 6)) (.tup (.cons (.call 12 (.cons (.var 0) .nil)) .nil))) (.sl (.ix (.ix (.var 4)
    (.int 1)) (.var 5)) (.bin .add (.var 6) (.int 1)) .nil))) gtH)
def gtF : S := (.seq (.par 5 6 (.call 8 (.cons (.var 0) (.cons (.int 40) .nil))) (.call 8 (.cons (.var 0) (.cons (.int 8) .nil)))) gtG)
def gtE : S := (.seq (.set 4 (.tup (.cons (.int 8) (.cons (.blt .tuple (.cons (.comp [5] [5] false
    (.rng1 (.int 40)) .nil (.blt .tuple (.cons (.comp [6] [6] false (.rng1 (.int 8)) .nil (.call 9 (.cons (.var 0) .nil))) .nil))) .nil)) .nil)))) gtF)
def gtD : S := (.seq (.set 3 (.bin .add (.var 3) (.lst (.cons (.tup (.cons (.int 300) (.cons (.tup (.cons (.bin .mul (.tup (.cons (.int 0) .nil))
    (.int 300)) .nil)) .nil))) (.cons (.tup (.cons (.int 300) (.cons (.tup (.cons (.bin .add (.bin .mul (.tup (.cons (.int 0) .nil)) (.int 299)) (.tup (.cons
    (.bl true) .nil))) .nil)) .nil))) (.cons (.tup (.cons (.int 2) (.cons (.var 2) .nil))) (.cons (.tup (.cons (.int 2) (.cons (.bin .add (.var 2) (.tup (.cons
    (.tup (.cons (.int 1) (.cons .non .nil))) .nil))) .nil))) .nil))))))) gtE)
def gtC : S := (.seq (.set 3 (.lst (.cons (.var 1) (.cons (.tup (.cons (.int 50) (.cons (.bin .add (.sl (.ix (.var 1) (.int 1)) .nil (.int 49)) (.tup (.cons (.bin .add
    (.bin .mul (.tup (.cons (.int 0) .nil)) (.int 48)) (.tup (.cons (.int 1) (.cons (.int 1) .nil)))) .nil))) .nil))) (.cons (.tup (.cons (.int 50) (.cons (.bin
    .add (.sl (.ix (.var 1) (.int 1)) .nil (.int 49)) (.tup (.cons (.bin .add (.bin .mul (.tup (.cons (.int 0) .nil)) (.int 49)) (.tup (.cons (.bl true) .nil)))
    .nil))) .nil))) .nil))))) gtD)
def gtB : S := (.seq (.set 2 (.bin .mul (.tup (.cons (.tup (.cons (.int 1) (.cons (.int 0) .nil))) .nil)) (.int 299))) gtC)
def gtS : S := (.seq (.set 1 (.call 17 (.cons (.int 50) .nil))) gtB)
example : fns[19]? = some ⟨1, 8, gtS⟩ := rfl
variable {x1 x2 x3 x4 x5 x6 x7 : Option D} {b : Nat} {xs : List PyData} {Q : PyData × Bool → List O → Prop} {l R : List PyData}
/-- rows of eight numbers -/
def R8 (x : PyData) : Prop := ∃ cs, x = .tuple cs ∧ cs.length = 8 ∧ ∀ c ∈ cs, Cl c
theorem R8.rw {x : PyData} (h : R8 x) : Rw 9 x := by
  obtain ⟨cs, rfl, h1, h2⟩ := h
  exact rw_of h2 (by omega)
theorem gt_f (hl : l.length = 7) (hT : ∀ x ∈ l, Thg x) (hR : R.length = 40) (h8 : ∀ x ∈ R, R8 x) (hf : Fd b xs) (hb : b + 3 < Lim) (q : ∀ v ys fl, IsL 9 v → Fd (b + 3) ys → Q (v, fl) [.lst ys]) :
    Ok (exec PG (CN (k + 2)) gtF [some (.r 0), x1, x2, some (.p (.list l)), some (.p (.tuple [.int 8, .tuple R])), x5, x6, x7] [.lst xs]) (Fin 1 Q) := by
  unfold gtF
  refine ok_then ?_
  simp
  refine draw_one (many := 40) (g_draw T) (by decide) (by decide) hf (by omega) fun i ys1 fl1 hi fd1 => ?_
  simp
  refine draw_one (many := 8) (g_draw T) (by decide) (by decide) fd1 (by omega) fun j ys2 fl2 hj fd2 => ?_
  simp
  have hi2 : i < R.length := by omega
  obtain ⟨cs, e1, hc, hC⟩ := h8 R[i] (List.getElem_mem hi2)
  have e2 : R[i]? = some (.tuple cs) := by rw [List.getElem?_eq_getElem hi2, e1]
  unfold gtG
  refine ok_then ?_
  simp [atI_nat, e2, cut_take2, cut_drop2, cut_take3, cut_drop3]
  refine draws_one0 g_odd fd2 (by omega) fun v ys3 fl3 hv fd3 => ?_
  have s1 : ∀ o : Option PyData, szO (min j cs.length + 1) o = o := fun o => szO_ok (by omega)
  have s2 : ∀ o : Option PyData, szO (min j cs.length + 1 + (cs.length - (j + 1))) o = o := fun o => szO_ok (by omega)
  simp [s1, s2, atI_nat, e2, cut_take2, cut_drop2, cut_take3, cut_drop3]
  unfold gtH
  have s3 : ∀ o : Option PyData, szO (min i R.length + 1) o = o := fun o => szO_ok (by omega)
  have s4 : ∀ o : Option PyData, szO (min i R.length + 1 + (R.length - (i + 1))) o = o := fun o => szO_ok (by omega)
  have s5 : ∀ o : Option PyData, szO (l.length + 2) o = o := fun o => szO_ok (by omega)
  simp [s3, s4, s5, cut_take2, cut_drop2, cut_take3, cut_drop3]
  refine q _ _ _ ⟨_, rfl, by simp; omega, fun z hz => ?_⟩ (fd3.mono (by omega))
  have row : lfB (10 ^ 61) (.tuple (cs.take j ++ v :: cs.drop (j + 1))) = true ∧ PyData.depth (.tuple (cs.take j ++ v :: cs.drop (j + 1))) ≤ 3 ∧ tsz (.tuple (cs.take j ++ v :: cs.drop (j + 1))) ≤ 22 := by
    have ho := Odd.thg hv
    refine ⟨lfBs_iff.mpr fun x hx => ?_, dep_tup.mpr fun x hx => ?_, ?_⟩
    · rcases List.mem_append.mp hx with h | h
      · exact (hC x (List.mem_of_mem_take h)).1
      · rcases List.mem_cons.mp h with rfl | h
        · exact ho.lf
        · exact (hC x (List.mem_of_mem_drop h)).1
    · rcases List.mem_append.mp hx with h | h
      · exact Nat.le_trans (hC x (List.mem_of_mem_take h)).2.1 (by decide)
      · rcases List.mem_cons.mp h with rfl | h
        · exact hv.2.2
        · exact Nat.le_trans (hC x (List.mem_of_mem_drop h)).2.1 (by decide)
    · have t0 := tszs_ones fun x hx => (hC x hx).2.2
      have t1 := tszs_split (xs := cs) j
      have t2 := tszs_split (xs := cs) (j + 1)
      have := hv.2.1
      simp only [tsz, tszs_app, tszs]
      omega
  simp at hz
  rcases hz with hz | rfl | rfl
  · exact hT z hz
  · exact thg_rw (fun r hr => (h8 r hr).rw) (by omega) (by decide)
  · refine thg_rows (n := 3) (fun r hr => ?_) (by decide) ?_ (by decide)
    · rcases List.mem_append.mp hr with h | h
      · have := (h8 r (List.mem_of_mem_take h)).rw
        exact ⟨this.1, Nat.le_trans this.2.1 (by decide)⟩
      · rcases List.mem_cons.mp h with rfl | h
        · exact ⟨row.1, row.2.1⟩
        · have := (h8 r (List.mem_of_mem_drop h)).rw
          exact ⟨this.1, Nat.le_trans this.2.1 (by decide)⟩
    · have t0 := tszs_le (l := R) (c := 9) fun x hx => (h8 x hx).rw.2.2
      have t1 := tszs_split (xs := R) i
      have t2 := tszs_split (xs := R) (i + 1)
      have t3 := row.2.2
      simp only [tszs_app, tszs]
      omega
theorem gt_e (hl : l.length = 7) (hT : ∀ x ∈ l, Thg x) (hf : Fd b xs) (hb : b + 643 < Lim) (q : ∀ v ys fl, IsL 9 v → Fd (b + 643) ys → Q (v, fl) [.lst ys]) :
    Ok (exec PG (CN (k + 2)) gtE [some (.r 0), x1, x2, some (.p (.list l)), x4, x5, x6, x7] [.lst xs]) (Fin 1 Q) := by
  unfold gtE
  refine ok_then ?_
  simp
  refine ok_compE (fun j acc h => ∃ ys, h = [.lst ys] ∧ Fd (b + j * 16) ys ∧ acc.length = j ∧ ∀ x ∈ acc, R8 x) ⟨xs, rfl, hf.mono (by omega), rfl, fun x hx => by cases hx⟩ (fun j x acc h hj hx I => ?_) (fun acc h I => ?_)
  · obtain ⟨ys, rfl, fd, ha, h8⟩ := I
    have hj2 : j < 40 := by simpa [rangeL] using hj
    obtain ⟨i, rfl⟩ : ∃ i : Int, x = .int i := by
      have := List.mem_of_getElem? hx
      obtain ⟨i, _, e⟩ := List.mem_map.mp this
      exact ⟨_, e.symm⟩
    simp [bindG]
    have e8 : rangeL 0 8 = (List.range 8).map fun i => PyData.int (i : Nat) := by rfl
    try rw [e8]
    refine numbers_ok (n := 0) (w := 8) (C := 2) (B := 99) (g_number (k := k) T) (fun x => by simp) (xs := ys) rfl fd (by omega) fun v ys2 bv fd2 => ?_
    simp
    refine ⟨fd2.mono (by omega), ha, fun z hz => ?_⟩
    rcases hz with hz | rfl
    · exact h8 z hz
    · refine ⟨_, rfl, by simp, fun c hc => ?_⟩
      obtain ⟨j, hj, rfl⟩ := List.mem_map.mp hc
      exact cl_int (Nat.le_trans (bv j (by simpa using List.mem_range.mp hj)) (by decide))
  · obtain ⟨ys, rfl, fd, ha, h8⟩ := I
    have ha2 : acc.length = 40 := by simpa [rangeL] using ha
    have fd2 : Fd (b + 640) ys := fd.mono (by simp [rangeL])
    exact gt_f hl hT ha2 h8 fd2 (by omega) fun v ys fl hv fd => q v ys fl hv (fd.mono (by omega))
theorem g_great : Draws (CN (k + 3)) 19 [] 643 (IsL 9) := fun b xs Q hf hb q => by
  show Ok (CN (k + 2 + 1) 19 [.r 0] [.lst xs]) Q
  rw [at0 (show fns[19]? = some ⟨1, 8, gtS⟩ from rfl)]
  obtain ⟨z48, b48, n48, a48⟩ := rep_of (x := .int 0) (n := 48) (by decide)
  obtain ⟨z49, b49, n49, a49⟩ := rep_of (x := .int 0) (n := 49) (by decide)
  obtain ⟨z300, b300, n300, a300⟩ := rep_of (x := .int 0) (n := 300) (by decide)
  obtain ⟨z299, b299, n299, a299⟩ := rep_of (x := .int 0) (n := 299) (by decide)
  obtain ⟨y299, c299, m299, d299⟩ := rep_of (x := .tuple [.int 1, .int 0]) (n := 299) (by decide)
  have b48 : binD .mul (.tuple [.int 0]) (.int 48) = some (.tuple z48) := b48
  have b49 : binD .mul (.tuple [.int 0]) (.int 49) = some (.tuple z49) := b49
  have b300 : binD .mul (.tuple [.int 0]) (.int 300) = some (.tuple z300) := b300
  have b299 : binD .mul (.tuple [.int 0]) (.int 299) = some (.tuple z299) := b299
  have c299 : binD .mul (.tuple [.tuple [.int 1, .int 0]]) (.int 299) = some (.tuple y299) := c299
  refine ok_run rfl ?_
  unfold gtS
  refine ok_then ?_
  simp
  refine gives_call1 (l_unit (n := 50) (by decide)) fun _ => ?_
  unfold gtB
  refine ok_then ?_
  simp [-bin_rep, c299]
  unfold gtC
  refine ok_then ?_
  have ct : cutL (rowsF 50 50 idf) none (some 49) = (rowsF 50 50 idf).take 49 := cut_take2 (a := 49)
  have s1 : ∀ o : Option PyData, szO (48 + 2) o = o := fun o => szO_ok (by omega)
  have s2 : ∀ o : Option PyData, szO (49 + 1) o = o := fun o => szO_ok (by omega)
  have s3 : ∀ o : Option PyData, szO (299 + 1) o = o := fun o => szO_ok (by omega)
  have lt : ((rowsF 50 50 idf).take 49).length = 49 := by simp
  have mt : ∀ x ∈ (rowsF 50 50 idf).take 49, Rw 51 x := fun x hx => by
    obtain ⟨i, _, rfl⟩ := List.mem_map.mp (List.mem_of_mem_take hx)
    refine rw_of (fun c hc => ?_) (by simp)
    obtain ⟨j, _, rfl⟩ := List.mem_map.mp hc
    refine cl_int ?_
    unfold idf
    split <;> decide
  generalize hz1 : (rowsF 50 50 idf).take 49 = t49 at *
  have cl0 : ∀ {z : List PyData}, (∀ y ∈ z, y = .int 0) → ∀ y ∈ z, Cl y := fun h y hy => by
    rw [h y hy]
    exact cl_int (by decide)
  simp [-bin_rep, b48, b49, ct, n48, n49, lt]
  unfold gtD
  refine ok_then ?_
  simp [-bin_rep, b300, b299, n300, n299, m299]
  refine gt_e (by simp) (fun z hz => ?_) hf hb q
  have app : ∀ {z w : List PyData}, (∀ y ∈ z, Cl y) → (∀ y ∈ w, Cl y) → ∀ y ∈ z ++ w, Cl y := fun h1 h2 y hy => by
    rcases List.mem_append.mp hy with h | h
    · exact h1 y h
    · exact h2 y h
  have tr : Cl (.bool true) := ⟨rfl, Nat.le_refl _, rfl⟩
  have nn : Cl .none := ⟨rfl, Nat.le_refl _, rfl⟩
  have i1 : Cl (.int 1) := cl_int (by decide)
  have i0 : Cl (.int 0) := cl_int (by decide)
  have tb : ∀ {r : PyData}, Rw 51 r → Thg (.tuple [.int 50, .tuple (t49 ++ [r])]) := fun {r} hr => thg_rw (m := 51) (fun x hx => by
    rcases List.mem_append.mp hx with h | h
    · exact mt x h
    · have : x = r := by simpa using h
      rw [this]
      exact hr) (by simp [lt]) (by decide)
  simp at hz
  rcases hz with rfl | rfl | rfl | rfl | rfl | rfl | rfl
  · exact (show Th 50 2553 3 (tabF 50 50 idf) from ⟨lf_tab (B := 50) (bm_idf (by decide)) (Nat.le_refl _), Nat.le_of_eq tsz_tabF, dep_tab⟩).mono (by decide +kernel) (by decide) (by decide)
  · exact tb (rw_of (app (cl0 a48) (fun y hy => by simp at hy; rw [hy]; exact i1)) (by simp [n48]))
  · exact tb (rw_of (app (cl0 a49) (fun y hy => by simp at hy; rw [hy]; exact tr)) (by simp [n49]))
  · exact thg_rw (m := 301) (fun r hr => by
      have : r = .tuple z300 := by simpa using hr
      rw [this]
      exact rw_of (cl0 a300) (by omega)) (by simp) (by decide)
  · exact thg_rw (m := 301) (fun r hr => by
      have : r = .tuple (z299 ++ [.bool true]) := by simpa using hr
      rw [this]
      exact rw_of (app (cl0 a299) (fun y hy => by simp at hy; rw [hy]; exact tr)) (by simp [n299])) (by simp) (by decide)
  · exact thg_rw (m := 3) (fun r hr => by
      rw [d299 r hr]
      exact rw_of (fun y hy => by simp at hy; rcases hy with rfl | rfl <;> first | exact i1 | exact i0) (by simp)) (by omega) (by decide)
  · exact thg_rw (m := 3) (fun r hr => by
      rcases List.mem_append.mp hr with h | h
      · rw [d299 r h]
        exact rw_of (fun y hy => by simp at hy; rcases hy with rfl | rfl <;> first | exact i1 | exact i0) (by simp)
      · have : r = .tuple [.int 1, .none] := by simpa using h
        rw [this]
        exact rw_of (fun y hy => by simp at hy; rcases hy with rfl | rfl <;> first | exact i1 | exact nn) (by simp)) (by simp [m299]) (by decide)
/-! the law -/
def lwE : S := (.seq (.ret (.cmp .nmem (.bl false) (.comp [3] [3] false (.rng1 (.int 2)) .nil
    (.call 22 (.cons (.var 1) .nil))))) .skip)
def lwD : S := (.seq (.ife (.cmp .mem (.bl false) (.comp [4] [4] false (.var 2) (.not (.call 23 (.cons (.var 4) .nil)))
    (.call 21 (.cons (.var 4) .nil)))) (.seq (.ret (.bl false)) .skip) .skip) lwE)
def lwC : S := (.seq (.ife (.cmp .eq (.call 8 (.cons (.var 1) (.cons (.int 4) .nil))) (.int 0)) (.seq (.set 2 (.bin .add (.var 2)
    (.call 19 (.cons (.var 1) .nil)))) .skip) .skip) lwD)
def lwB : S := (.seq (.for_ [3] false (.rng1 (.int 2)) (.seq (.set 2 (.bin .add (.var 2)
    (.call 20 (.cons (.var 1) .nil)))) .skip)) lwC)
def lwA : S := (.seq (.set 2 (.call 18 .nil)) lwB)
def lwS : S := (.seq (.new 1 (.call 7 (.cons (.var 0) .nil))) lwA)
example : fns[24]? = some ⟨1, 5, lwS⟩ := rfl
example : fns[7]? = some ⟨1, 1, feedS⟩ := rfl
def trues (v : List PyData) : Prop := ∀ x ∈ v, x = .bool true
theorem no_false {v : List PyData} (h : trues v) : (v.any fun z => PyData.eqv z (.bool false)) = false := by
  rw [List.any_eq_false]
  intro x hx
  rw [h x hx]
  simp [PyData.eqv]
theorem shp_trues {v : List PyData} (h : trues v) : shp (.list v) = true := shp_pl (n := 1) (pl_lst fun x hx => by
  rw [h x hx]
  exact (trivial : Pa (.bool true))) (by decide)
variable {sc : List PyData}
theorem lw_e {x2 x3 x4 : Option D} (hf : Fd b xs) (hb : b + 100 < Lim) (q : ∀ h, Q (.bool true, false) h) :
    Ok (exec PG (CN 15) lwE [some (.s sc), some (.r 0), x2, x3, x4] [.lst xs]) (Fin 0 Q) := by
  simp [lwE]
  refine ok_compE (fun j acc h => ∃ ys, h = [.lst ys] ∧ Fd (b + j * 50) ys ∧ trues acc) ⟨xs, rfl, hf.mono (by omega), fun x hx => by cases hx⟩ (fun j x acc h hj hx I => ?_) (fun acc h I => ?_)
  · obtain ⟨ys, rfl, fd, ha⟩ := I
    have hj2 : j < 2 := by simpa [rangeL] using hj
    simp [bindG]
    refine draws_one0 (g_rowright (k := 6)) fd (by omega) fun v ys2 fl2 hv fd2 => ?_
    subst hv
    simp
    refine ⟨fd2.mono (by omega), fun z hz => ?_⟩
    rcases List.mem_append.mp hz with h | h
    · exact ha z h
    · simpa using h
  · obtain ⟨ys, rfl, fd, ha⟩ := I
    simp [shp_trues ha, no_false ha]
    exact q _
theorem lw_d {x3 x4 : Option D} (hl : l.length ≤ 200) (hT : ∀ x ∈ l, Thg x) (hf : Fd b xs) (hb : b + 100 < Lim) (q : ∀ h, Q (.bool true, false) h) :
    Ok (exec PG (CN 15) lwD [some (.s sc), some (.r 0), some (.p (.list l)), x3, x4] [.lst xs]) (Fin 0 Q) := by
  have hl2 : l.length ≤ 1000000 := by omega
  unfold lwD
  refine ok_then ?_
  simp [hl2]
  refine ok_comp (fun r acc h => h = [.lst xs] ∧ (∀ x ∈ r, x ∈ l) ∧ trues acc) (fun x r acc h I => ?_) (fun acc h I => ?_) l _ ⟨rfl, fun x hx => hx, fun x hx => by cases hx⟩
  · obtain ⟨rfl, hr, ha⟩ := I
    have hx := hT x (hr x List.mem_cons_self)
    obtain ⟨v, hv⟩ := l_vast (B := 10 ^ 61) (S := 3000) (by decide +kernel) (by decide) 9 5 x (by decide) hx
    simp [bindG]
    refine gives_call1 hv fun _ => ?_
    cases v with
    | true =>
      simp
      exact ⟨fun z hz => hr z (List.mem_cons_of_mem _ hz), ha⟩
    | false =>
      simp
      refine gives_call1 (r_right hx) fun _ => ?_
      simp
      refine ⟨fun z hz => hr z (List.mem_cons_of_mem _ hz), fun z hz => ?_⟩
      rcases List.mem_append.mp hz with h | h
      · exact ha z h
      · simpa using h
  · obtain ⟨rfl, hr, ha⟩ := I
    simp [shp_trues ha, no_false ha]
    exact lw_e hf hb q
theorem lw_c {x3 x4 : Option D} (hl : l.length ≤ 150) (hT : ∀ x ∈ l, Thg x) (hf : Fd b xs) (hb : b + 800 < Lim) (q : ∀ h, Q (.bool true, false) h) :
    Ok (exec PG (CN 15) lwC [some (.s sc), some (.r 0), some (.p (.list l)), x3, x4] [.lst xs]) (Fin 0 Q) := by
  unfold lwC
  refine ok_then ?_
  simp
  refine draw_one (many := 4) (g_draw T) (by decide) (by decide) hf (by omega) fun n ys1 fl1 hn fd1 => ?_
  by_cases h0 : n = 0
  · subst h0
    simp
    refine draws_one0 (g_great (k := 12)) fd1 (by omega) fun v ys2 fl2 hv fd2 => ?_
    obtain ⟨m, rfl, hm, hM⟩ := hv
    have s1 : ∀ o : Option PyData, szO (l.length + m.length) o = o := fun o => szO_ok (by omega)
    simp [s1]
    refine lw_d (by simp; omega) (fun z hz => ?_) fd2 (by omega) q
    rcases List.mem_append.mp hz with h | h
    · exact hT z h
    · exact hM z h
  · have h1 : ¬ (n : Int) = 0 := by omega
    simp [h0]
    exact lw_d (by omega) hT fd1 (by omega) q
theorem plain (ns : List Int) (_ : ns.length ≤ 63) (_ : ∀ z ∈ ns, Builtin.Int.intBits z ≤ 1048576) : ∃ b h', callN PG fns 16 24 [.s (ns.map .int)] [] = .ok (.bool true, b) h' := by
  have w : Ok (CN (15 + 1) 24 [.s (ns.map .int)] []) fun v h => v = (.bool true, false) := by
    rw [at0 (show fns[24]? = some ⟨1, 5, lwS⟩ from rfl)]
    refine ok_run rfl ?_
    unfold lwS
    refine ok_then ?_
    simp
    refine ok_callS ?_
    rw [at0 (show fns[7]? = some ⟨1, 1, feedS⟩ from rfl)]
    refine feed_ok fun xs hf => ?_
    simp
    unfold lwA
    refine ok_then ?_
    simp
    refine ok_call0 [] (okH_ok hand_ok fun l fl h hT hl => ?_)
    simp
    unfold lwB
    refine ok_then ?_
    simp
    refine ok_forE (fun j ρ h => ∃ l x3 ys, ρ = [some (.s (ns.map .int)), some (.r 0), some (.p (.list l)), x3, none] ∧ h = [.lst ys] ∧ Fd (j * 170) ys ∧ l.length ≤ 100 + 13 * j ∧ ∀ x ∈ l, Thg x)
      ⟨l, none, xs, rfl, rfl, hf.mono (by omega), by omega, hT⟩ (fun j z ρ h hj hz I => ?_) (fun ρ h I => ?_)
    · obtain ⟨l, x3, ys, rfl, rfl, fd, hl, hT⟩ := I
      have hj2 : j < 2 := by simpa [rangeL] using hj
      simp [bindG]
      refine draws_one0 (g_things (k := 4)) fd (by unfold Lim; omega) fun v ys2 fl2 hv fd2 => ?_
      obtain ⟨m, rfl, hm, hM⟩ := hv
      have s1 : ∀ o : Option PyData, szO (l.length + m.length) o = o := fun o => szO_ok (by omega)
      simp [s1]
      refine ⟨fd2.mono (by omega), by omega, fun z hz => ?_⟩
      rcases hz with h | h
      · exact hT z h
      · exact hM z h
    · obtain ⟨l, x3, ys, rfl, rfl, fd, hl, hT⟩ := I
      have e : (rangeL 0 2).length = 2 := rfl
      rw [e] at fd hl
      exact lw_c (by omega) hT fd (by unfold Lim; omega) fun h => rfl
  obtain ⟨v, h, e, rfl⟩ := w
  exact ⟨_, _, e⟩
end
end K04

namespace K04
open PySem PySem.Spec PyProof.Rows L2 Px
def topS (i : Nat) : Stmt := PySem.Challenge.pw_stepforms_k04_what_is_a_table.main.body.getD i (.Pass ⟨0, 0, 0, 0⟩)
abbrev s0 : Stmt := topS 1
abbrev s1 : Stmt := topS 3
abbrev s2 : Stmt := topS 4
abbrev s3 : Stmt := topS 5
abbrev s4 : Stmt := topS 6
abbrev s5 : Stmt := topS 7
abbrev s6 : Stmt := topS 8
abbrev s7 : Stmt := topS 10
abbrev s8 : Stmt := topS 11
abbrev s9 : Stmt := topS 12
abbrev s10 : Stmt := topS 13
abbrev s11 : Stmt := topS 14
abbrev s12 : Stmt := topS 15
abbrev s13 : Stmt := topS 16
abbrev s14 : Stmt := topS 17
abbrev s15 : Stmt := topS 18
abbrev s16 : Stmt := topS 19
abbrev s17 : Stmt := topS 20
abbrev s18 : Stmt := topS 21
abbrev s19 : Stmt := topS 22
abbrev s20 : Stmt := topS 23
abbrev s21 : Stmt := topS 24
abbrev s22 : Stmt := topS 25
abbrev s23 : Stmt := topS 26
abbrev s24 : Stmt := topS 27
def Ds : List Df := [⟨"is_whole", s0, ["thing"], ["thing"], ⟨1, 1, f_is_whole⟩⟩,
  ⟨"is_row", s1, ["wide", "thing", "one"], ["wide", "thing"], ⟨2, 3, f_is_row⟩⟩,
  ⟨"is_table", s2, ["thing", "row"], ["thing"], ⟨1, 2, f_is_table⟩⟩,
  ⟨"unit_row", s3, ["n", "at", "k"], ["n", "at"], ⟨2, 3, f_unit_row⟩⟩,
  ⟨"unit", s4, ["n", "k"], ["n"], ⟨1, 2, f_unit⟩⟩,
  ⟨"is_square", s5, ["table"], ["table"], ⟨1, 1, f_is_square⟩⟩,
  ⟨"is_unit", s6, ["thing"], ["thing"], ⟨1, 1, f_is_unit⟩⟩,
  ⟨"_law_feed", s7, ["_law_script"], ["_law_script"], ⟨1, 1, f__law_feed⟩⟩,
  ⟨"_law_draw", s8, ["_law_feed_here", "_law_many", "_law_found", "_law_cell", "_law_mixed"], ["_law_feed_here", "_law_many"], ⟨2, 5, f__law_draw⟩⟩,
  ⟨"_law_number", s9, ["_law_feed_here", "_law_way"], ["_law_feed_here"], ⟨1, 2, f__law_number⟩⟩,
  ⟨"_law_rows", s10, ["_law_feed_here", "_law_many", "_law_wide", "_law_rows_here", "_law_k", "_law_way", "_law_row", "_law_j", "_law_number_here"], ["_law_feed_here", "_law_many", "_law_wide"], ⟨3, 9, f__law_rows⟩⟩,
  ⟨"_law_table", s11, ["_law_feed_here", "_law_many", "_law_wide"], ["_law_feed_here", "_law_many", "_law_wide"], ⟨3, 3, f__law_table⟩⟩,
  ⟨"_law_odd", s12, ["_law_feed_here", "_law_some"], ["_law_feed_here"], ⟨1, 2, f__law_odd⟩⟩,
  ⟨"_law_bent", s13, ["_law_feed_here", "_law_thing", "_law_at", "_law_way", "_law_more", "_law_some"], ["_law_feed_here", "_law_thing"], ⟨2, 6, f__law_bent⟩⟩,
  ⟨"_law_is_row", s14, ["_law_wide", "_law_thing", "_law_one"], ["_law_wide", "_law_thing"], ⟨2, 3, f__law_is_row⟩⟩,
  ⟨"_law_is_table", s15, ["_law_thing", "_law_row"], ["_law_thing"], ⟨1, 2, f__law_is_table⟩⟩,
  ⟨"_law_is_unit", s16, ["_law_thing", "_law_i", "_law_j"], ["_law_thing"], ⟨1, 3, f__law_is_unit⟩⟩,
  ⟨"_law_unit", s17, ["_law_n", "_law_i", "_law_j"], ["_law_n"], ⟨1, 3, f__law_unit⟩⟩,
  ⟨"_law_by_hand", s18, ["_law_some"], [], ⟨0, 1, f__law_by_hand⟩⟩,
  ⟨"_law_great_ones", s19, ["_law_feed_here", "_law_fifty", "_law_long", "_law_some", "_law_far", "_law_i", "_law_j", "_law_row"], ["_law_feed_here"], ⟨1, 8, f__law_great_ones⟩⟩,
  ⟨"_law_things", s20, ["_law_feed_here", "_law_table_here", "_law_n", "_law_whole", "_law_found", "_law_thing", "_law_bent_here"], ["_law_feed_here"], ⟨1, 7, f__law_things⟩⟩,
  ⟨"_law_right", s21, ["_law_thing", "_law_kept", "_law_due", "_law_turn"], ["_law_thing"], ⟨1, 4, f__law_right⟩⟩,
  ⟨"_law_row_right", s22, ["_law_feed_here", "_law_wide", "_law_row", "_law_thing", "_law_many", "_law_k"], ["_law_feed_here"], ⟨1, 6, f__law_row_right⟩⟩,
  ⟨"_law_is_vast", s23, ["_law_thing", "_law_one"], ["_law_thing"], ⟨1, 2, f__law_is_vast⟩⟩,
  ⟨"law", s24, ["_law_script", "_law_feed_here", "_law_things_here", "_law_k", "_law_thing"], ["_law_script"], ⟨1, 5, f_law⟩⟩]
theorem ds_fns : Ds.map (·.fn) = fns := rfl
theorem ds_ok : Ds.all (dfB (Ds.map (·.x)) [] []) = true := by decide +kernel
theorem ds_lam : Ds.all (fun d => !(lamNames.contains d.x) || ([] : List Str).contains d.x) = true := by decide +kernel
theorem all_mk {K : PySem.W.Frag} {w : World} {h : Heap} {mg : Str → Option Value} {fl f0 f1 f2 f3 f4 f5 f6 f7 f8 f9 f10 f11 f12 f13 f14 f15 f16 f17 f18 f19 f20 f21 f22 f23 f24 : Addr} (X : K.In h) (G : h.Ns mainGlobals mg) (hfl : mg "law" = some (.ref fl))
    {od0 an0 od1 an1 od2 an2 od3 an3 od4 an4 od5 an5 od6 an6 od7 an7 od8 an8 od9 an9 od10 an10 od11 an11 od12 an12 od13 an13 od14 an14 od15 an15 od16 an16 od17 an17 od18 an18 od19 an19 od20 an20 od21 an21 od22 an22 od23 an23 od24 an24 : Option Addr} {sl0 sl1 sl2 sl3 sl4 sl5 sl6 sl7 sl8 sl9 sl10 sl11 sl12 sl13 sl14 sl15 sl16 sl17 sl18 sl19 sl20 sl21 sl22 sl23 sl24 : Array (Option Value)} {oc0 kV0 dc0 pm0 cd0 ct0 oc1 kV1 dc1 pm1 cd1 ct1 oc2 kV2 dc2 pm2 cd2 ct2 oc3 kV3 dc3 pm3 cd3 ct3 oc4 kV4 dc4 pm4 cd4 ct4 oc5 kV5 dc5 pm5 cd5 ct5 oc6 kV6 dc6 pm6 cd6 ct6 oc7 kV7 dc7 pm7 cd7 ct7 oc8 kV8 dc8 pm8 cd8 ct8 oc9 kV9 dc9 pm9 cd9 ct9 oc10 kV10 dc10 pm10 cd10 ct10 oc11 kV11 dc11 pm11 cd11 ct11 oc12 kV12 dc12 pm12 cd12 ct12 oc13 kV13 dc13 pm13 cd13 ct13 oc14 kV14 dc14 pm14 cd14 ct14 oc15 kV15 dc15 pm15 cd15 ct15 oc16 kV16 dc16 pm16 cd16 ct16 oc17 kV17 dc17 pm17 cd17 ct17 oc18 kV18 dc18 pm18 cd18 ct18 oc19 kV19 dc19 pm19 cd19 ct19 oc20 kV20 dc20 pm20 cd20 ct20 oc21 kV21 dc21 pm21 cd21 ct21 oc22 kV22 dc22 pm22 cd22 ct22 oc23 kV23 dc23 pm23 cd23 ct23 oc24 kV24 dc24 pm24 cd24 ct24 : Value}
    (a0 : PySem.W.nsIn K mainGlobals "is_whole" = some (some (.ref f0))) (l0 : K.lookup f0 = some ⟨oc0, od0, .func (PySem.W.fnOf "is_whole" "is_whole" (defArgs s0) (defBody s0) (defScope s0) .none kV0 dc0 pm0 an0 cd0 ct0), sl0⟩) (c0 : PySem.W.codeIn K cd0 "is_whole" = true) (k0 : PySem.W.keepIn K (.ref f0) = true)
    (a1 : PySem.W.nsIn K mainGlobals "is_row" = some (some (.ref f1))) (l1 : K.lookup f1 = some ⟨oc1, od1, .func (PySem.W.fnOf "is_row" "is_row" (defArgs s1) (defBody s1) (defScope s1) .none kV1 dc1 pm1 an1 cd1 ct1), sl1⟩) (c1 : PySem.W.codeIn K cd1 "is_row" = true) (k1 : PySem.W.keepIn K (.ref f1) = true)
    (a2 : PySem.W.nsIn K mainGlobals "is_table" = some (some (.ref f2))) (l2 : K.lookup f2 = some ⟨oc2, od2, .func (PySem.W.fnOf "is_table" "is_table" (defArgs s2) (defBody s2) (defScope s2) .none kV2 dc2 pm2 an2 cd2 ct2), sl2⟩) (c2 : PySem.W.codeIn K cd2 "is_table" = true) (k2 : PySem.W.keepIn K (.ref f2) = true)
    (a3 : PySem.W.nsIn K mainGlobals "unit_row" = some (some (.ref f3))) (l3 : K.lookup f3 = some ⟨oc3, od3, .func (PySem.W.fnOf "unit_row" "unit_row" (defArgs s3) (defBody s3) (defScope s3) .none kV3 dc3 pm3 an3 cd3 ct3), sl3⟩) (c3 : PySem.W.codeIn K cd3 "unit_row" = true) (k3 : PySem.W.keepIn K (.ref f3) = true)
    (a4 : PySem.W.nsIn K mainGlobals "unit" = some (some (.ref f4))) (l4 : K.lookup f4 = some ⟨oc4, od4, .func (PySem.W.fnOf "unit" "unit" (defArgs s4) (defBody s4) (defScope s4) .none kV4 dc4 pm4 an4 cd4 ct4), sl4⟩) (c4 : PySem.W.codeIn K cd4 "unit" = true) (k4 : PySem.W.keepIn K (.ref f4) = true)
    (a5 : PySem.W.nsIn K mainGlobals "is_square" = some (some (.ref f5))) (l5 : K.lookup f5 = some ⟨oc5, od5, .func (PySem.W.fnOf "is_square" "is_square" (defArgs s5) (defBody s5) (defScope s5) .none kV5 dc5 pm5 an5 cd5 ct5), sl5⟩) (c5 : PySem.W.codeIn K cd5 "is_square" = true) (k5 : PySem.W.keepIn K (.ref f5) = true)
    (a6 : PySem.W.nsIn K mainGlobals "is_unit" = some (some (.ref f6))) (l6 : K.lookup f6 = some ⟨oc6, od6, .func (PySem.W.fnOf "is_unit" "is_unit" (defArgs s6) (defBody s6) (defScope s6) .none kV6 dc6 pm6 an6 cd6 ct6), sl6⟩) (c6 : PySem.W.codeIn K cd6 "is_unit" = true) (k6 : PySem.W.keepIn K (.ref f6) = true)
    (a7 : PySem.W.nsIn K mainGlobals "_law_feed" = some (some (.ref f7))) (l7 : K.lookup f7 = some ⟨oc7, od7, .func (PySem.W.fnOf "_law_feed" "_law_feed" (defArgs s7) (defBody s7) (defScope s7) .none kV7 dc7 pm7 an7 cd7 ct7), sl7⟩) (c7 : PySem.W.codeIn K cd7 "_law_feed" = true) (k7 : PySem.W.keepIn K (.ref f7) = true)
    (a8 : PySem.W.nsIn K mainGlobals "_law_draw" = some (some (.ref f8))) (l8 : K.lookup f8 = some ⟨oc8, od8, .func (PySem.W.fnOf "_law_draw" "_law_draw" (defArgs s8) (defBody s8) (defScope s8) .none kV8 dc8 pm8 an8 cd8 ct8), sl8⟩) (c8 : PySem.W.codeIn K cd8 "_law_draw" = true) (k8 : PySem.W.keepIn K (.ref f8) = true)
    (a9 : PySem.W.nsIn K mainGlobals "_law_number" = some (some (.ref f9))) (l9 : K.lookup f9 = some ⟨oc9, od9, .func (PySem.W.fnOf "_law_number" "_law_number" (defArgs s9) (defBody s9) (defScope s9) .none kV9 dc9 pm9 an9 cd9 ct9), sl9⟩) (c9 : PySem.W.codeIn K cd9 "_law_number" = true) (k9 : PySem.W.keepIn K (.ref f9) = true)
    (a10 : PySem.W.nsIn K mainGlobals "_law_rows" = some (some (.ref f10))) (l10 : K.lookup f10 = some ⟨oc10, od10, .func (PySem.W.fnOf "_law_rows" "_law_rows" (defArgs s10) (defBody s10) (defScope s10) .none kV10 dc10 pm10 an10 cd10 ct10), sl10⟩) (c10 : PySem.W.codeIn K cd10 "_law_rows" = true) (k10 : PySem.W.keepIn K (.ref f10) = true)
    (a11 : PySem.W.nsIn K mainGlobals "_law_table" = some (some (.ref f11))) (l11 : K.lookup f11 = some ⟨oc11, od11, .func (PySem.W.fnOf "_law_table" "_law_table" (defArgs s11) (defBody s11) (defScope s11) .none kV11 dc11 pm11 an11 cd11 ct11), sl11⟩) (c11 : PySem.W.codeIn K cd11 "_law_table" = true) (k11 : PySem.W.keepIn K (.ref f11) = true)
    (a12 : PySem.W.nsIn K mainGlobals "_law_odd" = some (some (.ref f12))) (l12 : K.lookup f12 = some ⟨oc12, od12, .func (PySem.W.fnOf "_law_odd" "_law_odd" (defArgs s12) (defBody s12) (defScope s12) .none kV12 dc12 pm12 an12 cd12 ct12), sl12⟩) (c12 : PySem.W.codeIn K cd12 "_law_odd" = true) (k12 : PySem.W.keepIn K (.ref f12) = true)
    (a13 : PySem.W.nsIn K mainGlobals "_law_bent" = some (some (.ref f13))) (l13 : K.lookup f13 = some ⟨oc13, od13, .func (PySem.W.fnOf "_law_bent" "_law_bent" (defArgs s13) (defBody s13) (defScope s13) .none kV13 dc13 pm13 an13 cd13 ct13), sl13⟩) (c13 : PySem.W.codeIn K cd13 "_law_bent" = true) (k13 : PySem.W.keepIn K (.ref f13) = true)
    (a14 : PySem.W.nsIn K mainGlobals "_law_is_row" = some (some (.ref f14))) (l14 : K.lookup f14 = some ⟨oc14, od14, .func (PySem.W.fnOf "_law_is_row" "_law_is_row" (defArgs s14) (defBody s14) (defScope s14) .none kV14 dc14 pm14 an14 cd14 ct14), sl14⟩) (c14 : PySem.W.codeIn K cd14 "_law_is_row" = true) (k14 : PySem.W.keepIn K (.ref f14) = true)
    (a15 : PySem.W.nsIn K mainGlobals "_law_is_table" = some (some (.ref f15))) (l15 : K.lookup f15 = some ⟨oc15, od15, .func (PySem.W.fnOf "_law_is_table" "_law_is_table" (defArgs s15) (defBody s15) (defScope s15) .none kV15 dc15 pm15 an15 cd15 ct15), sl15⟩) (c15 : PySem.W.codeIn K cd15 "_law_is_table" = true) (k15 : PySem.W.keepIn K (.ref f15) = true)
    (a16 : PySem.W.nsIn K mainGlobals "_law_is_unit" = some (some (.ref f16))) (l16 : K.lookup f16 = some ⟨oc16, od16, .func (PySem.W.fnOf "_law_is_unit" "_law_is_unit" (defArgs s16) (defBody s16) (defScope s16) .none kV16 dc16 pm16 an16 cd16 ct16), sl16⟩) (c16 : PySem.W.codeIn K cd16 "_law_is_unit" = true) (k16 : PySem.W.keepIn K (.ref f16) = true)
    (a17 : PySem.W.nsIn K mainGlobals "_law_unit" = some (some (.ref f17))) (l17 : K.lookup f17 = some ⟨oc17, od17, .func (PySem.W.fnOf "_law_unit" "_law_unit" (defArgs s17) (defBody s17) (defScope s17) .none kV17 dc17 pm17 an17 cd17 ct17), sl17⟩) (c17 : PySem.W.codeIn K cd17 "_law_unit" = true) (k17 : PySem.W.keepIn K (.ref f17) = true)
    (a18 : PySem.W.nsIn K mainGlobals "_law_by_hand" = some (some (.ref f18))) (l18 : K.lookup f18 = some ⟨oc18, od18, .func (PySem.W.fnOf "_law_by_hand" "_law_by_hand" (defArgs s18) (defBody s18) (defScope s18) .none kV18 dc18 pm18 an18 cd18 ct18), sl18⟩) (c18 : PySem.W.codeIn K cd18 "_law_by_hand" = true) (k18 : PySem.W.keepIn K (.ref f18) = true)
    (a19 : PySem.W.nsIn K mainGlobals "_law_great_ones" = some (some (.ref f19))) (l19 : K.lookup f19 = some ⟨oc19, od19, .func (PySem.W.fnOf "_law_great_ones" "_law_great_ones" (defArgs s19) (defBody s19) (defScope s19) .none kV19 dc19 pm19 an19 cd19 ct19), sl19⟩) (c19 : PySem.W.codeIn K cd19 "_law_great_ones" = true) (k19 : PySem.W.keepIn K (.ref f19) = true)
    (a20 : PySem.W.nsIn K mainGlobals "_law_things" = some (some (.ref f20))) (l20 : K.lookup f20 = some ⟨oc20, od20, .func (PySem.W.fnOf "_law_things" "_law_things" (defArgs s20) (defBody s20) (defScope s20) .none kV20 dc20 pm20 an20 cd20 ct20), sl20⟩) (c20 : PySem.W.codeIn K cd20 "_law_things" = true) (k20 : PySem.W.keepIn K (.ref f20) = true)
    (a21 : PySem.W.nsIn K mainGlobals "_law_right" = some (some (.ref f21))) (l21 : K.lookup f21 = some ⟨oc21, od21, .func (PySem.W.fnOf "_law_right" "_law_right" (defArgs s21) (defBody s21) (defScope s21) .none kV21 dc21 pm21 an21 cd21 ct21), sl21⟩) (c21 : PySem.W.codeIn K cd21 "_law_right" = true) (k21 : PySem.W.keepIn K (.ref f21) = true)
    (a22 : PySem.W.nsIn K mainGlobals "_law_row_right" = some (some (.ref f22))) (l22 : K.lookup f22 = some ⟨oc22, od22, .func (PySem.W.fnOf "_law_row_right" "_law_row_right" (defArgs s22) (defBody s22) (defScope s22) .none kV22 dc22 pm22 an22 cd22 ct22), sl22⟩) (c22 : PySem.W.codeIn K cd22 "_law_row_right" = true) (k22 : PySem.W.keepIn K (.ref f22) = true)
    (a23 : PySem.W.nsIn K mainGlobals "_law_is_vast" = some (some (.ref f23))) (l23 : K.lookup f23 = some ⟨oc23, od23, .func (PySem.W.fnOf "_law_is_vast" "_law_is_vast" (defArgs s23) (defBody s23) (defScope s23) .none kV23 dc23 pm23 an23 cd23 ct23), sl23⟩) (c23 : PySem.W.codeIn K cd23 "_law_is_vast" = true) (k23 : PySem.W.keepIn K (.ref f23) = true)
    (a24 : PySem.W.nsIn K mainGlobals "law" = some (some (.ref f24))) (l24 : K.lookup f24 = some ⟨oc24, od24, .func (PySem.W.fnOf "law" "law" (defArgs s24) (defBody s24) (defScope s24) .none kV24 dc24 pm24 an24 cd24 ct24), sl24⟩) (c24 : PySem.W.codeIn K cd24 "law" = true) (k24 : PySem.W.keepIn K (.ref f24) = true)
    (z0 : PySem.W.nsIn K mainGlobals "len" = some none)
    (z1 : PySem.W.nsIn K mainGlobals "abs" = some none)
    (z2 : PySem.W.nsIn K mainGlobals "max" = some none)
    (z3 : PySem.W.nsIn K mainGlobals "min" = some none)
    (z4 : PySem.W.nsIn K mainGlobals "sum" = some none)
    (z5 : PySem.W.nsIn K mainGlobals "all" = some none)
    (z6 : PySem.W.nsIn K mainGlobals "any" = some none)
    (z7 : PySem.W.nsIn K mainGlobals "int" = some none)
    (z8 : PySem.W.nsIn K mainGlobals "str" = some none)
    (z9 : PySem.W.nsIn K mainGlobals "repr" = some none)
    (z10 : PySem.W.nsIn K mainGlobals "tuple" = some none)
    (z11 : PySem.W.nsIn K mainGlobals "list" = some none)
    (z12 : PySem.W.nsIn K mainGlobals "isinstance" = some none)
    (z13 : PySem.W.nsIn K mainGlobals "bool" = some none)
    (z14 : PySem.W.nsIn K mainGlobals "range" = some none)
    (z15 : PySem.W.nsIn K mainGlobals "zip" = some none)
    (z16 : PySem.W.nsIn K mainGlobals "enumerate" = some none)
    (z17 : PySem.W.nsIn K mainGlobals "sorted" = some none)
    (z18 : PySem.W.nsIn K mainGlobals "reversed" = some none)
    (tl : ([] : List Str).all (fun x => (PySem.W.tabIn K x).isSome) = true) (tu : tuB K = true)
    : ∃ fa, Top K w mg Ds PG [] [] fa ∧ fa 24 = fl := by
  have e := hfl.symm.trans (PySem.W.mg_of X G a24)
  cases e
  refine ⟨fun i => [f0, f1, f2, f3, f4, f5, f6, f7, f8, f9, f10, f11, f12, f13, f14, f15, f16, f17, f18, f19, f20, f21, f22, f23, fl].getD i fl, ⟨top_of (.cons ?_ (.cons ?_ (.cons ?_ (.cons ?_ (.cons ?_ (.cons ?_ (.cons ?_ (.cons ?_ (.cons ?_ (.cons ?_ (.cons ?_ (.cons ?_ (.cons ?_ (.cons ?_ (.cons ?_ (.cons ?_ (.cons ?_ (.cons ?_ (.cons ?_ (.cons ?_ (.cons ?_ (.cons ?_ (.cons ?_ (.cons ?_ (.cons ?_ .nil))))))))))))))))))))))))), noneAt ⟨PySem.W.mg_none_of X G z0, PySem.W.mg_none_of X G z1, PySem.W.mg_none_of X G z2, PySem.W.mg_none_of X G z3, PySem.W.mg_none_of X G z4, PySem.W.mg_none_of X G z5, PySem.W.mg_none_of X G z6, PySem.W.mg_none_of X G z7, PySem.W.mg_none_of X G z8, PySem.W.mg_none_of X G z9, PySem.W.mg_none_of X G z10, PySem.W.mg_none_of X G z11, PySem.W.mg_none_of X G z12, PySem.W.mg_none_of X G z13, PySem.W.mg_none_of X G z14, PySem.W.mg_none_of X G z15, PySem.W.mg_none_of X G z16, PySem.W.mg_none_of X G z17, PySem.W.mg_none_of X G z18, trivial⟩, fun g d x e => (by simp [PG] at e), fun g d x e => (by simp [PG] at e), ds_ok, lam_of ds_lam tl, tu_of tu⟩, rfl⟩
  · exact piece (fun_mk (st := s0) l0 c0 k0) (PySem.W.mg_of X G a0) fun _ _ _ _ _ _ us hl => match us, hl with | [_], _ => rfl
  · exact piece (fun_mk (st := s1) l1 c1 k1) (PySem.W.mg_of X G a1) fun _ _ _ _ _ _ us hl => match us, hl with | [_, _], _ => rfl
  · exact piece (fun_mk (st := s2) l2 c2 k2) (PySem.W.mg_of X G a2) fun _ _ _ _ _ _ us hl => match us, hl with | [_], _ => rfl
  · exact piece (fun_mk (st := s3) l3 c3 k3) (PySem.W.mg_of X G a3) fun _ _ _ _ _ _ us hl => match us, hl with | [_, _], _ => rfl
  · exact piece (fun_mk (st := s4) l4 c4 k4) (PySem.W.mg_of X G a4) fun _ _ _ _ _ _ us hl => match us, hl with | [_], _ => rfl
  · exact piece (fun_mk (st := s5) l5 c5 k5) (PySem.W.mg_of X G a5) fun _ _ _ _ _ _ us hl => match us, hl with | [_], _ => rfl
  · exact piece (fun_mk (st := s6) l6 c6 k6) (PySem.W.mg_of X G a6) fun _ _ _ _ _ _ us hl => match us, hl with | [_], _ => rfl
  · exact piece (fun_mk (st := s7) l7 c7 k7) (PySem.W.mg_of X G a7) fun _ _ _ _ _ _ us hl => match us, hl with | [_], _ => rfl
  · exact piece (fun_mk (st := s8) l8 c8 k8) (PySem.W.mg_of X G a8) fun _ _ _ _ _ _ us hl => match us, hl with | [_, _], _ => rfl
  · exact piece (fun_mk (st := s9) l9 c9 k9) (PySem.W.mg_of X G a9) fun _ _ _ _ _ _ us hl => match us, hl with | [_], _ => rfl
  · exact piece (fun_mk (st := s10) l10 c10 k10) (PySem.W.mg_of X G a10) fun _ _ _ _ _ _ us hl => match us, hl with | [_, _, _], _ => rfl
  · exact piece (fun_mk (st := s11) l11 c11 k11) (PySem.W.mg_of X G a11) fun _ _ _ _ _ _ us hl => match us, hl with | [_, _, _], _ => rfl
  · exact piece (fun_mk (st := s12) l12 c12 k12) (PySem.W.mg_of X G a12) fun _ _ _ _ _ _ us hl => match us, hl with | [_], _ => rfl
  · exact piece (fun_mk (st := s13) l13 c13 k13) (PySem.W.mg_of X G a13) fun _ _ _ _ _ _ us hl => match us, hl with | [_, _], _ => rfl
  · exact piece (fun_mk (st := s14) l14 c14 k14) (PySem.W.mg_of X G a14) fun _ _ _ _ _ _ us hl => match us, hl with | [_, _], _ => rfl
  · exact piece (fun_mk (st := s15) l15 c15 k15) (PySem.W.mg_of X G a15) fun _ _ _ _ _ _ us hl => match us, hl with | [_], _ => rfl
  · exact piece (fun_mk (st := s16) l16 c16 k16) (PySem.W.mg_of X G a16) fun _ _ _ _ _ _ us hl => match us, hl with | [_], _ => rfl
  · exact piece (fun_mk (st := s17) l17 c17 k17) (PySem.W.mg_of X G a17) fun _ _ _ _ _ _ us hl => match us, hl with | [_], _ => rfl
  · exact piece (fun_mk (st := s18) l18 c18 k18) (PySem.W.mg_of X G a18) fun _ _ _ _ _ _ us hl => match us, hl with | [], _ => rfl
  · exact piece (fun_mk (st := s19) l19 c19 k19) (PySem.W.mg_of X G a19) fun _ _ _ _ _ _ us hl => match us, hl with | [_], _ => rfl
  · exact piece (fun_mk (st := s20) l20 c20 k20) (PySem.W.mg_of X G a20) fun _ _ _ _ _ _ us hl => match us, hl with | [_], _ => rfl
  · exact piece (fun_mk (st := s21) l21 c21 k21) (PySem.W.mg_of X G a21) fun _ _ _ _ _ _ us hl => match us, hl with | [_], _ => rfl
  · exact piece (fun_mk (st := s22) l22 c22 k22) (PySem.W.mg_of X G a22) fun _ _ _ _ _ _ us hl => match us, hl with | [_], _ => rfl
  · exact piece (fun_mk (st := s23) l23 c23 k23) (PySem.W.mg_of X G a23) fun _ _ _ _ _ _ us hl => match us, hl with | [_], _ => rfl
  · exact piece (fun_mk (st := s24) l24 c24 k24) (PySem.W.mg_of X G a24) fun _ _ _ _ _ _ us hl => match us, hl with | [_], _ => rfl
end K04
open PySem PySem.W PyProof.Rows
set_option maxHeartbeats 0 in
theorem PySem.Challenge.cw_stepforms_k04_what_is_a_table_holds : PySem.Challenge.rw_stepforms_k04_what_is_a_table.Holds := by
  w_on; o_law; k_head; (case hw => w_witness2)
  k_fill
  refine Px.walk (l := PySem.Challenge.rw_stepforms_k04_what_is_a_table) (Ds := K04.Ds) (gl := K04.PG) (gls := []) (dss := []) (k := 16) (i := 24) rfl rfl ⟨rfl, by decide, by decide⟩ (by decide) (fun w h Y => PySem.W.kIn_of Y) ?hT ?T K04.plain
  case hT => exact fun w h _ _ => Px.no_lam (by kernel_rfl)
  case T =>
    intro w mg f0 h KX G hmg
    refine' K04.all_mk KX G hmg ?a0 ?l0 ?c0 ?k0 ?a1 ?l1 ?c1 ?k1 ?a2 ?l2 ?c2 ?k2 ?a3 ?l3 ?c3 ?k3 ?a4 ?l4 ?c4 ?k4 ?a5 ?l5 ?c5 ?k5 ?a6 ?l6 ?c6 ?k6 ?a7 ?l7 ?c7 ?k7 ?a8 ?l8 ?c8 ?k8 ?a9 ?l9 ?c9 ?k9 ?a10 ?l10 ?c10 ?k10 ?a11 ?l11 ?c11 ?k11 ?a12 ?l12 ?c12 ?k12 ?a13 ?l13 ?c13 ?k13 ?a14 ?l14 ?c14 ?k14 ?a15 ?l15 ?c15 ?k15 ?a16 ?l16 ?c16 ?k16 ?a17 ?l17 ?c17 ?k17 ?a18 ?l18 ?c18 ?k18 ?a19 ?l19 ?c19 ?k19 ?a20 ?l20 ?c20 ?k20 ?a21 ?l21 ?c21 ?k21 ?a22 ?l22 ?c22 ?k22 ?a23 ?l23 ?c23 ?k23 ?a24 ?l24 ?c24 ?k24 ?z0 ?z1 ?z2 ?z3 ?z4 ?z5 ?z6 ?z7 ?z8 ?z9 ?z10 ?z11 ?z12 ?z13 ?z14 ?z15 ?z16 ?z17 ?z18 ?tl ?tu
    (case a0 => k_is); (case l0 => k_is); (case c0 => k_is); (case k0 => k_is); (case a1 => k_is); (case l1 => k_is); (case c1 => k_is); (case k1 => k_is); (case a2 => k_is); (case l2 => k_is); (case c2 => k_is); (case k2 => k_is); (case a3 => k_is); (case l3 => k_is); (case c3 => k_is); (case k3 => k_is); (case a4 => k_is); (case l4 => k_is); (case c4 => k_is); (case k4 => k_is); (case a5 => k_is); (case l5 => k_is); (case c5 => k_is); (case k5 => k_is); (case a6 => k_is); (case l6 => k_is); (case c6 => k_is); (case k6 => k_is); (case a7 => k_is); (case l7 => k_is); (case c7 => k_is); (case k7 => k_is); (case a8 => k_is); (case l8 => k_is); (case c8 => k_is); (case k8 => k_is); (case a9 => k_is); (case l9 => k_is); (case c9 => k_is); (case k9 => k_is); (case a10 => k_is); (case l10 => k_is); (case c10 => k_is); (case k10 => k_is); (case a11 => k_is); (case l11 => k_is); (case c11 => k_is); (case k11 => k_is); (case a12 => k_is); (case l12 => k_is); (case c12 => k_is); (case k12 => k_is); (case a13 => k_is); (case l13 => k_is); (case c13 => k_is); (case k13 => k_is); (case a14 => k_is); (case l14 => k_is); (case c14 => k_is); (case k14 => k_is); (case a15 => k_is); (case l15 => k_is); (case c15 => k_is); (case k15 => k_is); (case a16 => k_is); (case l16 => k_is); (case c16 => k_is); (case k16 => k_is); (case a17 => k_is); (case l17 => k_is); (case c17 => k_is); (case k17 => k_is); (case a18 => k_is); (case l18 => k_is); (case c18 => k_is); (case k18 => k_is); (case a19 => k_is); (case l19 => k_is); (case c19 => k_is); (case k19 => k_is); (case a20 => k_is); (case l20 => k_is); (case c20 => k_is); (case k20 => k_is); (case a21 => k_is); (case l21 => k_is); (case c21 => k_is); (case k21 => k_is); (case a22 => k_is); (case l22 => k_is); (case c22 => k_is); (case k22 => k_is); (case a23 => k_is); (case l23 => k_is); (case c23 => k_is); (case k23 => k_is); (case a24 => k_is); (case l24 => k_is); (case c24 => k_is); (case k24 => k_is); (case z0 => k_is); (case z1 => k_is); (case z2 => k_is); (case z3 => k_is); (case z4 => k_is); (case z5 => k_is); (case z6 => k_is); (case z7 => k_is); (case z8 => k_is); (case z9 => k_is); (case z10 => k_is); (case z11 => k_is); (case z12 => k_is); (case z13 => k_is); (case z14 => k_is); (case z15 => k_is); (case z16 => k_is); (case z17 => k_is); (case z18 => k_is); (case tl => first | rfl | kernel_rfl); (case tu => first | rfl | kernel_rfl)

